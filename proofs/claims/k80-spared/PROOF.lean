import PyProof.Rows.All
import Wide.All
import OpenK.AllK
import Wide.FinOn
import HandS.ForMost
import HandS.TupAny
import HandS.Wide
import HandS.Zip
import HandS.IsInst
import KE.SortData
import PyProof.Rows.RuleB_pow
import PyProof.P3In
import PyProof.ReprRoads
import HandS.Deep
import HandS.Ends
import PyProof.ReprLen
import HandS.Text
import HandS.Dict
import HandS.DictComp
import HandS.Conv
import HandS.DictTup
import KE.KDictWalk
import PyProof.DictFindH
import KE.KDictDisplayH
import HandS.Style
import KE.KDictSum
import HandS.TupSets
import HandS.More
import KE.GoesEnum
import KE.KDictPairs
import PyProof.MaxThree
import HandS.Flt
import HandS.TryOnly
import HandS.RaiseMore
import HandS.RevRange
import PySem.Challenge.RW_everlater_k80_whole_spared_lots
import HandS.ExcInit
import HandS.ClsMeth
import HandS.SetFor
import HandS.Strs
set_option Elab.async false
set_option linter.all false
set_option maxRecDepth 100000
set_option maxHeartbeats 4000000
/-! The judge's mathematics: rows, what is peeled off, closed families, how many marks a family wants. -/
namespace Jm
/-- the rows with their marks -/
abbrev Tab := List (List Nat × List Nat)
/-- the parts of row + [m], one mark of the row left out -/
def parts (row : List Nat) (m : Nat) : List (List Nat) := (List.range row.length).map fun i => row.take i ++ row.drop (i + 1) ++ [m]
/-- peeled off -/
inductive Gone (A : Tab) : List Nat → Prop
  | mk {row marks : List Nat} (f : Nat → List Nat) : (row, marks) ∈ A → (∀ m ∈ marks, f m ∈ parts row m) → (∀ m ∈ marks, Gone A (f m)) → Gone A row
/-- a family that feeds itself -/
def Closed (A : Tab) (F : List Nat → Prop) : Prop := ∀ row, F row → ∃ marks, (row, marks) ∈ A ∧ ∃ m ∈ marks, ∀ part ∈ parts row m, F part
/-- one entry for each row -/
def Func (A : Tab) : Prop := ∀ row ms ms', (row, ms) ∈ A → (row, ms') ∈ A → ms = ms'
theorem closed_kept {A : Tab} (hA : Func A) {F : List Nat → Prop} (h : Closed A F) : ∀ {row : List Nat}, Gone A row → ¬ F row := by
  intro row g
  induction g with
  | mk f h1 h2 h3 ih =>
    intro hF
    obtain ⟨marks, e, m, hm, hp⟩ := h _ hF
    have := hA _ _ _ h1 e
    subst this
    exact ih m hm (hp _ (h2 m hm))
/-- what is left: a row in the table whose marks all lead to rows of the table -/
theorem left_step {A : Tab} {row marks : List Nat} (h : (row, marks) ∈ A) (g : ¬ Gone A row) : ∃ m ∈ marks, ∀ part ∈ parts row m, ¬ Gone A part := by
  refine Classical.byContradiction fun hn => g ?_
  have key : ∀ m ∈ marks, ∃ part, part ∈ parts row m ∧ Gone A part := fun m hm => by
    refine Classical.byContradiction fun h2 => hn ⟨m, hm, fun part hp hg => h2 ⟨part, hp, hg⟩⟩
  classical
  refine .mk (fun m => if hm : m ∈ marks then Classical.choose (key m hm) else []) h (fun m hm => ?_) fun m hm => ?_
  · rw [dif_pos hm]; exact (Classical.choose_spec (key m hm)).1
  · rw [dif_pos hm]; exact (Classical.choose_spec (key m hm)).2
/-! ### how many -/
section
variable {α : Type} [DecidableEq α]
/-- the arrows within a list -/
def arrows (rel : α → α → Bool) (xs : List α) : Nat := (xs.map fun v => (xs.filter fun u => rel u v).length).sum
theorem count_cons (rel : α → α → Bool) (x : α) (xs ys : List α) : ((ys.map fun v => ((x :: xs).filter fun u => rel u v).length).sum) = (ys.filter fun v => rel x v).length + (ys.map fun v => (xs.filter fun u => rel u v).length).sum := by
  induction ys with
  | nil => rfl
  | cons y ys ih =>
    rw [List.map_cons, List.sum_cons, ih, List.map_cons, List.sum_cons]
    by_cases h : rel x y = true
    · rw [List.filter_cons_of_pos (by simpa using h), List.filter_cons_of_pos (by simpa using h), List.length_cons, List.length_cons]
      omega
    · rw [List.filter_cons_of_neg (by simpa using h), List.filter_cons_of_neg (by simpa using h)]
      omega
theorem two_ways {rel : α → α → Bool} (asym : ∀ a b, rel a b = true → rel b a = false) (x : α) : ∀ xs : List α, (xs.filter fun v => rel x v).length + (xs.filter fun u => rel u x).length ≤ xs.length
  | [] => Nat.le_refl _
  | y :: ys => by
    have ih := two_ways asym x ys
    by_cases h : rel x y = true
    · have h2 := asym x y h
      rw [List.filter_cons_of_pos (by simpa using h), List.filter_cons_of_neg (by simp [h2]), List.length_cons, List.length_cons]
      omega
    · rw [List.filter_cons_of_neg (by simpa using h)]
      have := List.length_filter_le (fun u => rel u x) [y]
      rw [show y :: ys = [y] ++ ys from rfl, List.filter_append, List.length_append, List.length_append]
      simp only [List.length_cons, List.length_nil] at this ⊢
      omega
theorem arrows_le {rel : α → α → Bool} (irr : ∀ a, rel a a = false) (asym : ∀ a b, rel a b = true → rel b a = false) : ∀ xs : List α, 2 * arrows rel xs ≤ xs.length * (xs.length - 1)
  | [] => Nat.le_refl _
  | x :: xs => by
    have ih := arrows_le irr asym xs
    have h1 := two_ways asym x xs
    have e : arrows rel (x :: xs) = ((xs.filter fun u => rel u x).length) + ((xs.filter fun v => rel x v).length + arrows rel xs) := by
      unfold arrows
      rw [List.map_cons, List.sum_cons, count_cons, List.filter_cons_of_neg (by simp [irr])]
    rw [e, List.length_cons, Nat.add_sub_cancel]
    have : (xs.length + 1) * xs.length = xs.length * (xs.length - 1) + 2 * xs.length := by
      cases xs.length with
      | zero => rfl
      | succ n => rw [Nat.add_sub_cancel, Nat.add_mul, Nat.mul_add]; omega
    rw [this]
    omega
/-- where each has at least d before it, there are at least 2 d + 1 -/
theorem many_of {rel : α → α → Bool} (irr : ∀ a, rel a a = false) (asym : ∀ a b, rel a b = true → rel b a = false) {xs : List α} {d : Nat} (hne : xs ≠ []) (h : ∀ v ∈ xs, d ≤ (xs.filter fun u => rel u v).length) : 2 * d + 1 ≤ xs.length := by
  have h1 := arrows_le irr asym xs
  have h2 : ∀ ys : List α, (∀ v ∈ ys, d ≤ (xs.filter fun u => rel u v).length) → ys.length * d ≤ (ys.map fun v => (xs.filter fun u => rel u v).length).sum := by
    intro ys
    induction ys with
    | nil => intro _; simp
    | cons y ys ih =>
      intro hy
      have a := hy y (by simp)
      have b := ih fun v hv => hy v (List.mem_cons_of_mem _ hv)
      rw [List.map_cons, List.sum_cons, List.length_cons, Nat.add_mul, Nat.one_mul]
      omega
  have h3 : xs.length * d ≤ arrows rel xs := h2 xs h
  have hp : 0 < xs.length := List.length_pos_iff.mpr hne
  have h4 : xs.length * (2 * d) ≤ xs.length * (xs.length - 1) := by
    rw [show xs.length * (2 * d) = 2 * (xs.length * d) by rw [Nat.mul_left_comm]]
    omega
  have := Nat.le_of_mul_le_mul_left h4 hp
  omega
end
theorem len_le_of_sub : ∀ {xs ys : List Nat}, xs.Nodup → (∀ u ∈ xs, u ∈ ys) → xs.length ≤ ys.length
  | [], _, _, _ => Nat.zero_le _
  | x :: xs, ys, hn, h => by
    rw [List.nodup_cons] at hn
    have hx := h x (by simp)
    have ih := len_le_of_sub (ys := ys.erase x) hn.2 fun u hu => by
      have hne : u ≠ x := fun e => hn.1 (e ▸ hu)
      exact (List.mem_erase_of_ne hne).mpr (h u (List.mem_cons_of_mem _ hu))
    rw [List.length_erase_of_mem hx] at ih
    have := List.length_pos_of_mem hx
    rw [List.length_cons]
    omega
/-! ### chains: each mark later than those before it -/
/-- a family of chains of n marks below m that feeds itself -/
structure Cl (lat : Nat → Nat → Bool) (m n : Nat) (F : List Nat → Prop) : Prop where
  len : ∀ row, F row → row.length = n
  low : ∀ row, F row → ∀ v ∈ row, v < m
  chain : ∀ row, F row → row.Pairwise fun a b => lat b a = true
  step : ∀ row, F row → ∃ x, x < m ∧ (∀ v ∈ row, lat x v = true) ∧ ∀ part ∈ parts row x, F part
theorem parts_cons (v : Nat) (r : List Nat) (x : Nat) : parts (v :: r) x = (r ++ [x]) :: (parts r x).map fun p => v :: p := by
  unfold parts
  rw [List.length_cons, List.range_succ_eq_map, List.map_cons, List.map_map, List.map_map]
  rfl
/-- what follows a first mark -/
theorem Cl.tail {lat : Nat → Nat → Bool} {m n : Nat} {F : List Nat → Prop} (c : Cl lat m (n + 1) F) (v : Nat) : Cl lat m n fun r => F (v :: r) := by
  refine ⟨fun r h => ?_, fun r h u hu => c.low _ h u (List.mem_cons_of_mem _ hu), fun r h => (List.pairwise_cons.mp (c.chain _ h)).2, fun r h => ?_⟩
  · have := c.len _ h
    rw [List.length_cons] at this
    omega
  · obtain ⟨x, h1, h2, h3⟩ := c.step _ h
    refine ⟨x, h1, fun u hu => h2 u (List.mem_cons_of_mem _ hu), fun p hp => h3 _ ?_⟩
    rw [parts_cons]
    exact List.mem_cons_of_mem _ (List.mem_map.mpr ⟨p, hp, rfl⟩)
/-- the first marks of a family -/
noncomputable def firsts (m : Nat) (F : List Nat → Prop) : List Nat := (List.range m).filter fun v => @decide (∃ r, F (v :: r)) (Classical.propDecidable _)
theorem mem_firsts {m : Nat} {F : List Nat → Prop} {v : Nat} : v ∈ firsts m F ↔ v < m ∧ ∃ r, F (v :: r) := by
  unfold firsts
  rw [List.mem_filter, List.mem_range, @decide_eq_true_eq _ (Classical.propDecidable _)]
theorem firsts_nodup (m : Nat) (F : List Nat → Prop) : (firsts m F).Nodup := List.Nodup.sublist List.filter_sublist List.nodup_range
theorem firsts_many {lat : Nat → Nat → Bool} (irr : ∀ a, lat a a = false) (asym : ∀ a b, lat a b = true → lat b a = false) {m : Nat} : ∀ (n : Nat) (F : List Nat → Prop), Cl lat m (n + 1) F → (∃ row, F row) → 2 ^ (n + 2) - 1 ≤ (firsts m F).length
  | n, F, c, ⟨row, h⟩ => by
    have hl := c.len row h
    match row, h, hl with
    | [], h, hl => cases hl
    | v0 :: r0, h, hl =>
    have ne : firsts m F ≠ [] := fun e => by
      have : v0 ∈ firsts m F := mem_firsts.mpr ⟨c.low _ h v0 (by simp), r0, h⟩
      rw [e] at this; cases this
    -- what comes next to a first mark is a first mark
    have next : ∀ v r, F (v :: r) → ∃ x, x < m ∧ (∀ u ∈ v :: r, lat x u = true) ∧ F (r ++ [x]) := fun v r h => by
      obtain ⟨x, h1, h2, h3⟩ := c.step _ h
      exact ⟨x, h1, h2, h3 _ (by rw [parts_cons]; exact List.mem_cons_self)⟩
    have key : ∀ v ∈ firsts m F, 2 ^ (n + 1) - 1 ≤ ((firsts m F).filter fun u => lat u v).length := by
      intro v hv
      obtain ⟨hvm, r, hr⟩ := mem_firsts.mp hv
      match n, c with
      | 0, c =>
        have hlr := c.len _ hr
        have : r = [] := by
          cases r with
          | nil => rfl
          | cons a b => rw [List.length_cons, List.length_cons] at hlr; omega
        subst this
        obtain ⟨x, hx, h2, h3⟩ := next v [] hr
        have : x ∈ (firsts m F).filter fun u => lat u v := List.mem_filter.mpr ⟨mem_firsts.mpr ⟨hx, [], h3⟩, h2 v (by simp)⟩
        exact List.length_pos_of_mem this
      | k + 1, c =>
        have ih := firsts_many irr asym k (fun r => F (v :: r)) (c.tail v) ⟨r, hr⟩
        have sub : ∀ u ∈ firsts m (fun r => F (v :: r)), u ∈ (firsts m F).filter fun u => lat u v := by
          intro u hu
          obtain ⟨hum, q, hq⟩ := mem_firsts.mp hu
          obtain ⟨x, hx, h2, h3⟩ := next v (u :: q) hq
          refine List.mem_filter.mpr ⟨mem_firsts.mpr ⟨hum, q ++ [x], h3⟩, ?_⟩
          have := c.chain _ hq
          rw [List.pairwise_cons] at this
          exact this.1 u (by simp)
        have le : (firsts m (fun r => F (v :: r))).length ≤ ((firsts m F).filter fun u => lat u v).length := by
          exact len_le_of_sub (firsts_nodup _ _) sub
        exact Nat.le_trans ih le
    have := many_of irr asym ne key
    have hp : 2 ^ (n + 2) = 2 * 2 ^ (n + 1) := by rw [Nat.pow_succ, Nat.mul_comm]
    have h1 : 1 ≤ 2 ^ (n + 1) := Nat.one_le_two_pow
    omega
end Jm
/-! The judge's levels in plain Lean. -/
namespace Jm
def later (ps : List (Nat × Nat)) (x : Nat) (marks : List Nat) : List Nat := marks.filter fun o => decide ((o, x) ∈ ps)
def up (ps : List (Nat × Nat)) (A : Tab) : Tab := A.flatMap fun e => e.2.map fun x => (e.1 ++ [x], later ps x e.2)
def lv (m : Nat) (ps : List (Nat × Nat)) : Nat → Tab
  | 0 => [([], List.range m)]
  | k + 1 => up ps (lv m ps k)
theorem mem_up {ps : List (Nat × Nat)} {A : Tab} {row marks : List Nat} : (row, marks) ∈ up ps A ↔ ∃ r ms x, (r, ms) ∈ A ∧ x ∈ ms ∧ row = r ++ [x] ∧ marks = later ps x ms := by
  unfold up
  rw [List.mem_flatMap]
  constructor
  · rintro ⟨⟨r, ms⟩, h1, h2⟩
    obtain ⟨x, hx, e⟩ := List.mem_map.mp h2
    cases e
    exact ⟨r, ms, x, h1, hx, rfl, rfl⟩
  · rintro ⟨r, ms, x, h1, hx, rfl, rfl⟩
    exact ⟨(r, ms), h1, List.mem_map.mpr ⟨x, hx, rfl⟩⟩
theorem lv_func (m : Nat) (ps : List (Nat × Nat)) : ∀ k, Func (lv m ps k)
  | 0 => fun row ms ms' h1 h2 => by
    rw [lv, List.mem_singleton] at h1 h2
    cases h1; cases h2; rfl
  | k + 1 => fun row ms ms' h1 h2 => by
    obtain ⟨r, a, x, h3, h4, e1, rfl⟩ := mem_up.mp h1
    obtain ⟨r', a', x', h5, h6, e2, rfl⟩ := mem_up.mp h2
    rw [e1] at e2
    obtain ⟨e3, e4⟩ := List.append_inj' e2 rfl
    subst e3
    cases e4
    rw [lv_func m ps k _ _ _ h3 h5]
/-- the marks of a row are those later than all its marks -/
theorem lv_marks (m : Nat) (ps : List (Nat × Nat)) : ∀ (k : Nat) (row marks : List Nat), (row, marks) ∈ lv m ps k → row.length = k ∧ ∀ y, y ∈ marks ↔ y < m ∧ ∀ v ∈ row, (y, v) ∈ ps
  | 0, row, marks, h => by
    rw [lv, List.mem_singleton] at h
    cases h
    exact ⟨rfl, fun y => by simp⟩
  | k + 1, row, marks, h => by
    obtain ⟨r, a, x, h3, h4, rfl, rfl⟩ := mem_up.mp h
    obtain ⟨i1, i2⟩ := lv_marks m ps k r a h3
    refine ⟨by simp [i1], fun y => ?_⟩
    unfold later
    rw [List.mem_filter, i2, decide_eq_true_eq]
    constructor
    · rintro ⟨⟨h1, h2⟩, h5⟩
      refine ⟨h1, fun v hv => ?_⟩
      rcases List.mem_append.mp hv with hv | hv
      · exact h2 v hv
      · rw [List.mem_singleton] at hv; subst hv; exact h5
    · rintro ⟨h1, h2⟩
      exact ⟨⟨h1, fun v hv => h2 v (by simp [hv])⟩, h2 x (by simp)⟩
def Chain (m : Nat) (ps : List (Nat × Nat)) (row : List Nat) : Prop := (∀ v ∈ row, v < m) ∧ row.Pairwise fun a b => (b, a) ∈ ps
theorem lv_chain (m : Nat) (ps : List (Nat × Nat)) : ∀ (k : Nat) (row : List Nat), (∃ marks, (row, marks) ∈ lv m ps k) ↔ row.length = k ∧ Chain m ps row
  | 0, row => by
    constructor
    · rintro ⟨marks, h⟩
      rw [lv, List.mem_singleton] at h
      cases h
      exact ⟨rfl, ⟨(fun v h => nomatch h), List.Pairwise.nil⟩⟩
    · rintro ⟨h, _⟩
      have := List.length_eq_zero_iff.mp h
      subst this
      exact ⟨_, List.mem_singleton.mpr rfl⟩
  | k + 1, row => by
    constructor
    · rintro ⟨marks, h⟩
      obtain ⟨r, a, x, h3, h4, rfl, rfl⟩ := mem_up.mp h
      obtain ⟨i1, i2, i3⟩ := (lv_chain m ps k r).mp ⟨a, h3⟩
      obtain ⟨_, j2⟩ := lv_marks m ps k r a h3
      obtain ⟨hx, hv⟩ := (j2 x).mp h4
      refine ⟨by simp [i1], fun v hv' => ?_, ?_⟩
      · rcases List.mem_append.mp hv' with z | z
        · exact i2 v z
        · rw [List.mem_singleton] at z; subst z; exact hx
      · rw [List.pairwise_append]
        exact ⟨i3, List.pairwise_singleton _ _, fun a ha b hb => by rw [List.mem_singleton] at hb; subst hb; exact hv a ha⟩
    · rintro ⟨hl, hc, hp⟩
      have hne : row ≠ [] := fun e => by rw [e] at hl; cases hl
      have e := List.dropLast_concat_getLast hne
      have hr : row.dropLast.length = k := by rw [List.length_dropLast, hl]; rfl
      rw [← e, List.pairwise_append] at hp
      obtain ⟨a, ha⟩ := (lv_chain m ps k row.dropLast).mpr ⟨hr, fun v hv => hc v ((List.dropLast_sublist row).subset hv), hp.1⟩
      obtain ⟨_, j2⟩ := lv_marks m ps k _ a ha
      have hx : row.getLast hne ∈ a := (j2 _).mpr ⟨hc _ (List.getLast_mem hne), fun v hv => hp.2.2 v hv _ (by simp)⟩
      refine ⟨_, mem_up.mpr ⟨row.dropLast, a, row.getLast hne, ha, hx, e.symm, rfl⟩⟩
end Jm
/-! More of the levels: no row twice, how many. -/
namespace Jm
def Once (A : Tab) : Prop := (A.map (·.1)).Nodup ∧ ∀ e ∈ A, e.2.Nodup
theorem later_nodup {ps : List (Nat × Nat)} {x : Nat} {ms : List Nat} (h : ms.Nodup) : (later ps x ms).Nodup := h.sublist List.filter_sublist
theorem up_nodup {ps : List (Nat × Nat)} : ∀ {A : Tab}, Once A → Once (up ps A)
  | [], _ => ⟨List.nodup_nil, fun _ h => nomatch h⟩
  | (r, ms) :: A, ⟨h1, h2⟩ => by
    rw [List.map_cons, List.nodup_cons] at h1
    have ih := up_nodup (ps := ps) (A := A) ⟨h1.2, fun e he => h2 e (List.mem_cons_of_mem _ he)⟩
    have hm := h2 (r, ms) (List.mem_cons_self ..)
    refine ⟨?_, fun e he => ?_⟩
    · unfold up
      rw [List.flatMap_cons, List.map_append, List.nodup_append]
      refine ⟨?_, ih.1, ?_⟩
      · rw [List.map_map]
        refine List.Pairwise.map _ (fun a b hab e => hab ?_) hm
        have := List.append_inj' e rfl
        simpa using this.2
      · intro a ha b hb e
        subst e
        obtain ⟨⟨r1, m1⟩, h3, rfl⟩ := List.mem_map.mp hb
        rw [List.map_map] at ha
        obtain ⟨x, hx, e1⟩ := List.mem_map.mp ha
        obtain ⟨r2, m2, x2, h4, h5, e2, e3⟩ := (mem_up (ps := ps)).mp h3
        have e4 : r ++ [x] = r2 ++ [x2] := by
          have : r ++ [x] = r1 := e1
          rw [this, e2]
        have e5 := (List.append_inj' e4 rfl).1
        exact h1.1 (List.mem_map.mpr ⟨_, h4, e5.symm⟩)
    · obtain ⟨r2, m2, x2, h4, h5, e2, e3⟩ := (mem_up (ps := ps)).mp (show (e.1, e.2) ∈ _ from he)
      rw [e3]
      exact later_nodup (h2 _ h4)
theorem lv_nodup (m : Nat) (ps : List (Nat × Nat)) : ∀ k, Once (lv m ps k)
  | 0 => ⟨by simp [lv], fun e h => by
      rw [lv, List.mem_singleton] at h
      subst h
      exact List.nodup_range⟩
  | k + 1 => up_nodup (lv_nodup m ps k)
theorem later_len {ps : List (Nat × Nat)} {x : Nat} {ms : List Nat} : (later ps x ms).length ≤ ms.length := List.length_filter_le _ _
theorem lv_wide (m : Nat) (ps : List (Nat × Nat)) : ∀ k, ∀ e ∈ lv m ps k, e.2.length ≤ m ∧ e.1.length = k ∧ ∀ x ∈ e.2, x < m
  | 0, e, h => by
    rw [lv, List.mem_singleton] at h
    subst h
    exact ⟨by simp, rfl, fun x hx => by simpa using hx⟩
  | k + 1, e, h => by
    obtain ⟨r2, m2, x2, h4, h5, e2, e3⟩ := (mem_up (ps := ps)).mp (show (e.1, e.2) ∈ _ from h)
    obtain ⟨i1, i2, i3⟩ := lv_wide m ps k _ h4
    rw [e3, e2]
    refine ⟨Nat.le_trans later_len i1, ?_, fun x hx => i3 x (List.mem_filter.mp hx).1⟩
    rw [List.length_append, List.length_singleton]
    exact congrArg (· + 1) i2
theorem up_len {ps : List (Nat × Nat)} {m : Nat} : ∀ {A : Tab}, (∀ e ∈ A, e.2.length ≤ m) → (up ps A).length ≤ m * A.length
  | [], _ => Nat.zero_le _
  | e :: A, h => by
    have ih := up_len (ps := ps) (A := A) fun e he => h e (List.mem_cons_of_mem _ he)
    have h1 := h e (List.mem_cons_self ..)
    unfold up at ih ⊢
    rw [List.flatMap_cons, List.length_append, List.length_map, List.length_cons, Nat.mul_succ]
    omega
theorem lv_len (m : Nat) (ps : List (Nat × Nat)) : ∀ k, (lv m ps k).length ≤ m ^ k
  | 0 => Nat.le_refl _
  | k + 1 => by
    refine Nat.le_trans (up_len fun e he => (lv_wide m ps k e he).1) ?_
    rw [Nat.pow_succ, Nat.mul_comm]
    exact Nat.mul_le_mul_right _ (lv_len m ps k)
/-- the level half made: the first rows, the first marks of the next -/
def half (ps : List (Nat × Nat)) (A : Tab) (j : Nat) (r ms : List Nat) (i : Nat) : Tab := up ps (A.take j) ++ (ms.take i).map fun x => (r ++ [x], later ps x ms)
theorem half_pre {ps : List (Nat × Nat)} {A : Tab} {j : Nat} {r ms : List Nat} (h : A[j]? = some (r, ms)) (i : Nat) : ∃ B, up ps A = half ps A j r ms i ++ B := by
  have hj := (List.getElem?_eq_some_iff.mp h).1
  have e : A = A.take j ++ (r, ms) :: A.drop (j + 1) := by
    conv => lhs; rw [← List.take_append_drop j A]
    rw [List.drop_eq_getElem_cons hj, (List.getElem?_eq_some_iff.mp h).2]
  refine ⟨((ms.drop i).map fun x => (r ++ [x], later ps x ms)) ++ up ps (A.drop (j + 1)), ?_⟩
  conv => lhs; rw [e]
  unfold half up
  rw [List.flatMap_append, List.flatMap_cons, List.append_assoc, ← List.append_assoc (List.map _ (List.take i ms)), ← List.map_append, List.take_append_drop]
theorem half_zero {ps : List (Nat × Nat)} {A : Tab} {j : Nat} {r ms : List Nat} : half ps A j r ms 0 = up ps (A.take j) := by simp [half]
theorem half_all {ps : List (Nat × Nat)} {A : Tab} {j : Nat} {r ms : List Nat} (h : A[j]? = some (r, ms)) : half ps A j r ms ms.length = up ps (A.take (j + 1)) := by
  unfold half up
  rw [List.take_add_one, h, List.take_length, List.flatMap_append]
  simp
theorem half_succ {ps : List (Nat × Nat)} {A : Tab} {j : Nat} {r ms : List Nat} {i x : Nat} (h : ms[i]? = some x) : half ps A j r ms (i + 1) = half ps A j r ms i ++ [(r ++ [x], later ps x ms)] := by
  unfold half
  rw [List.take_add_one, h, List.append_assoc]
  simp
theorem half_len {ps : List (Nat × Nat)} {A : Tab} {j : Nat} {r ms : List Nat} (h : A[j]? = some (r, ms)) (i : Nat) : (half ps A j r ms i).length ≤ (up ps A).length := by
  obtain ⟨B, e⟩ := half_pre (ps := ps) h i
  rw [e, List.length_append]
  omega
theorem half_new {ps : List (Nat × Nat)} {A : Tab} {j : Nat} {r ms : List Nat} {i x : Nat} (hA : Once A) (h : A[j]? = some (r, ms)) (hx : ms[i]? = some x) : ∀ e ∈ half ps A j r ms i, e.1 ≠ r ++ [x] := by
  obtain ⟨B, e⟩ := half_pre (ps := ps) h (i + 1)
  have n := (up_nodup (ps := ps) hA).1
  rw [e, half_succ hx, List.map_append, List.map_append] at n
  have n1 := (List.nodup_append.mp n).1
  intro e0 he0 q
  exact (List.nodup_append.mp n1).2.2 e0.1 (List.mem_map.mpr ⟨_, he0, rfl⟩) e0.1 (by rw [q]; simp) rfl
end Jm
/-! Peeling in plain Lean: rounds, what waits, one round's step. -/
namespace Jm
/-- goes in round k at the latest -/
def Goes (A : Tab) : Nat → List Nat → Prop
  | 0, row => (row, []) ∈ A
  | k + 1, row => ∃ marks, (row, marks) ∈ A ∧ ∀ m ∈ marks, ∃ p ∈ parts row m, Goes A k p
def Rank (A : Tab) (k : Nat) (row : List Nat) : Prop := Goes A k row ∧ ∀ j, j < k → ¬ Goes A j row
theorem Goes.up {A : Tab} : ∀ {k : Nat} {row : List Nat}, Goes A k row → Goes A (k + 1) row
  | 0, row, h => ⟨[], h, fun _ h => nomatch h⟩
  | k + 1, row, ⟨ms, h, q⟩ => ⟨ms, h, fun m hm => let ⟨p, h1, h2⟩ := q m hm; ⟨p, h1, Goes.up h2⟩⟩
theorem Goes.le {A : Tab} {row : List Nat} {j k : Nat} (h : Goes A j row) (hk : j ≤ k) : Goes A k row := by
  induction hk with
  | refl => exact h
  | step _ ih => exact ih.up
theorem Goes.rank {A : Tab} {row : List Nat} : ∀ {k : Nat}, Goes A k row → ∃ j, j ≤ k ∧ Rank A j row := by
  intro k
  induction k using Nat.strongRecOn with
  | _ k ih =>
    intro h
    by_cases q : ∃ j, j < k ∧ Goes A j row
    · obtain ⟨j, hj, g⟩ := q
      obtain ⟨i, hi, r⟩ := ih j hj g
      exact ⟨i, by omega, r⟩
    · exact ⟨k, Nat.le_refl _, h, fun j hj g => q ⟨j, hj, g⟩⟩
theorem Rank.inj {A : Tab} {row : List Nat} {j k : Nat} (h : Rank A j row) (g : Rank A k row) : j = k := by
  rcases Nat.lt_trichotomy j k with z | z | z
  · exact absurd h.1 (g.2 j z)
  · exact z
  · exact absurd g.1 (h.2 k z)
theorem Rank.key {A : Tab} {row : List Nat} : ∀ {k : Nat}, Rank A k row → ∃ ms, (row, ms) ∈ A
  | 0, h => ⟨[], h.1⟩
  | k + 1, h => let ⟨ms, q, _⟩ := h.1; ⟨ms, q⟩
theorem bound_all {α : Type} (xs : List α) {P : α → Nat → Prop} (up : ∀ x j k, j ≤ k → P x j → P x k) (h : ∀ x ∈ xs, ∃ k, P x k) : ∃ k, ∀ x ∈ xs, P x k := by
  induction xs with
  | nil => exact ⟨0, fun _ h => nomatch h⟩
  | cons x xs ih =>
    obtain ⟨k, hk⟩ := ih fun y hy => h y (List.mem_cons_of_mem _ hy)
    obtain ⟨j, hj⟩ := h x (List.mem_cons_self ..)
    refine ⟨max j k, fun y hy => ?_⟩
    rcases List.mem_cons.mp hy with rfl | hy
    · exact up _ _ _ (Nat.le_max_left ..) hj
    · exact up _ _ _ (Nat.le_max_right ..) (hk y hy)
theorem gone_iff {A : Tab} {row : List Nat} : Gone A row ↔ ∃ k, Goes A k row := by
  constructor
  · intro h
    induction h with
    | mk f h1 h2 h3 ih =>
      rename_i row marks
      obtain ⟨k, hk⟩ := bound_all marks (P := fun m k => Goes A k (f m)) (fun x j k hjk g => g.le hjk) ih
      exact ⟨k + 1, marks, h1, fun m hm => ⟨f m, h2 m hm, hk m hm⟩⟩
  · rintro ⟨k, h⟩
    induction k generalizing row with
    | zero => exact .mk (fun _ => []) h (fun _ h => nomatch h) fun _ h => nomatch h
    | succ k ih =>
      obtain ⟨ms, h1, h2⟩ := h
      classical
      refine .mk (fun m => if hm : m ∈ ms then Classical.choose (h2 m hm) else []) h1 (fun m hm => ?_) fun m hm => ?_
      · rw [dif_pos hm]; exact (Classical.choose_spec (h2 m hm)).1
      · rw [dif_pos hm]; exact ih (Classical.choose_spec (h2 m hm)).2
/-! ### what waits -/
abbrev Ev := List Nat × Nat × List Nat
def evM (row : List Nat) (m : Nat) : List Ev := (parts row m).map fun p => (row, m, p)
def evR (row : List Nat) (ms : List Nat) : List Ev := ms.flatMap (evM row)
def evs (A : Tab) : List Ev := A.flatMap fun e => evR e.1 e.2
/-- what waits for a part, of some events -/
def wt (es : List Ev) (p : List Nat) : List (List Nat × Nat) := (es.filter fun e => decide (e.2.2 = p)).map fun e => (e.1, e.2.1)
theorem wt_app (es fs : List Ev) (p : List Nat) : wt (es ++ fs) p = wt es p ++ wt fs p := by simp [wt]
theorem wt_one (r : List Nat) (m : Nat) (q p : List Nat) : wt [(r, m, q)] p = if q = p then [(r, m)] else [] := by
  unfold wt
  by_cases h : q = p
  · rw [if_pos h, List.filter_cons_of_pos (by simpa using h)]; rfl
  · rw [if_neg h, List.filter_cons_of_neg (by simpa using h)]; rfl
theorem mem_wt {A : Tab} {p r : List Nat} {m : Nat} : (r, m) ∈ wt (evs A) p ↔ ∃ ms, (r, ms) ∈ A ∧ m ∈ ms ∧ p ∈ parts r m := by
  unfold wt evs evR evM
  simp only [List.mem_map, List.mem_filter, List.mem_flatMap, decide_eq_true_eq, Prod.mk.injEq, Prod.exists]
  constructor
  · rintro ⟨a, b, c, ⟨⟨r1, ms, h1, m1, h2, p1, h3, rfl, rfl, rfl⟩, rfl⟩, rfl, rfl⟩
    exact ⟨ms, h1, h2, h3⟩
  · rintro ⟨ms, h1, h2, h3⟩
    exact ⟨r, m, p, ⟨⟨r, ms, h1, m, h2, p, h3, rfl, rfl, rfl⟩, rfl⟩, rfl, rfl⟩
theorem parts_len {r : List Nat} {m : Nat} : (parts r m).length = r.length := by simp [parts]
theorem parts_last {r : List Nat} {m : Nat} {p : List Nat} (h : p ∈ parts r m) : p.getLast? = some m := by
  obtain ⟨i, _, rfl⟩ := List.mem_map.mp h
  rw [List.getLast?_append]; rfl
theorem part_len {r : List Nat} {m : Nat} {p : List Nat} (h : p ∈ parts r m) : p.length = r.length := by
  obtain ⟨i, hi, rfl⟩ := List.mem_map.mp h
  have := List.mem_range.mp hi
  simp
  omega
/-- of one row there wait no more than it has marks -/
theorem wtM_le (r : List Nat) (m : Nat) (p : List Nat) : (wt (evM r m) p).length ≤ r.length := by
  unfold wt evM
  rw [List.length_map]
  refine Nat.le_trans (List.length_filter_le _ _) ?_
  rw [List.length_map, parts_len]; exact Nat.le_refl _
theorem wtM_ne {r : List Nat} {m : Nat} {p : List Nat} (h : p.getLast? ≠ some m) : wt (evM r m) p = [] := by
  unfold wt evM
  rw [List.map_eq_nil_iff, List.filter_eq_nil_iff]
  intro e he q
  obtain ⟨p', hp, rfl⟩ := List.mem_map.mp he
  have : p' = p := by simpa using q
  subst this
  exact h (parts_last hp)
theorem wtR_le (r : List Nat) (p : List Nat) : ∀ (ms : List Nat), ms.Nodup → (wt (evR r ms) p).length ≤ r.length
  | [], _ => by simp [evR, wt]
  | m :: ms, h => by
    rw [List.nodup_cons] at h
    have ih := wtR_le r p ms h.2
    unfold evR at ih ⊢
    rw [List.flatMap_cons, wt_app, List.length_append]
    by_cases q : p.getLast? = some m
    · have e : wt (ms.flatMap (evM r)) p = [] := by
        have : ∀ xs : List Nat, m ∉ xs → wt (xs.flatMap (evM r)) p = [] := by
          intro xs
          induction xs with
          | nil => intro _; rfl
          | cons x xs ih =>
            intro hx
            rw [List.mem_cons, not_or] at hx
            rw [List.flatMap_cons, wt_app, ih hx.2, wtM_ne (fun z => hx.1 (Option.some.inj (q.symm.trans z))), List.append_nil]
        exact this ms h.1
      rw [e]
      have := wtM_le r m p
      simpa using this
    · rw [wtM_ne q]
      simpa using ih
theorem wt_le {A : Tab} {n : Nat} (p : List Nat) (hA : ∀ e ∈ A, e.2.Nodup ∧ e.1.length ≤ n) : (wt (evs A) p).length ≤ A.length * n := by
  induction A with
  | nil => simp [evs, wt]
  | cons e A ih =>
    have h1 := hA e (List.mem_cons_self ..)
    have h2 := ih fun e he => hA e (List.mem_cons_of_mem _ he)
    have h3 := wtR_le e.1 p e.2 h1.1
    unfold evs at h2 ⊢
    rw [List.flatMap_cons, wt_app, List.length_append, List.length_cons, Nat.add_mul, Nat.one_mul]
    omega
theorem wt_pre {es fs : List Ev} (p : List Nat) : (wt es p).length ≤ (wt (es ++ fs) p).length := by
  rw [wt_app, List.length_append]; omega
/-- the events so far: j rows, of the next one q marks, of the next one i parts -/
def evU (A : Tab) (j : Nat) (r ms : List Nat) (q : Nat) (m : Nat) (i : Nat) : List Ev := evs (A.take j) ++ (evR r (ms.take q) ++ (evM r m).take i)
theorem evU_0 {A : Tab} {j : Nat} {r ms : List Nat} {q m : Nat} : evU A j r ms q m 0 = evs (A.take j) ++ evR r (ms.take q) := by simp [evU]
theorem evU_all {A : Tab} {j : Nat} {r ms : List Nat} {q m : Nat} (h : ms[q]? = some m) : evU A j r ms q m (parts r m).length = evs (A.take j) ++ evR r (ms.take (q + 1)) := by
  unfold evU evR
  rw [List.take_add_one, h, List.flatMap_append]
  congr 2
  rw [List.take_of_length_le (by unfold evM; rw [List.length_map]; exact Nat.le_refl _)]
  simp
theorem evU_succ {A : Tab} {j : Nat} {r ms : List Nat} {q m i : Nat} {p : List Nat} (h : (parts r m)[i]? = some p) : evU A j r ms q m (i + 1) = evU A j r ms q m i ++ [(r, m, p)] := by
  unfold evU
  rw [List.take_add_one (l := evM r m)]
  have e : (evM r m)[i]? = some (r, m, p) := by unfold evM; rw [List.getElem?_map, h]; rfl
  rw [e]
  simp
theorem evR_all {A : Tab} {j : Nat} {r ms : List Nat} (h : A[j]? = some (r, ms)) : evs (A.take j) ++ evR r ms = evs (A.take (j + 1)) := by
  unfold evs
  rw [List.take_add_one, h, List.flatMap_append]
  simp
theorem evs_take_pre (A : Tab) (j : Nat) : ∃ fs, evs A = evs (A.take j) ++ fs := by
  refine ⟨evs (A.drop j), ?_⟩
  conv => lhs; rw [← List.take_append_drop j A]
  unfold evs
  rw [List.flatMap_append]
theorem evU_pre {A : Tab} {j : Nat} {r ms : List Nat} {q m : Nat} (hA : A[j]? = some (r, ms)) (h : ms[q]? = some m) (i : Nat) : ∃ fs, evs A = evU A j r ms q m i ++ fs := by
  obtain ⟨f1, e1⟩ := evs_take_pre A (j + 1)
  have e2 := evR_all hA
  have e3 : evR r ms = evR r (ms.take (q + 1)) ++ evR r (ms.drop (q + 1)) := by
    unfold evR
    rw [← List.flatMap_append, List.take_append_drop]
  have e4 := evU_all (A := A) (j := j) (r := r) h
  have e5 : evU A j r ms q m (parts r m).length = evU A j r ms q m i ++ (evM r m).drop i := by
    unfold evU
    have : (evM r m).take (parts r m).length = (evM r m).take i ++ (evM r m).drop i := by
      rw [List.take_append_drop, List.take_of_length_le (by unfold evM; rw [List.length_map]; exact Nat.le_refl _)]
    rw [this]
    simp
  refine ⟨(evM r m).drop i ++ (evR r (ms.drop (q + 1)) ++ f1), ?_⟩
  rw [e1, ← e2, e3, ← List.append_assoc, ← e4, e5]
  simp
/-! ### popping -/
/-- the marks of a row that haven't been popped -/
def lft (pp : List (List Nat × Nat)) (r : List Nat) (ms : List Nat) : List Nat := ms.filter fun m => decide ((r, m) ∉ pp)
theorem lft_nil (r ms : List Nat) : lft [] r ms = ms := by
  unfold lft
  rw [List.filter_eq_self]
  simp
theorem lft_pop (pp : List (List Nat × Nat)) (r ms : List Nat) (m : Nat) : lft (pp ++ [(r, m)]) r ms = (lft pp r ms).filter fun x => decide (x ≠ m) := by
  unfold lft
  rw [List.filter_filter]
  congr 1
  funext x
  simp only [List.mem_append, List.mem_singleton, Prod.mk.injEq, true_and, not_or, Bool.decide_and]
  rw [Bool.and_comm]
theorem lft_other (pp : List (List Nat × Nat)) {r r' : List Nat} (ms : List Nat) (m : Nat) (h : r ≠ r') : lft (pp ++ [(r, m)]) r' ms = lft pp r' ms := by
  unfold lft
  congr 1
  funext x
  have : ¬ (r' = r ∧ x = m) := fun q => h q.1.symm
  simp [List.mem_append, this]
/-- every part of a row with a mark stands in the table -/
def Total (A : Tab) : Prop := ∀ r ms, (r, ms) ∈ A → ∀ m ∈ ms, ∀ p ∈ parts r m, ∃ ms', (p, ms') ∈ A
/-- at the head of round k: what was popped -/
def PopK (A : Tab) (k : Nat) (pp : List (List Nat × Nat)) : Prop := ∀ r ms, (r, ms) ∈ A → ∀ m ∈ ms, ((r, m) ∈ pp ↔ ∃ p ∈ parts r m, ∃ j, j < k ∧ Rank A j p)
theorem popK_0 (A : Tab) : PopK A 0 [] := fun r ms _ m _ => ⟨fun h => (nomatch h), fun ⟨_, _, j, h, _⟩ => absurd h (Nat.not_lt_zero _)⟩
/-- a row is bare at the head of round k just where it goes in it or ahead -/
theorem popK_bare {A : Tab} {k : Nat} {pp : List (List Nat × Nat)} (h : PopK A k pp) (hf : Func A) {r ms : List Nat} (hr : (r, ms) ∈ A) : lft pp r ms = [] ↔ Goes A k r := by
  unfold lft
  rw [List.filter_eq_nil_iff]
  constructor
  · intro q
    cases k with
    | zero =>
      have : ms = [] := by
        cases ms with
        | nil => rfl
        | cons m ms =>
          have h1 := q m (List.mem_cons_self ..)
          have h2 : (r, m) ∈ pp := Classical.byContradiction fun z => h1 (by simpa using z)
          obtain ⟨_, _, j, hj, _⟩ := (h r _ hr m (List.mem_cons_self ..)).mp h2
          exact absurd hj (Nat.not_lt_zero _)
      subst this
      exact hr
    | succ k =>
      refine ⟨ms, hr, fun m hm => ?_⟩
      have h1 := q m hm
      have h2 : (r, m) ∈ pp := Classical.byContradiction fun z => h1 (by simpa using z)
      obtain ⟨p, hp, j, hj, hr⟩ := (h r _ hr m hm).mp h2
      exact ⟨p, hp, hr.1.le (by omega)⟩
  · intro g m hm q
    have q : (r, m) ∉ pp := by simpa using q
    cases k with
    | zero =>
      have := hf _ _ _ hr g
      rw [this] at hm
      cases hm
    | succ k =>
      obtain ⟨ms', h1, h2⟩ := g
      have := hf _ _ _ hr h1
      subst this
      obtain ⟨p, hp, hg⟩ := h2 m hm
      obtain ⟨j, hj, hr'⟩ := hg.rank
      exact q ((h r _ hr m hm).mpr ⟨p, hp, j, by omega, hr'⟩)
theorem popK_next {A : Tab} {k : Nat} {pp : List (List Nat × Nat)} (h : PopK A k pp) (hf : Func A) {here : List (List Nat)} (hh : ∀ r, r ∈ here ↔ Rank A k r) : PopK A (k + 1) (pp ++ here.flatMap (wt (evs A))) := by
  intro r ms hr m hm
  rw [List.mem_append, h r ms hr m hm, List.mem_flatMap]
  constructor
  · rintro (⟨p, hp, j, hj, g⟩ | ⟨p, hp, q⟩)
    · exact ⟨p, hp, j, by omega, g⟩
    · obtain ⟨ms', h1, h2, h3⟩ := mem_wt.mp q
      exact ⟨p, h3, k, Nat.lt_succ_self _, (hh p).mp hp⟩
  · rintro ⟨p, hp, j, hj, g⟩
    by_cases e : j = k
    · subst e
      exact .inr ⟨p, (hh p).mpr g, mem_wt.mpr ⟨ms, hr, hm, hp⟩⟩
    · exact .inl ⟨p, hp, j, by omega, g⟩
/-- the rows with their rounds, at the head of round k -/
structure GoneK (A : Tab) (k : Nat) (gk : List (List Nat × Nat)) : Prop where
  nd : (gk.map (·.1)).Nodup
  mem : ∀ r j, (r, j) ∈ gk ↔ j < k ∧ Rank A j r
theorem goneK_0 (A : Tab) : GoneK A 0 [] := ⟨List.nodup_nil, fun r j => ⟨fun h => (nomatch h), fun h => absurd h.1 (Nat.not_lt_zero _)⟩⟩
theorem goneK_next {A : Tab} {k : Nat} {gk : List (List Nat × Nat)} (h : GoneK A k gk) {here : List (List Nat)} (hn : here.Nodup) (hh : ∀ r, r ∈ here ↔ Rank A k r) : GoneK A (k + 1) (gk ++ here.map fun r => (r, k)) := by
  refine ⟨?_, fun r j => ?_⟩
  · rw [List.map_append, List.nodup_append]
    refine ⟨h.nd, ?_, fun a ha b hb e => ?_⟩
    · rw [List.map_map]
      have : ((fun e : List Nat × Nat => e.1) ∘ fun r => (r, k)) = id := rfl
      rw [this, List.map_id]
      exact hn
    · subst e
      obtain ⟨⟨r, j⟩, h1, rfl⟩ := List.mem_map.mp ha
      rw [List.map_map] at hb
      obtain ⟨r', h2, e⟩ := List.mem_map.mp hb
      have e : r' = r := e
      subst e
      have h3 := (h.mem _ _).mp h1
      have := h3.2.inj ((hh _).mp h2)
      omega
  · rw [List.mem_append, h.mem]
    constructor
    · rintro (⟨h1, h2⟩ | h1)
      · exact ⟨by omega, h2⟩
      · obtain ⟨r', h2, e⟩ := List.mem_map.mp h1
        cases e
        exact ⟨Nat.lt_succ_self _, (hh _).mp h2⟩
    · rintro ⟨h1, h2⟩
      by_cases e : j = k
      · subst e
        exact .inr (List.mem_map.mpr ⟨r, (hh _).mpr h2, rfl⟩)
      · exact .inl ⟨by omega, h2⟩
theorem goneK_mem {A : Tab} {k : Nat} {gk : List (List Nat × Nat)} (h : GoneK A k gk) (r : List Nat) : r ∈ gk.map (·.1) ↔ ∃ j, j < k ∧ Rank A j r := by
  rw [List.mem_map]
  constructor
  · rintro ⟨⟨r', j⟩, h1, rfl⟩
    exact ⟨j, (h.mem _ _).mp h1⟩
  · rintro ⟨j, h1⟩
    exact ⟨(r, j), (h.mem _ _).mpr h1, rfl⟩
/-- where nothing goes in a round, nothing goes behind it -/
theorem rank_none {A : Tab} {k : Nat} (h : ∀ r, ¬ Rank A k r) : ∀ j, k ≤ j → ∀ r, ¬ Rank A j r := by
  have key : ∀ d r, Goes A (k + d) r → ∃ j, j < k ∧ Goes A j r ∨ (k = 0 ∧ False) := by
    intro d
    induction d with
    | zero =>
      intro r g
      obtain ⟨j, hj, hr⟩ := g.rank
      have : j ≠ k := fun e => h r (e ▸ hr)
      exact ⟨j, .inl ⟨by omega, hr.1⟩⟩
    | succ d ih =>
      intro r g
      obtain ⟨ms, h1, h2⟩ := g
      have h3 : Goes A k r := by
        cases k with
        | zero =>
          cases ms with
          | nil => exact h1
          | cons m ms =>
            obtain ⟨p, _, hp⟩ := h2 m (List.mem_cons_self ..)
            obtain ⟨j, hj | hj⟩ := ih p hp
            · exact absurd hj.1 (Nat.not_lt_zero _)
            · exact hj.2.elim
        | succ k =>
          refine ⟨ms, h1, fun m hm => ?_⟩
          obtain ⟨p, h4, hp⟩ := h2 m hm
          obtain ⟨j, hj | hj⟩ := ih p hp
          · exact ⟨p, h4, hj.2.le (by omega)⟩
          · exact hj.2.elim
      obtain ⟨j, hj, hr⟩ := h3.rank
      have : j ≠ k := fun e => h r (e ▸ hr)
      exact ⟨j, .inl ⟨by omega, hr.1⟩⟩
  intro j hj r hr
  obtain ⟨i, hi | hi⟩ := key (j - k) r (by rw [show k + (j - k) = j by omega]; exact hr.1)
  · exact hr.2 i (by omega) hi.2
  · exact hi.2
/-- all that goes, each with its round -/
structure Ranked (A : Tab) (gk : List (List Nat × Nat)) : Prop where
  nd : (gk.map (·.1)).Nodup
  mem : ∀ r j, (r, j) ∈ gk ↔ Rank A j r
theorem GoneK.all {A : Tab} {k : Nat} {gk : List (List Nat × Nat)} (h : GoneK A k gk) (hn : ∀ r, ¬ Rank A k r) : Ranked A gk := by
  refine ⟨h.nd, fun r j => ?_⟩
  rw [h.mem]
  refine ⟨fun h => h.2, fun g => ⟨?_, g⟩⟩
  refine Classical.byContradiction fun z => ?_
  exact rank_none hn j (by omega) r g
theorem Ranked.key {A : Tab} {gk : List (List Nat × Nat)} (h : Ranked A gk) (r : List Nat) : r ∈ gk.map (·.1) ↔ Gone A r := by
  rw [gone_iff, List.mem_map]
  constructor
  · rintro ⟨⟨r', j⟩, h1, rfl⟩
    exact ⟨j, ((h.mem _ _).mp h1).1⟩
  · rintro ⟨k, g⟩
    obtain ⟨j, _, hr⟩ := g.rank
    exact ⟨(r, j), (h.mem _ _).mpr hr, rfl⟩
end Jm
/-! Levels can be peeled; what is left; how far. -/
namespace Jm
theorem parts_sub {r : List Nat} {m : Nat} {p : List Nat} (h : p ∈ parts r m) : List.Sublist p (r ++ [m]) := by
  obtain ⟨i, hi, rfl⟩ := List.mem_map.mp h
  refine List.Sublist.append ?_ (List.Sublist.refl _)
  conv => rhs; rw [← List.take_append_drop i r]
  refine List.Sublist.append (List.Sublist.refl _) ?_
  rw [show r.drop (i + 1) = (r.drop i).drop 1 by rw [List.drop_drop]]
  exact List.drop_sublist _ _
theorem Chain.sub {m : Nat} {ps : List (Nat × Nat)} {p r : List Nat} (h : Chain m ps r) (s : List.Sublist p r) : Chain m ps p := ⟨fun v hv => h.1 v (s.subset hv), h.2.sublist s⟩
theorem Chain.snoc {m : Nat} {ps : List (Nat × Nat)} {r : List Nat} {x : Nat} (h : Chain m ps r) (hx : x < m) (hl : ∀ v ∈ r, (x, v) ∈ ps) : Chain m ps (r ++ [x]) := by
  refine ⟨fun v hv => ?_, ?_⟩
  · rcases List.mem_append.mp hv with z | z
    · exact h.1 v z
    · rw [List.mem_singleton] at z; subst z; exact hx
  · rw [List.pairwise_append]
    exact ⟨h.2, List.pairwise_singleton _ _, fun a ha b hb => by rw [List.mem_singleton] at hb; subst hb; exact hl a ha⟩
theorem lv_total (m : Nat) (ps : List (Nat × Nat)) (k : Nat) : Total (lv m ps k) := by
  intro r ms hr x hx p hp
  obtain ⟨h1, h2⟩ := lv_marks m ps k r ms hr
  obtain ⟨_, hc⟩ := (lv_chain m ps k r).mp ⟨ms, hr⟩
  obtain ⟨h3, h4⟩ := (h2 x).mp hx
  exact (lv_chain m ps k p).mpr ⟨by rw [part_len hp, h1], (hc.snoc h3 h4).sub (parts_sub hp)⟩
open Classical in
noncomputable def goneB (A : Tab) (r : List Nat) : Bool := decide (Gone A r)
theorem goneB_iff {A : Tab} {r : List Nat} : goneB A r = true ↔ Gone A r := by unfold goneB; simp
theorem goneB_no {A : Tab} {r : List Nat} : goneB A r = false ↔ ¬ Gone A r := by rw [← goneB_iff]; simp
/-- the rows of n marks that never go -/
def Kept (m : Nat) (ps : List (Nat × Nat)) (n : Nat) (row : List Nat) : Prop := (∃ ms, (row, ms) ∈ lv m ps n) ∧ ¬ Gone (lv m ps n) row
theorem kept_step {m : Nat} {ps : List (Nat × Nat)} {n : Nat} {row : List Nat} (h : Kept m ps n row) : ∃ x, x < m ∧ (∀ v ∈ row, (x, v) ∈ ps) ∧ ∀ p ∈ parts row x, Kept m ps n p := by
  obtain ⟨⟨ms, h1⟩, h2⟩ := h
  obtain ⟨x, hx, hp⟩ := left_step h1 h2
  obtain ⟨e, h3⟩ := lv_marks m ps n row ms h1
  obtain ⟨h4, h5⟩ := (h3 x).mp hx
  exact ⟨x, h4, h5, fun p hp' => ⟨lv_total m ps n row ms h1 x hx p hp', hp p hp'⟩⟩
/-- whatever feeds itself is kept -/
theorem kept_of {m : Nat} {ps : List (Nat × Nat)} {n : Nat} {F : List Nat → Prop} (hF : ∀ row, F row → row.length = n ∧ Chain m ps row ∧ ∃ x, x < m ∧ (∀ v ∈ row, (x, v) ∈ ps) ∧ ∀ p ∈ parts row x, F p) {row : List Nat} (h : F row) : Kept m ps n row := by
  have key : Closed (lv m ps n) F := fun row h => by
    obtain ⟨h1, h2, x, h3, h4, h5⟩ := hF row h
    obtain ⟨ms, hm⟩ := (lv_chain m ps n row).mpr ⟨h1, h2⟩
    exact ⟨ms, hm, x, ((lv_marks m ps n row ms hm).2 x).mpr ⟨h3, h4⟩, h5⟩
  obtain ⟨h1, h2, _⟩ := hF row h
  exact ⟨(lv_chain m ps n row).mpr ⟨h1, h2⟩, fun g => closed_kept (lv_func m ps n) key g h⟩
theorem Kept.len {m : Nat} {ps : List (Nat × Nat)} {n : Nat} {row : List Nat} (h : Kept m ps n row) : row.length = n ∧ Chain m ps row := (lv_chain m ps n row).mp h.1
/-- n slots are served -/
def Serves (m : Nat) (ps : List (Nat × Nat)) (n : Nat) : Prop := ∃ row, Kept m ps (n - 1) row
/-- fewer slots are served, too -/
theorem kept_tail {m : Nat} {ps : List (Nat × Nat)} {n : Nat} {v : Nat} {r : List Nat} (h : Kept m ps (n + 1) (v :: r)) : Kept m ps n r := by
  have key : ∀ row, (∃ v, Kept m ps (n + 1) (v :: row)) → row.length = n ∧ Chain m ps row ∧ ∃ x, x < m ∧ (∀ v ∈ row, (x, v) ∈ ps) ∧ ∀ p ∈ parts row x, ∃ v, Kept m ps (n + 1) (v :: p) := by
    rintro row ⟨v, h⟩
    obtain ⟨h1, h2⟩ := h.len
    obtain ⟨x, h3, h4, h5⟩ := kept_step h
    refine ⟨by simpa using h1, h2.sub (List.sublist_cons_self _ _), x, h3, fun u hu => h4 u (List.mem_cons_of_mem _ hu), fun p hp => ⟨v, h5 _ ?_⟩⟩
    rw [parts_cons]
    exact List.mem_cons_of_mem _ (List.mem_map.mpr ⟨p, hp, rfl⟩)
  exact kept_of (F := fun row => ∃ v, Kept m ps (n + 1) (v :: row)) key ⟨v, h⟩
theorem Serves.down {m : Nat} {ps : List (Nat × Nat)} {n : Nat} (h : Serves m ps (n + 1)) : Serves m ps n := by
  obtain ⟨row, h⟩ := h
  cases n with
  | zero => exact ⟨row, h⟩
  | succ n =>
    have hl := h.len.1
    match row, h, hl with
    | v :: r, h, _ => exact ⟨r, kept_tail h⟩
theorem Serves.le {m : Nat} {ps : List (Nat × Nat)} {j n : Nat} (h : Serves m ps n) (hj : j ≤ n) : Serves m ps j := by
  induction n with
  | zero => have : j = 0 := by omega
            subst this; exact h
  | succ n ih =>
    by_cases e : j = n + 1
    · subst e; exact h
    · exact ih h.down (by omega)
open Classical in
noncomputable def servesB (m : Nat) (ps : List (Nat × Nat)) (n : Nat) : Bool := decide (Serves m ps n)
theorem servesB_iff {m : Nat} {ps : List (Nat × Nat)} {n : Nat} : servesB m ps n = true ↔ Serves m ps n := by unfold servesB; simp
/-- how far the counting goes -/
noncomputable def rch (m : Nat) (ps : List (Nat × Nat)) : Nat → Nat → Nat
  | 0, r => r
  | f + 1, r => if servesB m ps (r + 1) = true then rch m ps f (r + 1) else r
noncomputable def reach (m : Nat) (ps : List (Nat × Nat)) : Nat := rch m ps 5 0
theorem rch_spec {m : Nat} {ps : List (Nat × Nat)} : ∀ (f r : Nat), (∀ j, 1 ≤ j → j ≤ r → Serves m ps j) → r ≤ rch m ps f r ∧ rch m ps f r ≤ r + f ∧ (∀ j, 1 ≤ j → j ≤ rch m ps f r → Serves m ps j) ∧ (rch m ps f r < r + f → ¬ Serves m ps (rch m ps f r + 1))
  | 0, r, h => ⟨Nat.le_refl _, Nat.le_refl _, h, fun q => absurd q (Nat.lt_irrefl _)⟩
  | f + 1, r, h => by
    unfold rch
    split
    · rename_i hs
      obtain ⟨h1, h2, h3, h4⟩ := rch_spec f (r + 1) fun j h1 h2 => by
        by_cases e : j = r + 1
        · subst e; exact servesB_iff.mp hs
        · exact h j h1 (by omega)
      exact ⟨by omega, by omega, h3, fun q => h4 (by omega)⟩
    · rename_i hs
      exact ⟨Nat.le_refl _, by omega, h, fun _ q => hs (servesB_iff.mpr q)⟩
theorem reach_le5 (m : Nat) (ps : List (Nat × Nat)) : reach m ps ≤ 5 := by
  have := (rch_spec (m := m) (ps := ps) 5 0 fun j h1 h2 => by omega).2.1
  unfold reach
  omega
theorem reach_iff {m : Nat} {ps : List (Nat × Nat)} {n : Nat} (h1 : 1 ≤ n) (h5 : n ≤ 5) : n ≤ reach m ps ↔ Serves m ps n := by
  obtain ⟨_, h2, h3, h4⟩ := rch_spec (m := m) (ps := ps) 5 0 fun j h1 h2 => by omega
  unfold reach
  refine ⟨fun h => h3 n h1 h, fun h => Classical.byContradiction fun q => ?_⟩
  exact h4 (by omega) (h.le (by omega))
/-- a lot that serves n slots has marks -/
theorem serves_one {m : Nat} {ps : List (Nat × Nat)} : Serves m ps 1 ↔ 0 < m := by
  constructor
  · rintro ⟨row, h⟩
    obtain ⟨x, hx, _⟩ := kept_step h
    omega
  · intro hm
    refine ⟨[], kept_of (F := fun row => row = []) ?_ rfl⟩
    rintro row rfl
    exact ⟨rfl, ⟨(fun _ h => nomatch h), List.Pairwise.nil⟩, 0, hm, (fun _ h => nomatch h), fun p hp => by simp [parts] at hp⟩
/-- few marks: no lot of fewer than 2 ^ n - 1 marks serves n slots -/
theorem serves_many {m : Nat} {ps : List (Nat × Nat)} (irr : ∀ a, (a, a) ∉ ps) (asym : ∀ a b, (a, b) ∈ ps → (b, a) ∉ ps) {n : Nat} (h : Serves m ps n) (hn : 1 ≤ n) : 2 ^ n ≤ m + 1 := by
  match n, hn with
  | 1, _ => have := serves_one.mp h; omega
  | n + 2, _ =>
    obtain ⟨row, h⟩ := h
    have c : Cl (fun a b => decide ((a, b) ∈ ps)) m (n + 1) (Kept m ps (n + 1)) := by
      refine ⟨fun row h => h.len.1, fun row h => h.len.2.1, fun row h => ?_, fun row h => ?_⟩
      · exact h.len.2.2.imp fun q => by simpa using q
      · obtain ⟨x, h1, h2, h3⟩ := kept_step h
        exact ⟨x, h1, fun v hv => by simpa using h2 v hv, h3⟩
    have h1 := firsts_many (lat := fun a b => decide ((a, b) ∈ ps)) (fun a => by simpa using irr a) (fun a b q => by simpa using asym a b (by simpa using q)) n _ c ⟨row, h⟩
    have h2 : (firsts m (Kept m ps (n + 1))).length ≤ m := by
      unfold firsts
      refine Nat.le_trans (List.length_filter_le _ _) ?_
      rw [List.length_range]; exact Nat.le_refl _
    omega
end Jm
/-! Two slots: a round. Three: seven marks. -/
namespace Jm
section
variable {m : Nat} {ps : List (Nat × Nat)}
open Classical in
noncomputable def keptB (m : Nat) (ps : List (Nat × Nat)) (n : Nat) (r : List Nat) : Bool := decide (Kept m ps n r)
theorem keptB_iff {n : Nat} {r : List Nat} : keptB m ps n r = true ↔ Kept m ps n r := by unfold keptB; simp
/-- the marks from which one can go on for ever -/
noncomputable def ever (m : Nat) (ps : List (Nat × Nat)) : List Nat := (List.range m).filter fun y => keptB m ps 1 [y]
theorem mem_ever {y : Nat} : y ∈ ever m ps ↔ Kept m ps 1 [y] := by
  unfold ever
  rw [List.mem_filter, keptB_iff, List.mem_range]
  exact ⟨fun h => h.2, fun h => ⟨h.len.2.1 y (List.mem_singleton.mpr rfl), h⟩⟩
theorem kept1_next {y : Nat} (h : Kept m ps 1 [y]) : ∃ x, Kept m ps 1 [x] ∧ (x, y) ∈ ps := by
  obtain ⟨x, h1, h2, h3⟩ := kept_step h
  exact ⟨x, h3 [x] (by simp [parts]), h2 y (by simp)⟩
theorem kept1_of {F : Nat → Prop} (low : ∀ y, F y → y < m) (h : ∀ y, F y → ∃ x, F x ∧ (x, y) ∈ ps) {y : Nat} (hy : F y) : Kept m ps 1 [y] := by
  refine kept_of (F := fun row => ∃ y, row = [y] ∧ F y) ?_ ⟨y, rfl, hy⟩
  rintro row ⟨y, rfl, hy⟩
  obtain ⟨x, h1, h2⟩ := h y hy
  refine ⟨rfl, ⟨fun v hv => by rw [List.mem_singleton] at hv; subst hv; exact low _ hy, List.pairwise_singleton _ _⟩, x, low x h1, fun v hv => by rw [List.mem_singleton] at hv; subst hv; exact h2, fun p hp => ?_⟩
  have : p = [x] := by simpa [parts] using hp
  exact ⟨x, this, h1⟩
theorem serves2 : Serves m ps 2 ↔ ever m ps ≠ [] := by
  constructor
  · rintro ⟨row, h⟩ q
    have hl := h.len.1
    match row, hl, h with
    | [y], _, h =>
      have := mem_ever.mpr h
      rw [q] at this
      cases this
  · intro q
    cases e : ever m ps with
    | nil => exact absurd e q
    | cons y r => exact ⟨[y], mem_ever.mp (by rw [e]; simp)⟩
theorem serves3 (irr : ∀ a, (a, a) ∉ ps) (asym : ∀ a b, (a, b) ∈ ps → (b, a) ∉ ps) (h : Serves m ps 3) : 7 ≤ (ever m ps).length := by
  obtain ⟨row, h⟩ := h
  have c : Cl (fun a b => decide ((a, b) ∈ ps)) m 2 (Kept m ps 2) := by
    refine ⟨fun row h => h.len.1, fun row h => h.len.2.1, fun row h => ?_, fun row h => ?_⟩
    · exact h.len.2.2.imp fun q => by simpa using q
    · obtain ⟨x, h1, h2, h3⟩ := kept_step h
      exact ⟨x, h1, fun v hv => by simpa using h2 v hv, h3⟩
  have h1 := firsts_many (lat := fun a b => decide ((a, b) ∈ ps)) (fun a => by simpa using irr a) (fun a b q => by simpa using asym a b (by simpa using q)) 1 _ c ⟨row, h⟩
  refine Nat.le_trans h1 (len_le_of_sub (firsts_nodup _ _) fun v hv => ?_)
  refine mem_ever.mpr (kept1_of (F := fun v => ∃ r, Kept m ps 2 (v :: r)) (fun y ⟨r, h⟩ => h.len.2.1 y (by simp)) ?_ (mem_firsts.mp hv).2)
  rintro y ⟨r, h⟩
  obtain ⟨x, h1, h2, h3⟩ := kept_step h
  have hl := h.len.1
  match r, h, hl, h3 with
  | [u], h, _, h3 =>
    refine ⟨u, ⟨[x], h3 _ ?_⟩, ?_⟩
    · rw [parts_cons]; exact List.mem_cons_self ..
    · have := h.len.2.2
      rw [List.pairwise_cons] at this
      exact this.1 u (by simp)
end
end Jm
/-! Am: an abstract machine over the hand layer. Slots hold deep pure data (P) or names of owned objects; a small store holds the owned objects. -/
namespace Am
open PySem L2
/-- deep data that nobody changes any more -/
inductive P where
  | non | bl (b : Bool) | int (i : Int) | str (x : Str)
  | tup (xs : List P) | lst (xs : List P) | fz (xs : List P)
  | dk (kvs : List (Key × P)) | dt (kvs : List (List Key × P))
  | ins (C : Addr) (fs : List (Str × P)) | vv (v : V)
/-- what a slot holds: pure data, or an owned object by its number -/
inductive D where
  | p (x : P) | own (n : Nat)
/-- an owned object -/
inductive O where
  | lst (xs : List D) | dk (kvs : List (Key × D)) | dt (kvs : List (List Key × D)) | ft (od : Obj) (ks : List (List Key × V)) (kvs : List (List Key × D)) | ins (C : Addr) (fs : List (Str × D)) | dead
/-- every known object stands in the other heap, too -/
def Ex (H H' : Hp) : Prop := ∀ a o, H a = some o → H' a = some o
theorem Ex.refl (H : Hp) : Ex H H := fun _ _ h => h
theorem Ex.trans {A B C : Hp} (x : Ex A B) (y : Ex B C) : Ex A C := fun a o h => y a o (x a o h)
theorem Ex.new {H : Hp} {p : Addr} {o : HO} (h : H p = none) : Ex H (upd H p o) := fun a u e => by
  rw [upd_ne (ne_of_none e h)]; exact e
theorem Ex.rd {H H' : Hp} (e : Ex H H') {a : Addr} {u : HO} (h : Rd H a u) : Rd H' a u := by
  rcases h with h | ⟨o, h⟩
  · exact .inl (e _ _ h)
  · exact .inr ⟨o, e _ _ h⟩
theorem Ex.sqL {K : PySem.W.Frag} {H H' : Hp} (e : Ex H H') {a : Addr} {xs : List V} (h : SqL K H a xs) : SqL K H' a xs := by
  rcases h with h | h
  · exact .inl (e.rd h)
  · exact .inr h
theorem Ex.sqT {K : PySem.W.Frag} {H H' : Hp} (e : Ex H H') {a : Addr} {xs : List V} (h : SqT K H a xs) : SqT K H' a xs := by
  rcases h with h | h
  · exact .inl (e.rd h)
  · exact .inr h
theorem Ex.tq {K : PySem.W.Frag} {H H' : Hp} (e : Ex H H') {a : Addr} {xs : List V} (h : H a = some (.tup xs)) : SqT K H' a xs := SqT.of (e _ _ h)
theorem Ex.none {H H' : Hp} (e : Ex H H') {a : Addr} (h : H' a = none) : H a = none := by
  cases q : H a with
  | none => rfl
  | some o => rw [e _ _ q] at h; cases h
theorem upd_mem {H : Hp} {η : List Addr} {a b : Addr} {o : HO} (ha : a ∈ η) (hb : b ∉ η) : upd H b o a = H a := upd_ne fun q => hb (q ▸ ha)
theorem upd_nmem {H : Hp} {η : List Addr} {a b : Addr} {o : HO} (ha : a ∉ η) (hb : b ∈ η) : upd H b o a = H a := upd_ne fun q => ha (q ▸ hb)
mutual
/-- the value v is the datum x, read in the heap H -/
inductive Rp (K : PySem.W.Frag) (H : Hp) : V → P → Prop
  | non : Rp K H .non .non
  | bl (b : Bool) : Rp K H (.bl b) (.bl b)
  | int (i : Int) : Rp K H (.int i) (.int i)
  | str (x : Str) : Rp K H (.str x) (.str x)
  | tup {a : Addr} {vs : List V} {xs : List P} : H a = some (.tup vs) → xs.length ≤ sizeLine → RpL K H vs xs → Rp K H (.ref a) (.tup xs)
  | lst {a : Addr} {vs : List V} {xs : List P} : H a = some (.lst vs) → xs.length ≤ sizeLine → RpL K H vs xs → Rp K H (.ref a) (.lst xs)
  | fz {a : Addr} {vs : List V} {xs : List P} : SqL K H a vs → xs.length ≤ sizeLine → RpL K H vs xs → Rp K H (.ref a) (.fz xs)
  | dk {a : Addr} {od : Obj} {ks : List (Key × V)} {xs : List (Key × P)} : H a = some (.frz od (.dK ks)) → xs.length ≤ sizeLine → RpK K H ks xs → Rp K H (.ref a) (.dk xs)
  | dt {a : Addr} {od : Obj} {ks : List (List Key × V)} {xs : List (List Key × P)} : H a = some (.frz od (.dT ks)) → xs.length ≤ sizeLine → RpT K H ks xs → Rp K H (.ref a) (.dt xs)
  | ins {a C dx : Addr} {gs : List (Str × V)} {fs : List (Str × P)} : H a = some (.ins C dx gs) → RpF K H gs fs → Rp K H (.ref a) (.ins C fs)
  | vv (v : V) : Rp K H v (.vv v)
inductive RpL (K : PySem.W.Frag) (H : Hp) : List V → List P → Prop
  | nil : RpL K H [] []
  | cons {v : V} {x : P} {vs : List V} {xs : List P} : Rp K H v x → RpL K H vs xs → RpL K H (v :: vs) (x :: xs)
inductive RpK (K : PySem.W.Frag) (H : Hp) : List (Key × V) → List (Key × P) → Prop
  | nil : RpK K H [] []
  | cons {k : Key} {v : V} {x : P} {vs : List (Key × V)} {xs : List (Key × P)} : Rp K H v x → RpK K H vs xs → RpK K H ((k, v) :: vs) ((k, x) :: xs)
inductive RpT (K : PySem.W.Frag) (H : Hp) : List (List Key × V) → List (List Key × P) → Prop
  | nil : RpT K H [] []
  | cons {k : List Key} {v : V} {x : P} {vs : List (List Key × V)} {xs : List (List Key × P)} : Rp K H v x → RpT K H vs xs → RpT K H ((k, v) :: vs) ((k, x) :: xs)
inductive RpF (K : PySem.W.Frag) (H : Hp) : List (Str × V) → List (Str × P) → Prop
  | nil : RpF K H [] []
  | cons {k : Str} {v : V} {x : P} {vs : List (Str × V)} {xs : List (Str × P)} : Rp K H v x → RpF K H vs xs → RpF K H ((k, v) :: vs) ((k, x) :: xs)
end
section
variable {K : PySem.W.Frag} {H H' : Hp}
mutual
theorem Rp.mono (e : Ex H H') : ∀ (x : P) (v : V), Rp K H v x → Rp K H' v x
  | .non, _, h => by cases h; exact .non
  | .bl b, _, h => by cases h; exact .bl b
  | .int i, _, h => by cases h; exact .int i
  | .str s, _, h => by cases h; exact .str s
  | .tup xs, _, h => by
    cases h with
    | tup s z l => exact .tup (e _ _ s) z (RpL.mono e xs _ l)
  | .lst xs, _, h => by
    cases h with
    | lst s z l => exact .lst (e _ _ s) z (RpL.mono e xs _ l)
  | .fz xs, _, h => by
    cases h with
    | fz s z l => exact .fz (e.sqL s) z (RpL.mono e xs _ l)
  | .dk xs, _, h => by
    cases h with
    | dk s z l => exact .dk (e _ _ s) z (RpK.mono e xs _ l)
  | .dt xs, _, h => by
    cases h with
    | dt s z l => exact .dt (e _ _ s) z (RpT.mono e xs _ l)
  | .ins C fs, _, h => by
    cases h with
    | ins s l => exact .ins (e _ _ s) (RpF.mono e fs _ l)
  | .vv v, _, h => by cases h; exact .vv v
theorem RpL.mono (e : Ex H H') : ∀ (xs : List P) (vs : List V), RpL K H vs xs → RpL K H' vs xs
  | [], _, h => by cases h; exact .nil
  | x :: xs, _, h => by
    cases h with
    | cons r l => exact .cons (Rp.mono e x _ r) (RpL.mono e xs _ l)
theorem RpK.mono (e : Ex H H') : ∀ (xs : List (Key × P)) (vs : List (Key × V)), RpK K H vs xs → RpK K H' vs xs
  | [], _, h => by cases h; exact .nil
  | (_, x) :: xs, _, h => by
    cases h with
    | cons r l => exact .cons (Rp.mono e x _ r) (RpK.mono e xs _ l)
theorem RpT.mono (e : Ex H H') : ∀ (xs : List (List Key × P)) (vs : List (List Key × V)), RpT K H vs xs → RpT K H' vs xs
  | [], _, h => by cases h; exact .nil
  | (_, x) :: xs, _, h => by
    cases h with
    | cons r l => exact .cons (Rp.mono e x _ r) (RpT.mono e xs _ l)
theorem RpF.mono (e : Ex H H') : ∀ (xs : List (Str × P)) (vs : List (Str × V)), RpF K H vs xs → RpF K H' vs xs
  | [], _, h => by cases h; exact .nil
  | (_, x) :: xs, _, h => by
    cases h with
    | cons r l => exact .cons (Rp.mono e x _ r) (RpF.mono e xs _ l)
end
theorem RpL.length : ∀ {xs : List P} {vs : List V}, RpL K H vs xs → vs.length = xs.length
  | [], _, h => by cases h; rfl
  | x :: xs, _, h => by
    cases h with
    | cons r l => simp [RpL.length l]
theorem RpL.get : ∀ {xs : List P} {vs : List V} {i : Nat} {v : V}, RpL K H vs xs → vs[i]? = some v → ∃ x, xs[i]? = some x ∧ Rp K H v x
  | [], _, _, _, h, e => by cases h; simp at e
  | x :: xs, _, 0, v, h, e => by
    cases h with
    | cons r l => simp at e; subst e; exact ⟨x, rfl, r⟩
  | x :: xs, _, i + 1, v, h, e => by
    cases h with
    | cons r l => simpa using RpL.get l (by simpa using e)
theorem RpL.get' : ∀ {xs : List P} {vs : List V} {i : Nat} {x : P}, RpL K H vs xs → xs[i]? = some x → ∃ v, vs[i]? = some v ∧ Rp K H v x
  | [], _, _, _, h, e => by simp at e
  | y :: xs, _, 0, x, h, e => by
    cases h with
    | cons r l => simp at e; subst e; exact ⟨_, rfl, r⟩
  | y :: xs, _, i + 1, x, h, e => by
    cases h with
    | cons r l => simpa using RpL.get' l (by simpa using e)
theorem RpL.append : ∀ {xs ys : List P} {vs ws : List V}, RpL K H vs xs → RpL K H ws ys → RpL K H (vs ++ ws) (xs ++ ys)
  | [], _, _, _, h, g => by cases h; exact g
  | x :: xs, _, _, _, h, g => by
    cases h with
    | cons r l => exact .cons r (RpL.append l g)
theorem RpL.take : ∀ {xs : List P} {vs : List V} (n : Nat), RpL K H vs xs → RpL K H (vs.take n) (xs.take n)
  | _, _, 0, _ => .nil
  | [], _, n + 1, h => by cases h; exact .nil
  | x :: xs, _, n + 1, h => by
    cases h with
    | cons r l => exact .cons r (RpL.take n l)
theorem RpL.drop : ∀ {xs : List P} {vs : List V} (n : Nat), RpL K H vs xs → RpL K H (vs.drop n) (xs.drop n)
  | _, _, 0, h => h
  | [], _, n + 1, h => by cases h; exact .nil
  | x :: xs, _, n + 1, h => by
    cases h with
    | cons r l => exact RpL.drop n l
end
/-- a slot's value -/
def Re (K : PySem.W.Frag) (η : List Addr) (Hk : Hp) : V → D → Prop
  | v, .p x => Rp K Hk v x
  | v, .own n => ∃ a, η[n]? = some a ∧ v = .ref a
inductive ReL (K : PySem.W.Frag) (η : List Addr) (Hk : Hp) : List V → List D → Prop
  | nil : ReL K η Hk [] []
  | cons {v : V} {x : D} {vs : List V} {xs : List D} : Re K η Hk v x → ReL K η Hk vs xs → ReL K η Hk (v :: vs) (x :: xs)
/-- entries of a dict, an instance -/
inductive ReE {κ : Type} (K : PySem.W.Frag) (η : List Addr) (Hk : Hp) : List (κ × V) → List (κ × D) → Prop
  | nil : ReE K η Hk [] []
  | cons {k : κ} {v : V} {x : D} {vs : List (κ × V)} {xs : List (κ × D)} : Re K η Hk v x → ReE K η Hk vs xs → ReE K η Hk ((k, v) :: vs) ((k, x) :: xs)
def ObjR (K : PySem.W.Frag) (η : List Addr) (Hk H : Hp) (a : Addr) : O → Prop
  | .lst xs => xs.length ≤ sizeLine ∧ ∃ vs, H a = some (.lst vs) ∧ ReL K η Hk vs xs
  | .dk kvs => kvs.length ≤ sizeLine ∧ ∃ ks, H a = some (.dK ks) ∧ ReE K η Hk ks kvs
  | .dt kvs => kvs.length ≤ sizeLine ∧ ∃ ks, H a = some (.dT ks) ∧ ReE K η Hk ks kvs
  | .ft od ks kvs => kvs.length ≤ sizeLine ∧ H a = some (.frz od (.dT ks)) ∧ ReE K η Hk ks kvs
  | .ins C fs => fs.length < 1000 ∧ ∃ dx gs, H a = some (.ins C dx gs) ∧ ReE K η Hk gs fs
  | .dead => True
structure Ok (K : PySem.W.Frag) (η : List Addr) (Hk H : Hp) (S : List O) : Prop where
  ex : Ex Hk H
  len : η.length = S.length
  nd : η.Nodup
  hid : ∀ (i : Nat) a o, η[i]? = some a → S[i]? = some o → o ≠ .dead → Hk a = none
  there : ∀ a ∈ η, ∃ o, H a = some o
  obj : ∀ (i : Nat) a o, η[i]? = some a → S[i]? = some o → ObjR K η Hk H a o
structure Stp (η : List Addr) (Hk H : Hp) (η' : List Addr) (Hk' H' : Hp) : Prop where
  ex : Ex Hk Hk'
  pre : ∃ more, η' = η ++ more
  fr : ∀ b o, H b = some o → b ∉ η → H' b = some o
  newE : ∀ b ∈ η', b ∈ η ∨ H b = none
  newK : ∀ b, Hk' b ≠ none → b ∈ η ∨ Hk b ≠ none ∨ H b = none ∨ ∃ xs, H b = some (.tup xs)
  kept : ∀ b, H b ≠ none → H' b ≠ none
theorem Stp.refl {η : List Addr} {Hk H : Hp} : Stp η Hk H η Hk H :=
  ⟨.refl _, ⟨[], by simp⟩, fun _ _ h _ => h, fun _ h => .inl h, fun _ h => .inr (.inl h), fun _ h => h⟩
theorem Stp.trans {η η1 η2 : List Addr} {Hk H Hk1 H1 Hk2 H2 : Hp} (x : Stp η Hk H η1 Hk1 H1) (y : Stp η1 Hk1 H1 η2 Hk2 H2) : Stp η Hk H η2 Hk2 H2 := by
  have back : ∀ b, b ∉ η → H1 b = none → H b = none := fun b hb h => by
    cases q : H b with
    | none => rfl
    | some o => rw [x.fr b o q hb] at h; cases h
  refine ⟨x.ex.trans y.ex, ?_, fun b o h hb => ?_, fun b hb => ?_, fun b hb => ?_, fun b h => y.kept b (x.kept b h)⟩
  · obtain ⟨m1, e1⟩ := x.pre
    obtain ⟨m2, e2⟩ := y.pre
    exact ⟨m1 ++ m2, by rw [e2, e1, List.append_assoc]⟩
  · refine y.fr b o (x.fr b o h hb) fun hb1 => ?_
    rcases x.newE b hb1 with z | z
    · exact hb z
    · rw [h] at z; cases z
  · rcases y.newE b hb with z | z
    · exact x.newE b z
    · by_cases hbη : b ∈ η
      · exact .inl hbη
      · exact .inr (back b hbη z)
  · by_cases hbη : b ∈ η
    · exact .inl hbη
    · rcases y.newK b hb with z | z | z | ⟨xs, z⟩
      · rcases x.newE b z with z | z
        · exact .inl z
        · exact .inr (.inr (.inl z))
      · exact x.newK b z
      · exact .inr (.inr (.inl (back b hbη z)))
      · cases q : H b with
        | none => exact .inr (.inr (.inl rfl))
        | some o =>
          rw [x.fr b o q hbη] at z
          cases z
          exact .inr (.inr (.inr ⟨xs, rfl⟩))
section
variable {K : PySem.W.Frag} {η η' : List Addr} {Hk Hk' H H' : Hp} {S : List O}
/-- more is known, more is owned -/
structure Gr (η : List Addr) (Hk : Hp) (η' : List Addr) (Hk' : Hp) : Prop where
  ex : Ex Hk Hk'
  pre : ∃ more, η' = η ++ more
theorem Stp.gr (s : Stp η Hk H η' Hk' H') : Gr η Hk η' Hk' := ⟨s.ex, s.pre⟩
theorem Re.mono' (s : Gr η Hk η' Hk') {v : V} {d : D} (h : Re K η Hk v d) : Re K η' Hk' v d := by
  cases d with
  | p x => exact Rp.mono s.ex x v h
  | own n =>
    obtain ⟨a, e, r⟩ := h
    obtain ⟨m, em⟩ := s.pre
    refine ⟨a, ?_, r⟩
    rw [em, List.getElem?_append_left (List.getElem?_eq_some_iff.mp e).1]
    exact e
theorem ReL.mono' (s : Gr η Hk η' Hk') : ∀ {vs : List V} {ds : List D}, ReL K η Hk vs ds → ReL K η' Hk' vs ds
  | _, _, .nil => .nil
  | _, _, .cons r l => .cons (r.mono' s) (ReL.mono' s l)
theorem ReE.mono' {κ : Type} (s : Gr η Hk η' Hk') : ∀ {vs : List (κ × V)} {ds : List (κ × D)}, ReE K η Hk vs ds → ReE K η' Hk' vs ds
  | _, _, .nil => .nil
  | _, _, .cons r l => .cons (r.mono' s) (ReE.mono' s l)
theorem Re.mono (s : Stp η Hk H η' Hk' H') {v : V} {d : D} (h : Re K η Hk v d) : Re K η' Hk' v d := h.mono' s.gr
theorem ReL.mono (s : Stp η Hk H η' Hk' H') {vs : List V} {ds : List D} (h : ReL K η Hk vs ds) : ReL K η' Hk' vs ds := h.mono' s.gr
theorem ReE.mono {κ : Type} (s : Stp η Hk H η' Hk' H') {vs : List (κ × V)} {ds : List (κ × D)} (h : ReE K η Hk vs ds) : ReE K η' Hk' vs ds := h.mono' s.gr
theorem ReL.length : ∀ {vs : List V} {ds : List D}, ReL K η Hk vs ds → vs.length = ds.length
  | _, _, .nil => rfl
  | _, _, .cons _ l => by simp [ReL.length l]
theorem ReL.append : ∀ {vs ws : List V} {ds es : List D}, ReL K η Hk vs ds → ReL K η Hk ws es → ReL K η Hk (vs ++ ws) (ds ++ es)
  | _, _, _, _, .nil, g => g
  | _, _, _, _, .cons r l, g => .cons r (ReL.append l g)
theorem ReL.get : ∀ {vs : List V} {ds : List D} {i : Nat} {v : V}, ReL K η Hk vs ds → vs[i]? = some v → ∃ x, ds[i]? = some x ∧ Re K η Hk v x
  | _, _, _, _, .nil, e => by simp at e
  | _, _, 0, v, .cons r l, e => by simp at e; subst e; exact ⟨_, rfl, r⟩
  | _, _, i + 1, v, .cons r l, e => by simpa using ReL.get l (by simpa using e)
theorem ReL.get' : ∀ {vs : List V} {ds : List D} {i : Nat} {x : D}, ReL K η Hk vs ds → ds[i]? = some x → ∃ v, vs[i]? = some v ∧ Re K η Hk v x
  | _, _, _, _, .nil, e => by simp at e
  | _, _, 0, v, .cons r l, e => by simp at e; subst e; exact ⟨_, rfl, r⟩
  | _, _, i + 1, v, .cons r l, e => by simpa using ReL.get' l (by simpa using e)
theorem ReL.pure : ∀ {vs : List V} {xs : List P}, RpL K Hk vs xs → ReL K η Hk vs (xs.map .p)
  | _, [], h => by cases h; exact .nil
  | _, x :: xs, h => by
    cases h with
    | cons r l => exact .cons r (ReL.pure l)
theorem ReL.impure : ∀ {vs : List V} {xs : List P}, ReL K η Hk vs (xs.map .p) → RpL K Hk vs xs
  | _, [], h => by cases h; exact .nil
  | _, x :: xs, h => by
    cases h with
    | cons r l => exact .cons r (ReL.impure l)
theorem ObjR.mono' {a : Addr} (s : Gr η Hk η' Hk') {J J' : Hp} (e : J' a = J a) : ∀ {o : O}, ObjR K η Hk J a o → ObjR K η' Hk' J' a o
  | .lst _, ⟨z, vs, h, l⟩ => ⟨z, vs, e.trans h, l.mono' s⟩
  | .dk _, ⟨z, vs, h, l⟩ => ⟨z, vs, e.trans h, l.mono' s⟩
  | .dt _, ⟨z, vs, h, l⟩ => ⟨z, vs, e.trans h, l.mono' s⟩
  | .ft _ _ _, ⟨z, h, l⟩ => ⟨z, e.trans h, l.mono' s⟩
  | .ins _ _, ⟨z, dx, gs, h, l⟩ => ⟨z, dx, gs, e.trans h, l.mono' s⟩
  | .dead, _ => trivial
theorem ObjR.mono {a : Addr} (s : Stp η Hk H η' Hk' H') {J J' : Hp} (e : J' a = J a) {o : O} (h : ObjR K η Hk J a o) : ObjR K η' Hk' J' a o := h.mono' s.gr e
theorem Ok.not_mem (k : Ok K η Hk H S) {b : Addr} (h : H b = none) : b ∉ η := fun hb => by
  obtain ⟨o, e⟩ := k.there b hb
  rw [h] at e; cases e
theorem Ok.knone (k : Ok K η Hk H S) {b : Addr} (h : H b = none) : Hk b = none := k.ex.none h
/-- a new immutable object -/
theorem Ok.alloc (k : Ok K η Hk H S) {b : Addr} (h : H b = none) (o : HO) : Ok K η (upd Hk b o) (upd H b o) S ∧ Stp η Hk H η (upd Hk b o) (upd H b o) := by
  have hk := k.knone h
  have hb := k.not_mem h
  have st : Stp η Hk H η (upd Hk b o) (upd H b o) := ⟨.new hk, ⟨[], by simp⟩, fun c u e _ => by rw [upd_ne (ne_of_none e h)]; exact e, fun c hc => .inl hc, fun c hc => by
    by_cases e : c = b
    · subst e; exact .inr (.inr (.inl h))
    · rw [upd_ne e] at hc; exact .inr (.inl hc), fun c hc => by
    by_cases e : c = b
    · subst e; rw [upd_same]; simp
    · rw [upd_ne e]; exact hc⟩
  refine ⟨⟨fun a u e => ?_, k.len, k.nd, fun i a u e1 e2 nd => ?_, fun a ha => ?_, fun i a u e1 e2 => ?_⟩, st⟩
  · by_cases q : a = b
    · subst q; rw [upd_same] at e ⊢; exact e
    · rw [upd_ne q] at e ⊢; exact k.ex _ _ e
  · have ha : a ∈ η := List.mem_of_getElem? e1
    rw [upd_mem ha hb]
    exact k.hid i a u e1 e2 nd
  · obtain ⟨u, e⟩ := k.there a ha
    exact ⟨u, by rw [upd_mem ha hb]; exact e⟩
  · have ha : a ∈ η := List.mem_of_getElem? e1
    exact (k.obj i a u e1 e2).mono st (upd_mem ha hb)
/-- a new owned object -/
theorem Ok.allocOwn (k : Ok K η Hk H S) {b : Addr} (h : H b = none) {u : HO} {o : O} (hO : ObjR K (η ++ [b]) Hk (upd H b u) b o) : Ok K (η ++ [b]) Hk (upd H b u) (S ++ [o]) ∧ Stp η Hk H (η ++ [b]) Hk (upd H b u) := by
  have hk := k.knone h
  have hb := k.not_mem h
  have st : Stp η Hk H (η ++ [b]) Hk (upd H b u) := ⟨.refl _, ⟨[b], rfl⟩, fun c u e _ => by rw [upd_ne (ne_of_none e h)]; exact e, fun c hc => by
    rcases List.mem_append.mp hc with z | z
    · exact .inl z
    · rw [List.mem_singleton] at z; subst z; exact .inr h, fun c hc => .inr (.inl hc), fun c hc => by
    by_cases e : c = b
    · subst e; rw [upd_same]; simp
    · rw [upd_ne e]; exact hc⟩
  have split : ∀ {i : Nat} {a : Addr} {o' : O}, (η ++ [b])[i]? = some a → (S ++ [o])[i]? = some o' → (η[i]? = some a ∧ S[i]? = some o') ∨ (a = b ∧ o' = o) := by
    intro i a o' e1 e2
    by_cases hi : i < η.length
    · rw [List.getElem?_append_left hi] at e1
      rw [List.getElem?_append_left (k.len ▸ hi)] at e2
      exact .inl ⟨e1, e2⟩
    · rw [List.getElem?_append_right (by omega)] at e1
      rw [List.getElem?_append_right (by have := k.len; omega)] at e2
      have q1 := (List.getElem?_eq_some_iff.mp e1).1
      simp at q1
      have q0 : i - η.length = 0 := by omega
      have q00 : i - S.length = 0 := by have := k.len; omega
      rw [q0] at e1; rw [q00] at e2
      simp at e1 e2
      exact .inr ⟨e1.symm, e2.symm⟩
  refine ⟨⟨fun a v e => ?_, by simp [k.len], ?_, fun i a o' e1 e2 nd => ?_, fun a ha => ?_, fun i a o' e1 e2 => ?_⟩, st⟩
  · rw [upd_ne fun q => by rw [q, hk] at e; cases e]; exact k.ex _ _ e
  · exact List.nodup_append.mpr ⟨k.nd, by simp, fun a ha c hc e => by simp at hc; subst hc; subst e; exact hb ha⟩
  · rcases split e1 e2 with ⟨e1, e2⟩ | ⟨rfl, rfl⟩
    · exact k.hid i a o' e1 e2 nd
    · exact hk
  · rcases List.mem_append.mp ha with z | z
    · obtain ⟨v, e⟩ := k.there a z
      exact ⟨v, by rw [upd_mem z hb]; exact e⟩
    · rw [List.mem_singleton] at z; subst z; exact ⟨u, upd_same⟩
  · rcases split e1 e2 with ⟨e1, e2⟩ | ⟨rfl, rfl⟩
    · have ha : a ∈ η := List.mem_of_getElem? e1
      exact (k.obj i a o' e1 e2).mono st (upd_mem ha hb)
    · exact hO
/-- an owned object is changed -/
theorem Ok.write (k : Ok K η Hk H S) {i : Nat} {a : Addr} {o₀ o : O} {u : HO} (e1 : η[i]? = some a) (e2 : S[i]? = some o₀) (hd : o₀ ≠ .dead) (hO : ObjR K η Hk (upd H a u) a o) :
    Ok K η Hk (upd H a u) (S.set i o) ∧ Stp η Hk H η Hk (upd H a u) := by
  have ha : a ∈ η := List.mem_of_getElem? e1
  have hk := k.hid i a o₀ e1 e2 hd
  have uniq : ∀ {j : Nat} {b : Addr}, η[j]? = some b → b = a → j = i := fun {j b} h1 h2 => by
    subst h2
    exact (List.getElem?_inj (List.getElem?_eq_some_iff.mp h1).1 k.nd).mp (h1.trans e1.symm)
  have st : Stp η Hk H η Hk (upd H a u) := ⟨.refl _, ⟨[], by simp⟩, fun c v e hc => by rw [upd_nmem hc ha]; exact e, fun c hc => .inl hc, fun c hc => .inr (.inl hc), fun c hc => by
    by_cases e : c = a
    · subst e; rw [upd_same]; simp
    · rw [upd_ne e]; exact hc⟩
  refine ⟨⟨fun c v e => ?_, by simp [k.len], k.nd, fun j b o' h1 h2 nd => ?_, fun c hc => ?_, fun j b o' h1 h2 => ?_⟩, st⟩
  · rw [upd_ne fun q => by rw [q, hk] at e; cases e]; exact k.ex _ _ e
  · by_cases hj : j = i
    · subst hj; rw [e1] at h1; cases h1; exact hk
    · rw [List.getElem?_set_ne (Ne.symm hj)] at h2
      exact k.hid j b o' h1 h2 nd
  · by_cases e : c = a
    · subst e; exact ⟨u, upd_same⟩
    · obtain ⟨v, q⟩ := k.there c hc
      exact ⟨v, by rw [upd_ne e]; exact q⟩
  · by_cases hj : j = i
    · subst hj; rw [e1] at h1; cases h1
      rw [List.getElem?_set_self (List.getElem?_eq_some_iff.mp e2).1] at h2
      cases h2
      exact hO
    · rw [List.getElem?_set_ne (Ne.symm hj)] at h2
      exact (k.obj j b o' h1 h2).mono st (upd_ne fun q => hj (uniq h1 q))
/-- an owned object is frozen: nobody owns it any more -/
theorem Ok.freeze (k : Ok K η Hk H S) {i : Nat} {a : Addr} {o₀ : O} {u : HO} (e1 : η[i]? = some a) (e2 : S[i]? = some o₀) (hd : o₀ ≠ .dead) (hu : H a = some u) :
    Ok K η (upd Hk a u) H (S.set i .dead) ∧ Stp η Hk H η (upd Hk a u) H := by
  have ha : a ∈ η := List.mem_of_getElem? e1
  have hk := k.hid i a o₀ e1 e2 hd
  have uniq : ∀ {j : Nat} {b : Addr}, η[j]? = some b → b = a → j = i := fun {j b} h1 h2 => by
    subst h2
    exact (List.getElem?_inj (List.getElem?_eq_some_iff.mp h1).1 k.nd).mp (h1.trans e1.symm)
  have st : Stp η Hk H η (upd Hk a u) H := ⟨.new hk, ⟨[], by simp⟩, fun c v e hc => e, fun c hc => .inl hc, fun c hc => by
    by_cases e : c = a
    · subst e; exact .inl ha
    · rw [upd_ne e] at hc; exact .inr (.inl hc), fun c hc => hc⟩
  refine ⟨⟨fun c v e => ?_, by simp [k.len], k.nd, fun j b o' h1 h2 nd => ?_, k.there, fun j b o' h1 h2 => ?_⟩, st⟩
  · by_cases q : c = a
    · subst q; rw [upd_same] at e; rw [hu]; exact e
    · rw [upd_ne q] at e; exact k.ex _ _ e
  · by_cases hj : j = i
    · subst hj
      rw [List.getElem?_set_self (List.getElem?_eq_some_iff.mp e2).1] at h2
      exact absurd (Option.some.inj h2).symm nd
    · rw [List.getElem?_set_ne (Ne.symm hj)] at h2
      rw [upd_ne fun q => hj (uniq h1 q)]
      exact k.hid j b o' h1 h2 nd
  · by_cases hj : j = i
    · subst hj
      rw [List.getElem?_set_self (List.getElem?_eq_some_iff.mp e2).1] at h2
      cases h2; trivial
    · rw [List.getElem?_set_ne (Ne.symm hj)] at h2
      exact (k.obj j b o' h1 h2).mono st rfl
/-- a foreign object at b is changed -/
theorem Ok.foreign (k : Ok K η Hk H S) {b : Addr} (hb : b ∉ η) (hk : Hk b = none) (u : HO) : Ok K η Hk (upd H b u) S := by
  have st : Stp η Hk H η Hk H := .refl
  refine ⟨fun c v e => ?_, k.len, k.nd, k.hid, fun c hc => ?_, fun j c o' h1 h2 => ?_⟩
  · rw [upd_ne fun q => by rw [q, hk] at e; cases e]; exact k.ex _ _ e
  · obtain ⟨v, q⟩ := k.there c hc
    exact ⟨v, by rw [upd_mem hc hb]; exact q⟩
  · have hc : c ∈ η := List.mem_of_getElem? h1
    exact (k.obj j c o' h1 h2).mono st (upd_mem hc hb)
/-- a foreign object is known from now on -/
theorem Ok.adopt (k : Ok K η Hk H S) {b : Addr} {u : HO} (hb : b ∉ η) (hk : Hk b = none) (hu : H b = some u) : Ok K η (upd Hk b u) H S := by
  have gr : Gr η Hk η (upd Hk b u) := ⟨.new hk, ⟨[], by simp⟩⟩
  refine ⟨fun a o e => ?_, k.len, k.nd, fun i a o e1 e2 nd => ?_, k.there, fun i a o e1 e2 => (k.obj i a o e1 e2).mono' gr rfl⟩
  · by_cases z : a = b
    · subst z; rw [upd_same] at e; rw [hu]; exact e
    · rw [upd_ne z] at e; exact k.ex _ _ e
  · rw [upd_mem (List.mem_of_getElem? e1) hb]
    exact k.hid i a o e1 e2 nd
/-- an owned object that is dead is known, with another face, from now on -/
theorem Ok.relearn (k : Ok K η Hk H S) {b : Addr} {u : HO} (hb : ∀ (i : Nat) o, η[i]? = some b → S[i]? = some o → o = .dead) (hk : Hk b = none) (hu : H b = some u) : Ok K η (upd Hk b u) H S := by
  have gr : Gr η Hk η (upd Hk b u) := ⟨.new hk, ⟨[], by simp⟩⟩
  refine ⟨fun a o e => ?_, k.len, k.nd, fun i a o e1 e2 nd => ?_, k.there, fun i a o e1 e2 => (k.obj i a o e1 e2).mono' gr rfl⟩
  · by_cases z : a = b
    · subst z; rw [upd_same] at e; rw [hu]; exact e
    · rw [upd_ne z] at e; exact k.ex _ _ e
  · by_cases z : a = b
    · subst z; exact absurd (hb i o e1 e2) nd
    · rw [upd_ne z]; exact k.hid i a o e1 e2 nd
/-- a foreign object is owned from now on -/
theorem Ok.adoptOwn (k : Ok K η Hk H S) {b : Addr} {o : O} (hb : b ∉ η) (hk : Hk b = none) (ht : ∃ u, H b = some u) (hO : ObjR K (η ++ [b]) Hk H b o) : Ok K (η ++ [b]) Hk H (S ++ [o]) := by
  have gr : Gr η Hk (η ++ [b]) Hk := ⟨.refl _, ⟨[b], rfl⟩⟩
  have split : ∀ {i : Nat} {a : Addr} {o' : O}, (η ++ [b])[i]? = some a → (S ++ [o])[i]? = some o' → (η[i]? = some a ∧ S[i]? = some o') ∨ (a = b ∧ o' = o) := by
    intro i a o' e1 e2
    by_cases hi : i < η.length
    · rw [List.getElem?_append_left hi] at e1
      rw [List.getElem?_append_left (k.len ▸ hi)] at e2
      exact .inl ⟨e1, e2⟩
    · rw [List.getElem?_append_right (by omega)] at e1
      rw [List.getElem?_append_right (by have := k.len; omega)] at e2
      have q1 := (List.getElem?_eq_some_iff.mp e1).1
      simp at q1
      have q0 : i - η.length = 0 := by omega
      have q00 : i - S.length = 0 := by have := k.len; omega
      rw [q0] at e1; rw [q00] at e2
      simp at e1 e2
      exact .inr ⟨e1.symm, e2.symm⟩
  refine ⟨k.ex, by simp [k.len], ?_, fun i a o' e1 e2 nd => ?_, fun a ha => ?_, fun i a o' e1 e2 => ?_⟩
  · exact List.nodup_append.mpr ⟨k.nd, by simp, fun a ha c hc e => by simp at hc; subst hc; subst e; exact hb ha⟩
  · rcases split e1 e2 with ⟨e1, e2⟩ | ⟨rfl, rfl⟩
    · exact k.hid i a o' e1 e2 nd
    · exact hk
  · rcases List.mem_append.mp ha with z | z
    · exact k.there a z
    · rw [List.mem_singleton] at z; subst z; exact ht
  · rcases split e1 e2 with ⟨e1, e2⟩ | ⟨rfl, rfl⟩
    · exact (k.obj i a o' e1 e2).mono' gr rfl
    · exact hO
end
end Am
/-! Am: judgements over abstract states, expressions. -/
namespace Am
open PySem L2
/-- a configuration: the known heap, the owned objects, the heap, the store -/
structure Cf (K : PySem.W.Frag) where
  η : List Addr
  Hk : Hp
  H : Hp
  S : List O
  ok : Ok K η Hk H S
def Cf.Le {K : PySem.W.Frag} (c d : Cf K) : Prop := Stp c.η c.Hk c.H d.η d.Hk d.H
def Cf.re {K : PySem.W.Frag} (c : Cf K) (v : V) (d : D) : Prop := Re K c.η c.Hk v d
abbrev Ls := List (Option D)
def Cf.sl {K : PySem.W.Frag} (c : Cf K) (σ : St) (L : Ls) : Prop := L.length = σ.length ∧ ∀ (i : Nat) d, L[i]? = some (some d) → ∃ v, σ[i]? = some (some v) ∧ c.re v d
section
variable {K : PySem.W.Frag} {c d e : Cf K} {σ : St} {L : Ls}
/-- more is known, more is owned: all that a walked thing needs -/
abbrev Cf.Gr (c d : Cf K) : Prop := Am.Gr c.η c.Hk d.η d.Hk
theorem Cf.Le.refl (c : Cf K) : c.Le c := Stp.refl
theorem Cf.Le.trans (x : c.Le d) (y : d.Le e) : c.Le e := Stp.trans x y
theorem Cf.Le.re (x : c.Le d) {v : V} {a : D} (h : c.re v a) : d.re v a := Re.mono x h
theorem Cf.Le.sl (x : c.Le d) (h : c.sl σ L) : d.sl σ L := ⟨h.1, fun i a e => let ⟨v, q, r⟩ := h.2 i a e; ⟨v, q, x.re r⟩⟩
theorem Cf.Le.reL (x : c.Le d) {vs : List V} {ds : List D} (h : ReL K c.η c.Hk vs ds) : ReL K d.η d.Hk vs ds := ReL.mono x h
theorem Cf.Le.gr (x : c.Le d) : c.Gr d := Stp.gr x
theorem Cf.Gr.trans (x : c.Gr d) (y : d.Gr e) : c.Gr e := ⟨x.ex.trans y.ex, by
  obtain ⟨m1, e1⟩ := x.pre
  obtain ⟨m2, e2⟩ := y.pre
  exact ⟨m1 ++ m2, by rw [e2, e1, List.append_assoc]⟩⟩
theorem Cf.Gr.sl (x : c.Gr d) (h : c.sl σ L) : d.sl σ L := ⟨h.1, fun i a e => let ⟨v, q, r⟩ := h.2 i a e; ⟨v, q, Re.mono' x r⟩⟩
theorem Cf.Gr.reL (x : c.Gr d) {vs : List V} {ds : List D} (h : ReL K c.η c.Hk vs ds) : ReL K d.η d.Hk vs ds := h.mono' x
theorem Cf.sl.set (h : c.sl σ L) {i : Nat} {v : V} {a : D} (r : c.re v a) : c.sl (σ.set i (some v)) (L.set i (some a)) := by
  refine ⟨by simp [h.1], fun j b e => ?_⟩
  by_cases hj : j = i
  · subst hj
    have hl : j < L.length := by
      have := (List.getElem?_eq_some_iff.mp e).1
      simpa using this
    rw [List.getElem?_set_self hl] at e
    cases e
    exact ⟨v, List.getElem?_set_self (h.1 ▸ hl), r⟩
  · rw [List.getElem?_set_ne (Ne.symm hj)] at e
    obtain ⟨w, q, r'⟩ := h.2 j b e
    exact ⟨w, by rw [List.getElem?_set_ne (Ne.symm hj)]; exact q, r'⟩
end
abbrev AE := Ls → List O → (D → List O → Prop) → Prop
abbrev AT := Ls → List O → (Bool → List O → Prop) → Prop
abbrev AA := Ls → List O → (List D → List O → Prop) → Prop
abbrev A2 := D → D → List O → (D → List O → Prop) → Prop
abbrev A1 := D → List O → (D → List O → Prop) → Prop
abbrev AC := List D → List O → (D → List O → Prop) → Prop
abbrev AM := D → List D → List O → (D → List O → Prop) → Prop
structure LiftE (K : PySem.W.Frag) (te : TE) (t : AE) : Prop where
  run : ∀ (c : Cf K) (L : Ls) (σ : St) (Post : D → List O → Prop) (Q : VK), c.sl σ L → t L c.S Post → (∀ (d : Cf K) v a, c.Le d → d.re v a → Post a d.S → Q v d.H) → te σ c.H Q
structure LiftT (K : PySem.W.Frag) (tt : TT) (t : AT) : Prop where
  run : ∀ (c : Cf K) (L : Ls) (σ : St) (Post : Bool → List O → Prop) (Q : Bool → Hp → Prop), c.sl σ L → t L c.S Post → (∀ (d : Cf K) b, c.Le d → Post b d.S → Q b d.H) → tt σ c.H Q
structure LiftA (K : PySem.W.Frag) (ta : TA) (t : AA) : Prop where
  run : ∀ (c : Cf K) (L : Ls) (σ : St) (Post : List D → List O → Prop) (Q : List V → Hp → Prop), c.sl σ L → t L c.S Post → (∀ (d : Cf K) vs as, c.Le d → ReL K d.η d.Hk vs as → Post as d.S → Q vs d.H) → ta σ c.H Q
structure Lift2 (K : PySem.W.Frag) (r : R2) (t : A2) : Prop where
  run : ∀ (c : Cf K) (x y : V) (a b : D) (Post : D → List O → Prop) (Q : VK), c.re x a → c.re y b → t a b c.S Post → (∀ (d : Cf K) v a, c.Le d → d.re v a → Post a d.S → Q v d.H) → r x y c.H Q
structure Lift1 (K : PySem.W.Frag) (r : V → Hp → VK → Prop) (t : A1) : Prop where
  run : ∀ (c : Cf K) (x : V) (a : D) (Post : D → List O → Prop) (Q : VK), c.re x a → t a c.S Post → (∀ (d : Cf K) v a, c.Le d → d.re v a → Post a d.S → Q v d.H) → r x c.H Q
structure LiftC (K : PySem.W.Frag) (r : List V → Hp → VK → Prop) (t : AC) : Prop where
  run : ∀ (c : Cf K) (vs : List V) (as : List D) (Post : D → List O → Prop) (Q : VK), ReL K c.η c.Hk vs as → t as c.S Post → (∀ (d : Cf K) v a, c.Le d → d.re v a → Post a d.S → Q v d.H) → r vs c.H Q
structure JE (X : Cx) (e : Expr) (t : AE) : Prop where
  ex : ∃ te, PE X e te ∧ LiftE X.K te t
structure JT (X : Cx) (e : Expr) (t : AT) : Prop where
  ex : ∃ te, PT X e te ∧ LiftT X.K te t
structure JW (X : Cx) (e : Expr) (t : AT) : Prop where
  ex : ∃ te, PW X e te ∧ LiftT X.K te t
structure JA (X : Cx) (es : List Expr) (t : AA) : Prop where
  ex : ∃ te, PA X es te ∧ LiftA X.K te t
/-! ### readings -/
/-- the i-th slot -/
def lk : Ls → Nat → Option D
  | [], _ => none
  | d :: _, 0 => d
  | _ :: r, n + 1 => lk r n
theorem lk_eq : ∀ (L : Ls) (i : Nat) (d : D), lk L i = some d → L[i]? = some (some d)
  | [], _, _, h => by simp [lk] at h
  | x :: r, 0, d, h => by simp [lk] at h; simp [h]
  | x :: r, i + 1, d, h => by simpa using lk_eq r i d h
def aV (i : Nat) : AE := fun L S Post => match lk L i with | some d => Post d S | none => False
def aC (x : P) : AE := fun _ S Post => Post (.p x) S
def aOp (r : A2) (ta tb : AE) : AE := fun L S Post => ta L S fun a S1 => tb L S1 fun b S2 => r a b S2 Post
def aUn (r : A1) (ta : AE) : AE := fun L S Post => ta L S fun a S1 => r a S1 Post
def aCall (r : AC) (t : AA) : AE := fun L S Post => t L S fun as S1 => r as S1 Post
def aNil : AA := fun _ S Post => Post [] S
def aCons (te : AE) (tr : AA) : AA := fun L S Post => te L S fun a S1 => tr L S1 fun as S2 => Post (a :: as) S2
def aIf (t : AT) (ta tb : AE) : AE := fun L S Post => t L S fun b S1 => if b = true then ta L S1 Post else tb L S1 Post
def aTest (te : AE) : AT := fun L S Post => te L S fun a S1 => match a with | .p (.bl b) => Post b S1 | _ => False
def aAnd (t u : AT) : AT := fun L S Post => t L S fun b S1 => if b = true then u L S1 Post else Post false S1
def aOr (t u : AT) : AT := fun L S Post => t L S fun b S1 => if b = true then Post true S1 else u L S1 Post
def aNot (t : AT) : AT := fun L S Post => t L S fun b S1 => Post (!b) S1
def aAndV (ta tb : AE) : AE := fun L S Post => ta L S fun a S1 => match a with | .p (.bl b) => if b = true then tb L S1 Post else Post (.p (.bl false)) S1 | _ => False
def aOrV (ta tb : AE) : AE := fun L S Post => ta L S fun a S1 => match a with | .p (.bl b) => if b = true then Post (.p (.bl true)) S1 else tb L S1 Post | _ => False
def aNotV (ta : AE) : AE := fun L S Post => ta L S fun a S1 => match a with | .p (.bl b) => Post (.p (.bl (!b))) S1 | _ => False
section
variable {X : Cx} {a b e : Expr} {es : List Expr} {ta tb te : AE} {t u : AT} {tr : AA} {pos : Pos}
theorem je_var (i : Nat) {x : Str} (hN : X.N[i]? = some x := by rfl) (hv : Vis X.env.scope x := by first | exact Or.inl rfl | exact Or.inr (Or.inl rfl) | exact Or.inr (Or.inr rfl)) (hd : (x == ("__debug__" : Str)) = false := by decide)
    (hcd : (x == ("__classdict__" : Str)) = false := by decide) : JE X (.Name x pos) (aV i) := by
  refine ⟨_, pe_var hN hv hd hcd, ⟨fun c L σ Post Q hs h q => ?_⟩⟩
  unfold aV at h
  split at h
  · rename_i d hd'
    obtain ⟨v, e1, r⟩ := hs.2 i d (lk_eq _ _ _ hd')
    exact ⟨v, e1, q c v d (.refl c) r h⟩
  · exact h.elim
theorem je_const {x : P} {v : V} (hx : ∀ c : Cf X.K, c.re v (.p x)) (h : PE X e (tC v)) : JE X e (aC x) :=
  ⟨_, h, ⟨fun c L σ Post Q hs h q => q c v (.p x) (.refl c) (hx c) h⟩⟩
theorem je_int {i j} : JE X (.Constant (.int i) j pos) (aC (.int i)) := je_const (fun _ => .int i) pe_int
theorem je_bl {i j} : JE X (.Constant (.bool i) j pos) (aC (.bl i)) := je_const (fun _ => .bl i) pe_bl
theorem je_str {i j} : JE X (.Constant (.str i) j pos) (aC (.str i)) := je_const (fun _ => .str i) pe_str
theorem je_non {j} : JE X (.Constant .none j pos) (aC .non) := je_const (fun _ => .non) pe_non
/-- a module's constant -/
theorem je_glob {x : Str} {v : V} {p : P} {w : Value} (hx : ∀ c : Cf X.K, c.re v (.p p)) (hg : Gl X x) (hm : X.mg x = some w) (r : RelV v w) (hd : (x == ("__debug__" : Str)) = false := by decide) : JE X (.Name x pos) (aC p) :=
  je_const hx (pe_glob hg hm r hd)
theorem je_op {op : Operator} {r : R2} {ra : A2} (ho : OpR X (binaryOp op) r) (hr : Lift2 X.K r ra) (ha : JE X a ta) (hb : JE X b tb) : JE X (.BinOp a op b pos) (aOp ra ta tb) := by
  obtain ⟨t1, p1, l1⟩ := ha
  obtain ⟨t2, p2, l2⟩ := hb
  refine ⟨_, pe_op ho p1 p2, ⟨fun c L σ Post Q hs h q => ?_⟩⟩
  refine l1.run c L σ _ _ hs h fun d v x le re h => ?_
  refine l2.run d L σ _ _ (le.sl hs) h fun d2 v2 x2 le2 re2 h => ?_
  exact hr.run d2 v v2 x x2 Post Q (le2.re re) re2 h fun d3 v3 x3 le3 re3 h => q d3 v3 x3 (le.trans (le2.trans le3)) re3 h
theorem je_un {op : UnaryOp} {r : V → Hp → VK → Prop} {ra : A1} (ho : UnR X (unaryOp op) r) (hr : Lift1 X.K r ra) (ha : JE X a ta) : JE X (.UnaryOp op a pos) (aUn ra ta) := by
  obtain ⟨t1, p1, l1⟩ := ha
  refine ⟨_, pe_un ho p1, ⟨fun c L σ Post Q hs h q => ?_⟩⟩
  refine l1.run c L σ _ _ hs h fun d v x le re h => ?_
  exact hr.run d v x Post Q re h fun d3 v3 x3 le3 re3 h => q d3 v3 x3 (le.trans le3) re3 h
theorem lift_op {r : R2} {ra : A2} {t1 t2 : TE} (hr : Lift2 X.K r ra) (l1 : LiftE X.K t1 ta) (l2 : LiftE X.K t2 tb) : LiftE X.K (tOp r t1 t2) (aOp ra ta tb) := by
  refine ⟨fun c L σ Post Q hs h q => ?_⟩
  refine l1.run c L σ _ _ hs h fun d v x le re h => ?_
  refine l2.run d L σ _ _ (le.sl hs) h fun d2 v2 x2 le2 re2 h => ?_
  exact hr.run d2 v v2 x x2 Post Q (le2.re re) re2 h fun d3 v3 x3 le3 re3 h => q d3 v3 x3 (le.trans (le2.trans le3)) re3 h
theorem je_cmp {op : CmpOp} {r : R2} {ra : A2} (ho : OpR X (compareOp op) r) (hr : Lift2 X.K r ra) (ha : JE X a ta) (hb : JE X b tb) (hm : behindInMarks op b = false) : JE X (.Compare a [op] [b] pos) (aOp ra ta tb) := by
  obtain ⟨t1, p1, l1⟩ := ha
  obtain ⟨t2, p2, l2⟩ := hb
  exact ⟨_, pe_cmpR ho p1 p2 hm, lift_op hr l1 l2⟩
theorem lift_test {t1 : TE} (l : LiftE X.K t1 te) : LiftT X.K (tTest t1) (aTest te) := by
  refine ⟨fun c L σ Post Q hs h q => ?_⟩
  refine l.run c L σ _ _ hs h fun d v x le re h => ?_
  split at h
  · rename_i k
    cases (show Rp X.K d.Hk v (.bl k) from re)
    exact ⟨k, rfl, q d k le h⟩
  · exact h.elim
theorem jt_cmp {op : CmpOp} {r : R2} {ra : A2} (ho : OpR X (compareOp op) r) (hr : Lift2 X.K r ra) (ha : JE X a ta) (hb : JE X b tb) (hm : behindInMarks op b = false) : JT X (.Compare a [op] [b] pos) (aTest (aOp ra ta tb)) := by
  obtain ⟨t1, p1, l1⟩ := ha
  obtain ⟨t2, p2, l2⟩ := hb
  exact ⟨_, pt_cmpR ho p1 p2 hm, lift_test (lift_op hr l1 l2)⟩
theorem jt_val (h : JE X e te) (he : ∀ whole, isTrue e X.env whole = (do let v ← whole; standAt e.pos; holding [v] (truthy v)) := by intro _; rfl) : JT X e (aTest te) := by
  obtain ⟨t1, p1, l1⟩ := h
  exact ⟨_, pt_val p1 he, ⟨(lift_test l1).run⟩⟩
theorem jw_and1 (h : JT X a t) : JW X (.BoolOp .And [a] pos) t := let ⟨_, p, l⟩ := h; ⟨_, pw_and1 p, l⟩
theorem jw_or1 (h : JT X a t) : JW X (.BoolOp .Or [a] pos) t := let ⟨_, p, l⟩ := h; ⟨_, pw_or1 p, l⟩
theorem JW.jt (h : JW X e t) : JT X e t := let ⟨_, p, l⟩ := h; ⟨_, p.pt, l⟩
theorem jw_and (h : JT X a t) (h2 : JW X (.BoolOp .And (b :: es) pos) u) : JW X (.BoolOp .And (a :: b :: es) pos) (aAnd t u) := by
  obtain ⟨t1, p1, l1⟩ := h
  obtain ⟨t2, p2, l2⟩ := h2
  refine ⟨_, pw_and p1 p2, ⟨fun c L σ Post Q hs h q => ?_⟩⟩
  refine l1.run c L σ _ _ hs h fun d k le h => ?_
  cases k with
  | true =>
    rw [if_pos rfl] at h ⊢
    exact l2.run d L σ _ _ (le.sl hs) h fun d2 k2 le2 h => q d2 k2 (le.trans le2) h
  | false =>
    rw [if_neg Bool.false_ne_true] at h ⊢
    exact q d false le h
theorem jw_or (h : JT X a t) (h2 : JW X (.BoolOp .Or (b :: es) pos) u) : JW X (.BoolOp .Or (a :: b :: es) pos) (aOr t u) := by
  obtain ⟨t1, p1, l1⟩ := h
  obtain ⟨t2, p2, l2⟩ := h2
  refine ⟨_, pw_or p1 p2, ⟨fun c L σ Post Q hs h q => ?_⟩⟩
  refine l1.run c L σ _ _ hs h fun d k le h => ?_
  cases k with
  | true =>
    rw [if_pos rfl] at h ⊢
    exact q d true le h
  | false =>
    rw [if_neg Bool.false_ne_true] at h ⊢
    exact l2.run d L σ _ _ (le.sl hs) h fun d2 k2 le2 h => q d2 k2 (le.trans le2) h
theorem jt_not (h : JT X a t) : JT X (.UnaryOp .Not a pos) (aNot t) := by
  obtain ⟨t1, p1, l1⟩ := h
  exact ⟨_, pt_not p1, ⟨fun c L σ Post Q hs h q => l1.run c L σ _ _ hs h fun d k le h => q d _ le h⟩⟩
theorem je_one {op} (h : JE X a ta) : JE X (.BoolOp op [a] pos) ta := let ⟨_, p, l⟩ := h; ⟨_, pe_one p, l⟩
theorem je_and (h : JE X a ta) (h2 : JE X (.BoolOp .And (b :: es) pos) tb) : JE X (.BoolOp .And (a :: b :: es) pos) (aAndV ta tb) := by
  obtain ⟨t1, p1, l1⟩ := h
  obtain ⟨t2, p2, l2⟩ := h2
  refine ⟨_, pe_and p1 p2, ⟨fun c L σ Post Q hs h q => ?_⟩⟩
  refine l1.run c L σ _ _ hs h fun d v x le re h => ?_
  split at h
  · rename_i k
    cases (show Rp X.K d.Hk v (.bl k) from re)
    refine ⟨k, rfl, ?_⟩
    cases k with
    | true =>
      rw [if_pos rfl] at h ⊢
      exact l2.run d L σ _ _ (le.sl hs) h fun d2 v2 x2 le2 re2 h => q d2 v2 x2 (le.trans le2) re2 h
    | false =>
      rw [if_neg Bool.false_ne_true] at h ⊢
      exact q d _ (.p (.bl false)) le (.bl false) h
  · exact h.elim
theorem je_or (h : JE X a ta) (h2 : JE X (.BoolOp .Or (b :: es) pos) tb) : JE X (.BoolOp .Or (a :: b :: es) pos) (aOrV ta tb) := by
  obtain ⟨t1, p1, l1⟩ := h
  obtain ⟨t2, p2, l2⟩ := h2
  refine ⟨_, pe_or p1 p2, ⟨fun c L σ Post Q hs h q => ?_⟩⟩
  refine l1.run c L σ _ _ hs h fun d v x le re h => ?_
  split at h
  · rename_i k
    cases (show Rp X.K d.Hk v (.bl k) from re)
    refine ⟨k, rfl, ?_⟩
    cases k with
    | true =>
      rw [if_pos rfl] at h ⊢
      exact q d _ (.p (.bl true)) le (.bl true) h
    | false =>
      rw [if_neg Bool.false_ne_true] at h ⊢
      exact l2.run d L σ _ _ (le.sl hs) h fun d2 v2 x2 le2 re2 h => q d2 v2 x2 (le.trans le2) re2 h
  · exact h.elim
theorem je_not (h : JE X a ta) : JE X (.UnaryOp .Not a pos) (aNotV ta) := by
  obtain ⟨t1, p1, l1⟩ := h
  refine ⟨_, pe_not p1, ⟨fun c L σ Post Q hs h q => ?_⟩⟩
  refine l1.run c L σ _ _ hs h fun d v x le re h => ?_
  split at h
  · rename_i k
    cases (show Rp X.K d.Hk v (.bl k) from re)
    exact ⟨k, rfl, q d _ (.p (.bl (!k))) le (.bl (!k)) h⟩
  · exact h.elim
theorem je_if {c : Expr} (hc : JT X c t) (ha : JE X a ta) (hb : JE X b tb) : JE X (.IfExp c a b pos) (aIf t ta tb) := by
  obtain ⟨t0, p0, l0⟩ := hc
  obtain ⟨t1, p1, l1⟩ := ha
  obtain ⟨t2, p2, l2⟩ := hb
  refine ⟨_, pe_ifExp p0 p1 p2, ⟨fun c L σ Post Q hs h q => ?_⟩⟩
  refine l0.run c L σ _ _ hs h fun d k le h => ?_
  cases k with
  | true =>
    rw [if_pos rfl] at h ⊢
    exact l1.run d L σ _ _ (le.sl hs) h fun d2 v2 x2 le2 re2 h => q d2 v2 x2 (le.trans le2) re2 h
  | false =>
    rw [if_neg Bool.false_ne_true] at h ⊢
    exact l2.run d L σ _ _ (le.sl hs) h fun d2 v2 x2 le2 re2 h => q d2 v2 x2 (le.trans le2) re2 h
theorem ja_nil : JA X [] aNil := ⟨_, pa_nil, ⟨fun c L σ Post Q hs h q => q c [] [] (.refl c) .nil h⟩⟩
theorem lift_cons {t1 : TE} {t2 : TA} (l1 : LiftE X.K t1 te) (l2 : LiftA X.K t2 tr) : LiftA X.K (tCons t1 t2) (aCons te tr) := by
  refine ⟨fun c L σ Post Q hs h q => ?_⟩
  refine l1.run c L σ _ _ hs h fun d v x le re h => ?_
  refine l2.run d L σ _ _ (le.sl hs) h fun d2 vs as le2 re2 h => ?_
  exact q d2 (v :: vs) (x :: as) (le.trans le2) (.cons (le2.re re) re2) h
theorem ja_cons (ha : JE X e te) (hr : JA X es tr) (hs : starEach (e :: es) X.env = (false, eval e X.env) :: starEach es X.env := by rfl) : JA X (e :: es) (aCons te tr) := by
  obtain ⟨t1, p1, l1⟩ := ha
  obtain ⟨t2, p2, l2⟩ := hr
  exact ⟨_, pa_cons p1 p2 hs, lift_cons l1 l2⟩
theorem lift_call {r : List V → Hp → VK → Prop} {ra : AC} {t1 : TA} (hr : LiftC X.K r ra) (l1 : LiftA X.K t1 tr) : LiftE X.K (tCB r t1) (aCall ra tr) := by
  refine ⟨fun c L σ Post Q hs h q => ?_⟩
  refine l1.run c L σ _ _ hs h fun d vs as le re h => ?_
  exact hr.run d vs as Post Q re h fun d2 v x le2 re2 h => q d2 v x (le.trans le2) re2 h
/-- a call of a built-in, of a built-in class -/
theorem je_callB {x : Str} {id : String} {p : Pos} {r : List V → Hp → VK → Prop} {ra : AC} (hc : CallR X (.builtin id) r) (hr : LiftC X.K r ra) (hg : Gl X x) (hm : X.mg x = none) (hv : bootBuiltins x = some (.builtin id)) (ha : JA X (e :: es) tr)
    (hn : x ≠ "__name__" := by decide) (hdb : (x == ("__debug__" : Str)) = false := by decide) (he : starEach (e :: es) X.env = (false, eval e X.env) :: starEach es X.env := by rfl) (hpl : (backTo pos (starEach es X.env)).any (·.1) = false := by rfl) :
    JE X (.Call (.Name x p) (e :: es) [] pos) (aCall ra tr) := by
  obtain ⟨t1, p1, l1⟩ := ha
  exact ⟨_, pe_callB hc hg hm hv p1 hn hdb he hpl, lift_call hr l1⟩
theorem je_callTy {x : Str} {T : String} {p : Pos} {r : List V → Hp → VK → Prop} {ra : AC} (hc : CallR X (.type T) r) (hr : LiftC X.K r ra) (hg : Gl X x) (hm : X.mg x = none) (hv : bootBuiltins x = some (.type T)) (ha : JA X (e :: es) tr)
    (hn : x ≠ "__name__" := by decide) (hdb : (x == ("__debug__" : Str)) = false := by decide) (he : starEach (e :: es) X.env = (false, eval e X.env) :: starEach es X.env := by rfl) (hpl : (backTo pos (starEach es X.env)).any (·.1) = false := by rfl) :
    JE X (.Call (.Name x p) (e :: es) [] pos) (aCall ra tr) := by
  obtain ⟨t1, p1, l1⟩ := ha
  exact ⟨_, pe_callTy hc hg hm hv p1 hn hdb he hpl, lift_call hr l1⟩
end
/-! ### a def's promise -/
/-- what a def does: its arguments, the store, what is wanted behind it -/
abbrev FT := AC
def spOf (K : PySem.W.Frag) (F : FT) : Sp := fun vs H Q _ => ∃ (c : Cf K) (as : List D) (Post : D → List O → Prop), c.H = H ∧ ReL K c.η c.Hk vs as ∧ F as c.S Post ∧ ∀ (d : Cf K) v a, c.Le d → d.re v a → Post a d.S → Q v d.H
/-- as FnOk, where no repr is under way -/
structure FnG (P : Program) (w : World) (K : PySem.W.Frag) (mg : Str → Option Value) (base : Heap) (CX : CXT) (k : Nat) (f : Addr) (fd : FuncData) (ps : List Str) (sp : Sp) : Prop where
  len : ∀ vs H Q E, sp vs H Q E → vs.length = ps.length
  go : ∀ (A : Around) (outer : List Env) (s : Shared) (H : Hp) (args : Args) (us : List Value) (vs : List V) (Q : VK) (E : XK), A.guards = some [] → Room k A → Env0 P w K mg base A outer s H → BindsTo s fd args (ps.zip us) → Vals vs us → sp vs H Q E →
    codeAny (model P w) A (.call (.ref f) args) (CR CX outer P w H s Q E) s
theorem FnG.of {P : Program} {w : World} {K : PySem.W.Frag} {mg : Str → Option Value} {base : Heap} {CX : CXT} {k : Nat} {f : Addr} {fd : FuncData} {ps : List Str} {sp : Sp} (F : FnOk P w K mg base CX k f fd ps sp) : FnG P w K mg base CX k f fd ps sp :=
  ⟨F.len, fun A outer s H args us vs Q E _ hr e b r h => F.run A outer s H args us vs Q E hr e b r h⟩
section
variable {X : Cx} {CX : CXT} {k : Nat} {f : Addr} {fd : FuncData} {ps : List Str} {sp : Sp} {E : XK}
/-- behind a callee's run -/
theorem after_call {τ : St} {G : Hp} {pp : List (Addr × Obj)} {s : Shared} {Q : VK} {args : Args} {us : List Value} {vs : List V} (F : FnG X.prog X.w X.K X.mg X.base CX k f fd ps sp) (hg : X.A.guards = some []) (hr : Room k X.A) (hx : Passes CX X E)
    (J : Inv X pp τ G s) (hb : BindsTo s fd args (ps.zip us)) (r : Vals vs us) (h : sp vs G Q E) : codeAny (model X.prog X.w) X.A (.call (.ref f) args) (fun r s' => match r with
      | .ok (.ret u) => EP X pp τ Q u s'
      | .error e => X.xe e s'
      | _ => False) s := by
  refine codeAny_mono (F.go X.A X.stack s G args us vs Q E hg hr J.env0 hb r h) fun r s' hq => ?_
  cases r with
  | error e => exact hx pp τ G s e s' J hq
  | ok fl =>
    cases fl with
    | ret u => exact J.after hq
    | _ => exact hq.elim
theorem run_g {pp : List (Addr × Obj)} {τ : St} {G : Hp} {s : Shared} {Q : VK} {us : List Value} {vs : List V} (F : FnG X.prog X.w X.K X.mg X.base CX k f fd ps sp) (hg : X.A.guards = some []) (hr : Room k X.A) (hb : Binds X.K fd ps []) (hx : Passes CX X E)
    (J : Inv X pp τ G s) (r : Vals vs us) (h : sp vs G Q E) : wpAny (model X.prog X.w) X.A (call (.ref f) us) (EP X pp τ Q) X.xe s := by
  have hl : (us ++ []).length = ps.length := by rw [List.append_nil, ← r.length]; exact F.len _ _ _ _ h
  have b := hb s us J.kIn hl
  rw [List.append_nil] at b
  refine wpAny_call (codeAny_mono (after_call F hg hr hx J b r h) fun r s' hq => ?_)
  cases r with
  | error e => exact hq
  | ok fl => cases fl <;> first | exact hq | exact hq.elim
/-- keywords alone -/
theorem run_gk {pp : List (Addr × Obj)} {τ : St} {G : Hp} {s : Shared} {Q : VK} {ks : List Str} {us ws xs : List Value} {vs : List V} (F : FnG X.prog X.w X.K X.mg X.base CX k f fd ps sp) (hg : X.A.guards = some []) (hr : Room k X.A) (hb : BindsTo s fd ⟨us, ks.zip ws⟩ (ps.zip xs)) (hx : Passes CX X E)
    (J : Inv X pp τ G s) (r : Vals vs xs) (h : sp vs G Q E) : wpAny (model X.prog X.w) X.A (call (.ref f) us (ks.zip ws)) (EP X pp τ Q) X.xe s := by
  refine wpAny_call (codeAny_mono (after_call F hg hr hx J hb r h) fun r s' hq => ?_)
  cases r with
  | error e => exact hq
  | ok fl => cases fl <;> first | exact hq | exact hq.elim
variable {e : Expr} {es : List Expr} {tr : AA} {pos p : Pos} {F : FT} {x : Str}
theorem lift_sp {t1 : TA} {tr : AA} (l1 : LiftA X.K t1 tr) : LiftE X.K (fun σ H Q => t1 σ H fun vs H1 => spOf X.K F vs H1 Q E) (aCall F tr) :=
  ⟨fun c L σ Post Q hs h q => l1.run c L σ _ _ hs h fun d vs as le re h => ⟨d, as, Post, rfl, re, h, fun d2 v a le2 re2 h => q d2 v a (le.trans le2) re2 h⟩⟩
theorem je_call (G : FnG X.prog X.w X.K X.mg X.base CX k f fd ps (spOf X.K F)) (hgd : X.A.guards = some []) (hr : Room k X.A) (hg : Gl X x) (hm : X.mg x = some (.ref f)) (hk : PySem.W.keepIn X.K (.ref f) = true) (hb : Binds X.K fd ps []) (hx : Passes CX X E)
    (ha : JA X (e :: es) tr) (hdb : (x == ("__debug__" : Str)) = false := by decide) (he : starEach (e :: es) X.env = (false, eval e X.env) :: starEach es X.env := by rfl) (hpl : (backTo pos (starEach es X.env)).any (·.1) = false := by rfl) :
    JE X (.Call (.Name x p) (e :: es) [] pos) (aCall F tr) := by
  obtain ⟨t1, p1, l1⟩ := ha
  refine ⟨_, ⟨fun pp s τ H Q J h => ?_⟩, lift_sp (E := E) l1⟩
  refine wpAny_Call_Name_kw (ld_glob J hg hm (PySem.W.callWith_K (h₀ := X.base) J.ok.mod.kin hk (thn (p1.run pos pp s τ H _ J h) fun us s1 ⟨vs, H1, J1, r, q⟩ => ⟨J1.kIn, ?_⟩) he hpl) hdb)
  exact run_g G hgd hr hb hx J1 r q
theorem je_call0 (G : FnG X.prog X.w X.K X.mg X.base CX k f fd ps (spOf X.K F)) (hgd : X.A.guards = some []) (hr : Room k X.A) (hg : Gl X x) (hm : X.mg x = some (.ref f)) (hk : PySem.W.keepIn X.K (.ref f) = true) (hb : Binds X.K fd ps []) (hx : Passes CX X E)
    (hdb : (x == ("__debug__" : Str)) = false := by decide) : JE X (.Call (.Name x p) [] [] pos) (aCall F aNil) := by
  refine ⟨_, ⟨fun pp s τ H Q J h => ?_⟩, lift_sp (E := E) (t1 := tNil) (tr := aNil) ⟨fun c L σ Post Q hs h q => q c [] [] (.refl c) .nil h⟩⟩
  exact wpAny_Call_Name_kw (ld_glob J hg hm (PySem.W.callWith_K0 J.kIn hk (run_g (us := []) G hgd hr hb hx J .nil h)) hdb)
/-- the keywords' values, from the left -/
structure JK (X : Cx) (kws : List Keyword) (t : AA) : Prop where
  ex : ∃ te, PK X kws te ∧ LiftA X.K te t
theorem jk_nil : JK X [] aNil := ⟨_, pk_nil, ⟨fun c L σ Post Q hs h q => q c [] [] (.refl c) .nil h⟩⟩
theorem jk_cons {kws : List Keyword} {nm : Option Str} {kpos : Pos} {te : AE} {t : AA} (ha : JE X e te) (hr : JK X kws t) : JK X (⟨nm, e, kpos⟩ :: kws) (aCons te t) := by
  obtain ⟨t1, p1, l1⟩ := ha
  obtain ⟨t2, p2, l2⟩ := hr
  exact ⟨_, pk_cons p1 p2, lift_cons l1 l2⟩
/-- f(k = v, ..): g puts the values into the parameters' order -/
theorem je_callK {kws : List Keyword} {ks : List Str} {g : ∀ {α : Type}, List α → List α} (G : FnG X.prog X.w X.K X.mg X.base CX k f fd ps (spOf X.K F)) (hgd : X.A.guards = some []) (hr : Room k X.A) (hg : Gl X x) (hm : X.mg x = some (.ref f)) (hk : PySem.W.keepIn X.K (.ref f) = true)
    (hb : ∀ (s : Shared) (ws : List Value), ws.length = kws.length → BindsTo s fd ⟨[], ks.zip ws⟩ (ps.zip (g ws))) (hgR : ∀ {vs : List V} {ws : List Value}, vs.length = kws.length → Vals vs ws → Vals (g vs) (g ws)) (hgD : ∀ (c : Cf X.K) {vs : List V} {as : List D}, vs.length = kws.length → ReL X.K c.η c.Hk vs as → ReL X.K c.η c.Hk (g vs) (g as)) (hx : Passes CX X E)
    (ha : JK X kws tr) (hall : (backToKw pos (keywordEach kws X.env)).all (·.1.isSome) = true := by rfl) (hks : (backToKw pos (keywordEach kws X.env)).filterMap (·.1) = ks := by rfl) (hdb : (x == ("__debug__" : Str)) = false := by decide)
    (hpl : ((backTo pos (starEach [] X.env)).any (·.1) || (backToKw pos (keywordEach kws X.env)).any (·.1.isNone)) = false := by rfl) :
    JE X (.Call (.Name x p) [] kws pos) (aCall (fun as S Post => as.length = kws.length ∧ F (g as) S Post) tr) := by
  obtain ⟨t1, p1, l1⟩ := ha
  refine ⟨fun σ H Q => t1 σ H fun vs H1 => vs.length = kws.length ∧ spOf X.K F (g vs) H1 Q E, ⟨fun pp s τ H Q J h => ?_⟩, ⟨fun c L σ Post Q hs h q => l1.run c L σ _ _ hs h fun d vs as le re h => ⟨by rw [re.length]; exact h.1, d, g as, Post, rfl, hgD d (by rw [re.length]; exact h.1) re, h.2, fun d2 v a le2 re2 h => q d2 v a (le.trans le2) re2 h⟩⟩⟩
  refine wpAny_Call_Name_kw (ld_glob J hg hm (PySem.W.callWith_KW0 (h₀ := X.base) J.ok.mod.kin hk hall (thn (p1.run pos pp s τ H _ J h) fun ws s1 ⟨vs, H1, J1, r, hl, q⟩ => ⟨J1.kIn, ?_⟩) hpl) hdb)
  rw [hks]
  exact run_gk (us := []) G hgd hr (hb s1 ws (by rw [← r.length]; exact hl)) hx J1 (hgR hl r) q
end
end Am
/-! Am: statements, targets, loops, comprehensions, the body of a def. -/
namespace Am
open PySem L2
structure En where
  nx : Ls → List O → Prop
  rt : D → List O → Prop
  bk : Ls → List O → Prop := fun _ _ => False
  ct : Ls → List O → Prop := fun _ _ => False
abbrev AS := En → Ls → List O → Prop
abbrev AG := D → Ls → List O → (Ls → List O → Prop) → Prop
abbrev AGs := List D → Ls → List O → (Ls → List O → Prop) → Prop
structure LiftS (K : PySem.W.Frag) (ts : TS) (t : AS) : Prop where
  run : ∀ (c : Cf K) (L : Ls) (σ : St) (E : En) (D : Ends), c.sl σ L → t E L c.S →
    (∀ (d : Cf K) σ' L', c.Le d → d.sl σ' L' → E.nx L' d.S → D.nx σ' d.H) → (∀ (d : Cf K) v a, c.Le d → d.re v a → E.rt a d.S → D.rt v d.H) →
    (∀ (d : Cf K) σ' L', c.Le d → d.sl σ' L' → E.bk L' d.S → D.bk σ' d.H) → (∀ (d : Cf K) σ' L', c.Le d → d.sl σ' L' → E.ct L' d.S → D.ct σ' d.H) → ts D σ c.H
structure LiftG (K : PySem.W.Frag) (tg : TG) (t : AG) : Prop where
  run : ∀ (c : Cf K) (L : Ls) (σ : St) (v : V) (a : D) (Post : Ls → List O → Prop) (Q : St → Hp → Prop), c.sl σ L → c.re v a → t a L c.S Post → (∀ (d : Cf K) σ' L', c.Le d → d.sl σ' L' → Post L' d.S → Q σ' d.H) → tg v σ c.H Q
structure LiftGs (K : PySem.W.Frag) (tg : TGs) (t : AGs) : Prop where
  run : ∀ (c : Cf K) (L : Ls) (σ : St) (vs : List V) (as : List D) (Post : Ls → List O → Prop) (Q : St → Hp → Prop), c.sl σ L → ReL K c.η c.Hk vs as → t as L c.S Post → (∀ (d : Cf K) σ' L', c.Le d → d.sl σ' L' → Post L' d.S → Q σ' d.H) → tg vs σ c.H Q
structure JS (X : Cx) (st : Stmt) (t : AS) : Prop where
  ex : ∃ ts, PS X st ts ∧ LiftS X.K ts t
structure JB (X : Cx) (st : List Stmt) (t : AS) : Prop where
  ex : ∃ ts, PSs X st ts ∧ LiftS X.K ts t
structure JG (X : Cx) (tg : Expr) (t : AG) : Prop where
  ex : ∃ ts, PG X tg ts ∧ LiftG X.K ts t
structure JGs (X : Cx) (tg : List Expr) (t : AGs) : Prop where
  ex : ∃ ts, PGs X tg ts ∧ LiftGs X.K ts t
def sNext : AS := fun E L S => E.nx L S
/-- one after the other; sealed, so that nothing runs through it by itself -/
def seqI (t u : AS) : AS := fun E L S => t { E with nx := u E } L S
theorem seq_ex : ∃ f : AS → AS → AS, f = seqI := ⟨_, rfl⟩
noncomputable def sSeq : AS → AS → AS := Classical.choose seq_ex
theorem sSeq_run (t u : AS) (E : En) (L : Ls) (S : List O) : sSeq t u E L S = t { E with nx := u E } L S := by
  have e : sSeq = seqI := Classical.choose_spec seq_ex
  rw [e]; rfl
def sBreak : AS := fun E L S => E.bk L S
def sCont : AS := fun E L S => E.ct L S
def sDrop (t : AE) : AS := fun E L S => t L S fun _ S1 => E.nx L S1
def sRet (t : AE) : AS := fun E L S => t L S E.rt
def sRetN : AS := fun E _ S => E.rt (.p .non) S
def sIf (t : AT) (u w : AS) : AS := fun E L S => t L S fun b S1 => if b = true then u E L S1 else w E L S1
def sNever : AS := fun _ _ _ => False
def sAsg (t : AE) (g : AG) : AS := fun E L S => t L S fun a S1 => g a L S1 E.nx
def agName (i : Nat) : AG := fun a L S Post => Post (L.set i (some a)) S
def agNil : AGs := fun as L S Post => match as with | [] => Post L S | _ => False
def agCons (g : AG) (r : AGs) : AGs := fun as L S Post => match as with | a :: as => g a L S fun L1 S1 => r as L1 S1 Post | [] => False
/-- a, b = a tuple -/
def agTup (n : Nat) (g : AGs) : AG := fun a L S Post => match a with | .p (.tup xs) => xs.length = n ∧ g (xs.map .p) L S Post | _ => False
section
variable {X : Cx} {st : Stmt} {rest : List Stmt} {t u : AS} {e : Expr} {te : AE} {pos : Pos}
theorem jb_nil : JB X [] sNext := ⟨_, pss_nil, ⟨fun c L σ E D hs h k1 k2 k3 k4 => k1 c σ L (.refl c) hs h⟩⟩
theorem jb_cons (h1 : JS X st t) (h2 : JB X rest u) : JB X (st :: rest) (sSeq t u) := by
  obtain ⟨t1, p1, l1⟩ := h1
  obtain ⟨t2, p2, l2⟩ := h2
  refine ⟨_, pss_cons p1 p2, ⟨fun c L σ E D hs h k1 k2 k3 k4 => ?_⟩⟩
  rw [sSeq_run] at h
  refine l1.run c L σ _ { D with nx := t2 D } hs h (fun d σ' L' le hs' h => ?_) k2 k3 k4
  exact l2.run d L' σ' E D hs' h (fun d2 σ2 L2 le2 => k1 d2 σ2 L2 (le.trans le2)) (fun d2 v a le2 => k2 d2 v a (le.trans le2)) (fun d2 σ2 L2 le2 => k3 d2 σ2 L2 (le.trans le2)) (fun d2 σ2 L2 le2 => k4 d2 σ2 L2 (le.trans le2))
theorem jb_one (h1 : JS X st t) : JB X [st] t := let ⟨t1, p1, l1⟩ := h1; ⟨_, pss_one p1, l1⟩
theorem js_pass : JS X (.Pass pos) sNext := ⟨_, ps_pass, ⟨fun c L σ E D hs h k1 k2 k3 k4 => k1 c σ L (.refl c) hs h⟩⟩
theorem js_break : JS X (.Break pos) sBreak := ⟨_, ps_break, ⟨fun c L σ E D hs h k1 k2 k3 k4 => k3 c σ L (.refl c) hs h⟩⟩
theorem js_cont : JS X (.Continue pos) sCont := ⟨_, ps_continue, ⟨fun c L σ E D hs h k1 k2 k3 k4 => k4 c σ L (.refl c) hs h⟩⟩
theorem js_expr (he : JE X e te) (hs : swapsWith e none pos.line X.env = pure false := by rfl) : JS X (.Expr e pos) (sDrop te) := by
  obtain ⟨t1, p1, l1⟩ := he
  exact ⟨_, ps_expr p1 hs, ⟨fun c L σ E D hs h k1 k2 k3 k4 => l1.run c L σ _ _ hs h fun d v a le re h => k1 d σ L le (le.sl hs) h⟩⟩
theorem js_ret (he : JE X e te) : JS X (.Return (some e) pos) (sRet te) := by
  obtain ⟨t1, p1, l1⟩ := he
  exact ⟨_, ps_ret p1, ⟨fun c L σ E D hs h k1 k2 k3 k4 => l1.run c L σ _ _ hs h fun d v a le re h => k2 d v a le re h⟩⟩
theorem js_retN : JS X (.Return none pos) sRetN := ⟨_, ps_retN, ⟨fun c L σ E D hs h k1 k2 k3 k4 => k2 c .non (.p .non) (.refl c) .non h⟩⟩
theorem js_if {c : Expr} {a b : List Stmt} {tc : AT} (hc : JT X c tc) (ha : JB X a t) (hb : JB X b u) : JS X (.If c a b pos) (sIf tc t u) := by
  obtain ⟨t0, p0, l0⟩ := hc
  obtain ⟨t1, p1, l1⟩ := ha
  obtain ⟨t2, p2, l2⟩ := hb
  refine ⟨_, ps_if p0 p1 p2, ⟨fun c L σ E D hs h k1 k2 k3 k4 => ?_⟩⟩
  refine l0.run c L σ _ _ hs h fun d k le h => ?_
  cases k with
  | true =>
    rw [if_pos rfl] at h ⊢
    exact l1.run d L σ E D (le.sl hs) h (fun d2 σ2 L2 le2 => k1 d2 σ2 L2 (le.trans le2)) (fun d2 v a le2 => k2 d2 v a (le.trans le2)) (fun d2 σ2 L2 le2 => k3 d2 σ2 L2 (le.trans le2)) (fun d2 σ2 L2 le2 => k4 d2 σ2 L2 (le.trans le2))
  | false =>
    rw [if_neg Bool.false_ne_true] at h ⊢
    exact l2.run d L σ E D (le.sl hs) h (fun d2 σ2 L2 le2 => k1 d2 σ2 L2 (le.trans le2)) (fun d2 v a le2 => k2 d2 v a (le.trans le2)) (fun d2 σ2 L2 le2 => k3 d2 σ2 L2 (le.trans le2)) (fun d2 σ2 L2 le2 => k4 d2 σ2 L2 (le.trans le2))
theorem js_never : JS X st sNever := ⟨_, ps_never, ⟨fun c L σ E D hs h => h.elim⟩⟩
theorem jb_never {sts : List Stmt} : JB X sts sNever := ⟨_, pss_never, ⟨fun c L σ E D hs h => h.elim⟩⟩
/-! ### targets -/
theorem jg_name (i : Nat) {x : Str} (hN : X.N.Nodup) (hi : X.N[i]? = some x := by rfl) (hx : Loc X.env.scope x := by first | exact Or.inl rfl | exact Or.inr rfl) (hf : X.fn x = true ∨ X.env.scope.names.lookup x = some .local := by first | exact .inl rfl | exact .inr rfl | assumption) : JG X (.Name x pos) (agName i) :=
  ⟨_, pg_name hN hi hx hf, ⟨fun c L σ v a Post Q hs re h q => q c _ _ (.refl c) (hs.set re) h⟩⟩
theorem jgs_nil : JGs X [] agNil := by
  refine ⟨_, pgs_nil, ⟨fun c L σ vs as Post Q hs re h q => ?_⟩⟩
  unfold agNil at h
  split at h
  · cases re
    exact ⟨rfl, q c σ L (.refl c) hs h⟩
  · exact h.elim
theorem jgs_cons {es : List Expr} {g : AG} {r : AGs} (h1 : JG X e g) (h2 : JGs X es r) (hs : (assignEach (e :: es) X.env).map (·.2) = assign e X.env :: (assignEach es X.env).map (·.2) := by rfl) : JGs X (e :: es) (agCons g r) := by
  obtain ⟨t1, p1, l1⟩ := h1
  obtain ⟨t2, p2, l2⟩ := h2
  refine ⟨_, pgs_cons p1 p2 hs, ⟨fun c L σ vs as Post Q hs re h q => ?_⟩⟩
  unfold agCons at h
  split at h
  · cases re with
    | cons r1 rr =>
      refine ⟨_, _, rfl, ?_⟩
      refine l1.run c L σ _ _ _ _ hs r1 h fun d σ' L' le hs' h => ?_
      exact l2.run d L' σ' _ _ _ _ hs' (le.reL rr) h fun d2 σ2 L2 le2 hs2 h => q d2 σ2 L2 (le.trans le2) hs2 h
  · exact h.elim
theorem jg_tup {es : List Expr} {k n : Nat} {g : AGs} (hc : X.calm = true) (h : JGs X es g) (hn : (assignEach es X.env).length = n := by rfl) (hst : (assignEach es X.env).findIdx? (·.1) = none := by rfl) : JG X (.Tuple es k pos) (agTup n g) := by
  obtain ⟨t1, p1, l1⟩ := h
  refine ⟨_, pg_tup hc p1 hn hst, ⟨fun c L σ v a Post Q hs re h q => ?_⟩⟩
  unfold agTup at h
  split at h
  · rename_i xs
    cases (show Rp X.K c.Hk v (.tup xs) from re) with
    | tup s z l =>
      obtain ⟨hl, h⟩ := h
      exact ⟨_, _, rfl, c.ok.ex.tq s, by rw [l.length]; exact hl, l1.run c L σ _ _ _ _ hs (ReL.pure l) h q⟩
  · exact h.elim
/-- target = value -/
theorem js_asg {tg : Expr} {g : AG} (he : JE X e te) (hg : JG X tg g) (hs : swapsWithSole [tg] e pos.line X.env = pure false := by rfl) (hw : swappedStores [tg] e X.env = pure none := by rfl)
    (h1 : (assignEach [tg] X.env).map (·.2) = [assign tg X.env] := by rfl) : JS X (.Assign [tg] e pos) (sAsg te g) := by
  obtain ⟨t1, p1, l1⟩ := he
  obtain ⟨t2, p2, l2⟩ := hg
  refine ⟨_, ps_asg p1 p2 hs hw h1, ⟨fun c L σ E D hs h k1 k2 k3 k4 => ?_⟩⟩
  refine l1.run c L σ _ _ hs h fun d v a le re h => ?_
  exact l2.run d L σ v a _ _ (le.sl hs) re h fun d2 σ2 L2 le2 hs2 h => k1 d2 σ2 L2 (le.trans le2) hs2 h
theorem js_set (i : Nat) {x : Str} {pos' : Pos} (hN : X.N.Nodup) (he : JE X e te) (hi : X.N[i]? = some x := by rfl) (hx : Loc X.env.scope x := by first | exact Or.inl rfl | exact Or.inr rfl) (hs : swapsWith e (some (.Name x pos')) pos.line X.env = pure false := by rfl) (hf : X.fn x = true ∨ X.env.scope.names.lookup x = some .local := by first | exact .inl rfl | exact .inr rfl | assumption) :
    JS X (.Assign [.Name x pos'] e pos) (sAsg te (agName i)) := by
  obtain ⟨t1, p1, l1⟩ := he
  refine ⟨_, ps_set hN hi hx p1 hs hf, ⟨fun c L σ E D hs h k1 k2 k3 k4 => ?_⟩⟩
  refine l1.run c L σ _ _ hs h fun d v a le re h => ?_
  exact k1 d _ _ le ((le.sl hs).set re) h
/-- x, y = a, b: names, stored from the right -/
def sPar (i j : Nat) (t : AA) : AS := fun E L S => t L S fun as S1 => match as with | [a, b] => E.nx ((L.set i (some a)).set j (some b)) S1 | _ => False
theorem js_par (i j : Nat) {x y : Str} {a b : Expr} {ta : AA} {px py pt : Pos} {kt k2 pt2} (hc : X.calm = true) (hN : X.N.Nodup) (ha : JA X [a, b] ta) (hw : swappedStores [.Tuple [.Name x px, .Name y py] kt pt] (.Tuple [a, b] k2 pt2) X.env = pure (some [x, y]) := by rfl)
    (hi : X.N[i]? = some x := by rfl) (hj : X.N[j]? = some y := by rfl) (hij : i ≠ j := by decide)
    (hx : X.env.scope.names.lookup x = some .local := by rfl) (hy : X.env.scope.names.lookup y = some .local := by rfl)
    (hs : swapsWithSole [.Tuple [.Name x px, .Name y py] kt pt] (.Tuple [a, b] k2 pt2) pos.line X.env = pure false := by rfl) :
    JS X (.Assign [.Tuple [.Name x px, .Name y py] kt pt] (.Tuple [a, b] k2 pt2) pos) (sPar i j ta) := by
  obtain ⟨t1, p1, l1⟩ := ha
  refine ⟨_, ps_par hc hN hi hj hij hx hy p1 hw hs, ⟨fun c L σ E D hs h k1 k2 k3 k4 => ?_⟩⟩
  refine l1.run c L σ _ _ hs h fun d vs as le re h => ?_
  unfold sPar at h
  split at h
  · cases re with
    | cons r1 re =>
      cases re with
      | cons r2 re =>
        cases re
        exact ⟨_, _, rfl, k1 d _ _ le (((le.sl hs).set r1).set r2) h⟩
  · exact h.elim
end
/-! ### what is walked -/
/-- J yields these items as long as the store keeps -/
structure Wk (K : PySem.W.Frag) (c₀ : Cf K) (J : It) (items : List D) (keep : List O → Prop) : Prop where
  size : items.length ≤ sizeLine
  go : ∀ (c : Cf K) (i : Nat), c₀.Gr c → keep c.S → i < items.length → J.go i c.H
  yld : ∀ (c : Cf K) (i : Nat) (x : V) (H' : Hp), c₀.Gr c → keep c.S → i < items.length → J.yld i c.H x H' → ∃ d : Cf K, d.H = H' ∧ d.S = c.S ∧ c.Le d ∧ ∃ a, items[i]? = some a ∧ d.re x a
  stop : ∀ (c : Cf K) (i : Nat), c₀.Gr c → keep c.S → items.length ≤ i → J.stop i c.H
abbrev AI := Ls → List O → (List D → (List O → Prop) → List O → Prop) → Prop
structure LiftI (K : PySem.W.Frag) (wi : TI) (t : AI) : Prop where
  run : ∀ (c : Cf K) (L : Ls) (σ : St) (Post : List D → (List O → Prop) → List O → Prop) (R : It → Hp → Prop), c.sl σ L → t L c.S Post →
    (∀ (d : Cf K) J items keep, c.Le d → Wk K d J items keep → Post items keep d.S → R J d.H) → wi σ c.H R
structure JI (X : Cx) (tg it : Expr) (t : AI) : Prop where
  ex : ∃ wi, PI X tg it wi ∧ LiftI X.K wi t
/-- the turns of a for loop -/
def forRun (keep : List O → Prop) (g : AG) (b : AS) (E : En) : List D → Ls → List O → Prop
  | [], L, S => keep S ∧ E.nx L S
  | x :: xs, L, S => keep S ∧ g x L S fun L1 S1 => b { E with nx := forRun keep g b E xs, ct := forRun keep g b E xs, bk := E.nx } L1 S1
def sFor (ti : AI) (g : AG) (b : AS) : AS := fun E L S => ti L S fun items keep S1 => forRun keep g b E items L S1
theorem forRun_keep {keep : List O → Prop} {g : AG} {b : AS} {E : En} {L : Ls} {S : List O} : ∀ {xs : List D}, forRun keep g b E xs L S → keep S
  | [], h => h.1
  | _ :: _, h => h.1
section
variable {X : Cx} {iter tg : Expr} {body : List Stmt} {ti : AI} {g : AG} {b : AS} {pos : Pos}
theorem js_for (hp : PassesOwn (model X.prog X.w) X.A X.env X.xe) (hc : X.calm = true) (hi : JI X tg iter ti) (hg : JG X tg g) (hb : JB X body b) (hs : ∀ x, foldedSetIterable iter X.env x = pure x := by intro _; rfl) : JS X (.For tg iter body [] pos) (sFor ti g b) := by
  obtain ⟨wi, p1, l1⟩ := hi
  obtain ⟨tg', p2, l2⟩ := hg
  obtain ⟨tb, p3, l3⟩ := hb
  refine ⟨_, ps_for hp hc p1 p2 p3 hs, ⟨fun c L σ E D hs h k1 k2 k3 k4 => ?_⟩⟩
  refine l1.run c L σ _ _ hs h fun d J items keep le wk h => ?_
  refine ⟨fun i m σ' H' => ∃ (d' : Cf X.K) (L' : Ls), d'.H = H' ∧ m = items.length - i ∧ i ≤ items.length ∧ d.Le d' ∧ d'.sl σ' L' ∧ forRun keep g b E (items.drop i) L' d'.S,
    ⟨items.length, d, L, rfl, by simp, Nat.zero_le _, .refl d, le.sl hs, h⟩, ?_⟩
  rintro i m σ' H' ⟨d', L', rfl, rfl, hi, le', hs', h'⟩
  have hk := forRun_keep h'
  by_cases hlt : i < items.length
  · rw [List.drop_eq_getElem_cons hlt] at h'
    obtain ⟨_, h'⟩ := h'
    refine .inr ⟨wk.go d' i le'.gr hk hlt, fun σ2 H2 => ∃ (d2 : Cf X.K) (L2 : Ls), d2.H = H2 ∧ d.Le d2 ∧ d2.sl σ2 L2 ∧ forRun keep g b E (items.drop (i + 1)) L2 d2.S, fun σ2 H2 ⟨d2, L2, e, le2, hs2, h2⟩ => ⟨items.length - (i + 1), by omega, d2, L2, e, rfl, hlt, le2, hs2, h2⟩, fun x H'' y => ?_⟩
    obtain ⟨d1, rfl, hS, le1, a, ea, ra⟩ := wk.yld d' i x H'' le'.gr hk hlt y
    have ea' : a = items[i] := by rw [List.getElem?_eq_getElem hlt] at ea; exact (Option.some.inj ea).symm
    subst ea'
    rw [← hS] at h'
    refine l2.run d1 L' σ' x _ _ _ (le1.sl hs') ra h' fun d2 σ2 L2 le2 hs2 h2 => ?_
    refine l3.run d2 L2 σ2 _ _ hs2 h2 (fun d3 σ3 L3 le3 hs3 h3 => ?_) (fun d3 v a le3 r3 h3 => ?_) (fun d3 σ3 L3 le3 hs3 h3 => ?_) (fun d3 σ3 L3 le3 hs3 h3 => ?_)
    · exact ⟨d3, L3, rfl, le'.trans (le1.trans (le2.trans le3)), hs3, h3⟩
    · exact k2 d3 v a (le.trans (le'.trans (le1.trans (le2.trans le3)))) r3 h3
    · exact k1 d3 σ3 L3 (le.trans (le'.trans (le1.trans (le2.trans le3)))) hs3 h3
    · exact ⟨d3, L3, rfl, le'.trans (le1.trans (le2.trans le3)), hs3, h3⟩
  · rw [List.drop_eq_nil_of_le (by omega)] at h'
    exact .inl ⟨wk.stop d' i le'.gr hk (by omega), k1 d' σ' L' (le.trans le') hs' h'.2⟩
end
/-! ### while -/
/-- at most n turns -/
def whileRun (t : AT) (b : AS) (E : En) : Nat → Ls → List O → Prop
  | 0, _, _ => False
  | n + 1, L, S => t L S fun k S1 => if k = true then b { E with nx := whileRun t b E n, ct := whileRun t b E n, bk := E.nx } L S1 else E.nx L S1
def sWhile (t : AT) (b : AS) : AS := fun E L S => ∃ n, whileRun t b E n L S
section
variable {X : Cx} {c : Expr} {body : List Stmt} {t : AT} {b : AS} {pos : Pos}
theorem js_while (hp : PassesOwn (model X.prog X.w) X.A X.env X.xe) (hc : JT X c t) (hb : JB X body b) : JS X (.While c body [] pos) (sWhile t b) := by
  obtain ⟨t1, p1, l1⟩ := hc
  obtain ⟨t2, p2, l2⟩ := hb
  refine ⟨_, ps_while hp p1 p2, ⟨fun c L σ E D hs h k1 k2 k3 k4 => ?_⟩⟩
  obtain ⟨n, h⟩ := h
  refine ⟨fun m σ' H' => ∃ (d : Cf X.K) (L' : Ls), d.H = H' ∧ c.Le d ∧ d.sl σ' L' ∧ whileRun t b E m L' d.S, ⟨n, c, L, rfl, .refl c, hs, h⟩, ?_⟩
  rintro m σ' H' ⟨d, L', rfl, le, hs', h'⟩
  cases m with
  | zero => exact h'.elim
  | succ m =>
    refine l1.run d L' σ' _ _ hs' h' fun d1 k le1 h1 => ?_
    cases k with
    | true =>
      rw [if_pos rfl] at h1 ⊢
      refine ⟨fun σ2 H2 => ∃ (d2 : Cf X.K) (L2 : Ls), d2.H = H2 ∧ c.Le d2 ∧ d2.sl σ2 L2 ∧ whileRun t b E m L2 d2.S, fun σ2 H2 h2 => ⟨m, Nat.lt_succ_self _, h2⟩, ?_⟩
      refine l2.run d1 L' σ' _ _ (le1.sl hs') h1 (fun d3 σ3 L3 le3 hs3 h3 => ?_) (fun d3 v a le3 r3 h3 => ?_) (fun d3 σ3 L3 le3 hs3 h3 => ?_) (fun d3 σ3 L3 le3 hs3 h3 => ?_)
      · exact ⟨d3, L3, rfl, le.trans (le1.trans le3), hs3, h3⟩
      · exact k2 d3 v a (le.trans (le1.trans le3)) r3 h3
      · exact k1 d3 σ3 L3 (le.trans (le1.trans le3)) hs3 h3
      · exact ⟨d3, L3, rfl, le.trans (le1.trans le3), hs3, h3⟩
    | false =>
      rw [if_neg Bool.false_ne_true] at h1 ⊢
      exact k1 d1 σ' L' (le.trans le1) (le1.sl hs') h1
end
/-! ### comprehensions -/
def wipeL (L : Ls) : List Nat → Ls
  | [] => L
  | v :: vs => (wipeL L vs).set v none
theorem Cf.sl.wipe {K : PySem.W.Frag} {c : Cf K} {σ : St} {L : Ls} (h : c.sl σ L) : ∀ vs : List Nat, c.sl (L2.wipe σ vs) (wipeL L vs)
  | [] => h
  | v :: vs => by
    have ih := Cf.sl.wipe h vs
    refine ⟨by simp [wipeL, L2.wipe, ih.1], fun i a e => ?_⟩
    have e : ((wipeL L vs).set v none)[i]? = some (some a) := e
    by_cases hv : v = i
    · subst hv
      rw [List.getElem?_set_self (by have := (List.getElem?_eq_some_iff.mp e).1; simpa using this)] at e
      cases e
    · rw [List.getElem?_set_ne hv] at e
      obtain ⟨w, q, r⟩ := ih.2 i a e
      refine ⟨w, ?_, r⟩
      show ((L2.wipe σ vs).set v none)[i]? = _
      rw [List.getElem?_set_ne hv]
      exact q
structure JTs (X : Cx) (ifs : List Expr) (t : AT) : Prop where
  ex : ∃ te, PTs X ifs te ∧ LiftT X.K te t
def aYes : AT := fun _ S Post => Post true S
theorem jts_nil {X : Cx} : JTs X [] aYes := ⟨_, pts_nil, ⟨fun c L σ Post Q hs h q => q c true (.refl c) h⟩⟩
theorem jts_one {X : Cx} {c : Expr} {t : AT} (h : JT X c t) : JTs X [c] t := let ⟨_, p, l⟩ := h; ⟨_, pts_one p, l⟩
/-- a target that stores its names in the block's own slots alone -/
structure JGo (X : Cx) (vs : List Nat) (tg : Expr) (t : AG) : Prop where
  ex : ∃ ts, PG X tg ts ∧ ∀ (c : Cf X.K) (L : Ls) (σ : St) (v : V) (a : D) (Post : Ls → List O → Prop) (Q : St → Hp → Prop), c.sl (wipe σ vs) L → c.re v a → t a L c.S Post →
    (∀ (d : Cf X.K) σ' L', c.Le d → d.sl σ' L' → wipe σ' vs = wipe σ vs → Post L' d.S → Q σ' d.H) → ts v (wipe σ vs) c.H Q
theorem wipe_set {σ : St} {i : Nat} {v : Option V} : ∀ {vs : List Nat}, i ∈ vs → wipe (σ.set i v) vs = wipe σ vs
  | w :: vs, h => by
    show (wipe (σ.set i v) vs).set w none = (wipe σ vs).set w none
    by_cases hi : i ∈ vs
    · rw [wipe_set hi]
    · have hw : i = w := by
        rcases List.mem_cons.mp h with z | z
        · exact z
        · exact absurd z hi
      subst hw
      have key : ∀ us : List Nat, i ∉ us → wipe (σ.set i v) us = (wipe σ us).set i v := by
        intro us
        induction us with
        | nil => intro _; rfl
        | cons u us ih =>
          intro hu
          rw [List.mem_cons, not_or] at hu
          show (wipe (σ.set i v) us).set u none = ((wipe σ us).set u none).set i v
          rw [ih hu.2, List.set_comm _ _ hu.1]
      rw [key vs hi, List.set_set]
theorem wipe_wipe {σ : St} : ∀ {vs : List Nat}, wipe (wipe σ vs) vs = wipe σ vs := by
  intro vs
  have key : ∀ us : List Nat, (∀ u ∈ us, u ∈ vs) → wipe (wipe σ us) vs = wipe σ vs := by
    intro us
    induction us with
    | nil => intro _; rfl
    | cons u us ih =>
      intro hu
      show wipe ((wipe σ us).set u none) vs = _
      rw [wipe_set (hu u (by simp)), ih fun x hx => hu x (List.mem_cons_of_mem _ hx)]
  exact key vs fun _ h => h
theorem jgo_name {X : Cx} {vs : List Nat} {pos : Pos} (i : Nat) {x : Str} (hN : X.N.Nodup) (hv : i ∈ vs := by decide) (hi : X.N[i]? = some x := by rfl) (hx : Loc X.env.scope x := by first | exact Or.inl rfl | exact Or.inr rfl) (hf : X.fn x = true ∨ X.env.scope.names.lookup x = some .local := by first | exact .inl rfl | exact .inr rfl | assumption) : JGo X vs (.Name x pos) (agName i) :=
  ⟨_, pg_name hN hi hx hf, fun c L σ v a Post Q hs re h q => q c _ _ (.refl c) (hs.set re) (by rw [wipe_set hv, wipe_wipe]) h⟩
structure JGos (X : Cx) (vs : List Nat) (tg : List Expr) (t : AGs) : Prop where
  ex : ∃ ts, PGs X tg ts ∧ ∀ (c : Cf X.K) (L : Ls) (σ σ0 : St) (ws : List V) (as : List D) (Post : Ls → List O → Prop) (Q : St → Hp → Prop), c.sl σ L → wipe σ vs = wipe σ0 vs → ReL X.K c.η c.Hk ws as → t as L c.S Post →
    (∀ (d : Cf X.K) σ' L', c.Le d → d.sl σ' L' → wipe σ' vs = wipe σ0 vs → Post L' d.S → Q σ' d.H) → ts ws σ c.H Q
theorem jgos_nil {X : Cx} {vs : List Nat} : JGos X vs [] agNil := by
  refine ⟨_, pgs_nil, fun c L σ σ0 ws as Post Q hs hw re h q => ?_⟩
  unfold agNil at h
  split at h
  · cases re
    exact ⟨rfl, q c σ L (.refl c) hs hw h⟩
  · exact h.elim
theorem jgos_name {X : Cx} {vs : List Nat} {pos : Pos} {es : List Expr} {r : AGs} (i : Nat) {x : Str} (hN : X.N.Nodup) (h2 : JGos X vs es r) (hv : i ∈ vs := by decide) (hi : X.N[i]? = some x := by rfl) (hx : Loc X.env.scope x := by first | exact Or.inl rfl | exact Or.inr rfl)
    (hf : X.fn x = true ∨ X.env.scope.names.lookup x = some .local := by first | exact .inl rfl | exact .inr rfl | assumption)
    (hs : (assignEach ((Expr.Name x pos) :: es) X.env).map (·.2) = assign (Expr.Name x pos) X.env :: (assignEach es X.env).map (·.2) := by rfl) : JGos X vs (.Name x pos :: es) (agCons (agName i) r) := by
  obtain ⟨t2, p2, l2⟩ := h2
  refine ⟨_, pgs_cons (pg_name hN hi hx hf) p2 hs, fun c L σ σ0 ws as Post Q hs hw re h q => ?_⟩
  unfold agCons at h
  split at h
  · cases re with
    | cons r1 rr =>
      exact ⟨_, _, rfl, l2 c _ _ σ0 _ _ _ _ (hs.set r1) (by rw [wipe_set hv]; exact hw) rr h q⟩
  · exact h.elim
theorem jgo_tup {X : Cx} {vs : List Nat} {pos : Pos} {es : List Expr} {k n : Nat} {g : AGs} (hc : X.calm = true) (h : JGos X vs es g) (hn : (assignEach es X.env).length = n := by rfl) (hst : (assignEach es X.env).findIdx? (·.1) = none := by rfl) : JGo X vs (.Tuple es k pos) (agTup n g) := by
  obtain ⟨t1, p1, l1⟩ := h
  refine ⟨_, pg_tup hc p1 hn hst, fun c L σ v a Post Q hs re h q => ?_⟩
  unfold agTup at h
  split at h
  · rename_i xs
    cases (show Rp X.K c.Hk v (.tup xs) from re) with
    | tup s z l =>
      obtain ⟨hl, h⟩ := h
      exact ⟨_, _, rfl, c.ok.ex.tq s, by rw [l.length]; exact hl, l1 c L _ σ _ _ _ _ hs wipe_wipe (ReL.pure l) h q⟩
  · exact h.elim
/-- the turns of a list comprehension; acc: what is made so far -/
def lcRun (keep : List O → Prop) (g : AG) (t : AT) (e : AE) (L : Ls) (Post : List D → List O → Prop) : List D → List D → List O → Prop
  | [], acc, S => keep S ∧ Post acc S
  | x :: xs, acc, S => keep S ∧ g x L S fun L1 S1 => t L1 S1 fun b S2 => if b = true then e L1 S2 fun y S3 => lcRun keep g t e L Post xs (acc ++ [y]) S3 else lcRun keep g t e L Post xs acc S2
theorem lcRun_keep {keep : List O → Prop} {g : AG} {t : AT} {e : AE} {L : Ls} {Post : List D → List O → Prop} {acc : List D} {S : List O} : ∀ {xs : List D}, lcRun keep g t e L Post xs acc S → keep S
  | [], h => h.1
  | _ :: _, h => h.1
/-- a frozen list; an owned one -/
def aLc (ti : AI) (g : AG) (t : AT) (e : AE) (vs : List Nat) : AE := fun L S Post => ti L S fun items keep S1 => lcRun keep g t e (wipeL L vs) (fun acc S2 => ∃ xs : List P, acc = xs.map .p ∧ Post (.p (.lst xs)) S2) items [] S1
def aLcO (ti : AI) (g : AG) (t : AT) (e : AE) (vs : List Nat) : AE := fun L S Post => ti L S fun items keep S1 => lcRun keep g t e (wipeL L vs) (fun acc S2 => Post (.own S2.length) (S2 ++ [.lst acc])) items [] S1
section
variable {K : PySem.W.Frag}
/-- a configuration with one more foreign object at D -/
def Cf.with (c : Cf K) (D : Addr) (u : HO) (h1 : D ∉ c.η) (h2 : c.Hk D = none) : Cf K := ⟨c.η, c.Hk, upd c.H D u, c.S, c.ok.foreign h1 h2 u⟩
theorem lift_lc {wi : TI} {tg : TG} {tt : TT} {te : TE} {ti : AI} {g : AG} {t : AT} {e : AE} {vs : List Nat} (l1 : LiftI K wi ti)
    (l2 : ∀ (c : Cf K) (L : Ls) (σ : St) (v : V) (a : Am.D) (Post : Ls → List O → Prop) (Q : St → Hp → Prop), c.sl (wipe σ vs) L → c.re v a → g a L c.S Post →
      (∀ (d : Cf K) σ' L', c.Le d → d.sl σ' L' → wipe σ' vs = wipe σ vs → Post L' d.S → Q σ' d.H) → tg v (wipe σ vs) c.H Q) (l3 : LiftT K tt t) (l4 : LiftE K te e)
    (c : Cf K) (L : Ls) (σ : St) (Post : List Am.D → List O → Prop) (Q : VK) (hs : c.sl σ L) (h : ti L c.S fun items keep S1 => lcRun keep g t e (wipeL L vs) Post items [] S1)
    (q : ∀ (d : Cf K) (D : Addr) (xs : List V) (acc : List Am.D), c.Le d → D ∉ d.η → d.Hk D = none → c.H D = none → d.H D = some (.lst xs) → acc.length ≤ sizeLine → ReL K d.η d.Hk xs acc → Post acc d.S → Q (.ref D) d.H) : tLc wi tg tt te vs σ c.H Q := by
  refine l1.run c L σ _ _ hs h fun d J items keep le wk h => ?_
  intro D hD
  have dη := d.ok.not_mem hD
  have dk := d.ok.knone hD
  have cD : c.H D = none := by
    cases z : c.H D with
    | none => rfl
    | some o => exact absurd hD (le.kept D (by rw [z]; simp))
  refine ⟨fun i m H' => ∃ (d' : Cf K) (xs : List V) (acc : List Am.D), d'.H = H' ∧ m = items.length - i ∧ i ≤ items.length ∧ d.Le d' ∧ D ∉ d'.η ∧ d'.Hk D = none ∧ H' D = some (.lst xs) ∧ acc.length ≤ i ∧ ReL K d'.η d'.Hk xs acc ∧ lcRun keep g t e (wipeL L vs) Post (items.drop i) acc d'.S,
    ⟨items.length, d.with D (.lst []) dη dk, [], [], rfl, by simp, Nat.zero_le _, ?_, dη, dk, upd_same, Nat.le_refl _, .nil, h⟩, ?_⟩
  · exact ⟨.refl _, ⟨[], by simp [Cf.with]⟩, fun b o e hb => by show upd d.H D _ b = _; rw [upd_ne (ne_of_none e hD)]; exact e, fun b hb => .inl hb, fun b hb => .inr (.inl hb), fun b hb => by
      show upd d.H D _ b ≠ none
      by_cases e : b = D
      · subst e; rw [upd_same]; simp
      · rw [upd_ne e]; exact hb⟩
  rintro i m H' ⟨d', xs, acc, rfl, rfl, hi, le', nD, kD, hH, ha, rl, h'⟩
  have hk := lcRun_keep h'
  by_cases hlt : i < items.length
  · rw [List.drop_eq_getElem_cons hlt] at h'
    obtain ⟨_, h'⟩ := h'
    -- through any step the list at D stays
    have stay : ∀ {f f' : Cf K} {ys : List V}, f.Le f' → D ∉ f.η → f.Hk D = none → f.H D = some (.lst ys) → D ∉ f'.η ∧ f'.Hk D = none ∧ f'.H D = some (.lst ys) := fun {f f' ys} l n1 n2 n3 => by
      refine ⟨fun z => ?_, ?_, l.fr D _ n3 n1⟩
      · rcases l.newE D z with z | z
        · exact n1 z
        · rw [n3] at z; cases z
      · cases z : f'.Hk D with
        | none => rfl
        | some o =>
          rcases l.newK D (by rw [z]; simp) with y | y | y | ⟨_, y⟩
          · exact absurd y n1
          · exact absurd n2 y
          · rw [n3] at y; cases y
          · rw [n3] at y; cases y
    refine .inr ⟨wk.go d' i le'.gr hk hlt, fun H2 => ∃ (d2 : Cf K) (xs : List V) (acc : List Am.D), d2.H = H2 ∧ d.Le d2 ∧ D ∉ d2.η ∧ d2.Hk D = none ∧ H2 D = some (.lst xs) ∧ acc.length ≤ i + 1 ∧ ReL K d2.η d2.Hk xs acc ∧ lcRun keep g t e (wipeL L vs) Post (items.drop (i + 1)) acc d2.S,
      fun H2 ⟨d2, xs, acc, e, le2, n1, n2, n3, n4, n5, n6⟩ => ⟨items.length - (i + 1), by omega, d2, xs, acc, e, rfl, hlt, le2, n1, n2, n3, n4, n5, n6⟩, fun x H'' y => ?_⟩
    obtain ⟨d1, rfl, hS, le1, a, ea, ra⟩ := wk.yld d' i x H'' le'.gr hk hlt y
    have ea' : a = items[i] := by rw [List.getElem?_eq_getElem hlt] at ea; exact (Option.some.inj ea).symm
    subst ea'
    rw [← hS] at h'
    obtain ⟨n1, k1, hH1⟩ := stay le1 nD kD hH
    refine l2 d1 (wipeL L vs) σ x _ _ _ (((le.trans (le'.trans le1)).sl hs).wipe vs) ra h' fun d2 σ2 L2 le2 hs2 hw2 h2 => ?_
    obtain ⟨n2, k2, hH2⟩ := stay le2 n1 k1 hH1
    refine ⟨hw2, ?_⟩
    refine l3.run d2 L2 σ2 _ _ hs2 h2 fun d3 b le3 h3 => ?_
    obtain ⟨n3, k3, hH3⟩ := stay le3 n2 k2 hH2
    have le03 : d'.Le d3 := le1.trans (le2.trans le3)
    cases b with
    | true =>
      rw [if_pos rfl] at h3 ⊢
      refine l4.run d3 L2 σ2 _ _ (le3.sl hs2) h3 fun d4 v a4 le4 r4 h4 => ?_
      obtain ⟨n4, k4, hH4⟩ := stay le4 n3 k3 hH3
      have le04 : d'.Le d4 := le03.trans le4
      have hlen : acc.length < sizeLine := by have := wk.size; omega
      refine ⟨xs, hH4, by rw [rl.length]; exact hlen, ?_⟩
      refine ⟨d4.with D (.lst (xs ++ [v])) n4 k4, xs ++ [v], acc ++ [a4], rfl, ?_, n4, k4, upd_same, by simp; omega, (le04.reL rl).append (.cons r4 .nil), h4⟩
      have l5 := le'.trans le04
      refine ⟨l5.ex, l5.pre, fun b o e hb => ?_, l5.newE, l5.newK, fun b hb => ?_⟩
      · show upd d4.H D _ b = _
        rw [upd_ne (ne_of_none e hD)]
        exact l5.fr b o e hb
      · show upd d4.H D _ b ≠ none
        by_cases e : b = D
        · subst e; rw [upd_same]; simp
        · rw [upd_ne e]; exact l5.kept b hb
    | false =>
      rw [if_neg Bool.false_ne_true] at h3 ⊢
      exact ⟨d3, xs, acc, rfl, le'.trans le03, n3, k3, hH3, by omega, le03.reL rl, h3⟩
  · rw [List.drop_eq_nil_of_le (by omega)] at h'
    refine .inl ⟨wk.stop d' i le'.gr hk (by omega), ?_⟩
    exact q d' D xs acc (le.trans le') nD kD cD hH (by have := wk.size; omega) rl h'.2
/-- the new list is known, or owned, from now on -/
theorem Cf.Le.adopt {c d : Cf K} (le : c.Le d) {D : Addr} {u : HO} (nD : D ∉ d.η) (kD : d.Hk D = none) (cD : c.H D = none) (hD : d.H D = some u) : ∃ e : Cf K, e.H = d.H ∧ e.S = d.S ∧ e.η = d.η ∧ e.Hk = upd d.Hk D u ∧ c.Le e :=
  ⟨⟨d.η, upd d.Hk D u, d.H, d.S, d.ok.adopt nD kD hD⟩, rfl, rfl, rfl, rfl, ⟨le.ex.trans (.new kD), le.pre, le.fr, le.newE, fun b hb => by
    by_cases e : b = D
    · subst e; exact .inr (.inr (.inl cD))
    · have hb : upd d.Hk D u b ≠ none := hb
      rw [upd_ne e] at hb; exact le.newK b hb, le.kept⟩⟩
theorem Cf.Le.adoptOwn {c d : Cf K} (le : c.Le d) {D : Addr} {o : O} (nD : D ∉ d.η) (kD : d.Hk D = none) (cD : c.H D = none) (hD : ∃ u, d.H D = some u) (hO : ObjR K (d.η ++ [D]) d.Hk d.H D o) : ∃ e : Cf K, e.H = d.H ∧ e.S = d.S ++ [o] ∧ e.η = d.η ++ [D] ∧ e.Hk = d.Hk ∧ c.Le e :=
  ⟨⟨d.η ++ [D], d.Hk, d.H, d.S ++ [o], d.ok.adoptOwn nD kD hD hO⟩, rfl, rfl, rfl, rfl, ⟨le.ex, let ⟨m, e⟩ := le.pre; ⟨m ++ [D], by show d.η ++ [D] = _; rw [e, List.append_assoc]⟩, le.fr, fun b hb => by
    rcases List.mem_append.mp hb with z | z
    · exact le.newE b z
    · rw [List.mem_singleton] at z; subst z; exact .inr cD, le.newK, le.kept⟩⟩
theorem lift_lcF {wi : TI} {tg : TG} {tt : TT} {te : TE} {ti : AI} {g : AG} {t : AT} {e : AE} {vs : List Nat} (l1 : LiftI K wi ti)
    (l2 : ∀ (c : Cf K) (L : Ls) (σ : St) (v : V) (a : Am.D) (Post : Ls → List O → Prop) (Q : St → Hp → Prop), c.sl (wipe σ vs) L → c.re v a → g a L c.S Post →
      (∀ (d : Cf K) σ' L', c.Le d → d.sl σ' L' → wipe σ' vs = wipe σ vs → Post L' d.S → Q σ' d.H) → tg v (wipe σ vs) c.H Q) (l3 : LiftT K tt t) (l4 : LiftE K te e) : LiftE K (tLc wi tg tt te vs) (aLc ti g t e vs) := by
  refine ⟨fun c L σ Post Q hs h q => lift_lc l1 l2 l3 l4 c L σ _ Q hs h fun d D xs acc le nD kD cD hH hz rl ⟨ps, ea, p⟩ => ?_⟩
  subst ea
  have rp := ReL.impure rl
  obtain ⟨f, e1, e2, e3, e4, lf⟩ := le.adopt nD kD cD hH
  rw [← e1]
  refine q f (.ref D) (.p (.lst ps)) lf ?_ (by rw [e2]; exact p)
  have hx : Ex d.Hk f.Hk := by rw [e4]; exact .new kD
  exact .lst (by rw [e4]; exact upd_same) (by simpa using hz) (RpL.mono hx ps xs rp)
theorem lift_lcO {wi : TI} {tg : TG} {tt : TT} {te : TE} {ti : AI} {g : AG} {t : AT} {e : AE} {vs : List Nat} (l1 : LiftI K wi ti)
    (l2 : ∀ (c : Cf K) (L : Ls) (σ : St) (v : V) (a : Am.D) (Post : Ls → List O → Prop) (Q : St → Hp → Prop), c.sl (wipe σ vs) L → c.re v a → g a L c.S Post →
      (∀ (d : Cf K) σ' L', c.Le d → d.sl σ' L' → wipe σ' vs = wipe σ vs → Post L' d.S → Q σ' d.H) → tg v (wipe σ vs) c.H Q) (l3 : LiftT K tt t) (l4 : LiftE K te e) : LiftE K (tLc wi tg tt te vs) (aLcO ti g t e vs) := by
  refine ⟨fun c L σ Post Q hs h q => lift_lc l1 l2 l3 l4 c L σ _ Q hs h fun d D xs acc le nD kD cD hH hz rl p => ?_⟩
  obtain ⟨f, e1, e2, e3, e4, lf⟩ := le.adoptOwn (o := .lst acc) nD kD cD ⟨_, hH⟩ ⟨hz, xs, hH, rl.mono' ⟨.refl _, ⟨[D], rfl⟩⟩⟩
  rw [← e1]
  refine q f (.ref D) (.own d.S.length) lf ⟨D, ?_, rfl⟩ (by rw [e2]; exact p)
  rw [e3, ← d.ok.len]
  simp
end
section
variable {X : Cx}
abbrev Blk (X : Cx) (scope : Scope) (J : Cx → Prop) : Prop := ∀ (s : Shared) (H : Hp) (C : Addr) (cl : List (Str × Addr)) (fp : List Addr), J (X.blk s H scope (compEnvC scope cl C X.env) fp)
end
end Am
/-! Am: comprehensions as expressions, what is walked, a def by its body. -/
namespace Am
open PySem L2
/-! ### the reading that a lifted one stands for -/
def conE (K : PySem.W.Frag) (t : AE) : TE := fun σ H Q => ∃ (c : Cf K) (L : Ls) (Post : D → List O → Prop), c.H = H ∧ c.sl σ L ∧ t L c.S Post ∧ ∀ (d : Cf K) v a, c.Le d → d.re v a → Post a d.S → Q v d.H
def conT (K : PySem.W.Frag) (t : AT) : TT := fun σ H Q => ∃ (c : Cf K) (L : Ls) (Post : Bool → List O → Prop), c.H = H ∧ c.sl σ L ∧ t L c.S Post ∧ ∀ (d : Cf K) b, c.Le d → Post b d.S → Q b d.H
def conG (K : PySem.W.Frag) (vs : List Nat) (t : AG) : TG := fun v σ0 H Q => ∃ (c : Cf K) (L : Ls) (σ : St) (a : D) (Post : Ls → List O → Prop), c.H = H ∧ σ0 = wipe σ vs ∧ c.sl σ0 L ∧ c.re v a ∧ t a L c.S Post ∧
  ∀ (d : Cf K) σ' L', c.Le d → d.sl σ' L' → wipe σ' vs = wipe σ vs → Post L' d.S → Q σ' d.H
theorem conE_lift {K : PySem.W.Frag} {t : AE} : LiftE K (conE K t) t := ⟨fun c L σ Post Q hs h q => ⟨c, L, Post, rfl, hs, h, q⟩⟩
theorem conT_lift {K : PySem.W.Frag} {t : AT} : LiftT K (conT K t) t := ⟨fun c L σ Post Q hs h q => ⟨c, L, Post, rfl, hs, h, q⟩⟩
section
variable {X : Cx}
theorem JE.can {e : Expr} {t : AE} (h : JE X e t) : PE X e (conE X.K t) := by
  obtain ⟨te, p, l⟩ := h
  refine ⟨fun pins s σ H Q I ⟨c, L, Post, e1, hs, h, q⟩ => ?_⟩
  subst e1
  exact p.run pins s σ _ Q I (l.run c L σ Post Q hs h q)
theorem JTs.can {e : List Expr} {t : AT} (h : JTs X e t) : PTs X e (conT X.K t) := by
  obtain ⟨te, p, l⟩ := h
  refine ⟨fun pins s σ H Q I ⟨c, L, Post, e1, hs, h, q⟩ => ?_⟩
  subst e1
  exact p.run pins s σ _ Q I (l.run c L σ Post Q hs h q)
theorem JGo.can {vs : List Nat} {e : Expr} {t : AG} (h : JGo X vs e t) : PG X e (conG X.K vs t) := by
  obtain ⟨te, p, l⟩ := h
  refine ⟨fun pins s σ H v u Q I r ⟨c, L, σ1, a, Post, e1, e2, hs, re, h, q⟩ => ?_⟩
  subst e1
  subst e2
  exact p.run pins s _ _ v u Q I r (l c L σ1 v a Post Q hs re h q)
theorem conG_lift {K : PySem.W.Frag} {vs : List Nat} {t : AG} (c : Cf K) (L : Ls) (σ : St) (v : V) (a : D) (Post : Ls → List O → Prop) (Q : St → Hp → Prop) (hs : c.sl (wipe σ vs) L) (re : c.re v a) (h : t a L c.S Post)
    (q : ∀ (d : Cf K) σ' L', c.Le d → d.sl σ' L' → wipe σ' vs = wipe σ vs → Post L' d.S → Q σ' d.H) : conG K vs t v (wipe σ vs) c.H Q := ⟨c, L, σ, a, Post, rfl, rfl, hs, re, h, q⟩
section
variable {elt tg iter : Expr} {ifs : List Expr} {scope : Scope} {own : List (Str × Nat)} {pos : Pos} {ti : AI} {g : AG} {t : AT} {e : AE}
theorem je_lc (hc : X.calm = true) (hN : X.N.Nodup) (hi : JI X tg iter ti) (ok : BlkOk X.N X.env.scope scope own) (hg : Blk X scope fun Y => JGo Y (own.map (·.2)) tg g) (ht : Blk X scope fun Y => JTs Y ifs t) (he : Blk X scope fun Y => JE Y elt e)
    (hs : ∀ x, foldedSetIterable iter X.env x = pure x := by intro _; rfl) : JE X (.ListComp elt [⟨tg, iter, ifs, 0⟩] scope pos) (aLc ti g t e (own.map (·.2))) := by
  obtain ⟨wi, p1, l1⟩ := hi
  exact ⟨_, pe_lc hc hN p1 ok (fun s H C cl fp => (hg s H C cl fp).can) (fun s H C cl fp => (ht s H C cl fp).can) (fun s H C cl fp => (he s H C cl fp).can) hs, lift_lcF l1 conG_lift conT_lift conE_lift⟩
theorem je_lcO (hc : X.calm = true) (hN : X.N.Nodup) (hi : JI X tg iter ti) (ok : BlkOk X.N X.env.scope scope own) (hg : Blk X scope fun Y => JGo Y (own.map (·.2)) tg g) (ht : Blk X scope fun Y => JTs Y ifs t) (he : Blk X scope fun Y => JE Y elt e)
    (hs : ∀ x, foldedSetIterable iter X.env x = pure x := by intro _; rfl) : JE X (.ListComp elt [⟨tg, iter, ifs, 0⟩] scope pos) (aLcO ti g t e (own.map (·.2))) := by
  obtain ⟨wi, p1, l1⟩ := hi
  exact ⟨_, pe_lc hc hN p1 ok (fun s H C cl fp => (hg s H C cl fp).can) (fun s H C cl fp => (ht s H C cl fp).can) (fun s H C cl fp => (he s H C cl fp).can) hs, lift_lcO l1 conG_lift conT_lift conE_lift⟩
theorem lift_setLc {te : TE} {ta : AE} {i : Nat} (l : LiftE X.K te ta) : LiftS X.K (tAsg te (gName i)) (sAsg ta (agName i)) :=
  ⟨fun c L σ E D hs h k1 k2 k3 k4 => l.run c L σ _ _ hs h fun d v a le re h => k1 d _ _ le ((le.sl hs).set re) h⟩
theorem js_setLc (i : Nat) {y : Str} {py spos : Pos} (hc : X.calm = true) (hN : X.N.Nodup) (hsw : swapsWith (.ListComp elt [⟨tg, iter, ifs, 0⟩] scope pos) (some (.Name y py)) spos.line X.env = pure true) (hi : JI X tg iter ti) (ok : BlkOk X.N X.env.scope scope own) (hg : Blk X scope fun Y => JGo Y (own.map (·.2)) tg g) (ht : Blk X scope fun Y => JTs Y ifs t) (he : Blk X scope fun Y => JE Y elt e)
    (hy : X.N[i]? = some y := by rfl) (hyl : X.env.scope.names.lookup y = some .local := by rfl) (hs : ∀ x, foldedSetIterable iter X.env x = pure x := by intro _; rfl) :
    JS X (.Assign [.Name y py] (.ListComp elt [⟨tg, iter, ifs, 0⟩] scope pos) spos) (sAsg (aLc ti g t e (own.map (·.2))) (agName i)) := by
  obtain ⟨wi, p1, l1⟩ := hi
  exact ⟨_, ps_setLc hc hN hy hyl hsw p1 ok (fun s H C cl fp => (hg s H C cl fp).can) (fun s H C cl fp => (ht s H C cl fp).can) (fun s H C cl fp => (he s H C cl fp).can) hs, lift_setLc (lift_lcF l1 conG_lift conT_lift conE_lift)⟩
theorem js_setLcO (i : Nat) {y : Str} {py spos : Pos} (hc : X.calm = true) (hN : X.N.Nodup) (hsw : swapsWith (.ListComp elt [⟨tg, iter, ifs, 0⟩] scope pos) (some (.Name y py)) spos.line X.env = pure true) (hi : JI X tg iter ti) (ok : BlkOk X.N X.env.scope scope own) (hg : Blk X scope fun Y => JGo Y (own.map (·.2)) tg g) (ht : Blk X scope fun Y => JTs Y ifs t) (he : Blk X scope fun Y => JE Y elt e)
    (hy : X.N[i]? = some y := by rfl) (hyl : X.env.scope.names.lookup y = some .local := by rfl) (hs : ∀ x, foldedSetIterable iter X.env x = pure x := by intro _; rfl) :
    JS X (.Assign [.Name y py] (.ListComp elt [⟨tg, iter, ifs, 0⟩] scope pos) spos) (sAsg (aLcO ti g t e (own.map (·.2))) (agName i)) := by
  obtain ⟨wi, p1, l1⟩ := hi
  exact ⟨_, ps_setLc hc hN hy hyl hsw p1 ok (fun s H C cl fp => (hg s H C cl fp).can) (fun s H C cl fp => (ht s H C cl fp).can) (fun s H C cl fp => (he s H C cl fp).can) hs, lift_setLc (lift_lcO l1 conG_lift conT_lift conE_lift)⟩
end
end
/-! ### what is walked -/
section
variable {K : PySem.W.Frag}
/-- a list to be read -/
theorem Cf.list_own (c : Cf K) {v : V} {n : Nat} {ds : List D} (h : c.re v (.own n)) (e : c.S[n]? = some (.lst ds)) : ∃ a vs, v = .ref a ∧ c.η[n]? = some a ∧ c.H a = some (.lst vs) ∧ ReL K c.η c.Hk vs ds ∧ ds.length ≤ sizeLine := by
  obtain ⟨a, ea, rfl⟩ := h
  obtain ⟨z, vs, h1, h2⟩ := c.ok.obj n a _ ea e
  exact ⟨a, vs, rfl, ea, h1, h2, z⟩
/-- as Itl, Itt: yield by the walked list, whichever reading of it -/
theorem Wk.of_list {c : Cf K} {a : Addr} {ds : List D} (z : ds.length ≤ sizeLine) (keep : List O → Prop) (st : ∀ d : Cf K, c.Gr d → keep d.S → ∃ vs, SqL K d.H a vs ∧ ReL K d.η d.Hk vs ds) : Wk K c (Itl K a) ds keep := by
  refine ⟨z, fun d i le hk hi => ?_, fun d i x H' le hk hi y => ?_, fun d i le hk hi => ?_⟩
  · obtain ⟨vs, s, l⟩ := st d le hk
    have hlt : i < vs.length := by rw [l.length]; exact hi
    exact ⟨vs, vs[i], s, List.getElem?_eq_getElem hlt⟩
  · obtain ⟨vs, s, l⟩ := st d le hk
    obtain ⟨rfl, y⟩ := y
    obtain ⟨b, e, r⟩ := l.get (y vs s)
    exact ⟨d, rfl, rfl, .refl d, b, e, r⟩
  · obtain ⟨vs, s, l⟩ := st d le hk
    exact ⟨vs, s, by rw [l.length]; exact hi⟩
theorem Wk.of_tup {c : Cf K} {a : Addr} {ds : List D} (z : ds.length ≤ sizeLine) (keep : List O → Prop) (st : ∀ d : Cf K, c.Gr d → keep d.S → ∃ vs, SqT K d.H a vs ∧ ReL K d.η d.Hk vs ds) : Wk K c (Itt K a) ds keep := by
  refine ⟨z, fun d i le hk hi => ?_, fun d i x H' le hk hi y => ?_, fun d i le hk hi => ?_⟩
  · obtain ⟨vs, s, l⟩ := st d le hk
    have hlt : i < vs.length := by rw [l.length]; exact hi
    exact ⟨vs, vs[i], s, List.getElem?_eq_getElem hlt⟩
  · obtain ⟨vs, s, l⟩ := st d le hk
    obtain ⟨rfl, y⟩ := y
    obtain ⟨b, e, r⟩ := l.get (y vs s)
    exact ⟨d, rfl, rfl, .refl d, b, e, r⟩
  · obtain ⟨vs, s, l⟩ := st d le hk
    exact ⟨vs, s, by rw [l.length]; exact hi⟩
def iSeq (K : PySem.W.Frag) (tl : TE) : TI := fun σ H R => tl σ H fun x H1 => ∃ a, x = .ref a ∧ (((∃ xs, SqL K H1 a xs) ∧ R (Itl K a) H1) ∨ ((∃ xs, SqT K H1 a xs) ∧ R (Itt K a) H1))
theorem pi_seq {X : Cx} {tg l : Expr} {tl : TE} (hl : PE X l tl) : PI X tg l (iSeq X.K tl) := by
  refine ⟨fun pp s0 τ G R J w0 => thn (hl.run pp s0 τ G _ J w0) fun v s1 ⟨x, G1, J1, rr, a, ea, w1⟩ => ?_⟩
  subst ea
  obtain rfl : v = Value.ref a := rr
  have fr : ∀ b ∈ [s1.heap.objs.size], FpOk X pp G1 b := fun b hb => by
    rw [List.mem_singleton] at hb
    subst hb
    exact J1.fpOk (Nat.le_refl _) (J1.hok.fresh (Nat.le_refl _))
  rcases w1 with ⟨⟨xs, sq⟩, w2⟩ | ⟨⟨xs, sq⟩, w2⟩
  · obtain ⟨its, -, pl, -⟩ := J1.list sq
    refine wpAny_pyIter_list pl.isList ⟨s1.heap.objs.size, [s1.heap.objs.size], _, Itl X.K a, G1, rfl, ?_, turn_list a _, ⟨_, Heap.get?_push_size _ rfl, rfl, rfl⟩, fr, w2⟩
    exact J1.kept (t' := s1.toks) fun b o e => Heap.get?_push_of_some _ e
  · obtain ⟨its, -, pl, -⟩ := J1.tuple sq
    refine wpAny_pyIter_tuple (show s1.heap.IsTuple a its.toArray from pl) ⟨s1.heap.objs.size, [s1.heap.objs.size], _, Itt X.K a, G1, rfl, ?_, turn_tuple a _, ⟨_, Heap.get?_push_size _ rfl, rfl, rfl⟩, fr, w2⟩
    exact J1.kept (t' := s1.toks) fun b o e => Heap.get?_push_of_some _ e
def aiSeq (te : AE) : AI := fun L S Post => te L S fun a S1 => match a with
  | .p (.lst xs) => Post (xs.map .p) (fun _ => True) S1
  | .p (.tup xs) => Post (xs.map .p) (fun _ => True) S1
  | .p (.fz xs) => Post (xs.map .p) (fun _ => True) S1
  | .own n => ∃ ds, S1[n]? = some (.lst ds) ∧ Post ds (fun S => S[n]? = some (.lst ds)) S1
  | _ => False
theorem Cf.Gr.sqL {c d : Cf K} (le : c.Gr d) {a : Addr} {vs : List V} (h : SqL K c.Hk a vs) : SqL K d.H a vs := d.ok.ex.sqL (le.ex.sqL h)
theorem Cf.Gr.sqT {c d : Cf K} (le : c.Gr d) {a : Addr} {vs : List V} (h : SqT K c.Hk a vs) : SqT K d.H a vs := d.ok.ex.sqT (le.ex.sqT h)
theorem Cf.Gr.tq {c d : Cf K} (le : c.Gr d) {a : Addr} {vs : List V} (h : c.Hk a = some (.tup vs)) : SqT K d.H a vs := d.ok.ex.tq (le.ex _ _ h)
theorem Cf.Gr.ix {c d : Cf K} (le : c.Gr d) {n : Nat} {a : Addr} (h : c.η[n]? = some a) : d.η[n]? = some a := by
  obtain ⟨m, e⟩ := le.pre
  rw [e, List.getElem?_append_left (List.getElem?_eq_some_iff.mp h).1]
  exact h
theorem Cf.Le.sqL {c d : Cf K} (le : c.Le d) {a : Addr} {vs : List V} (h : SqL K c.Hk a vs) : SqL K d.H a vs := d.ok.ex.sqL (le.ex.sqL h)
theorem Cf.Le.sqT {c d : Cf K} (le : c.Le d) {a : Addr} {vs : List V} (h : SqT K c.Hk a vs) : SqT K d.H a vs := d.ok.ex.sqT (le.ex.sqT h)
theorem Cf.Le.tq {c d : Cf K} (le : c.Le d) {a : Addr} {vs : List V} (h : c.Hk a = some (.tup vs)) : SqT K d.H a vs := d.ok.ex.tq (le.ex _ _ h)
theorem Cf.Le.ix {c d : Cf K} (le : c.Le d) {n : Nat} {a : Addr} (h : c.η[n]? = some a) : d.η[n]? = some a := by
  obtain ⟨m, e⟩ := le.pre
  rw [e, List.getElem?_append_left (List.getElem?_eq_some_iff.mp h).1]
  exact h
theorem ji_seq {X : Cx} {tg e : Expr} {te : AE} (h : JE X e te) : JI X tg e (aiSeq te) := by
  obtain ⟨t1, p1, l1⟩ := h
  refine ⟨_, pi_seq p1, ⟨fun c L σ Post R hs h q => l1.run c L σ _ _ hs h fun d v a le re h => ?_⟩⟩
  have pure : ∀ {a : Addr} {vs : List V} {xs : List P}, RpL X.K d.Hk vs xs → ∀ f : Cf X.K, d.Gr f → ReL X.K f.η f.Hk vs (xs.map .p) := fun {a vs xs} l f lf => lf.reL (ReL.pure l)
  split at h
  · cases (show Rp X.K d.Hk v (.lst _) from re) with
    | lst s z l => exact ⟨_, rfl, .inl ⟨⟨_, d.ok.ex.sqL (SqL.of s)⟩, q d _ _ _ le (Wk.of_list (by simpa using z) _ fun f lf _ => ⟨_, lf.sqL (SqL.of s), pure (a := 0) l f lf⟩) h⟩⟩
  · cases (show Rp X.K d.Hk v (.tup _) from re) with
    | tup s z l => exact ⟨_, rfl, .inr ⟨⟨_, d.ok.ex.tq s⟩, q d _ _ _ le (Wk.of_tup (by simpa using z) _ fun f lf _ => ⟨_, lf.tq s, pure (a := 0) l f lf⟩) h⟩⟩
  · cases (show Rp X.K d.Hk v (.fz _) from re) with
    | fz s z l => exact ⟨_, rfl, .inl ⟨⟨_, d.ok.ex.sqL s⟩, q d _ _ _ le (Wk.of_list (by simpa using z) _ fun f lf _ => ⟨_, lf.sqL s, pure (a := 0) l f lf⟩) h⟩⟩
  · obtain ⟨ds, e1, h⟩ := h
    obtain ⟨b, vs, rfl, e2, e3, l, z⟩ := d.list_own re e1
    refine ⟨_, rfl, .inl ⟨⟨_, SqL.of e3⟩, q d _ ds _ le (Wk.of_list z _ fun f lf hk => ?_) h⟩⟩
    obtain ⟨z', vs', h1, h2⟩ := f.ok.obj _ b _ (lf.ix e2) hk
    exact ⟨vs', SqL.of h1, h2⟩
  · exact h.elim
/-- range(n), range(i, j) -/
def aiRng1 (t : AA) : AI := fun L S Post => t L S fun as S1 => match as with
  | [.p (.int j)] => -1000000 ≤ j ∧ j ≤ 16777216 ∧ Post ((List.range j.toNat).map fun k => .p (.int (k : Nat))) (fun _ => True) S1
  | _ => False
def aiRng2 (t : AA) : AI := fun L S Post => t L S fun as S1 => match as with
  | [.p (.int i), .p (.int j)] => (-1000000 ≤ i ∧ i ≤ 16777216 ∧ -1000000 ≤ j ∧ j ≤ 16777216 ∧ j - i ≤ 16777216) ∧ Post ((List.range (j - i).toNat).map fun k => .p (.int (i + (k : Nat)))) (fun _ => True) S1
  | _ => False
theorem Wk.range {c : Cf K} {lo : Int} {n : Nat} (z : n ≤ sizeLine) {f : Nat → D} (hf : ∀ k, f k = .p (.int (lo + (k : Nat)))) : Wk K c (Itr lo n) ((List.range n).map f) (fun _ => True) := by
  refine ⟨by simpa using z, fun d i le hk hi => (by simpa using hi : i < n), fun d i x H' le hk hi y => ?_, fun d i le hk hi => (by simpa using hi : n ≤ i)⟩
  obtain ⟨rfl, rfl⟩ := y
  have hi : i < n := by simpa using hi
  refine ⟨d, rfl, rfl, .refl d, .p (.int (lo + (i : Nat))), ?_, .int _⟩
  rw [List.getElem?_map, List.getElem?_range hi]
  exact congrArg some (hf i)
theorem ji_range1 {X : Cx} {tg e : Expr} {ta : AA} {p pos : Pos} (hg : Gl X "range") (hm : X.mg "range" = none) (ha : JA X [e] ta) (hs : starEach [e] X.env = [(false, eval e X.env)] := by rfl) : JI X tg (.Call (.Name "range" p) [e] [] pos) (aiRng1 ta) := by
  obtain ⟨t1, p1, l1⟩ := ha
  refine ⟨_, pi_range1 hg hm p1 hs, ⟨fun c L σ Post R hs h q => l1.run c L σ _ _ hs h fun d vs as le re h => ?_⟩⟩
  split at h
  · rename_i j
    obtain ⟨h1, h2, h⟩ := h
    cases re with
    | cons r rr =>
      cases rr
      cases (show Rp X.K d.Hk _ (.int j) from r)
      refine ⟨j, rfl, by omega, by omega, q d _ _ _ le (Wk.range (by rw [sizeLine_eq]; omega) fun k => ?_) h⟩
      rw [Int.zero_add]
  · exact h.elim
theorem ji_range2 {X : Cx} {tg e e2 : Expr} {ta : AA} {p pos : Pos} (hg : Gl X "range") (hm : X.mg "range" = none) (ha : JA X [e, e2] ta) (hs : starEach [e, e2] X.env = [(false, eval e X.env), (false, eval e2 X.env)] := by rfl) (hs2 : starEach [e2] X.env = [(false, eval e2 X.env)] := by rfl) :
    JI X tg (.Call (.Name "range" p) [e, e2] [] pos) (aiRng2 ta) := by
  obtain ⟨t1, p1, l1⟩ := ha
  refine ⟨_, pi_range2 hg hm p1 hs hs2, ⟨fun c L σ Post R hs h q => l1.run c L σ _ _ hs h fun d vs as le re h => ?_⟩⟩
  split at h
  · rename_i i j
    obtain ⟨⟨h1, h2, h3, h4, h5⟩, h⟩ := h
    cases re with
    | cons r rr =>
      cases rr with
      | cons r' rr =>
        cases rr
        cases (show Rp X.K d.Hk _ (.int i) from r)
        cases (show Rp X.K d.Hk _ (.int j) from r')
        exact ⟨i, j, rfl, ⟨by omega, by omega, by omega, by omega⟩, q d _ _ _ le (Wk.range (by rw [sizeLine_eq]; omega) fun k => rfl) h⟩
  · exact h.elim
end
/-! ### a def by its body -/
def startL (N : List Str) (as : List D) : Ls := as.map some ++ List.replicate (N.length - as.length) none
section
variable {P : Program} {w : World} {K : PySem.W.Frag} {mg : Str → Option Value} {base : Heap}
theorem start_sl (c : Cf K) {N : List Str} {vs : List V} {as : List D} (r : ReL K c.η c.Hk vs as) : c.sl (L2.start N vs) (startL N as) := by
  have hl := r.length
  refine ⟨by simp [L2.start, startL, hl], fun i d e => ?_⟩
  unfold startL at e
  unfold L2.start
  by_cases hi : i < as.length
  · rw [List.getElem?_append_left (by simpa using hi), List.getElem?_map] at e
    have e' : as[i]? = some d := by
      cases q : as[i]? with
      | none => rw [q] at e; cases e
      | some x => rw [q] at e; simpa using e
    obtain ⟨v, e2, r2⟩ := r.get' e'
    exact ⟨v, by rw [List.getElem?_append_left (by simpa [hl] using hi), List.getElem?_map, e2]; rfl, r2⟩
  · rw [List.getElem?_append_right (by simp; omega)] at e
    have := List.mem_of_getElem? e
    rw [List.mem_replicate] at this
    cases this.2
/-- names owned objects below n alone -/
def _root_.Am.D.bel (n : Nat) : D → Prop
  | .p _ => True
  | .own m => m < n
def _root_.Am.O.bel (n : Nat) : O → Prop
  | .lst xs => ∀ x ∈ xs, x.bel n
  | .dk kvs => ∀ x ∈ kvs, x.2.bel n
  | .dt kvs => ∀ x ∈ kvs, x.2.bel n
  | .ft _ _ kvs => ∀ x ∈ kvs, x.2.bel n
  | .ins _ fs => ∀ x ∈ fs, x.2.bel n
  | .dead => True
def Bel (n : Nat) (S : List O) : Prop := ∀ o ∈ S, o.bel n
section
variable {η : List Addr} {Hk H : Hp} {S : List O}
theorem Re.bel {v : V} {d : D} (h : Re K η Hk v d) : d.bel η.length := by
  cases d with
  | p x => trivial
  | own m => obtain ⟨a, e, _⟩ := h; exact (List.getElem?_eq_some_iff.mp e).1
theorem ReL.bel : ∀ {vs : List V} {ds : List D}, ReL K η Hk vs ds → ∀ d ∈ ds, d.bel η.length
  | _, _, .nil => fun _ h => nomatch h
  | _, _, .cons r l => fun d h => by
    rcases List.mem_cons.mp h with rfl | h
    · exact r.bel
    · exact ReL.bel l d h
theorem ReE.bel {κ : Type} : ∀ {vs : List (κ × V)} {ds : List (κ × D)}, ReE K η Hk vs ds → ∀ d ∈ ds, d.2.bel η.length
  | _, _, .nil => fun _ h => nomatch h
  | _, _, .cons r l => fun d h => by
    rcases List.mem_cons.mp h with rfl | h
    · exact r.bel
    · exact ReE.bel l d h
theorem Ok.bel (k : Ok K η Hk H S) : Bel S.length S := fun o ho => by
  obtain ⟨i, hi⟩ := List.mem_iff_getElem?.mp ho
  have hl : i < η.length := by rw [k.len]; exact (List.getElem?_eq_some_iff.mp hi).1
  have h := k.obj i η[i] o (List.getElem?_eq_getElem hl) hi
  rw [← k.len]
  cases o with
  | lst xs => obtain ⟨_, vs, _, l⟩ := h; exact l.bel
  | dk xs => obtain ⟨_, vs, _, l⟩ := h; exact l.bel
  | dt xs => obtain ⟨_, vs, _, l⟩ := h; exact l.bel
  | ft od ks xs => obtain ⟨_, _, l⟩ := h; exact l.bel
  | ins C xs => obtain ⟨_, _, vs, _, l⟩ := h; exact l.bel
  | dead => trivial
theorem Re.cut {n : Nat} {v : V} {d : D} (h : Re K η Hk v d) (b : d.bel n) : Re K (η.take n) Hk v d := by
  cases d with
  | p x => exact h
  | own m =>
    obtain ⟨a, e, r⟩ := h
    exact ⟨a, by rw [List.getElem?_take_of_lt b]; exact e, r⟩
theorem ReL.cut {n : Nat} : ∀ {vs : List V} {ds : List D}, ReL K η Hk vs ds → (∀ d ∈ ds, d.bel n) → ReL K (η.take n) Hk vs ds
  | _, _, .nil, _ => .nil
  | _, _, .cons r l, h => .cons (r.cut (h _ (by simp))) (ReL.cut l fun d hd => h d (List.mem_cons_of_mem _ hd))
theorem ReE.cut {κ : Type} {n : Nat} : ∀ {vs : List (κ × V)} {ds : List (κ × D)}, ReE K η Hk vs ds → (∀ d ∈ ds, d.2.bel n) → ReE K (η.take n) Hk vs ds
  | _, _, .nil, _ => .nil
  | _, _, .cons r l, h => .cons (r.cut (h _ List.mem_cons_self)) (ReE.cut l fun d hd => h d (List.mem_cons_of_mem _ hd))
theorem Ok.cut (k : Ok K η Hk H S) {n : Nat} (hb : Bel n (S.take n)) : Ok K (η.take n) Hk H (S.take n) := by
  have lt : ∀ {α : Type} {l : List α} {i : Nat} {x : α}, (l.take n)[i]? = some x → l[i]? = some x := fun {α l i x} h => by
    rw [List.getElem?_take] at h
    split at h
    · exact h
    · cases h
  refine ⟨k.ex, by simp [k.len], k.nd.sublist (List.take_sublist _ _), fun i a o e1 e2 nd => k.hid i a o (lt e1) (lt e2) nd, fun a ha => k.there a (List.mem_of_mem_take ha), fun i a o e1 e2 => ?_⟩
  have b := hb o (List.mem_of_getElem? e2)
  have h := k.obj i a o (lt e1) (lt e2)
  cases o with
  | lst xs => obtain ⟨z, vs, q, l⟩ := h; exact ⟨z, vs, q, l.cut b⟩
  | dk xs => obtain ⟨z, vs, q, l⟩ := h; exact ⟨z, vs, q, l.cut b⟩
  | dt xs => obtain ⟨z, vs, q, l⟩ := h; exact ⟨z, vs, q, l.cut b⟩
  | ft od ks xs => obtain ⟨z, q, l⟩ := h; exact ⟨z, q, l.cut b⟩
  | ins C xs => obtain ⟨z, dx, vs, q, l⟩ := h; exact ⟨z, dx, vs, q, l.cut b⟩
  | dead => trivial
theorem Cf.Le.cut {c d : Cf K} (le : c.Le d) {n : Nat} (hn : c.S.length ≤ n) (hb : Bel n (d.S.take n)) : ∃ e : Cf K, e.H = d.H ∧ e.S = d.S.take n ∧ e.η = d.η.take n ∧ e.Hk = d.Hk ∧ c.Le e := by
  refine ⟨⟨d.η.take n, d.Hk, d.H, d.S.take n, d.ok.cut hb⟩, rfl, rfl, rfl, rfl, ⟨le.ex, ?_, le.fr, fun b hb => le.newE b (List.mem_of_mem_take hb), le.newK, le.kept⟩⟩
  obtain ⟨m, e⟩ := le.pre
  refine ⟨m.take (n - c.η.length), ?_⟩
  show d.η.take n = _
  rw [e, List.take_append]
  congr 1
  exact List.take_of_length_le (by rw [c.ok.len]; exact hn)
end
/-- behind a def: what it made beyond the first n objects may be forgotten -/
def Cut (m : Nat) (Post : D → List O → Prop) (d : D) (S : List O) : Prop := Post d S ∨ ∃ n, m ≤ n ∧ Bel n (S.take n) ∧ d.bel n ∧ Post d (S.take n)
/-- the commonest: the store as it stood, and pure data -/
theorem Cut.pure {S : List O} {Post : D → List O → Prop} {x : Am.P} (hb : Bel S.length S) {junk : List O} (h : Post (.p x) S) : Cut S.length Post (.p x) (S ++ junk) :=
  .inr ⟨S.length, Nat.le_refl _, by rw [List.take_left']; exact hb; rfl, trivial, by rw [List.take_left']; exact h; rfl⟩
theorem Cut.id {m : Nat} {S : List O} {Post : D → List O → Prop} {d : D} (h : Post d S) : Cut m Post d S := .inl h
/-- the body of a def, where no repr is under way -/
theorem fn_g {CX : CXT} {k : Nat} {f : Addr} {name qual : Str} {params : Arguments} {body : List Stmt} {scope : Scope} {dV kV doc pm cdv ct oc : Value} {an od : Option Addr} {osl : Array (Option Value)} {N ps : List Str} {sp : Sp}
    (at_ : K.lookup f = some ⟨oc, od, .func (PySem.W.fnOf name qual params body scope dV kV doc pm an cdv ct), osl⟩) (code : PySem.W.codeIn K cdv qual = true) (S : FnScope N ps scope) (len : ∀ vs H Q E, sp vs H Q E → vs.length = ps.length)
    (inner : ∀ (A : Around) (outer : List Env) (s : Shared) (H : Hp) (vs : List V) (Q : VK) (E : XK), A.guards = some [] → Room k (A.deeper (PyProof.Rows.envOfC qual scope s.heap.objs.size f cdv)) → sp vs H Q E →
      ∃ t, PSs (cxOf CX P w K mg base N qual scope f cdv A outer s H E) body t ∧ t { nx := fun _ H' => Q .non H', rt := Q } (L2.start N vs) H) :
    FnG P w K mg base CX (k + 1) f (PySem.W.fnOf name qual params body scope dV kV doc pm an cdv ct) ps sp := by
  refine ⟨len, fun A outer s H args us vs Q E gd room e0 bnd rel want => ?_⟩
  have stay : ∀ b o, base.get? b = some o → s.heap.get? b = some o := fun b o e => (e0.bs b o e).1
  have kin : K.In s.heap := e0.mod.kin.keeps stay
  have kinds : ∀ y ∈ ps.zip us, scope.names.lookup y.1 = some .local ∨ (scope.names.lookup y.1 = some .cell ∧ ((cellsFrom (s.heap.objs.size + 1) scope.names []).lookup y.1).isSome = true) := by
    rintro ⟨n, v⟩ hy
    exact (S.par n (List.of_mem_zip hy).1).imp id fun q => ⟨q, PySem.W.cellsFrom_some _ _ _ (.inl q)⟩
  refine codeAny_call_function room.depth (kin _ _ at_) rfl S.co S.gen rfl (PySem.W.codeRec_of kin code) (bnd _ _ _ _ ?_)
  refine wpAny_newFunctionEnv_cells S.kind kinds fun env he s1 x => ?_
  subst he
  refine ⟨(e0.mod.nolimit.keeps stay).keeps x.toInCall.keep, codeAny_func ?_⟩
  obtain ⟨t, ht, hq⟩ := inner A outer s H vs Q E gd (room.deeper _) want
  refine wpAny_mono (ht.run [] s1 (L2.start N vs) H _ (inv_start S room.hd e0 (len _ _ _ _ want) rel x) hq) (fun fl s' hs => ?_) fun e s' hs => hs
  cases fl with
  | ret u =>
    obtain ⟨v, σ', H', J, rv, q⟩ := hs
    exact ⟨v, H', J.os, J.bare, J.base, J.hok, rv, q⟩
  | next =>
    obtain ⟨σ', H', J, q⟩ := hs
    exact ⟨.non, H', J.os, J.bare, J.base, J.hok, rfl, q⟩
  | brk => exact let ⟨_, _, _, q⟩ := hs; q.elim
  | cont => exact let ⟨_, _, _, q⟩ := hs; q.elim
/-- THE RULE for a def that lets nothing out -/
theorem fun_ok {x qual : Str} {st : Stmt} {f : Addr} {fd : FuncData} {N ps : List Str} {k : Nat} {G : FT} {t : AS} (F : Fun K x qual st f fd) (S : FnScope N ps (defScope st)) (len : ∀ as S Post, G as S Post → as.length = ps.length)
    (hb : ∀ (cdv : Value) (A : Around) (outer : List Env) (s : Shared) (H : Hp) (E : XK), A.guards = some [] → Room k (A.deeper (PyProof.Rows.envOfC qual (defScope st) s.heap.objs.size f cdv)) →
      JB (cxOf CX0 P w K mg base N qual (defScope st) f cdv A outer s H E).nox (defBody st) t)
    (hf : ∀ as S Post, Bel S.length S → G as S Post → t { nx := fun _ S' => Cut S.length Post (.p .non) S', rt := Cut S.length Post } (startL N as) S) : FnG P w K mg base CX0 (k + 1) f fd ps (spOf K G) := by
  obtain ⟨oc, od, kV, doc, pm, an, cdv, ct, osl, rfl, lk, hcd⟩ := F.ex
  refine fn_g lk hcd S (fun vs H Q E h => ?_) (fun A outer s H vs Q E gd hr h => ?_)
  · obtain ⟨c, as, Post, _, r, g, _⟩ := h
    rw [r.length]
    exact len _ _ _ g
  · obtain ⟨c, as, Post, e, r, g, q⟩ := h
    subst e
    obtain ⟨ts, p, l⟩ := hb cdv A outer s c.H E gd hr
    refine ⟨ts, p.nox, ?_⟩
    have fin : ∀ (d : Cf K) v a, c.Le d → d.re v a → Cut c.S.length Post a d.S → Q v d.H := fun d v a le r h => by
      rcases h with h | ⟨n, hn, hB, hd, h⟩
      · exact q d v a le r h
      · obtain ⟨e, e1, e2, e3, e4, le'⟩ := le.cut hn hB
        rw [← e1]
        refine q e v a le' ?_ (by rw [e2]; exact h)
        show Re K e.η e.Hk v a
        rw [e3, e4]
        exact Re.cut r hd
    exact l.run c (startL N as) (L2.start N vs) _ _ (start_sl c r) (hf as c.S Post c.ok.bel g) (fun d σ' L' le hs h => fin d .non (.p .non) le .non h) (fun d v a le r h => fin d v a le r h) (fun _ _ _ _ _ h => h.elim) (fun _ _ _ _ _ h => h.elim)
end
end Am
/-! Am: operations on deep data. -/
namespace Am
open PySem L2
/-! ### data as the library's data -/
mutual
def P.py : P → PyData
  | .non => .none
  | .bl b => .bool b
  | .int i => .int i
  | .str x => .str x
  | .tup xs => .tuple (P.pys xs)
  | .lst xs => .list (P.pys xs)
  | .fz xs => .list (P.pys xs)
  | .dk _ => .none
  | .dt _ => .none
  | .ins _ _ => .none
  | .vv _ => .none
def P.pys : List P → List PyData
  | [] => []
  | x :: xs => P.py x :: P.pys xs
end
theorem pys_map : ∀ xs : List P, P.pys xs = xs.map P.py
  | [] => rfl
  | x :: xs => by rw [P.pys, pys_map xs]; rfl
/-- plain data, at most n deep -/
def Dat : Nat → P → Prop
  | _, .non => True
  | _, .bl _ => True
  | _, .int _ => True
  | _, .str s => PyData.canLay0 (.str s) = true
  | n + 1, .tup xs => ∀ x ∈ xs, Dat n x
  | n + 1, .lst xs => ∀ x ∈ xs, Dat n x
  | n + 1, .fz xs => ∀ x ∈ xs, Dat n x
  | _, _ => False
section
variable {K : PySem.W.Frag} {H : Hp}
theorem Rp.dp_all {n : Nat} (ih : ∀ x v, Dat n x → Rp K H v x → Dp K H v x.py) : ∀ (xs : List P) (vs : List V), (∀ x ∈ xs, Dat n x) → RpL K H vs xs → DpAll K H vs (P.pys xs)
  | [], _, _, h => by cases h; exact .nil
  | x :: xs, _, d, h => by
    cases h with
    | cons r l => exact .cons (ih x _ (d x (by simp)) r) (Rp.dp_all ih xs _ (fun y hy => d y (List.mem_cons_of_mem _ hy)) l)
theorem Rp.dp : ∀ (n : Nat) (x : P) (v : V), Dat n x → Rp K H v x → Dp K H v x.py := by
  intro n
  induction n with
  | zero =>
    intro x v d h
    cases h with
    | non => exact .non
    | bl b => exact .bl b
    | int i => exact .int i
    | str s => exact .str s
    | _ => exact absurd d (by simp [Dat])
  | succ n ih =>
    intro x v d h
    cases h with
    | non => exact .non
    | bl b => exact .bl b
    | int i => exact .int i
    | str s => exact .str s
    | tup s z l => rw [P.py]; exact .tup (SqT.of s) (Rp.dp_all ih _ _ d l)
    | lst s z l => rw [P.py]; exact .lst (SqL.of s) (Rp.dp_all ih _ _ d l)
    | fz s z l => rw [P.py]; exact .lst s (Rp.dp_all ih _ _ d l)
    | _ => exact absurd d (by simp [Dat])
end
theorem lay_all {n : Nat} (ih : ∀ x, Dat n x → x.py.canLay0 = true ∧ x.py.depth ≤ n) : ∀ xs : List P, (∀ x ∈ xs, Dat n x) → PyData.canLayAll0 (P.pys xs) = true ∧ PyData.depthAll (P.pys xs) ≤ n
  | [], _ => ⟨rfl, Nat.zero_le _⟩
  | x :: xs, d => by
    obtain ⟨h1, h2⟩ := ih x (d x (by simp))
    obtain ⟨g1, g2⟩ := lay_all ih xs fun y hy => d y (List.mem_cons_of_mem _ hy)
    refine ⟨?_, ?_⟩
    · rw [P.pys]; simp only [PyData.canLayAll0, h1, g1]; rfl
    · rw [P.pys]; simp only [PyData.depthAll]; omega
theorem Dat.lay : ∀ (n : Nat) (x : P), Dat n x → x.py.canLay0 = true ∧ x.py.depth ≤ n := by
  intro n
  induction n with
  | zero =>
    intro x d
    cases x with
    | str s => exact ⟨d, Nat.zero_le _⟩
    | non => exact ⟨rfl, Nat.zero_le _⟩
    | bl _ => exact ⟨rfl, Nat.zero_le _⟩
    | int _ => exact ⟨rfl, Nat.zero_le _⟩
    | tup xs => exact absurd d (by simp [Dat])
    | lst xs => exact absurd d (by simp [Dat])
    | fz xs => exact absurd d (by simp [Dat])
    | dk _ => exact absurd d (by simp [Dat])
    | dt _ => exact absurd d (by simp [Dat])
    | ins _ _ => exact absurd d (by simp [Dat])
    | vv _ => exact absurd d (by simp [Dat])
  | succ n ih =>
    intro x d
    cases x with
    | tup xs => have h := lay_all ih xs d; rw [P.py]; simp only [PyData.canLay0, PyData.depth]; exact ⟨h.1, by omega⟩
    | lst xs => have h := lay_all ih xs d; rw [P.py]; simp only [PyData.canLay0, PyData.depth]; exact ⟨h.1, by omega⟩
    | fz xs => have h := lay_all ih xs d; rw [P.py]; simp only [PyData.canLay0, PyData.depth]; exact ⟨h.1, by omega⟩
    | dk _ => exact absurd d (by simp [Dat])
    | dt _ => exact absurd d (by simp [Dat])
    | ins _ _ => exact absurd d (by simp [Dat])
    | vv _ => exact absurd d (by simp [Dat])
    | str s => exact ⟨d, Nat.zero_le _⟩
    | non => exact ⟨rfl, Nat.zero_le _⟩
    | bl _ => exact ⟨rfl, Nat.zero_le _⟩
    | int _ => exact ⟨rfl, Nat.zero_le _⟩
theorem Dat.shaped {n : Nat} {x : P} (d : Dat n x) (h : n ≤ 64) : SeqAt.shaped x.py = true := by
  obtain ⟨h1, h2⟩ := d.lay
  unfold SeqAt.shaped
  rw [h1, decide_eq_true (by omega)]; rfl
theorem Dat.le : ∀ {n m : Nat} {x : P}, Dat n x → n ≤ m → Dat m x := by
  intro n
  induction n with
  | zero =>
    intro m x d h
    cases x with
    | tup xs => exact absurd d (by simp [Dat])
    | lst xs => exact absurd d (by simp [Dat])
    | fz xs => exact absurd d (by simp [Dat])
    | dk _ => exact absurd d (by simp [Dat])
    | dt _ => exact absurd d (by simp [Dat])
    | ins _ _ => exact absurd d (by simp [Dat])
    | vv _ => exact absurd d (by simp [Dat])
    | str s => cases m <;> exact d
    | _ => cases m <;> trivial
  | succ n ih =>
    intro m x d h
    obtain ⟨m, rfl⟩ : ∃ k, m = k + 1 := ⟨m - 1, by omega⟩
    cases x with
    | tup xs => exact fun y hy => ih (d y hy) (by omega)
    | lst xs => exact fun y hy => ih (d y hy) (by omega)
    | fz xs => exact fun y hy => ih (d y hy) (by omega)
    | dk _ => exact absurd d (by simp [Dat])
    | dt _ => exact absurd d (by simp [Dat])
    | ins _ _ => exact absurd d (by simp [Dat])
    | vv _ => exact absurd d (by simp [Dat])
    | str s => exact d
    | _ => trivial
/-- == of plain data -/
def P.eqb (a b : P) : Bool := PyData.eqv a.py b.py
theorem reB {K : PySem.W.Frag} (c : Cf K) (b : Bool) : c.re (.bl b) (.p (.bl b)) := .bl b
theorem reI {K : PySem.W.Frag} (c : Cf K) (i : Int) : c.re (.int i) (.p (.int i)) := .int i
theorem reS {K : PySem.W.Frag} (c : Cf K) (x : Str) : c.re (.str x) (.p (.str x)) := .str x
theorem reN {K : PySem.W.Frag} (c : Cf K) : c.re .non (.p .non) := .non
/-! ### lists and tuples of a configuration -/
/-- the items of a list (known, or owned and of pure data) -/
def lsAt (S : List O) : D → List P → Prop
  | .p (.lst xs), ps => xs = ps
  | .own n, ps => S[n]? = some (.lst (ps.map .p))
  | _, _ => False
section
variable {K : PySem.W.Frag}
theorem Cf.ls (c : Cf K) {v : V} {d : D} {ps : List P} (h : c.re v d) (l : lsAt c.S d ps) : ∃ a vs, v = .ref a ∧ c.H a = some (.lst vs) ∧ RpL K c.Hk vs ps ∧ ps.length ≤ sizeLine := by
  cases d with
  | p x =>
    cases x with
    | lst ys =>
      obtain rfl : ys = ps := l
      cases (show Rp K c.Hk v (.lst ys) from h) with
      | lst s z r => exact ⟨_, _, rfl, c.ok.ex _ _ s, r, z⟩
    | _ => exact l.elim
  | own n =>
    obtain ⟨a, vs, rfl, _, e, r, z⟩ := c.list_own h l
    exact ⟨a, vs, rfl, e, r.impure, by simpa using z⟩
/-- a new object of pure data -/
theorem Cf.new (c : Cf K) {p : Addr} {o : HO} (hp : c.H p = none) : ∃ e : Cf K, e.H = upd c.H p o ∧ e.S = c.S ∧ e.Hk = upd c.Hk p o ∧ e.η = c.η ∧ c.Le e :=
  let ⟨k, s⟩ := c.ok.alloc hp o
  ⟨⟨c.η, upd c.Hk p o, upd c.H p o, c.S, k⟩, rfl, rfl, rfl, rfl, s⟩
theorem Cf.newLst (c : Cf K) {p : Addr} {vs : List V} {ps : List P} (hp : c.H p = none) (l : RpL K c.Hk vs ps) (z : ps.length ≤ sizeLine) : ∃ e : Cf K, e.H = upd c.H p (.lst vs) ∧ e.S = c.S ∧ c.Le e ∧ e.re (.ref p) (.p (.lst ps)) := by
  obtain ⟨e, e1, e2, e3, e4, le⟩ := c.new (o := .lst vs) hp
  exact ⟨e, e1, e2, le, .lst (by rw [e3]; exact upd_same) z (RpL.mono le.ex ps vs l)⟩
theorem Cf.newTup (c : Cf K) {p : Addr} {vs : List V} {ps : List P} (hp : c.H p = none) (l : RpL K c.Hk vs ps) (z : ps.length ≤ sizeLine) : ∃ e : Cf K, e.H = upd c.H p (.tup vs) ∧ e.S = c.S ∧ c.Le e ∧ e.re (.ref p) (.p (.tup ps)) := by
  obtain ⟨e, e1, e2, e3, e4, le⟩ := c.new (o := .tup vs) hp
  exact ⟨e, e1, e2, le, .tup (by rw [e3]; exact upd_same) z (RpL.mono le.ex ps vs l)⟩
theorem Cf.newOwn (c : Cf K) {p : Addr} {vs : List V} {ds : List D} (hp : c.H p = none) (l : ReL K c.η c.Hk vs ds) (z : ds.length ≤ sizeLine) : ∃ e : Cf K, e.H = upd c.H p (.lst vs) ∧ e.S = c.S ++ [.lst ds] ∧ c.Le e ∧ e.re (.ref p) (.own c.S.length) := by
  obtain ⟨k, s⟩ := c.ok.allocOwn (u := .lst vs) (o := .lst ds) hp ⟨z, vs, upd_same, l.mono' ⟨.refl _, ⟨[p], rfl⟩⟩⟩
  exact ⟨⟨_, _, _, _, k⟩, rfl, rfl, s, p, by show (c.η ++ [p])[c.S.length]? = some p; rw [← c.ok.len]; simp, rfl⟩
/-- an owned list is changed -/
theorem Cf.setLst (c : Cf K) {n : Nat} {a : Addr} {ds ds' : List D} {vs' : List V} (e1 : c.η[n]? = some a) (e2 : c.S[n]? = some (.lst ds)) (l : ReL K c.η c.Hk vs' ds') (z : ds'.length ≤ sizeLine) :
    ∃ e : Cf K, e.H = upd c.H a (.lst vs') ∧ e.S = c.S.set n (.lst ds') ∧ c.Le e := by
  obtain ⟨k, s⟩ := c.ok.write (o := .lst ds') (u := .lst vs') e1 e2 (by intro h; cases h) ⟨z, vs', upd_same, l⟩
  exact ⟨⟨_, _, _, _, k⟩, rfl, rfl, s⟩
end
/-! ### arithmetic, joining -/
def okBig (i j : Int) : Prop := i.natAbs < 2 ^ 4000 ∧ j.natAbs < 2 ^ 4000
def rAddU (K : PySem.W.Frag) : R2 := fun x y H Q => rI0 (fun i j => .int (i + j)) x y H Q ∨ (∃ i j, x = .str i ∧ y = .str j ∧ i.length + j.length ≤ sizeLine ∧ Q (.str (i ++ j)) H) ∨ rCatA K x y H Q ∨ rCat x y H Q
theorem OpR.or {X : Cx} {f : Value → Value → Sem Value} {r r' : R2} (h : OpR X f r) (h' : OpR X f r') : OpR X f (fun x y H Q => r x y H Q ∨ r' x y H Q) :=
  fun a b c d e g v u w J r1 r2 q => q.elim (h a b c d e g v u w J r1 r2) (h' a b c d e g v u w J r1 r2)
theorem op_addU {X : Cx} : OpR X (binaryOp .Add) (rAddU X.K) := OpR.or op_add (OpR.or op_add_str (OpR.or op_catA op_cat))
/-- + -/
def aAdd : A2 := fun a b S Post => match a, b with
  | .p (.int i), .p (.int j) => Post (.p (.int (i + j))) S
  | .p (.str x), .p (.str y) => x.length + y.length ≤ sizeLine ∧ Post (.p (.str (x ++ y))) S
  | .p (.tup x), .p (.tup y) => x.length + y.length ≤ sizeLine ∧ Post (.p (.tup (x ++ y))) S
  | .p (.lst x), .p (.lst y) => x.length + y.length ≤ sizeLine ∧ Post (.p (.lst (x ++ y))) S
  | a, b => ∃ x y, lsAt S a x ∧ lsAt S b y ∧ x.length + y.length ≤ sizeLine ∧ Post (.p (.lst (x ++ y))) S
theorem l2_lists {K : PySem.W.Frag} {c : Cf K} {x y : V} {a b : D} {Post : D → List O → Prop} {Q : VK} (ra : c.re x a) (rb : c.re y b) {ps qs : List P} (la : lsAt c.S a ps) (lb : lsAt c.S b qs) (z : ps.length + qs.length ≤ sizeLine)
    (h : Post (.p (.lst (ps ++ qs))) c.S) (q : ∀ (d : Cf K) v a, c.Le d → d.re v a → Post a d.S → Q v d.H) : rCat x y c.H Q := by
  obtain ⟨p, vs, rfl, e1, l1, z1⟩ := c.ls ra la
  obtain ⟨p2, ws, rfl, e2, l2, z2⟩ := c.ls rb lb
  refine ⟨p, p2, vs, ws, rfl, rfl, e1, e2, by rw [l1.length, l2.length]; exact z, fun p3 hp => ?_⟩
  obtain ⟨e, eh, es, le, re⟩ := c.newLst hp (l1.append l2) (by simpa using z)
  rw [← eh]
  exact q e _ _ le re (by rw [es]; exact h)
theorem lift_add {K : PySem.W.Frag} : Lift2 K (rAddU K) aAdd := by
  refine ⟨fun c x y a b Post Q ra rb h q => ?_⟩
  unfold aAdd at h
  split at h
  · rename_i i j
    cases (show Rp K c.Hk x (.int i) from ra)
    cases (show Rp K c.Hk y (.int j) from rb)
    exact .inl ⟨i, j, rfl, rfl, q c _ _ (.refl c) (reI c _) h⟩
  · rename_i s t
    cases (show Rp K c.Hk x (.str s) from ra)
    cases (show Rp K c.Hk y (.str t) from rb)
    exact .inr (.inl ⟨s, t, rfl, rfl, h.1, q c _ _ (.refl c) (reS c _) h.2⟩)
  · rename_i ps qs
    cases (show Rp K c.Hk x (.tup ps) from ra) with
    | tup s1 z1 l1 =>
      cases (show Rp K c.Hk y (.tup qs) from rb) with
      | tup s2 z2 l2 =>
        have n1 := l1.length
        have n2 := l2.length
        refine .inr (.inr (.inl ⟨_, _, _, _, rfl, rfl, c.ok.ex.tq s1, c.ok.ex.tq s2, by rw [n1, n2]; exact h.1, fun e => ?_, fun e e' => ?_, fun e e' p hp => ?_⟩))
        · subst e
          cases l1
          exact q c _ _ (.refl c) rb h.2
        · subst e'
          cases l2
          rw [List.append_nil] at h
          exact q c _ _ (.refl c) ra h.2
        · obtain ⟨e, eh, es, le, re⟩ := c.newTup hp (l1.append l2) (by simpa using h.1)
          rw [← eh]
          exact q e _ _ le re (by rw [es]; exact h.2)
  · exact .inr (.inr (.inr (l2_lists (ps := _) (qs := _) ra rb rfl rfl h.1 h.2 q)))
  · obtain ⟨ps, qs, la, lb, z, h⟩ := h
    exact .inr (.inr (.inr (l2_lists ra rb la lb z h q)))
/-- ints alone -/
def aI (C : Int → Int → Prop) (g : Int → Int → P) : A2 := fun a b S Post => match a, b with
  | .p (.int i), .p (.int j) => C i j ∧ Post (.p (g i j)) S
  | _, _ => False
def aI0 (g : Int → Int → P) : A2 := fun a b S Post => match a, b with
  | .p (.int i), .p (.int j) => Post (.p (g i j)) S
  | _, _ => False
theorem lift_I {K : PySem.W.Frag} {C : Int → Int → Prop} {g : Int → Int → V} {g' : Int → Int → P} (hg : ∀ (c : Cf K) i j, c.re (g i j) (.p (g' i j))) : Lift2 K (rI C g) (aI C g') := by
  refine ⟨fun c x y a b Post Q ra rb h q => ?_⟩
  unfold aI at h
  split at h
  · rename_i i j
    cases (show Rp K c.Hk x (.int i) from ra)
    cases (show Rp K c.Hk y (.int j) from rb)
    exact ⟨i, j, rfl, rfl, h.1, q c _ _ (.refl c) (hg c i j) h.2⟩
  · exact h.elim
theorem lift_I0 {K : PySem.W.Frag} {g : Int → Int → V} {g' : Int → Int → P} (hg : ∀ (c : Cf K) i j, c.re (g i j) (.p (g' i j))) : Lift2 K (rI0 g) (aI0 g') := by
  refine ⟨fun c x y a b Post Q ra rb h q => ?_⟩
  unfold aI0 at h
  split at h
  · rename_i i j
    cases (show Rp K c.Hk x (.int i) from ra)
    cases (show Rp K c.Hk y (.int j) from rb)
    exact ⟨i, j, rfl, rfl, q c _ _ (.refl c) (hg c i j) h⟩
  · exact h.elim
def CPowW (i j : Int) : Prop := 0 ≤ j ∧ (Builtin.Int.intBits i : Int) * j ≤ 2 ^ 27
theorem op_powW {X : Cx} : OpR X (binaryOp .Pow) (rI CPowW fun i j => .int (i ^ j.toNat)) := opI fun _ _ _ _ _ _ _ hc q => PyProof.Rows.pow_int hc.1 hc.2 q
section
variable {X : Cx} {a b : Expr} {ta tb : AE} {pos : Pos}
abbrev aSub : A2 := aI0 fun i j => .int (i - j)
abbrev aMul : A2 := aI CMulW fun i j => .int (i * j)
abbrev aDiv : A2 := aI CDivW fun i j => .int (i / j)
abbrev aMod : A2 := aI (fun _ j => 0 < j) fun i j => .int (i % j)
abbrev aPow : A2 := aI CPowW fun i j => .int (i ^ j.toNat)
abbrev aShl : A2 := aI CPow fun i j => .int (i * 2 ^ j.toNat)
abbrev aShr : A2 := aI (fun _ j => 0 ≤ j) fun i j => .int (i / 2 ^ j.toNat)
theorem je_add (ha : JE X a ta) (hb : JE X b tb) : JE X (.BinOp a .Add b pos) (aOp aAdd ta tb) := je_op op_addU lift_add ha hb
theorem je_sub (ha : JE X a ta) (hb : JE X b tb) : JE X (.BinOp a .Sub b pos) (aOp aSub ta tb) := je_op op_sub (lift_I0 fun c _ _ => reI c _) ha hb
theorem je_mul (ha : JE X a ta) (hb : JE X b tb) : JE X (.BinOp a .Mult b pos) (aOp aMul ta tb) := je_op op_mulW (lift_I fun c _ _ => reI c _) ha hb
theorem je_div (ha : JE X a ta) (hb : JE X b tb) : JE X (.BinOp a .FloorDiv b pos) (aOp aDiv ta tb) := je_op op_fdivW (lift_I fun c _ _ => reI c _) ha hb
theorem je_mod (ha : JE X a ta) (hb : JE X b tb) : JE X (.BinOp a .Mod b pos) (aOp aMod ta tb) := je_op op_mod (lift_I fun c _ _ => reI c _) ha hb
theorem je_pow (ha : JE X a ta) (hb : JE X b tb) : JE X (.BinOp a .Pow b pos) (aOp aPow ta tb) := je_op op_powW (lift_I fun c _ _ => reI c _) ha hb
theorem je_shl (ha : JE X a ta) (hb : JE X b tb) : JE X (.BinOp a .LShift b pos) (aOp aShl ta tb) := je_op op_shl (lift_I fun c _ _ => reI c _) ha hb
theorem je_shr (ha : JE X a ta) (hb : JE X b tb) : JE X (.BinOp a .RShift b pos) (aOp aShr ta tb) := je_op op_shr (lift_I fun c _ _ => reI c _) ha hb
def aNeg : A1 := fun a S Post => match a with | .p (.int i) => Post (.p (.int (-i))) S | _ => False
theorem je_neg (ha : JE X a ta) : JE X (.UnaryOp .USub a pos) (aUn aNeg ta) := je_un un_neg ⟨fun c x a Post Q ra h q => by
  unfold aNeg at h
  split at h
  · rename_i i
    cases (show Rp X.K c.Hk x (.int i) from ra)
    exact ⟨i, rfl, q c _ _ (.refl c) (reI c _) h⟩
  · exact h.elim⟩ ha
/-! ### comparisons -/
abbrev aLt : A2 := aI0 fun i j => .bl (decide (i < j))
abbrev aLe : A2 := aI0 fun i j => .bl (decide (i ≤ j))
abbrev aGt : A2 := aI0 fun i j => .bl (decide (j < i))
abbrev aGe : A2 := aI0 fun i j => .bl (decide (j ≤ i))
theorem je_lt (ha : JE X a ta) (hb : JE X b tb) : JE X (.Compare a [.Lt] [b] pos) (aOp aLt ta tb) := je_cmp op_lt (lift_I0 fun c _ _ => reB c _) ha hb (nomark _)
theorem je_le (ha : JE X a ta) (hb : JE X b tb) : JE X (.Compare a [.LtE] [b] pos) (aOp aLe ta tb) := je_cmp op_le (lift_I0 fun c _ _ => reB c _) ha hb (nomark _)
theorem je_gt (ha : JE X a ta) (hb : JE X b tb) : JE X (.Compare a [.Gt] [b] pos) (aOp aGt ta tb) := je_cmp op_gt (lift_I0 fun c _ _ => reB c _) ha hb (nomark _)
theorem je_ge (ha : JE X a ta) (hb : JE X b tb) : JE X (.Compare a [.GtE] [b] pos) (aOp aGe ta tb) := je_cmp op_ge (lift_I0 fun c _ _ => reB c _) ha hb (nomark _)
theorem jt_lt (ha : JE X a ta) (hb : JE X b tb) : JT X (.Compare a [.Lt] [b] pos) (aTest (aOp aLt ta tb)) := jt_cmp op_lt (lift_I0 fun c _ _ => reB c _) ha hb (nomark _)
theorem jt_le (ha : JE X a ta) (hb : JE X b tb) : JT X (.Compare a [.LtE] [b] pos) (aTest (aOp aLe ta tb)) := jt_cmp op_le (lift_I0 fun c _ _ => reB c _) ha hb (nomark _)
theorem jt_gt (ha : JE X a ta) (hb : JE X b tb) : JT X (.Compare a [.Gt] [b] pos) (aTest (aOp aGt ta tb)) := jt_cmp op_gt (lift_I0 fun c _ _ => reB c _) ha hb (nomark _)
theorem jt_ge (ha : JE X a ta) (hb : JE X b tb) : JT X (.Compare a [.GtE] [b] pos) (aTest (aOp aGe ta tb)) := jt_cmp op_ge (lift_I0 fun c _ _ => reB c _) ha hb (nomark _)
end
def rEqU (K : PySem.W.Frag) : R2 := fun x y H Q => rEq x y H Q ∨ rEqD K x y H Q
def rNeU (K : PySem.W.Frag) : R2 := fun x y H Q => rNe x y H Q ∨ rNeD K x y H Q
/-- an owned list of pure data read as data -/
def asP (S : List O) : D → P → Prop
  | .p x, y => x = y
  | .own n, y => ∃ ps, S[n]? = some (.lst (ps.map .p)) ∧ y = .lst ps
def aEq (neg : Bool) : A2 := fun a b S Post => match a, b with
  | .p (.int i), .p (.int j) => Post (.p (.bl (xor neg (i == j)))) S
  | .p (.str i), .p (.str j) => Post (.p (.bl (xor neg (i == j)))) S
  | .p (.bl i), .p (.bl j) => Post (.p (.bl (xor neg (i == j)))) S
  | a, b => ∃ x y, asP S a x ∧ asP S b y ∧ Dat 60 x ∧ Dat 60 y ∧ Post (.p (.bl (xor neg (P.eqb x y)))) S
theorem Cf.asP {K : PySem.W.Frag} (c : Cf K) {v : V} {d : D} {x : P} (h : c.re v d) (l : Am.asP c.S d x) (dx : Dat 60 x) : Dp K c.H v x.py := by
  cases d with
  | p y =>
    obtain rfl : y = x := l
    exact Rp.dp 60 y v dx (Rp.mono c.ok.ex _ _ h)
  | own n =>
    obtain ⟨ps, e, rfl⟩ := l
    obtain ⟨a, vs, rfl, e1, r, z⟩ := c.ls (d := .own n) (ps := ps) h e
    exact Rp.dp 60 _ _ dx (.lst e1 z (RpL.mono c.ok.ex _ _ r))
theorem lift_eq {K : PySem.W.Frag} : Lift2 K (rEqU K) (aEq false) := by
  refine ⟨fun c x y a b Post Q ra rb h q => ?_⟩
  unfold aEq at h
  split at h
  · rename_i i j
    cases (show Rp K c.Hk x (.int i) from ra)
    cases (show Rp K c.Hk y (.int j) from rb)
    exact .inl ⟨rfl, by rw [dec_int]; exact q c _ _ (.refl c) (reB c _) (by simpa using h)⟩
  · rename_i i j
    cases (show Rp K c.Hk x (.str i) from ra)
    cases (show Rp K c.Hk y (.str j) from rb)
    exact .inl ⟨rfl, by rw [dec_str]; exact q c _ _ (.refl c) (reB c _) (by simpa using h)⟩
  · rename_i i j
    cases (show Rp K c.Hk x (.bl i) from ra)
    cases (show Rp K c.Hk y (.bl j) from rb)
    exact .inl ⟨rfl, by rw [dec_bl]; exact q c _ _ (.refl c) (reB c _) (by simpa using h)⟩
  · obtain ⟨u, w, au, aw, du, dw, h⟩ := h
    exact .inr ⟨_, _, c.asP ra au du, c.asP rb aw dw, du.shaped (by decide), dw.shaped (by decide), q c _ _ (.refl c) (reB c _) (by simpa [P.eqb] using h)⟩
theorem lift_ne {K : PySem.W.Frag} : Lift2 K (rNeU K) (aEq true) := by
  refine ⟨fun c x y a b Post Q ra rb h q => ?_⟩
  unfold aEq at h
  split at h
  · rename_i i j
    cases (show Rp K c.Hk x (.int i) from ra)
    cases (show Rp K c.Hk y (.int j) from rb)
    exact .inl ⟨rfl, by rw [dec_int]; exact q c _ _ (.refl c) (reB c _) (by simpa using h)⟩
  · rename_i i j
    cases (show Rp K c.Hk x (.str i) from ra)
    cases (show Rp K c.Hk y (.str j) from rb)
    exact .inl ⟨rfl, by rw [dec_str]; exact q c _ _ (.refl c) (reB c _) (by simpa using h)⟩
  · rename_i i j
    cases (show Rp K c.Hk x (.bl i) from ra)
    cases (show Rp K c.Hk y (.bl j) from rb)
    exact .inl ⟨rfl, by rw [dec_bl]; exact q c _ _ (.refl c) (reB c _) (by simpa using h)⟩
  · obtain ⟨u, w, au, aw, du, dw, h⟩ := h
    exact .inr ⟨_, _, c.asP ra au du, c.asP rb aw dw, du.shaped (by decide), dw.shaped (by decide), q c _ _ (.refl c) (reB c _) (by simpa [P.eqb] using h)⟩
section
variable {X : Cx} {a b : Expr} {ta tb : AE} {pos : Pos} {k : Nat}
theorem je_eq (hr : Room k X.A) (ha : JE X a ta) (hb : JE X b tb) : JE X (.Compare a [.Eq] [b] pos) (aOp (aEq false) ta tb) := je_cmp (OpR.or op_eq (op_eqD hr.units)) lift_eq ha hb (nomark _)
theorem je_ne (hr : Room k X.A) (ha : JE X a ta) (hb : JE X b tb) : JE X (.Compare a [.NotEq] [b] pos) (aOp (aEq true) ta tb) := je_cmp (OpR.or op_ne (op_neD hr.units)) lift_ne ha hb (nomark _)
theorem jt_eq (hr : Room k X.A) (ha : JE X a ta) (hb : JE X b tb) : JT X (.Compare a [.Eq] [b] pos) (aTest (aOp (aEq false) ta tb)) := jt_cmp (OpR.or op_eq (op_eqD hr.units)) lift_eq ha hb (nomark _)
theorem jt_ne (hr : Room k X.A) (ha : JE X a ta) (hb : JE X b tb) : JT X (.Compare a [.NotEq] [b] pos) (aTest (aOp (aEq true) ta tb)) := jt_cmp (OpR.or op_ne (op_neD hr.units)) lift_ne ha hb (nomark _)
end
/-- is None -/
def isNone : D → Bool
  | .p .non => true
  | .p (.vv v) => decide (v = .non)
  | _ => false
def aIsN (neg : Bool) (ta : AE) : AE := fun L S Post => ta L S fun a S1 => Post (.p (.bl (xor neg (isNone a)))) S1
theorem isNone_re {K : PySem.W.Frag} {c : Cf K} {v : V} {a : D} (h : c.re v a) : decide (v = .non) = isNone a := by
  cases a with
  | p x =>
    cases (show Rp K c.Hk v x from h) <;> simp [isNone]
  | own n =>
    obtain ⟨b, _, rfl⟩ := h
    simp [isNone]
section
variable {X : Cx} {a : Expr} {ta : AE} {pos pos' : Pos} {j : Nat}
theorem je_isN {j} (ha : JE X a ta) : JE X (.Compare a [.Is] [.Constant .none j pos'] pos) (aIsN false ta) := by
  obtain ⟨t1, p1, l1⟩ := ha
  refine ⟨_, pe_cmp (pc_isN p1) rfl, ⟨fun c L σ Post Q hs h q => l1.run c L σ _ _ hs h fun d v x le re h => ?_⟩⟩
  rw [isNone_re re]
  exact q d _ _ le (reB d _) (by simpa using h)
theorem je_notN {j} (ha : JE X a ta) : JE X (.Compare a [.IsNot] [.Constant .none j pos'] pos) (aIsN true ta) := by
  obtain ⟨t1, p1, l1⟩ := ha
  refine ⟨_, pe_cmp (pc_notN p1) rfl, ⟨fun c L σ Post Q hs h q => l1.run c L σ _ _ hs h fun d v x le re h => ?_⟩⟩
  rw [isNone_re re]
  exact q d _ _ le (reB d _) (by simpa using h)
end
end Am
/-! Am: displays, places, parts, built-ins, texts. -/
namespace Am
open PySem L2
/-! ### displays -/
def purs : List D → Option (List P)
  | [] => some []
  | .p x :: r => match purs r with | some xs => some (x :: xs) | none => none
  | .own _ :: _ => none
theorem purs_eq : ∀ {ds : List D} {xs : List P}, purs ds = some xs → ds = xs.map .p
  | [], xs, h => by cases h; rfl
  | .p x :: r, xs, h => by
    unfold purs at h
    split at h
    · rename_i ys e
      cases h
      rw [List.map_cons, purs_eq e]
    · cases h
  | .own _ :: _, xs, h => by cases h
def aTup (t : AA) : AE := fun L S Post => t L S fun as S1 => match purs as with
  | some xs => (match Nat.ble xs.length 1000 with | true => Post (.p (.tup xs)) S1 | false => False)
  | none => False
def aLst (t : AA) : AE := fun L S Post => t L S fun as S1 => match purs as with
  | some xs => (match Nat.ble xs.length 1000 with | true => Post (.p (.lst xs)) S1 | false => False)
  | none => False
def aLstO (t : AA) : AE := fun L S Post => t L S fun as S1 => match Nat.ble as.length 1000 with
  | true => Post (.own S1.length) (S1 ++ [.lst as])
  | false => False
theorem small_of {n : Nat} (h : Nat.ble n 1000 = true) : n ≤ sizeLine := by
  have := Nat.le_of_ble_eq_true h
  rw [sizeLine_eq]; omega
section
variable {X : Cx} {es : List Expr} {t : AA} {pos : Pos}
theorem je_tup {x1} (ha : JA X es t) : JE X (.Tuple es x1 pos) (aTup t) := by
  obtain ⟨t1, p1, l1⟩ := ha
  refine ⟨_, pe_tup p1, ⟨fun c L σ Post Q hs h q => l1.run c L σ _ _ hs h fun d vs as le re h => ?_⟩⟩
  split at h
  · rename_i xs e
    split at h
    · rename_i z
      rw [purs_eq e] at re
      have z := small_of z
      have rl := re.impure
      refine ⟨by rw [rl.length]; exact z, fun p hp => ?_⟩
      obtain ⟨f, eh, es', le2, rf⟩ := d.newTup hp rl z
      rw [← eh]
      exact q f _ _ (le.trans le2) rf (by rw [es']; exact h)
    · exact h.elim
  · exact h.elim
theorem je_lst (ha : JA X es t) : JE X (.List es pos) (aLst t) := by
  obtain ⟨t1, p1, l1⟩ := ha
  refine ⟨_, pe_lst p1, ⟨fun c L σ Post Q hs h q => l1.run c L σ _ _ hs h fun d vs as le re h => ?_⟩⟩
  split at h
  · rename_i xs e
    split at h
    · rename_i z
      rw [purs_eq e] at re
      have z := small_of z
      have rl := re.impure
      refine ⟨by rw [rl.length]; exact z, fun p hp => ?_⟩
      obtain ⟨f, eh, es', le2, rf⟩ := d.newLst hp rl z
      rw [← eh]
      exact q f _ _ (le.trans le2) rf (by rw [es']; exact h)
    · exact h.elim
  · exact h.elim
theorem je_lstO (ha : JA X es t) : JE X (.List es pos) (aLstO t) := by
  obtain ⟨t1, p1, l1⟩ := ha
  refine ⟨_, pe_lst p1, ⟨fun c L σ Post Q hs h q => l1.run c L σ _ _ hs h fun d vs as le re h => ?_⟩⟩
  split at h
  · rename_i z
    have z := small_of z
    refine ⟨by rw [re.length]; exact z, fun p hp => ?_⟩
    obtain ⟨f, eh, es', le2, rf⟩ := d.newOwn hp re z
    rw [← eh]
    exact q f _ _ (le.trans le2) rf (by rw [es']; exact h)
  · exact h.elim
end
/-! ### places -/
/-- the item at a place of any sign -/
def gi {α : Type} (xs : List α) : Int → Option α
  | .ofNat n => xs[n]?
  | .negSucc n => xs.reverse[n]?
theorem gi_atI {α : Type} {xs : List α} {i : Int} {x : α} (h : gi xs i = some x) : atI xs i = some x := by
  cases i with
  | ofNat n => exact atI_nat h
  | negSucc n =>
    have h : xs.reverse[n]? = some x := h
    have hn : n < xs.length := by simpa using (List.getElem?_eq_some_iff.mp h).1
    rw [List.getElem?_reverse hn] at h
    unfold atI ixN
    rw [if_neg (by omega), if_pos (by omega)]
    show xs[(Int.negSucc n + (xs.length : Int)).toNat]? = some x
    rw [← h]
    congr 1
    omega
theorem atI_map {α β : Type} {f : α → β} {xs : List α} {i : Int} : atI (xs.map f) i = (atI xs i).map f := by
  unfold atI
  rw [List.length_map]
  cases ixN xs.length i with
  | none => rfl
  | some j => simp
theorem atI_re {K : PySem.W.Frag} {η : List Addr} {Hk : Hp} {vs : List V} {ds : List D} {i : Int} {x : D} (l : ReL K η Hk vs ds) (h : atI ds i = some x) : ∃ v, atI vs i = some v ∧ Re K η Hk v x := by
  unfold atI at h ⊢
  rw [l.length]
  cases e : ixN ds.length i with
  | none => rw [e] at h; cases h
  | some j =>
    rw [e] at h
    exact l.get' h
def rIxU (K : PySem.W.Frag) : R2 := fun x y H Q => rIxL K x y H Q ∨ (rIxT K x y H Q ∨ rIxS x y H Q)
def aIx : A2 := fun a b S Post => match a, b with
  | .p (.tup xs), .p (.int i) => (match gi xs i with | some x => Post (.p x) S | none => False)
  | .p (.lst xs), .p (.int i) => (match gi xs i with | some x => Post (.p x) S | none => False)
  | .p (.fz xs), .p (.int i) => (match gi xs i with | some x => Post (.p x) S | none => False)
  | .p (.str z), .p (.int i) => z.length ≤ sizeLine ∧ (match gi z.cps.toList i with | some x => Post (.p (.str ⟨#[x]⟩)) S | none => False)
  | .own n, .p (.int i) => (match S[n]? with | some (.lst ds) => (match gi ds i with | some x => Post x S | none => False) | _ => False)
  | _, _ => False
theorem lift_ix {K : PySem.W.Frag} : Lift2 K (rIxU K) aIx := by
  refine ⟨fun c x y a b Post Q ra rb h q => ?_⟩
  unfold aIx at h
  have pick : ∀ {vs : List V} {xs : List P} {i : Int} {u : P}, RpL K c.Hk vs xs → gi xs i = some u → ∃ v, atI vs i = some v ∧ c.re v (.p u) := fun {vs xs i u} l e => atI_re (ReL.pure (η := c.η) l) (by rw [atI_map, gi_atI e]; rfl)
  split at h
  · rename_i xs i
    cases (show Rp K c.Hk y (.int i) from rb)
    split at h
    · rename_i u e
      cases (show Rp K c.Hk x (.tup xs) from ra) with
      | tup s z l =>
        obtain ⟨v, e1, r1⟩ := pick l e
        exact .inr (.inl ⟨_, _, i, v, rfl, rfl, c.ok.ex.tq s, e1, q c v _ (.refl c) r1 h⟩)
    · exact h.elim
  · rename_i xs i
    cases (show Rp K c.Hk y (.int i) from rb)
    split at h
    · rename_i u e
      cases (show Rp K c.Hk x (.lst xs) from ra) with
      | lst s z l =>
        obtain ⟨v, e1, r1⟩ := pick l e
        exact .inl ⟨_, _, i, v, rfl, rfl, SqL.of (c.ok.ex _ _ s), e1, q c v _ (.refl c) r1 h⟩
    · exact h.elim
  · rename_i xs i
    cases (show Rp K c.Hk y (.int i) from rb)
    split at h
    · rename_i u e
      cases (show Rp K c.Hk x (.fz xs) from ra) with
      | fz s z l =>
        obtain ⟨v, e1, r1⟩ := pick l e
        exact .inl ⟨_, _, i, v, rfl, rfl, c.ok.ex.sqL s, e1, q c v _ (.refl c) r1 h⟩
    · exact h.elim
  · rename_i t i
    cases (show Rp K c.Hk y (.int i) from rb)
    obtain ⟨z, h⟩ := h
    split at h
    · rename_i u e
      cases (show Rp K c.Hk x (.str t) from ra)
      exact .inr (.inr ⟨t, i, u, rfl, rfl, z, gi_atI e, q c _ _ (.refl c) (reS c _) h⟩)
    · exact h.elim
  · rename_i n i
    cases (show Rp K c.Hk y (.int i) from rb)
    split at h
    · rename_i ds e0
      split at h
      · rename_i u e
        obtain ⟨p, vs, rfl, e2, e3, l, z⟩ := c.list_own ra e0
        obtain ⟨v, e1, r1⟩ := atI_re l (gi_atI e)
        exact .inl ⟨_, _, i, v, rfl, rfl, SqL.of e3, e1, q c v _ (.refl c) r1 h⟩
      · exact h.elim
    · exact h.elim
  · exact h.elim
theorem je_ix {X : Cx} {a b : Expr} {ta tb : AE} {pos : Pos} (ha : JE X a ta) (hb : JE X b tb) (hs : PlainIx b := by exact fun _ _ => rfl) : JE X (.Subscript a b pos) (aOp aIx ta tb) := by
  obtain ⟨t1, p1, l1⟩ := ha
  obtain ⟨t2, p2, l2⟩ := hb
  exact ⟨_, pe_ix (IxR.or ix_list (IxR.or ix_tup ix_str)) p1 p2 hs, lift_op lift_ix l1 l2⟩
/-! ### parts -/
abbrev APt := Ls → List O → (Option Int → List O → Prop) → Prop
structure LiftP (K : PySem.W.Frag) (te : TO) (t : APt) : Prop where
  run : ∀ (c : Cf K) (L : Ls) (σ : St) (Post : Option Int → List O → Prop) (Q : Option Int → Hp → Prop), c.sl σ L → t L c.S Post → (∀ (d : Cf K) o, c.Le d → Post o d.S → Q o d.H) → te σ c.H Q
structure JP (X : Cx) (e : Option Expr) (t : APt) : Prop where
  ex : ∃ te, PO X e te ∧ LiftP X.K te t
def aNoPt : APt := fun _ S Post => Post none S
def aPt (t : AE) : APt := fun L S Post => t L S fun a S1 => match a with | .p (.int i) => Post (some i) S1 | _ => False
section
variable {X : Cx} {e : Expr} {te : AE}
theorem jp_none : JP X none aNoPt := ⟨_, po_none, ⟨fun c L σ Post Q hs h q => q c none (.refl c) h⟩⟩
theorem jp_some (h : JE X e te) : JP X (some e) (aPt te) := by
  obtain ⟨t1, p1, l1⟩ := h
  refine ⟨_, po_some p1, ⟨fun c L σ Post Q hs h q => l1.run c L σ _ _ hs h fun d v a le re h => ?_⟩⟩
  split at h
  · rename_i i
    cases (show Rp X.K d.Hk v (.int i) from re)
    exact ⟨i, rfl, q d _ le h⟩
  · exact h.elim
end
/-- the items of xs[lo:hi] -/
def cutL {α : Type} (xs : List α) (lo hi : Option Int) : List α := (xs.drop (HT.sIx xs.length 0 lo)).take (HT.sIx xs.length xs.length hi - HT.sIx xs.length 0 lo)
theorem cutL_to {α : Type} (xs : List α) (k : Nat) : cutL xs none (some (k : Int)) = xs.take k := by
  unfold cutL
  rw [HT.sIx_none, HT.sIx_nat, List.drop_zero, Nat.sub_zero]
  by_cases h : k ≤ xs.length
  · rw [Nat.min_eq_left h]
  · rw [Nat.min_eq_right (by omega), List.take_length, List.take_of_length_le (by omega)]
theorem cutL_from {α : Type} (xs : List α) (k : Nat) : cutL xs (some (k : Int)) none = xs.drop k := by
  unfold cutL
  rw [HT.sIx_none, HT.sIx_nat]
  by_cases h : k ≤ xs.length
  · rw [Nat.min_eq_left h, List.take_of_length_le (by rw [List.length_drop]; omega)]
  · rw [Nat.min_eq_right (by omega), List.drop_of_length_le (Nat.le_refl _), List.drop_of_length_le (by omega)]
    simp
theorem cutL_length {α : Type} (xs : List α) (lo hi : Option Int) : (cutL xs lo hi).length ≤ xs.length := by
  unfold cutL
  rw [List.length_take, List.length_drop]; omega
theorem cutL_map {α β : Type} (f : α → β) (xs : List α) (lo hi : Option Int) : cutL (xs.map f) lo hi = (cutL xs lo hi).map f := by
  unfold cutL
  simp
theorem RpL.cutL {K : PySem.W.Frag} {H : Hp} {vs : List V} {xs : List P} (l : RpL K H vs xs) (lo hi : Option Int) : RpL K H (cutV vs lo hi) (Am.cutL xs lo hi) := by
  unfold cutV Am.cutL
  rw [l.length]
  exact (l.drop _).take _
def rSlU (K : PySem.W.Frag) : V → Option Int → Option Int → Hp → VK → Prop := fun x lo hi H Q => rSlA K x lo hi H Q ∨ (rSlL K x lo hi H Q ∨ rSlS x lo hi H Q)
def aSl (te : AE) (tl th : APt) : AE := fun L S Post => te L S fun a S1 => tl L S1 fun lo S2 => th L S2 fun hi S3 => match a with
  | .p (.tup xs) => Post (.p (.tup (cutL xs lo hi))) S3
  | .p (.str z) => z.length ≤ sizeLine ∧ Post (.p (.str (cutS z lo hi))) S3
  | a => ∃ ps, lsAt S3 a ps ∧ Post (.p (.lst (cutL ps lo hi))) S3
theorem je_sl {X : Cx} {e : Expr} {te : AE} {tl th : APt} {lo hi : Option Expr} {p2 pos : Pos} (he : JE X e te) (hl : JP X lo tl) (hh : JP X hi th) : JE X (.Subscript e (.Slice lo hi none p2) pos) (aSl te tl th) := by
  obtain ⟨t1, p1, l1⟩ := he
  obtain ⟨t2, p2', l2⟩ := hl
  obtain ⟨t3, p3, l3⟩ := hh
  refine ⟨_, pe_slice (SlR.or sl_tupA (SlR.or sl_list sl_str)) p1 p2' p3, ⟨fun c L σ Post Q hs h q => ?_⟩⟩
  refine l1.run c L σ _ _ hs h fun d v a le re h1 => ?_
  refine l2.run d L σ _ _ (le.sl hs) h1 fun d2 lo le2 h2 => ?_
  refine l3.run d2 L σ _ _ ((le.trans le2).sl hs) h2 fun d3 hi le3 h => ?_
  clear h1 h2
  have le' := le.trans (le2.trans le3)
  have re' := (le2.trans le3).re re
  split at h
  · rename_i xs
    cases (show Rp X.K d3.Hk v (.tup xs) from re') with
    | tup s z l =>
      refine .inl ⟨_, _, rfl, d3.ok.ex.tq s, fun w => ?_, fun w p hp => ?_⟩
      · have e : cutL xs lo hi = xs := by
          rw [l.length] at w
          unfold cutL
          rw [w.1, w.2]
          simp
        rw [e] at h
        exact q d3 _ _ le' re' h
      · obtain ⟨f, eh, es, lf, rf⟩ := d3.newTup hp (l.cutL lo hi) (Nat.le_trans (cutL_length _ _ _) z)
        rw [← eh]
        exact q f _ _ (le'.trans lf) rf (by rw [es]; exact h)
  · rename_i z
    cases (show Rp X.K d3.Hk v (.str z) from re')
    exact .inr (.inr ⟨z, rfl, h.1, q d3 _ _ le' (reS d3 _) h.2⟩)
  · obtain ⟨ps, la, h⟩ := h
    obtain ⟨p, vs, rfl, e1, l, z⟩ := d3.ls re' la
    refine .inr (.inl ⟨p, vs, rfl, SqL.of e1, fun p hp => ?_⟩)
    obtain ⟨f, eh, es, lf, rf⟩ := d3.newLst hp (l.cutL lo hi) (Nat.le_trans (cutL_length _ _ _) z)
    rw [← eh]
    exact q f _ _ (le'.trans lf) rf (by rw [es]; exact h)
/-! ### built-ins -/
section
variable {K : PySem.W.Frag}
/-- the items of a list or tuple -/
def seAt (S : List O) : D → List P → Prop
  | .p (.lst xs), ps => xs = ps
  | .p (.fz xs), ps => xs = ps
  | .p (.tup xs), ps => xs = ps
  | .own n, ps => S[n]? = some (.lst (ps.map .p))
  | _, _ => False
theorem Cf.se (c : Cf K) {v : V} {d : D} {ps : List P} (h : c.re v d) (l : seAt c.S d ps) : ∃ a vs, v = .ref a ∧ (SqL K c.H a vs ∨ (SqT K c.H a vs ∧ d = .p (.tup ps))) ∧ RpL K c.Hk vs ps ∧ ps.length ≤ sizeLine := by
  cases d with
  | p x =>
    cases x with
    | lst ys =>
      obtain rfl : ys = ps := l
      cases (show Rp K c.Hk v (.lst ys) from h) with
      | lst s z r => exact ⟨_, _, rfl, .inl (SqL.of (c.ok.ex _ _ s)), r, z⟩
    | fz ys =>
      obtain rfl : ys = ps := l
      cases (show Rp K c.Hk v (.fz ys) from h) with
      | fz s z r => exact ⟨_, _, rfl, .inl (c.ok.ex.sqL s), r, z⟩
    | tup ys =>
      obtain rfl : ys = ps := l
      cases (show Rp K c.Hk v (.tup ys) from h) with
      | tup s z r => exact ⟨_, _, rfl, .inr ⟨c.ok.ex.tq s, rfl⟩, r, z⟩
    | _ => exact l.elim
  | own n =>
    obtain ⟨a, vs, rfl, _, e, r, z⟩ := c.list_own h l
    exact ⟨a, vs, rfl, .inl (SqL.of e), r.impure, by simpa using z⟩
end
/-- one argument -/
def a1 (r : A1) : AC := fun as S Post => match as with | [a] => r a S Post | _ => False
theorem lift_1 {K : PySem.W.Frag} {r : List V → Hp → VK → Prop} {t : A1} (h : Lift1 K (fun x => r [x]) t) : LiftC K r (a1 t) := by
  refine ⟨fun c vs as Post Q re h' q => ?_⟩
  unfold a1 at h'
  split at h'
  · cases re with
    | cons r1 rr =>
      cases rr
      exact h.run c _ _ Post Q r1 h' q
  · exact h'.elim
def aLen : A1 := fun a S Post => match a with
  | .p (.str z) => z.length ≤ sizeLine ∧ Post (.p (.int (z.length : Nat))) S
  | .p (.tup xs) => Post (.p (.int (xs.length : Nat))) S
  | .p (.lst xs) => Post (.p (.int (xs.length : Nat))) S
  | .p (.fz xs) => Post (.p (.int (xs.length : Nat))) S
  | .own n => (match S[n]? with | some (.lst ds) => Post (.p (.int (ds.length : Nat))) S | _ => False)
  | _ => False
theorem je_len {X : Cx} {e : Expr} {te : AE} {p pos : Pos} (hg : Gl X "len") (hm : X.mg "len" = none) (he : JE X e te) (h1 : starEach [e] X.env = (false, eval e X.env) :: starEach [] X.env := by rfl) (hpl : (backTo pos (starEach [] X.env)).any (·.1) = false := by rfl) : JE X (.Call (.Name "len" p) [e] [] pos) (aCall (a1 aLen) (aCons te aNil)) :=
  je_callB call_len (lift_1 ⟨fun c x a Post Q ra h q => by
    unfold aLen at h
    split at h
    · rename_i z
      cases (show Rp X.K c.Hk x (.str z) from ra)
      exact ⟨_, _, rfl, ⟨h.1, rfl⟩, q c _ _ (.refl c) (reI c _) h.2⟩
    · rename_i xs
      obtain ⟨p, vs, rfl, s, l, z⟩ := c.se (ps := xs) ra rfl
      refine ⟨_, xs.length, rfl, ?_, q c _ _ (.refl c) (reI c _) h⟩
      rcases s with s | s
      · exact .inl ⟨vs, s, l.length.symm⟩
      · exact .inr ⟨vs, s.1, l.length.symm⟩
    · rename_i xs
      obtain ⟨p, vs, rfl, s, l, z⟩ := c.se (ps := xs) ra rfl
      refine ⟨_, xs.length, rfl, ?_, q c _ _ (.refl c) (reI c _) h⟩
      rcases s with s | s
      · exact .inl ⟨vs, s, l.length.symm⟩
      · exact .inr ⟨vs, s.1, l.length.symm⟩
    · rename_i xs
      obtain ⟨p, vs, rfl, s, l, z⟩ := c.se (ps := xs) ra rfl
      refine ⟨_, xs.length, rfl, ?_, q c _ _ (.refl c) (reI c _) h⟩
      rcases s with s | s
      · exact .inl ⟨vs, s, l.length.symm⟩
      · exact .inr ⟨vs, s.1, l.length.symm⟩
    · rename_i n
      split at h
      · rename_i ds e0
        obtain ⟨p, vs, rfl, e2, e3, l, z⟩ := c.list_own ra e0
        exact ⟨_, ds.length, rfl, .inl ⟨vs, SqL.of e3, l.length.symm⟩, q c _ _ (.refl c) (reI c _) h⟩
      · exact h.elim
    · exact h.elim⟩) hg hm PySem.boot_len (ja_cons he ja_nil h1) (he := h1) (hpl := hpl)
/-- tuple(x) -/
def aTuple : A1 := fun a S Post => ∃ ps, seAt S a ps ∧ Post (.p (.tup ps)) S
theorem je_tuple {X : Cx} {e : Expr} {te : AE} {p pos : Pos} (hg : Gl X "tuple") (hm : X.mg "tuple" = none) (he : JE X e te) (h1 : starEach [e] X.env = (false, eval e X.env) :: starEach [] X.env := by rfl) (hpl : (backTo pos (starEach [] X.env)).any (·.1) = false := by rfl) : JE X (.Call (.Name "tuple" p) [e] [] pos) (aCall (a1 aTuple) (aCons te aNil)) :=
  je_callTy call_tuple_of (lift_1 ⟨fun c x a Post Q ra h q => by
    obtain ⟨ps, sa, h⟩ := h
    obtain ⟨p, vs, rfl, s, l, z⟩ := c.se ra sa
    refine ⟨p, vs, rfl, ?_⟩
    rcases s with s | s
    · refine .inl ⟨s, fun b hb => ?_⟩
      obtain ⟨f, eh, es, lf, rf⟩ := c.newTup hb l z
      rw [← eh]
      exact q f _ _ lf rf (by rw [es]; exact h)
    · exact .inr ⟨s.1, q c _ (.p (.tup ps)) (.refl c) (by rw [← s.2]; exact ra) h⟩⟩) hg hm (by decide +kernel) (ja_cons he ja_nil h1) (he := h1) (hpl := hpl)
end Am
/-! Am: more built-ins, methods, sorting, repr. -/
namespace Am
open PySem L2
section
variable {X : Cx} {e e2 : Expr} {te te2 : AE} {p pos : Pos}
theorem RpL.bls {K : PySem.W.Frag} {H : Hp} : ∀ {bs : List Bool} {vs : List V}, RpL K H vs (bs.map .bl) → vs = bs.map V.bl
  | [], _, h => by cases h; rfl
  | b :: bs, _, h => by
    cases h with
    | cons r l =>
      cases r
      rw [RpL.bls l]; rfl
theorem RpL.strs {K : PySem.W.Frag} {H : Hp} : ∀ {bs : List Str} {vs : List V}, RpL K H vs (bs.map .str) → vs = bs.map V.str
  | [], _, h => by cases h; rfl
  | b :: bs, _, h => by
    cases h with
    | cons r l =>
      cases r
      rw [RpL.strs l]; rfl
theorem RpL.of_strs {K : PySem.W.Frag} {H : Hp} : ∀ {bs : List Str}, RpL K H (bs.map V.str) (bs.map .str)
  | [] => .nil
  | b :: bs => .cons (.str b) RpL.of_strs
theorem RpL.ints {K : PySem.W.Frag} {H : Hp} : ∀ {bs : List Int} {vs : List V}, RpL K H vs (bs.map .int) → vs = bs.map V.int
  | [], _, h => by cases h; rfl
  | b :: bs, _, h => by
    cases h with
    | cons r l =>
      cases r
      rw [RpL.ints l]; rfl
theorem RpL.of_ints {K : PySem.W.Frag} {H : Hp} : ∀ {bs : List Int}, RpL K H (bs.map V.int) (bs.map .int)
  | [] => .nil
  | b :: bs => .cons (.int b) RpL.of_ints
def aAll : A1 := fun a S Post => ∃ bs : List Bool, lsAt S a (bs.map .bl) ∧ Post (.p (.bl (bs.all id))) S
def aAny : A1 := fun a S Post => ∃ bs : List Bool, lsAt S a (bs.map .bl) ∧ Post (.p (.bl (bs.any id))) S
theorem je_all (hc : X.calm = true) (hg : Gl X "all") (hm : X.mg "all" = none) (he : JE X e te) (h1 : starEach [e] X.env = (false, eval e X.env) :: starEach [] X.env := by rfl) (hpl : (backTo pos (starEach [] X.env)).any (·.1) = false := by rfl) : JE X (.Call (.Name "all" p) [e] [] pos) (aCall (a1 aAll) (aCons te aNil)) :=
  je_callB (cr_all hc) (lift_1 ⟨fun c x a Post Q ra h q => by
    obtain ⟨bs, la, h⟩ := h
    obtain ⟨b, vs, rfl, s, l, z⟩ := c.ls ra la
    exact ⟨b, bs, rfl, by rw [← l.bls]; exact SqL.of s, q c _ _ (.refl c) (reB c _) h⟩⟩) hg hm (by decide +kernel) (ja_cons he ja_nil h1) (he := h1) (hpl := hpl)
theorem je_any (hc : X.calm = true) (hg : Gl X "any") (hm : X.mg "any" = none) (he : JE X e te) (h1 : starEach [e] X.env = (false, eval e X.env) :: starEach [] X.env := by rfl) (hpl : (backTo pos (starEach [] X.env)).any (·.1) = false := by rfl) : JE X (.Call (.Name "any" p) [e] [] pos) (aCall (a1 aAny) (aCons te aNil)) :=
  je_callB (cr_any hc) (lift_1 ⟨fun c x a Post Q ra h q => by
    obtain ⟨bs, la, h⟩ := h
    obtain ⟨b, vs, rfl, s, l, z⟩ := c.ls ra la
    exact ⟨b, bs, rfl, by rw [← l.bls]; exact SqL.of s, q c _ _ (.refl c) (reB c _) h⟩⟩) hg hm (by decide +kernel) (ja_cons he ja_nil h1) (he := h1) (hpl := hpl)
def aAbs : A1 := fun a S Post => match a with | .p (.int i) => Post (.p (.int (i.natAbs : Nat))) S | _ => False
theorem je_abs (hg : Gl X "abs") (hm : X.mg "abs" = none) (he : JE X e te) (h1 : starEach [e] X.env = (false, eval e X.env) :: starEach [] X.env := by rfl) (hpl : (backTo pos (starEach [] X.env)).any (·.1) = false := by rfl) : JE X (.Call (.Name "abs" p) [e] [] pos) (aCall (a1 aAbs) (aCons te aNil)) :=
  je_callB call_abs (lift_1 ⟨fun c x a Post Q ra h q => by
    unfold aAbs at h
    split at h
    · rename_i i
      cases (show Rp X.K c.Hk x (.int i) from ra)
      refine ⟨i, rfl, ?_⟩
      have e : (if i < 0 then -i else i) = ((i.natAbs : Nat) : Int) := by split <;> omega
      rw [e]
      exact q c _ _ (.refl c) (reI c _) h
    · exact h.elim⟩) hg hm (by decide +kernel) (ja_cons he ja_nil h1) (he := h1) (hpl := hpl)
/-- int(flag), int(n), int(text) -/
def aInt : A1 := fun a S Post => match a with
  | .p (.int i) => Post (.p (.int i)) S
  | .p (.bl b) => Post (.p (.int (if b = true then 1 else 0))) S
  | .p (.str z) => ∃ n, PySem.intText? z = some n ∧ z.length ≤ 640 ∧ Post (.p (.int n)) S
  | _ => False
theorem je_intC (hg : Gl X "int") (hm : X.mg "int" = none) (he : JE X e te) (h1 : starEach [e] X.env = (false, eval e X.env) :: starEach [] X.env := by rfl) (hpl : (backTo pos (starEach [] X.env)).any (·.1) = false := by rfl) : JE X (.Call (.Name "int" p) [e] [] pos) (aCall (a1 aInt) (aCons te aNil)) :=
  je_callTy (CallR.or call_int1 call_int_str) (lift_1 ⟨fun c x a Post Q ra h q => by
    unfold aInt at h
    split at h
    · rename_i i
      cases (show Rp X.K c.Hk x (.int i) from ra)
      exact .inl (.inl ⟨i, rfl, q c _ _ (.refl c) (reI c _) h⟩)
    · rename_i b
      cases (show Rp X.K c.Hk x (.bl b) from ra)
      exact .inl (.inr ⟨b, rfl, q c _ _ (.refl c) (reI c _) h⟩)
    · rename_i z
      cases (show Rp X.K c.Hk x (.str z) from ra)
      obtain ⟨n, h1, h2, h3⟩ := h
      exact .inr ⟨z, n, rfl, h1, h2, q c _ _ (.refl c) (reI c _) h3⟩
    · exact h.elim⟩) hg hm (by decide +kernel) (ja_cons he ja_nil h1) (he := h1) (hpl := hpl)
/-- str(n) -/
def aStr : A1 := fun a S Post => match a with | .p (.int i) => i.natAbs.log2 < 1920 ∧ Post (.p (.str (toString i))) S | _ => False
theorem je_strC (hg : Gl X "str") (hm : X.mg "str" = none) (he : JE X e te) (h1 : starEach [e] X.env = (false, eval e X.env) :: starEach [] X.env := by rfl) (hpl : (backTo pos (starEach [] X.env)).any (·.1) = false := by rfl) : JE X (.Call (.Name "str" p) [e] [] pos) (aCall (a1 aStr) (aCons te aNil)) :=
  je_callTy call_str_int (lift_1 ⟨fun c x a Post Q ra h q => by
    unfold aStr at h
    split at h
    · rename_i i
      cases (show Rp X.K c.Hk x (.int i) from ra)
      exact ⟨i, rfl, h.1, q c _ _ (.refl c) (reS c _) h.2⟩
    · exact h.elim⟩) hg hm (by decide +kernel) (ja_cons he ja_nil h1) (he := h1) (hpl := hpl)
/-! ### isinstance of built-in types -/
inductive BT where
  | int | bool | str | tuple | list | dict | none
  deriving DecidableEq
def BT.nm : BT → String
  | .int => "int" | .bool => "bool" | .str => "str" | .tuple => "tuple" | .list => "list" | .dict => "dict" | .none => "NoneType"
def BT.isB : BT → BT → Bool
  | .int, .int => true | .bool, .bool => true | .bool, .int => true | .str, .str => true | .tuple, .tuple => true | .list, .list => true | .dict, .dict => true | .none, .none => true
  | _, _ => false
def btOf : P → Option BT
  | .non => some .none | .bl _ => some .bool | .int _ => some .int | .str _ => some .str | .tup _ => some .tuple | .lst _ => some .list | .fz _ => some .list | .dk _ => some .dict
  | _ => none
theorem kit_bt (a b : BT) : kitB a.nm b.nm = some (a.isB b) := by
  cases a <;> cases b <;> decide +kernel
theorem Cf.ty {K : PySem.W.Frag} (c : Cf K) {v : V} {x : P} {t : BT} (h : c.re v (.p x)) (e : btOf x = some t) : TyX K c.H v (.type t.nm) := by
  have h : Rp K c.Hk v x := h
  cases h with
  | non => cases e; exact .base .non
  | bl b => cases e; exact .base (.bl b)
  | int i => cases e; exact .base (.int i)
  | str s => cases e; exact .base (.str s)
  | tup s z l =>
    cases e
    exact .base (.tup (c.ok.ex _ _ s))
  | lst s z l => cases e; exact .base (.lst (c.ok.ex _ _ s))
  | fz s z l =>
    cases e
    rcases c.ok.ex.sqL s with (s | ⟨o, s⟩) | ⟨o, its, n, h1, h2, _⟩
    · exact .base (.lst s)
    · exact .base (.frz s)
    · exact .kList h1 h2
  | dk s z l =>
    cases e
    exact .fDict (c.ok.ex _ _ s)
  | dt s z l => cases e
  | ins s l => cases e
  | vv v => cases e
def aIsi (T : BT) (te : AE) : AE := fun L S Post => te L S fun a S1 => match a with
  | .p x => (match btOf x with | some t => Post (.p (.bl (t.isB T))) S1 | none => False)
  | .own n => (match S1[n]? with | some (.lst _) => Post (.p (.bl (BT.list.isB T))) S1 | _ => False)
theorem je_isi (T : BT) {p2 : Pos} {y : Str} (hv : bootBuiltins y = some (.type T.nm)) (hn : y ≠ "__name__") (hd : (y == ("__debug__" : Str)) = false) (hg : Gl X "isinstance") (hm : X.mg "isinstance" = none) (hgT : Gl X y) (hmT : X.mg y = none) (he : JE X e te)
    (h1 : starEach [e, .Name y p2] X.env = (false, eval e X.env) :: starEach [.Name y p2] X.env := by rfl) (h2 : starEach [.Name y p2] X.env = (false, eval (.Name y p2) X.env) :: starEach [] X.env := by rfl) (hpl : (backTo pos (starEach [.Name y p2] X.env)).any (·.1) = false := by rfl) :
    JE X (.Call (.Name "isinstance" p) [e, .Name y p2] [] pos) (aIsi T te) := by
  obtain ⟨t1, p1, l1⟩ := he
  refine ⟨_, pe_callB call_isi hg hm (by decide +kernel) (pa_cons p1 (pa_cons (pe_bltn hgT hmT hv (v := .ty T.nm) rfl hn hd) pa_nil h2) h1) (he := h1) (hpl := hpl), ⟨fun c L σ Post Q hs h q => ?_⟩⟩
  refine l1.run c L σ _ _ hs h fun d v a le re h => ?_
  split at h
  · rename_i x
    split at h
    · rename_i t e0
      exact ⟨v, .ty T.nm, _, _, t.isB T, rfl, .ty _, d.ty re e0, kit_ty (kit_bt t T), q d _ _ le (reB d _) h⟩
    · exact h.elim
  · rename_i n
    split at h
    · rename_i ds e0
      obtain ⟨b, vs, rfl, e2, e3, l, z⟩ := d.list_own re e0
      exact ⟨_, .ty T.nm, _, _, BT.list.isB T, rfl, .ty _, .base (.lst e3), kit_ty (kit_bt .list T), q d _ _ le (reB d _) h⟩
    · exact h.elim
/-! ### texts -/
theorem isStr {K : PySem.W.Frag} {c : Cf K} {v : V} {z : Str} (h : c.re v (.p (.str z))) : v = .str z := by
  cases (show Rp K c.Hk v (.str z) from h); rfl
end
section
variable {X : Cx} {a b : Expr} {ta tb : AE} {apos pos : Pos}
/-- the receiver is a text -/
def isT : D → Bool | .p (.str _) => true | _ => false
def aJoin' (ta tb : AE) : AE := fun L S Post => ta L S fun a S1 => match a with
  | .p (.str z) => tb L S1 fun b S2 => ∃ ys : List Str, seAt S2 b (ys.map .str) ∧ (ys.map (·.length)).sum + ys.length * z.length ≤ 16777216 ∧ Post (.p (.str (Txt.join z ys))) S2
  | _ => False
theorem je_join (ha : JE X a ta) (hb : JE X b tb) (hs : starEach [b] X.env = [(false, eval b X.env)] := by rfl) (hbase : attributeBase a "join" X.env (eval a X.env) = eval a X.env := by rfl) (hline : (apos.endLine == pos.line) = true := by rfl) :
    JE X (.Call (.Attribute a "join" apos) [b] [] pos) (aJoin' ta tb) := by
  obtain ⟨t1, p1, l1⟩ := ha
  obtain ⟨t2, p2, l2⟩ := hb
  refine ⟨_, pe_join p1 p2 hs hbase hline, ⟨fun c L σ Post Q hs h q => ?_⟩⟩
  refine l1.run c L σ _ _ hs h fun d v x le re h1 => ?_
  split at h1
  · rename_i z
    obtain rfl := isStr re
    refine ⟨⟨z, rfl⟩, ?_⟩
    refine l2.run d L σ _ _ (le.sl hs) h1 fun d2 v2 x2 le2 re2 h2 => ?_
    obtain ⟨ys, sa, hz, h3⟩ := h2
    obtain ⟨b, vs, rfl, s, l, _⟩ := d2.se re2 sa
    rw [l.strs] at s
    exact ⟨z, b, ys, rfl, rfl, s.imp id (·.1), hz, q d2 _ _ (le.trans le2) (reS d2 _) h3⟩
  · exact h1.elim
def aSplit (ta tb : AE) : AE := fun L S Post => ta L S fun a S1 => match a with
  | .p (.str z) => tb L S1 fun b S2 => (match b with
    | .p (.str y) => (y.length == 0) = false ∧ z.length + 2 ≤ sizeLine ∧ (Txt.split z y).length ≤ sizeLine ∧ Post (.p (.lst ((Txt.split z y).map .str))) S2
    | _ => False)
  | _ => False
theorem je_split (ha : JE X a ta) (hb : JE X b tb) (hs : starEach [b] X.env = [(false, eval b X.env)] := by rfl) (hbase : attributeBase a "split" X.env (eval a X.env) = eval a X.env := by rfl) (hline : (apos.endLine == pos.line) = true := by rfl) :
    JE X (.Call (.Attribute a "split" apos) [b] [] pos) (aSplit ta tb) := by
  obtain ⟨t1, p1, l1⟩ := ha
  obtain ⟨t2, p2, l2⟩ := hb
  refine ⟨_, pe_split p1 p2 hs hbase hline, ⟨fun c L σ Post Q hs h q => ?_⟩⟩
  refine l1.run c L σ _ _ hs h fun d v x le re h1 => ?_
  split at h1
  · rename_i z
    obtain rfl := isStr re
    refine ⟨⟨z, rfl⟩, ?_⟩
    refine l2.run d L σ _ _ (le.sl hs) h1 fun d2 v2 x2 le2 re2 h2 => ?_
    split at h2
    · rename_i y
      obtain rfl := isStr re2
      obtain ⟨h3, h4, h5, h6⟩ := h2
      refine ⟨z, y, rfl, rfl, h3, h4, fun p hp => ?_⟩
      obtain ⟨f, eh, es, lf, rf⟩ := d2.newLst (vs := (Txt.split z y).map V.str) (ps := (Txt.split z y).map .str) hp RpL.of_strs (by simpa using h5)
      rw [← eh]
      exact q f _ _ (le.trans (le2.trans lf)) rf (by rw [es]; exact h6)
    · exact h2.elim
  · exact h1.elim
end
/-! ### methods of lists -/
def isLs (S : List O) : D → Bool
  | .own n => (match S[n]? with | some (.lst _) => true | _ => false)
  | .p (.lst _) => true
  | _ => false
structure LiftM (K : PySem.W.Frag) (r : V → List V → Hp → VK → Prop) (t : AM) : Prop where
  run : ∀ (c : Cf K) (x : V) (a : D) (vs : List V) (as : List D) (Post : D → List O → Prop) (Q : VK), c.re x a → ReL K c.η c.Hk vs as → t a as c.S Post → (∀ (d : Cf K) v a, c.Le d → d.re v a → Post a d.S → Q v d.H) → r x vs c.H Q
def aMt (chk : List O → D → Bool) (r : AM) (te : AE) (t : AA) : AE := fun L S Post => te L S fun a S1 => match chk S1 a with
  | true => t L S1 fun as S2 => r a as S2 Post
  | false => False
def aAppend : AM := fun a as S Post => match a, as with
  | .own n, [x] => (match S[n]? with | some (.lst ds) => ds.length < sizeLine ∧ Post (.p .non) (S.set n (.lst (ds ++ [x]))) | _ => False)
  | _, _ => False
def aExtend : AM := fun a as S Post => match a, as with
  | .own n, [.p (.lst ps)] => (match S[n]? with | some (.lst ds) => ds.length + ps.length ≤ sizeLine ∧ Post (.p .non) (S.set n (.lst (ds ++ ps.map .p))) | _ => False)
  | _, _ => False
theorem lift_append {K : PySem.W.Frag} : LiftM K rAppend aAppend := by
  refine ⟨fun c x a vs as Post Q ra rs h q => ?_⟩
  unfold aAppend at h
  split at h
  · rename_i n y
    split at h
    · rename_i ds e0
      obtain ⟨b, ws, rfl, e1, e2, l, z⟩ := c.list_own ra e0
      cases rs with
      | cons r1 rs =>
        cases rs
        obtain ⟨f, eh, es, lf⟩ := c.setLst (vs' := ws ++ [_]) (ds' := ds ++ [y]) e1 e0 (l.append (.cons r1 .nil)) (by rw [List.length_append, List.length_singleton]; omega)
        refine ⟨b, ws, _, rfl, rfl, e2, by rw [l.length]; exact h.1, ?_⟩
        rw [← eh]
        exact q f _ _ lf (reN f) (by rw [es]; exact h.2)
    · exact h.elim
  · exact h.elim
theorem lift_extend {K : PySem.W.Frag} : LiftM K rExtend aExtend := by
  refine ⟨fun c x a vs as Post Q ra rs h q => ?_⟩
  unfold aExtend at h
  split at h
  · rename_i n ps
    split at h
    · rename_i ds e0
      obtain ⟨b, ws, rfl, e1, e2, l, z⟩ := c.list_own ra e0
      cases rs with
      | cons r1 rs =>
        cases rs
        obtain ⟨b2, ws2, rfl, e3, l2, z2⟩ := c.ls (ps := ps) r1 rfl
        obtain ⟨f, eh, es, lf⟩ := c.setLst (vs' := ws ++ ws2) (ds' := ds ++ ps.map .p) e1 e0 (l.append (ReL.pure l2)) (by simpa using h.1)
        refine ⟨b, b2, ws, ws2, rfl, rfl, e2, e3, by rw [l.length, l2.length]; exact h.1, ?_⟩
        rw [← eh]
        exact q f _ _ lf (reN f) (by rw [es]; exact h.2)
    · exact h.elim
  · exact h.elim
theorem Cf.isLs {K : PySem.W.Frag} (c : Cf K) {v : V} {a : D} (h : c.re v a) (e : Am.isLs c.S a = true) : tyV K "list" v c.H := by
  cases a with
  | own n =>
    have e : (match c.S[n]? with | some (O.lst _) => true | _ => false) = true := e
    split at e
    · rename_i ds e0
      obtain ⟨b, vs, rfl, e2, e3, l, z⟩ := c.list_own h e0
      exact .inl ⟨rfl, vs, SqL.of e3⟩
    · cases e
  | p x =>
    cases x with
    | lst ys =>
      obtain ⟨b, vs, rfl, e1, _, _⟩ := c.ls (ps := ys) h rfl
      exact .inl ⟨rfl, vs, SqL.of e1⟩
    | _ => cases e
section
variable {X : Cx} {o e : Expr} {es : List Expr} {te : AE} {t : AA} {apos cpos : Pos} {name : Str} {id : String} {r : V → List V → Hp → VK → Prop} {ra : AM}
theorem je_mtL (slot : Slot "list" name id) (hty : typeOf (.builtin id) = pure (.type "method_descriptor")) (hm : MtR X id r) (hr : LiftM X.K r ra) (ho : JE X o te) (ha : JA X (e :: es) t)
    (hbase : attributeBase o name X.env (eval o X.env) = eval o X.env := by rfl)
    (hfew : ((backTo cpos (starEach (e :: es) X.env)).all (fun x => !x.1) && (backToKw cpos (keywordEach [] X.env)).all (fun x => x.1.isSome)
      && decide ((e :: es).length + ([] : List Keyword).length + (if ([] : List Keyword).isEmpty then 0 else 1) < 30)) = true := by rfl)
    (hline : (apos.endLine == cpos.line) = true := by rfl) (hs : starEach (e :: es) X.env = (false, eval e X.env) :: starEach es X.env := by rfl) (hplain : (backTo cpos (starEach es X.env)).any (·.1) = false := by rfl) :
    JE X (.Call (.Attribute o name apos) (e :: es) [] cpos) (aMt isLs ra te t) := by
  obtain ⟨t1, p1, l1⟩ := ho
  obtain ⟨t2, p2, l2⟩ := ha
  refine ⟨_, pe_bm PySem.F.plainAttrs_list slot hty hm p1 p2 hbase hfew hline hs hplain, ⟨fun c L σ Post Q hs h q => ?_⟩⟩
  refine l1.run c L σ _ _ hs h fun d v x le re h1 => ?_
  split at h1
  · rename_i e0
    refine ⟨d.isLs re e0, ?_⟩
    refine l2.run d L σ _ _ (le.sl hs) h1 fun d2 vs as le2 re2 h2 => ?_
    exact hr.run d2 v x vs as Post Q (le2.re re) re2 h2 fun d3 v3 x3 le3 re3 h3 => q d3 v3 x3 (le.trans (le2.trans le3)) re3 h3
  · exact h1.elim
end
end Am
/-! Am: membership, chained comparison, zip, sorted, repr, list * int. -/
namespace Am
open PySem L2
/-! ### repr of data -/
def rReprD (K : PySem.W.Frag) : List V → Hp → VK → Prop := fun vs H Q => ∃ (a : Addr) (d : PyData), vs = [V.ref a] ∧ Dp K H (V.ref a) d ∧ SeqAt.shaped d = true ∧ d.showable = true ∧ d.shown.length ≤ sizeLine ∧ Q (.str d.shown) H
theorem cr_reprD {X : Cx} (hu : X.A.units + 65 < cLine) (hg : X.A.guards = some []) : CallR X (.builtin "repr") (rReprD X.K) := by
  intro pins s σ H vs us Q I r h
  obtain ⟨a, d, rfl, hd, sd, hs, hz, q⟩ := h
  obtain ⟨as, r1⟩ := Dp.reads I d (.ref a) (.ref a) hd rfl
  rw [Vals.ref1 r]
  have hl := SeqAt.canLay_of_shaped sd
  have hdp : d.depth ≤ 64 := by
    unfold SeqAt.shaped at sd
    simp only [Bool.and_eq_true, decide_eq_true_eq] at sd
    omega
  exact repr_of_reads' r1 hs (PyData.noDict_hsm (PyData.hasDict_of_canLay d hl)) hg (by omega) (fun _ _ e => e) (fun h' u tk hk => ⟨.str _, H, I.kept hk, ⟨u, rfl⟩, q⟩) hz
def isSeqP : P → Bool | .tup _ => true | .lst _ => true | .fz _ => true | _ => false
def aRepr : A1 := fun a S Post => ∃ x, asP S a x ∧ isSeqP x = true ∧ Dat 60 x ∧ x.py.showable = true ∧ x.py.shown.length ≤ sizeLine ∧ Post (.p (.str x.py.shown)) S
theorem lift_repr {K : PySem.W.Frag} : Lift1 K (fun x => rReprD K [x]) aRepr := by
  refine ⟨fun c x a Post Q ra h q => ?_⟩
  obtain ⟨y, ay, sy, dy, h1, h2, h3⟩ := h
  have hd := c.asP ra ay dy
  have hx : ∃ b, x = .ref b := by
    cases a with
    | own n => obtain ⟨b, _, rfl⟩ := ra; exact ⟨b, rfl⟩
    | p z =>
      obtain rfl : z = y := ay
      cases (show Rp K c.Hk x z from ra) <;> first | exact ⟨_, rfl⟩ | (exact absurd sy (by simp [isSeqP]))
  obtain ⟨b, rfl⟩ := hx
  exact ⟨b, _, rfl, hd, dy.shaped (by decide), h1, h2, q c _ _ (.refl c) (reS c _) h3⟩
section
variable {X : Cx} {e e2 : Expr} {te te2 : AE} {p pos : Pos} {k : Nat}
theorem je_repr (hr : Room k X.A) (hgd : X.A.guards = some []) (hu : X.A.units + 65 < cLine) (hg : Gl X "repr") (hm : X.mg "repr" = none) (he : JE X e te) (h1 : starEach [e] X.env = (false, eval e X.env) :: starEach [] X.env := by rfl) (hpl : (backTo pos (starEach [] X.env)).any (·.1) = false := by rfl) : JE X (.Call (.Name "repr" p) [e] [] pos) (aCall (a1 aRepr) (aCons te aNil)) :=
  je_callB (cr_reprD hu hgd) (lift_1 lift_repr) hg hm (by decide +kernel) (ja_cons he ja_nil h1) (he := h1) (hpl := hpl)
/-! ### in -/
def rInTD (K : PySem.W.Frag) : R2 := fun x y H Q => ∃ d ds, Dp K H x d ∧ Dp K H y (.tuple ds) ∧ SeqAt.shaped d = true ∧ SeqAt.shaped (.tuple ds) = true ∧ Q (.bl (ds.any fun z => PyData.eqv z d)) H
def rNInTD (K : PySem.W.Frag) : R2 := fun x y H Q => ∃ d ds, Dp K H x d ∧ Dp K H y (.tuple ds) ∧ SeqAt.shaped d = true ∧ SeqAt.shaped (.tuple ds) = true ∧ Q (.bl (!ds.any fun z => PyData.eqv z d)) H
theorem op_inTD (hu : X.A.units + 65 < cLine) : OpR X (compareOp .In) (rInTD X.K) := by
  intro pins s σ H x y v u Q I rx ry h
  obtain ⟨d, ds, hd, he, sd, se, q⟩ := h
  obtain ⟨as, r1⟩ := Dp.reads I d x v hd rx
  obtain ⟨bs, r2⟩ := Dp.reads I (.tuple ds) y u he ry
  exact SeqAt.in_tuple_reads r2 r1 (SeqAt.canLay_of_shaped se) (SeqAt.canLay_of_shaped sd) (PyProof.Rows.room_in_shaped sd hu) ⟨.bl _, H, I, rfl, q⟩
theorem op_nInTD (hu : X.A.units + 65 < cLine) : OpR X (compareOp .NotIn) (rNInTD X.K) := by
  intro pins s σ H x y v u Q I rx ry h
  obtain ⟨d, ds, hd, he, sd, se, q⟩ := h
  obtain ⟨as, r1⟩ := Dp.reads I d x v hd rx
  obtain ⟨bs, r2⟩ := Dp.reads I (.tuple ds) y u he ry
  exact SeqAt.notIn_tuple_reads r2 r1 (SeqAt.canLay_of_shaped se) (SeqAt.canLay_of_shaped sd) (PyProof.Rows.room_in_shaped sd hu) ⟨.bl _, H, I, rfl, q⟩
def rSgn (neg : Bool) : R2 := fun x y H Q => ∃ (c : Nat) (z : Str), x = .str ⟨#[c]⟩ ∧ y = .str z ∧ Q (.bl (xor neg (decide (c ∈ z.cps.toList)))) H
theorem op_sgn0 : OpR X (compareOp .In) (rSgn false) := fun pins s σ H x y v u Q I rx ry ⟨c, z, e1, e2, q⟩ => op_in_sign pins s σ H x y v u Q I rx ry ⟨c, z, e1, e2, by simpa using q⟩
theorem op_sgn1 : OpR X (compareOp .NotIn) (rSgn true) := fun pins s σ H x y v u Q I rx ry ⟨c, z, e1, e2, q⟩ => op_notIn_sign pins s σ H x y v u Q I rx ry ⟨c, z, e1, e2, by simpa using q⟩
def rInU (K : PySem.W.Frag) : R2 := fun x y H Q => rSgn false x y H Q ∨ (rInD K x y H Q ∨ rInTD K x y H Q)
def rNInU (K : PySem.W.Frag) : R2 := fun x y H Q => rSgn true x y H Q ∨ (rNotInD K x y H Q ∨ rNInTD K x y H Q)
def seP (S : List O) : D → List P → Prop
  | .p (.lst xs), ps => xs = ps
  | .p (.tup xs), ps => xs = ps
  | .own n, ps => S[n]? = some (.lst (ps.map .p))
  | _, _ => False
def aIn (neg : Bool) : A2 := fun a b S Post => match a, b with
  | .p (.str y), .p (.str z) => ∃ c, y = ⟨#[c]⟩ ∧ Post (.p (.bl (xor neg (decide (c ∈ z.cps.toList))))) S
  | a, b => ∃ x ps, asP S a x ∧ seP S b ps ∧ Dat 60 x ∧ (∀ y ∈ ps, Dat 59 y) ∧ Post (.p (.bl (xor neg (ps.any fun z => P.eqb z x)))) S
theorem any_py (x : P) : ∀ ps : List P, (P.pys ps).any (fun z => PyData.eqv z x.py) = ps.any fun z => P.eqb z x
  | [] => rfl
  | y :: ys => by rw [P.pys, List.any_cons, List.any_cons, any_py x ys]; rfl
theorem Cf.seP {K : PySem.W.Frag} (c : Cf K) {v : V} {d : D} {ps : List P} (h : c.re v d) (l : Am.seP c.S d ps) (dp : ∀ y ∈ ps, Dat 59 y) : (Dp K c.H v (.list (P.pys ps)) ∧ SeqAt.shaped (.list (P.pys ps)) = true) ∨ (Dp K c.H v (.tuple (P.pys ps)) ∧ SeqAt.shaped (.tuple (P.pys ps)) = true) := by
  have dL : Dat 60 (.lst ps) := dp
  have dT : Dat 60 (.tup ps) := dp
  cases d with
  | p x =>
    cases x with
    | lst ys =>
      obtain rfl : ys = ps := l
      have h1 := c.asP (x := .lst ys) h rfl dL
      have h2 := dL.shaped (by decide)
      rw [P.py] at h1 h2
      exact .inl ⟨h1, h2⟩
    | tup ys =>
      obtain rfl : ys = ps := l
      have h1 := c.asP (x := .tup ys) h rfl dT
      have h2 := dT.shaped (by decide)
      rw [P.py] at h1 h2
      exact .inr ⟨h1, h2⟩
    | _ => exact l.elim
  | own n =>
    have h1 := c.asP (x := .lst ps) h ⟨ps, l, rfl⟩ dL
    have h2 := dL.shaped (by decide)
    rw [P.py] at h1 h2
    exact .inl ⟨h1, h2⟩
theorem lift_in0 {K : PySem.W.Frag} : Lift2 K (rInU K) (aIn false) := by
  refine ⟨fun c x y a b Post Q ra rb h q => ?_⟩
  unfold aIn at h
  split at h
  · rename_i y z
    obtain ⟨k, rfl, h⟩ := h
    cases (show Rp K c.Hk x (.str ⟨#[k]⟩) from ra)
    cases (show Rp K c.Hk _ (.str z) from rb)
    exact .inl ⟨k, z, rfl, rfl, q c _ _ (.refl c) (reB c _) h⟩
  · obtain ⟨u, ps, au, sp, du, dp, h⟩ := h
    have h1 := c.asP ra au du
    have h2 := du.shaped (by decide)
    rcases c.seP rb sp dp with ⟨g1, g2⟩ | ⟨g1, g2⟩
    · exact .inr (.inl ⟨_, _, h1, g1, h2, g2, by rw [any_py]; exact q c _ _ (.refl c) (reB c _) (by simpa using h)⟩)
    · exact .inr (.inr ⟨_, _, h1, g1, h2, g2, by rw [any_py]; exact q c _ _ (.refl c) (reB c _) (by simpa using h)⟩)
theorem lift_in1 {K : PySem.W.Frag} : Lift2 K (rNInU K) (aIn true) := by
  refine ⟨fun c x y a b Post Q ra rb h q => ?_⟩
  unfold aIn at h
  split at h
  · rename_i y z
    obtain ⟨k, rfl, h⟩ := h
    cases (show Rp K c.Hk x (.str ⟨#[k]⟩) from ra)
    cases (show Rp K c.Hk _ (.str z) from rb)
    exact .inl ⟨k, z, rfl, rfl, q c _ _ (.refl c) (reB c _) h⟩
  · obtain ⟨u, ps, au, sp, du, dp, h⟩ := h
    have h1 := c.asP ra au du
    have h2 := du.shaped (by decide)
    rcases c.seP rb sp dp with ⟨g1, g2⟩ | ⟨g1, g2⟩
    · exact .inr (.inl ⟨_, _, h1, g1, h2, g2, by rw [any_py]; exact q c _ _ (.refl c) (reB c _) (by simpa using h)⟩)
    · exact .inr (.inr ⟨_, _, h1, g1, h2, g2, by rw [any_py]; exact q c _ _ (.refl c) (reB c _) (by simpa using h)⟩)
variable {a b c : Expr} {ta tb tc : AE}
theorem je_in (hu : X.A.units + 65 < cLine) (ha : JE X a ta) (hb : JE X b tb) (hm : behindInMarks .In b = false := by with_unfolding_all rfl) : JE X (.Compare a [.In] [b] pos) (aOp (aIn false) ta tb) := je_cmp (OpR.or op_sgn0 (OpR.or (op_inD hu) (op_inTD hu))) lift_in0 ha hb hm
theorem je_nin (hu : X.A.units + 65 < cLine) (ha : JE X a ta) (hb : JE X b tb) (hm : behindInMarks .NotIn b = false := by with_unfolding_all rfl) : JE X (.Compare a [.NotIn] [b] pos) (aOp (aIn true) ta tb) := je_cmp (OpR.or op_sgn1 (OpR.or (op_notInD hu) (op_nInTD hu))) lift_in1 ha hb hm
theorem jt_in (hu : X.A.units + 65 < cLine) (ha : JE X a ta) (hb : JE X b tb) (hm : behindInMarks .In b = false := by with_unfolding_all rfl) : JT X (.Compare a [.In] [b] pos) (aTest (aOp (aIn false) ta tb)) := jt_cmp (OpR.or op_sgn0 (OpR.or (op_inD hu) (op_inTD hu))) lift_in0 ha hb hm
theorem jt_nin (hu : X.A.units + 65 < cLine) (ha : JE X a ta) (hb : JE X b tb) (hm : behindInMarks .NotIn b = false := by with_unfolding_all rfl) : JT X (.Compare a [.NotIn] [b] pos) (aTest (aOp (aIn true) ta tb)) := jt_cmp (OpR.or op_sgn1 (OpR.or (op_notInD hu) (op_nInTD hu))) lift_in1 ha hb hm
/-! ### a < b < c -/
def aChain (r r' : A2) (ta tb tc : AE) : AE := fun L S Post => ta L S fun a S1 => tb L S1 fun b S2 => r a b S2 fun z S3 => match z with
  | .p (.bl true) => tc L S3 fun w S4 => r' b w S4 Post
  | .p (.bl false) => Post (.p (.bl false)) S3
  | _ => False
theorem je_chain {op op' : CmpOp} {r r' : R2} {s s' : A2} (ho : OpR X (compareOp op) r) (ho' : OpR X (compareOp op') r') (hl : Lift2 X.K r s) (hl' : Lift2 X.K r' s') (ha : JE X a ta) (hb : JE X b tb) (hc : JE X c tc)
    (hm : lastMarks [op, op'] [b, c] = false := by with_unfolding_all rfl) : JE X (.Compare a [op, op'] [b, c] pos) (aChain s s' ta tb tc) := by
  obtain ⟨t1, p1, l1⟩ := ha
  obtain ⟨t2, p2, l2⟩ := hb
  obtain ⟨t3, p3, l3⟩ := hc
  refine ⟨_, pe_chain ho ho' p1 p2 p3 hm, ⟨fun c L σ Post Q hs h q => ?_⟩⟩
  refine l1.run c L σ _ _ hs h fun d v x le re h1 => ?_
  refine l2.run d L σ _ _ (le.sl hs) h1 fun d2 v2 x2 le2 re2 h2 => ?_
  refine hl.run d2 _ _ _ _ _ _ (le2.re re) re2 h2 fun d3 v3 x3 le3 re3 h3 => ?_
  have le' := le.trans (le2.trans le3)
  split at h3
  · cases (show Rp X.K d3.Hk v3 (.bl true) from re3)
    refine ⟨true, rfl, ?_⟩
    rw [if_pos rfl]
    refine l3.run d3 L σ _ _ (le'.sl hs) h3 fun d4 v4 x4 le4 re4 h4 => ?_
    exact hl'.run d4 _ _ _ _ _ _ ((le3.trans le4).re re2) re4 h4 fun d5 v5 x5 le5 re5 h5 => q d5 _ _ (le'.trans (le4.trans le5)) re5 h5
  · cases (show Rp X.K d3.Hk v3 (.bl false) from re3)
    refine ⟨false, rfl, ?_⟩
    rw [if_neg Bool.false_ne_true]
    exact q d3 _ _ le' (reB d3 _) h3
  · exact h3.elim
theorem je_le_lt (ha : JE X a ta) (hb : JE X b tb) (hc : JE X c tc) : JE X (.Compare a [.LtE, .Lt] [b, c] pos) (aChain aLe aLt ta tb tc) := je_chain op_le op_lt (lift_I0 fun c _ _ => reB c _) (lift_I0 fun c _ _ => reB c _) ha hb hc (nomark c)
theorem je_le_le (ha : JE X a ta) (hb : JE X b tb) (hc : JE X c tc) : JE X (.Compare a [.LtE, .LtE] [b, c] pos) (aChain aLe aLe ta tb tc) := je_chain op_le op_le (lift_I0 fun c _ _ => reB c _) (lift_I0 fun c _ _ => reB c _) ha hb hc (nomark c)
theorem je_lt_lt (ha : JE X a ta) (hb : JE X b tb) (hc : JE X c tc) : JE X (.Compare a [.Lt, .Lt] [b, c] pos) (aChain aLt aLt ta tb tc) := je_chain op_lt op_lt (lift_I0 fun c _ _ => reB c _) (lift_I0 fun c _ _ => reB c _) ha hb hc (nomark c)
theorem je_lt_le (ha : JE X a ta) (hb : JE X b tb) (hc : JE X c tc) : JE X (.Compare a [.Lt, .LtE] [b, c] pos) (aChain aLt aLe ta tb tc) := je_chain op_lt op_le (lift_I0 fun c _ _ => reB c _) (lift_I0 fun c _ _ => reB c _) ha hb hc (nomark c)
/-! ### list * int -/
def aRep : A2 := fun a b S Post => match b with
  | .p (.int k) => ∃ ps, lsAt S a ps ∧ -(2 ^ 62) ≤ k ∧ k < 2 ^ 62 ∧ ps.length * k.toNat ≤ sizeLine ∧ Post (.p (.lst (List.replicate k.toNat ps).flatten)) S
  | _ => False
theorem RpL.rep {K : PySem.W.Frag} {H : Hp} {vs : List V} {ps : List P} (l : RpL K H vs ps) : ∀ n : Nat, RpL K H (List.replicate n vs).flatten (List.replicate n ps).flatten
  | 0 => .nil
  | n + 1 => by
    rw [List.replicate_succ, List.replicate_succ, List.flatten_cons, List.flatten_cons]
    exact l.append (RpL.rep l n)
theorem len_rep {α : Type} (xs : List α) : ∀ n : Nat, (List.replicate n xs).flatten.length = xs.length * n
  | 0 => rfl
  | n + 1 => by rw [List.replicate_succ, List.flatten_cons, List.length_append, len_rep xs n, Nat.mul_succ, Nat.add_comm]
theorem je_rep (ha : JE X a ta) (hb : JE X b tb) : JE X (.BinOp a .Mult b pos) (aOp aRep ta tb) := je_op op_rep ⟨fun c x y a b Post Q ra rb h q => by
  unfold aRep at h
  split at h
  · rename_i k
    obtain ⟨ps, la, h1, h2, h3, h4⟩ := h
    obtain ⟨p, vs, rfl, e1, l, z⟩ := c.ls ra la
    cases (show Rp X.K c.Hk y (.int k) from rb)
    refine ⟨p, k, vs, rfl, rfl, e1, by omega, by omega, by rw [l.length]; exact h3, fun b hb => ?_⟩
    obtain ⟨f, eh, es, lf, rf⟩ := c.newLst hb (l.rep k.toNat) (by rw [len_rep]; exact h3)
    rw [← eh]
    exact q f _ _ lf rf (by rw [es]; exact h4)
  · exact h.elim⟩ ha hb
/-! ### two ints -/
def a2i (g : Int → Int → Int) : AC := fun as S Post => match as with | [.p (.int i), .p (.int j)] => Post (.p (.int (g i j))) S | _ => False
theorem lift_2i {K : PySem.W.Frag} {g : Int → Int → Int} : LiftC K (fun xs H Q => ∃ i j, xs = [.int i, .int j] ∧ Q (.int (g i j)) H) (a2i g) := by
  refine ⟨fun c vs as Post Q re h q => ?_⟩
  unfold a2i at h
  split at h
  · rename_i i j
    cases re with
    | cons r1 rr =>
      cases rr with
      | cons r2 rr =>
        cases rr
        cases (show Rp K c.Hk _ (.int i) from r1)
        cases (show Rp K c.Hk _ (.int j) from r2)
        exact ⟨i, j, rfl, q c _ _ (.refl c) (reI c _) h⟩
  · exact h.elim
theorem je_max2 (hc : X.calm = true) (hg : Gl X "max") (hm : X.mg "max" = none) (he : JE X e te) (he2 : JE X e2 te2) (h1 : starEach [e, e2] X.env = (false, eval e X.env) :: starEach [e2] X.env := by rfl) (h2 : starEach [e2] X.env = (false, eval e2 X.env) :: starEach [] X.env := by rfl) (hpl : (backTo pos (starEach [e2] X.env)).any (·.1) = false := by rfl) : JE X (.Call (.Name "max" p) [e, e2] [] pos) (aCall (a2i fun i j => if j > i then j else i) (aCons te (aCons te2 aNil))) :=
  je_callB (call_max2 hc) lift_2i hg hm (by decide +kernel) (ja_cons he (ja_cons he2 ja_nil h2) h1) (he := h1) (hpl := hpl)
theorem je_min2 (hc : X.calm = true) (hg : Gl X "min") (hm : X.mg "min" = none) (he : JE X e te) (he2 : JE X e2 te2) (h1 : starEach [e, e2] X.env = (false, eval e X.env) :: starEach [e2] X.env := by rfl) (h2 : starEach [e2] X.env = (false, eval e2 X.env) :: starEach [] X.env := by rfl) (hpl : (backTo pos (starEach [e2] X.env)).any (·.1) = false := by rfl) : JE X (.Call (.Name "min" p) [e, e2] [] pos) (aCall (a2i fun i j => if j < i then j else i) (aCons te (aCons te2 aNil))) :=
  je_callB (call_min2 hc) lift_2i hg hm (by decide +kernel) (ja_cons he (ja_cons he2 ja_nil h2) h1) (he := h1) (hpl := hpl)
end
/-! ### zip -/
def pairs (xs ys : List P) : List D := List.zipWith (fun x y => .p (.tup [x, y])) xs ys
theorem Wk.zipL {K : PySem.W.Frag} {c : Cf K} {a b : Addr} {vs ws : List V} {xs ys : List P} (s1 : SqL K c.Hk a vs) (s2 : SqL K c.Hk b ws) (l1 : RpL K c.Hk vs xs) (l2 : RpL K c.Hk ws ys) (z : xs.length ≤ sizeLine) : Wk K c (Itz K a b) (pairs xs ys) (fun _ => True) := by
  have n1 := l1.length
  have n2 := l2.length
  have hl : (pairs xs ys).length = min xs.length ys.length := by unfold pairs; rw [List.length_zipWith]
  refine ⟨by rw [hl]; omega, fun d i le hk hi => ?_, fun d i x H' le hk hi y => ?_, fun d i le hk hi => ?_⟩
  · rw [hl] at hi
    exact ⟨vs, ws, vs[i], ws[i], le.sqL s1, le.sqL s2, List.getElem?_eq_getElem _, List.getElem?_eq_getElem _⟩
  · rw [hl] at hi
    obtain ⟨T, v, w, rfl, hT, rfl, f1, f2⟩ := y
    obtain ⟨x, ex, rx⟩ := l1.get (f1 vs (le.sqL s1))
    obtain ⟨y, ey, ry⟩ := l2.get (f2 ws (le.sqL s2))
    obtain ⟨f, eh, es, lf, rf⟩ := d.newTup (vs := [v, w]) (ps := [x, y]) hT (.cons (Rp.mono le.ex _ _ rx) (.cons (Rp.mono le.ex _ _ ry) .nil)) (by show 2 ≤ sizeLine; decide)
    refine ⟨f, eh, es, lf, .p (.tup [x, y]), ?_, rf⟩
    unfold pairs
    rw [List.getElem?_zipWith, ex, ey]
  · rw [hl] at hi
    exact ⟨vs, ws, le.sqL s1, le.sqL s2, by omega⟩
theorem Wk.zipT {K : PySem.W.Frag} {c : Cf K} {a b : Addr} {vs ws : List V} {xs ys : List P} (s1 : c.Hk a = some (.tup vs)) (s2 : c.Hk b = some (.tup ws)) (l1 : RpL K c.Hk vs xs) (l2 : RpL K c.Hk ws ys) (z : xs.length ≤ sizeLine) : Wk K c (RZ.ItzT K a b) (pairs xs ys) (fun _ => True) := by
  have n1 := l1.length
  have n2 := l2.length
  have hl : (pairs xs ys).length = min xs.length ys.length := by unfold pairs; rw [List.length_zipWith]
  refine ⟨by rw [hl]; omega, fun d i le hk hi => ?_, fun d i x H' le hk hi y => ?_, fun d i le hk hi => ?_⟩
  · rw [hl] at hi
    exact ⟨vs, ws, vs[i], ws[i], le.tq s1, le.tq s2, List.getElem?_eq_getElem _, List.getElem?_eq_getElem _⟩
  · rw [hl] at hi
    obtain ⟨T, v, w, rfl, hT, rfl, f1, f2⟩ := y
    obtain ⟨x, ex, rx⟩ := l1.get (f1 vs (le.tq s1))
    obtain ⟨y, ey, ry⟩ := l2.get (f2 ws (le.tq s2))
    obtain ⟨f, eh, es, lf, rf⟩ := d.newTup (vs := [v, w]) (ps := [x, y]) hT (.cons (Rp.mono le.ex _ _ rx) (.cons (Rp.mono le.ex _ _ ry) .nil)) (by show 2 ≤ sizeLine; decide)
    refine ⟨f, eh, es, lf, .p (.tup [x, y]), ?_, rf⟩
    unfold pairs
    rw [List.getElem?_zipWith, ex, ey]
  · rw [hl] at hi
    exact ⟨vs, ws, le.tq s1, le.tq s2, by omega⟩
def aiZip (t : AA) : AI := fun L S Post => t L S fun as S1 => match as with
  | [.p (.tup xs), .p (.tup ys)] => Post (pairs xs ys) (fun _ => True) S1
  | [.p (.lst xs), .p (.lst ys)] => Post (pairs xs ys) (fun _ => True) S1
  | _ => False
theorem ji_zip {X : Cx} {e e2 : Expr} {ta : AA} {p pos tpos : Pos} {elts : List Expr} {kk : Nat} (hg : Gl X "zip") (hm : X.mg "zip" = none) (ha : JA X [e, e2] ta)
    (hs : starEach [e, e2] X.env = (false, eval e X.env) :: starEach [e2] X.env := by rfl) (hpl : (backTo pos (starEach [e2] X.env)).any (·.1) = false := by rfl) :
    JI X (.Tuple elts kk tpos) (.Call (.Name "zip" p) [e, e2] [] pos) (aiZip ta) := by
  obtain ⟨t1, p1, l1⟩ := ha
  refine ⟨_, RZ.pi_zipA hg hm p1 hs hpl, ⟨fun c L σ Post R hs h q => l1.run c L σ _ _ hs h fun d vs as le re h => ?_⟩⟩
  split at h
  · rename_i xs ys
    cases re with
    | cons r rr =>
      cases rr with
      | cons r' rr =>
        cases rr
        cases (show Rp X.K d.Hk _ (.tup xs) from r) with
        | tup s1 z1 l1 =>
          cases (show Rp X.K d.Hk _ (.tup ys) from r') with
          | tup s2 z2 l2 => exact ⟨_, _, _, _, rfl, .inr ⟨d.ok.ex.tq s1, d.ok.ex.tq s2, q d _ _ _ le (Wk.zipT s1 s2 l1 l2 z1) h⟩⟩
  · rename_i xs ys
    cases re with
    | cons r rr =>
      cases rr with
      | cons r' rr =>
        cases rr
        cases (show Rp X.K d.Hk _ (.lst xs) from r) with
        | lst s1 z1 l1 =>
          cases (show Rp X.K d.Hk _ (.lst ys) from r') with
          | lst s2 z2 l2 => exact ⟨_, _, _, _, rfl, .inl ⟨SqL.of (d.ok.ex _ _ s1), SqL.of (d.ok.ex _ _ s2), q d _ _ _ le (Wk.zipL (SqL.of s1) (SqL.of s2) l1 l2 z1) h⟩⟩
  · exact h.elim
/-! ### sorted -/
def rSortedP (K : PySem.W.Frag) : List V → Hp → VK → Prop := fun vs H Q => ∃ (a : Addr) (xs : List V) (ps : List P) (Hk : Hp), vs = [V.ref a] ∧ SqL K H a xs ∧ (∀ v x, Rp K Hk v x → Rp K H v x) ∧ RpL K Hk xs ps ∧ (∀ x ∈ ps, Dat 50 x) ∧ PySem.W.AllAlike (ps.map P.py) ∧ PySem.W.Sortable (ps.map P.py) ∧
  ∀ (ys : List V) (p : Addr), RpL K Hk ys (ps.mergeSort (PySem.W.dataLe false P.py)) → H p = none → Q (.ref p) (upd H p (.lst ys))
theorem cr_sortedP {X : Cx} (hu : X.A.units + 65 < cLine) : CallR X (.builtin "sorted") (rSortedP X.K) := by
  intro pins s σ H vs us Q I r h
  obtain ⟨a, xs, ps, Hk, rfl, hs, hH, hp, hd, hal, hk, q⟩ := h
  obtain ⟨its, rv, hl, hz⟩ := I.list hs
  rw [Vals.ref1 r]
  -- the items with what they stand for
  let β := V × P
  have mk : ∀ (vs : List V) (us : List Value) (ps : List P), Vals vs us → RpL X.K Hk vs ps → (∀ x ∈ ps, Dat 50 x) → ∃ bs : List (V × P), bs.map (·.2) = ps ∧ PySem.W.EachIs (fun (u : Value) (b : V × P) => RelV b.1 u ∧ Rp X.K Hk b.1 b.2) us bs ∧ PySem.W.EachIs (fun (u : Value) (b : V × P) => ∃ as, Reads s.heap u b.2.py as) us bs := by
    intro vs
    induction vs with
    | nil =>
      intro us ps r h hd
      cases r
      cases h
      exact ⟨[], rfl, .nil, .nil⟩
    | cons v vs ih =>
      intro us ps r h hd
      cases r with
      | cons r1 r2 =>
        cases h with
        | cons h1 h2 =>
          obtain ⟨bs, e1, e2, e3⟩ := ih _ _ r2 h2 fun x hx => hd x (List.mem_cons_of_mem _ hx)
          refine ⟨(v, _) :: bs, by rw [List.map_cons, e1], .cons ⟨r1, h1⟩ e2, .cons (Dp.reads I _ _ _ (Rp.dp 50 _ _ (hd _ (by simp)) (hH _ _ h1)) r1) e3⟩
  obtain ⟨bs, e1, e2, e3⟩ := mk xs its ps rv hp hd
  have em : bs.map (fun b => b.2.py) = ps.map P.py := by rw [← e1, List.map_map]; rfl
  have hlen := e2.length
  refine PySem.W.sorted_data (enc := fun b : V × P => b.2.py) (hl.isList) e2 e3 (by rw [em]; exact hal) (by rw [em]; exact hk) (by rw [← hlen, ← rv.length]; exact hz) (fun b hb => ?_) fun out ho eo => ?_
  · have hb' : b.2 ∈ ps := by rw [← e1]; exact List.mem_map_of_mem hb
    have := (hd _ hb').lay.2
    omega
  · have un : ∀ (us : List Value) (bs : List (V × P)), PySem.W.EachIs (fun (u : Value) (b : V × P) => RelV b.1 u ∧ Rp X.K Hk b.1 b.2) us bs → Vals (bs.map (·.1)) us ∧ RpL X.K Hk (bs.map (·.1)) (bs.map (·.2)) := by
      intro us bs h
      induction h with
      | nil => exact ⟨.nil, .nil⟩
      | cons h1 h2 ih => exact ⟨.cons h1.1 ih.1, .cons h1.2 ih.2⟩
    obtain ⟨u1, u2⟩ := un _ _ eo
    have es : (bs.mergeSort (PySem.W.dataLe false fun b => b.2.py)).map (·.2) = ps.mergeSort (PySem.W.dataLe false P.py) := by
      rw [← e1]
      exact List.map_mergeSort fun a _ b _ => rfl
    rw [es] at u2
    obtain ⟨ep, he'⟩ := PyProof.Rows.sortedAll_at s.heap its (List.toArray out)
    refine ⟨.ref _, upd H (s.heap.objs.size + 1) (.lst _), I.laid (t' := s.toks) (fun _ _ => PyProof.Rows.sortedAll_old) (Nat.le_succ _) ⟨?_, out, ep, u1, he'⟩, rfl, q _ _ u2 (I.hok.fresh (Nat.le_succ _))⟩
    rw [u1.length, ho, ← hlen, ← rv.length]
    exact hz
def aSorted : A1 := fun a S Post => ∃ ps, (lsAt S a ps ∨ a = .p (.fz ps)) ∧ (∀ x ∈ ps, Dat 50 x) ∧ PySem.W.AllAlike (ps.map P.py) ∧ PySem.W.Sortable (ps.map P.py) ∧ Post (.p (.lst (ps.mergeSort (PySem.W.dataLe false P.py)))) S
theorem je_sorted {X : Cx} {e : Expr} {te : AE} {p pos : Pos} (hu : X.A.units + 65 < cLine) (hg : Gl X "sorted") (hm : X.mg "sorted" = none) (he : JE X e te) (h1 : starEach [e] X.env = (false, eval e X.env) :: starEach [] X.env := by rfl) (hpl : (backTo pos (starEach [] X.env)).any (·.1) = false := by rfl) : JE X (.Call (.Name "sorted" p) [e] [] pos) (aCall (a1 aSorted) (aCons te aNil)) :=
  je_callB (cr_sortedP hu) (lift_1 ⟨fun c x a Post Q ra h q => by
    obtain ⟨ps, la, h1, h2, h3, h4⟩ := h
    have hs : ∃ b vs, x = .ref b ∧ SqL X.K c.H b vs ∧ RpL X.K c.Hk vs ps ∧ ps.length ≤ sizeLine := by
      rcases la with la | rfl
      · obtain ⟨b, vs, e1, e2, l, z⟩ := c.ls ra la
        exact ⟨b, vs, e1, SqL.of e2, l, z⟩
      · obtain ⟨b, vs, e1, s, l, z⟩ := c.se (ps := ps) ra rfl
        rcases s with s | s
        · exact ⟨b, vs, e1, s, l, z⟩
        · cases s.2
    obtain ⟨b, vs, rfl, s, l, z⟩ := hs
    refine ⟨b, vs, ps, c.Hk, rfl, s, fun v x r => Rp.mono c.ok.ex _ _ r, l, h1, h2, h3, fun ys p2 ly hp => ?_⟩
    obtain ⟨f, eh, es, lf, rf⟩ := c.newLst hp ly (by rw [List.length_mergeSort]; exact z)
    rw [← eh]
    exact q f _ _ lf rf (by rw [es]; exact h4)⟩) hg hm (by decide +kernel) (ja_cons he ja_nil h1) (he := h1) (hpl := hpl)
end Am
/-! Am: the end of a proof (a law's own promise, with no repr under way). -/
namespace Am
open PySem PySem.Spec L2
theorem callerA_g : callerA.guards = some [] := rfl
section
variable {P : Program} {w : World} {K : PySem.W.Frag}
/-- the abstract heap at the law's entry: nothing, or the script alone -/
structure Entry (P : Program) (w : World) (K : PySem.W.Frag) (s : Shared) (a : Addr) (ns : List Int) (H : Hp) : Prop where
  only : Only H
  sq : SqL K H a (ns.map V.int)
  ok : HOk P w H s.heap
  at_ : ∀ b, H b ≠ none → b = a
  new : H a ≠ none → K.lookup a = none
theorem entry_ex {s : Shared} {a : Addr} {vs : List Value} {ns : List Int} (KX : K.In s.heap) (ha : s.heap.get? a = some { cls := .type "list", data := .seq vs.toArray }) (hi : PyProof.Rows.IntsAre vs ns) (hl : ns.length ≤ sizeLine) : ∃ H, Entry P w K s a ns H := by
  have rv := vals_ints hi
  have lenV := hi.length
  by_cases hk : ∃ o, K.lookup a = some o
  · obtain ⟨o, hk⟩ := hk
    have e := (KX a o hk).symm.trans ha
    cases e
    exact ⟨fun _ => none, ⟨fun _ => .inl rfl, .inr ⟨_, vs.toArray, _, hk, rfl, rfl, rfl, by rw [List.size_toArray, lenV]; exact hl, by simpa using rv⟩, fun b u z => (by cases (show (none : Option HO) = some u from z)), fun b z => absurd rfl z, fun z => absurd rfl z⟩⟩
  · have hk : K.lookup a = none := by
      cases q : K.lookup a with
      | none => rfl
      | some o => exact absurd ⟨o, q⟩ hk
    let H : Hp := upd (fun _ => none) a (.frz { cls := .type "list", data := .seq vs.toArray } (.lst (ns.map V.int)))
    have eA : H a = some (.frz { cls := .type "list", data := .seq vs.toArray } (.lst (ns.map V.int))) := upd_same
    have eB : ∀ b, b ≠ a → H b = none := fun b hb => upd_ne hb
    refine ⟨H, ⟨fun b => ?_, .inl (.inr ⟨_, eA⟩), fun b u z => ?_, fun b z => ?_, fun _ => hk⟩⟩
    · by_cases hb : b = a
      · rw [hb]; exact .inr ⟨_, _, eA⟩
      · exact .inl (eB b hb)
    · by_cases hb : b = a
      · subst hb
        rw [eA] at z
        cases z
        exact ⟨ha, by rw [List.length_map]; exact hl, vs, _, rv, ha⟩
      · rw [eB b hb] at z
        cases z
    · by_cases hb : b = a
      · exact hb
      · exact absurd (eB b hb) z
theorem law_g {mg mb : Str → Option Value} {k : Nat} {fa a : Addr} {fd : FuncData} {x : Str} {G : FT} {s : Shared} {vs : List Value} {ns : List Int} (KX : K.In s.heap) (hns : s.heap.Ns mainGlobals mg) (hb : s.heap.Ns builtinsNs mb) (hbb : ∀ x : Str, x ≠ "__name__" → mb x = bootBuiltins x)
    (hlim : s.heap.NoLimit) (hg : s.gens = #[]) (ha : s.heap.get? a = some { cls := .type "list", data := .seq vs.toArray }) (hi : PyProof.Rows.IntsAre vs ns) (hl : ns.length ≤ sizeLine) (hr : Room k callerA)
    (F : ∀ base : Heap, K.In base → base.Ns mainGlobals mg → FnG P w K mg base CX0 k fa fd [x] (spOf K G)) (hbind : ∀ (s : Shared) (u : Value), BindsTo s fd ⟨[u], []⟩ [(x, u)]) (hG : G [.p (.fz (ns.map .int))] [] fun a _ => a = .p (.bl true)) :
    codeAny (model P w) callerA (.call (.ref fa) ⟨[.ref a], []⟩) (fun r t => r = .ok (.ret (.bool true)) ∧ OldK s.heap t.heap ∧ t.os = s.os ∧ PyProof.Rows.AllBare t.gens) s := by
  obtain ⟨H, E⟩ := entry_ex (P := P) (w := w) KX ha hi hl
  have tr : ∀ {b : Addr} {o : Obj}, s.heap.get? b = some o → H b = none → (hidT s.heap H).get? b = some o := fun e n => hidT_get e n
  have un : ∀ {b : Addr} {o : Obj} {es : Array DictEntry} {ep : Nat}, s.heap.get? b = some o → o.data = .dict es ep → H b = none := by
    intro b o es ep e d
    by_cases q : H b = none
    · exact q
    · have := E.at_ b q
      subst this
      rw [ha] at e
      cases e
      cases (show Data.seq vs.toArray _ = Data.dict es ep from d)
  have ns' : ∀ {b : Addr} {m : Str → Option Value}, s.heap.Ns b m → (hidT s.heap H).Ns b m := by
    rintro b m ⟨o, es, ep, e, d, r⟩
    exact ⟨o, es, ep, tr e (un e d), d, r⟩
  have kin : K.In (hidT s.heap H) := by
    intro b o e
    refine tr (KX b o e) ?_
    by_cases q : H b = none
    · exact q
    · have := E.at_ b q
      subst this
      rw [E.new q] at e
      cases e
  obtain ⟨mc, c1, c2⟩ := hlim
  have e0 : Env0 P w K mg (hidT s.heap H) callerA [] s H :=
    ⟨rfl, ⟨kin, ns' hns, ⟨mb, ns' hb, hbb⟩, ⟨mc, ns' c1, c2⟩⟩, fun b o e => of_hidT e, Nat.le_of_eq (hidT_size _ _), trivial, fun b hb => absurd (show b ∈ ([] : List Addr) from hb) (by simp), E.ok, .of_eq hg⟩
  have okc : Ok K [] H H [] := ⟨fun _ _ e => e, rfl, .nil, fun i b o e1 _ => (by cases e1), fun b hb => (by cases hb), fun i b o e1 _ => (by cases e1)⟩
  let c : Cf K := ⟨[], H, H, [], okc⟩
  have rp : Rp K H (.ref a) (.fz (ns.map .int)) := .fz E.sq (by rw [List.length_map]; exact hl) RpL.of_ints
  have want : spOf K G [.ref a] H (fun v _ => v = .bl true) fun _ _ _ => False := ⟨c, [.p (.fz (ns.map .int))], fun a _ => a = .p (.bl true), rfl, .cons rp .nil, hG, fun d v y le r e => by
    subst e
    cases (show Rp K d.Hk v (.bl true) from r)
    rfl⟩
  refine codeAny_mono ((F _ kin (ns' hns)).go callerA [] s H ⟨[.ref a], []⟩ [.ref a] [.ref a] _ _ callerA_g hr e0 (hbind s (.ref a)) (.cons rfl .nil) want) fun r t h => ?_
  match r, h with
  | .error e, h => exact False.elim h
  | .ok .next, h => exact False.elim h
  | .ok .brk, h => exact False.elim h
  | .ok .cont, h => exact False.elim h
  | .ok (.ret u), ⟨v, H', os, bare, un', ok', r', q⟩ =>
    obtain rfl : v = .bl true := q
    obtain rfl : u = Value.bool true := r'
    refine ⟨rfl, OldK.of_keep fun b o e => ?_, os, bare⟩
    by_cases z : H b = none
    · exact un'.keep b o e z (fun z => absurd (show b ∈ ([] : List Addr) from z) (by simp)) (by simp)
    · rcases E.only b with y | ⟨ob, xs, y⟩
      · exact absurd y z
      · have e1 := (E.ok b _ y).1
        have e2 := (ok' b _ (un'.frzs b ob _ y)).1
        rw [e] at e1
        cases e1
        exact e2
end
/-- what the head leaves, from the law's promise -/
theorem walk_g {l : PySem.W.OpenLaw} {n k : Nat} {q : Program} {loose : List Str} {XP : (Str → Option Value) → Heap → Prop} {YP : World → Heap → Prop} {d : DefRec} {K : Params → PySem.W.Frag} {G : FT} {x : Str} (hn : l.most = some n) (hn2 : n ≤ sizeLine) (hdf : d.params.defaults = []) (hr : Room k callerA)
    (hY : ∀ (w : World) (h : Heap), YP w h → (K w.params).In h)
    (F : ∀ (w : World) (mg : Str → Option Value) (fa : Addr) (h : Heap), (K w.params).In h → h.Ns mainGlobals mg → mg d.name = some (.ref fa) → ∃ fd : FuncData, (∀ (s : Shared) (u : Value), BindsTo s fd ⟨[u], []⟩ [(x, u)]) ∧ ∀ base : Heap, (K w.params).In base → base.Ns mainGlobals mg → FnG l.prog w (K w.params) mg base CX0 k fa fd [x] (spOf (K w.params) G))
    (hG : ∀ ns : List Int, ns.length ≤ n → G [.p (.fz (ns.map .int))] [] fun a _ => a = .p (.bl true)) : PySem.W.WalkO q loose XP YP l.row.toRowW d [] (fun f vs => PySem.call f vs) := by
  refine Att.attach_call hn hdf fun w s₀ s₁ mg mb fa o pm cd doc a vs ns V Y ho hd hcd hmg hobj hints hlen hg => ?_
  obtain ⟨fd, hb, hF⟩ := F w mg fa _ (hY w _ Y) V.T.g hmg
  exact law_g (hY w _ Y) V.T.g V.T.b V.T.builtins V.T.nolimit hg hobj hints (Nat.le_trans hlen hn2) hr hF hb (hG ns hlen)
end Am
/-! Am: calls of own functions by one word, runs of loops and comprehensions by an invariant. -/
namespace Am
open PySem PySem.Spec L2
section
variable {P : Program} {w : World} {K : PySem.W.Frag} {mg : Str → Option Value} {base : Heap}
/-- a def that stands in the module -/
structure Pre (K : PySem.W.Frag) (mg : Str → Option Value) (x : Str) (st : Stmt) : Prop where
  ex : ∃ f fd, Fun K x x st f fd ∧ mg x = some (.ref f)
/-- what it does is known -/
structure Cl (P : Program) (w : World) (K : PySem.W.Frag) (mg : Str → Option Value) (base : Heap) (k : Nat) (x : Str) (st : Stmt) (ps : List Str) (F : FT) : Prop where
  ex : ∃ f fd, Fun K x x st f fd ∧ mg x = some (.ref f) ∧ Binds K fd ps [] ∧ FnG P w K mg base CX0 k f fd ps (spOf K F)
theorem Pre.cl {x : Str} {st : Stmt} {k : Nat} {ps : List Str} {F : FT} (p : Pre K mg x st) (hb : ∀ (kV doc pm : Value) (an : Option Addr) (cdv ct : Value) (us : List Value), us.length = ps.length → bindArgs (PySem.W.fnOf x x (defArgs st) (defBody st) (defScope st) .none kV doc pm an cdv ct) ⟨us, []⟩ = pure (ps.zip us))
    (h : ∀ f fd, Fun K x x st f fd → FnG P w K mg base CX0 k f fd ps (spOf K F)) : Cl P w K mg base k x st ps F :=
  let ⟨f, fd, F, m⟩ := p.ex
  ⟨f, fd, F, m, F.binds hb, h f fd F⟩
theorem Cl.imp {x : Str} {st : Stmt} {k : Nat} {ps : List Str} {F F' : FT} (c : Cl P w K mg base k x st ps F) (h : ∀ as S Post, F' as S Post → F as S Post) : Cl P w K mg base k x st ps F' := by
  obtain ⟨f, fd, F1, m, b, G⟩ := c.ex
  have key : ∀ vs H Q E, spOf K F' vs H Q E → spOf K F vs H Q E := fun vs H Q E ⟨c, as, Post, e, r, h', q⟩ => ⟨c, as, Post, e, r, h _ _ _ h', q⟩
  exact ⟨f, fd, F1, m, b, ⟨fun vs H Q E h' => G.len vs H Q E (key _ _ _ _ h'), fun A outer s H args us vs Q E gd hr e0 hb r h' => G.go A outer s H args us vs Q E gd hr e0 hb r (key _ _ _ _ h')⟩⟩
end
section
variable {X : Cx} {k k' : Nat} {st : Stmt} {ps : List Str} {F : FT} {e : Expr} {es : List Expr} {tr : AA} {pos p : Pos} {x : Str}
theorem FnG.mono {P : Program} {w : World} {K : PySem.W.Frag} {mg : Str → Option Value} {base : Heap} {CX : CXT} {j k : Nat} {f : Addr} {fd : FuncData} {ps : List Str} {sp : Sp} (F : FnG P w K mg base CX j f fd ps sp) (h : j ≤ k) : FnG P w K mg base CX k f fd ps sp :=
  ⟨F.len, fun A outer s H args us vs Q E gd hr => F.go A outer s H args us vs Q E gd (hr.mono h)⟩
theorem pass0' {X : Cx} : Passes CX0 X fun _ _ _ => False := fun _ _ _ _ _ _ _ h => h.elim
theorem je_own (c : Cl X.prog X.w X.K X.mg X.base k x st ps F) (hgd : X.A.guards = some []) (hr : Room k' X.A) (ha : JA X (e :: es) tr) (hk : k ≤ k' := by decide) (hg : Gl X x := by rfl)
    (hdb : (x == ("__debug__" : Str)) = false := by decide) (he : starEach (e :: es) X.env = (false, eval e X.env) :: starEach es X.env := by rfl) (hpl : (backTo pos (starEach es X.env)).any (·.1) = false := by rfl) : JE X (.Call (.Name x p) (e :: es) [] pos) (aCall F tr) := by
  obtain ⟨f, fd, F1, m, b, G⟩ := c.ex
  exact je_call (G.mono hk) hgd hr hg m F1.kp b pass0' ha hdb he hpl
theorem je_own0 (c : Cl X.prog X.w X.K X.mg X.base k x st ps F) (hgd : X.A.guards = some []) (hr : Room k' X.A) (hk : k ≤ k' := by decide) (hg : Gl X x := by rfl) (hdb : (x == ("__debug__" : Str)) = false := by decide) : JE X (.Call (.Name x p) [] [] pos) (aCall F aNil) := by
  obtain ⟨f, fd, F1, m, b, G⟩ := c.ex
  exact je_call0 (G.mono hk) hgd hr hg m F1.kp b pass0' hdb
/-- another order -/
structure Ord (n : Nat) where
  g : ∀ {α : Type}, List α → List α
  rel : ∀ {vs : List V} {ws : List Value}, vs.length = n → Vals vs ws → Vals (g vs) (g ws)
  rel2 : ∀ {K : PySem.W.Frag} {η : List Addr} {Hk : Hp} {vs : List V} {as : List D}, vs.length = n → ReL K η Hk vs as → ReL K η Hk (g vs) (g as)
def ordI (n : Nat) : Ord n := ⟨fun xs => xs, fun _ h => h, fun _ h => h⟩
def sw2 {α : Type} : List α → List α
  | [a, b] => [b, a]
  | xs => xs
def ordS : Ord 2 := ⟨sw2, fun {vs ws} hl h => by
    match vs, ws, h with
    | [a, b], [c, d], .cons h1 (.cons h2 .nil) => exact .cons h2 (.cons h1 .nil), fun {K η Hk vs as} hl h => by
    match vs, as, h with
    | [a, b], [c, d], .cons h1 (.cons h2 .nil) => exact .cons h2 (.cons h1 .nil)⟩
theorem je_ownK {kws : List Keyword} (ks : List Str) {n : Nat} (o : Ord n) (hn : kws.length = n) (c : Cl X.prog X.w X.K X.mg X.base k x st ps F) (hgd : X.A.guards = some []) (hr : Room k' X.A)
    (hb : ∀ (kV doc pm : Value) (an : Option Addr) (cdv ct : Value) (ws : List Value), ws.length = n → bindArgs (PySem.W.fnOf x x (defArgs st) (defBody st) (defScope st) .none kV doc pm an cdv ct) ⟨[], ks.zip ws⟩ = pure (ps.zip (o.g ws)))
    (ha : JK X kws tr) (hk : k ≤ k' := by decide) (hg : Gl X x := by rfl) (hall : (backToKw pos (keywordEach kws X.env)).all (·.1.isSome) = true := by rfl) (hks : (backToKw pos (keywordEach kws X.env)).filterMap (·.1) = ks := by rfl) (hdb : (x == ("__debug__" : Str)) = false := by decide)
    (hpl : ((backTo pos (starEach [] X.env)).any (·.1) || (backToKw pos (keywordEach kws X.env)).any (·.1.isNone)) = false := by rfl) :
    JE X (.Call (.Name x p) [] kws pos) (aCall (fun as S Post => as.length = kws.length ∧ F (o.g as) S Post) tr) := by
  subst hn
  obtain ⟨f, fd, F1, m, b, G⟩ := c.ex
  refine je_callK (g := o.g) (G.mono hk) hgd hr hg m F1.kp (fun s ws hl => ?_) (fun hl h => o.rel hl h) (fun c _ _ hl h => o.rel2 hl h) pass0' ha hall hks hdb hpl
  obtain ⟨oc, od, kV, doc, pm, an, cdv, ct, osl, rfl, lk, hcd⟩ := F1.ex
  exact .of_eq (hb kV doc pm an cdv ct ws hl)
end
/-! ### runs -/
theorem for_go {keep : List O → Prop} {g : AG} {b : AS} {E : En} {items : List D} (I : Nat → Ls → List O → Prop) (hk : ∀ i L S, I i L S → keep S)
    (step : ∀ (i : Nat) (x : D) (L : Ls) (S : List O) (N : Ls → List O → Prop), items[i]? = some x → I i L S → (∀ L' S', I (i + 1) L' S' → N L' S') → g x L S fun L1 S1 => b { E with nx := N, ct := N, bk := E.nx } L1 S1)
    (done : ∀ L S, I items.length L S → E.nx L S) : ∀ {L : Ls} {S : List O}, I 0 L S → forRun keep g b E items L S := by
  have key : ∀ (n i : Nat) (L : Ls) (S : List O), items.length - i = n → i ≤ items.length → I i L S → forRun keep g b E (items.drop i) L S := by
    intro n
    induction n with
    | zero =>
      intro i L S hn hi h
      have e : i = items.length := by omega
      subst e
      rw [List.drop_length]
      exact ⟨hk _ _ _ h, done _ _ h⟩
    | succ n ih =>
      intro i L S hn hi h
      have hlt : i < items.length := by omega
      rw [List.drop_eq_getElem_cons hlt]
      exact ⟨hk _ _ _ h, step i _ L S _ (List.getElem?_eq_getElem hlt) h fun L' S' h' => ih (i + 1) L' S' (by omega) hlt h'⟩
  intro L S h
  have := key items.length 0 L S rfl (Nat.zero_le _) h
  simpa using this
/-- a comprehension, its state threaded: what stands in the store behind i turns, and what was made -/
theorem lc_go {keep : List O → Prop} {g : AG} {t : AT} {e : AE} {L : Ls} {Post : List D → List O → Prop} {items : List D} (I : Nat → List D → List O → Prop) (hk : ∀ i acc S, I i acc S → keep S)
    (step : ∀ (i : Nat) (x : D) (acc : List D) (S : List O) (N : List D → List O → Prop), items[i]? = some x → I i acc S → (∀ acc' S', I (i + 1) acc' S' → N acc' S') → g x L S fun L1 S1 => t L1 S1 fun b S2 => if b = true then e L1 S2 fun y S3 => N (acc ++ [y]) S3 else N acc S2)
    (done : ∀ acc S, I items.length acc S → Post acc S) : ∀ {S : List O}, I 0 [] S → lcRun keep g t e L Post items [] S := by
  have key : ∀ (n i : Nat) (acc : List D) (S : List O), items.length - i = n → i ≤ items.length → I i acc S → lcRun keep g t e L Post (items.drop i) acc S := by
    intro n
    induction n with
    | zero =>
      intro i acc S hn hi h
      have e : i = items.length := by omega
      subst e
      rw [List.drop_length]
      exact ⟨hk _ _ _ h, done _ _ h⟩
    | succ n ih =>
      intro i acc S hn hi h
      have hlt : i < items.length := by omega
      rw [List.drop_eq_getElem_cons hlt]
      exact ⟨hk _ _ _ h, step i _ acc S (fun acc S => lcRun keep g t e L Post (items.drop (i + 1)) acc S) (List.getElem?_eq_getElem hlt) h fun acc' S' h' => ih (i + 1) acc' S' (by omega) hlt h'⟩
  intro S h
  have := key items.length 0 [] S rfl (Nat.zero_le _) h
  simpa using this
/-- a comprehension of pure data that leaves the store -/
theorem lc_map {α : Type} {keep : List O → Prop} {g : AG} {t : AT} {e : AE} {L : Ls} {Fin : List D → List O → Prop} {S : List O} (xs : List α) (en : α → D) (p : α → Bool) (f : α → P)
    (h : ∀ x ∈ xs, ∀ (Q : D → List O → Prop) (R : List O → Prop), (if p x = true then Q (.p (f x)) S else R S) → g (en x) L S fun L1 S1 => t L1 S1 fun b S2 => if b = true then e L1 S2 Q else R S2)
    (q : Fin (((xs.filter p).map f).map .p) S) (hk : keep S := by trivial) : lcRun keep g t e L Fin (xs.map en) [] S := by
  refine lc_go (fun i acc S' => S' = S ∧ acc = (((xs.take i).filter p).map f).map .p) (fun i acc S' h => h.1 ▸ hk) (fun i x acc S' N hx hI hN => ?_) (fun acc S' hI => ?_) ⟨rfl, rfl⟩
  · obtain ⟨rfl, rfl⟩ := hI
    rw [List.getElem?_map] at hx
    cases ex : xs[i]? with
    | none => rw [ex] at hx; cases hx
    | some y =>
      rw [ex] at hx
      cases hx
      refine h y (List.mem_of_getElem? ex) _ _ ?_
      have et : xs.take (i + 1) = xs.take i ++ [y] := by rw [List.take_add_one, ex]; rfl
      by_cases hp : p y = true
      · rw [if_pos hp]
        refine hN _ _ ⟨rfl, ?_⟩
        rw [et, List.filter_append, List.map_append, List.map_append, List.filter_cons_of_pos hp]
        rfl
      · rw [if_neg hp]
        refine hN _ _ ⟨rfl, ?_⟩
        rw [et, List.filter_append, List.map_append, List.map_append, List.filter_cons_of_neg hp]
        simp
  · obtain ⟨rfl, rfl⟩ := hI
    rw [List.length_map, List.take_length]
    exact q
/-- the same with no test -/
theorem lc_all {α : Type} {keep : List O → Prop} {g : AG} {e : AE} {L : Ls} {Fin : List D → List O → Prop} {S : List O} (xs : List α) (en : α → D) (f : α → P)
    (h : ∀ x ∈ xs, ∀ (Q : D → List O → Prop), Q (.p (f x)) S → g (en x) L S fun L1 S1 => e L1 S1 Q)
    (q : Fin ((xs.map f).map .p) S) (hk : keep S := by trivial) : lcRun keep g aYes e L Fin (xs.map en) [] S := by
  refine lc_go (fun i acc S' => S' = S ∧ acc = ((xs.take i).map f).map .p) (fun i acc S' h => h.1 ▸ hk) (fun i x acc S' N hx hI hN => ?_) (fun acc S' hI => ?_) ⟨rfl, rfl⟩
  · obtain ⟨rfl, rfl⟩ := hI
    rw [List.getElem?_map] at hx
    cases ex : xs[i]? with
    | none => rw [ex] at hx; cases hx
    | some y =>
      rw [ex] at hx
      cases hx
      have et : xs.take (i + 1) = xs.take i ++ [y] := by rw [List.take_add_one, ex]; rfl
      refine h y (List.mem_of_getElem? ex) (fun y S3 => _) ?_
      refine hN _ _ ⟨rfl, ?_⟩
      rw [et, List.map_append, List.map_append]
      rfl
  · obtain ⟨rfl, rfl⟩ := hI
    rw [List.length_map, List.take_length]
    exact q
theorem lc_allP {α : Type} {keep : List O → Prop} {g : AG} {e : AE} {L : Ls} {Fin : List D → List O → Prop} {S : List O} (xs : List α) (en : α → P) (f : α → P)
    (h : ∀ x ∈ xs, ∀ (Q : D → List O → Prop), Q (.p (f x)) S → g (.p (en x)) L S fun L1 S1 => e L1 S1 Q)
    (q : Fin ((xs.map f).map .p) S) (hk : keep S := by trivial) : lcRun keep g aYes e L Fin ((xs.map en).map .p) [] S := by
  rw [List.map_map]
  exact lc_all xs _ f h q hk
theorem lc_mapP {α : Type} {keep : List O → Prop} {g : AG} {t : AT} {e : AE} {L : Ls} {Fin : List D → List O → Prop} {S : List O} (xs : List α) (en : α → P) (p : α → Bool) (f : α → P)
    (h : ∀ x ∈ xs, ∀ (Q : D → List O → Prop) (R : List O → Prop), (if p x = true then Q (.p (f x)) S else R S) → g (.p (en x)) L S fun L1 S1 => t L1 S1 fun b S2 => if b = true then e L1 S2 Q else R S2)
    (q : Fin (((xs.filter p).map f).map .p) S) (hk : keep S := by trivial) : lcRun keep g t e L Fin ((xs.map en).map .p) [] S := by
  rw [List.map_map]
  exact lc_map xs _ p f h q hk
end Am
/-! Am: items stored. -/
namespace Am
open PySem PySem.Spec L2
/-- xs[k] = a, xs owned -/
def agSub (te ti : AE) : AG := fun a L S Post => te L S fun o S1 => ti L S1 fun i S2 => match o, i with
  | .own n, .p (.int k) => (match S2[n]? with
    | some (.lst ds) => (match ixN ds.length k with | some j => Post L (S2.set n (.lst (ds.set j a))) | none => False)
    | _ => False)
  | _, _ => False
theorem ReL.set {K : PySem.W.Frag} {η : List Addr} {Hk : Hp} : ∀ {vs : List V} {ds : List D} {j : Nat} {v : V} {d : D}, ReL K η Hk vs ds → Re K η Hk v d → ReL K η Hk (vs.set j v) (ds.set j d)
  | _, _, _, _, _, .nil, _ => .nil
  | _, _, 0, _, _, .cons _ l, r => .cons r l
  | _, _, j + 1, _, _, .cons r1 l, r => .cons r1 (ReL.set l r)
theorem jg_sub {X : Cx} {o i : Expr} {pos : Pos} {te ti : AE} (ho : JE X o te) (hi : JE X i ti)
    (ha : ∀ v, assign (.Subscript o i pos) X.env v = (do
      let ov ← holding [v] (eval o X.env)
      let iv ← holding [v, ov] (eval i X.env)
      standAt pos
      holding [v, ov, iv] (setItem ov iv v)
      release [v, ov, iv] []) := by intro _; rfl) : JG X (.Subscript o i pos) (agSub te ti) := by
  obtain ⟨t1, p1, l1⟩ := ho
  obtain ⟨t2, p2, l2⟩ := hi
  refine ⟨_, pg_sub p1 p2 set_list ha, ⟨fun c L σ v a Post Q hs re h q => ?_⟩⟩
  refine l1.run c L σ _ _ hs h fun d x y le r1 h1 => ?_
  refine l2.run d L σ _ _ (le.sl hs) h1 fun d2 x2 y2 le2 r2 h2 => ?_
  split at h2
  · rename_i n k
    split at h2
    · rename_i ds e0
      split at h2
      · rename_i j ej
        obtain ⟨b, vs, rfl, e1, e2, l, z⟩ := d2.list_own (le2.re r1) e0
        cases (show Rp X.K d2.Hk x2 (.int k) from r2)
        obtain ⟨f, eh, es, lf⟩ := d2.setLst (vs' := vs.set j v) (ds' := ds.set j a) e1 e0 (l.set ((le.trans le2).re re)) (by rw [List.length_set]; exact z)
        refine ⟨b, vs, k, j, rfl, rfl, e2, by rw [l.length]; exact ej, ?_⟩
        rw [← eh]
        exact q f σ L (le.trans (le2.trans lf)) (((le.trans (le2.trans lf))).sl hs) (by rw [es]; exact h2)
      · exact h2.elim
    · exact h2.elim
  · exact h2.elim
end Am
/-! Am: tests. -/
namespace Am
open PySem PySem.Spec L2
section
variable {X : Cx} {a b c : Expr} {ta tb tc : AE} {pos pos' : Pos}
theorem jt_isN {j} (ha : JE X a ta) : JT X (.Compare a [.Is] [.Constant .none j pos'] pos) (aTest (aIsN false ta)) := by
  obtain ⟨t1, p1, l1⟩ := ha
  refine ⟨_, pt_cmp (pc_isN p1) rfl, ⟨fun c L σ Post Q hs h q => l1.run c L σ _ _ hs h fun d v x le re h => ?_⟩⟩
  rw [isNone_re re]
  exact ⟨_, rfl, q d _ le (by simpa using h)⟩
theorem jt_notN {j} (ha : JE X a ta) : JT X (.Compare a [.IsNot] [.Constant .none j pos'] pos) (aTest (aIsN true ta)) := by
  obtain ⟨t1, p1, l1⟩ := ha
  refine ⟨_, pt_cmp (pc_notN p1) rfl, ⟨fun c L σ Post Q hs h q => l1.run c L σ _ _ hs h fun d v x le re h => ?_⟩⟩
  rw [isNone_re re]
  exact ⟨_, rfl, q d _ le (by simpa using h)⟩
theorem jt_chain {op op' : CmpOp} {r r' : R2} {s s' : A2} (ho : OpR X (compareOp op) r) (ho' : OpR X (compareOp op') r') (hl : Lift2 X.K r s) (hl' : Lift2 X.K r' s') (ha : JE X a ta) (hb : JE X b tb) (hc : JE X c tc)
    (hm : lastMarks [op, op'] [b, c] = false := by with_unfolding_all rfl) : JT X (.Compare a [op, op'] [b, c] pos) (aTest (aChain s s' ta tb tc)) := by
  obtain ⟨t1, p1, l1⟩ := ha
  obtain ⟨t2, p2, l2⟩ := hb
  obtain ⟨t3, p3, l3⟩ := hc
  refine ⟨_, pt_chain ho ho' p1 p2 p3 hm, lift_test ⟨fun c L σ Post Q hs h q => ?_⟩⟩
  refine l1.run c L σ _ _ hs h fun d v x le re h1 => ?_
  refine l2.run d L σ _ _ (le.sl hs) h1 fun d2 v2 x2 le2 re2 h2 => ?_
  refine hl.run d2 _ _ _ _ _ _ (le2.re re) re2 h2 fun d3 v3 x3 le3 re3 h3 => ?_
  have le' := le.trans (le2.trans le3)
  split at h3
  · cases (show Rp X.K d3.Hk v3 (.bl true) from re3)
    refine ⟨true, rfl, ?_⟩
    rw [if_pos rfl]
    refine l3.run d3 L σ _ _ (le'.sl hs) h3 fun d4 v4 x4 le4 re4 h4 => ?_
    exact hl'.run d4 _ _ _ _ _ _ ((le3.trans le4).re re2) re4 h4 fun d5 v5 x5 le5 re5 h5 => q d5 _ _ (le'.trans (le4.trans le5)) re5 h5
  · cases (show Rp X.K d3.Hk v3 (.bl false) from re3)
    refine ⟨false, rfl, ?_⟩
    rw [if_neg Bool.false_ne_true]
    exact q d3 _ _ le' (reB d3 _) h3
  · exact h3.elim
theorem jt_le_lt (ha : JE X a ta) (hb : JE X b tb) (hc : JE X c tc) : JT X (.Compare a [.LtE, .Lt] [b, c] pos) (aTest (aChain aLe aLt ta tb tc)) := jt_chain op_le op_lt (lift_I0 fun c _ _ => reB c _) (lift_I0 fun c _ _ => reB c _) ha hb hc (nomark c)
theorem jt_le_le (ha : JE X a ta) (hb : JE X b tb) (hc : JE X c tc) : JT X (.Compare a [.LtE, .LtE] [b, c] pos) (aTest (aChain aLe aLe ta tb tc)) := jt_chain op_le op_le (lift_I0 fun c _ _ => reB c _) (lift_I0 fun c _ _ => reB c _) ha hb hc (nomark c)
theorem jt_lt_lt (ha : JE X a ta) (hb : JE X b tb) (hc : JE X c tc) : JT X (.Compare a [.Lt, .Lt] [b, c] pos) (aTest (aChain aLt aLt ta tb tc)) := jt_chain op_lt op_lt (lift_I0 fun c _ _ => reB c _) (lift_I0 fun c _ _ => reB c _) ha hb hc (nomark c)
theorem jt_lt_le (ha : JE X a ta) (hb : JE X b tb) (hc : JE X c tc) : JT X (.Compare a [.Lt, .LtE] [b, c] pos) (aTest (aChain aLt aLe ta tb tc)) := jt_chain op_lt op_le (lift_I0 fun c _ _ => reB c _) (lift_I0 fun c _ _ => reB c _) ha hb hc (nomark c)
/-- xs * n, the new list owned -/
def aRepO : A2 := fun a b S Post => match b with
  | .p (.int k) => ∃ ps, lsAt S a ps ∧ -(2 ^ 62) ≤ k ∧ k < 2 ^ 62 ∧ ps.length * k.toNat ≤ sizeLine ∧ Post (.own S.length) (S ++ [.lst ((List.replicate k.toNat ps).flatten.map .p)])
  | _ => False
theorem je_repO (ha : JE X a ta) (hb : JE X b tb) : JE X (.BinOp a .Mult b pos) (aOp aRepO ta tb) := je_op op_rep ⟨fun c x y a b Post Q ra rb h q => by
  unfold aRepO at h
  split at h
  · rename_i k
    obtain ⟨ps, la, h1, h2, h3, h4⟩ := h
    obtain ⟨p, vs, rfl, e1, l, z⟩ := c.ls ra la
    cases (show Rp X.K c.Hk y (.int k) from rb)
    refine ⟨p, k, vs, rfl, rfl, e1, by omega, by omega, by rw [l.length]; exact h3, fun b hb => ?_⟩
    obtain ⟨f, eh, es, lf, rf⟩ := c.newOwn hb (ReL.pure (l.rep k.toNat)) (by rw [List.length_map, len_rep]; exact h3)
    rw [← eh]
    exact q f _ _ lf rf (by rw [es]; exact h4)
  · exact h.elim⟩ ha hb
/-- the signs of a text -/
def aiStr (te : AE) : AI := fun L S Post => te L S fun a S1 => match a with
  | .p (.str z) => z.length ≤ sizeLine ∧ Post (z.cps.toList.map fun c => .p (.str ⟨#[c]⟩)) (fun _ => True) S1
  | _ => False
theorem ji_str {tg e : Expr} {te : AE} (h : JE X e te) : JI X tg e (aiStr te) := by
  obtain ⟨t1, p1, l1⟩ := h
  refine ⟨_, pi_str p1, ⟨fun c L σ Post R hs h q => l1.run c L σ _ _ hs h fun d v a le re h => ?_⟩⟩
  split at h
  · rename_i z
    cases (show Rp X.K d.Hk v (.str z) from re)
    refine ⟨z, rfl, q d _ _ _ le ⟨by rw [List.length_map]; exact h.1, fun f i _ _ hi => (by simpa using hi : i < z.cps.size), fun f i x H' _ _ hi y => ?_, fun f i _ _ hi => (by simpa using hi : z.cps.size ≤ i)⟩ h.2⟩
    obtain ⟨rfl, c, hc, rfl⟩ := y
    refine ⟨f, rfl, rfl, .refl f, .p (.str ⟨#[c]⟩), ?_, .str _⟩
    rw [List.getElem?_map, Array.getElem?_toList, hc]
    rfl
  · exact h.elim
end
end Am
/-! Am: data that may be shown and compared; sizes. -/
namespace Am
open PySem PySem.Spec L2
/-- plain data at most n deep, of a weight of at most w, its ints short -/
structure Fine (n w : Nat) (x : P) : Prop where
  dat : Dat n x
  wt : x.py.weight ≤ w
  short : x.py.intsShort 13 = true
  shw : x.py.showable = true
theorem log2_lt_of {n k : Nat} (h : n < 2 ^ k) (hk : 0 < k) : n.log2 < k := by
  by_cases h0 : n = 0
  · subst h0; simpa using hk
  · exact (Nat.log2_lt h0).mpr h
theorem Fine.le {n w n' w' : Nat} {x : P} (h : Fine n w x) (hn : n ≤ n') (hw : w ≤ w') : Fine n' w' x := ⟨h.dat.le hn, Nat.le_trans h.wt hw, h.short, h.shw⟩
theorem fine_non {n w : Nat} : Fine n w .non := ⟨by cases n <;> trivial, Nat.zero_le _, by simp [P.py, PyData.intsShort], by simp [P.py, PyData.showable]⟩
theorem fine_bl {n w : Nat} {b : Bool} : Fine n w (.bl b) := ⟨by cases n <;> trivial, Nat.zero_le _, by simp [P.py, PyData.intsShort], by simp [P.py, PyData.showable]⟩
theorem fine_int {n w : Nat} {i : Int} (h : i.natAbs < 10 ^ 12) (hw : 40 ≤ w) : Fine n w (.int i) := by
  have h40 : i.natAbs < 2 ^ 40 := by omega
  have hl : i.natAbs.log2 < 40 := log2_lt_of h40 (by decide)
  refine ⟨by cases n <;> trivial, ?_, ?_, ?_⟩
  · simp only [P.py, PyData.weight]
    split <;> omega
  · simp only [P.py, PyData.intsShort, decide_eq_true_eq]
    exact PyData.shown_int_le h
  · simp only [P.py, PyData.showable, decide_eq_true_eq]
    omega
theorem fine_str {n w : Nat} {z : Str} (h : PyData.canLay0 (.str z) = true) (hw : z.length ≤ w) : Fine n w (.str z) := by
  refine ⟨by cases n <;> exact h, ?_, by simp [P.py, PyData.intsShort], by simp [P.py, PyData.showable]⟩
  simp only [P.py, PyData.weight]
  exact hw
theorem fine_all {n w : Nat} : ∀ {xs : List P}, (∀ x ∈ xs, Fine n w x) → PyData.weightAll (P.pys xs) ≤ xs.length * (w + 1) ∧ PyData.intsShortAll 13 (P.pys xs) = true ∧ PyData.showableAll (P.pys xs) = true
  | [], _ => ⟨by simp [P.pys, PyData.weightAll], by simp [P.pys, PyData.intsShortAll], by simp [P.pys, PyData.showableAll]⟩
  | x :: xs, h => by
    have hx := h x (by simp)
    obtain ⟨h1, h2, h3⟩ := fine_all fun y hy => h y (List.mem_cons_of_mem _ hy)
    refine ⟨?_, ?_, ?_⟩
    · simp only [P.pys, PyData.weightAll, List.length_cons]
      have := hx.wt
      rw [Nat.add_mul]
      omega
    · simp only [P.pys, PyData.intsShortAll, hx.short, h2]; rfl
    · simp only [P.pys, PyData.showableAll, hx.shw, h3]; rfl
theorem fine_tup {n w w' k : Nat} {xs : List P} (h : ∀ x ∈ xs, Fine n w x) (hl : xs.length ≤ k) (hw : k * (w + 1) ≤ w' := by decide) : Fine (n + 1) w' (.tup xs) := by
  obtain ⟨h1, h2, h3⟩ := fine_all h
  have := Nat.mul_le_mul_right (w + 1) hl
  refine ⟨fun x hx => (h x hx).dat, ?_, ?_, ?_⟩
  · simp only [P.py, PyData.weight]; omega
  · simp only [P.py, PyData.intsShort]; exact h2
  · simp only [P.py, PyData.showable]; exact h3
theorem fine_lst {n w w' k : Nat} {xs : List P} (h : ∀ x ∈ xs, Fine n w x) (hl : xs.length ≤ k) (hw : k * (w + 1) ≤ w' := by decide) : Fine (n + 1) w' (.lst xs) := by
  obtain ⟨h1, h2, h3⟩ := fine_all h
  have := Nat.mul_le_mul_right (w + 1) hl
  refine ⟨fun x hx => (h x hx).dat, ?_, ?_, ?_⟩
  · simp only [P.py, PyData.weight]; omega
  · simp only [P.py, PyData.intsShort]; exact h2
  · simp only [P.py, PyData.showable]; exact h3
theorem Fine.shown {n w : Nat} {x : P} (h : Fine n w x) (hn : n ≤ 60) (hw : w ≤ 2 ^ 20) : x.py.shown.length ≤ sizeLine := by
  refine PyData.shown_fits_of_layable0 (B := 13) (by decide) (by decide) ?_ h.short
  obtain ⟨h1, h2⟩ := h.dat.lay
  have := h.wt
  unfold PyData.layable0
  rw [h1, decide_eq_true (by omega), decide_eq_true (by omega)]
  rfl
/-- the reading of repr, of fine data -/
theorem Fine.repr {n w : Nat} {x : P} (h : Fine n w x) (hn : n ≤ 60) (hw : w ≤ 2 ^ 20) (hs : isSeqP x = true) {Post : D → List O → Prop} {S : List O} (q : Post (.p (.str x.py.shown)) S) : aRepr (.p x) S Post :=
  ⟨x, rfl, hs, h.dat.le hn, h.shw, h.shown hn hw, q⟩
theorem fine_two {n w w' : Nat} {x y : P} (hx : Fine n w x) (hy : Fine n w y) (hw : 2 * (w + 1) ≤ w' := by decide) : Fine (n + 1) w' (.lst [x, y]) :=
  fine_lst (k := 2) (fun z hz => by rcases List.mem_cons.mp hz with rfl | hz; exact hx; rcases List.mem_cons.mp hz with rfl | hz; exact hy; cases hz) (Nat.le_refl _) hw
theorem fine_twoT {n w w' : Nat} {x y : P} (hx : Fine n w x) (hy : Fine n w y) (hw : 2 * (w + 1) ≤ w' := by decide) : Fine (n + 1) w' (.tup [x, y]) :=
  fine_tup (k := 2) (fun z hz => by rcases List.mem_cons.mp hz with rfl | hz; exact hx; rcases List.mem_cons.mp hz with rfl | hz; exact hy; cases hz) (Nat.le_refl _) hw
theorem eqb_refl {n : Nat} {x : P} (h : Dat n x) : P.eqb x x = true := SeqAt.eqv_refl _ h.lay.1
theorem eqb_tup_nil (xs : List P) : P.eqb (.tup xs) (.tup []) = xs.isEmpty := by
  cases xs with
  | nil => simp [P.eqb, P.py, P.pys, PyData.eqv, PyData.eqvAll]
  | cons x xs => simp [P.eqb, P.py, P.pys, PyData.eqv, PyData.eqvAll]
theorem eqb_lst_nil (xs : List P) : P.eqb (.lst xs) (.lst []) = xs.isEmpty := by
  cases xs with
  | nil => simp [P.eqb, P.py, P.pys, PyData.eqv, PyData.eqvAll]
  | cons x xs => simp [P.eqb, P.py, P.pys, PyData.eqv, PyData.eqvAll]
theorem cmul_ok {i j : Int} (hi : i.natAbs < 2 ^ 2000) (hj : j.natAbs < 2 ^ 2000) : CMulW i j := by
  have h1 := log2_lt_of hi (by decide)
  have h2 := log2_lt_of hj (by decide)
  unfold CMulW
  omega
theorem p64 : (2 : Nat) ^ 64 ≤ 2 ^ 2000 := Nat.pow_le_pow_right (by decide) (by decide)
theorem cmul64 {i j : Int} (hi : i.natAbs < 2 ^ 64) (hj : j.natAbs < 2 ^ 64) : CMulW i j := cmul_ok (Nat.lt_of_lt_of_le hi p64) (Nat.lt_of_lt_of_le hj p64)
theorem cdiv64 {i j : Int} (h0 : 0 < j) (hj : j.natAbs < 2 ^ 64) : CDivW i j := ⟨h0, by have := log2_lt_of hj (by decide); omega⟩
theorem gi0 {α : Type} (x : α) (xs : List α) : gi (x :: xs) 0 = some x := rfl
theorem gi1 {α : Type} (x y : α) (xs : List α) : gi (x :: y :: xs) 1 = some y := rfl
theorem gi2 {α : Type} (x y z : α) (xs : List α) : gi (x :: y :: z :: xs) 2 = some z := rfl
theorem giN {α : Type} (xs : List α) (n : Nat) : gi xs (n : Int) = xs[n]? := rfl
theorem ix30 : ixN (0 + 1 + 1 + 1) 0 = some 0 := rfl
theorem ix31 : ixN (0 + 1 + 1 + 1) 1 = some 1 := rfl
theorem ix32 : ixN (0 + 1 + 1 + 1) 2 = some 2 := rfl
theorem sw_none {ts vs : List Expr} {kt k2 : Nat} {pt pt2 : Pos} {env : Env} (h : vs.all (foldedForSure 8) = true) : swappedStores [.Tuple ts kt pt] (.Tuple vs k2 pt2) env = pure none := by
  unfold swappedStores
  simp only [h, if_true]
  split
  · rfl
  · split
    · rfl
    · split
      · rfl
      · rfl
theorem getE (S : List O) (o : O) : (S ++ [o])[S.length]? = some o := by simp
theorem setE (S : List O) (o o' : O) : (S ++ [o]).set S.length o' = S ++ [o'] := by simp
/-- a statement, and what follows it -/
theorem sq {t u : AS} {E : En} {L : Ls} {S : List O} (h : t { E with nx := u E } L S) : sSeq t u E L S := (sSeq_run t u E L S).symm ▸ h
/-- between two statements -/
theorem seq_then {t u : AS} {E : En} {L : Ls} {S : List O} (M : Ls → List O → Prop) (h : ∀ L' S', M L' S' → u E L' S') (h1 : ∀ N : Ls → List O → Prop, (∀ L' S', M L' S' → N L' S') → t { E with nx := N } L S) : sSeq t u E L S := (sSeq_run t u E L S).symm ▸ h1 _ h
/-- after a def that changed an owned object of its caller -/
theorem Cut.set {S : List O} {Post : D → List O → Prop} {x : P} {n : Nat} {o : O} (hB : Bel S.length S) (ho : o.bel S.length) {junk : List O} (h : Post (.p x) (S.set n o)) : Cut S.length Post (.p x) (S.set n o ++ junk) := by
  have e : (S.set n o ++ junk).take S.length = S.set n o := List.take_left' (by simp)
  refine .inr ⟨S.length, Nat.le_refl _, ?_, trivial, ?_⟩
  · rw [e]
    intro y hy
    rcases List.mem_or_eq_of_mem_set hy with h' | rfl
    · exact hB y h'
    · exact ho
  · rw [e]; exact h
end Am
/-! Am: dicts. -/
namespace Am
open PySem PySem.Spec L2
/-! ### keys, entries -/
def keyP : P → Option Key
  | .int i => some (.inl i)
  | .str x => some (.inr x)
  | _ => none
def keysOf : List P → Option (List Key)
  | [] => some []
  | x :: xs => match keyP x, keysOf xs with | some k, some ks => some (k :: ks) | _, _ => none
def dkK : D → Option Key
  | .p x => keyP x
  | _ => none
def dkT : D → Option (List Key)
  | .p (.tup xs) => keysOf xs
  | _ => none
/-- the key as a datum -/
def unK : Key → P
  | .inl i => .int i
  | .inr x => .str x
theorem keyP_un (k : Key) : keyP (unK k) = some k := by cases k <;> rfl
theorem keysOf_un : ∀ ks : List Key, keysOf (ks.map unK) = some ks
  | [] => rfl
  | k :: ks => by rw [List.map_cons, keysOf, keyP_un, keysOf_un ks]
section
variable {κ : Type} [DecidableEq κ] {α : Type}
def gt (kvs : List (κ × α)) (k : κ) : Option α := (kvs.find? fun kv => decide (kv.1 = k)).map (·.2)
def pt (kvs : List (κ × α)) (k : κ) (v : α) : List (κ × α) := if (kvs.any fun kv => decide (kv.1 = k)) = true then kvs.map (fun kv => if kv.1 = k then (kv.1, v) else kv) else kvs ++ [(k, v)]
def dl (kvs : List (κ × α)) (k : κ) : List (κ × α) := kvs.filter fun kv => decide (kv.1 ≠ k)
theorem gt_cons (p : κ × α) (r : List (κ × α)) (k : κ) : gt (p :: r) k = if p.1 = k then some p.2 else gt r k := by
  unfold gt
  by_cases h : p.1 = k <;> simp [List.find?_cons, h]
end
section
variable {K : PySem.W.Frag} {η : List Addr} {Hk H : Hp}
theorem keyP_re {v : V} {x : P} {k : Key} (h : Rp K Hk v x) (e : keyP x = some k) : v = kV k := by
  cases h <;> cases e <;> rfl
theorem keysOf_re : ∀ {xs : List P} {vs : List V} {ks : List Key}, RpL K Hk vs xs → keysOf xs = some ks → vs = ks.map kV
  | [], _, _, h, e => by cases h; cases e; rfl
  | x :: xs, _, ks, h, e => by
    cases h with
    | cons r l =>
      unfold keysOf at e
      split at e
      · rename_i k ks' e1 e2
        cases e
        rw [List.map_cons, keyP_re r e1, keysOf_re l e2]
      · cases e
variable {κ : Type} [DecidableEq κ]
theorem ReE.length : ∀ {vs : List (κ × V)} {ds : List (κ × D)}, ReE K η Hk vs ds → vs.length = ds.length
  | _, _, .nil => rfl
  | _, _, .cons _ l => by simp [ReE.length l]
theorem ReE.gt {k : κ} : ∀ {vs : List (κ × V)} {ds : List (κ × D)}, ReE K η Hk vs ds → (∃ v d, valV vs k = some v ∧ Am.gt ds k = some d ∧ Re K η Hk v d) ∨ (valV vs k = none ∧ Am.gt ds k = none)
  | _, _, .nil => .inr ⟨rfl, rfl⟩
  | _, _, .cons (k := k0) (v := v) (x := x) r l => by
    by_cases h : k0 = k
    · refine .inl ⟨v, x, valV_pos h, ?_, r⟩
      rw [gt_cons, if_pos h]
    · rw [valV_neg h, gt_cons, if_neg h]
      exact ReE.gt l
theorem ReE.any {k : κ} : ∀ {vs : List (κ × V)} {ds : List (κ × D)}, ReE K η Hk vs ds → (vs.any fun kv => decide (kv.1 = k)) = ds.any fun kv => decide (kv.1 = k)
  | _, _, .nil => rfl
  | _, _, .cons r l => by rw [List.any_cons, List.any_cons, ReE.any l]
theorem ReE.repl {k : κ} {v : V} {d : D} (r0 : Re K η Hk v d) : ∀ {vs : List (κ × V)} {ds : List (κ × D)}, ReE K η Hk vs ds → ReE K η Hk (vs.map fun kv => if kv.1 = k then (kv.1, v) else kv) (ds.map fun kv => if kv.1 = k then (kv.1, d) else kv)
  | _, _, .nil => .nil
  | _, _, .cons (k := k0) r l => by
    rw [List.map_cons, List.map_cons]
    by_cases h : k0 = k
    · simp only [if_pos h]; exact .cons r0 (ReE.repl r0 l)
    · simp only [if_neg h]; exact .cons r (ReE.repl r0 l)
theorem ReE.append : ∀ {vs ws : List (κ × V)} {ds es : List (κ × D)}, ReE K η Hk vs ds → ReE K η Hk ws es → ReE K η Hk (vs ++ ws) (ds ++ es)
  | _, _, _, _, .nil, g => g
  | _, _, _, _, .cons r l, g => .cons r (ReE.append l g)
theorem ReE.pt {k : κ} {v : V} {d : D} {vs : List (κ × V)} {ds : List (κ × D)} (l : ReE K η Hk vs ds) (r : Re K η Hk v d) : ReE K η Hk (putK vs k v) (Am.pt ds k d) := by
  unfold putK Am.pt
  rw [ReE.any l]
  by_cases h : (ds.any fun kv => decide (kv.1 = k)) = true
  · rw [if_pos h, if_pos h]; exact ReE.repl r l
  · rw [if_neg h, if_neg h]; exact l.append (.cons r .nil)
theorem ReE.dl {k : κ} : ∀ {vs : List (κ × V)} {ds : List (κ × D)}, ReE K η Hk vs ds → ReE K η Hk (dropK vs k) (Am.dl ds k)
  | _, _, .nil => .nil
  | _, _, .cons (k := k0) (v := v) (x := x) (vs := vs) (xs := xs) r l => by
    have ih := ReE.dl (k := k) l
    unfold dropK Am.dl at ih ⊢
    by_cases h : k0 = k
    · rw [List.filter_cons_of_neg (by simp [h]), List.filter_cons_of_neg (by simp [h])]; exact ih
    · rw [List.filter_cons_of_pos (by simp [h]), List.filter_cons_of_pos (by simp [h])]; exact .cons r ih
theorem pt_length (ds : List (κ × D)) (k : κ) (d : D) : (Am.pt ds k d).length ≤ ds.length + 1 := by
  unfold Am.pt
  split
  · rw [List.length_map]; omega
  · simp
theorem dl_length (ds : List (κ × D)) (k : κ) : (Am.dl ds k).length ≤ ds.length := List.length_filter_le _ _
end
theorem RpK.ent {K : PySem.W.Frag} {η : List Addr} {Hk : Hp} : ∀ {xs : List (Key × P)} {vs : List (Key × V)}, RpK K Hk vs xs → ReE K η Hk vs (xs.map fun kv => (kv.1, .p kv.2))
  | [], _, h => by cases h; exact .nil
  | (k, x) :: xs, _, h => by
    cases h with
    | cons r l => exact .cons r (RpK.ent l)
theorem RpT.ent {K : PySem.W.Frag} {η : List Addr} {Hk : Hp} : ∀ {xs : List (List Key × P)} {vs : List (List Key × V)}, RpT K Hk vs xs → ReE K η Hk vs (xs.map fun kv => (kv.1, .p kv.2))
  | [], _, h => by cases h; exact .nil
  | (k, x) :: xs, _, h => by
    cases h with
    | cons r l => exact .cons r (RpT.ent l)
theorem RpK.of_ent {K : PySem.W.Frag} {η : List Addr} {Hk : Hp} : ∀ {xs : List (Key × P)} {vs : List (Key × V)}, ReE K η Hk vs (xs.map fun kv => (kv.1, .p kv.2)) → RpK K Hk vs xs
  | [], _, h => by cases h; exact .nil
  | (k, x) :: xs, _, h => by
    cases h with
    | cons r l => exact .cons r (RpK.of_ent l)
theorem RpT.of_ent {K : PySem.W.Frag} {η : List Addr} {Hk : Hp} : ∀ {xs : List (List Key × P)} {vs : List (List Key × V)}, ReE K η Hk vs (xs.map fun kv => (kv.1, .p kv.2)) → RpT K Hk vs xs
  | [], _, h => by cases h; exact .nil
  | (k, x) :: xs, _, h => by
    cases h with
    | cons r l => exact .cons r (RpT.of_ent l)
theorem gt_map {κ α β : Type} [DecidableEq κ] (f : α → β) (k : κ) : ∀ xs : List (κ × α), gt (xs.map fun kv => (kv.1, f kv.2)) k = (gt xs k).map f
  | [] => rfl
  | (k0, x) :: xs => by
    rw [List.map_cons, gt_cons, gt_cons, gt_map f k xs]
    by_cases h : k0 = k <;> simp [h]
/-! ### a dict of a configuration -/
/-- the entries at a key: none where it is no dict, or no key of its kind -/
def dlk (S : List O) (d y : D) : Option (Option D) := match d with
  | .p (.dk kvs) => (dkK y).map fun k => (gt kvs k).map .p
  | .p (.dt kvs) => (dkT y).map fun k => (gt kvs k).map .p
  | .own n => (match S[n]? with
    | some (.dk kvs) => (dkK y).map fun k => gt kvs k
    | some (.dt kvs) => (dkT y).map fun k => gt kvs k
    | some (.ft _ _ kvs) => (dkT y).map fun k => gt kvs k
    | _ => none)
  | _ => none
section
variable {K : PySem.W.Frag}
theorem Cf.dkK (c : Cf K) {w : V} {y : D} {k : Key} (h : c.re w y) (e : Am.dkK y = some k) : w = kV k := by
  cases y with
  | p x => exact keyP_re h e
  | own n => cases e
theorem Cf.dkT (c : Cf K) {w : V} {y : D} {k : List Key} (h : c.re w y) (e : Am.dkT y = some k) : ∃ b, w = .ref b ∧ c.H b = some (.tup (k.map kV)) := by
  cases y with
  | p x =>
    cases x with
    | tup xs =>
      cases (show Rp K c.Hk w (.tup xs) from h) with
      | tup s z l =>
        refine ⟨_, rfl, ?_⟩
        rw [← keysOf_re l e]
        exact c.ok.ex _ _ s
    | _ => cases e
  | own n => cases e
theorem Cf.dk_own (c : Cf K) {v : V} {n : Nat} {ds : List (Key × D)} (h : c.re v (.own n)) (e : c.S[n]? = some (.dk ds)) : ∃ a vs, v = .ref a ∧ c.η[n]? = some a ∧ c.H a = some (.dK vs) ∧ ReE K c.η c.Hk vs ds ∧ ds.length ≤ sizeLine := by
  obtain ⟨a, ea, rfl⟩ := h
  obtain ⟨z, vs, h1, h2⟩ := c.ok.obj n a _ ea e
  exact ⟨a, vs, rfl, ea, h1, h2, z⟩
theorem Cf.dt_own (c : Cf K) {v : V} {n : Nat} {ds : List (List Key × D)} (h : c.re v (.own n)) (e : c.S[n]? = some (.dt ds)) : ∃ a vs, v = .ref a ∧ c.η[n]? = some a ∧ c.H a = some (.dT vs) ∧ ReE K c.η c.Hk vs ds ∧ ds.length ≤ sizeLine := by
  obtain ⟨a, ea, rfl⟩ := h
  obtain ⟨z, vs, h1, h2⟩ := c.ok.obj n a _ ea e
  exact ⟨a, vs, rfl, ea, h1, h2, z⟩
theorem Cf.dlk (c : Cf K) {v w : V} {d y : D} {r : Option D} (hv : c.re v d) (hw : c.re w y) (e : Am.dlk c.S d y = some r) : ∃ a ov, v = .ref a ∧ DGet c.H a w ov ∧ ((r = none ∧ ov = none) ∨ ∃ x vx, r = some x ∧ ov = some vx ∧ c.re vx x) := by
  have fin : ∀ {κ : Type} [DecidableEq κ] {vs : List (κ × V)} {ds : List (κ × D)} {k : κ}, ReE K c.η c.Hk vs ds → r = gt ds k → ((r = none ∧ valV vs k = none) ∨ ∃ x vx, r = some x ∧ valV vs k = some vx ∧ c.re vx x) := by
    intro κ _ vs ds k l er
    rcases l.gt (k := k) with ⟨vx, x, e1, e2, r1⟩ | ⟨e1, e2⟩
    · exact .inr ⟨x, vx, by rw [er, e2], e1, r1⟩
    · exact .inl ⟨by rw [er, e2], e1⟩
  cases d with
  | p x =>
    cases x with
    | dk kvs =>
      obtain ⟨k, ek, er⟩ := Option.map_eq_some_iff.mp (show (Am.dkK y).map (fun k => (gt kvs k).map D.p) = some r from e)
      cases (show Rp K c.Hk v (.dk kvs) from hv) with
      | dk s z l =>
        obtain rfl := c.dkK hw ek
        refine ⟨_, _, rfl, .inl ⟨_, k, .inr ⟨_, c.ok.ex _ _ s⟩, rfl, rfl⟩, fin (RpK.ent (η := c.η) l) ?_⟩
        rw [gt_map, er]
    | dt kvs =>
      obtain ⟨k, ek, er⟩ := Option.map_eq_some_iff.mp (show (Am.dkT y).map (fun k => (gt kvs k).map D.p) = some r from e)
      cases (show Rp K c.Hk v (.dt kvs) from hv) with
      | dt s z l =>
        obtain ⟨b, rfl, hb⟩ := c.dkT hw ek
        refine ⟨_, _, rfl, .inr ⟨_, k, b, .inr ⟨_, c.ok.ex _ _ s⟩, rfl, hb, rfl⟩, fin (RpT.ent (η := c.η) l) ?_⟩
        rw [gt_map, er]
    | _ => cases e
  | own n =>
    have e : (match c.S[n]? with
      | some (O.dk kvs) => (Am.dkK y).map fun k => gt kvs k
      | some (.dt kvs) => (Am.dkT y).map fun k => gt kvs k
      | some (.ft _ _ kvs) => (Am.dkT y).map fun k => gt kvs k
      | _ => none) = some r := e
    split at e
    · rename_i ds e0
      obtain ⟨k, ek, er⟩ := Option.map_eq_some_iff.mp e
      obtain ⟨a, vs, rfl, e1, e2, l, z⟩ := c.dk_own hv e0
      obtain rfl := c.dkK hw ek
      exact ⟨_, _, rfl, .inl ⟨_, k, .inl e2, rfl, rfl⟩, fin l er.symm⟩
    · rename_i ds e0
      obtain ⟨k, ek, er⟩ := Option.map_eq_some_iff.mp e
      obtain ⟨a, vs, rfl, e1, e2, l, z⟩ := c.dt_own hv e0
      obtain ⟨b, rfl, hb⟩ := c.dkT hw ek
      exact ⟨_, _, rfl, .inr ⟨_, k, b, .inl e2, rfl, hb, rfl⟩, fin l er.symm⟩
    · rename_i od ks ds e0
      obtain ⟨k, ek, er⟩ := Option.map_eq_some_iff.mp e
      obtain ⟨a, ea, rfl⟩ := hv
      obtain ⟨z, e2, l⟩ := c.ok.obj n a _ ea e0
      obtain ⟨b, rfl, hb⟩ := c.dkT hw ek
      exact ⟨_, _, rfl, .inr ⟨_, k, b, .inr ⟨_, e2⟩, rfl, hb, rfl⟩, fin l er.symm⟩
    · cases e
/-- a new owned dict -/
theorem Cf.newDk (c : Cf K) {p : Addr} (hp : c.H p = none) : ∃ e : Cf K, e.H = upd c.H p (.dK []) ∧ e.S = c.S ++ [.dk []] ∧ c.Le e ∧ e.re (.ref p) (.own c.S.length) := by
  obtain ⟨k, s⟩ := c.ok.allocOwn (u := .dK []) (o := .dk []) hp ⟨Nat.zero_le _, [], upd_same, .nil⟩
  exact ⟨⟨_, _, _, _, k⟩, rfl, rfl, s, p, by show (c.η ++ [p])[c.S.length]? = some p; rw [← c.ok.len]; simp, rfl⟩
theorem Cf.newDt (c : Cf K) {p : Addr} (hp : c.H p = none) : ∃ e : Cf K, e.H = upd c.H p (.dT []) ∧ e.S = c.S ++ [.dt []] ∧ c.Le e ∧ e.re (.ref p) (.own c.S.length) := by
  obtain ⟨k, s⟩ := c.ok.allocOwn (u := .dT []) (o := .dt []) hp ⟨Nat.zero_le _, [], upd_same, .nil⟩
  exact ⟨⟨_, _, _, _, k⟩, rfl, rfl, s, p, by show (c.η ++ [p])[c.S.length]? = some p; rw [← c.ok.len]; simp, rfl⟩
theorem Cf.setDk (c : Cf K) {n : Nat} {a : Addr} {ds ds' : List (Key × D)} {vs' : List (Key × V)} (e1 : c.η[n]? = some a) (e2 : c.S[n]? = some (.dk ds)) (l : ReE K c.η c.Hk vs' ds') (z : ds'.length ≤ sizeLine) :
    ∃ e : Cf K, e.H = upd c.H a (.dK vs') ∧ e.S = c.S.set n (.dk ds') ∧ c.Le e := by
  obtain ⟨k, s⟩ := c.ok.write (o := .dk ds') (u := .dK vs') e1 e2 (by intro h; cases h) ⟨z, vs', upd_same, l⟩
  exact ⟨⟨_, _, _, _, k⟩, rfl, rfl, s⟩
theorem Cf.setDt (c : Cf K) {n : Nat} {a : Addr} {ds ds' : List (List Key × D)} {vs' : List (List Key × V)} (e1 : c.η[n]? = some a) (e2 : c.S[n]? = some (.dt ds)) (l : ReE K c.η c.Hk vs' ds') (z : ds'.length ≤ sizeLine) :
    ∃ e : Cf K, e.H = upd c.H a (.dT vs') ∧ e.S = c.S.set n (.dt ds') ∧ c.Le e := by
  obtain ⟨k, s⟩ := c.ok.write (o := .dt ds') (u := .dT vs') e1 e2 (by intro h; cases h) ⟨z, vs', upd_same, l⟩
  exact ⟨⟨_, _, _, _, k⟩, rfl, rfl, s⟩
end
/-! ### rules -/
section
variable {X : Cx} {o i value : Expr} {td ty tv : AE} {pos pos' : Pos}
def aD0K : AE := fun _ S Post => Post (.own S.length) (S ++ [.dk []])
def aD0T : AE := fun _ S Post => Post (.own S.length) (S ++ [.dt []])
theorem je_d0K : JE X (.Dict [] [] pos) aD0K := ⟨_, pe_dnewK, ⟨fun c L σ Post Q hs h q p hp => by
  obtain ⟨e, eh, es, le, re⟩ := c.newDk hp
  rw [← eh]
  exact q e _ _ le re (by rw [es]; exact h)⟩⟩
theorem je_d0T : JE X (.Dict [] [] pos) aD0T := ⟨_, pe_dnewT, ⟨fun c L σ Post Q hs h q p hp => by
  obtain ⟨e, eh, es, le, re⟩ := c.newDt hp
  rw [← eh]
  exact q e _ _ le re (by rw [es]; exact h)⟩⟩
/-- d[y] -/
def aDGet : A2 := fun d y S Post => match dlk S d y with
  | some (some x) => Post x S
  | _ => False
theorem je_dget (hu : X.A.units + 65 < cLine) (ho : JE X o td) (hi : JE X i ty) (hs : NoSl i := by exact fun _ _ => rfl) : JE X (.Subscript o i pos) (aOp aDGet td ty) := by
  obtain ⟨t1, p1, l1⟩ := ho
  obtain ⟨t2, p2, l2⟩ := hi
  refine ⟨_, pe_dget (Nat.lt_of_le_of_lt (by omega) hu) p1 p2 hs, ⟨fun c L σ Post Q hs h q => ?_⟩⟩
  refine l1.run c L σ _ _ hs h fun d v x le re h1 => ?_
  refine l2.run d L σ _ _ (le.sl hs) h1 fun d2 v2 x2 le2 re2 h2 => ?_
  have h2 : (match dlk d2.S x x2 with | some (some x) => Post x d2.S | _ => False) := h2
  split at h2
  · rename_i x3 e
    obtain ⟨a, ov, rfl, g, hr⟩ := d2.dlk (le2.re re) re2 e
    rcases hr with ⟨z, _⟩ | ⟨x4, vx, ex, rfl, rx⟩
    · cases z
    · cases ex
      exact ⟨a, vx, rfl, g, q d2 _ _ (le.trans le2) rx h2⟩
  · exact h2.elim
/-- y in d -/
def aDIn (neg : Bool) : A2 := fun y d S Post => match dlk S d y with
  | some r => Post (.p (.bl (xor neg r.isSome))) S
  | none => False
theorem lift_din {t1 t2 : TE} (l2 : LiftE X.K t2 ty) (l1 : LiftE X.K t1 td) : LiftE X.K (tDIn t2 t1) (aOp (aDIn false) ty td) := by
  refine ⟨fun c L σ Post Q hs h q => ?_⟩
  refine l2.run c L σ _ _ hs h fun d v x le re h1 => ?_
  refine l1.run d L σ _ _ (le.sl hs) h1 fun d2 v2 x2 le2 re2 h2 => ?_
  have h2 : (match dlk d2.S x2 x with | some r => Post (.p (.bl (xor false r.isSome))) d2.S | none => False) := h2
  split at h2
  · rename_i r e
    obtain ⟨a, ov, rfl, g, hr⟩ := d2.dlk re2 (le2.re re) e
    have e2 : ov.isSome = r.isSome := by
      rcases hr with ⟨rfl, rfl⟩ | ⟨x4, vx, rfl, rfl, rx⟩ <;> rfl
    exact ⟨a, ov, rfl, g, by rw [e2]; exact q d2 _ _ (le.trans le2) (reB d2 _) (by simpa using h2)⟩
  · exact h2.elim
theorem lift_dnin {t1 t2 : TE} (l2 : LiftE X.K t2 ty) (l1 : LiftE X.K t1 td) : LiftE X.K (tDNotIn t2 t1) (aOp (aDIn true) ty td) := by
  refine ⟨fun c L σ Post Q hs h q => ?_⟩
  refine l2.run c L σ _ _ hs h fun d v x le re h1 => ?_
  refine l1.run d L σ _ _ (le.sl hs) h1 fun d2 v2 x2 le2 re2 h2 => ?_
  have h2 : (match dlk d2.S x2 x with | some r => Post (.p (.bl (xor true r.isSome))) d2.S | none => False) := h2
  split at h2
  · rename_i r e
    obtain ⟨a, ov, rfl, g, hr⟩ := d2.dlk re2 (le2.re re) e
    have e2 : ov.isSome = r.isSome := by
      rcases hr with ⟨rfl, rfl⟩ | ⟨x4, vx, rfl, rfl, rx⟩ <;> rfl
    exact ⟨a, ov, rfl, g, by rw [e2]; exact q d2 _ _ (le.trans le2) (reB d2 _) (by simpa using h2)⟩
  · exact h2.elim
theorem lift_tB {t : TE} {a : AE} (l : LiftE X.K t a) : LiftT X.K (tB t) (aTest a) := by
  refine ⟨fun c L σ Post Q hs h q => l.run c L σ _ _ hs h fun d v x le re h => ?_⟩
  split at h
  · rename_i k
    cases (show Rp X.K d.Hk v (.bl k) from re)
    exact ⟨k, rfl, q d k le h⟩
  · exact h.elim
theorem je_din (hu : X.A.units + 65 < cLine) (hi : JE X i ty) (ho : JE X o td) (hm : behindInMarks .In o = false := by with_unfolding_all rfl) : JE X (.Compare i [.In] [o] pos) (aOp (aDIn false) ty td) := by
  obtain ⟨t1, p1, l1⟩ := ho
  obtain ⟨t2, p2, l2⟩ := hi
  exact ⟨_, pe_cmp (pc_din (Nat.lt_of_le_of_lt (by omega) hu) p2 p1) hm, lift_din l2 l1⟩
theorem jt_din (hu : X.A.units + 65 < cLine) (hi : JE X i ty) (ho : JE X o td) (hm : behindInMarks .In o = false := by with_unfolding_all rfl) : JT X (.Compare i [.In] [o] pos) (aTest (aOp (aDIn false) ty td)) := by
  obtain ⟨t1, p1, l1⟩ := ho
  obtain ⟨t2, p2, l2⟩ := hi
  exact ⟨_, pt_cmp (pc_din (Nat.lt_of_le_of_lt (by omega) hu) p2 p1) hm, lift_tB (lift_din l2 l1)⟩
theorem je_dnin (hu : X.A.units + 65 < cLine) (hi : JE X i ty) (ho : JE X o td) (hm : behindInMarks .NotIn o = false := by with_unfolding_all rfl) : JE X (.Compare i [.NotIn] [o] pos) (aOp (aDIn true) ty td) := by
  obtain ⟨t1, p1, l1⟩ := ho
  obtain ⟨t2, p2, l2⟩ := hi
  exact ⟨_, pe_cmp (pc_dnotin (Nat.lt_of_le_of_lt (by omega) hu) p2 p1) hm, lift_dnin l2 l1⟩
theorem jt_dnin (hu : X.A.units + 65 < cLine) (hi : JE X i ty) (ho : JE X o td) (hm : behindInMarks .NotIn o = false := by with_unfolding_all rfl) : JT X (.Compare i [.NotIn] [o] pos) (aTest (aOp (aDIn true) ty td)) := by
  obtain ⟨t1, p1, l1⟩ := ho
  obtain ⟨t2, p2, l2⟩ := hi
  exact ⟨_, pt_cmp (pc_dnotin (Nat.lt_of_le_of_lt (by omega) hu) p2 p1) hm, lift_tB (lift_dnin l2 l1)⟩
/-- d[y] = v -/
def sDPutA (tv td ty : AE) : AS := fun E L S => tv L S fun v S1 => td L S1 fun d S2 => ty L S2 fun y S3 => match d with
  | .own n => (match S3[n]? with
    | some (.dk kvs) => (match dkK y with | some k => kvs.length < sizeLine ∧ E.nx L (S3.set n (.dk (pt kvs k v))) | none => False)
    | some (.dt kvs) => (match dkT y with | some k => kvs.length < sizeLine ∧ E.nx L (S3.set n (.dt (pt kvs k v))) | none => False)
    | _ => False)
  | _ => False
theorem js_dput (hu : X.A.units + 65 < cLine) (ho : JE X o td) (hi : JE X i ty) (hv : JE X value tv) (hs : swapsWith value (some (.Subscript o i pos')) pos.line X.env = pure false := by rfl) :
    JS X (.Assign [.Subscript o i pos'] value pos) (sDPutA tv td ty) := by
  obtain ⟨t1, p1, l1⟩ := ho
  obtain ⟨t2, p2, l2⟩ := hi
  obtain ⟨t3, p3, l3⟩ := hv
  refine ⟨_, ps_dput (Nat.lt_of_le_of_lt (by omega) hu) p1 p2 p3 hs, ⟨fun c L σ E D hs h k1 k2 k3 k4 => ?_⟩⟩
  refine l3.run c L σ _ _ hs h fun d0 v x le0 re0 h0 => ?_
  refine l1.run d0 L σ _ _ (le0.sl hs) h0 fun d1 v1 x1 le1 re1 h1 => ?_
  refine l2.run d1 L σ _ _ ((le0.trans le1).sl hs) h1 fun d2 v2 x2 le2 re2 h2 => ?_
  have le := le0.trans (le1.trans le2)
  split at h2
  · rename_i n
    split at h2
    · rename_i ds e0
      split at h2
      · rename_i k ek
        obtain ⟨a, vs, rfl, e1, e2, l, z⟩ := d2.dk_own (le2.re re1) e0
        obtain rfl := d2.dkK re2 ek
        have hl := l.length
        obtain ⟨f, eh, es, lf⟩ := d2.setDk e1 e0 (l.pt (k := k) ((le1.trans le2).re re0)) (by have := pt_length ds k x; omega)
        refine ⟨a, f.H, rfl, ?_, k1 f σ L (le.trans lf) ((le.trans lf).sl hs) (by rw [es]; exact h2.2)⟩
        rw [eh]
        exact DPut.k e2 (by omega)
      · exact h2.elim
    · rename_i ds e0
      split at h2
      · rename_i k ek
        obtain ⟨a, vs, rfl, e1, e2, l, z⟩ := d2.dt_own (le2.re re1) e0
        obtain ⟨b, rfl, hb⟩ := d2.dkT re2 ek
        have hl := l.length
        obtain ⟨f, eh, es, lf⟩ := d2.setDt e1 e0 (l.pt (k := k) ((le1.trans le2).re re0)) (by have := pt_length ds k x; omega)
        refine ⟨a, f.H, rfl, ?_, k1 f σ L (le.trans lf) ((le.trans lf).sl hs) (by rw [es]; exact h2.2)⟩
        rw [eh]
        exact DPut.t e2 hb (by omega)
      · exact h2.elim
    · exact h2.elim
  · exact h2.elim
end
end Am
/-! Am: dicts locked for good, walked by keys and by items. -/
namespace L2
open PySem PySem.Spec PyProof.Rows
/-- a locked dict of tuple keys, entry by entry -/
theorem Inv.rowsT {X : Cx} {pins : List (Addr × Obj)} {σ : St} {H : Hp} {s : Shared} {d : Addr} {o : Obj} {kvs : List (List Key × V)} (I : Inv X pins σ H s) (h : H d = some (.frz o (.dT kvs))) :
    (d == sysModules) = false ∧ s.heap.get? d = some o ∧ o.ExactDict ∧ ∃ (es : Array DictEntry) (ep : Nat), o.data = .dict es ep ∧ es.size = kvs.length ∧
      ∀ (i : Nat) (k : List Key) (v : V), kvs[i]? = some (k, v) → ∃ (en : DictEntry) (q : Addr), es[i]? = some en ∧ en.key = .ref q ∧ H q = some (.tup (k.map kV)) ∧ RelV v en.val := by
  obtain ⟨h1, z, h2, xs, pr, o', es, ep, h3, h4, h5, he, h6⟩ := I.hok d _ h
  obtain rfl : o = o' := Option.some.inj (h1.symm.trans h3)
  refine ⟨h2, h1, h4, es, ep, h5, ?_, fun i k v e => ?_⟩
  · rw [show es.size = xs.length from size_of_entries he]
    exact (Paired.length pr).symm
  · obtain ⟨b, hb, e1, e2, e3⟩ := paired_get pr e
    have q := entry_at he i
    rw [hb] at q
    exact ⟨_, b.2.1, q, rfl, e2, e3⟩
/-- its items: each turn a new pair of the key's own tuple and the value -/
def ItiT (d : Addr) (o : Obj) (kvs : List (List Key × V)) : It :=
  ⟨fun i H => H d = some (.frz o (.dT kvs)) ∧ i < kvs.length,
    fun i H x H' => ∃ (T q : Addr) (k : List Key) (v : V), kvs[i]? = some (k, v) ∧ x = .ref T ∧ H T = none ∧ H q = some (.tup (k.map kV)) ∧ H' = upd H T (.tup [.ref q, v]),
    fun i H => H d = some (.frz o (.dT kvs)) ∧ kvs.length ≤ i⟩
theorem turn_itemsT {P : Program} {w : World} {K : PySem.W.Frag} {d : Addr} {o : Obj} {es : Array DictEntry} {ep : Nat} {kvs : List (List Key × V)} {elts : List Expr} {kk : Nat} {tpos : Pos} (it : Addr) (hod : o.data = .dict es ep) :
    Turn P w K (.Tuple elts kk tpos) (ItiT d o kvs) [it] it (fun i h => ∃ ok ov, IsItemIter h it d i kvs.length ep ok ov) where
  mem := List.mem_singleton.mpr rfl
  obj := by
    rintro i h ⟨ok, ov, e⟩ b hb
    obtain rfl : b = it := by simpa using hb
    exact ⟨_, e, fun v z => nomatch z⟩
  keep := by
    rintro i h h' ⟨ok, ov, e⟩ k
    exact ⟨ok, ov, k it (by simp) _ e⟩
  item := by
    intro X hP hw hK hc i pins s σ H E I hf st hg
    subst hP hw hK
    obtain ⟨hd, hi⟩ := hg
    obtain ⟨hs, hgd, hx, es', ep', hdt, hsz, ent⟩ := I.rowsT hd
    obtain ⟨rfl, rfl⟩ := dict_ep hod hdt
    have hkv : kvs[i]? = some (kvs[i].1, kvs[i].2) := List.getElem?_eq_getElem hi
    obtain ⟨en, q, hen, hkey, hq, rv⟩ := ent i _ _ hkv
    obtain ⟨ok, ov, he⟩ := st
    rw [← hsz] at he
    have hi' : i < es'.size := by rw [hsz]; exact hi
    have hen' : es'[i] = en := (Array.getElem?_eq_some_iff.mp hen).2
    have hlt : it < s.heap.objs.size := Heap.lt_size he
    refine wpAny_pyNext_items_item_raw he ⟨o, hgd, hx, hdt⟩ hi' fun h' ho hT hz hk => ?_
    rw [hen', hkey] at ho hT
    refine ⟨_, rfl, wpAny_letOwnedTupleGo_items (s := { s with heap := h' }) ho fun h2 he2 sb => ?_⟩
    have hT2 : h2.get? s.heap.objs.size = some { cls := .type "tuple", data := .seq #[.ref q, en.val] } := (sb.2 _ (Nat.ne_of_gt hlt)).trans hT
    have new : ObjOk X.prog X.w (upd H s.heap.objs.size (.tup [.ref q, kvs[i].2])) h2 s.heap.objs.size (.tup [.ref q, kvs[i].2]) :=
      ⟨(by decide : 2 ≤ sizeLine), [.ref q, en.val], .cons rfl (.cons rv .nil), ⟨_, hT2, rfl, _, rfl⟩⟩
    have I1 : Inv X pins σ (upd H s.heap.objs.size (.tup [.ref q, kvs[i].2])) { s with heap := h2 } :=
      I.turnedNew (t' := s.toks) (ch := [it]) (fun b ob hb e => (sb.2 b (by simpa using hb)).trans (hk b ob (by simpa using hb) e)) hf (Nat.le_refl _) new
    refine ⟨.ref s.heap.objs.size, _, I1, rfl, ⟨_, q, _, _, hkv, rfl, I.hok.fresh (Nat.le_refl _), hq, rfl⟩, ⟨.ref q, en.val, ?_⟩, fun b hb => ?_⟩
    · rw [← hsz]; exact he2
    · obtain rfl : b = it := by simpa using hb
      rw [upd_ne (Nat.ne_of_lt hlt)]
      exact (hf b hb).1
  done := by
    intro X hP hw hK hc i pins s σ H E I hf st hg
    subst hP hw hK
    obtain ⟨hd, hi⟩ := hg
    obtain ⟨f0, f1, f2, f3, f4, f5⟩ := hf it (by simp)
    obtain ⟨hs, hgd, hx, es', ep', hdt, hsz, ent⟩ := I.rowsT hd
    obtain ⟨rfl, rfl⟩ := dict_ep hod hdt
    obtain ⟨ok, ov, he⟩ := st
    rw [← hsz] at he
    exact wpAny_pyNext_items_end_raw (I.ok.hd hc) he ⟨o, hgd, hx, hdt⟩ (by rw [hsz]; exact hi) fun h' eb => ⟨rfl, I.turned (t' := s.toks) (fun b ob hb e => eb b ob hb e) f0 f1 f3 f4 f5⟩
  self := fun A i s Q E st h => let ⟨_, _, e⟩ := st; PySem.W.kcp_self e h
def iItemsT (td : TE) : TI := fun σ H R => td σ H fun x H1 => ∃ d o kvs, x = .ref d ∧ H1 d = some (.frz o (.dT kvs)) ∧ R (ItiT d o kvs) H1
theorem pi_itemsT {X : Cx} {e : Expr} {td : TE} {apos cpos : Pos} {elts : List Expr} {kk : Nat} {tpos : Pos} (he : PE X e td) (hbase : attributeBase e "items" X.env (eval e X.env) = eval e X.env := by rfl) (hline : (apos.endLine == cpos.line) = true := by rfl) :
    PI X (.Tuple elts kk tpos) (.Call (.Attribute e "items" apos) [] [] cpos) (iItemsT td) := by
  refine ⟨fun pins s σ H R I h => ?_⟩
  refine wpAny_Call_method (T := "dict") (id := "dict.items") hbase rfl hline F.plainAttrs_dict F.slot_dict_items F.type_dict_items (thn (he.run pins s σ H _ I h) ?_)
  rintro u s1 ⟨x, H1, I1, rx, d, o, kvs, rfl, hd, q⟩
  obtain rfl : u = Value.ref d := rx
  obtain ⟨hs, hgd, hx, es, ep, hdt, hsz, ent⟩ := I1.rowsT hd
  have raw : s1.heap.DictRaw d es ep := ⟨o, hgd, hx, hdt⟩
  have hT : s1.TypeIs (.ref d) "dict" := ⟨o, hgd, hx.1⟩
  refine ⟨hT, fun b eb => (by cases eb; exact ⟨o, hgd, hx.2.1⟩), ?_⟩
  have I2 : Inv X pins σ H1 { s1 with heap := s1.heap.push { cls := .type "dict_items", data := .fields #[.ref d] } } := I1.kept (t' := s1.toks) fun b ob q => Heap.get?_push_of_some _ q
  have raw2 : (s1.heap.push { cls := .type "dict_items", data := .fields #[.ref d] }).DictRaw d es ep := ⟨o, Heap.get?_push_of_some _ hgd, hx, hdt⟩
  have fin : wpAny (model X.prog X.w) X.A (pyIter (.ref s1.heap.objs.size)) (PIE X pins σ (.Tuple elts kk tpos) R) X.xe { s1 with heap := s1.heap.push { cls := .type "dict_items", data := .fields #[.ref d] } } := by
    refine wpAny_pyIter_items_raw (d := d) ⟨_, Heap.get?_push_size _ rfl, rfl, rfl⟩ raw2 (pi_one (tk := s1.toks) I2 _ (turn_itemsT _ hdt) ⟨.none, .none, ?_⟩ q)
    rw [← hsz]
    exact Heap.get?_push_size _ rfl
  show wpAny _ _ (callWith cpos (.builtin "dict.items") [.ref d] [] []) _ X.xe s1
  exact method_meetsIn F.slot_dict_items F.entry_dict_items rfl (PySem.evalArgs_none ⟨rfl, hT, F.args_dict_items_1 _, _, meets_dict_items_raw d hs, ⟨es, ep, raw⟩, fin⟩)
end L2
/-! Am: freezing, walks of frozen dicts, the rest of dicts. -/
namespace Am
open PySem PySem.Spec L2
section
variable {K : PySem.W.Frag}
/-- a tracked tuple is known -/
theorem Cf.know (c : Cf K) {q : Addr} {vs : List V} (h : c.H q = some (.tup vs)) : ∃ e : Cf K, e.H = c.H ∧ e.S = c.S ∧ e.η = c.η ∧ e.Hk q = some (.tup vs) ∧ c.Le e := by
  cases z : c.Hk q with
  | some o =>
    have := c.ok.ex _ _ z
    rw [h] at this
    cases this
    exact ⟨c, rfl, rfl, rfl, z, .refl c⟩
  | none =>
    have hb : ∀ (i : Nat) o, c.η[i]? = some q → c.S[i]? = some o → o = .dead := fun i o e1 e2 => by
      have r := c.ok.obj i q o e1 e2
      cases o with
      | lst xs => obtain ⟨_, _, e, _⟩ := r; rw [h] at e; cases e
      | dk xs => obtain ⟨_, _, e, _⟩ := r; rw [h] at e; cases e
      | dt xs => obtain ⟨_, _, e, _⟩ := r; rw [h] at e; cases e
      | ft od ks xs => obtain ⟨_, e, _⟩ := r; rw [h] at e; cases e
      | ins C xs => obtain ⟨_, _, _, e, _⟩ := r; rw [h] at e; cases e
      | dead => rfl
    refine ⟨⟨c.η, upd c.Hk q (.tup vs), c.H, c.S, c.ok.relearn hb z h⟩, rfl, rfl, rfl, upd_same, ⟨.new z, ⟨[], by simp⟩, fun _ _ e _ => e, fun _ hb => .inl hb, fun b hb => ?_, fun _ hb => hb⟩⟩
    by_cases e : b = q
    · subst e; exact .inr (.inr (.inr ⟨vs, h⟩))
    · have hb : upd c.Hk q (.tup vs) b ≠ none := hb
      rw [upd_ne e] at hb; exact .inr (.inl hb)
theorem key_rp {H : Hp} : ∀ ks : List Key, RpL K H (ks.map kV) (ks.map unK)
  | [] => .nil
  | .inl i :: ks => .cons (.int i) (key_rp ks)
  | .inr x :: ks => .cons (.str x) (key_rp ks)
theorem Cf.key (c : Cf K) {q : Addr} {ks : List Key} (h : c.H q = some (.tup (ks.map kV))) (z : ks.length ≤ 1000) : ∃ e : Cf K, e.H = c.H ∧ e.S = c.S ∧ c.Le e ∧ e.re (.ref q) (.p (.tup (ks.map unK))) := by
  obtain ⟨e, h1, h2, _, h3, le⟩ := c.know h
  exact ⟨e, h1, h2, le, .tup h3 (by rw [List.length_map]; exact Nat.le_trans z (by decide)) (key_rp ks)⟩
/-- an owned object dies; what stands there is known with another face -/
theorem Cf.turn (c : Cf K) {n : Nat} {a : Addr} {o : O} {u : HO} (e1 : c.η[n]? = some a) (e2 : c.S[n]? = some o) (nd : o ≠ .dead) : ∃ e : Cf K, e.H = upd c.H a u ∧ e.S = c.S.set n .dead ∧ e.η = c.η ∧ e.Hk = upd c.Hk a u ∧ c.Le e := by
  obtain ⟨k, s⟩ := c.ok.write (o := .dead) (u := u) e1 e2 nd trivial
  have hk := c.ok.hid n a o e1 e2 nd
  have uniq : ∀ {j : Nat}, c.η[j]? = some a → j = n := fun {j} h1 => (List.getElem?_inj (List.getElem?_eq_some_iff.mp h1).1 c.ok.nd).mp (h1.trans e1.symm)
  have k2 := k.relearn (b := a) (u := u) (fun i o' h1 h2 => by
    have := uniq h1
    subst this
    rw [List.getElem?_set_self (List.getElem?_eq_some_iff.mp e2).1] at h2
    exact (Option.some.inj h2).symm) hk upd_same
  refine ⟨⟨c.η, upd c.Hk a u, upd c.H a u, c.S.set n .dead, k2⟩, rfl, rfl, rfl, rfl, ⟨.new hk, ⟨[], by simp⟩, s.fr, fun _ hb => .inl hb, fun b hb => ?_, s.kept⟩⟩
  by_cases e : b = a
  · subst e; exact .inl (List.mem_of_getElem? e1)
  · have hb : upd c.Hk a u b ≠ none := hb
    rw [upd_ne e] at hb; exact .inr (.inl hb)
end
/-! ### a name's object is frozen -/
def tFz (t : TS) : TS := fun D σ H => ∃ d u, H d = some u ∧ Mut (some u) ∧ ∀ od, t D σ (upd H d (.frz od u))
theorem pss_fz {X : Cx} {sts : List Stmt} {t : TS} (h : PSs X sts t) : PSs X sts (tFz t) := by
  refine ⟨fun pins s σ H D I hw => ?_⟩
  obtain ⟨d, u, hd, mu, hw⟩ := hw
  obtain ⟨od, I1⟩ := I.lock hd mu
  exact h.run pins s σ _ D I1 (hw od)
def sFz (i : Nat) (t : AS) : AS := fun E L S => match lk L i with
  | some (.own n) => (match S[n]? with
    | some (.dt kvs) => ∃ ps : List (List Key × P), kvs = ps.map (fun kv => (kv.1, .p kv.2)) ∧ t E (L.set i (some (.p (.dt ps)))) (S.set n .dead)
    | some (.dk kvs) => ∃ ps : List (Key × P), kvs = ps.map (fun kv => (kv.1, .p kv.2)) ∧ t E (L.set i (some (.p (.dk ps)))) (S.set n .dead)
    | _ => False)
  | _ => False
theorem sl_put {K : PySem.W.Frag} {c : Cf K} {σ : St} {L : Ls} {i : Nat} {v : V} {d : D} (h : c.sl σ L) (e : σ[i]? = some (some v)) (r : c.re v d) : c.sl σ (L.set i (some d)) := by
  refine ⟨by rw [List.length_set]; exact h.1, fun j b eb => ?_⟩
  by_cases hj : j = i
  · subst hj
    have hl : j < L.length := by
      have := (List.getElem?_eq_some_iff.mp eb).1
      simpa using this
    rw [List.getElem?_set_self hl] at eb
    cases eb
    exact ⟨v, e, r⟩
  · rw [List.getElem?_set_ne (Ne.symm hj)] at eb
    exact h.2 j b eb
theorem jb_fz (i : Nat) {X : Cx} {sts : List Stmt} {t : AS} (h : JB X sts t) : JB X sts (sFz i t) := by
  obtain ⟨t1, p1, l1⟩ := h
  refine ⟨_, pss_fz p1, ⟨fun c L σ E D hs h k1 k2 k3 k4 => ?_⟩⟩
  have step : ∀ {n : Nat} {a : Addr} {o : O} {u : HO} {x : P}, lk L i = some (.own n) → c.η[n]? = some a → c.S[n]? = some o → o ≠ .dead → c.H a = some u → Mut (some u) →
      (∀ (od : Obj) (e : Cf X.K), e.Hk a = some (.frz od u) → c.Le e → Rp X.K e.Hk (.ref a) x) → t E (L.set i (some (.p x))) (c.S.set n .dead) → tFz t1 D σ c.H := by
    intro n a o u x e0 e1 e2 nd ea mu hr ht
    refine ⟨a, u, ea, mu, fun od => ?_⟩
    obtain ⟨e, eh, es, eη, ek, le⟩ := c.turn (u := .frz od u) e1 e2 nd
    obtain ⟨v, ev, rv⟩ := hs.2 i _ (lk_eq _ _ _ e0)
    obtain ⟨a', ea', rfl⟩ := rv
    obtain rfl : a = a' := Option.some.inj (e1.symm.trans ea')
    rw [← eh]
    have rx : e.re (.ref a) (.p x) := hr od e (by rw [ek]; exact upd_same) le
    refine l1.run e _ σ E D (sl_put (le.sl hs) ev rx) (by rw [es]; exact ht) (fun d2 σ2 L2 le2 => k1 d2 σ2 L2 (le.trans le2)) (fun d2 v a le2 => k2 d2 v a (le.trans le2)) (fun d2 σ2 L2 le2 => k3 d2 σ2 L2 (le.trans le2)) (fun d2 σ2 L2 le2 => k4 d2 σ2 L2 (le.trans le2))
  unfold sFz at h
  split at h
  · rename_i n e0
    obtain ⟨v0, _, r0⟩ := hs.2 i _ (lk_eq _ _ _ e0)
    split at h
    · rename_i kvs e2
      obtain ⟨ps, rfl, h⟩ := h
      obtain ⟨a, vs, rfl, e1, e3, l, z⟩ := c.dt_own r0 e2
      exact step e0 e1 e2 (fun z => nomatch z) e3 trivial (fun od e ek le => .dt ek (by simpa using z) (RpT.of_ent (η := e.η) (ReE.mono le l))) h
    · rename_i kvs e2
      obtain ⟨ps, rfl, h⟩ := h
      obtain ⟨a, vs, rfl, e1, e3, l, z⟩ := c.dk_own r0 e2
      exact step e0 e1 e2 (fun z => nomatch z) e3 trivial (fun od e ek le => .dk ek (by simpa using z) (RpK.of_ent (η := e.η) (ReE.mono le l))) h
    · exact h.elim
  · exact h.elim
/-! ### walks of frozen dicts -/
theorem RpT.length {K : PySem.W.Frag} {H : Hp} : ∀ {xs : List (List Key × P)} {vs : List (List Key × V)}, RpT K H vs xs → vs.length = xs.length
  | [], _, h => by cases h; rfl
  | (_, _) :: _, _, h => by cases h with | cons r l => simp [RpT.length l]
theorem RpK.length {K : PySem.W.Frag} {H : Hp} : ∀ {xs : List (Key × P)} {vs : List (Key × V)}, RpK K H vs xs → vs.length = xs.length
  | [], _, h => by cases h; rfl
  | (_, _) :: _, _, h => by cases h with | cons r l => simp [RpK.length l]
theorem RpT.get {K : PySem.W.Frag} {H : Hp} : ∀ {xs : List (List Key × P)} {vs : List (List Key × V)} {i : Nat} {k : List Key} {v : V}, RpT K H vs xs → vs[i]? = some (k, v) → ∃ x, xs[i]? = some (k, x) ∧ Rp K H v x
  | [], _, _, _, _, h, e => by cases h; simp at e
  | (k0, x) :: xs, _, 0, k, v, h, e => by cases h with | cons r l => simp at e; obtain ⟨rfl, rfl⟩ := e; exact ⟨x, rfl, r⟩
  | (k0, x) :: xs, _, i + 1, k, v, h, e => by cases h with | cons r l => simpa using RpT.get l (by simpa using e)
theorem RpK.get {K : PySem.W.Frag} {H : Hp} : ∀ {xs : List (Key × P)} {vs : List (Key × V)} {i : Nat} {k : Key} {v : V}, RpK K H vs xs → vs[i]? = some (k, v) → ∃ x, xs[i]? = some (k, x) ∧ Rp K H v x
  | [], _, _, _, _, h, e => by cases h; simp at e
  | (k0, x) :: xs, _, 0, k, v, h, e => by cases h with | cons r l => simp at e; obtain ⟨rfl, rfl⟩ := e; exact ⟨x, rfl, r⟩
  | (k0, x) :: xs, _, i + 1, k, v, h, e => by cases h with | cons r l => simpa using RpK.get l (by simpa using e)
/-- d.items(), d frozen, of tuple keys -/
def itemT (kv : List Key × P) : D := .p (.tup [.tup (kv.1.map unK), kv.2])
def aiItemsT (te : AE) : AI := fun L S Post => te L S fun a S1 => match a with
  | .p (.dt kvs) => (∀ kv ∈ kvs, kv.1.length ≤ 1000) ∧ Post (kvs.map itemT) (fun _ => True) S1
  | _ => False
theorem ji_itemsT {X : Cx} {e : Expr} {te : AE} {apos cpos : Pos} {elts : List Expr} {kk : Nat} {tpos : Pos} (h : JE X e te) (hbase : attributeBase e "items" X.env (eval e X.env) = eval e X.env := by rfl) (hline : (apos.endLine == cpos.line) = true := by rfl) :
    JI X (.Tuple elts kk tpos) (.Call (.Attribute e "items" apos) [] [] cpos) (aiItemsT te) := by
  obtain ⟨t1, p1, l1⟩ := h
  refine ⟨_, pi_itemsT p1 hbase hline, ⟨fun c L σ Post R hs h q => l1.run c L σ _ _ hs h fun d v a le re h => ?_⟩⟩
  split at h
  · rename_i kvs
    obtain ⟨hk, h⟩ := h
    cases (show Rp X.K d.Hk v (.dt kvs) from re) with
    | dt s z l =>
      have n1 := l.length
      refine ⟨_, _, _, rfl, d.ok.ex _ _ s, q d _ _ _ le ⟨by rw [List.length_map]; exact z, fun f i lf _ hi => ⟨f.ok.ex _ _ (lf.ex _ _ s), by rw [List.length_map] at hi; omega⟩, fun f i x H' lf _ hi y => ?_, fun f i lf _ hi => ⟨f.ok.ex _ _ (lf.ex _ _ s), by rw [List.length_map] at hi; omega⟩⟩ h⟩
      obtain ⟨T, q0, k, v0, ev, rfl, hT, hq, rfl⟩ := y
      obtain ⟨x0, ex, rx⟩ := l.get ev
      obtain ⟨g, g1, g2, lg, rg⟩ := f.key hq (hk _ (List.mem_of_getElem? ex))
      rw [← g1] at hT ⊢
      obtain ⟨f2, eh, es, lf2, rf⟩ := g.newTup (vs := [.ref q0, v0]) (ps := [.tup (k.map unK), x0]) hT (.cons rg (.cons (Rp.mono (lf.ex.trans lg.ex) _ _ rx) .nil)) (by show 2 ≤ sizeLine; decide)
      refine ⟨f2, eh, by rw [es, g2], lg.trans lf2, itemT (k, x0), ?_, rf⟩
      rw [List.getElem?_map, ex]
      rfl
  · exact h.elim
/-- for k in d, d frozen -/
def aiKeys (te : AE) : AI := fun L S Post => te L S fun a S1 => match a with
  | .p (.dt kvs) => (∀ kv ∈ kvs, kv.1.length ≤ 1000) ∧ Post (kvs.map fun kv => .p (.tup (kv.1.map unK))) (fun _ => True) S1
  | .p (.dk kvs) => Post (kvs.map fun kv => .p (unK kv.1)) (fun _ => True) S1
  | _ => False
theorem ji_keys {X : Cx} {tg e : Expr} {te : AE} (h : JE X e te) : JI X tg e (aiKeys te) := by
  obtain ⟨t1, p1, l1⟩ := h
  refine ⟨_, pi_keys p1, ⟨fun c L σ Post R hs h q => l1.run c L σ _ _ hs h fun d v a le re h => ?_⟩⟩
  split at h
  · rename_i kvs
    obtain ⟨hk, h⟩ := h
    cases (show Rp X.K d.Hk v (.dt kvs) from re) with
    | dt s z l =>
      have n1 := l.length
      refine ⟨_, _, rfl, .inr ⟨_, d.ok.ex _ _ s, q d _ _ _ le ⟨by rw [List.length_map]; exact z, fun f i lf _ hi => ⟨f.ok.ex _ _ (lf.ex _ _ s), by rw [List.length_map] at hi; omega⟩, fun f i x H' lf _ hi y => ?_, fun f i lf _ hi => ⟨f.ok.ex _ _ (lf.ex _ _ s), by rw [List.length_map] at hi; omega⟩⟩ h⟩⟩
      obtain ⟨rfl, k, v0, q0, ev, rfl, hq⟩ := y
      obtain ⟨x0, ex, rx⟩ := l.get ev
      obtain ⟨g, g1, g2, lg, rg⟩ := f.key hq (hk _ (List.mem_of_getElem? ex))
      refine ⟨g, g1, g2, lg, _, ?_, rg⟩
      rw [List.getElem?_map, ex]
      rfl
  · rename_i kvs
    cases (show Rp X.K d.Hk v (.dk kvs) from re) with
    | dk s z l =>
      have n1 := l.length
      refine ⟨_, _, rfl, .inl ⟨_, d.ok.ex _ _ s, q d _ _ _ le ⟨by rw [List.length_map]; exact z, fun f i lf _ hi => ⟨f.ok.ex _ _ (lf.ex _ _ s), by rw [List.length_map] at hi; omega⟩, fun f i x H' lf _ hi y => ?_, fun f i lf _ hi => ⟨f.ok.ex _ _ (lf.ex _ _ s), by rw [List.length_map] at hi; omega⟩⟩ h⟩⟩
      obtain ⟨rfl, k, v0, ev, rfl⟩ := y
      obtain ⟨x0, ex, rx⟩ := l.get ev
      refine ⟨f, rfl, rfl, .refl f, .p (unK k), ?_, ?_⟩
      · rw [List.getElem?_map, ex]
        rfl
      · cases k with
        | inl i => exact .int i
        | inr x => exact .str x
  · exact h.elim
end Am
/-! Am: dict comprehensions of any keys. -/
namespace L2
open PySem PySem.Spec PyProof.Rows
/-- a kind of dict that a comprehension makes: how it begins, how an entry goes in -/
structure NewD where
  em : HO
  st : Hp → Addr → V → V → Hp → Prop
structure NewD.Ok (n : NewD) (P : Program) (w : World) : Prop where
  emp : ∀ (H : Hp) (h : Heap), sysModules < h.objs.size → ObjOk P w H (h.push { cls := .type "dict", data := .dict #[] }) h.objs.size n.em
  set : ∀ (Y : Cx) (pp : List (Addr × Obj)) (τ : St) (G G' : Hp) (t : Shared) (E : Value → Shared → Prop) (D : Addr) (y z : V) (u r : Value) (Q : Unit → Shared → Prop), Y.prog = P → Y.w = w → Y.A.units + 1 < cLine → Inv Y pp τ G t → n.st G D y z G' → RelV y u → RelV z r →
    (∀ t', Inv Y pp τ G' t' → Q () t') → wpAny (model Y.prog Y.w) Y.A (dictSet D u r) Q E t
def newK : NewD := ⟨.dK [], fun H D y z H' => ∃ kvs k, y = kV k ∧ H D = some (.dK kvs) ∧ kvs.length < sizeLine ∧ H' = upd H D (.dK (putK kvs k z))⟩
def newT : NewD := ⟨.dT [], fun H D y z H' => ∃ kvs k b, y = .ref b ∧ H b = some (.tup (k.map kV)) ∧ H D = some (.dT kvs) ∧ kvs.length < sizeLine ∧ H' = upd H D (.dT (putK kvs k z))⟩
theorem newK_ok {P : Program} {w : World} : newK.Ok P w := by
  refine ⟨fun H h hb => dk_empty h hb, fun Y pp τ G G' t E D y z u r Q hP hw hu J hst ry rz q => ?_⟩
  obtain ⟨kvs, k, rfl, hD, hz, rfl⟩ := hst
  exact d_dictSet J hD hz ry rz q
theorem newT_ok {P : Program} {w : World} : newT.Ok P w := by
  refine ⟨fun H h hb => dt_empty h hb, fun Y pp τ G G' t E D y z u r Q hP hw hu J hst ry rz q => ?_⟩
  obtain ⟨kvs, k, b, rfl, hb, hD, hz, rfl⟩ := hst
  obtain rfl : u = Value.ref b := ry
  obtain ⟨n1, hd, xs, rel, dd⟩ := dt_of J.hok hD
  have hlen := Paired.length rel
  have hput := length_putK kvs k z
  refine wpAny_dictSet_heap (hsz := by rw [← hlen]; exact n1) (show Y.A.units < cLine by omega) (key_of J.hok hb) dd fun h' dd' sb => q _ ?_
  obtain ⟨ob, es, ep, e1, e2, e3, e4, _, e5⟩ := dd'
  refine d_write J (by rw [hD]; trivial) sb ⟨ob, e1⟩ ⟨by omega, hd, _, (rel.put k hb rz).keeps fun c ys ec => ?_, ob, es, ep, e1, e2, e3, e4, e5⟩
  rw [upd_ne (ne_of ec hD (fun z => nomatch z))]
  exact ec
def tDcG (n : NewD) (wi : TI) (g : TG) (tt : TT) (tk tv : TE) (vs : List Nat) : TE := fun τ G Q => wi τ G fun J G1 => ∀ D, G1 D = none → ∃ W : Nat → Nat → Hp → Prop, (∃ m, W 0 m (upd G1 D n.em)) ∧ ∀ i m G, W i m G →
  (J.stop i G ∧ Q (.ref D) G) ∨ (J.go i G ∧ ∃ Nx : Hp → Prop, (∀ G', Nx G' → ∃ m', m' < m ∧ W (i + 1) m' G') ∧ ∀ x G', J.yld i G x G' → g x (wipe τ vs) G' fun τ2 G2 => wipe τ2 vs = wipe τ vs ∧ tt τ2 G2 fun b G3 =>
    if b = true then tk τ2 G3 fun y G4 => tv τ2 G4 fun z G5 => ∃ G6, n.st G5 D y z G6 ∧ Nx G6 else Nx G3)
section
variable {X : Cx} {n : NewD}
theorem dcg_core {pp : List (Addr × Obj)} {t : Shared} {τ : St} {G : Hp} {Q : VK} {kx vx tg iter : Expr} {ifs : List Expr} {scope : Scope} {own : List (Str × Nat)} {pos pos' : Pos} {wi : TI} {g : TG} {tt : TT} {tk tv : TE} {use : Option (Value → Sem Unit)} {Qf : Value → Shared → Prop}
    (hn : n.Ok X.prog X.w) (hu : X.A.units + 1 < cLine) (hc : X.calm = true) (hN : X.N.Nodup) (J : Inv X pp τ G t) (hi : PI X tg iter wi) (bo : BlkOk X.N X.env.scope scope own)
    (hg : ∀ (s : Shared) (H : Hp) (C : Addr) (cl : List (Str × Addr)) (fp : List Addr), PG (X.blk s H scope (compEnvC scope cl C X.env) fp) tg g) (ht : ∀ (s : Shared) (H : Hp) (C : Addr) (cl : List (Str × Addr)) (fp : List Addr), PTs (X.blk s H scope (compEnvC scope cl C X.env) fp) ifs tt)
    (hk : ∀ (s : Shared) (H : Hp) (C : Addr) (cl : List (Str × Addr)) (fp : List Addr), PE (X.blk s H scope (compEnvC scope cl C X.env) fp) kx tk) (he : ∀ (s : Shared) (H : Hp) (C : Addr) (cl : List (Str × Addr)) (fp : List Addr), PE (X.blk s H scope (compEnvC scope cl C X.env) fp) vx tv)
    (hs : ∀ x, foldedSetIterable iter X.env x = pure x) (h : tDcG n wi g tt tk tv (own.map (·.2)) τ G Q)
    (hRR : ∀ D C t' m G', Inv X pp τ G' t' → Q (.ref D) G' → t'.heap.Ns C m → FpOk X pp G' C → compPost (model X.prog X.w) X.A X.xe use Qf (.ref D) C (.ok .next) t') :
    wpAny (model X.prog X.w) X.A (comprehension (.DictComp kx vx [⟨tg, iter, ifs, 0⟩] scope pos) scope X.env pos' newDict false (eval iter X.env) use) Qf X.xe t := by
  have outer : ∀ y ∈ scope.names, y.2 = .free → ∃ c, X.env.cells.lookup y.1 = some c := fun y hy e => (bo.free y hy e).elim (fun q => J.ok.has _ (.inl q)) fun q => J.ok.has _ (.inr q)
  refine wpAny_comprehension_free (use := use) rfl hs (closure_ok outer) bo.kind (fun y hy e => by rw [bo.uniq y hy, e]) (thn (hi.run pp t τ G _ J h) fun xv t1 hx => thn hx fun itv t2 h2 => ?_)
  obtain ⟨it, fp, tn, Jt, G2, rfl, J2, T, tn2, f2, q⟩ := h2
  refine wpAny_newObj_type (newEnv_comp ?_)
  generalize hD : t2.heap.objs.size = D
  obtain ⟨W, ⟨m0, w0⟩, turn⟩ := q D (J2.hok.fresh (Nat.le_of_eq hD))
  generalize ht3 : ({ t2 with heap := t2.heap.push { cls := .type "dict", data := .dict #[] } } : Shared) = t3
  have J3 : Inv X pp τ (upd G2 D n.em) t3 := by
    subst ht3
    subst hD
    exact J2.laid (t' := t2.toks) (fun b o e => Heap.get?_push_of_some _ e) (Nat.le_refl _) (hn.emp _ t2.heap J2.big)
  have e3 : t3.heap = t2.heap.push { cls := .type "dict", data := .dict #[] } := by rw [← ht3]
  have low : ∀ b ∈ fp, b < t2.heap.objs.size := fun b hb => let ⟨o, e, _⟩ := T.obj _ _ tn2 b hb; Heap.lt_size e
  have f3 : ∀ b ∈ fp, FpOk X pp (upd G2 D n.em) b ∧ b < t3.heap.objs.size := by
    intro b hb
    have hlt := low b hb
    have hne : b ≠ D := by rw [← hD]; exact Nat.ne_of_lt hlt
    exact ⟨⟨by rw [upd_ne hne]; exact (f2 b hb).1, (f2 b hb).2⟩, by rw [e3, Heap.size_push]; exact Nat.lt_succ_of_lt hlt⟩
  have tn3 : tn 0 t3.heap := T.keep _ _ _ tn2 fun b _ o e => by rw [e3]; exact Heap.get?_push_of_some _ e
  have J4 := block_start J3 bo hN f3
  generalize hcl : cellsFrom (t3.heap.objs.size + 1) scope.names (cloFrom X.env.cells scope.names []) = cl at J4
  have qg := hg t3 (upd G2 D n.em) t3.heap.objs.size cl fp
  have qt := ht t3 (upd G2 D n.em) t3.heap.objs.size cl fp
  have qk := hk t3 (upd G2 D n.em) t3.heap.objs.size cl fp
  have qe := he t3 (upd G2 D n.em) t3.heap.objs.size cl fp
  show codeAny _ _ (.compStart (.DictComp kx vx [⟨tg, iter, ifs, 0⟩] scope pos) 0 (.ref it) (.ref D) (compEnvC scope cl t3.heap.objs.size X.env)) (compPost (model X.prog X.w) X.A X.xe use Qf (.ref D) t3.heap.objs.size) { t3 with heap := pushCells (t3.heap.push { cls := .type "dict", data := .dict #[] }) scope.names }
  have away : ∀ b ∈ fp, (upd G2 D n.em) b = none := fun b hb => (f3 b hb).1.1
  generalize hce : compEnvC scope cl t3.heap.objs.size X.env = ce at J4 qg qt qk qe ⊢
  have cL : ce.locals = t3.heap.objs.size := by subst hce; rfl
  generalize hG3 : upd G2 D n.em = G3 at J3 J4 qg qt qk qe w0 away f3
  generalize ht4 : ({ t3 with heap := pushCells (t3.heap.push { cls := .type "dict", data := .dict #[] }) scope.names } : Shared) = t4 at J4 ⊢
  have tn4 : tn 0 t4.heap := T.keep _ _ _ tn3 fun b _ o e => by rw [← ht4]; exact pushCells_keeps _ _ _ _ (Heap.get?_push_of_some _ e)
  have feet : ∀ {τ' : St} {G' : Hp} {t' : Shared}, Inv (X.blk t3 G3 scope ce fp) [] τ' G' t' → (∀ b ∈ fp, G' b = none) → ∀ b ∈ fp, FpOk (X.blk t3 G3 scope ce fp) [] G' b := by
    intro τ' G' t' Ji hno b hb
    exact ⟨hno b hb, (Ji.ok.exf b hb).1, Ji.ok.exfs b hb, .inl hb, fun x c e => (Ji.ok.exf b hb).2 x c e, fun p hp => absurd (show p ∈ ([] : List (Addr × Obj)) ++ [] from hp) (by simp)⟩
  refine codeAny_compStart_dict ?loop (T.self X.A 0 _ _ _ tn4 ?loop)
  case loop =>
  refine compLoop_anyD (fun k t' => ∃ i G', Inv (X.blk t3 G3 scope ce fp) [] (wipe τ (own.map (·.2))) G' t' ∧ tn i t'.heap ∧ (∀ b ∈ fp, G' b = none) ∧ W i k G') ?_ m0 ⟨0, G3, J4, tn4, away, w0⟩
  rintro k t5 ⟨i, G5, J5, tn5, n5, w5⟩
  rcases turn i k G5 w5 with ⟨stop, qq⟩ | ⟨go, Nx, hNx, step⟩
  · refine thnF (T.done (X.blk t3 G3 scope ce fp) rfl rfl rfl hc i [] t5 _ G5 (fun _ _ => False) J5 (feet J5 n5) tn5 stop) fun r t6 hr6 => ?_
    obtain ⟨rfl, J6⟩ := hr6
    have J7 : Inv X pp τ G5 t6 := J3.call' (ch := fp) J6.os J6.base J6.hok J6.bare fun b hb => ⟨(f3 b hb).1.2.2.2.1, (f3 b hb).1.2.1, (f3 b hb).1.2.2.2.2.1, (f3 b hb).1.2.2.2.2.2⟩
    have nC : G5 t3.heap.objs.size = none := by rw [← cL]; exact J6.free
    obtain ⟨m, hm, _⟩ := J6.loc
    have hm : t6.heap.Ns ce.locals m := hm
    rw [cL] at hm
    exact hRR D t3.heap.objs.size t6 m G5 J7 qq hm (J3.fpOk (Nat.le_refl _) nC)
  · refine thnF (T.item (X.blk t3 G3 scope ce fp) rfl rfl rfl hc i [] t5 _ G5 (fun _ _ => False) J5 (feet J5 n5) tn5 go) fun r t6 hr6 => ?_
    obtain ⟨u, rfl, h6⟩ := hr6
    refine thnF h6 fun _ t7 ⟨x, G7, J7, r7, y7, tn7, n7⟩ => ?_
    have J7' := J7.pinned (feet J7 n7) (T.obj _ _ tn7)
    refine thnF (qg.run _ t7 _ G7 x u _ J7' r7 (step x G7 y7)) fun _ t8 ⟨τ8, G8, J8, hw8, q8⟩ => ?_
    refine thnF (qt.run _ t8 τ8 G8 _ J8 q8) fun b t9 ⟨G9, J9, q9⟩ => ?_
    have fin : ∀ {t' : Shared} {G' : Hp}, Inv (X.blk t3 G3 scope ce fp) ([] ++ pinsAt fp t7.heap) τ8 G' t' → Nx G' → ∃ m, m < k ∧ ∃ i G', Inv (X.blk t3 G3 scope ce fp) [] (wipe τ (own.map (·.2))) G' t' ∧ tn i t'.heap ∧ (∀ b ∈ fp, G' b = none) ∧ W i m G' := by
      intro t' G' J' nx
      obtain ⟨m', hm, w'⟩ := hNx G' nx
      have pinned : ∀ b ∈ fp, ∀ o, t7.heap.get? b = some o → t'.heap.get? b = some o ∧ G' b = none := by
        intro b hb o e
        have z := J'.pin (b, o) (List.mem_append_right _ (List.mem_append_right _ (mem_pinsAt hb e)))
        exact ⟨z.1, z.2.1⟩
      refine ⟨m', hm, i + 1, G', (J'.unpinned (pins := [])).weak (by rw [← hw8, wipe_length]) (fun j v e => ?_), T.keep _ _ _ tn7 fun b hb o e => (pinned b hb o e).1, fun b hb => ?_, w'⟩
      · rw [← hw8] at e
        exact (wipe_some e).1
      · obtain ⟨o, e, _⟩ := T.obj _ _ tn7 b hb
        exact (pinned b hb o e).2
    cases b with
    | false =>
      rw [if_neg Bool.false_ne_true] at q9 ⊢
      exact fin J9 q9
    | true =>
      rw [if_pos rfl] at q9 ⊢
      refine thnF (qk.run _ t9 τ8 G9 _ J9 q9) fun z t10 ⟨yk, G10, J10, r10, q10⟩ => ?_
      refine thnF (qe.run _ t10 τ8 G10 _ J10 q10) fun z2 t11 ⟨yv, G11, J11, r11, G12, hst, nx⟩ => ?_
      exact hn.set (X.blk t3 G3 scope ce fp) _ _ _ _ _ _ _ _ _ _ _ _ rfl rfl hu J11 hst r10 r11 fun t12 J12 => fin J12 nx
theorem pe_dcg {kx vx tg iter : Expr} {ifs : List Expr} {scope : Scope} {own : List (Str × Nat)} {pos : Pos} {wi : TI} {g : TG} {tt : TT} {tk tv : TE} (hn : n.Ok X.prog X.w) (hu : X.A.units + 1 < cLine) (hc : X.calm = true) (hN : X.N.Nodup) (hi : PI X tg iter wi) (bo : BlkOk X.N X.env.scope scope own)
    (hg : ∀ (s : Shared) (H : Hp) (C : Addr) (cl : List (Str × Addr)) (fp : List Addr), PG (X.blk s H scope (compEnvC scope cl C X.env) fp) tg g) (ht : ∀ (s : Shared) (H : Hp) (C : Addr) (cl : List (Str × Addr)) (fp : List Addr), PTs (X.blk s H scope (compEnvC scope cl C X.env) fp) ifs tt)
    (hk : ∀ (s : Shared) (H : Hp) (C : Addr) (cl : List (Str × Addr)) (fp : List Addr), PE (X.blk s H scope (compEnvC scope cl C X.env) fp) kx tk) (he : ∀ (s : Shared) (H : Hp) (C : Addr) (cl : List (Str × Addr)) (fp : List Addr), PE (X.blk s H scope (compEnvC scope cl C X.env) fp) vx tv)
    (hs : ∀ x, foldedSetIterable iter X.env x = pure x := by intro _; rfl) : PE X (.DictComp kx vx [⟨tg, iter, ifs, 0⟩] scope pos) (tDcG n wi g tt tk tv (own.map (·.2))) := by
  refine ⟨fun pp t τ G Q J h => ?_⟩
  rw [arm_eval_DictComp]
  refine dcg_core hn hu hc hN J hi bo hg ht hk he hs h fun D C t' m G' J' q hm f => ⟨m, hm, fun h2 sb => ?_⟩
  obtain ⟨a0, a1, a2, a3, a4, a5⟩ := f
  exact ⟨.ref D, G', J'.turned (t' := t'.toks) (fun b o hb e => (sb.2 b hb).trans e) a0 a1 a3 a4 a5, rfl, q⟩
end
end L2
/-! Am: dict comprehensions read. -/
namespace Am
open PySem PySem.Spec L2
/-- the turns of a dict comprehension; acc: what is made so far -/
def dcRun {κ : Type} [DecidableEq κ] (kf : D → Option κ) (keep : List O → Prop) (g : AG) (t : AT) (ek ev : AE) (L : Ls) (Post : List (κ × D) → List O → Prop) : List D → List (κ × D) → List O → Prop
  | [], acc, S => keep S ∧ Post acc S
  | x :: xs, acc, S => keep S ∧ g x L S fun L1 S1 => t L1 S1 fun b S2 => if b = true then ek L1 S2 fun y S3 => ev L1 S3 fun z S4 => (match kf y with
      | some k => dcRun kf keep g t ek ev L Post xs (pt acc k z) S4
      | none => False) else dcRun kf keep g t ek ev L Post xs acc S2
theorem dcRun_keep {κ : Type} [DecidableEq κ] {kf : D → Option κ} {keep : List O → Prop} {g : AG} {t : AT} {ek ev : AE} {L : Ls} {Post : List (κ × D) → List O → Prop} {acc : List (κ × D)} {S : List O} : ∀ {xs : List D}, dcRun kf keep g t ek ev L Post xs acc S → keep S
  | [], h => h.1
  | _ :: _, h => h.1
def aDcK (ti : AI) (g : AG) (t : AT) (ek ev : AE) (vs : List Nat) : AE := fun L S Post => ti L S fun items keep S1 => dcRun dkK keep g t ek ev (wipeL L vs) (fun acc S2 => Post (.own S2.length) (S2 ++ [.dk acc])) items [] S1
def aDcT (ti : AI) (g : AG) (t : AT) (ek ev : AE) (vs : List Nat) : AE := fun L S Post => ti L S fun items keep S1 => dcRun dkT keep g t ek ev (wipeL L vs) (fun acc S2 => Post (.own S2.length) (S2 ++ [.dt acc])) items [] S1
/-- the two kinds at once -/
structure DRead (K : PySem.W.Frag) (n : NewD) (κ : Type) [DecidableEq κ] (kf : D → Option κ) (mkH : List (κ × V) → HO) (mkO : List (κ × D) → O) : Prop where
  em : n.em = mkH []
  tup : ∀ vs xs, mkH vs ≠ .tup xs
  st : ∀ (c : Cf K) (D0 : Addr) (v z : V) (y : D) (k : κ) (vs : List (κ × V)), c.re v y → kf y = some k → c.H D0 = some (mkH vs) → vs.length < sizeLine → n.st c.H D0 v z (upd c.H D0 (mkH (putK vs k z)))
  obj : ∀ (η : List Addr) (Hk H : Hp) (a : Addr) (vs : List (κ × V)) (ds : List (κ × D)), ds.length ≤ sizeLine → H a = some (mkH vs) → ReE K η Hk vs ds → ObjR K η Hk H a (mkO ds)
theorem dreadK {K : PySem.W.Frag} : DRead K newK Key dkK .dK .dk :=
  ⟨rfl, (fun _ _ h => nomatch h), fun c D0 v z y k vs r e h hz => ⟨vs, k, c.dkK r e, h, hz, rfl⟩, fun η Hk H a vs ds hz h l => ⟨hz, vs, h, l⟩⟩
theorem dreadT {K : PySem.W.Frag} : DRead K newT (List Key) dkT .dT .dt :=
  ⟨rfl, (fun _ _ h => nomatch h), fun c D0 v z y k vs r e h hz => let ⟨b, e1, hb⟩ := c.dkT r e; ⟨vs, k, b, e1, hb, h, hz, rfl⟩, fun η Hk H a vs ds hz h l => ⟨hz, vs, h, l⟩⟩
section
variable {K : PySem.W.Frag} {n : NewD} {κ : Type} [DecidableEq κ] {kf : D → Option κ} {mkH : List (κ × V) → HO} {mkO : List (κ × D) → O}
theorem lift_dc {wi : TI} {tg : TG} {tt : TT} {tk tv : TE} {ti : AI} {g : AG} {t : AT} {ek ev : AE} {vs : List Nat} (dr : DRead K n κ kf mkH mkO) (l1 : LiftI K wi ti)
    (l2 : ∀ (c : Cf K) (L : Ls) (σ : St) (v : V) (a : Am.D) (Post : Ls → List O → Prop) (Q : St → Hp → Prop), c.sl (wipe σ vs) L → c.re v a → g a L c.S Post →
      (∀ (d : Cf K) σ' L', c.Le d → d.sl σ' L' → wipe σ' vs = wipe σ vs → Post L' d.S → Q σ' d.H) → tg v (wipe σ vs) c.H Q) (l3 : LiftT K tt t) (l4 : LiftE K tk ek) (l5 : LiftE K tv ev) :
    LiftE K (tDcG n wi tg tt tk tv vs) (fun L S Post => ti L S fun items keep S1 => dcRun kf keep g t ek ev (wipeL L vs) (fun acc S2 => Post (.own S2.length) (S2 ++ [mkO acc])) items [] S1) := by
  refine ⟨fun c L σ Post Q hs h q => ?_⟩
  refine l1.run c L σ _ _ hs h fun d J items keep le wk h => ?_
  intro D0 hD
  have dη := d.ok.not_mem hD
  have dk := d.ok.knone hD
  have cD : c.H D0 = none := by
    cases z : c.H D0 with
    | none => rfl
    | some o => exact absurd hD (le.kept D0 (by rw [z]; simp))
  have stay : ∀ {f f' : Cf K} {ys : List (κ × V)}, f.Le f' → D0 ∉ f.η → f.Hk D0 = none → f.H D0 = some (mkH ys) → D0 ∉ f'.η ∧ f'.Hk D0 = none ∧ f'.H D0 = some (mkH ys) := fun {f f' ys} l n1 n2 n3 => by
    refine ⟨fun z => ?_, ?_, l.fr D0 _ n3 n1⟩
    · rcases l.newE D0 z with z | z
      · exact n1 z
      · rw [n3] at z; cases z
    · cases z : f'.Hk D0 with
      | none => rfl
      | some o =>
        rcases l.newK D0 (by rw [z]; simp) with y | y | y | ⟨_, y⟩
        · exact absurd y n1
        · exact absurd n2 y
        · rw [n3] at y; cases y
        · rw [n3] at y; exact absurd (Option.some.inj y) (dr.tup _ _)
  have more : ∀ {f f' : Cf K} {u : HO} (l : f.Le f') (n1 : D0 ∉ f'.η) (k1 : f'.Hk D0 = none), f.H D0 ≠ none → D0 ∉ f.η → d.Le f → d.Le (f'.with D0 u n1 k1) := fun {f f' u} l n1 k1 hf hη le0 => by
    have l5 := le0.trans l
    refine ⟨l5.ex, l5.pre, fun b o e hb => ?_, l5.newE, l5.newK, fun b hb => ?_⟩
    · show upd f'.H D0 _ b = _
      rw [upd_ne (ne_of_none e hD)]
      exact l5.fr b o e hb
    · show upd f'.H D0 _ b ≠ none
      by_cases e : b = D0
      · subst e; rw [upd_same]; simp
      · rw [upd_ne e]; exact l5.kept b hb
  refine ⟨fun i m H' => ∃ (d' : Cf K) (xs : List (κ × V)) (acc : List (κ × Am.D)), d'.H = H' ∧ m = items.length - i ∧ i ≤ items.length ∧ d.Le d' ∧ D0 ∉ d'.η ∧ d'.Hk D0 = none ∧ H' D0 = some (mkH xs) ∧ acc.length ≤ i ∧ ReE K d'.η d'.Hk xs acc ∧ dcRun kf keep g t ek ev (wipeL L vs) (fun acc S2 => Post (.own S2.length) (S2 ++ [mkO acc])) (items.drop i) acc d'.S,
    ⟨items.length, d.with D0 n.em dη dk, [], [], rfl, by simp, Nat.zero_le _, ?_, dη, dk, by rw [dr.em]; exact upd_same, Nat.le_refl _, .nil, h⟩, ?_⟩
  · exact ⟨.refl _, ⟨[], by simp [Cf.with]⟩, fun b o e hb => by show upd d.H D0 _ b = _; rw [upd_ne (ne_of_none e hD)]; exact e, fun b hb => .inl hb, fun b hb => .inr (.inl hb), fun b hb => by
      show upd d.H D0 _ b ≠ none
      by_cases e : b = D0
      · subst e; rw [upd_same]; simp
      · rw [upd_ne e]; exact hb⟩
  rintro i m H' ⟨d', xs, acc, rfl, rfl, hi, le', nD, kD, hH, ha, rl, h'⟩
  have hk := dcRun_keep h'
  by_cases hlt : i < items.length
  · rw [List.drop_eq_getElem_cons hlt] at h'
    obtain ⟨_, h'⟩ := h'
    refine .inr ⟨wk.go d' i le'.gr hk hlt, fun H2 => ∃ (d2 : Cf K) (xs : List (κ × V)) (acc : List (κ × Am.D)), d2.H = H2 ∧ d.Le d2 ∧ D0 ∉ d2.η ∧ d2.Hk D0 = none ∧ H2 D0 = some (mkH xs) ∧ acc.length ≤ i + 1 ∧ ReE K d2.η d2.Hk xs acc ∧ dcRun kf keep g t ek ev (wipeL L vs) (fun acc S2 => Post (.own S2.length) (S2 ++ [mkO acc])) (items.drop (i + 1)) acc d2.S,
      fun H2 ⟨d2, xs, acc, e, le2, n1, n2, n3, n4, n5, n6⟩ => ⟨items.length - (i + 1), by omega, d2, xs, acc, e, rfl, hlt, le2, n1, n2, n3, n4, n5, n6⟩, fun x H'' y => ?_⟩
    obtain ⟨d1, rfl, hS, le1, a, ea, ra⟩ := wk.yld d' i x H'' le'.gr hk hlt y
    have ea' : a = items[i] := by rw [List.getElem?_eq_getElem hlt] at ea; exact (Option.some.inj ea).symm
    subst ea'
    rw [← hS] at h'
    obtain ⟨n1, k1, hH1⟩ := stay le1 nD kD hH
    refine l2 d1 (wipeL L vs) σ x _ _ _ (((le.trans (le'.trans le1)).sl hs).wipe vs) ra h' fun d2 σ2 L2 le2 hs2 hw2 h2 => ?_
    obtain ⟨n2, k2, hH2⟩ := stay le2 n1 k1 hH1
    refine ⟨hw2, ?_⟩
    refine l3.run d2 L2 σ2 _ _ hs2 h2 fun d3 b le3 h3 => ?_
    obtain ⟨n3, k3, hH3⟩ := stay le3 n2 k2 hH2
    have le03 : d'.Le d3 := le1.trans (le2.trans le3)
    cases b with
    | true =>
      rw [if_pos rfl] at h3 ⊢
      refine l4.run d3 L2 σ2 _ _ (le3.sl hs2) h3 fun d4 v4 a4 le4 r4 h4 => ?_
      obtain ⟨n4, k4, hH4⟩ := stay le4 n3 k3 hH3
      refine l5.run d4 L2 σ2 _ _ ((le3.trans le4).sl hs2) h4 fun d5 v5 a5 le5 r5 h5 => ?_
      obtain ⟨n5, k5, hH5⟩ := stay le5 n4 k4 hH4
      have le05 : d'.Le d5 := le03.trans (le4.trans le5)
      split at h5
      · rename_i k ek0
        have rl5 := ReE.mono le05 rl
        have hlen : xs.length < sizeLine := by have := wk.size; rw [rl.length]; omega
        have hpt := pt_length acc k a5
        refine ⟨_, dr.st d5 D0 v4 v5 a4 k xs (le5.re r4) ek0 hH5 hlen, d5.with D0 (mkH (putK xs k v5)) n5 k5, _, pt acc k a5, rfl, more (f := d') le05 n5 k5 (by rw [hH]; simp) nD le', n5, k5, upd_same, by omega, rl5.pt r5, h5⟩
      · exact h5.elim
    | false =>
      rw [if_neg Bool.false_ne_true] at h3 ⊢
      exact ⟨d3, xs, acc, rfl, le'.trans le03, n3, k3, hH3, by omega, ReE.mono le03 rl, h3⟩
  · rw [List.drop_eq_nil_of_le (by omega)] at h'
    refine .inl ⟨wk.stop d' i le'.gr hk (by omega), ?_⟩
    have hz : acc.length ≤ sizeLine := by have := wk.size; omega
    obtain ⟨f, e1, e2, e3, e4, lf⟩ := (le.trans le').adoptOwn (o := mkO acc) nD kD cD ⟨_, hH⟩ (dr.obj _ _ _ _ xs acc hz hH (rl.mono' ⟨.refl _, ⟨[D0], rfl⟩⟩))
    rw [← e1]
    refine q f (.ref D0) (.own d'.S.length) lf ⟨D0, ?_, rfl⟩ (by rw [e2]; exact h'.2)
    rw [e3, ← d'.ok.len]
    simp
end
section
variable {X : Cx} {kx vx tg iter : Expr} {ifs : List Expr} {scope : Scope} {own : List (Str × Nat)} {pos : Pos} {ti : AI} {g : AG} {t : AT} {ek ev : AE}
theorem je_dcK (hu : X.A.units + 65 < cLine) (hc : X.calm = true) (hN : X.N.Nodup) (hi : JI X tg iter ti) (ok : BlkOk X.N X.env.scope scope own) (hg : Blk X scope fun Y => JGo Y (own.map (·.2)) tg g) (ht : Blk X scope fun Y => JTs Y ifs t) (hk : Blk X scope fun Y => JE Y kx ek) (he : Blk X scope fun Y => JE Y vx ev)
    (hs : ∀ x, foldedSetIterable iter X.env x = pure x := by intro _; rfl) : JE X (.DictComp kx vx [⟨tg, iter, ifs, 0⟩] scope pos) (aDcK ti g t ek ev (own.map (·.2))) := by
  obtain ⟨wi, p1, l1⟩ := hi
  exact ⟨_, pe_dcg newK_ok (by omega) hc hN p1 ok (fun s H C cl fp => (hg s H C cl fp).can) (fun s H C cl fp => (ht s H C cl fp).can) (fun s H C cl fp => (hk s H C cl fp).can) (fun s H C cl fp => (he s H C cl fp).can) hs, lift_dc dreadK l1 conG_lift conT_lift conE_lift conE_lift⟩
theorem je_dcT (hu : X.A.units + 65 < cLine) (hc : X.calm = true) (hN : X.N.Nodup) (hi : JI X tg iter ti) (ok : BlkOk X.N X.env.scope scope own) (hg : Blk X scope fun Y => JGo Y (own.map (·.2)) tg g) (ht : Blk X scope fun Y => JTs Y ifs t) (hk : Blk X scope fun Y => JE Y kx ek) (he : Blk X scope fun Y => JE Y vx ev)
    (hs : ∀ x, foldedSetIterable iter X.env x = pure x := by intro _; rfl) : JE X (.DictComp kx vx [⟨tg, iter, ifs, 0⟩] scope pos) (aDcT ti g t ek ev (own.map (·.2))) := by
  obtain ⟨wi, p1, l1⟩ := hi
  exact ⟨_, pe_dcg newT_ok (by omega) hc hN p1 ok (fun s H C cl fp => (hg s H C cl fp).can) (fun s H C cl fp => (ht s H C cl fp).can) (fun s H C cl fp => (hk s H C cl fp).can) (fun s H C cl fp => (he s H C cl fp).can) hs, lift_dc dreadT l1 conG_lift conT_lift conE_lift conE_lift⟩
end
/-- a dict comprehension by an invariant -/
theorem dc_go {κ : Type} [DecidableEq κ] {kf : D → Option κ} {keep : List O → Prop} {g : AG} {t : AT} {ek ev : AE} {L : Ls} {Post : List (κ × D) → List O → Prop} {items : List D} (I : Nat → List (κ × D) → List O → Prop) (hk : ∀ i acc S, I i acc S → keep S)
    (step : ∀ (i : Nat) (x : D) (acc : List (κ × D)) (S : List O) (N : List (κ × D) → List O → Prop), items[i]? = some x → I i acc S → (∀ acc' S', I (i + 1) acc' S' → N acc' S') → g x L S fun L1 S1 => t L1 S1 fun b S2 => if b = true then ek L1 S2 fun y S3 => ev L1 S3 fun z S4 => (match kf y with
      | some k => N (pt acc k z) S4
      | none => False) else N acc S2)
    (done : ∀ acc S, I items.length acc S → Post acc S) : ∀ {S : List O}, I 0 [] S → dcRun kf keep g t ek ev L Post items [] S := by
  have key : ∀ (n i : Nat) (acc : List (κ × D)) (S : List O), items.length - i = n → i ≤ items.length → I i acc S → dcRun kf keep g t ek ev L Post (items.drop i) acc S := by
    intro n
    induction n with
    | zero =>
      intro i acc S hn hi h
      have e : i = items.length := by omega
      subst e
      rw [List.drop_length]
      exact ⟨hk _ _ _ h, done _ _ h⟩
    | succ n ih =>
      intro i acc S hn hi h
      have hlt : i < items.length := by omega
      rw [List.drop_eq_getElem_cons hlt]
      exact ⟨hk _ _ _ h, step i _ acc S (fun acc S => dcRun kf keep g t ek ev L Post (items.drop (i + 1)) acc S) (List.getElem?_eq_getElem hlt) h fun acc' S' h' => ih (i + 1) acc' S' (by omega) hlt h'⟩
  intro S h
  have := key items.length 0 [] S rfl (Nat.zero_le _) h
  simpa using this
end Am
/-! Am: freezing by number, everywhere at once. -/
namespace Am
open PySem PySem.Spec L2
def D.sub (n : Nat) (x : P) : D → D
  | .p y => .p y
  | .own m => if m = n then .p x else .own m
def O.sub (n : Nat) (x : P) : O → O
  | .lst xs => .lst (xs.map (D.sub n x))
  | .dk kvs => .dk (kvs.map fun kv => (kv.1, kv.2.sub n x))
  | .dt kvs => .dt (kvs.map fun kv => (kv.1, kv.2.sub n x))
  | .ft od ks kvs => .ft od ks (kvs.map fun kv => (kv.1, kv.2.sub n x))
  | .ins C fs => .ins C (fs.map fun kv => (kv.1, kv.2.sub n x))
  | .dead => .dead
/-- the owned object that the datum x stands for, once it is frozen -/
def FzAs (o : O) (x : P) : Prop := (∃ ps, o = .dt (ps.map fun kv => (kv.1, .p kv.2)) ∧ x = .dt ps) ∨ (∃ ps, o = .dk (ps.map fun kv => (kv.1, .p kv.2)) ∧ x = .dk ps) ∨ ∃ ps, o = .lst (ps.map .p) ∧ x = .lst ps
def subL (n : Nat) (x : P) (L : Ls) : Ls := L.map fun d => d.map (D.sub n x)
def subS (n : Nat) (x : P) (S : List O) : List O := (S.set n .dead).map (O.sub n x)
section
variable {K : PySem.W.Frag} {η : List Addr} {Hk Hk' : Hp} {n : Nat} {x : P} {a : Addr}
theorem Re.sub (hx : Ex Hk Hk') (e : η[n]? = some a) (r : Rp K Hk' (.ref a) x) {v : V} {d : D} (h : Re K η Hk v d) : Re K η Hk' v (d.sub n x) := by
  cases d with
  | p y => exact Rp.mono hx _ _ h
  | own m =>
    obtain ⟨b, eb, rfl⟩ := h
    show Re K η Hk' _ (if m = n then D.p x else D.own m)
    by_cases hm : m = n
    · rw [if_pos hm]
      subst hm
      obtain rfl : a = b := Option.some.inj (e.symm.trans eb)
      exact r
    · rw [if_neg hm]
      exact ⟨b, eb, rfl⟩
theorem ReL.sub (hx : Ex Hk Hk') (e : η[n]? = some a) (r : Rp K Hk' (.ref a) x) : ∀ {vs : List V} {ds : List D}, ReL K η Hk vs ds → ReL K η Hk' vs (ds.map (D.sub n x))
  | _, _, .nil => .nil
  | _, _, .cons r1 l => .cons (r1.sub hx e r) (ReL.sub hx e r l)
theorem ReE.sub {κ : Type} (hx : Ex Hk Hk') (e : η[n]? = some a) (r : Rp K Hk' (.ref a) x) : ∀ {vs : List (κ × V)} {ds : List (κ × D)}, ReE K η Hk vs ds → ReE K η Hk' vs (ds.map fun kv => (kv.1, kv.2.sub n x))
  | _, _, .nil => .nil
  | _, _, .cons r1 l => .cons (r1.sub hx e r) (ReE.sub hx e r l)
theorem ObjR.sub {H : Hp} {b : Addr} (hx : Ex Hk Hk') (e : η[n]? = some a) (r : Rp K Hk' (.ref a) x) : ∀ {o : O}, ObjR K η Hk H b o → ObjR K η Hk' H b (o.sub n x)
  | .lst _, ⟨z, vs, h, l⟩ => ⟨by rw [List.length_map]; exact z, vs, h, l.sub hx e r⟩
  | .dk _, ⟨z, vs, h, l⟩ => ⟨by rw [List.length_map]; exact z, vs, h, l.sub hx e r⟩
  | .dt _, ⟨z, vs, h, l⟩ => ⟨by rw [List.length_map]; exact z, vs, h, l.sub hx e r⟩
  | .ft _ _ _, ⟨z, h, l⟩ => ⟨by rw [List.length_map]; exact z, h, l.sub hx e r⟩
  | .ins _ _, ⟨z, dx, gs, h, l⟩ => ⟨by rw [List.length_map]; exact z, dx, gs, h, l.sub hx e r⟩
  | .dead, _ => trivial
theorem sub_dead {o : O} (h : o.sub n x = .dead) : o = .dead := by cases o <;> first | rfl | cases h
/-- an owned object dies, and all that named it names the datum -/
theorem Cf.freeze (c : Cf K) {u : HO} {o : O} (e1 : c.η[n]? = some a) (e2 : c.S[n]? = some o) (nd : o ≠ .dead) (r : Rp K (upd c.Hk a u) (.ref a) x) :
    ∃ e : Cf K, e.H = upd c.H a u ∧ e.S = subS n x c.S ∧ c.Le e ∧ (∀ (σ : St) (L : Ls), c.sl σ L → e.sl σ (subL n x L)) := by
  obtain ⟨e, eh, es, eη, ek, le⟩ := c.turn (u := u) e1 e2 nd
  have hx : Ex c.Hk e.Hk := le.ex
  have r' : Rp K e.Hk (.ref a) x := by rw [ek]; exact r
  have e1' : e.η[n]? = some a := by rw [eη]; exact e1
  have ok : Ok K e.η e.Hk e.H (subS n x c.S) := by
    have k := e.ok
    rw [es] at k
    refine ⟨k.ex, by rw [k.len]; simp [subS], k.nd, fun i b o' h1 h2 nd' => ?_, k.there, fun i b o' h1 h2 => ?_⟩
    · unfold subS at h2
      rw [List.getElem?_map] at h2
      obtain ⟨o2, h3, rfl⟩ := Option.map_eq_some_iff.mp h2
      exact k.hid i b o2 h1 h3 fun z => nd' (by rw [z]; rfl)
    · unfold subS at h2
      rw [List.getElem?_map] at h2
      obtain ⟨o2, h3, rfl⟩ := Option.map_eq_some_iff.mp h2
      exact (k.obj i b o2 h1 h3).sub (.refl _) e1' r'
  refine ⟨⟨e.η, e.Hk, e.H, subS n x c.S, ok⟩, eh, rfl, ⟨le.ex, le.pre, le.fr, le.newE, le.newK, le.kept⟩, fun σ L hs => ?_⟩
  refine ⟨by simp [subL, hs.1], fun i d ed => ?_⟩
  unfold subL at ed
  rw [List.getElem?_map] at ed
  cases q : L[i]? with
  | none => rw [q] at ed; cases ed
  | some od =>
    rw [q] at ed
    cases od with
    | none => cases ed
    | some d0 =>
      cases ed
      obtain ⟨v, ev, rv⟩ := hs.2 i d0 q
      refine ⟨v, ev, ?_⟩
      have rv' : Re K e.η c.Hk v d0 := by rw [eη]; exact rv
      exact rv'.sub hx e1' r'
end
/-- freezings, one after another, ahead of a statement -/
def fzRun (t : AS) : Nat → AS
  | 0 => t
  | k + 1 => fun E L S => ∃ n o x, S[n]? = some o ∧ FzAs o x ∧ fzRun t k E (subL n x L) (subS n x S)
def sFzM (t : AS) : AS := fun E L S => ∃ k, fzRun t k E L S
def tFzM (t : TS) : Nat → TS
  | 0 => t
  | k + 1 => fun D σ H => tFzM t k D σ H ∨ tFz (tFzM t k) D σ H
theorem pss_fzm {X : Cx} {sts : List Stmt} {t : TS} (h : PSs X sts t) : ∀ k, PSs X sts (tFzM t k)
  | 0 => h
  | k + 1 => ⟨fun pins s σ H D I hw => hw.elim (fun q => (pss_fzm h k).run pins s σ H D I q) fun q => (pss_fz (pss_fzm h k)).run pins s σ H D I q⟩
theorem pss_ex {X : Cx} {sts : List Stmt} {t : Nat → TS} (h : ∀ k, PSs X sts (t k)) : PSs X sts (fun D σ H => ∃ k, t k D σ H) := ⟨fun pins s σ H D I ⟨k, q⟩ => (h k).run pins s σ H D I q⟩
theorem jb_fzm {X : Cx} {sts : List Stmt} {t : AS} (h : JB X sts t) : JB X sts (sFzM t) := by
  obtain ⟨t1, p1, l1⟩ := h
  refine ⟨_, pss_ex (pss_fzm p1), ⟨fun c L σ E D hs h0 k1 k2 k3 k4 => ?_⟩⟩
  obtain ⟨k, h⟩ := h0
  refine ⟨k, ?_⟩
  induction k generalizing c L with
  | zero => exact l1.run c L σ E D hs h k1 k2 k3 k4
  | succ k ih =>
    obtain ⟨n, o, x, e2, fz, h⟩ := h
    have go : ∀ {a : Addr} {u : HO} (e1 : c.η[n]? = some a) (nd : o ≠ .dead) (r : Rp X.K (upd c.Hk a u) (.ref a) x), tFzM t1 k D σ (upd c.H a u) := by
      intro a u e1 nd r
      obtain ⟨e, eh, es, le, hsl⟩ := c.freeze (u := u) e1 e2 nd r
      rw [← eh]
      exact ih e (subL n x L) (hsl σ L hs) (fun d2 σ2 L2 le2 => k1 d2 σ2 L2 (le.trans le2)) (fun d2 v a le2 => k2 d2 v a (le.trans le2)) (fun d2 σ2 L2 le2 => k3 d2 σ2 L2 (le.trans le2)) (fun d2 σ2 L2 le2 => k4 d2 σ2 L2 (le.trans le2)) (by rw [es]; exact h)
    have hl : n < c.η.length := by rw [c.ok.len]; exact (List.getElem?_eq_some_iff.mp e2).1
    have e1 : c.η[n]? = some c.η[n] := List.getElem?_eq_getElem hl
    have ob := c.ok.obj n _ o e1 e2
    have hk := c.ok.hid n _ o e1 e2
    rcases fz with ⟨ps, rfl, rfl⟩ | ⟨ps, rfl, rfl⟩ | ⟨ps, rfl, rfl⟩
    · obtain ⟨z, vs, e3, l⟩ := ob
      refine .inr ⟨_, _, e3, trivial, fun od => go e1 (fun z => nomatch z) (.dt upd_same (by simpa using z) (RpT.mono (.new (hk fun z => nomatch z)) _ _ (RpT.of_ent (η := c.η) l)))⟩
    · obtain ⟨z, vs, e3, l⟩ := ob
      refine .inr ⟨_, _, e3, trivial, fun od => go e1 (fun z => nomatch z) (.dk upd_same (by simpa using z) (RpK.mono (.new (hk fun z => nomatch z)) _ _ (RpK.of_ent (η := c.η) l)))⟩
    · obtain ⟨z, vs, e3, l⟩ := ob
      have g := go (u := .lst vs) e1 (fun z => nomatch z) (.lst upd_same (by simpa using z) (RpL.mono (.new (hk fun z => nomatch z)) _ _ (ReL.impure l)))
      have eq : upd c.H c.η[n] (.lst vs) = c.H := by
        funext b
        by_cases hb : b = c.η[n]
        · rw [hb, upd_same]; exact e3.symm
        · rw [upd_ne hb]
      rw [eq] at g
      exact .inl g
end Am
/-! Am: more of dicts, ranges as lists, three names at once, += . -/
namespace L2
open PySem PySem.Spec PyProof.Rows
/-- {k: v}, k a tuple -/
def tDisp1 (trs : List (TE × TE)) : TE := fun σ H Q => ∀ p, H p = none → tPairs trs σ (upd H p (.dT [])) fun ps H2 => H2 p = some (.dT []) ∧ ∃ ks b z, ps = [(.ref b, z)] ∧ H2 b = some (.tup (ks.map kV)) ∧ Q (.ref p) (upd H2 p (.dT [(ks, z)]))
theorem pe_disp1 {X : Cx} {pos : Pos} {k v : Expr} {tk tv : TE} (hu : X.A.units + 1 < cLine) (hk : PE X k tk) (hv : PE X v tv) : PE X (.Dict [some k] [v] pos) (tDisp1 [(tk, tv)]) := by
  refine ⟨fun pp t τ G Q J q => ?_⟩
  have hn := J.hok.fresh (Nat.le_refl t.heap.objs.size)
  have J1 := J.laid (a := t.heap.objs.size) (o := .dT []) (h' := t.heap.push { cls := .type "dict", data := .dict #[] }) (t' := t.toks) (fun _ _ e => Heap.get?_push_of_some _ e) (Nat.le_refl _) (dt_empty t.heap J.big)
  have hp := pps_cons (pos := pos) hk hv (pps_nil (X := X))
  have hz := zip_pairTrees [some k] [v] X.env pos rfl rfl
  have hlen : (pairTrees [some k] [v] X.env pos).length = 1 := pairTrees_length [some k] [v] X.env pos rfl rfl
  have ne : pairTrees [some k] [v] X.env pos ≠ [] := fun e => by rw [e] at hlen; cases hlen
  rw [arm_eval_Dict, hz, dictDisplay_pairs _ ne (by omega)]
  refine wpAny_bind (wpAny_standAt (wpAny_bind (wpAny_subDictH (knd := tupleKind (mixKind X.prog X.w)) (show X.A.units < cLine by omega) (by omega) (thn (hp.run pp _ τ _ _ J1 (q _ hn)) fun ws t2 hw => ?_))))
  obtain ⟨ps, H2, J2, rel, e, ks, b, z, rfl, hb, q2⟩ := hw
  cases rel with
  | @cons a c as cs r0 rel =>
    cases rel
    obtain ⟨r1, r2⟩ := r0
    obtain ⟨c1, c2⟩ := c
    obtain rfl : c1 = Value.ref b := r1
    obtain ⟨n1, hd, xs, r0, dd⟩ := dt_of J2.hok e
    cases r0
    refine ⟨[(ks, b, c2)], ⟨rfl, rfl, key_of J2.hok hb, trivial⟩, dd, fun h' tk dd' sb => wpAny_pure ⟨.ref t.heap.objs.size, _, ?_, rfl, q2⟩⟩
    have es : storedAllH ([] : List (List Key × Addr × Value)) [(ks, b, c2)] = [(ks, b, c2)] := rfl
    rw [es] at dd'
    obtain ⟨ob, en, ep, e1, e2, e3, e4, _, e5⟩ := dd'
    have hbp : b ≠ t.heap.objs.size := fun z => by rw [z, e] at hb; cases hb
    refine d_write J2 (by rw [e]; trivial) sb ⟨ob, e1⟩ ⟨(by decide : 1 ≤ sizeLine), hd, [(ks, b, c2)], .cons ⟨rfl, by rw [upd_ne hbp]; exact hb, r2⟩ .nil, ob, en, ep, e1, e2, e3, e4, e5⟩
/-- d == {}, d != {} -/
def rEqE (neg : Bool) : R2 := fun x y H Q => ∃ a b ks, x = .ref a ∧ y = .ref b ∧ H a = some (.dK ks) ∧ H b = some (.dK []) ∧ Q (.bl (xor neg ks.isEmpty)) H
theorem op_eqE {X : Cx} (hu : X.A.units < cLine) : OpR X (compareOp .Eq) (rEqE false) := by
  intro pp t τ G x y v u Q J rx ry h
  obtain ⟨a, b, ks, rfl, rfl, ea, eb, q⟩ := h
  obtain rfl : v = Value.ref a := rx
  obtain rfl : u = Value.ref b := ry
  obtain ⟨_, ya, va, ra, da⟩ := dk_of J.hok ea
  obtain ⟨_, yb, vb, rb, db⟩ := dk_of J.hok eb
  cases rb
  have hl := ra.length
  refine PySem.W.keq_eq (knd := mixKind X.prog X.w) (r := true) ya yb da db hu (fun e => ?_) (fin_bl J q ?_)
  · have : va = [] := List.length_eq_zero_iff.mp e
    subst this
    exact .nil
  · cases ra <;> rfl
theorem op_neE {X : Cx} (hu : X.A.units < cLine) : OpR X (compareOp .NotEq) (rEqE true) := by
  intro pp t τ G x y v u Q J rx ry h
  obtain ⟨a, b, ks, rfl, rfl, ea, eb, q⟩ := h
  obtain rfl : v = Value.ref a := rx
  obtain rfl : u = Value.ref b := ry
  obtain ⟨_, ya, va, ra, da⟩ := dk_of J.hok ea
  obtain ⟨_, yb, vb, rb, db⟩ := dk_of J.hok eb
  cases rb
  refine PySem.W.keq_ne (knd := mixKind X.prog X.w) (r := true) ya yb da db hu (fun e => ?_) (fin_bl J q ?_)
  · have : va = [] := List.length_eq_zero_iff.mp e
    subst this
    exact .nil
  · cases ra <;> rfl
/-- d.pop(k, x), d of ints and texts -/
def rPopK : V → List V → Hp → VK → Prop := fun x xs H Q => ∃ (a : Addr) (kvs : List (Key × V)) (k : Key) (d : V), x = .ref a ∧ xs = [kV k, d] ∧ H a = some (.dK kvs) ∧ (∀ v, valV kvs k = some v → Q v (upd H a (.dK (dropK kvs k)))) ∧ (valV kvs k = none → Q d H)
theorem mt_popK {X : Cx} : MtR X "dict.pop" rPopK := by
  intro pp t τ G x xs v us Q J rx rxs h
  obtain ⟨a, kvs, k, d, rfl, rfl, ha, q1, q2⟩ := h
  obtain rfl : v = Value.ref a := rx
  obtain ⟨u1, u2, rfl, r1, r2⟩ := vals2 rxs
  cases e : valV kvs k with
  | none => exact d_popD J ha r1 e fun t' J' => ⟨d, G, J', r2, q2 e⟩
  | some v0 => exact d_pop J ha r1 e (.inr ⟨u2, rfl⟩) fun w' t' J' rw' => ⟨v0, _, J', rw', q1 v0 e⟩
end L2
/-! Am: these read. -/
namespace Am
open PySem PySem.Spec L2
section
variable {X : Cx} {pos : Pos} {k v e : Expr} {tk tv te : AE}
/-- {k: v}, k a tuple -/
def aDisp1 (tk tv : AE) : AE := fun L S Post => tk L S fun y S1 => tv L S1 fun z S2 => match dkT y with
  | some ks => Post (.own S2.length) (S2 ++ [.dt [(ks, z)]])
  | none => False
theorem je_disp1 (hu : X.A.units + 65 < cLine) (hk : JE X k tk) (hv : JE X v tv) : JE X (.Dict [some k] [v] pos) (aDisp1 tk tv) := by
  obtain ⟨t1, p1, l1⟩ := hk
  obtain ⟨t2, p2, l2⟩ := hv
  refine ⟨_, pe_disp1 (by omega) p1 p2, ⟨fun c L σ Post Q hs h q p hp => ?_⟩⟩
  have pη := c.ok.not_mem hp
  have pk := c.ok.knone hp
  have le0 : c.Le (c.with p (.dT []) pη pk) := ⟨.refl _, ⟨[], by simp [Cf.with]⟩, fun b o e hb => by show upd c.H p _ b = _; rw [upd_ne (ne_of_none e hp)]; exact e, fun b hb => .inl hb, fun b hb => .inr (.inl hb), fun b hb => by
      show upd c.H p _ b ≠ none
      by_cases e : b = p
      · subst e; rw [upd_same]; simp
      · rw [upd_ne e]; exact hb⟩
  have stay : ∀ {f f' : Cf X.K}, f.Le f' → p ∉ f.η → f.Hk p = none → f.H p = some (.dT []) → p ∉ f'.η ∧ f'.Hk p = none ∧ f'.H p = some (.dT []) := fun {f f'} l n1 n2 n3 => by
    refine ⟨fun z => ?_, ?_, l.fr p _ n3 n1⟩
    · rcases l.newE p z with z | z
      · exact n1 z
      · rw [n3] at z; cases z
    · cases z : f'.Hk p with
      | none => rfl
      | some o =>
        rcases l.newK p (by rw [z]; simp) with y | y | y | ⟨_, y⟩
        · exact absurd y n1
        · exact absurd n2 y
        · rw [n3] at y; cases y
        · rw [n3] at y; cases y
  refine l1.run (c.with p (.dT []) pη pk) L σ _ _ (le0.sl hs) h fun d y a le re h1 => ?_
  obtain ⟨a1, a2, a3⟩ := stay le pη pk upd_same
  refine l2.run d L σ _ _ ((le0.trans le).sl hs) h1 fun d2 z a' le2 re2 h2 => ?_
  obtain ⟨b1, b2, b3⟩ := stay le2 a1 a2 a3
  split at h2
  · rename_i ks ek
    obtain ⟨b, rfl, hb⟩ := d2.dkT (le2.re re) ek
    refine ⟨b3, ks, b, z, rfl, hb, ?_⟩
    -- the new entry goes in
    have le3 : c.Le (d2.with p (.dT [(ks, z)]) b1 b2) := by
      have l5 := le0.trans (le.trans le2)
      refine ⟨l5.ex, l5.pre, fun b o e hb => ?_, l5.newE, l5.newK, fun b hb => ?_⟩
      · show upd d2.H p _ b = _
        rw [upd_ne (ne_of_none e hp)]
        exact l5.fr b o e hb
      · show upd d2.H p _ b ≠ none
        by_cases e : b = p
        · subst e; rw [upd_same]; simp
        · rw [upd_ne e]; exact l5.kept b hb
    obtain ⟨f, e1, e2, e3, e4, lf⟩ := le3.adoptOwn (o := .dt [(ks, a')]) b1 b2 hp ⟨_, upd_same⟩ ⟨(by decide : 1 ≤ sizeLine), [(ks, z)], upd_same, ReE.cons (Re.mono' ⟨.refl _, ⟨[p], rfl⟩⟩ re2) .nil⟩
    have e1' : f.H = upd d2.H p (.dT [(ks, z)]) := e1
    rw [← e1']
    refine q f (.ref p) (.own d2.S.length) lf ⟨p, ?_, rfl⟩ (by rw [e2]; exact h2)
    rw [e3]
    show (d2.η ++ [p])[d2.S.length]? = some p
    rw [← d2.ok.len]
    simp
  · exact h2.elim
/-- d == {}, d != {}: both owned -/
def aEqE (neg : Bool) : A2 := fun a b S Post => match a, b with
  | .own n, .own m => (match S[n]?, S[m]? with
    | some (.dk kvs), some (.dk []) => Post (.p (.bl (xor neg kvs.isEmpty))) S
    | _, _ => False)
  | _, _ => False
theorem lift_eqE {neg : Bool} : Lift2 X.K (rEqE neg) (aEqE neg) := by
  refine ⟨fun c x y a b Post Q ra rb h q => ?_⟩
  unfold aEqE at h
  split at h
  · rename_i n m
    split at h
    · rename_i kvs e1 e2
      obtain ⟨p1, vs, rfl, _, g1, l1, _⟩ := c.dk_own ra e1
      obtain ⟨p2, ws, rfl, _, g2, l2, _⟩ := c.dk_own rb e2
      cases l2
      refine ⟨p1, p2, vs, rfl, rfl, g1, g2, ?_⟩
      have e : vs.isEmpty = kvs.isEmpty := by cases l1 <;> rfl
      rw [e]
      exact q c _ _ (.refl c) (reB c _) h
    · exact h.elim
  · exact h.elim
variable {a b : Expr} {ta tb : AE}
theorem je_eqE (hu : X.A.units + 65 < cLine) (ha : JE X a ta) (hb : JE X b tb) : JE X (.Compare a [.Eq] [b] pos) (aOp (aEqE false) ta tb) := je_cmp (op_eqE (by omega)) lift_eqE ha hb (nomark _)
theorem je_neE (hu : X.A.units + 65 < cLine) (ha : JE X a ta) (hb : JE X b tb) : JE X (.Compare a [.NotEq] [b] pos) (aOp (aEqE true) ta tb) := je_cmp (op_neE (by omega)) lift_eqE ha hb (nomark _)
theorem jt_eqE (hu : X.A.units + 65 < cLine) (ha : JE X a ta) (hb : JE X b tb) : JT X (.Compare a [.Eq] [b] pos) (aTest (aOp (aEqE false) ta tb)) := jt_cmp (op_eqE (by omega)) lift_eqE ha hb (nomark _)
theorem jt_neE (hu : X.A.units + 65 < cLine) (ha : JE X a ta) (hb : JE X b tb) : JT X (.Compare a [.NotEq] [b] pos) (aTest (aOp (aEqE true) ta tb)) := jt_cmp (op_neE (by omega)) lift_eqE ha hb (nomark _)
/-- d.pop(k, x) -/
def aPopK : AM := fun a as S Post => match a, as with
  | .own n, [y, d] => (match S[n]?, dkK y with
    | some (.dk kvs), some k => (match gt kvs k with
      | some x => Post x (S.set n (.dk (dl kvs k)))
      | none => Post d S)
    | _, _ => False)
  | _, _ => False
theorem lift_popK {K : PySem.W.Frag} : LiftM K rPopK aPopK := by
  refine ⟨fun c x a vs as Post Q ra rs h q => ?_⟩
  unfold aPopK at h
  split at h
  · rename_i n y d
    split at h
    · rename_i kvs k e1 e2
      obtain ⟨p, ws, rfl, g0, g1, l, z⟩ := c.dk_own ra e1
      cases rs with
      | cons r1 rs =>
        cases rs with
        | cons r2 rs =>
          cases rs
          obtain rfl := c.dkK r1 e2
          rcases l.gt (k := k) with ⟨v0, x0, f1, f2, r0⟩ | ⟨f1, f2⟩
          · rw [f2] at h
            refine ⟨p, ws, k, _, rfl, rfl, g1, fun v hv => ?_, (fun hv => by rw [f1] at hv; cases hv)⟩
            obtain rfl : v0 = v := Option.some.inj (f1.symm.trans hv)
            obtain ⟨f, eh, es, lf⟩ := c.setDk g0 e1 (l.dl (k := k)) (Nat.le_trans (dl_length _ _) z)
            rw [← eh]
            exact q f _ _ lf (lf.re r0) (by rw [es]; exact h)
          · rw [f2] at h
            refine ⟨p, ws, k, _, rfl, rfl, g1, (fun v hv => by rw [f1] at hv; cases hv), fun _ => q c _ _ (.refl c) r2 h⟩
    · exact h.elim
  · exact h.elim
/-- the receiver is a dict -/
def isDk (S : List O) : D → Bool
  | .own n => (match S[n]? with | some (.dk _) => true | some (.dt _) => true | _ => false)
  | _ => false
theorem Cf.isDk {K : PySem.W.Frag} (c : Cf K) {v : V} {a : D} (h : c.re v a) (e : Am.isDk c.S a = true) : tyV K "dict" v c.H := by
  cases a with
  | own n =>
    have e : (match c.S[n]? with | some (O.dk _) => true | some (.dt _) => true | _ => false) = true := e
    split at e
    · rename_i ds e0
      obtain ⟨b, vs, rfl, e2, e3, l, z⟩ := c.dk_own h e0
      exact .inr (.inr (.inl ⟨rfl, .inl ⟨vs, e3⟩⟩))
    · rename_i ds e0
      obtain ⟨b, vs, rfl, e2, e3, l, z⟩ := c.dt_own h e0
      exact .inr (.inr (.inl ⟨rfl, .inr ⟨vs, e3⟩⟩))
    · cases e
  | p x => cases e
theorem je_mtD {o : Expr} {es : List Expr} {t : AA} {apos cpos : Pos} {name : Str} {id : String} {r : V → List V → Hp → VK → Prop} {ra : AM} (slot : Slot "dict" name id) (hty : typeOf (.builtin id) = pure (.type "method_descriptor")) (hm : MtR X id r) (hr : LiftM X.K r ra) (ho : JE X o te) (ha : JA X (e :: es) t)
    (hbase : attributeBase o name X.env (eval o X.env) = eval o X.env := by rfl)
    (hfew : ((backTo cpos (starEach (e :: es) X.env)).all (fun x => !x.1) && (backToKw cpos (keywordEach [] X.env)).all (fun x => x.1.isSome)
      && decide ((e :: es).length + ([] : List Keyword).length + (if ([] : List Keyword).isEmpty then 0 else 1) < 30)) = true := by rfl)
    (hline : (apos.endLine == cpos.line) = true := by rfl) (hs : starEach (e :: es) X.env = (false, eval e X.env) :: starEach es X.env := by rfl) (hplain : (backTo cpos (starEach es X.env)).any (·.1) = false := by rfl) :
    JE X (.Call (.Attribute o name apos) (e :: es) [] cpos) (aMt isDk ra te t) := by
  obtain ⟨t1, p1, l1⟩ := ho
  obtain ⟨t2, p2, l2⟩ := ha
  refine ⟨_, pe_bm PySem.F.plainAttrs_dict slot hty hm p1 p2 hbase hfew hline hs hplain, ⟨fun c L σ Post Q hs h q => ?_⟩⟩
  refine l1.run c L σ _ _ hs h fun d v x le re h1 => ?_
  split at h1
  · rename_i e0
    refine ⟨d.isDk re e0, ?_⟩
    refine l2.run d L σ _ _ (le.sl hs) h1 fun d2 vs as le2 re2 h2 => ?_
    exact hr.run d2 v x vs as Post Q (le2.re re) re2 h2 fun d3 v3 x3 le3 re3 h3 => q d3 v3 x3 (le.trans (le2.trans le3)) re3 h3
  · exact h1.elim
/-! list(d), d of tuple keys -/
theorem Cf.knowL {K : PySem.W.Frag} : ∀ (kvs : List (List Key × V)) (bs : List Addr) (c : Cf K), IsKeys c.H kvs bs → (∀ kv ∈ kvs, kv.1.length ≤ 1000) → ∃ e : Cf K, e.H = c.H ∧ e.S = c.S ∧ e.η = c.η ∧ c.Le e ∧ RpL K e.Hk (bs.map V.ref) (kvs.map fun kv => .tup (kv.1.map unK))
  | [], _, c, h, _ => by cases h; exact ⟨c, rfl, rfl, rfl, .refl c, .nil⟩
  | kv :: kvs, _, c, h, hz => by
    cases h with
    | cons h1 h2 =>
      obtain ⟨e1, a1, a2, a3, a4, l1⟩ := c.know h1
      obtain ⟨e2, b1, b2, b3, l2, r⟩ := Cf.knowL kvs _ e1 (by rw [a1]; exact h2) fun x hx => hz x (List.mem_cons_of_mem _ hx)
      refine ⟨e2, b1.trans a1, b2.trans a2, b3.trans a3, l1.trans l2, .cons (.tup (l2.ex _ _ a4) ?_ (key_rp _)) r⟩
      rw [List.length_map]
      exact Nat.le_trans (hz kv (by simp)) (by decide)
def aListT : A1 := fun a S Post => match a with
  | .own n => (match S[n]? with
    | some (.dt kvs) => (∀ kv ∈ kvs, kv.1.length ≤ 1000) ∧ Post (.p (.lst (kvs.map fun kv => .tup (kv.1.map unK)))) S
    | _ => False)
  | _ => False
theorem ReE.keys {κ α : Type} {K : PySem.W.Frag} {η : List Addr} {Hk : Hp} (f : κ → α) : ∀ {vs : List (κ × V)} {ds : List (κ × D)}, ReE K η Hk vs ds → vs.map (fun kv => f kv.1) = ds.map fun kv => f kv.1
  | _, _, .nil => rfl
  | _, _, .cons _ l => by rw [List.map_cons, List.map_cons, ReE.keys f l]
theorem je_listT {p : Pos} (hc : X.calm = true) (hg : Gl X "list") (hm : X.mg "list" = none) (he : JE X e te) (h1 : starEach [e] X.env = (false, eval e X.env) :: starEach [] X.env := by rfl) (hpl : (backTo pos (starEach [] X.env)).any (·.1) = false := by rfl) : JE X (.Call (.Name "list" p) [e] [] pos) (aCall (a1 aListT) (aCons te aNil)) :=
  je_callTy (call_list_dT hc) (lift_1 ⟨fun c x a Post Q ra h q => by
    unfold aListT at h
    split at h
    · rename_i n
      split at h
      · rename_i kvs e0
        obtain ⟨b, vs, rfl, g0, g1, l, z⟩ := c.dt_own ra e0
        refine ⟨b, vs, rfl, .inl g1, fun p bs hp hb => ?_⟩
        have hk := l.keys (fun k : List Key => P.tup (k.map unK))
        have hk2 := l.keys (fun k : List Key => k.length)
        have hz : ∀ kv ∈ vs, kv.1.length ≤ 1000 := fun kv hkv => by
          have : kv.1.length ∈ vs.map fun kv => kv.1.length := List.mem_map.mpr ⟨kv, hkv, rfl⟩
          rw [hk2] at this
          obtain ⟨y, hy, e⟩ := List.mem_map.mp this
          rw [← e]; exact h.1 y hy
        obtain ⟨f, f1, f2, f3, lf, rl⟩ := Cf.knowL vs bs c hb hz
        rw [hk] at rl
        rw [← f1] at hp ⊢
        obtain ⟨e2, eh, es, le2, re2⟩ := f.newLst hp rl (by rw [List.length_map]; exact z)
        rw [← eh]
        exact q e2 _ _ (lf.trans le2) re2 (by rw [es, f2]; exact h.2)
      · exact h.elim
    · exact h.elim⟩) hg hm (by decide +kernel) (ja_cons he ja_nil h1) (he := h1) (hpl := hpl)
/-! list(range(..)), tuple(range(..)) -/
structure JRg (X : Cx) (e : Expr) (t : Ls → List O → (Int → Int → List O → Prop) → Prop) : Prop where
  ex : ∃ te, PRg X e te ∧ ∀ (c : Cf X.K) (L : Ls) (σ : St) (Post : Int → Int → List O → Prop) (Q : Int → Int → Hp → Prop), c.sl σ L → t L c.S Post → (∀ (d : Cf X.K) a b, c.Le d → Post a b d.S → Q a b d.H) → te σ c.H Q
def aRg1 (ta : AE) : Ls → List O → (Int → Int → List O → Prop) → Prop := fun L S Post => ta L S fun a S1 => match a with | .p (.int n) => Post 0 n S1 | _ => False
def aRg2 (ta tb : AE) : Ls → List O → (Int → Int → List O → Prop) → Prop := fun L S Post => ta L S fun a S1 => tb L S1 fun b S2 => match a, b with | .p (.int i), .p (.int j) => Post i j S2 | _, _ => False
theorem jrg_1 {p : Pos} (hg : Gl X "range") (hm : X.mg "range" = none) (ha : JE X a ta) (na : starEach [a] X.env = (false, eval a X.env) :: starEach [] X.env := by rfl) : JRg X (.Call (.Name "range" p) [a] [] pos) (aRg1 ta) := by
  obtain ⟨t1, p1, l1⟩ := ha
  refine ⟨_, prg_1 hg hm p1 na, fun c L σ Post Q hs h q => l1.run c L σ _ _ hs h fun d v x le re h => ?_⟩
  split at h
  · rename_i n
    cases (show Rp X.K d.Hk v (.int n) from re)
    exact ⟨n, rfl, q d _ _ le h⟩
  · exact h.elim
theorem jrg_2 {p : Pos} (hg : Gl X "range") (hm : X.mg "range" = none) (ha : JE X a ta) (hb : JE X b tb) (na : starEach [a, b] X.env = (false, eval a X.env) :: starEach [b] X.env := by rfl) (nb : starEach [b] X.env = (false, eval b X.env) :: starEach [] X.env := by rfl) (hp : (backTo pos (starEach [b] X.env)).any (·.1) = false := by rfl) : JRg X (.Call (.Name "range" p) [a, b] [] pos) (aRg2 ta tb) := by
  obtain ⟨t1, p1, l1⟩ := ha
  obtain ⟨t2, p2, l2⟩ := hb
  refine ⟨_, prg_2 hg hm p1 p2 na nb hp, fun c L σ Post Q hs h q => l1.run c L σ _ _ hs h fun d v x le re h1 => ?_⟩
  refine l2.run d L σ _ _ (le.sl hs) h1 fun d2 v2 x2 le2 re2 h2 => ?_
  split at h2
  · rename_i i j
    cases (show Rp X.K d.Hk v (.int i) from re)
    cases (show Rp X.K d2.Hk v2 (.int j) from re2)
    exact ⟨i, j, rfl, rfl, q d2 _ _ (le.trans le2) h2⟩
  · exact h2.elim
def rgP (a b : Int) : List P := (List.range (b - a).toNat).map fun i => .int (a + (i : Nat))
theorem rg_rp {K : PySem.W.Frag} {H : Hp} (a b : Int) : RpL K H (rgV a b) (rgP a b) := by
  have := RpL.of_ints (K := K) (H := H) (bs := (List.range (b - a).toNat).map fun i => a + ((i : Nat) : Int))
  rw [List.map_map, List.map_map] at this
  exact this
theorem rgP_len (a b : Int) : (rgP a b).length = (b - a).toNat := by unfold rgP; rw [List.length_map, List.length_range]
def aLstRg (t : Ls → List O → (Int → Int → List O → Prop) → Prop) : AE := fun L S Post => t L S fun a b S1 => RgOk a b ∧ Post (.p (.lst (rgP a b))) S1
def aTupRg (t : Ls → List O → (Int → Int → List O → Prop) → Prop) : AE := fun L S Post => t L S fun a b S1 => RgOk a b ∧ Post (.p (.tup (rgP a b))) S1
theorem je_lstRg {p : Pos} {tr : Ls → List O → (Int → Int → List O → Prop) → Prop} (hc : X.calm = true) (hg : Gl X "list") (hm : X.mg "list" = none) (he : JRg X e tr) (na : starEach [e] X.env = (false, eval e X.env) :: starEach [] X.env := by rfl) : JE X (.Call (.Name "list" p) [e] [] pos) (aLstRg tr) := by
  obtain ⟨t1, p1, l1⟩ := he
  refine ⟨_, pe_listRg hc hg hm p1 na, ⟨fun c L σ Post Q hs h q => l1 c L σ _ _ hs h fun d i j le h => ⟨h.1, fun p hp => ?_⟩⟩⟩
  obtain ⟨f, eh, es, lf, rf⟩ := d.newLst hp (rg_rp i j) (by rw [rgP_len, sizeLine_eq]; have := h.1.2.2.2.2; omega)
  rw [← eh]
  exact q f _ _ (le.trans lf) rf (by rw [es]; exact h.2)
theorem je_tupRg {p : Pos} {tr : Ls → List O → (Int → Int → List O → Prop) → Prop} (hc : X.calm = true) (hg : Gl X "tuple") (hm : X.mg "tuple" = none) (he : JRg X e tr) (na : starEach [e] X.env = (false, eval e X.env) :: starEach [] X.env := by rfl) : JE X (.Call (.Name "tuple" p) [e] [] pos) (aTupRg tr) := by
  obtain ⟨t1, p1, l1⟩ := he
  refine ⟨_, pe_tupRg hc hg hm p1 na, ⟨fun c L σ Post Q hs h q => l1 c L σ _ _ hs h fun d i j le h => ⟨h.1, fun p hp => ?_⟩⟩⟩
  obtain ⟨f, eh, es, lf, rf⟩ := d.newTup hp (rg_rp i j) (by rw [rgP_len, sizeLine_eq]; have := h.1.2.2.2.2; omega)
  rw [← eh]
  exact q f _ _ (le.trans lf) rf (by rw [es]; exact h.2)
/-! three names at once; n += e -/
def sPar3 (i j l : Nat) (t : AA) : AS := fun E L S => t L S fun as S1 => match as with | [a, b, c] => E.nx (((L.set i (some a)).set j (some b)).set l (some c)) S1 | _ => False
theorem js_par3 (i j l : Nat) {x y z : Str} {c : Expr} {ta : AA} {px py pz pt : Pos} {kt k2 pt2} (hc : X.calm = true) (hN : X.N.Nodup) (ha : JA X [a, b, c] ta) (hw : swappedStores [.Tuple [.Name x px, .Name y py, .Name z pz] kt pt] (.Tuple [a, b, c] k2 pt2) X.env = pure (some [x, y, z]) := by rfl)
    (hi : X.N[i]? = some x := by rfl) (hj : X.N[j]? = some y := by rfl) (hl : X.N[l]? = some z := by rfl) (hij : i ≠ j := by decide) (hil : i ≠ l := by decide) (hjl : j ≠ l := by decide)
    (hx : X.env.scope.names.lookup x = some .local := by rfl) (hy : X.env.scope.names.lookup y = some .local := by rfl) (hz : X.env.scope.names.lookup z = some .local := by rfl)
    (hs : swapsWithSole [.Tuple [.Name x px, .Name y py, .Name z pz] kt pt] (.Tuple [a, b, c] k2 pt2) pos.line X.env = pure false := by rfl) :
    JS X (.Assign [.Tuple [.Name x px, .Name y py, .Name z pz] kt pt] (.Tuple [a, b, c] k2 pt2) pos) (sPar3 i j l ta) := by
  obtain ⟨t1, p1, l1⟩ := ha
  refine ⟨_, ps_par3 hc hN hi hj hl hij hil hjl hx hy hz p1 hw hs, ⟨fun c L σ E D hs h k1 k2 k3 k4 => ?_⟩⟩
  refine l1.run c L σ _ _ hs h fun d vs as le re h => ?_
  unfold sPar3 at h
  split at h
  · cases re with
    | cons r1 re =>
      cases re with
      | cons r2 re =>
        cases re with
        | cons r3 re =>
          cases re
          exact ⟨_, _, _, rfl, k1 d _ _ le ((((le.sl hs).set r1).set r2).set r3) h⟩
  · exact h.elim
def sAugI (i : Nat) (te : AE) (f : Int → Int → Int) : AS := fun E L S => match lk L i with
  | some (.p (.int x)) => te L S fun b S1 => (match b with | .p (.int y) => E.nx (L.set i (some (.p (.int (f x y))))) S1 | _ => False)
  | _ => False
theorem js_augAdd (i : Nat) {x : Str} {pos' : Pos} (hN : X.N.Nodup) (he : JE X e te) (hi : X.N[i]? = some x := by rfl) (hx : Loc X.env.scope x := by first | exact Or.inl rfl | exact Or.inr rfl) (hf : X.fn x = true ∨ X.env.scope.names.lookup x = some .local := by first | exact .inl rfl | exact .inr rfl | assumption) :
    JS X (.AugAssign (.Name x pos') .Add e pos) (sAugI i te fun a b => a + b) := by
  obtain ⟨t1, p1, l1⟩ := he
  refine ⟨_, ps_aug hN hi hx p1 ip_add hf, ⟨fun c L σ E D hs h k1 k2 k3 k4 => ?_⟩⟩
  unfold sAugI at h
  split at h
  · rename_i x0 e0
    obtain ⟨v, ev, rv⟩ := hs.2 i _ (lk_eq _ _ _ e0)
    cases (show Rp X.K c.Hk v (.int x0) from rv)
    refine ⟨_, ev, l1.run c L σ _ _ hs h fun d v a le re h => ?_⟩
    split at h
    · rename_i y
      cases (show Rp X.K d.Hk v (.int y) from re)
      exact ⟨x0, y, rfl, rfl, k1 d _ _ le ((le.sl hs).set (reI d _)) h⟩
    · exact h.elim
  · exact h.elim
end
end Am
/-! Am: enumerate, bit and. -/
namespace Am
open PySem PySem.Spec L2
/-- the pairs of enumerate -/
def enums (xs : List P) : List D := (List.range xs.length).zipWith (fun i x => .p (.tup [.int (i : Nat), x])) xs
theorem enums_at {xs : List P} {i : Nat} {x : P} (h : xs[i]? = some x) : (enums xs)[i]? = some (.p (.tup [.int (i : Nat), x])) := by
  unfold enums
  rw [List.getElem?_zipWith, List.getElem?_range (List.getElem?_eq_some_iff.mp h).1, h]
theorem enums_len (xs : List P) : (enums xs).length = xs.length := by unfold enums; rw [List.length_zipWith, List.length_range, Nat.min_self]
def aiEnum (te : AE) : AI := fun L S Post => te L S fun a S1 => match a with
  | .p (.lst xs) => Post (enums xs) (fun _ => True) S1
  | _ => False
theorem ji_enum {X : Cx} {e : Expr} {te : AE} {p pos tpos : Pos} {elts : List Expr} {kk : Nat} (hg : Gl X "enumerate") (hm : X.mg "enumerate" = none) (he : JE X e te) (h1 : starEach [e] X.env = (false, eval e X.env) :: starEach [] X.env := by rfl) (hs : starEach [e] X.env = [(false, eval e X.env)] := by rfl) :
    JI X (.Tuple elts kk tpos) (.Call (.Name "enumerate" p) [e] [] pos) (aiEnum te) := by
  obtain ⟨t1, p1, l1⟩ := ja_cons he ja_nil h1
  refine ⟨_, pi_enum hg hm p1 hs, ⟨fun c L σ Post R hs h q => l1.run c L σ (fun as S1 => match as with | [.p (.lst xs)] => Post (enums xs) (fun _ => True) S1 | _ => False) _ hs ?_ fun d vs as le re h => ?_⟩⟩
  · show te L c.S fun a S1 => _
    have e : (fun a S1 => match a with | D.p (.lst xs) => Post (enums xs) (fun _ => True) S1 | _ => False) = fun (a : D) (S1 : List O) => (match a :: [] with | [D.p (.lst xs)] => Post (enums xs) (fun _ => True) S1 | _ => False) := by
      funext a S1
      cases a with
      | p x => cases x <;> rfl
      | own n => rfl
    have h : te L c.S fun a S1 => match a with | D.p (.lst xs) => Post (enums xs) (fun _ => True) S1 | _ => False := h
    rw [e] at h
    exact h
  · split at h
    · rename_i xs
      cases re with
      | cons r rr =>
        cases rr
        cases (show Rp X.K d.Hk _ (.lst xs) from r) with
        | lst s1 z1 l1 =>
          have n1 := l1.length
          refine ⟨_, _, rfl, SqL.of (d.ok.ex _ _ s1), q d _ _ _ le ⟨by rw [enums_len]; exact z1, fun f i lf _ hi => ?_, fun f i x H' lf _ hi y => ?_, fun f i lf _ hi => ?_⟩ h⟩
          · rw [enums_len] at hi
            exact ⟨_, _, SqL.of (f.ok.ex _ _ (lf.ex _ _ s1)), List.getElem?_eq_getElem (by omega)⟩
          · obtain ⟨T, v, rfl, hT, rfl, fv⟩ := y
            obtain ⟨x, ex, rx⟩ := l1.get (fv _ (SqL.of (f.ok.ex _ _ (lf.ex _ _ s1))))
            obtain ⟨g, eh, es, lg, rg⟩ := f.newTup (vs := [.int (i : Nat), v]) (ps := [.int (i : Nat), x]) hT (.cons (.int _) (.cons (Rp.mono lf.ex _ _ rx) .nil)) (by show 2 ≤ sizeLine; decide)
            exact ⟨g, eh, es, lg, _, enums_at ex, rg⟩
          · rw [enums_len] at hi
            exact ⟨_, SqL.of (f.ok.ex _ _ (lf.ex _ _ s1)), by omega⟩
    · exact h.elim
section
variable {X : Cx} {a b : Expr} {ta tb : AE} {pos : Pos}
theorem je_band (ha : JE X a ta) (hb : JE X b tb) : JE X (.BinOp a .BitAnd b pos) (aOp (aI0 fun i j => .int (Builtin.bitAnd i j)) ta tb) := je_op op_and (lift_I0 fun c _ _ => reI c _) ha hb
end
end Am
/-! Am: a, b = x, y where a name is a cell: by a tuple that nobody keeps. -/
namespace Am
open PySem PySem.Spec L2
def sTupO (n : Nat) (t : AA) (g : AGs) : AS := fun E L S => t L S fun as S1 => as.length = n ∧ g as L S1 E.nx
theorem js_tupO {n : Nat} {X : Cx} {es ts : List Expr} {ta : AA} {g : AGs} {kt k2 : Nat} {pt pt2 pos : Pos} (hz : n ≤ 1000) (hc : X.calm = true) (ha : JA X es ta) (hg : JGs X ts g) (hw : swappedStores [.Tuple ts kt pt] (.Tuple es k2 pt2) X.env = pure none := by rfl)
    (hs : swapsWithSole [.Tuple ts kt pt] (.Tuple es k2 pt2) pos.line X.env = pure false := by rfl) (hn : (assignEach ts X.env).length = n := by rfl) (hst : (assignEach ts X.env).findIdx? (·.1) = none := by rfl)
    (h1 : (assignEach [.Tuple ts kt pt] X.env).map (·.2) = [assign (.Tuple ts kt pt) X.env] := by rfl) : JS X (.Assign [.Tuple ts kt pt] (.Tuple es k2 pt2) pos) (sTupO n ta g) := by
  obtain ⟨t1, p1, l1⟩ := ha
  obtain ⟨t2, p2, l2⟩ := hg
  refine ⟨_, ps_asg (pe_tup p1) (pg_tup hc p2 hn hst) hs hw h1, ⟨fun c L σ E D hs h k1 k2 k3 k4 => ?_⟩⟩
  refine l1.run c L σ _ _ hs h fun d vs as le re h => ?_
  obtain ⟨hl, h⟩ := h
  have hv := re.length
  refine ⟨by rw [hv, hl]; exact Nat.le_trans hz (by decide), fun p hp => ?_⟩
  have pη := d.ok.not_mem hp
  have pk := d.ok.knone hp
  have le0 : d.Le (d.with p (.tup vs) pη pk) := ⟨.refl _, ⟨[], by simp [Cf.with]⟩, fun b o e hb => by show upd d.H p _ b = _; rw [upd_ne (ne_of_none e hp)]; exact e, fun b hb => .inl hb, fun b hb => .inr (.inl hb), fun b hb => by
      show upd d.H p _ b ≠ none
      by_cases e : b = p
      · subst e; rw [upd_same]; simp
      · rw [upd_ne e]; exact hb⟩
  refine ⟨p, vs, rfl, SqT.of upd_same, by rw [hv, hl], ?_⟩
  exact l2.run (d.with p (.tup vs) pη pk) L σ vs as _ _ ((le.trans le0).sl hs) re h fun d2 σ2 L2 le2 hs2 h2 => k1 d2 σ2 L2 (le.trans (le0.trans le2)) hs2 h2
end Am
/-! Am: while by an invariant and a measure. -/
namespace Am
open PySem PySem.Spec L2
theorem while_go {t : AT} {b : AS} {E : En} (I : Nat → Ls → List O → Prop)
    (step : ∀ (m : Nat) (L : Ls) (S : List O) (N : Ls → List O → Prop), I m L S → (∀ (m' : Nat) (L' : Ls) (S' : List O), m' < m → I m' L' S' → N L' S') → t L S fun k S1 => if k = true then b { E with nx := N, ct := N, bk := E.nx } L S1 else E.nx L S1)
    {m : Nat} {L : Ls} {S : List O} (h : I m L S) : sWhile t b E L S := by
  have key : ∀ (n m : Nat) (L : Ls) (S : List O), m < n → I m L S → whileRun t b E n L S := by
    intro n
    induction n with
    | zero => intro m L S hm; omega
    | succ n ih => intro m L S hm h; exact step m L S _ h fun m' L' S' hm' h' => ih m' L' S' (by omega) h'
  exact ⟨m + 1, key (m + 1) m L S (by omega) h⟩
end Am
namespace Am
open PySem PySem.Spec L2
/-! ### freezing within a store -/
theorem D.bel_sub {n : Nat} {x : P} {d : D} (h : d.bel n) : d.sub n x = d := by
  cases d with
  | p _ => rfl
  | own m => exact if_neg (Nat.ne_of_lt h)
theorem D.bel_le {n m : Nat} (hn : n ≤ m) {d : D} (h : d.bel n) : d.bel m := by
  cases d with
  | p _ => trivial
  | own k => exact Nat.lt_of_lt_of_le h hn
theorem map_same {α : Type} {f : α → α} {xs : List α} (h : ∀ x ∈ xs, f x = x) : xs.map f = xs := by
  conv => rhs; rw [← List.map_id xs]
  exact List.map_congr_left h
theorem O.bel_sub {n : Nat} {x : P} {o : O} (h : o.bel n) : o.sub n x = o := by
  cases o with
  | lst xs => exact congrArg O.lst (map_same fun d hd => D.bel_sub (h d hd))
  | dk xs => exact congrArg O.dk (map_same fun d hd => by rw [D.bel_sub (h d hd)])
  | dt xs => exact congrArg O.dt (map_same fun d hd => by rw [D.bel_sub (h d hd)])
  | ft od ks xs => exact congrArg (O.ft od ks) (map_same fun d hd => by rw [D.bel_sub (h d hd)])
  | ins _ xs => exact congrArg (O.ins _) (map_same fun d hd => by rw [D.bel_sub (h d hd)])
  | dead => rfl
theorem O.bel_le {n m : Nat} (hn : n ≤ m) {o : O} (h : o.bel n) : o.bel m := by
  cases o with
  | lst xs => exact fun d hd => D.bel_le hn (h d hd)
  | dk xs => exact fun d hd => D.bel_le hn (h d hd)
  | dt xs => exact fun d hd => D.bel_le hn (h d hd)
  | ft od ks xs => exact fun d hd => D.bel_le hn (h d hd)
  | ins _ xs => exact fun d hd => D.bel_le hn (h d hd)
  | dead => trivial
theorem Bel.le {n m : Nat} (hn : n ≤ m) {S : List O} (h : Bel n S) : Bel m S := fun o ho => O.bel_le hn (h o ho)
theorem Bel.sub {n : Nat} {x : P} {S : List O} (h : Bel n S) : S.map (O.sub n x) = S := map_same fun o ho => O.bel_sub (h o ho)
theorem Bel.app {n : Nat} {S T : List O} (h : Bel n S) (k : Bel n T) : Bel n (S ++ T) := fun o ho => (List.mem_append.mp ho).elim (h o) (k o)
theorem Bel.cons {n : Nat} {o : O} {T : List O} (h : o.bel n) (k : Bel n T) : Bel n (o :: T) := fun o' ho => (List.mem_cons.mp ho).elim (fun e => e ▸ h) (k o')
theorem Bel.nil {n : Nat} : Bel n [] := fun _ h => nomatch h
theorem subS_last {S : List O} {o : O} {x : P} (h : Bel S.length S) : subS S.length x (S ++ [o]) = S ++ [.dead] := by
  unfold subS
  rw [setE, List.map_append, h.sub]
  rfl
end Am
/-! Am: sorted, of one item of any kind, too. -/
namespace Am
open PySem PySem.Spec L2
theorem keyLt_general (x y : Value) : PyProof.Rows.keyLt' PyProof.Rows.general' x y = PyProof.Rows.oneLt' false x y := rfl
theorem sortsAt_one {prog : Program} {w : World} {A : Around} {s : Shared} {v : Value} {d : PyData} {as : List Addr} (r : Reads s.heap v d as) (hal : PySem.W.alike d d = true) (hn : d ≠ .none) (hu : A.units + d.depth < cLine) : PySem.W.SortsAt prog w A s (PySem.W.dataKind s.heap [d]) [v] := by
  have ha : PySem.W.AllAlike [d] := fun x hx y hy => by
    rw [List.mem_singleton] at hx hy
    subst hx; subst hy; exact hal
  refine ⟨fun u hu => ?_, PyProof.Rows.general', ?_, fun h2 => absurd h2 (by simp)⟩
  · rw [List.mem_singleton] at hu
    subst hu
    exact ⟨_, PySem.W.dataKind_some ha (List.mem_singleton.mpr rfl) r⟩
  · intro E x y a b Q hx hy hq
    obtain ⟨d1, as1, h1, r1, rfl⟩ := PySem.W.dataKind_inv hx
    obtain ⟨d2, as2, h2, r2, rfl⟩ := PySem.W.dataKind_inv hy
    rw [List.mem_singleton] at h1 h2
    subst h1; subst h2
    rw [keyLt_general]
    exact PySem.W.oneLt_alike (fun q => Bool.noConfusion q) r1 r2 hal hn (by rw [Nat.min_self]; exact hu) hq
theorem cr_sorted1 {X : Cx} (hu : X.A.units + 65 < cLine) {pins : List (Addr × Obj)} {s : Shared} {σ : St} {H : Hp} {a : Addr} {v : V} {p : P} {Hk : Hp} {us : List Value} {Q : VK} (I : Inv X pins σ H s) (rr : Vals [V.ref a] us) (hs : SqL X.K H a [v]) (hH : ∀ v x, Rp X.K Hk v x → Rp X.K H v x) (hp : Rp X.K Hk v p) (hd : Dat 50 p) (hal : PySem.W.alike p.py p.py = true) (hn : p.py ≠ .none)
    (q : ∀ (b : Addr), H b = none → Q (.ref b) (upd H b (.lst [v]))) : wpAny (model X.prog X.w) X.A (call (.builtin "sorted") us) (EP X pins σ Q) X.xe s := by
  obtain ⟨its, rv, hl, hz⟩ := I.list hs
  rw [Vals.ref1 rr]
  cases rv with
  | cons r1 r2 =>
  rename_i u _
  cases r2
  obtain ⟨as, rd⟩ := Dp.reads I _ _ _ (Rp.dp 50 _ _ hd (hH _ _ hp)) r1
  have hdp : X.A.units + 2 + p.py.depth < cLine := by have := hd.lay.2; omega
  have rd' : Reads (PySem.W.sortingHeap (PySem.W.copyHeap s.heap [u]) (s.heap.objs.size + 1) [u]) u p.py as := PyProof.Rows.Reads.keeps (fun _ _ => PySem.W.sorting_copy_old) rd
  refine PySem.W.sorted_vals hl.isList (sortsAt_one (s := { s with heap := PySem.W.sortingHeap (PySem.W.copyHeap s.heap [u]) (s.heap.objs.size + 1) [u] }) rd' hal hn hdp) (Nat.le_trans (Nat.le_refl 1) (by decide)) ?_
  have es : PySem.W.sortVals (PySem.W.dataKind (PySem.W.sortingHeap (PySem.W.copyHeap s.heap [u]) (s.heap.objs.size + 1) [u]) [p.py]) false [u] [u] = [u] := by
    unfold PySem.W.sortVals
    simp
  rw [es]
  obtain ⟨ep, he'⟩ := PyProof.Rows.sortedAll_at s.heap [u] (List.toArray [u])
  exact ⟨.ref _, upd H (s.heap.objs.size + 1) (.lst [v]), I.laid (t' := s.toks) (fun _ _ => PyProof.Rows.sortedAll_old) (Nat.le_succ _) ⟨Nat.le_trans (Nat.le_refl 1) (by decide), [u], ep, .cons r1 .nil, he'⟩, rfl, q _ (I.hok.fresh (Nat.le_succ _))⟩
def rSortedX (K : PySem.W.Frag) : List V → Hp → VK → Prop := fun vs H Q => rSortedP K vs H Q ∨ ∃ (a : Addr) (v : V) (p : P) (Hk : Hp), vs = [V.ref a] ∧ SqL K H a [v] ∧ (∀ v x, Rp K Hk v x → Rp K H v x) ∧ Rp K Hk v p ∧ Dat 50 p ∧ PySem.W.alike p.py p.py = true ∧ p.py ≠ .none ∧ ∀ (b : Addr), H b = none → Q (.ref b) (upd H b (.lst [v]))
theorem cr_sortedX {X : Cx} (hu : X.A.units + 65 < cLine) : CallR X (.builtin "sorted") (rSortedX X.K) := by
  intro pins s σ H vs us Q I r h
  rcases h with h | ⟨a, v, p, Hk, rfl, h1, h2, h3, h4, h5, h6, h7⟩
  · exact cr_sortedP hu pins s σ H vs us Q I r h
  · exact cr_sorted1 hu I r h1 h2 h3 h4 h5 h6 h7
def aSortedX : A1 := fun a S Post => ∃ ps, (lsAt S a ps ∨ a = .p (.fz ps)) ∧ (∀ x ∈ ps, Dat 50 x) ∧ PySem.W.AllAlike (ps.map P.py) ∧ (PySem.W.Sortable (ps.map P.py) ∨ ∃ x, ps = [x] ∧ x.py ≠ .none) ∧ Post (.p (.lst (ps.mergeSort (PySem.W.dataLe false P.py)))) S
theorem je_sortedX {X : Cx} {e : Expr} {te : AE} {p pos : Pos} (hu : X.A.units + 65 < cLine) (hg : Gl X "sorted") (hm : X.mg "sorted" = none) (he : JE X e te) (h1 : starEach [e] X.env = (false, eval e X.env) :: starEach [] X.env := by rfl) (hpl : (backTo pos (starEach [] X.env)).any (·.1) = false := by rfl) : JE X (.Call (.Name "sorted" p) [e] [] pos) (aCall (a1 aSortedX) (aCons te aNil)) :=
  je_callB (cr_sortedX hu) (lift_1 ⟨fun c x a Post Q ra h q => by
    obtain ⟨ps, la, h1, h2, h3, h4⟩ := h
    have hs : ∃ b vs, x = .ref b ∧ SqL X.K c.H b vs ∧ RpL X.K c.Hk vs ps ∧ ps.length ≤ sizeLine := by
      rcases la with la | rfl
      · obtain ⟨b, vs, e1, e2, l, z⟩ := c.ls ra la
        exact ⟨b, vs, e1, SqL.of e2, l, z⟩
      · obtain ⟨b, vs, e1, s, l, z⟩ := c.se (ps := ps) ra rfl
        rcases s with s | s
        · exact ⟨b, vs, e1, s, l, z⟩
        · cases s.2
    obtain ⟨b, vs, rfl, s, l, z⟩ := hs
    have fin : ∀ (ys : List V) (p2 : Addr), RpL X.K c.Hk ys (ps.mergeSort (PySem.W.dataLe false P.py)) → c.H p2 = none → Q (.ref p2) (upd c.H p2 (.lst ys)) := fun ys p2 ly hp => by
      obtain ⟨f, eh, es, lf, rf⟩ := c.newLst hp ly (by rw [List.length_mergeSort]; exact z)
      rw [← eh]
      exact q f _ _ lf rf (by rw [es]; exact h4)
    rcases h3 with h3 | ⟨x0, rfl, hn⟩
    · exact .inl ⟨b, vs, ps, c.Hk, rfl, s, fun v x r => Rp.mono c.ok.ex _ _ r, l, h1, h2, h3, fin⟩
    · cases l with
      | cons l1 l2 =>
        cases l2
        exact .inr ⟨b, _, x0, c.Hk, rfl, s, fun v x r => Rp.mono c.ok.ex _ _ r, l1, h1 _ (by simp), h2 _ (by simp) _ (by simp), hn, fun p2 hp => fin _ p2 (by simpa using .cons l1 .nil) hp⟩⟩) hg hm (by decide +kernel) (ja_cons he ja_nil h1) (he := h1) (hpl := hpl)
end Am
/-! Am: sorted(d), d of tuple keys. -/
namespace Am
open PySem PySem.Spec L2
/-- the items with what they stand for -/
theorem sort_items {X : Cx} {pins : List (Addr × Obj)} {s : Shared} {σ : St} {H Hk : Hp} (I : Inv X pins σ H s) (hH : ∀ v x, Rp X.K Hk v x → Rp X.K H v x) : ∀ (vs : List V) (us : List Value) (ps : List P), Vals vs us → RpL X.K Hk vs ps → (∀ x ∈ ps, Dat 50 x) →
    ∃ bs : List (V × P), bs.map (·.2) = ps ∧ PySem.W.EachIs (fun (u : Value) (b : V × P) => RelV b.1 u ∧ Rp X.K Hk b.1 b.2) us bs ∧ PySem.W.EachIs (fun (u : Value) (b : V × P) => ∃ as, Reads s.heap u b.2.py as) us bs := by
  intro vs
  induction vs with
  | nil =>
    intro us ps r h hd
    cases r
    cases h
    exact ⟨[], rfl, .nil, .nil⟩
  | cons v vs ih =>
    intro us ps r h hd
    cases r with
    | cons r1 r2 =>
      cases h with
      | cons h1 h2 =>
        obtain ⟨bs, e1, e2, e3⟩ := ih _ _ r2 h2 fun x hx => hd x (List.mem_cons_of_mem _ hx)
        refine ⟨(v, _) :: bs, by rw [List.map_cons, e1], .cons ⟨r1, h1⟩ e2, .cons (Dp.reads I _ _ _ (Rp.dp 50 _ _ (hd _ (by simp)) (hH _ _ h1)) r1) e3⟩
theorem unsort_items {X : Cx} {Hk : Hp} {us : List Value} {bs : List (V × P)} (h : PySem.W.EachIs (fun (u : Value) (b : V × P) => RelV b.1 u ∧ Rp X.K Hk b.1 b.2) us bs) : Vals (bs.map (·.1)) us ∧ RpL X.K Hk (bs.map (·.1)) (bs.map (·.2)) := by
  induction h with
  | nil => exact ⟨.nil, .nil⟩
  | cons h1 h2 ih => exact ⟨.cons h1.1 ih.1, .cons h1.2 ih.2⟩
/-- data that can be sorted -/
def CanSort (ps : List P) : Prop := (∀ x ∈ ps, Dat 50 x) ∧ PySem.W.AllAlike (ps.map P.py) ∧ (PySem.W.Sortable (ps.map P.py) ∨ ∃ x, ps = [x] ∧ x.py ≠ .none)
theorem canSort_at {prog : Program} {w : World} {A : Around} {s : Shared} {us : List Value} {bs : List (V × P)} (e : PySem.W.EachIs (fun (u : Value) (b : V × P) => ∃ as, Reads s.heap u b.2.py as) us bs) (h : CanSort (bs.map (·.2))) (hu : A.units + 63 < cLine) :
    PySem.W.SortsAt prog w A s (PySem.W.dataKind s.heap (bs.map fun b => b.2.py)) us := by
  obtain ⟨hd, hal, hk⟩ := h
  have em : bs.map (fun b => b.2.py) = (bs.map (·.2)).map P.py := by rw [List.map_map]; rfl
  have e2 := PySem.W.each_map (R := fun v d => ∃ as, Reads s.heap v d as) (fun b : V × P => b.2.py) e
  rcases hk with hk | ⟨x, hx, hn⟩
  · refine PySem.W.SortsAt.data e2 (by rw [em]; exact hal) (by rw [em]; exact hk) fun d hd' => ?_
    obtain ⟨b, hb, rfl⟩ := List.mem_map.mp hd'
    have := (hd b.2 (List.mem_map.mpr ⟨b, hb, rfl⟩)).lay.2
    omega
  · cases bs with
    | nil => cases hx
    | cons b r =>
      cases r with
      | cons _ _ => cases hx
      | nil =>
        cases e with
        | cons h1 h2 =>
          cases h2
          obtain ⟨as, rd⟩ := h1
          have hb : b.2 = x := by injection hx
          have := (hd b.2 (by simp)).lay.2
          refine sortsAt_one (d := b.2.py) rd ?_ (by rw [hb]; exact hn) (by omega)
          exact hal _ (by simp) _ (by simp)
def rSortedT (K : PySem.W.Frag) : List V → Hp → VK → Prop := fun vs H Q => ∃ d kvs, vs = [V.ref d] ∧ Rd H d (.dT kvs) ∧ ∀ bs, IsKeys H kvs bs → ∃ (ps : List P) (Hk : Hp), (∀ v x, Rp K Hk v x → Rp K H v x) ∧ RpL K Hk (bs.map V.ref) ps ∧ CanSort ps ∧
  ∀ (ys : List V) (p : Addr), RpL K Hk ys (ps.mergeSort (PySem.W.dataLe false P.py)) → H p = none → Q (.ref p) (upd H p (.lst ys))
theorem cr_sortedT {X : Cx} (hu : X.A.units + 65 < cLine) (hc : X.calm = true) : CallR X (.builtin "sorted") (rSortedT X.K) := by
  intro pins s σ H xs us Q I r h
  obtain ⟨d, kvs, rfl, hd, q⟩ := h
  obtain ⟨u, rfl, rx⟩ := r.one
  cases rx
  obtain ⟨z, hs, ks, pr, o, es, ep, ho, hx, hdt, he, hn⟩ := (show ObjOk X.prog X.w H s.heap d (.dT kvs) from hd.ok I.hok)
  have l1 : es.size = ks.length := size_of_entries he
  have l2 : kvs.length = ks.length := Paired.length pr
  refine PySem.Calls.call_function_entry PyProof.Rows.kind_sorted PyProof.Rows.plain_sorted PyProof.Rows.entry_sorted (PyProof.Rows.args_sorted1 _) ?_
  unfold Builtin.«sorted»
  refine wpAny_bind (m := checkCount "sorted" 1 1 _) (wpAny_pure ?_)
  refine wpAny_bind (PySem.W.kdu_collect (kdl_raw hs hx hdt) (show (X.A.in1).handled = none from I.ok.hd hc) ho (by omega) fun h' tk acc' kp it => ?_)
  have ea : acc'.toList = ks.map fun x => Value.ref x.2.1 := by
    have hl : acc'.toList.length = ks.length := by rw [Array.length_toList, it.1]; exact l1
    apply List.ext_getElem?
    intro j
    rw [List.getElem?_map]
    cases hj : acc'.toList[j]? with
    | none =>
      have h1 := List.getElem?_eq_none_iff.mp hj
      rw [List.getElem?_eq_none (by omega)]
      all_goals rfl
    | some v =>
      obtain ⟨en, hen, hv⟩ := it.2 j v (by rw [← Array.getElem?_toList]; exact hj)
      have qe := entry_at he j
      rw [hen] at qe
      cases hb : ks[j]? with
      | none =>
        rw [hb] at qe
        exact nomatch (show some en = none from qe)
      | some b =>
        rw [hb] at qe
        have e2 : en = entryOfKey (tupleKind (mixKind X.prog X.w)) b := Option.some.inj qe
        rw [hv, e2]
        all_goals rfl
  have eb : acc'.toList = (ks.map fun x => x.2.1).map Value.ref := by rw [ea, List.map_map]; all_goals rfl
  have rv : Vals ((ks.map fun x => x.2.1).map V.ref) acc'.toList := by rw [eb]; exact vals_refs _
  have hz : acc'.toList.length ≤ sizeLine := by rw [Array.length_toList, it.1]; omega
  obtain ⟨ps, Hk, hH, hp, hcs, q⟩ := q _ (isKeys_of pr)
  have J : Inv X pins σ H { s with heap := h', toks := tk } := I.kept kp
  obtain ⟨bs, e1, e2, e3⟩ := sort_items J hH _ _ _ rv hp hcs.1
  have hlen := e2.length
  generalize hvs : acc'.toList = vs at *
  refine wpAny_bind (wpAny_newList ?_ hz)
  have hD : (h'.push (PyProof.Rows.seqObj "list" vs.toArray 0)).get? h'.objs.size = some (PyProof.Rows.seqObj "list" vs.toArray 0) := Heap.get?_push_size _ rfl
  have old : ∀ b o, h'.get? b = some o → (PySem.W.sortingHeap (h'.push (PyProof.Rows.seqObj "list" vs.toArray 0)) h'.objs.size vs).get? b = some o := fun b o e => PySem.W.sortingHeap_old (Nat.ne_of_lt (Heap.lt_size e)) (Heap.get?_push_of_some _ e)
  have e3' : PySem.W.EachIs (fun (u : Value) (b : V × P) => ∃ as, Reads (PySem.W.sortingHeap (h'.push (PyProof.Rows.seqObj "list" vs.toArray 0)) h'.objs.size vs) u b.2.py as) vs bs := e3.mono fun u b ⟨as, r⟩ => ⟨as, PyProof.Rows.Reads.keeps old r⟩
  have hS : PySem.W.SortsAt X.prog X.w X.A.in1.in1 { s with heap := PySem.W.sortingHeap (h'.push (PyProof.Rows.seqObj "list" vs.toArray 0)) h'.objs.size vs, toks := tk } (PySem.W.dataKind (PySem.W.sortingHeap (h'.push (PyProof.Rows.seqObj "list" vs.toArray 0)) h'.objs.size vs) (bs.map fun b => b.2.py)) vs :=
    canSort_at (s := { s with heap := PySem.W.sortingHeap (h'.push (PyProof.Rows.seqObj "list" vs.toArray 0)) h'.objs.size vs, toks := tk }) e3' (by rw [e1]; exact hcs) (by show X.A.units + 1 + 1 + 63 < cLine; omega)
  refine wpAny_bind (wpAny_holding (PyProof.Rows.wpAny_call_entry_kw PyProof.Rows.slot_list_sort ⟨_, hD, rfl⟩ PyProof.Rows.entry_list_sort ?body (PyProof.Rows.args_list_sort _)))
  case body =>
    refine PySem.W.list_sort_vals (s := { s with heap := h'.push (PyProof.Rows.seqObj "list" vs.toArray 0), toks := tk }) hD hS hz ?_
    have hem : PySem.W.AllAlike (bs.map fun b => b.2.py) := by
      have : bs.map (fun b => b.2.py) = (bs.map (·.2)).map P.py := by rw [List.map_map]; rfl
      rw [this, e1]; exact hcs.2.1
    have ho2 := PySem.W.sortVals_data (enc := fun b : V × P => b.2.py) false e2 e3' hem
    obtain ⟨u1, u2⟩ := unsort_items ho2
    have es2 : (bs.mergeSort (PySem.W.dataLe false fun b => b.2.py)).map (·.2) = ps.mergeSort (PySem.W.dataLe false P.py) := by
      rw [← e1]
      exact List.map_mergeSort fun a _ b _ => rfl
    rw [es2] at u2
    generalize hout : PySem.W.sortVals (PySem.W.dataKind (PySem.W.sortingHeap (h'.push (PyProof.Rows.seqObj "list" vs.toArray 0)) h'.objs.size vs) (bs.map fun b => b.2.py)) false vs vs = out at *
    obtain ⟨ep2, he'⟩ := PyProof.Rows.sortedHeap_at (n := 0) (out := out.toArray) hD
    refine ⟨_, rfl, wpAny_pure ⟨_, rfl, .ref h'.objs.size, upd H h'.objs.size (.lst _), J.laid (t' := tk) (fun b o e => ?_) (Nat.le_refl _) ⟨?_, out, ep2, u1, he'⟩, rfl, q _ _ u2 (J.hok.fresh (Nat.le_refl _))⟩⟩
    · have hlt := Heap.lt_size e
      rw [PyProof.Rows.sortedHeap_old (Nat.ne_of_lt hlt) (by have := Heap.lt_size (Heap.get?_push_of_some (PyProof.Rows.seqObj "list" vs.toArray 0) e); exact this)]
      exact Heap.get?_push_of_some _ e
    · rw [List.length_map, List.length_mergeSort, ← hlen]
      exact hz
/-- sorted(d), d owned, of tuple keys -/
def aSortedT : A1 := fun a S Post => match a with
  | .own n => (match S[n]? with
    | some (.dt kvs) => (∀ kv ∈ kvs, kv.1.length ≤ 1000) ∧ CanSort (kvs.map fun kv => .tup (kv.1.map unK)) ∧ Post (.p (.lst ((kvs.map fun kv => P.tup (kv.1.map unK)).mergeSort (PySem.W.dataLe false P.py)))) S
    | _ => False)
  | _ => False
theorem je_sortedT {X : Cx} {e : Expr} {te : AE} {p pos : Pos} (hu : X.A.units + 65 < cLine) (hc : X.calm = true) (hg : Gl X "sorted") (hm : X.mg "sorted" = none) (he : JE X e te) (h1 : starEach [e] X.env = (false, eval e X.env) :: starEach [] X.env := by rfl) (hpl : (backTo pos (starEach [] X.env)).any (·.1) = false := by rfl) : JE X (.Call (.Name "sorted" p) [e] [] pos) (aCall (a1 aSortedT) (aCons te aNil)) :=
  je_callB (cr_sortedT hu hc) (lift_1 ⟨fun c x a Post Q ra h q => by
    unfold aSortedT at h
    split at h
    · rename_i n
      split at h
      · rename_i kvs e0
        obtain ⟨b, vs, rfl, g0, g1, l, z⟩ := c.dt_own ra e0
        refine ⟨b, vs, rfl, .inl g1, fun bs hb => ?_⟩
        have hk := l.keys (fun k : List Key => P.tup (k.map unK))
        have hk2 := l.keys (fun k : List Key => k.length)
        have hz : ∀ kv ∈ vs, kv.1.length ≤ 1000 := fun kv hkv => by
          have : kv.1.length ∈ vs.map fun kv => kv.1.length := List.mem_map.mpr ⟨kv, hkv, rfl⟩
          rw [hk2] at this
          obtain ⟨y, hy, e⟩ := List.mem_map.mp this
          rw [← e]; exact h.1 y hy
        obtain ⟨f, f1, f2, f3, lf, rl⟩ := Cf.knowL vs bs c hb hz
        rw [hk] at rl
        refine ⟨_, f.Hk, fun v x r => by rw [← f1]; exact Rp.mono f.ok.ex _ _ r, rl, h.2.1, fun ys p2 ly hp => ?_⟩
        rw [← f1] at hp ⊢
        obtain ⟨e2, eh, es, le2, re2⟩ := f.newLst hp ly (by rw [List.length_mergeSort, List.length_map]; exact z)
        rw [← eh]
        exact q e2 _ _ (lf.trans le2) re2 (by rw [es, f2]; exact h.2.2)
      · exact h.elim
    · exact h.elim⟩) hg hm (by decide +kernel) (ja_cons he ja_nil h1) (he := h1) (hpl := hpl)
end Am
/-! Am: d == {}, d != {}, d of tuple keys. -/
namespace Am
open PySem PySem.Spec L2
theorem samePairs_e {prog : Program} {w : World} {A : Around} {E : Value → Shared → Prop} {s : Shared} {nm : String} {a b : Addr} {oa ob : Obj} {es : Array DictEntry} {ep ep' : Nat} {Q : Bool → Shared → Prop} (ha : (a == sysModules) = false) (hb : (b == sysModules) = false)
    (hoa : s.heap.get? a = some oa) (hda : oa.data = .dict es ep) (hob : s.heap.get? b = some ob) (hdb : ob.data = .dict #[] ep') (h : Q (es.size == 0) s) :
    wpAny (model prog w) A (Builtin.Dict.samePairs nm a b) Q E s := by
  unfold Builtin.Dict.samePairs Builtin.Dict.showsAll
  rw [if_neg (show ¬ (a == sysModules) = true by rw [ha]; exact Bool.false_ne_true), if_neg (show ¬ (b == sysModules) = true by rw [hb]; exact Bool.false_ne_true)]
  refine wpAny_bind (wpAny_pure (wpAny_bind (wpAny_pure ?_)))
  refine wpAny_bind (wpAny_dictEntries hoa hda ?_)
  dsimp only
  refine wpAny_bind (wpAny_dictEntries hob hdb ?_)
  by_cases hsz : es.size = 0
  case neg =>
    rw [if_pos (by simpa using hsz)]
    have hbf : (es.size == 0) = false := by simpa using hsz
    rw [hbf] at h
    exact wpAny_bind (wpAny_rule (wpAny_pure h))
  case pos =>
    have h' : Q true s := by rw [hsz] at h; exact h
    rw [if_neg (by rw [hsz]; simp)]
    refine wpAny_bind (wpAny_dictEpoch hoa hda ?_)
    refine wpAny_bind ?_
    rw [Std.Legacy.Range.forIn_eq_forIn_range']
    rw [hsz]
    exact wpAny_pure (wpAny_pure h')
section
variable {prog : Program} {w : World} {A : Around} {E : Value → Shared → Prop} {s : Shared} {a b : Addr} {oa ob : Obj} {es : Array DictEntry} {ep ep' : Nat} {Q : Value → Shared → Prop}
theorem eq_e (ha : (a == sysModules) = false) (hb : (b == sysModules) = false) (xa : oa.ExactDict) (xb : ob.ExactDict) (hoa : s.heap.get? a = some oa) (hda : oa.data = .dict es ep) (hob : s.heap.get? b = some ob) (hdb : ob.data = .dict #[] ep') (hu : A.units < cLine) (h : Q (.bool (es.size == 0)) s) :
    wpAny (model prog w) A (compareOp .Eq (.ref a) (.ref b)) Q E s := by
  refine wpAny_richCompare_same_room (op := .Eq) ⟨oa, hoa, xa.1⟩ ⟨ob, hob, xb.1⟩ PySem.F.slot_dict_eq (wpAny_call_entry PySem.F.slot_dict_eq ⟨oa, hoa, xa.1⟩ PySem.F.entry_dict_eq ?_ (PySem.F.args_dict_eq_2 _ _)) hu
  show wpAny _ _ (Builtin.Dict.dictSlotArgs "__eq__" ⟨[.ref a, .ref b], []⟩ >>= _) _ _ s
  refine wpAny_bind ?_
  unfold Builtin.Dict.dictSlotArgs
  refine wpAny_bind (wpAny_notOrdered_dict ⟨oa, hoa, xa.1⟩ ?_)
  show wpAny _ _ (pure (Value.ref a, Value.ref b)) _ _ s
  refine wpAny_pure ?_
  refine wpAny_bind (wpAny_isInstance (T := "dict") ⟨ob, hob, xb.1⟩ PySem.F.sub_dict_dict ?_)
  simp only [Bool.not_true, Bool.false_eq_true, if_false]
  refine wpAny_bind (wpAny_pure (wpAny_bind (wpAny_pure ?_)))
  refine wpAny_bind (samePairs_e ha hb hoa hda hob hdb ?_)
  refine wpAny_pure ⟨_, rfl, ?_, ?_⟩
  · exact fun x => nomatch x
  · simpa using h
theorem ne_e (ha : (a == sysModules) = false) (hb : (b == sysModules) = false) (xa : oa.ExactDict) (xb : ob.ExactDict) (hoa : s.heap.get? a = some oa) (hda : oa.data = .dict es ep) (hob : s.heap.get? b = some ob) (hdb : ob.data = .dict #[] ep') (hu : A.units < cLine) (h : Q (.bool (!(es.size == 0))) s) :
    wpAny (model prog w) A (compareOp .NotEq (.ref a) (.ref b)) Q E s := by
  refine wpAny_richCompare_same_room (op := .NotEq) ⟨oa, hoa, xa.1⟩ ⟨ob, hob, xb.1⟩ PySem.F.slot_dict_ne (wpAny_call_entry PySem.F.slot_dict_ne ⟨oa, hoa, xa.1⟩ PySem.F.entry_dict_ne ?_ (PySem.F.args_dict_ne_2 _ _)) hu
  show wpAny _ _ (Builtin.Dict.dictSlotArgs "__ne__" ⟨[.ref a, .ref b], []⟩ >>= _) _ _ s
  refine wpAny_bind ?_
  unfold Builtin.Dict.dictSlotArgs
  refine wpAny_bind (wpAny_notOrdered_dict ⟨oa, hoa, xa.1⟩ ?_)
  show wpAny _ _ (pure (Value.ref a, Value.ref b)) _ _ s
  refine wpAny_pure ?_
  refine wpAny_bind (wpAny_isInstance (T := "dict") ⟨ob, hob, xb.1⟩ PySem.F.sub_dict_dict ?_)
  simp only [Bool.not_true, Bool.false_eq_true, if_false]
  refine wpAny_bind (wpAny_pure (wpAny_bind (wpAny_pure ?_)))
  refine wpAny_bind (samePairs_e ha hb hoa hda hob hdb ?_)
  refine wpAny_pure ⟨_, rfl, ?_, ?_⟩
  · exact fun x => nomatch x
  · simpa using h
end
/-- d == {}, d != {}: tuple keys -/
def rEqET (neg : Bool) : R2 := fun x y H Q => ∃ a b ks, x = .ref a ∧ y = .ref b ∧ Rd H a (.dT ks) ∧ Rd H b (.dT []) ∧ Q (.bl (xor neg ks.isEmpty)) H
theorem raw_of {P : Program} {w : World} {H : Hp} {h : Heap} {a : Addr} {ks : List (List Key × V)} (o : ObjOk P w H h a (.dT ks)) : ∃ ob es ep, (a == sysModules) = false ∧ ob.ExactDict ∧ h.get? a = some ob ∧ ob.data = .dict es ep ∧ es.size = ks.length := by
  obtain ⟨z, hs, xs, pr, ob, es, ep, ho, hx, hdt, he, hn⟩ := o
  have l1 : es.size = xs.length := size_of_entries he
  have l2 : ks.length = xs.length := Paired.length pr
  exact ⟨ob, es, ep, hs, hx, ho, hdt, by omega⟩
theorem op_eqET {X : Cx} (hu : X.A.units < cLine) : OpR X (compareOp .Eq) (rEqET false) := by
  intro pp t τ G x y v u Q J rx ry h
  obtain ⟨a, b, ks, rfl, rfl, ea, eb, q⟩ := h
  obtain rfl : v = Value.ref a := rx
  obtain rfl : u = Value.ref b := ry
  obtain ⟨oa, es, ep, ha, xa, hoa, hda, sz⟩ := raw_of (ea.ok J.hok)
  obtain ⟨ob, es', ep', hb, xb, hob, hdb, sz'⟩ := raw_of (eb.ok J.hok)
  have : es' = #[] := Array.eq_empty_of_size_eq_zero (by rw [sz']; rfl)
  subst this
  refine eq_e ha hb xa xb hoa hda hob hdb hu (fin_bl J q ?_)
  rw [sz]
  cases ks <;> rfl
theorem op_neET {X : Cx} (hu : X.A.units < cLine) : OpR X (compareOp .NotEq) (rEqET true) := by
  intro pp t τ G x y v u Q J rx ry h
  obtain ⟨a, b, ks, rfl, rfl, ea, eb, q⟩ := h
  obtain rfl : v = Value.ref a := rx
  obtain rfl : u = Value.ref b := ry
  obtain ⟨oa, es, ep, ha, xa, hoa, hda, sz⟩ := raw_of (ea.ok J.hok)
  obtain ⟨ob, es', ep', hb, xb, hob, hdb, sz'⟩ := raw_of (eb.ok J.hok)
  have : es' = #[] := Array.eq_empty_of_size_eq_zero (by rw [sz']; rfl)
  subst this
  refine ne_e ha hb xa xb hoa hda hob hdb hu (fin_bl J q ?_)
  rw [sz]
  cases ks <;> rfl
/-- both owned -/
def aEqET (neg : Bool) : A2 := fun a b S Post => match a, b with
  | .own n, .own m => (match S[n]?, S[m]? with
    | some (.dt kvs), some (.dt []) => Post (.p (.bl (xor neg kvs.isEmpty))) S
    | _, _ => False)
  | _, _ => False
section
variable {X : Cx} {a b : Expr} {ta tb : AE} {pos : Pos}
theorem lift_eqET {neg : Bool} : Lift2 X.K (rEqET neg) (aEqET neg) := by
  refine ⟨fun c x y a b Post Q ra rb h q => ?_⟩
  unfold aEqET at h
  split at h
  · rename_i n m
    split at h
    · rename_i kvs e1 e2
      obtain ⟨p1, vs, rfl, _, g1, l1, _⟩ := c.dt_own ra e1
      obtain ⟨p2, ws, rfl, _, g2, l2, _⟩ := c.dt_own rb e2
      cases l2
      refine ⟨p1, p2, vs, rfl, rfl, .inl g1, .inl g2, ?_⟩
      have e : vs.isEmpty = kvs.isEmpty := by cases l1 <;> rfl
      rw [e]
      exact q c _ _ (.refl c) (reB c _) h
    · exact h.elim
  · exact h.elim
theorem je_eqET (hu : X.A.units + 65 < cLine) (ha : JE X a ta) (hb : JE X b tb) : JE X (.Compare a [.Eq] [b] pos) (aOp (aEqET false) ta tb) := je_cmp (op_eqET (by omega)) lift_eqET ha hb (nomark _)
theorem je_neET (hu : X.A.units + 65 < cLine) (ha : JE X a ta) (hb : JE X b tb) : JE X (.Compare a [.NotEq] [b] pos) (aOp (aEqET true) ta tb) := je_cmp (op_neET (by omega)) lift_eqET ha hb (nomark _)
theorem jt_eqET (hu : X.A.units + 65 < cLine) (ha : JE X a ta) (hb : JE X b tb) : JT X (.Compare a [.Eq] [b] pos) (aTest (aOp (aEqET false) ta tb)) := jt_cmp (op_eqET (by omega)) lift_eqET ha hb (nomark _)
theorem jt_neET (hu : X.A.units + 65 < cLine) (ha : JE X a ta) (hb : JE X b tb) : JT X (.Compare a [.NotEq] [b] pos) (aTest (aOp (aEqET true) ta tb)) := jt_cmp (op_neET (by omega)) lift_eqET ha hb (nomark _)
end
end Am
/-! Am: list comprehensions of two clauses. -/
namespace Am
open PySem L2
/-- the inner turns -/
def lc2In (keep : List O → Prop) (g : AG) (t : AT) (e : AE) (L : Ls) (N : List D → List O → Prop) : List D → List D → List O → Prop
  | [], acc, S => keep S ∧ N acc S
  | x :: xs, acc, S => keep S ∧ g x L S fun L1 S1 => t L1 S1 fun b S2 => if b = true then e L1 S2 fun y S3 => acc.length < sizeLine ∧ lc2In keep g t e L N xs (acc ++ [y]) S3 else lc2In keep g t e L N xs acc S2
theorem lc2In_keep {keep : List O → Prop} {g : AG} {t : AT} {e : AE} {L : Ls} {N : List D → List O → Prop} {acc : List D} {S : List O} : ∀ {xs : List D}, lc2In keep g t e L N xs acc S → keep S
  | [], h => h.1
  | _ :: _, h => h.1
def lc2Run (keep : List O → Prop) (g : AG) (t : AT) (ti1 : AI) (g1 : AG) (t1 : AT) (e : AE) (vs1 : List Nat) (L : Ls) (Post : List D → List O → Prop) : List D → List D → List O → Prop
  | [], acc, S => keep S ∧ Post acc S
  | x :: xs, acc, S => keep S ∧ g x L S fun L1 S1 => t L1 S1 fun b S2 => if b = true then ti1 L1 S2 fun items1 keep1 S3 => lc2In keep1 g1 t1 e (wipeL L1 vs1) (lc2Run keep g t ti1 g1 t1 e vs1 L Post xs) items1 acc S3 else lc2Run keep g t ti1 g1 t1 e vs1 L Post xs acc S2
theorem lc2Run_keep {keep : List O → Prop} {g : AG} {t : AT} {ti1 : AI} {g1 : AG} {t1 : AT} {e : AE} {vs1 : List Nat} {L : Ls} {Post : List D → List O → Prop} {acc : List D} {S : List O} : ∀ {xs : List D}, lc2Run keep g t ti1 g1 t1 e vs1 L Post xs acc S → keep S
  | [], h => h.1
  | _ :: _, h => h.1
def aLc2 (ti : AI) (g : AG) (t : AT) (ti1 : AI) (g1 : AG) (t1 : AT) (e : AE) (vs vs1 : List Nat) : AE := fun L S Post => ti L S fun items keep S1 => lc2Run keep g t ti1 g1 t1 e vs1 (wipeL L vs) (fun acc S2 => ∃ xs : List P, acc = xs.map .p ∧ Post (.p (.lst xs)) S2) items [] S1
section
variable {K : PySem.W.Frag}
/-- through any step a foreign list stays -/
theorem Cf.Le.stay {f f' : Cf K} {D : Addr} {ys : List V} (l : f.Le f') (n1 : D ∉ f.η) (n2 : f.Hk D = none) (n3 : f.H D = some (.lst ys)) : D ∉ f'.η ∧ f'.Hk D = none ∧ f'.H D = some (.lst ys) := by
  refine ⟨fun z => ?_, ?_, l.fr D _ n3 n1⟩
  · rcases l.newE D z with z | z
    · exact n1 z
    · rw [n3] at z; cases z
  · cases z : f'.Hk D with
    | none => rfl
    | some o =>
      rcases l.newK D (by rw [z]; simp) with y | y | y | ⟨_, y⟩
      · exact absurd y n1
      · exact absurd n2 y
      · rw [n3] at y; cases y
      · rw [n3] at y; cases y
/-- a foreign list grows -/
theorem Cf.Le.grow {d f : Cf K} (l : d.Le f) {D : Addr} {u : HO} (hD : d.H D = none) (n : D ∉ f.η) (k : f.Hk D = none) : d.Le (f.with D u n k) := by
  refine ⟨l.ex, l.pre, fun b o e hb => ?_, l.newE, l.newK, fun b hb => ?_⟩
  · show upd f.H D _ b = _
    rw [upd_ne (ne_of_none e hD)]
    exact l.fr b o e hb
  · show upd f.H D _ b ≠ none
    by_cases e : b = D
    · subst e; rw [upd_same]; simp
    · rw [upd_ne e]; exact l.kept b hb
theorem lift_lc2 {wi wi1 : TI} {tg tg1 : TG} {tt tt1 : TT} {te : TE} {ti ti1 : AI} {g g1 : AG} {t t1 : AT} {e : AE} {vs vs1 : List Nat} (l1 : LiftI K wi ti)
    (l2 : ∀ (c : Cf K) (L : Ls) (σ : St) (v : V) (a : Am.D) (Post : Ls → List O → Prop) (Q : St → Hp → Prop), c.sl (wipe σ vs) L → c.re v a → g a L c.S Post →
      (∀ (d : Cf K) σ' L', c.Le d → d.sl σ' L' → wipe σ' vs = wipe σ vs → Post L' d.S → Q σ' d.H) → tg v (wipe σ vs) c.H Q) (l3 : LiftT K tt t) (li1 : LiftI K wi1 ti1)
    (l21 : ∀ (c : Cf K) (L : Ls) (σ : St) (v : V) (a : Am.D) (Post : Ls → List O → Prop) (Q : St → Hp → Prop), c.sl (wipe σ vs1) L → c.re v a → g1 a L c.S Post →
      (∀ (d : Cf K) σ' L', c.Le d → d.sl σ' L' → wipe σ' vs1 = wipe σ vs1 → Post L' d.S → Q σ' d.H) → tg1 v (wipe σ vs1) c.H Q) (l31 : LiftT K tt1 t1) (l4 : LiftE K te e)
    (c : Cf K) (L : Ls) (σ : St) (Post : List Am.D → List O → Prop) (Q : VK) (hs : c.sl σ L) (h : ti L c.S fun items keep S1 => lc2Run keep g t ti1 g1 t1 e vs1 (wipeL L vs) Post items [] S1)
    (q : ∀ (d : Cf K) (D : Addr) (xs : List V) (acc : List Am.D), c.Le d → D ∉ d.η → d.Hk D = none → c.H D = none → d.H D = some (.lst xs) → acc.length ≤ sizeLine → ReL K d.η d.Hk xs acc → Post acc d.S → Q (.ref D) d.H) : tLc2 wi tg tt wi1 tg1 tt1 te vs vs1 σ c.H Q := by
  refine l1.run c L σ _ _ hs h fun d J items keep le wk h => ?_
  intro D hD
  have dη := d.ok.not_mem hD
  have dk := d.ok.knone hD
  have cD : c.H D = none := by
    cases z : c.H D with
    | none => rfl
    | some o => exact absurd hD (le.kept D (by rw [z]; simp))
  refine ⟨fun i m H' => ∃ (d' : Cf K) (xs : List V) (acc : List Am.D), d'.H = H' ∧ m = items.length - i ∧ i ≤ items.length ∧ d.Le d' ∧ D ∉ d'.η ∧ d'.Hk D = none ∧ H' D = some (.lst xs) ∧ acc.length ≤ sizeLine ∧ ReL K d'.η d'.Hk xs acc ∧ lc2Run keep g t ti1 g1 t1 e vs1 (wipeL L vs) Post (items.drop i) acc d'.S,
    ⟨items.length, d.with D (.lst []) dη dk, [], [], rfl, by simp, Nat.zero_le _, Cf.Le.grow (.refl d) hD dη dk, dη, dk, upd_same, Nat.zero_le _, .nil, h⟩, ?_⟩
  rintro i m H' ⟨d', xs, acc, rfl, rfl, hi, le', nD, kD, hH, ha, rl, h'⟩
  have hk := lc2Run_keep h'
  by_cases hlt : i < items.length
  · rw [List.drop_eq_getElem_cons hlt] at h'
    obtain ⟨_, h'⟩ := h'
    refine .inr ⟨wk.go d' i le'.gr hk hlt, fun H2 => ∃ (d2 : Cf K) (xs : List V) (acc : List Am.D), d2.H = H2 ∧ d.Le d2 ∧ D ∉ d2.η ∧ d2.Hk D = none ∧ H2 D = some (.lst xs) ∧ acc.length ≤ sizeLine ∧ ReL K d2.η d2.Hk xs acc ∧ lc2Run keep g t ti1 g1 t1 e vs1 (wipeL L vs) Post (items.drop (i + 1)) acc d2.S,
      fun H2 ⟨d2, xs, acc, e, le2, n1, n2, n3, n4, n5, n6⟩ => ⟨items.length - (i + 1), by omega, d2, xs, acc, e, rfl, hlt, le2, n1, n2, n3, n4, n5, n6⟩, fun x H'' y => ?_⟩
    obtain ⟨d1, rfl, hS, le1, a, ea, ra⟩ := wk.yld d' i x H'' le'.gr hk hlt y
    have ea' : a = items[i] := by rw [List.getElem?_eq_getElem hlt] at ea; exact (Option.some.inj ea).symm
    subst ea'
    rw [← hS] at h'
    obtain ⟨n1, k1, hH1⟩ := le1.stay nD kD hH
    refine l2 d1 (wipeL L vs) σ x _ _ _ (((le.trans (le'.trans le1)).sl hs).wipe vs) ra h' fun d2 σ2 L2 le2 hs2 hw2 h2 => ?_
    obtain ⟨n2, k2, hH2⟩ := le2.stay n1 k1 hH1
    refine ⟨hw2, ?_⟩
    refine l3.run d2 L2 σ2 _ _ hs2 h2 fun d3 b le3 h3 => ?_
    obtain ⟨n3, k3, hH3⟩ := le3.stay n2 k2 hH2
    have le03 : d'.Le d3 := le1.trans (le2.trans le3)
    cases b with
    | true =>
      rw [if_pos rfl] at h3 ⊢
      refine li1.run d3 L2 σ2 _ _ (le3.sl hs2) h3 fun d4 J1 items1 keep1 le4 wk1 h4 => ?_
      obtain ⟨n4, k4, hH4⟩ := le4.stay n3 k3 hH3
      have le04 : d'.Le d4 := le03.trans le4
      refine ⟨fun j k H' => ∃ (d5 : Cf K) (xs : List V) (acc : List Am.D), d5.H = H' ∧ k = items1.length - j ∧ j ≤ items1.length ∧ d4.Gr d5 ∧ d.Le d5 ∧ D ∉ d5.η ∧ d5.Hk D = none ∧ H' D = some (.lst xs) ∧ acc.length ≤ sizeLine ∧ ReL K d5.η d5.Hk xs acc ∧ lc2In keep1 g1 t1 e (wipeL L2 vs1) (lc2Run keep g t ti1 g1 t1 e vs1 (wipeL L vs) Post (items.drop (i + 1))) (items1.drop j) acc d5.S,
        ⟨items1.length, d4, xs, acc, rfl, by simp, Nat.zero_le _, (Cf.Le.refl d4).gr, le'.trans le04, n4, k4, hH4, ha, le04.reL rl, h4⟩, ?_⟩
      rintro j k H' ⟨d5, xs, acc, rfl, rfl, hj, le5, le05, n5, k5, hH5, ha5, rl5, h5⟩
      have hk5 := lc2In_keep h5
      by_cases hlt1 : j < items1.length
      · rw [List.drop_eq_getElem_cons hlt1] at h5
        obtain ⟨_, h5⟩ := h5
        refine .inr ⟨wk1.go d5 j le5 hk5 hlt1, fun H2 => ∃ (d2 : Cf K) (xs : List V) (acc : List Am.D), d2.H = H2 ∧ d4.Gr d2 ∧ d.Le d2 ∧ D ∉ d2.η ∧ d2.Hk D = none ∧ H2 D = some (.lst xs) ∧ acc.length ≤ sizeLine ∧ ReL K d2.η d2.Hk xs acc ∧ lc2In keep1 g1 t1 e (wipeL L2 vs1) (lc2Run keep g t ti1 g1 t1 e vs1 (wipeL L vs) Post (items.drop (i + 1))) (items1.drop (j + 1)) acc d2.S,
          fun H2 ⟨d2, xs, acc, e, le2, le2', n1, n2, n3, n4, n5, n6⟩ => ⟨items1.length - (j + 1), by omega, d2, xs, acc, e, rfl, hlt1, le2, le2', n1, n2, n3, n4, n5, n6⟩, fun x1 H3 y1 => ?_⟩
        obtain ⟨d6, rfl, hS6, le6, a6, ea6, ra6⟩ := wk1.yld d5 j x1 H3 le5 hk5 hlt1 y1
        have ea6' : a6 = items1[j] := by rw [List.getElem?_eq_getElem hlt1] at ea6; exact (Option.some.inj ea6).symm
        subst ea6'
        rw [← hS6] at h5
        obtain ⟨n6, k6, hH6⟩ := le6.stay n5 k5 hH5
        refine l21 d6 (wipeL L2 vs1) σ2 x1 _ _ _ ((((le3.trans le4).gr.trans (le5.trans le6.gr)).sl hs2).wipe vs1) ra6 h5 fun d7 σ3 L3 le7 hs7 hw7 h7 => ?_
        obtain ⟨n7, k7, hH7⟩ := le7.stay n6 k6 hH6
        refine ⟨hw7, ?_⟩
        refine l31.run d7 L3 σ3 _ _ hs7 h7 fun d8 b8 le8 h8 => ?_
        obtain ⟨n8, k8, hH8⟩ := le8.stay n7 k7 hH7
        have le58 : d5.Le d8 := le6.trans (le7.trans le8)
        cases b8 with
        | true =>
          rw [if_pos rfl] at h8 ⊢
          refine l4.run d8 L3 σ3 _ _ (le8.sl hs7) h8 fun d9 v9 a9 le9 r9 h9 => ?_
          obtain ⟨n9, k9, hH9⟩ := le9.stay n8 k8 hH8
          obtain ⟨hz, h9⟩ := h9
          have le59 : d5.Le d9 := le58.trans le9
          refine ⟨xs, hH9, by rw [rl5.length]; exact hz, ?_⟩
          refine ⟨d9.with D (.lst (xs ++ [v9])) n9 k9, xs ++ [v9], acc ++ [a9], rfl, le5.trans le59.gr, Cf.Le.grow (le05.trans le59) hD n9 k9, n9, k9, upd_same, by simp; omega, (le59.reL rl5).append (.cons r9 .nil), h9⟩
        | false =>
          rw [if_neg Bool.false_ne_true] at h8 ⊢
          exact ⟨d8, xs, acc, rfl, le5.trans le58.gr, le05.trans le58, n8, k8, hH8, ha5, le58.reL rl5, h8⟩
      · have e0 : items1.drop j = [] := List.drop_eq_nil_of_le (by omega)
        rw [e0] at h5
        exact .inl ⟨wk1.stop d5 j le5 hk5 (by omega), d5, xs, acc, rfl, le05, n5, k5, hH5, ha5, rl5, h5.2⟩
    | false =>
      rw [if_neg Bool.false_ne_true] at h3 ⊢
      exact ⟨d3, xs, acc, rfl, le'.trans le03, n3, k3, hH3, ha, le03.reL rl, h3⟩
  · rw [List.drop_eq_nil_of_le (by omega)] at h'
    exact .inl ⟨wk.stop d' i le'.gr hk (by omega), q d' D xs acc (le.trans le') nD kD cD hH ha rl h'.2⟩
theorem lift_lc2F {wi wi1 : TI} {tg tg1 : TG} {tt tt1 : TT} {te : TE} {ti ti1 : AI} {g g1 : AG} {t t1 : AT} {e : AE} {vs vs1 : List Nat} (l1 : LiftI K wi ti)
    (l2 : ∀ (c : Cf K) (L : Ls) (σ : St) (v : V) (a : Am.D) (Post : Ls → List O → Prop) (Q : St → Hp → Prop), c.sl (wipe σ vs) L → c.re v a → g a L c.S Post →
      (∀ (d : Cf K) σ' L', c.Le d → d.sl σ' L' → wipe σ' vs = wipe σ vs → Post L' d.S → Q σ' d.H) → tg v (wipe σ vs) c.H Q) (l3 : LiftT K tt t) (li1 : LiftI K wi1 ti1)
    (l21 : ∀ (c : Cf K) (L : Ls) (σ : St) (v : V) (a : Am.D) (Post : Ls → List O → Prop) (Q : St → Hp → Prop), c.sl (wipe σ vs1) L → c.re v a → g1 a L c.S Post →
      (∀ (d : Cf K) σ' L', c.Le d → d.sl σ' L' → wipe σ' vs1 = wipe σ vs1 → Post L' d.S → Q σ' d.H) → tg1 v (wipe σ vs1) c.H Q) (l31 : LiftT K tt1 t1) (l4 : LiftE K te e) : LiftE K (tLc2 wi tg tt wi1 tg1 tt1 te vs vs1) (aLc2 ti g t ti1 g1 t1 e vs vs1) := by
  refine ⟨fun c L σ Post Q hs h q => lift_lc2 l1 l2 l3 li1 l21 l31 l4 c L σ _ Q hs h fun d D xs acc le nD kD cD hH hz rl ⟨ps, ea, p⟩ => ?_⟩
  subst ea
  have rp := ReL.impure rl
  obtain ⟨f, e1, e2, e3, e4, lf⟩ := le.adopt nD kD cD hH
  rw [← e1]
  refine q f (.ref D) (.p (.lst ps)) lf ?_ (by rw [e2]; exact p)
  have hx : Ex d.Hk f.Hk := by rw [e4]; exact .new kD
  exact .lst (by rw [e4]; exact upd_same) (by simpa using hz) (RpL.mono hx ps xs rp)
end
def conI (K : PySem.W.Frag) (t : AI) : TI := fun σ H R => ∃ (c : Cf K) (L : Ls) (Post : List D → (List O → Prop) → List O → Prop), c.H = H ∧ c.sl σ L ∧ t L c.S Post ∧ ∀ (d : Cf K) J items keep, c.Le d → Wk K d J items keep → Post items keep d.S → R J d.H
theorem conI_lift {K : PySem.W.Frag} {t : AI} : LiftI K (conI K t) t := ⟨fun c L σ Post R hs h q => ⟨c, L, Post, rfl, hs, h, q⟩⟩
section
variable {X : Cx}
theorem JI.can {tg it : Expr} {t : AI} (h : JI X tg it t) : PI X tg it (conI X.K t) := by
  obtain ⟨wi, p, l⟩ := h
  refine ⟨fun pp s τ G R J ⟨c, L, Post, e1, hs, h, q⟩ => ?_⟩
  subst e1
  exact p.run pp s τ _ R J (l.run c L τ Post R hs h q)
theorem je_lc2 {elt tg iter tg1 iter1 : Expr} {ifs ifs1 : List Expr} {scope : Scope} {own : List (Str × Nat)} {vs1 : List Nat} {pos : Pos} {ti ti1 : AI} {g g1 : AG} {t t1 : AT} {e : AE} (hc : X.calm = true) (hN : X.N.Nodup) (hi : JI X tg iter ti) (ok : BlkOk X.N X.env.scope scope own) (hv : ∀ i ∈ vs1, i ∈ own.map (·.2))
    (hg : Blk X scope fun Y => JGo Y (own.map (·.2)) tg g) (ht : Blk X scope fun Y => JTs Y ifs t) (hi1 : Blk X scope fun Y => JI Y tg1 iter1 ti1) (hg1 : Blk X scope fun Y => JGo Y vs1 tg1 g1) (ht1 : Blk X scope fun Y => JTs Y ifs1 t1) (he : Blk X scope fun Y => JE Y elt e)
    (hs : ∀ x, foldedSetIterable iter X.env x = pure x := by intro _; rfl) (hs1 : ∀ env x, foldedSetIterable iter1 env x = pure x := by intro _ _; rfl) : JE X (.ListComp elt [⟨tg, iter, ifs, 0⟩, ⟨tg1, iter1, ifs1, 0⟩] scope pos) (aLc2 ti g t ti1 g1 t1 e (own.map (·.2)) vs1) := by
  obtain ⟨wi, p1, l1⟩ := hi
  exact ⟨_, pe_lc2 hc hN p1 ok hv (fun s H C cl fp => (hg s H C cl fp).can) (fun s H C cl fp => (ht s H C cl fp).can) (fun s H C cl fp => (hi1 s H C cl fp).can) (fun s H C cl fp => (hg1 s H C cl fp).can) (fun s H C cl fp => (ht1 s H C cl fp).can) (fun s H C cl fp => (he s H C cl fp).can) hs hs1,
    lift_lc2F l1 conG_lift conT_lift conI_lift conG_lift conT_lift conE_lift⟩
end
/-- two clauses over pure data that leave the store -/
theorem lc2_map {α β : Type} {keep : List O → Prop} {g g1 : AG} {ti1 : AI} {t1 : AT} {e : AE} {vs1 : List Nat} {L : Ls} {Fin : List D → List O → Prop} {S : List O} (xs : List α) (en : α → D) (ys : α → List β) (p : α → β → Bool) (f : α → β → P)
    (h : ∀ x ∈ xs, ∀ (Q : Ls → List O → Prop), (∀ L1, (∀ (R : List D → (List O → Prop) → List O → Prop), (∀ (items : List D) (keep1 : List O → Prop), keep1 S → (∀ (N : List D → List O → Prop) (acc : List D),
      (∀ acc', acc' = acc ++ ((((ys x).filter (p x)).map (f x)).map .p) → N acc' S) → acc.length + (ys x).length ≤ sizeLine → lc2In keep1 g1 t1 e (wipeL L1 vs1) N items acc S) → R items keep1 S) → ti1 L1 S R) → Q L1 S) → g (en x) L S Q)
    (hz : (xs.flatMap fun x => ys x).length ≤ sizeLine) (q : Fin ((xs.flatMap fun x => ((ys x).filter (p x)).map (f x)).map .p) S) (hk : keep S := by trivial) : lc2Run keep g aYes ti1 g1 t1 e vs1 L Fin (xs.map en) [] S := by
  have key : ∀ (zs : List α) (acc : List D), (∀ x ∈ zs, x ∈ xs) → acc.length + (zs.flatMap fun x => ys x).length ≤ sizeLine → (∀ acc', acc' = acc ++ (zs.flatMap fun x => ((ys x).filter (p x)).map (f x)).map .p → Fin acc' S) → lc2Run keep g aYes ti1 g1 t1 e vs1 L Fin (zs.map en) acc S := by
    intro zs
    induction zs with
    | nil => intro acc _ _ hq; exact ⟨hk, hq acc (by simp)⟩
    | cons x zs ih =>
      intro acc hm hz hq
      refine ⟨hk, h x (hm x (by simp)) _ fun L1 hL1 => ?_⟩
      simp only [aYes, if_true]
      refine hL1 (fun items keep1 S3 => lc2In keep1 g1 t1 e (wipeL L1 vs1) (lc2Run keep g aYes ti1 g1 t1 e vs1 L Fin (zs.map en)) items acc S3) fun items keep1 hk1 go => ?_
      rw [List.flatMap_cons, List.length_append] at hz
      refine go _ _ (fun acc' ea => ih acc' (fun y hy => hm y (List.mem_cons_of_mem _ hy)) ?_ fun acc2 e2 => hq _ ?_) (by omega)
      · rw [ea, List.length_append, List.length_map, List.length_map]
        have := List.length_filter_le (p x) (ys x)
        omega
      · rw [e2, ea, List.flatMap_cons, List.map_append, List.append_assoc]
  exact key xs [] (fun _ h => h) (by simpa using hz) fun acc' e => by rw [e]; exact q
/-- the inner turns over pure data -/
theorem lc2In_map {β : Type} {keep : List O → Prop} {g : AG} {t : AT} {e : AE} {L : Ls} {N : List D → List O → Prop} {S : List O} (ys : List β) (en : β → D) (p : β → Bool) (f : β → P)
    (h : ∀ y ∈ ys, ∀ (Q : D → List O → Prop) (R : List O → Prop), (if p y = true then Q (.p (f y)) S else R S) → g (en y) L S fun L1 S1 => t L1 S1 fun b S2 => if b = true then e L1 S2 Q else R S2) :
    ∀ (acc : List D), acc.length + ys.length ≤ sizeLine → (∀ acc', acc' = acc ++ ((ys.filter p).map f).map .p → N acc' S) → keep S → lc2In keep g t e L N (ys.map en) acc S := by
  induction ys with
  | nil => intro acc _ hN hk; exact ⟨hk, hN acc (by simp)⟩
  | cons y ys ih =>
    intro acc hz hN hk
    rw [List.length_cons] at hz
    refine ⟨hk, h y (by simp) (fun z S3 => acc.length < sizeLine ∧ lc2In keep g t e L N (ys.map en) (acc ++ [z]) S3) (fun S2 => lc2In keep g t e L N (ys.map en) acc S2) ?_⟩
    by_cases hp : p y = true
    · rw [if_pos hp]
      refine ⟨by omega, ih (fun z hz => h z (List.mem_cons_of_mem _ hz)) _ (by simp; omega) (fun acc' ea => hN _ ?_) hk⟩
      rw [ea, List.filter_cons_of_pos hp]
      simp
    · rw [if_neg hp]
      refine ih (fun z hz => h z (List.mem_cons_of_mem _ hz)) _ (by omega) (fun acc' ea => hN _ ?_) hk
      rw [ea, List.filter_cons_of_neg hp]
end Am
/-! Am: list(..), insert, sorted(set(pairs)), is of truths, < of tuples. -/
namespace Am
open PySem L2
section
variable {X : Cx} {e a b : Expr} {te ta tb : AE} {p pos : Pos}
/-- list(xs): a frozen one, an owned one -/
def aList : A1 := fun a S Post => ∃ ps, seAt S a ps ∧ Post (.p (.lst ps)) S
def aListO : A1 := fun a S Post => ∃ ps, seAt S a ps ∧ Post (.own S.length) (S ++ [.lst (ps.map .p)])
theorem je_listP (hg : Gl X "list") (hm : X.mg "list" = none) (he : JE X e te) (h1 : starEach [e] X.env = (false, eval e X.env) :: starEach [] X.env := by rfl) (hpl : (backTo pos (starEach [] X.env)).any (·.1) = false := by rfl) : JE X (.Call (.Name "list" p) [e] [] pos) (aCall (a1 aList) (aCons te aNil)) :=
  je_callTy call_list_of (lift_1 ⟨fun c x a Post Q ra h q => by
    obtain ⟨ps, sa, h⟩ := h
    obtain ⟨b, vs, rfl, s, l, z⟩ := c.se ra sa
    refine ⟨b, vs, rfl, s.imp id (·.1), fun b2 hb => ?_⟩
    obtain ⟨f, eh, es, lf, rf⟩ := c.newLst hb l z
    rw [← eh]
    exact q f _ _ lf rf (by rw [es]; exact h)⟩) hg hm (by decide +kernel) (ja_cons he ja_nil h1) (he := h1) (hpl := hpl)
theorem je_listPO (hg : Gl X "list") (hm : X.mg "list" = none) (he : JE X e te) (h1 : starEach [e] X.env = (false, eval e X.env) :: starEach [] X.env := by rfl) (hpl : (backTo pos (starEach [] X.env)).any (·.1) = false := by rfl) : JE X (.Call (.Name "list" p) [e] [] pos) (aCall (a1 aListO) (aCons te aNil)) :=
  je_callTy call_list_of (lift_1 ⟨fun c x a Post Q ra h q => by
    obtain ⟨ps, sa, h⟩ := h
    obtain ⟨b, vs, rfl, s, l, z⟩ := c.se ra sa
    refine ⟨b, vs, rfl, s.imp id (·.1), fun b2 hb => ?_⟩
    obtain ⟨f, eh, es, lf, rf⟩ := c.newOwn hb (ReL.pure l) (by rw [List.length_map]; exact z)
    rw [← eh]
    exact q f _ _ lf rf (by rw [es]; exact h)⟩) hg hm (by decide +kernel) (ja_cons he ja_nil h1) (he := h1) (hpl := hpl)
/-! ### is, is not of truths -/
def aIsB (neg : Bool) : A2 := fun a b S Post => match a, b with
  | .p (.bl x), .p (.bl y) => Post (.p (.bl (xor neg (x == y)))) S
  | _, _ => False
theorem lift_isB {K : PySem.W.Frag} : Lift2 K rIsB (aIsB false) := ⟨fun c x y a b Post Q ra rb h q => by
  unfold aIsB at h
  split at h
  · rename_i i j
    cases (show Rp K c.Hk x (.bl i) from ra)
    cases (show Rp K c.Hk y (.bl j) from rb)
    exact ⟨i, j, rfl, rfl, q c _ _ (.refl c) (reB c _) (by have e : decide (i = j) = (i == j) := (by cases i <;> cases j <;> rfl); rw [e]; simpa using h)⟩
  · exact h.elim⟩
theorem lift_notB {K : PySem.W.Frag} : Lift2 K rNotB (aIsB true) := ⟨fun c x y a b Post Q ra rb h q => by
  unfold aIsB at h
  split at h
  · rename_i i j
    cases (show Rp K c.Hk x (.bl i) from ra)
    cases (show Rp K c.Hk y (.bl j) from rb)
    exact ⟨i, j, rfl, rfl, q c _ _ (.refl c) (reB c _) (by have e : (!decide (i = j)) = (true ^^ (i == j)) := (by cases i <;> cases j <;> rfl); rw [e]; exact h)⟩
  · exact h.elim⟩
theorem je_isB (ha : JE X a ta) (hb : JE X b tb) (hm : behindInMarks .Is b = false := by rfl) : JE X (.Compare a [.Is] [b] pos) (aOp (aIsB false) ta tb) := je_cmp op_isBl lift_isB ha hb hm
theorem je_notB (ha : JE X a ta) (hb : JE X b tb) (hm : behindInMarks .IsNot b = false := by rfl) : JE X (.Compare a [.IsNot] [b] pos) (aOp (aIsB true) ta tb) := je_cmp op_notBl lift_notB ha hb hm
theorem jt_isB (ha : JE X a ta) (hb : JE X b tb) (hm : behindInMarks .Is b = false := by rfl) : JT X (.Compare a [.Is] [b] pos) (aTest (aOp (aIsB false) ta tb)) := jt_cmp op_isBl lift_isB ha hb hm
theorem jt_notB (ha : JE X a ta) (hb : JE X b tb) (hm : behindInMarks .IsNot b = false := by rfl) : JT X (.Compare a [.IsNot] [b] pos) (aTest (aOp (aIsB true) ta tb)) := jt_cmp op_notBl lift_notB ha hb hm
/-! ### tuples of ints by < -/
def aLtT : A2 := fun a b S Post => match a, b with
  | .p (.tup xs), .p (.tup ys) => ∃ ns ms : List Int, xs = ns.map .int ∧ ys = ms.map .int ∧ Post (.p (.bl (HT.lexLt ns ms))) S
  | _, _ => False
theorem RpL.intsV {K : PySem.W.Frag} {H : Hp} : ∀ {ns : List Int} {vs : List V}, RpL K H vs (ns.map .int) → vs = ns.map V.int
  | [], _, h => by cases h; rfl
  | n :: ns, _, h => by
    cases h with
    | cons r l =>
      cases r
      rw [RpL.intsV l]; rfl
theorem lift_ltT {K : PySem.W.Frag} : Lift2 K (rLtT K) aLtT := ⟨fun c x y a b Post Q ra rb h q => by
  unfold aLtT at h
  split at h
  · obtain ⟨ns, ms, rfl, rfl, h⟩ := h
    cases (show Rp K c.Hk x (.tup _) from ra) with
    | tup s1 z1 l1 =>
      cases (show Rp K c.Hk y (.tup _) from rb) with
      | tup s2 z2 l2 =>
        have e1 := RpL.intsV l1
        have e2 := RpL.intsV l2
        subst e1 e2
        exact ⟨_, _, ns, ms, rfl, rfl, c.ok.ex.tq s1, c.ok.ex.tq s2, q c _ _ (.refl c) (reB c _) h⟩
  · exact h.elim⟩
theorem je_ltT (hu : X.A.units + 65 < cLine) (ha : JE X a ta) (hb : JE X b tb) : JE X (.Compare a [.Lt] [b] pos) (aOp aLtT ta tb) := je_cmp (op_ltT (by omega)) lift_ltT ha hb (nomark _)
theorem jt_ltT (hu : X.A.units + 65 < cLine) (ha : JE X a ta) (hb : JE X b tb) : JT X (.Compare a [.Lt] [b] pos) (aTest (aOp aLtT ta tb)) := jt_cmp (op_ltT (by omega)) lift_ltT ha hb (nomark _)
end
/-! ### xs.insert(i, y) -/
def rInsert : V → List V → Hp → VK → Prop := fun x vs H Q => ∃ (l : Addr) (xs : List V) (i : Int) (y : V), x = .ref l ∧ vs = [.int i, y] ∧ H l = some (.lst xs) ∧ xs.length < sizeLine ∧ 0 ≤ i ∧ i < 2 ^ 63 ∧
    Q .non (upd H l (.lst (xs.take i.toNat ++ [y] ++ xs.drop i.toNat)))
theorem mt_insertA {X : Cx} : MtR X "list.insert" rInsert := mt_insert
def aInsert : AM := fun a as S Post => match a, as with
  | .own n, [.p (.int i), y] => (match S[n]? with | some (.lst ds) => ds.length < sizeLine ∧ 0 ≤ i ∧ i < 2 ^ 63 ∧ Post (.p .non) (S.set n (.lst (ds.take i.toNat ++ [y] ++ ds.drop i.toNat))) | _ => False)
  | _, _ => False
theorem ReL.take {K : PySem.W.Frag} {η : List Addr} {Hk : Hp} : ∀ {vs : List V} {ds : List D} (n : Nat), ReL K η Hk vs ds → ReL K η Hk (vs.take n) (ds.take n)
  | _, _, 0, _ => .nil
  | _, _, n + 1, .nil => .nil
  | _, _, n + 1, .cons r l => .cons r (ReL.take n l)
theorem ReL.drop {K : PySem.W.Frag} {η : List Addr} {Hk : Hp} : ∀ {vs : List V} {ds : List D} (n : Nat), ReL K η Hk vs ds → ReL K η Hk (vs.drop n) (ds.drop n)
  | _, _, 0, h => h
  | _, _, n + 1, .nil => .nil
  | _, _, n + 1, .cons r l => ReL.drop n l
theorem lift_insert {K : PySem.W.Frag} : LiftM K rInsert aInsert := by
  refine ⟨fun c x a vs as Post Q ra rs h q => ?_⟩
  unfold aInsert at h
  split at h
  · rename_i n i y
    split at h
    · rename_i ds e0
      obtain ⟨b, ws, rfl, e1, e2, l, z⟩ := c.list_own ra e0
      cases rs with
      | cons r1 rs =>
        cases rs with
        | cons r2 rs =>
          cases rs
          cases (show Rp K c.Hk _ (.int i) from r1)
          obtain ⟨h1, h2, h3, h4⟩ := h
          obtain ⟨f, eh, es, lf⟩ := c.setLst (vs' := ws.take i.toNat ++ [_] ++ ws.drop i.toNat) (ds' := ds.take i.toNat ++ [y] ++ ds.drop i.toNat) e1 e0 (((ReL.take _ l).append (.cons r2 .nil)).append (ReL.drop _ l)) (by simp; omega)
          refine ⟨b, ws, i, _, rfl, rfl, e2, by rw [l.length]; exact h1, h2, h3, ?_⟩
          rw [← eh]
          exact q f _ _ lf (reN f) (by rw [es]; exact h4)
    · exact h.elim
  · exact h.elim
/-! ### sorted(set(pairs)) -/
def prA (q : Nat × Nat) : P := .tup [.int (q.1 : Nat), .int (q.2 : Nat)]
def ltA (a b : Nat × Nat) : Prop := a.1 < b.1 ∨ (a.1 = b.1 ∧ a.2 < b.2)
def aSortedSet (te : AE) : AE := fun L S Post => te L S fun a S1 => ∃ fs : List (Nat × Nat), lsAt S1 a (fs.map prA) ∧ fs.length < 64 ∧ (∀ q ∈ fs, q.1 < 64 ∧ q.2 < 64) ∧ ∀ gs : List (Nat × Nat), gs.Pairwise ltA → (∀ q, q ∈ gs ↔ q ∈ fs) → gs.length ≤ fs.length → Post (.p (.lst (gs.map prA))) S1
def kA (k : Addr × (Nat × Nat)) : Addr × List Int := (k.1, [((k.2.1 : Nat) : Int), ((k.2.2 : Nat) : Int)])
theorem pairs_at {K : PySem.W.Frag} {H : Hp} : ∀ {fs : List (Nat × Nat)} {vs : List V}, RpL K H vs (fs.map prA) → ∃ ks : List (Addr × (Nat × Nat)), vs = ks.map (fun k => V.ref k.1) ∧ ks.map (·.2) = fs ∧ ∀ k ∈ ks, H k.1 = some (.tup [.int (k.2.1 : Nat), .int (k.2.2 : Nat)])
  | [], _, h => by cases h; exact ⟨[], rfl, rfl, (fun _ h => nomatch h)⟩
  | f :: fs, _, h => by
    cases h with
    | cons r l =>
      obtain ⟨ks, e1, e2, e3⟩ := pairs_at l
      cases (show Rp K H _ (.tup [.int (f.1 : Nat), .int (f.2 : Nat)]) from r) with
      | tup s z l2 =>
        rename_i a vs2
        have : vs2 = [V.int (f.1 : Nat), V.int (f.2 : Nat)] := RpL.intsV (ns := [((f.1 : Nat) : Int), ((f.2 : Nat) : Int)]) l2
        subst this
        refine ⟨(a, f) :: ks, by rw [e1]; rfl, by rw [List.map_cons, e2], fun k hk => ?_⟩
        rcases List.mem_cons.mp hk with rfl | hk
        · exact s
        · exact e3 k hk
theorem un_kA {ks : List (Addr × (Nat × Nat))} : ∀ {L : List (Addr × List Int)}, (∀ p ∈ L, p ∈ ks.map kA) → ∃ L0 : List (Addr × (Nat × Nat)), L = L0.map kA ∧ ∀ k ∈ L0, k ∈ ks
  | [], _ => ⟨[], rfl, (fun _ h => nomatch h)⟩
  | p :: L, h => by
    obtain ⟨L0, e1, e2⟩ := un_kA (L := L) fun q hq => h q (List.mem_cons_of_mem _ hq)
    obtain ⟨k, hk, e⟩ := List.mem_map.mp (h p (List.mem_cons_self ..))
    refine ⟨k :: L0, by rw [List.map_cons, e, e1], fun k' hk' => ?_⟩
    rcases List.mem_cons.mp hk' with rfl | hk'
    · exact hk
    · exact e2 k' hk'
theorem re_kA {K : PySem.W.Frag} {H : Hp} : ∀ {L0 : List (Addr × (Nat × Nat))}, (∀ k ∈ L0, H k.1 = some (.tup [.int (k.2.1 : Nat), .int (k.2.2 : Nat)])) → RpL K H ((L0.map kA).map fun q => V.ref q.1) ((L0.map (·.2)).map prA)
  | [], _ => .nil
  | k :: L0, h => .cons (.tup (h k (List.mem_cons_self ..)) (by show 2 ≤ sizeLine; decide) (.cons (.int _) (.cons (.int _) .nil))) (re_kA fun k' hk' => h k' (List.mem_cons_of_mem _ hk'))
theorem kA_inj {a b : Nat × Nat} (h : (kA (0, a)).2 = (kA (0, b)).2) : a = b := by
  have h : [((a.1 : Nat) : Int), ((a.2 : Nat) : Int)] = [((b.1 : Nat) : Int), ((b.2 : Nat) : Int)] := h
  obtain ⟨a1, a2⟩ := a
  obtain ⟨b1, b2⟩ := b
  simp only [List.cons.injEq, and_true] at h
  rw [Prod.mk.injEq]
  omega
theorem je_sortedSet {X : Cx} {e : Expr} {te : AE} {p p2 q2 pos : Pos} (hc : X.calm = true) (hu : X.A.units + 65 < cLine) (hg : Gl X "sorted") (hm : X.mg "sorted" = none) (hg2 : Gl X "set") (hm2 : X.mg "set" = none) (he : JE X e te)
    (h1 : starEach [e] X.env = (false, eval e X.env) :: starEach [] X.env := by rfl) (hpl : (backTo q2 (starEach [] X.env)).any (·.1) = false := by rfl)
    (h2 : starEach [.Call (.Name "set" p2) [e] [] q2] X.env = (false, eval (.Call (.Name "set" p2) [e] [] q2) X.env) :: starEach [] X.env := by rfl) (hpl2 : (backTo pos (starEach [] X.env)).any (·.1) = false := by rfl) :
    JE X (.Call (.Name "sorted" p) [.Call (.Name "set" p2) [e] [] q2] [] pos) (aSortedSet te) := by
  obtain ⟨t1, p1, l1⟩ := he
  refine ⟨_, pe_callB (L2.cr_sortedT hc) hg hm (by decide +kernel) (pa_cons (pe_callTy (cr_setOfT hc (by omega)) hg2 hm2 (by decide +kernel) (pa_cons p1 pa_nil h1) (he := h1) (hpl := hpl)) pa_nil h2) (he := h2) (hpl := hpl2), ⟨fun c L σ Post Q hs h q => ?_⟩⟩
  show t1 σ c.H _
  refine l1.run c L σ _ _ hs h fun d v a le re h => ?_
  obtain ⟨fs, la, hf, hb, h⟩ := h
  obtain ⟨b, vs, rfl, e1, rl, z⟩ := d.ls re la
  obtain ⟨ks, rfl, e2, e3⟩ := pairs_at rl
  have e4 : ∀ k ∈ ks, d.H k.1 = some (.tup [.int (k.2.1 : Nat), .int (k.2.2 : Nat)]) := fun k hk => d.ok.ex _ _ (e3 k hk)
  have hkl : ks.length = fs.length := by rw [← e2, List.length_map]
  refine ⟨b, ks.map kA, rfl, ?_, fun p hp => ?_, by rw [List.length_map]; omega, fun a L ha hL hK => ?_⟩
  · rw [List.map_map]
    exact SqL.of e1
  · obtain ⟨k, hk, rfl⟩ := List.mem_map.mp hp
    exact SqT.of (e4 k hk)
  · have aη := d.ok.not_mem ha
    have ak := d.ok.knone ha
    obtain ⟨L0, rfl, hL0⟩ := un_kA hL
    refine ⟨a, L0.map kA, 2, 64, rfl, upd_same, fun p hp => ?_, by decide, fun p hp => ?_, fun L' p pm nd hl pw hp => ?_⟩
    · obtain ⟨k, hk, rfl⟩ := List.mem_map.mp hp
      have := e4 k (hL0 k hk)
      exact SqT.of (show upd d.H a _ k.1 = _ by rw [upd_ne (ne_of_none this ha)]; exact this)
    · obtain ⟨k, hk, rfl⟩ := List.mem_map.mp hp
      refine ⟨rfl, fun m hm => ?_⟩
      have hq := hb k.2 (by rw [← e2]; exact List.mem_map.mpr ⟨k, hL0 k hk, rfl⟩)
      have hm : m = ((k.2.1 : Nat) : Int) ∨ m = ((k.2.2 : Nat) : Int) := by simpa [kA] using hm
      omega
    · obtain ⟨L1, rfl, hL1⟩ := un_kA (ks := ks) (L := L') fun q hq => by
        obtain ⟨k, hk, rfl⟩ := List.mem_map.mp (pm.mem_iff.mp hq)
        exact List.mem_map.mpr ⟨k, hL0 k hk, rfl⟩
      have nd1 : (L1.map (·.2)).Nodup := by
        rw [List.map_map] at nd
        exact (List.pairwise_map.mpr ((List.pairwise_map.mp nd).imp fun {x y} hxy e => hxy (by show (kA x).2 = (kA y).2; unfold kA; rw [e])))
      let d2 := d.with a (SetTO X.prog X.w a (L0.map kA)) aη ak
      have led : d.Le d2 := Cf.Le.grow (.refl d) ha aη ak
      have rl2 : RpL X.K d2.Hk ((L1.map kA).map fun q => V.ref q.1) ((L1.map (·.2)).map prA) := re_kA fun k hk => e3 k (hL1 k hk)
      have hp2 : d2.H p = none := hp
      obtain ⟨f, eh, es, lf, rf⟩ := d2.newLst hp2 rl2 (by rw [List.length_map, List.length_map]; have : L1.length < 64 := (by simpa using hl); rw [sizeLine_eq]; omega)
      have eh : f.H = upd (upd d.H a (SetTO X.prog X.w a (L0.map kA))) p (.lst ((L1.map kA).map fun q => V.ref q.1)) := eh
      rw [← eh]
      refine q f _ _ (le.trans (led.trans lf)) rf ?_
      rw [es]
      refine h (L1.map (·.2)) ?_ (fun q => ?_) ?_
      · rw [List.pairwise_map] at pw ⊢
        have nd' : L1.Pairwise fun x y => x.2 ≠ y.2 := List.pairwise_map.mp nd1
        refine (List.Pairwise.and_mem.mp (pw.and nd')).imp fun {x y} hxy => ?_
        obtain ⟨h2, h3, h1, h4⟩ := hxy
        have bx := hb x.2 (by rw [← e2]; exact List.mem_map.mpr ⟨x, hL1 x h2, rfl⟩)
        have by_ := hb y.2 (by rw [← e2]; exact List.mem_map.mpr ⟨y, hL1 y h3, rfl⟩)
        have := pair_lt (x := (x.2.1 : Nat)) (y := (x.2.2 : Nat)) (x' := (y.2.1 : Nat)) (y' := (y.2.2 : Nat)) h1 (fun e => h4 (kA_inj e)) (by omega) (by omega) (by omega) (by omega)
        unfold ltA
        omega
      · constructor
        · intro hq
          obtain ⟨k, hk, rfl⟩ := List.mem_map.mp hq
          rw [← e2]
          exact List.mem_map.mpr ⟨k, hL1 k hk, rfl⟩
        · intro hq
          rw [← e2] at hq
          obtain ⟨k, hk, rfl⟩ := List.mem_map.mp hq
          have := hK (kA k) (List.mem_map.mpr ⟨k, hk, rfl⟩)
          obtain ⟨p1, hp1, e5⟩ := List.mem_map.mp this
          obtain ⟨k1, hk1, rfl⟩ := List.mem_map.mp (pm.mem_iff.mpr hp1)
          exact List.mem_map.mpr ⟨k1, hk1, kA_inj e5⟩
      · have h5 := pm.length_eq
        rw [List.length_map, List.length_map] at h5
        have h6 : (L1.map (·.2)).length ≤ fs.length := by
          have nd2 := nd1
          rw [← e2]
          have : ∀ (xs ys : List (Nat × Nat)), xs.Nodup → (∀ u ∈ xs, u ∈ ys) → xs.length ≤ ys.length := by
            intro xs
            induction xs with
            | nil => intro ys _ _; exact Nat.zero_le _
            | cons x xs ih =>
              intro ys hn hs
              rw [List.nodup_cons] at hn
              have hx := hs x (by simp)
              have := ih (ys.erase x) hn.2 fun u hu => (List.mem_erase_of_ne (fun (e : u = x) => hn.1 (e ▸ hu))).mpr (hs u (List.mem_cons_of_mem _ hu))
              rw [List.length_erase_of_mem hx] at this
              have := List.length_pos_of_mem hx
              rw [List.length_cons]
              omega
          exact this _ _ nd2 fun u hu => by
            obtain ⟨k, hk, rfl⟩ := List.mem_map.mp hu
            exact List.mem_map.mpr ⟨k, hL1 k hk, rfl⟩
        exact h6
end Am
/-! Am: enumerate of a list or of a tuple. -/
namespace Am
open PySem PySem.Spec L2
theorem meets_enumerate_newT {v : Value} {o : Obj} {H : Heap → Prop} (B : Begins v o H) :
    Meets (Builtin.«enumerate.__new__» ⟨[.type "enumerate", v], []⟩) (fun _ R s => H s.heap ∧
      R (.ok (.ret (.ref (s.heap.push o).objs.size))) { s with heap := (s.heap.push o).push { cls := .type "enumerate", data := .fields #[.none, .bool false, .ref s.heap.objs.size, rawInt 0, .none, .none] } }) :=
  .of_wp fun prog w A R s h => by
    obtain ⟨hp, g, d, tk, os⟩ := s; obtain ⟨h1, h⟩ := h
    have hsub := sub_enumerate
    have q1 : ∀ {A' : Around} {E : Value → Shared → Prop} {Q : Value → Shared → Prop}, Q (.ref hp.objs.size) ⟨hp.push o, g, d, tk, os⟩ → wpAny (model prog w) A' (pyIter v) Q E ⟨hp, g, d, tk, os⟩ :=
      fun q => B.iter prog w _ _ ⟨hp, g, d, tk, os⟩ _ h1 q
    wp_walk using q1
    refine wpAny_stack_any fun st => wpAny_pure ?_
    split
    · rename_i c _ _ _ _ _
      cases (c == Value.type "enumerate")
      · wp_walk using q1
        exact ⟨_, rfl, h⟩
      · wp_walk using q1
        exact ⟨_, rfl, h⟩
    · wp_walk using q1
      exact ⟨_, rfl, h⟩
theorem enum_beginsT {prog : Program} {w : World} {A : Around} {E : Value → Shared → Prop} {s : Shared} {v : Value} {o : Obj} {H : Heap → Prop} {Q : Value → Shared → Prop} (B : Begins v o H) (h1 : H s.heap)
    (h : ∀ h', IsEnum h' (s.heap.objs.size + 1) s.heap.objs.size 0 .none → h'.get? s.heap.objs.size = some o → h'.objs.size = s.heap.objs.size + 2 →
      (∀ b o, s.heap.get? b = some o → h'.get? b = some o) → Q (.ref (s.heap.objs.size + 1)) { s with heap := h' }) :
    wpAny (model prog w) A (call (.type "enumerate") [v]) Q E s := by
  refine callType_new F.called_enumerate (by decide) (F.typeCall_enumerate_1 _) (F.newCall_enumerate_1 _) (fun obj => F.args_object_init_2 obj _) F.entry_enumerate_new
    (meets_enumerate_newT B) ⟨h1, ?_⟩
  have hz : (s.heap.push o).objs.size = s.heap.objs.size + 1 := Heap.size_push ..
  show _ ∧ _
  rw [hz]
  have he : IsEnum ((s.heap.push o).push { cls := .type "enumerate", data := .fields #[.none, .bool false, .ref s.heap.objs.size, rawInt 0, .none, .none] }) (s.heap.objs.size + 1) s.heap.objs.size 0 .none := by
    have := Heap.get?_push_size (s.heap.push o) (o := { cls := .type "enumerate", data := .fields #[.none, .bool false, .ref s.heap.objs.size, rawInt 0, .none, .none] }) rfl
    rw [hz] at this; exact this
  refine ⟨⟨_, he, rfl⟩, h _ he (Heap.get?_push_of_some _ (Heap.get?_push_size _ B.free)) (by rw [Heap.size_push, hz]) fun b o x => Heap.get?_push_of_some _ (Heap.get?_push_of_some _ x)⟩
/-- the tuple at a, each item in a new pair -/
def IteT (K : PySem.W.Frag) (a : Addr) : It :=
  ⟨fun i H => ∃ (xs : List V) (x : V), SqT K H a xs ∧ xs[i]? = some x, fun i H v H' => ∃ T x, v = .ref T ∧ H T = none ∧ H' = upd H T (.tup [.int (i : Nat), x]) ∧ ∀ xs, SqT K H a xs → xs[i]? = some x, fun i H => ∃ xs : List V, SqT K H a xs ∧ xs.length ≤ i⟩
theorem turn_enumT {P : Program} {w : World} {K : PySem.W.Frag} {elts : List Expr} {kk : Nat} {tpos : Pos} (a e it : Addr) (hea : e ≠ a) (hia : a ≠ it) :
    Turn P w K (.Tuple elts kk tpos) (IteT K a) [e, it] e (fun i h => (∃ old, IsEnum h e it ((i : Nat) : Int) old) ∧ h.IsTupleIter it a i ∧ e ≠ it) where
  mem := by simp
  obj := fun i h st b hb => by
    obtain ⟨⟨old, he⟩, ⟨o, ho, hc, hd⟩, _⟩ := st
    have e' : b = e ∨ b = it := by simpa using hb
    rcases e' with z | z
    · rw [z]; exact ⟨_, he, fun v q => nomatch q⟩
    · rw [z]; exact ⟨o, ho, fun v q => by rw [hd] at q; cases q⟩
  keep := fun i h h' st k => let ⟨⟨old, he⟩, hi, hne⟩ := st; ⟨⟨old, k e (by simp) _ he⟩, hi.at fun o q => k it (by simp) o q, hne⟩
  item := by
    intro X hP hw hK hc i pins s σ H E I hf st hg
    subst hP hw hK
    obtain ⟨⟨old, he⟩, hit, hne⟩ := st
    obtain ⟨xs, x, hq, hx⟩ := hg
    obtain ⟨its, rv, p, hz⟩ := I.tuple hq
    have p : s.heap.IsTuple a its.toArray := p
    obtain ⟨u, hu, ru⟩ := rv.get hx
    have hel : e < s.heap.objs.size := Heap.lt_size he
    have hil : it < s.heap.objs.size := by obtain ⟨_, q, _⟩ := hit; exact Heap.lt_size q
    have hlt : i < its.toArray.size := by
      have := (List.getElem?_eq_some_iff.mp hu).1
      simpa using this
    have D := Draws.tuple (prog := X.prog) (w := X.w) (A := X.A.in1) (I.ok.hd hc) it a hia its.toArray
    refine wpAny_pyNext_enum_itemD D he ⟨hit, p⟩ hlt hne (by simp [hne, hea]) fun u' h' tk hu' ho hit' hT hsz hk => ?_
    have eu : u' = u := by
      have h1 : its.toArray[i]? = some u := by simpa using hu
      rw [h1] at hu'
      exact (Option.some.inj hu').symm
    subst eu
    refine ⟨_, rfl, wpAny_letOwnedTupleGo_enum (s := { s with heap := h', toks := tk + 1 }) ho fun h'' he' sb => ?_⟩
    have hT2 : h''.get? s.heap.objs.size = some { cls := .type "tuple", data := .seq #[.int i tk, u'] } := (sb.2 _ (Nat.ne_of_gt hel)).trans hT
    have new : ObjOk X.prog X.w (upd H s.heap.objs.size (.tup [.int (i : Nat), x])) h'' s.heap.objs.size (.tup [.int (i : Nat), x]) :=
      ⟨by show 2 ≤ sizeLine; decide, [.int i tk, u'], .cons ⟨_, rfl⟩ (.cons ru .nil), ⟨_, hT2, rfl, _, rfl⟩⟩
    have I1 : Inv X pins σ (upd H s.heap.objs.size (.tup [.int (i : Nat), x])) { s with heap := h'', toks := tk + 1 } :=
      I.turnedNew (ch := [e, it]) (fun b ob hb q => (sb.2 b (fun z => hb (by simp [z]))).trans (hk b ob (fun z => hb (by simp [z])) (fun z => hb (by simp [z])) q)) hf (Nat.le_refl _) new
    refine ⟨.ref s.heap.objs.size, _, I1, rfl, ⟨_, x, rfl, I.hok.fresh (Nat.le_refl _), rfl, fun ys hy => by rw [I.tuple_inj hy hq]; exact hx⟩, ⟨⟨u', ?_⟩, hit'.1.at fun o q => (sb.2 it (Ne.symm hne)).trans q, hne⟩, fun b hb => ?_⟩
    · have e1 : ((i + 1 : Nat) : Int) = (i : Int) + 1 := by omega
      rw [e1]; exact he'
    · have hb' : b < s.heap.objs.size := by
        have e' : b = e ∨ b = it := by simpa using hb
        rcases e' with z | z
        · rw [z]; exact hel
        · rw [z]; exact hil
      rw [upd_ne (Nat.ne_of_lt hb')]
      exact (hf b hb).1
  done := by
    intro X hP hw hK hc i pins s σ H E I hf st hg
    subst hP hw hK
    obtain ⟨⟨old, he⟩, hit, hne⟩ := st
    obtain ⟨xs, hq, hx⟩ := hg
    obtain ⟨its, rv, p, hz⟩ := I.tuple hq
    have p : s.heap.IsTuple a its.toArray := p
    obtain ⟨f0, f1, f2, f3, f4, f5⟩ := hf it (by simp)
    have hl := rv.length
    unfold pyNext
    refine wpAny_bind (wpAny_attempt (wpAny_callSpecial?_slot (name := Str.ofString "__next__") (show s.TypeIs (.ref e) "enumerate" from ⟨_, he, rfl⟩) F.slot_enumerate_next
      (wpAny_call_entry F.slot_enumerate_next (show s.TypeIs (.ref e) "enumerate" from ⟨_, he, rfl⟩) F.entry_enumerate_next ?_ (F.args_enumerate_next_1 _))))
    show wpAny _ _ (field (.ref e) 2 >>= _) _ _ _
    refine wpAny_bind (wpAny_field he rfl (x := .ref it) rfl ?_)
    refine wpAny_bind (wpAny_nextOf_tuple_end (I.ok.hd hc) hit p (by simp; omega) fun h' x he' hx' => ?_)
    obtain ⟨o, ho, hc'⟩ := hx'
    refine wpAny_bind (wpAny_isInstance (T := "StopIteration") (b := true) ⟨o, ho, hc'⟩ isSubtype_stop ?_)
    exact wpAny_pure ⟨rfl, I.turned (t' := s.toks) (fun b o hb q => he' b o hb q) f0 f1 f3 f4 f5⟩
  self := fun A i s Q E st h => let ⟨⟨_, he⟩, _⟩ := st; wpAny_pyIter_enum he h
def iEnumT (K : PySem.W.Frag) (ta : TA) : TI := fun σ H R => ta σ H fun vs H1 => ∃ a xs, vs = [.ref a] ∧ SqT K H1 a xs ∧ R (IteT K a) H1
theorem pi_enumT {X : Cx} {e : Expr} {ta : TA} {p pos tpos : Pos} {elts : List Expr} {kk : Nat} (hg : Gl X "enumerate") (hm : X.mg "enumerate" = none) (ha : PA X [e] ta) (hs : starEach [e] X.env = [(false, eval e X.env)] := by rfl) :
    PI X (.Tuple elts kk tpos) (.Call (.Name "enumerate" p) [e] [] pos) (iEnumT X.K ta) := by
  refine ⟨fun pins s σ H R I h => ?_⟩
  refine PyProof.Rows.Call_ (ld_blt I hg hm PyProof.Rows.boot_enumerate (PyProof.Rows.callWith_type1 (thn (ha.run pos pins s σ H _ I h) fun us s1 ⟨vs, H1, I1, r1, q1⟩ => ?_) hs rfl))
  obtain ⟨a, xs, ex, hq, q⟩ := q1
  subst ex
  cases r1 with
  | cons r rr =>
    cases rr
    cases r
    obtain ⟨its, rv, p', hz⟩ := I1.tuple hq
    have p' : s1.heap.IsTuple a its.toArray := p'
    have hal : a < s1.heap.objs.size := by obtain ⟨_, q, _⟩ := p'; exact Heap.lt_size q
    refine enum_beginsT (begins_tuple a its.toArray) p' fun h' he hit hsz hk => wpAny_pyIter_enum he ?_
    have I2 : Inv X pins σ H1 { s1 with heap := h' } := I1.kept (t' := s1.toks) hk
    refine ⟨s1.heap.objs.size + 1, [s1.heap.objs.size + 1, s1.heap.objs.size], _, _, H1, rfl, I2, turn_enumT a (s1.heap.objs.size + 1) s1.heap.objs.size (Nat.ne_of_gt (Nat.lt_succ_of_lt hal)) (Nat.ne_of_lt hal), ⟨⟨.none, he⟩, ⟨_, hit, rfl, rfl⟩, Nat.succ_ne_self _⟩, fun b hb => ?_, q⟩
    have e' : b = s1.heap.objs.size + 1 ∨ b = s1.heap.objs.size := by simpa using hb
    have hle : s1.heap.objs.size ≤ b := by
      rcases e' with z | z
      · rw [z]; exact Nat.le_add_right _ _
      · rw [z]; exact Nat.le_refl _
    exact I1.fpOk hle (I1.hok.fresh hle)
def aiEnumT (te : AE) : AI := fun L S Post => te L S fun a S1 => match a with
  | .p (.tup xs) => Post (enums xs) (fun _ => True) S1
  | _ => False
theorem ji_enumT {X : Cx} {e : Expr} {te : AE} {p pos tpos : Pos} {elts : List Expr} {kk : Nat} (hg : Gl X "enumerate") (hm : X.mg "enumerate" = none) (he : JE X e te) (h1 : starEach [e] X.env = (false, eval e X.env) :: starEach [] X.env := by rfl) (hs : starEach [e] X.env = [(false, eval e X.env)] := by rfl) :
    JI X (.Tuple elts kk tpos) (.Call (.Name "enumerate" p) [e] [] pos) (aiEnumT te) := by
  obtain ⟨t1, p1, l1⟩ := ja_cons he ja_nil h1
  refine ⟨_, pi_enumT hg hm p1 hs, ⟨fun c L σ Post R hs h q => l1.run c L σ (fun as S1 => match as with | [.p (.tup xs)] => Post (enums xs) (fun _ => True) S1 | _ => False) _ hs ?_ fun d vs as le re h => ?_⟩⟩
  · show te L c.S fun a S1 => _
    have e : (fun a S1 => match a with | D.p (.tup xs) => Post (enums xs) (fun _ => True) S1 | _ => False) = fun (a : D) (S1 : List O) => (match a :: [] with | [D.p (.tup xs)] => Post (enums xs) (fun _ => True) S1 | _ => False) := by
      funext a S1
      cases a with
      | p x => cases x <;> rfl
      | own n => rfl
    have h : te L c.S fun a S1 => match a with | D.p (.tup xs) => Post (enums xs) (fun _ => True) S1 | _ => False := h
    rw [e] at h
    exact h
  · split at h
    · rename_i xs
      cases re with
      | cons r rr =>
        cases rr
        cases (show Rp X.K d.Hk _ (.tup xs) from r) with
        | tup s1 z1 l1 =>
          have n1 := l1.length
          refine ⟨_, _, rfl, SqT.of (d.ok.ex _ _ s1), q d _ _ _ le ⟨by rw [enums_len]; exact z1, fun f i lf _ hi => ?_, fun f i x H' lf _ hi y => ?_, fun f i lf _ hi => ?_⟩ h⟩
          · rw [enums_len] at hi
            exact ⟨_, _, SqT.of (f.ok.ex _ _ (lf.ex _ _ s1)), List.getElem?_eq_getElem (by omega)⟩
          · obtain ⟨T, v, rfl, hT, rfl, fv⟩ := y
            obtain ⟨x, ex, rx⟩ := l1.get (fv _ (SqT.of (f.ok.ex _ _ (lf.ex _ _ s1))))
            obtain ⟨g, eh, es, lg, rg⟩ := f.newTup (vs := [.int (i : Nat), v]) (ps := [.int (i : Nat), x]) hT (.cons (.int _) (.cons (Rp.mono lf.ex _ _ rx) .nil)) (by show 2 ≤ sizeLine; decide)
            exact ⟨g, eh, es, lg, _, enums_at ex, rg⟩
          · rw [enums_len] at hi
            exact ⟨_, SqT.of (f.ok.ex _ _ (lf.ex _ _ s1)), by omega⟩
    · exact h.elim
end Am
/-! Am: dict of a list of pairs whose keys are tuples; pop of such a key; max of three. -/
namespace Am
open PySem PySem.Spec L2
/-! ### dict(xs) -/
abbrev PrT := Addr × Addr × List Key × V
def mergeT (acc : List (List Key × V)) (L : List PrT) : List (List Key × V) := L.foldl (fun acc t => putK acc t.2.2.1 t.2.2.2) acc
theorem mergeT_len : ∀ (L : List PrT) (acc : List (List Key × V)), (mergeT acc L).length ≤ acc.length + L.length
  | [], acc => Nat.le_refl _
  | t :: L, acc => by
    have := mergeT_len L (putK acc t.2.2.1 t.2.2.2)
    have h2 : (putK acc t.2.2.1 t.2.2.2).length ≤ acc.length + 1 := by
      unfold putK
      split
      · rw [List.length_map]; omega
      · rw [List.length_append, List.length_singleton]
        exact Nat.le_refl _
    rw [List.length_cons]
    show (mergeT (putK acc t.2.2.1 t.2.2.2) L).length ≤ _
    omega
structure PrAt (H : Hp) (h : Heap) (t : PrT) (p : List Key × Addr × Value) : Prop where
  key : p.1 = t.2.2.1
  ad : p.2.1 = t.2.1
  val : RelV t.2.2.2 p.2.2
  tup : h.IsTuple t.1 #[.ref t.2.1, p.2.2]
theorem merge_kt {H : Hp} {h : Heap} : ∀ {L : List PrT} {ps : List (List Key × Addr × Value)} {acc : List (List Key × V)} {xs : List (List Key × Addr × Value)}, Paired (PrAt H h) L ps → (∀ t ∈ L, H t.2.1 = some (.tup (t.2.2.1.map kV))) → KT H acc xs → KT H (mergeT acc L) (storedAllH xs ps)
  | _, _, _, _, .nil, _, r => r
  | _, _, acc, xs, .cons (a := t) (b := p) (l₁ := L) (l₂ := ps) q rest, hk, r => by
    have r2 : KT H (putK acc t.2.2.1 t.2.2.2) (storedH xs t.2.2.1 t.2.1 p.2.2) := r.put t.2.2.1 (hk t (by simp)) q.val
    have := merge_kt rest (fun t' ht => hk t' (List.mem_cons_of_mem _ ht)) r2
    show KT H (mergeT (putK acc t.2.2.1 t.2.2.2) L) (storedAllH (storedH xs p.1 p.2.1 p.2.2) ps)
    rw [q.key, q.ad]
    exact this
theorem prs_of {X : Cx} {pins : List (Addr × Obj)} {σ : St} {H : Hp} {s : Shared} (I : L2.Inv X pins σ H s) : ∀ {L : List PrT}, (∀ t ∈ L, SqT X.K H t.1 [.ref t.2.1, t.2.2.2]) → ∃ ps, Paired (PrAt H s.heap) L ps
  | [], _ => ⟨[], .nil⟩
  | t :: L, h => by
    obtain ⟨ps, r⟩ := prs_of I (L := L) fun t' ht => h t' (List.mem_cons_of_mem _ ht)
    obtain ⟨its, rv, ht, _⟩ := I.tuple (h t (by simp))
    obtain ⟨u, y, ei, ru, ry⟩ := vals2 rv
    subst ei
    cases ru
    exact ⟨(t.2.2.1, t.2.1, y) :: ps, .cons ⟨rfl, rfl, ry, ht⟩ r⟩
theorem paired_at {α β : Type} {R : α → β → Prop} : ∀ {xs : List α} {ys : List β}, Paired R xs ys → ∀ {j : Nat} {y : β}, ys[j]? = some y → ∃ x, xs[j]? = some x ∧ R x y
  | _, _, .nil, j, y, h => by simp at h
  | _, _, .cons (a := a) (b := b) q rest, 0, y, h => by
    have : b = y := by simpa using h
    subst this
    exact ⟨a, rfl, q⟩
  | _, _, .cons q rest, j + 1, y, h => by
    obtain ⟨x, h1, h2⟩ := paired_at rest (j := j) (y := y) (by simpa using h)
    exact ⟨x, by simpa using h1, h2⟩
def rDictT (K : PySem.W.Frag) : List V → Hp → VK → Prop := fun xs H Q => ∃ (a : Addr) (L : List PrT), xs = [.ref a] ∧ SqL K H a (L.map fun t => V.ref t.1) ∧ (∀ t ∈ L, SqT K H t.1 [.ref t.2.1, t.2.2.2] ∧ H t.2.1 = some (.tup (t.2.2.1.map kV))) ∧ ∀ p, H p = none → Q (.ref p) (upd H p (.dT (mergeT [] L)))
theorem call_dictT {X : Cx} (hcalm : X.calm = true) (hu : X.A.units + 2 < cLine) : CallR X (.type "dict") (rDictT X.K) := by
  intro pins s σ H xs us Q I r q
  obtain ⟨a, L, ex, hq, hp, q⟩ := q
  subst ex
  obtain ⟨u, eu, rx⟩ := vals1 r
  subst eu
  cases rx
  obtain ⟨its, rv, pl, hz⟩ := I.list hq
  have ei : its = (L.map (·.1)).map Value.ref := refs_at (ps := L.map (·.1)) (by rw [List.map_map]; exact rv)
  subst ei
  rw [List.length_map] at hz
  obtain ⟨ps, pr⟩ := prs_of I fun t ht => (hp t ht).1
  have hl : L.length = ps.length := Paired.length pr
  obtain ⟨o, n, ho, hc, hd, hdat⟩ := pl
  have P := PairArg.list (prog := X.prog) (w := X.w) a ((L.map (·.1)).map Value.ref).toArray (fun j => (L[j]?.map (·.1)).getD 0) (ps.map fun p => (Value.ref p.2.1, p.2.2))
  have hat : ∀ {j : Nat} {p : List Key × Addr × Value}, ps[j]? = some p → ∃ t, L[j]? = some t ∧ PrAt H s.heap t p := fun {j p} e => paired_at pr e
  refine call_dict_pairsH (knd := tupleKind (mixKind X.prog X.w)) (ps := ps) P (I.ok.hd hcalm) (show X.A.units + 2 < cLine from hu) ⟨⟨o, n, ho, hc, hd, hdat⟩, by simp [hl], fun j k v e => ?_⟩ ⟨by simp, fun j key v e => ?_⟩ (fun h' hk x hx => ?_) (by rw [List.length_map, ← hl]; exact hz) fun h' tk hd' k => ?_
  · rw [List.getElem?_map] at e
    obtain ⟨p, e1, e2⟩ := Option.map_eq_some_iff.mp e
    obtain ⟨t, e3, e4⟩ := hat e1
    cases e2
    refine ⟨by simp [e3], .inl ?_⟩
    show s.heap.IsTuple ((L[j]?.map (·.1)).getD 0) _
    rw [e3, e4.ad]
    exact e4.tup
  · have e : (ps.map fun p => (Value.ref p.2.1, p.2.2))[j]? = some (key, v) := e
    rw [List.getElem?_map] at e
    obtain ⟨p, e1, e2⟩ := Option.map_eq_some_iff.mp e
    cases e2
    exact ⟨p.1, p.2.1, e1, rfl⟩
  · obtain ⟨j, hj⟩ := List.mem_iff_getElem?.mp hx
    obtain ⟨t, e3, e4⟩ := hat hj
    have hkey := key_of I.hok (hp t (List.mem_of_getElem? e3)).2
    rw [e4.key, e4.ad]
    obtain ⟨o, its, n, h1, h2⟩ := hkey
    exact ⟨o, its, n, hk _ _ (Nat.ne_of_lt (Heap.lt_size h1)) (by simp) h1, h2⟩
  · have hm : (s.heap.objs.size == sysModules) = false := beq_eq_false_iff_ne.mpr (Nat.ne_of_gt I.big)
    have hlen : (mergeT [] L).length ≤ sizeLine := by
      have := mergeT_len L []
      rw [List.length_nil, Nat.zero_add] at this
      omega
    have kt : KT H (mergeT [] L) (storedAllH [] ps) := merge_kt pr (fun t ht => (hp t ht).2) .nil
    have fr := I.hok.fresh (Nat.le_refl s.heap.objs.size)
    obtain ⟨o2, es, ep, hq2, g2, g3, g4, _, g5⟩ := hd'
    exact ⟨.ref s.heap.objs.size, upd H s.heap.objs.size (.dT (mergeT [] L)), I.laid (t' := tk) (fun b o e => k b o (by simp) e) (Nat.le_refl _) (show ObjOk X.prog X.w _ _ _ (.dT (mergeT [] L)) from ⟨hlen, hm, _, kt.keeps (fun c ys ec => by rw [upd_ne (ne_of_none ec fr)]; exact ec), o2, es, ep, hq2, g2, g3, g4, g5⟩), rfl, q _ fr⟩
/-- dict(xs), xs a list of pairs (tuple, thing) -/
def prE (kv : List Key × P) : P := .tup [.tup (kv.1.map unK), kv.2]
def putAll (kvs : List (List Key × P)) : List (List Key × D) := kvs.foldl (fun acc kv => pt acc kv.1 (.p kv.2)) []
def aDictT : A1 := fun a S Post => ∃ kvs : List (List Key × P), lsAt S a (kvs.map prE) ∧ Post (.own S.length) (S ++ [.dt (putAll kvs)])
theorem rpl_keys {K : PySem.W.Frag} {H : Hp} : ∀ {ks : List Key} {vs : List V}, RpL K H vs (ks.map unK) → vs = ks.map kV
  | [], _, h => by cases h; rfl
  | .inl i :: ks, _, h => by
    cases h with
    | cons r l => cases r; rw [rpl_keys l]; rfl
  | .inr x :: ks, _, h => by
    cases h with
    | cons r l => cases r; rw [rpl_keys l]; rfl
theorem prs_split {K : PySem.W.Frag} {H : Hp} : ∀ {kvs : List (List Key × P)} {vs : List V}, RpL K H vs (kvs.map prE) → ∃ L : List PrT, vs = L.map (fun t => V.ref t.1) ∧ (∀ t ∈ L, H t.1 = some (.tup [.ref t.2.1, t.2.2.2]) ∧ H t.2.1 = some (.tup (t.2.2.1.map kV))) ∧ Paired (fun t kv => t.2.2.1 = kv.1 ∧ Rp K H t.2.2.2 kv.2) L kvs
  | [], _, h => by cases h; exact ⟨[], rfl, (fun _ h => nomatch h), .nil⟩
  | kv :: kvs, _, h => by
    cases h with
    | cons r l =>
      obtain ⟨L, rfl, h2, h3⟩ := prs_split l
      cases (show Rp K H _ (.tup [.tup (kv.1.map unK), kv.2]) from r) with
      | tup s z l2 =>
        cases l2 with
        | cons r1 l3 =>
          cases l3 with
          | cons r2 l4 =>
            cases l4
            cases r1 with
            | tup s1 z1 l1 =>
              have e := rpl_keys l1
              subst e
              rename_i a b v
              refine ⟨(a, v, kv.1, b) :: L, rfl, fun t ht => ?_, .cons ⟨rfl, r2⟩ h3⟩
              rcases List.mem_cons.mp ht with rfl | ht
              · exact ⟨s, s1⟩
              · exact h2 t ht
theorem merge_ent {K : PySem.W.Frag} {η : List Addr} {Hk : Hp} : ∀ {L : List PrT} {kvs : List (List Key × P)} {acc : List (List Key × V)} {ds : List (List Key × D)}, Paired (fun t kv => t.2.2.1 = kv.1 ∧ Rp K Hk t.2.2.2 kv.2) L kvs → ReE K η Hk acc ds → ReE K η Hk (mergeT acc L) (kvs.foldl (fun acc kv => pt acc kv.1 (.p kv.2)) ds)
  | _, _, _, _, .nil, r => r
  | _, _, acc, ds, .cons (a := t) (b := kv) (l₁ := L) (l₂ := kvs) q rest, r => by
    have r2 : ReE K η Hk (putK acc t.2.2.1 t.2.2.2) (pt ds kv.1 (.p kv.2)) := by rw [← q.1]; exact r.pt q.2
    show ReE K η Hk (mergeT (putK acc t.2.2.1 t.2.2.2) L) (kvs.foldl (fun acc kv => pt acc kv.1 (.p kv.2)) (pt ds kv.1 (.p kv.2)))
    exact merge_ent rest r2
theorem putAll_len (kvs : List (List Key × P)) : ∀ ds : List (List Key × D), (kvs.foldl (fun acc kv => pt acc kv.1 (.p kv.2)) ds).length ≤ ds.length + kvs.length := by
  induction kvs with
  | nil => intro ds; exact Nat.le_refl _
  | cons kv kvs ih =>
    intro ds
    have := ih (pt ds kv.1 (.p kv.2))
    have := pt_length ds kv.1 (D.p kv.2)
    rw [List.foldl_cons, List.length_cons]
    omega
section
variable {X : Cx} {e : Expr} {te : AE} {p pos : Pos}
theorem je_dictT (hc : X.calm = true) (hu : X.A.units + 65 < cLine) (hg : Gl X "dict") (hm : X.mg "dict" = none) (he : JE X e te) (h1 : starEach [e] X.env = (false, eval e X.env) :: starEach [] X.env := by rfl) (hpl : (backTo pos (starEach [] X.env)).any (·.1) = false := by rfl) : JE X (.Call (.Name "dict" p) [e] [] pos) (aCall (a1 aDictT) (aCons te aNil)) :=
  je_callTy (call_dictT hc (by omega)) (lift_1 ⟨fun c x a Post Q ra h q => by
    obtain ⟨kvs, la, h⟩ := h
    obtain ⟨b, vs, rfl, s, l, z⟩ := c.ls ra la
    obtain ⟨L, rfl, h2, h3⟩ := prs_split l
    refine ⟨b, L, rfl, SqL.of s, fun t ht => ⟨SqT.of (c.ok.ex _ _ (h2 t ht).1), c.ok.ex _ _ (h2 t ht).2⟩, fun p hp => ?_⟩
    rw [List.length_map] at z
    have zz : (putAll kvs).length ≤ sizeLine := by
      have := putAll_len kvs []
      rw [List.length_nil, Nat.zero_add] at this
      unfold putAll
      omega
    obtain ⟨k, st⟩ := c.ok.allocOwn (u := .dT (mergeT [] L)) (o := .dt (putAll kvs)) hp ⟨zz, _, upd_same, merge_ent (K := X.K) h3 .nil⟩
    exact q ⟨_, _, _, _, k⟩ _ (.own c.S.length) st ⟨p, by show (c.η ++ [p])[c.S.length]? = some p; rw [← c.ok.len]; simp, rfl⟩ h⟩) hg hm (by decide +kernel) (ja_cons he ja_nil h1) (he := h1) (hpl := hpl)
end
end Am
/-! Am: an owned dict walked by its keys, locked meanwhile; pop of a tuple key; max of three. -/
namespace Am
open PySem PySem.Spec L2
theorem ReE.get {κ : Type} {K : PySem.W.Frag} {η : List Addr} {Hk : Hp} : ∀ {vs : List (κ × V)} {ds : List (κ × D)} {i : Nat} {k : κ} {v : V}, ReE K η Hk vs ds → vs[i]? = some (k, v) → ∃ x, ds[i]? = some (k, x)
  | _, _, _, _, _, .nil, e => by simp at e
  | _, _, 0, k, v, .cons (x := x) r l, e => by
    simp at e
    obtain ⟨rfl, rfl⟩ := e
    exact ⟨x, rfl⟩
  | _, _, i + 1, k, v, .cons r l, e => by
    obtain ⟨x, h⟩ := ReE.get l (i := i) (by simpa using e)
    exact ⟨x, by simpa using h⟩
theorem Cf.unlk {K : PySem.W.Frag} (d : Cf K) {n : Nat} {a : Addr} {od : Obj} {ks : List (List Key × V)} {kvs : List (List Key × D)} (ea : d.η[n]? = some a) (e : d.S[n]? = some (.ft od ks kvs)) :
    d.H a = some (.frz od (.dT ks)) ∧ ∃ f : Cf K, f.H = upd d.H a (.dT ks) ∧ f.S = d.S.set n (.dt kvs) ∧ d.Le f := by
  obtain ⟨z, h1, l⟩ := d.ok.obj n a _ ea e
  refine ⟨h1, ?_⟩
  obtain ⟨k, s⟩ := d.ok.write (o := .dt kvs) (u := .dT ks) ea e (by intro h; cases h) ⟨z, ks, upd_same, l⟩
  exact ⟨⟨_, _, _, _, k⟩, rfl, rfl, s⟩
/-- a statement while an owned dict is locked -/
def sLk (t : AS) : AS := fun E L S => ∃ n kvs, S[n]? = some (.dt kvs) ∧ ∀ od ks, t
  ⟨fun L' S' => S'[n]? = some (.ft od ks kvs) ∧ E.nx L' (S'.set n (.dt kvs)), fun a S' => S'[n]? = some (.ft od ks kvs) ∧ E.rt a (S'.set n (.dt kvs)),
   fun L' S' => S'[n]? = some (.ft od ks kvs) ∧ E.bk L' (S'.set n (.dt kvs)), fun L' S' => S'[n]? = some (.ft od ks kvs) ∧ E.ct L' (S'.set n (.dt kvs))⟩ L (S.set n (.ft od ks kvs))
theorem js_lk {X : Cx} {st : Stmt} {t : AS} (h : JS X st t) : JS X st (sLk t) := by
  obtain ⟨t1, p1, l1⟩ := h
  refine ⟨_, ps_lock p1, ⟨fun c L σ E D hs h k1 k2 k3 k4 => ?_⟩⟩
  obtain ⟨n, kvs, e2, h⟩ := h
  have hl : n < c.η.length := by rw [c.ok.len]; exact (List.getElem?_eq_some_iff.mp e2).1
  obtain ⟨a, e1⟩ : ∃ a, c.η[n]? = some a := ⟨_, List.getElem?_eq_getElem hl⟩
  obtain ⟨z, ks, e3, l⟩ := c.ok.obj n a _ e1 e2
  refine ⟨a, .dT ks, e3, trivial, fun od => ?_⟩
  obtain ⟨k, s⟩ := c.ok.write (o := .ft od ks kvs) (u := .frz od (.dT ks)) e1 e2 (by intro h; cases h) ⟨z, upd_same, l⟩
  let e : Cf X.K := ⟨_, _, _, _, k⟩
  have le : c.Le e := s
  have at_ : ∀ {d : Cf X.K}, e.Le d → d.η[n]? = some a := fun {d} le2 => by
    obtain ⟨m, em⟩ := le2.pre
    have : e.η[n]? = some a := e1
    rw [em, List.getElem?_append_left hl]
    exact this
  refine l1.run e L σ _ _ (le.sl hs) (h od ks) (fun d σ' L' le2 hs2 ⟨h1, h2⟩ => ?_) (fun d v a' le2 r ⟨h1, h2⟩ => ?_) (fun d σ' L' le2 hs2 ⟨h1, h2⟩ => ?_) (fun d σ' L' le2 hs2 ⟨h1, h2⟩ => ?_)
  · obtain ⟨q1, f, q2, q3, lf⟩ := d.unlk (at_ le2) h1
    refine ⟨q1, ?_⟩
    rw [← q2]
    exact k1 f σ' L' (le.trans (le2.trans lf)) (lf.sl hs2) (by rw [q3]; exact h2)
  · obtain ⟨q1, f, q2, q3, lf⟩ := d.unlk (at_ le2) h1
    refine ⟨q1, ?_⟩
    rw [← q2]
    exact k2 f v a' (le.trans (le2.trans lf)) (lf.re r) (by rw [q3]; exact h2)
  · obtain ⟨q1, f, q2, q3, lf⟩ := d.unlk (at_ le2) h1
    refine ⟨q1, ?_⟩
    rw [← q2]
    exact k3 f σ' L' (le.trans (le2.trans lf)) (lf.sl hs2) (by rw [q3]; exact h2)
  · obtain ⟨q1, f, q2, q3, lf⟩ := d.unlk (at_ le2) h1
    refine ⟨q1, ?_⟩
    rw [← q2]
    exact k4 f σ' L' (le.trans (le2.trans lf)) (lf.sl hs2) (by rw [q3]; exact h2)
/-- for k in d, d owned and locked -/
def aiKeysO (te : AE) : AI := fun L S Post => te L S fun a S1 => match a with
  | .own n => (match S1[n]? with
    | some (.ft od ks kvs) => (∀ kv ∈ kvs, kv.1.length ≤ 1000) ∧ Post (kvs.map fun kv => .p (.tup (kv.1.map unK))) (fun S' => S'[n]? = some (.ft od ks kvs)) S1
    | _ => False)
  | _ => False
theorem ji_keysO {X : Cx} {tg e : Expr} {te : AE} (h : JE X e te) : JI X tg e (aiKeysO te) := by
  obtain ⟨t1, p1, l1⟩ := h
  refine ⟨_, pi_keys p1, ⟨fun c L σ Post R hs h q => l1.run c L σ _ _ hs h fun d v a le re h => ?_⟩⟩
  split at h
  · rename_i n
    split at h
    · rename_i od ks kvs e0
      obtain ⟨hk, h⟩ := h
      obtain ⟨b, eb, rfl⟩ := (show ∃ b, d.η[n]? = some b ∧ v = .ref b from re)
      have hn : n < d.η.length := (List.getElem?_eq_some_iff.mp eb).1
      have at_ : ∀ {f : Cf X.K}, d.Gr f → f.S[n]? = some (.ft od ks kvs) → f.H b = some (.frz od (.dT ks)) ∧ ReE X.K f.η f.Hk ks kvs := fun {f} lf hf => by
        obtain ⟨m, em⟩ := lf.pre
        have : f.η[n]? = some b := by rw [em, List.getElem?_append_left hn]; exact eb
        obtain ⟨z, h1, h2⟩ := f.ok.obj n b _ this hf
        exact ⟨h1, h2⟩
      obtain ⟨z, h1, h2⟩ := d.ok.obj n b _ eb e0
      have n1 := ReE.length h2
      refine ⟨_, _, rfl, .inr ⟨_, h1, q d _ _ _ le ⟨by rw [List.length_map]; exact z, fun f i lf hf hi => ⟨(at_ lf hf).1, by rw [List.length_map] at hi; omega⟩, fun f i x H' lf hf hi y => ?_, fun f i lf hf hi => ⟨(at_ lf hf).1, by rw [List.length_map] at hi; omega⟩⟩ h⟩⟩
      obtain ⟨rfl, k, v0, q0, ev, rfl, hq⟩ := y
      obtain ⟨x0, ex⟩ := (at_ lf hf).2.get ev
      obtain ⟨g, g1, g2, lg, rg⟩ := f.key hq (hk _ (List.mem_of_getElem? ex))
      refine ⟨g, g1, g2, lg, _, ?_, rg⟩
      rw [List.getElem?_map, ex]
      rfl
    · exact h.elim
  · exact h.elim
/-! ### d.pop(k), k there -/
section
variable {prog : Program} {w : World} {K : Type} [DecidableEq K] {knd : HeapKind prog w K}
theorem meetsPop1 {d b : Addr} {k : K} (hd : (d == sysModules) = false) :
    MeetsIn prog w (Builtin.«dict.pop» ⟨[.ref d, .ref b], []⟩) (fun A R s => ∃ xs p, knd.room A.in1 ∧ knd.is s.heap k b ∧ s.heap.DictOfH knd d xs ∧ xs.length ≤ sizeLine ∧ atKey xs k = some p ∧
      ∀ h' tk, h'.DictOfH knd d (DT.dropH xs k) → Heap.SameBut d s.heap h' → R (.ok (.ret p.2)) { s with heap := h', toks := tk }) :=
  .of_wp fun A R s ⟨xs, p0, hu, hkey, hm, hsz, hp0, hsome⟩ => by
    obtain ⟨o, es, ep, ho, hc, hdat, he, his, hn⟩ := id hm
    have hes : es.size = xs.length := size_of_entries he
    have hpart : (keyPart (Value.ref b)).isSome = false := rfl
    unfold Builtin.«dict.pop»
    refine wpAny_bind ?_
    unfold Builtin.Dict.keyAndDefault
    refine wpAny_bind (wpAny_notOrdered_dict hm.typeIs ?_)
    show wpAny _ _ (pure (d, Value.ref b, none)) _ _ s
    refine wpAny_pure ?_
    simp only [hpart, Bool.false_eq_true, if_false]
    refine wpAny_bind (wpAny_dictEntries ho hdat (wpAny_bind (wpAny_pure ?_)))
    cases hem : es.isEmpty with
    | true =>
      have h0 : xs = [] := by
        have z : es.size = 0 := by simpa using hem
        exact List.length_eq_zero_iff.mp (by omega)
      rw [h0] at hp0
      cases hp0
    | false =>
      simp only [Bool.false_eq_true, if_false]
      refine wpAny_bind (DT.takeH hu hkey hm hsz (fun hno => ?_) fun p e hp hev h' hm' hs' => ?_)
      · rw [hp0] at hno
        cases hno
      · simp only [Option.isNone_some, Bool.false_eq_true, if_false]
        obtain rfl : p0 = p := Option.some.inj (hp0.symm.trans hp)
        exact wpAny_bind (wpAny_letGo (wpAny_pure ⟨e.val, rfl, by rw [hev]; exact hsome h' _ hm' hs'⟩))
end
def rPopT1 : V → List V → Hp → VK → Prop := fun x xs H Q => ∃ (a : Addr) (kvs : List (List Key × V)) (k : List Key) (b : Addr) (v : V), x = .ref a ∧ xs = [.ref b] ∧ H a = some (.dT kvs) ∧ H b = some (.tup (k.map kV)) ∧ valV kvs k = some v ∧ Q v (upd H a (.dT (dropK kvs k)))
theorem mt_popT1 {X : Cx} (hu : X.A.units + 65 < cLine) : MtR X "dict.pop" rPopT1 := by
  intro pins s σ H x xs v us Q I rx rxs h
  obtain ⟨a, kvs, k, b, v0, rfl, rfl, ha, hb, ev, q1⟩ := h
  cases rx
  obtain ⟨u1, rfl, r1⟩ := vals1 rxs
  cases r1
  obtain ⟨z, hd, xs', rel, dd⟩ := dt_of I.hok ha
  have hz : xs'.length ≤ sizeLine := by rw [← Paired.length rel]; exact z
  have r := rel.val k
  rw [ev] at r
  cases hp : atKey xs' k with
  | none => rw [hp] at r; exact (show False from r).elim
  | some p =>
    rw [hp] at r
    have rv : RelV v0 p.2 := r
    refine call_meetsIn PySem.F.slot_dict_pop dd.typeIs PySem.F.entry_dict_pop (PySem.F.args_dict_pop_2 _ _) (meetsPop1 (knd := tupleKind (mixKind X.prog X.w)) (k := k) hd)
      ⟨xs', p, tupleKind_room_in1 (by omega), key_of I.hok hb, dd, hz, hp, fun h' tk dd' hs => ?_⟩
    obtain ⟨o, es, ep, hq, h2, h3, h4, _, h5⟩ := dd'
    have I2 : L2.Inv X pins σ (upd H a (.dT (dropK kvs k))) { s with heap := h', toks := tk } :=
      d_write I (by rw [ha]; exact True.intro) hs ⟨o, hq⟩ ⟨Nat.le_trans (dropK_le kvs k) z, hd, _, (DX.KT_drop k rel).keeps (fun c ys ec => (by rw [upd_ne (ne_of ec ha (fun z => nomatch z))]; exact ec)), o, es, ep, hq, h2, h3, h4, h5⟩
    show EP X pins σ Q p.2 _
    exact ⟨v0, _, I2, rv, q1⟩
def aPopT1 : AM := fun a as S Post => match a, as with
  | .own n, [y] => (match S[n]?, dkT y with
    | some (.dt kvs), some k => (match gt kvs k with
      | some x => Post x (S.set n (.dt (dl kvs k)))
      | none => False)
    | _, _ => False)
  | _, _ => False
theorem lift_popT1 {K : PySem.W.Frag} : LiftM K rPopT1 aPopT1 := by
  refine ⟨fun c x a vs as Post Q ra rs h q => ?_⟩
  unfold aPopT1 at h
  split at h
  · rename_i n y
    split at h
    · rename_i kvs k e1 e2
      obtain ⟨p, ws, rfl, g0, g1, l, z⟩ := c.dt_own ra e1
      cases rs with
      | cons r1 rs =>
        cases rs
        obtain ⟨b, rfl, hb⟩ := c.dkT r1 e2
        rcases l.gt (k := k) with ⟨v0, x0, f1, f2, r0⟩ | ⟨f1, f2⟩
        · rw [f2] at h
          refine ⟨p, ws, k, b, v0, rfl, rfl, g1, hb, f1, ?_⟩
          obtain ⟨f, eh, es, lf⟩ := c.setDt g0 e1 (l.dl (k := k)) (Nat.le_trans (dl_length _ _) z)
          rw [← eh]
          exact q f _ _ lf (lf.re r0) (by rw [es]; exact h)
        · rw [f2] at h
          exact h.elim
    · exact h.elim
  · exact h.elim
/-! ### max of three -/
def max3 (a b c : Int) : Int := if b > a then (if c > b then c else b) else (if c > a then c else a)
theorem call_max3 {X : Cx} (hc : X.calm = true) : CallR X (.builtin "max") (fun xs H Q => ∃ i j k, xs = [.int i, .int j, .int k] ∧ Q (.int (max3 i j k)) H) := by
  intro pins s σ H xs us Q I r h
  obtain ⟨i, j, k, rfl, q⟩ := h
  obtain ⟨u1, u2, u3, rfl, ⟨t1, rfl⟩, ⟨t2, rfl⟩, ⟨t3, rfl⟩⟩ := vals3 r
  refine max_three_ints (I.ok.hd hc) fun h' tk kk => ⟨_, H, I.kept kk, ?_, q⟩
  unfold max3
  split
  · split
    · exact ⟨_, rfl⟩
    · exact ⟨_, rfl⟩
  · split
    · exact ⟨_, rfl⟩
    · exact ⟨_, rfl⟩
def a3i (g : Int → Int → Int → Int) : AC := fun as S Post => match as with | [.p (.int i), .p (.int j), .p (.int k)] => Post (.p (.int (g i j k))) S | _ => False
theorem lift_3i {K : PySem.W.Frag} {g : Int → Int → Int → Int} : LiftC K (fun xs H Q => ∃ i j k, xs = [.int i, .int j, .int k] ∧ Q (.int (g i j k)) H) (a3i g) := by
  refine ⟨fun c vs as Post Q re h q => ?_⟩
  unfold a3i at h
  split at h
  · rename_i i j k
    cases re with
    | cons r1 rr =>
      cases rr with
      | cons r2 rr =>
        cases rr with
        | cons r3 rr =>
          cases rr
          cases (show Rp K c.Hk _ (.int i) from r1)
          cases (show Rp K c.Hk _ (.int j) from r2)
          cases (show Rp K c.Hk _ (.int k) from r3)
          exact ⟨i, j, k, rfl, q c _ _ (.refl c) (reI c _) h⟩
  · exact h.elim
theorem je_max3 {X : Cx} {e e2 e3 : Expr} {te te2 te3 : AE} {p pos : Pos} (hc : X.calm = true) (hg : Gl X "max") (hm : X.mg "max" = none) (he : JE X e te) (he2 : JE X e2 te2) (he3 : JE X e3 te3) (h1 : starEach [e, e2, e3] X.env = (false, eval e X.env) :: starEach [e2, e3] X.env := by rfl) (h2 : starEach [e2, e3] X.env = (false, eval e2 X.env) :: starEach [e3] X.env := by rfl) (h3 : starEach [e3] X.env = (false, eval e3 X.env) :: starEach [] X.env := by rfl) (hpl : (backTo pos (starEach [e2, e3] X.env)).any (·.1) = false := by rfl) : JE X (.Call (.Name "max" p) [e, e2, e3] [] pos) (aCall (a3i max3) (aCons te (aCons te2 (aCons te3 aNil)))) :=
  je_callB (call_max3 hc) lift_3i hg hm (by decide +kernel) (ja_cons he (ja_cons he2 (ja_cons he3 ja_nil h3) h2) h1) (he := h1) (hpl := hpl)
/-! ### a, b = a list -/
def agLst (n : Nat) (g : AGs) : AG := fun a L S Post => match a with | .p (.lst xs) => xs.length = n ∧ g (xs.map .p) L S Post | _ => False
theorem jg_lst {X : Cx} {es : List Expr} {k n : Nat} {g : AGs} {pos : Pos} (hc : X.calm = true) (h : JGs X es g) (hn : (assignEach es X.env).length = n := by rfl) (hst : (assignEach es X.env).findIdx? (·.1) = none := by rfl) : JG X (.Tuple es k pos) (agLst n g) := by
  obtain ⟨t1, p1, l1⟩ := h
  refine ⟨_, pg_lst hc p1 hn hst, ⟨fun c L σ v a Post Q hs re h q => ?_⟩⟩
  unfold agLst at h
  split at h
  · rename_i xs
    cases (show Rp X.K c.Hk v (.lst xs) from re) with
    | lst s z l =>
      obtain ⟨hl, h⟩ := h
      exact ⟨_, _, rfl, SqL.of (c.ok.ex _ _ s), by rw [l.length]; exact hl, l1.run c L σ _ _ _ _ hs (ReL.pure l) h q⟩
  · exact h.elim
end Am
/-! Am: two clauses, an owned list; repr of an int. -/
namespace Am
open PySem L2
def aLc2O (ti : AI) (g : AG) (t : AT) (ti1 : AI) (g1 : AG) (t1 : AT) (e : AE) (vs vs1 : List Nat) : AE := fun L S Post => ti L S fun items keep S1 => lc2Run keep g t ti1 g1 t1 e vs1 (wipeL L vs) (fun acc S2 => Post (.own S2.length) (S2 ++ [.lst acc])) items [] S1
section
variable {K : PySem.W.Frag}
theorem lift_lc2O {wi wi1 : TI} {tg tg1 : TG} {tt tt1 : TT} {te : TE} {ti ti1 : AI} {g g1 : AG} {t t1 : AT} {e : AE} {vs vs1 : List Nat} (l1 : LiftI K wi ti)
    (l2 : ∀ (c : Cf K) (L : Ls) (σ : St) (v : V) (a : Am.D) (Post : Ls → List O → Prop) (Q : St → Hp → Prop), c.sl (wipe σ vs) L → c.re v a → g a L c.S Post →
      (∀ (d : Cf K) σ' L', c.Le d → d.sl σ' L' → wipe σ' vs = wipe σ vs → Post L' d.S → Q σ' d.H) → tg v (wipe σ vs) c.H Q) (l3 : LiftT K tt t) (li1 : LiftI K wi1 ti1)
    (l21 : ∀ (c : Cf K) (L : Ls) (σ : St) (v : V) (a : Am.D) (Post : Ls → List O → Prop) (Q : St → Hp → Prop), c.sl (wipe σ vs1) L → c.re v a → g1 a L c.S Post →
      (∀ (d : Cf K) σ' L', c.Le d → d.sl σ' L' → wipe σ' vs1 = wipe σ vs1 → Post L' d.S → Q σ' d.H) → tg1 v (wipe σ vs1) c.H Q) (l31 : LiftT K tt1 t1) (l4 : LiftE K te e) : LiftE K (tLc2 wi tg tt wi1 tg1 tt1 te vs vs1) (aLc2O ti g t ti1 g1 t1 e vs vs1) := by
  refine ⟨fun c L σ Post Q hs h q => lift_lc2 l1 l2 l3 li1 l21 l31 l4 c L σ _ Q hs h fun d D xs acc le nD kD cD hH hz rl p => ?_⟩
  obtain ⟨f, e1, e2, e3, e4, lf⟩ := le.adoptOwn (o := .lst acc) nD kD cD ⟨_, hH⟩ ⟨hz, xs, hH, rl.mono' ⟨.refl _, ⟨[D], rfl⟩⟩⟩
  rw [← e1]
  refine q f (.ref D) (.own d.S.length) lf ⟨D, ?_, rfl⟩ (by rw [e2]; exact p)
  rw [e3, ← d.ok.len]
  simp
end
section
variable {X : Cx}
theorem js_setLc2O (i : Nat) {y : Str} {py spos : Pos} {elt tg iter tg1 iter1 : Expr} {ifs ifs1 : List Expr} {scope : Scope} {own : List (Str × Nat)} {vs1 : List Nat} {pos : Pos} {ti ti1 : AI} {g g1 : AG} {t t1 : AT} {e : AE} (hc : X.calm = true) (hN : X.N.Nodup)
    (hsw : swapsWith (.ListComp elt [⟨tg, iter, ifs, 0⟩, ⟨tg1, iter1, ifs1, 0⟩] scope pos) (some (.Name y py)) spos.line X.env = pure true) (hi : JI X tg iter ti) (ok : BlkOk X.N X.env.scope scope own) (hv : ∀ i ∈ vs1, i ∈ own.map (·.2))
    (hg : Blk X scope fun Y => JGo Y (own.map (·.2)) tg g) (ht : Blk X scope fun Y => JTs Y ifs t) (hi1 : Blk X scope fun Y => JI Y tg1 iter1 ti1) (hg1 : Blk X scope fun Y => JGo Y vs1 tg1 g1) (ht1 : Blk X scope fun Y => JTs Y ifs1 t1) (he : Blk X scope fun Y => JE Y elt e)
    (hy : X.N[i]? = some y := by rfl) (hyl : X.env.scope.names.lookup y = some .local := by rfl) (hs : ∀ x, foldedSetIterable iter X.env x = pure x := by intro _; rfl) (hs1 : ∀ env x, foldedSetIterable iter1 env x = pure x := by intro _ _; rfl) :
    JS X (.Assign [.Name y py] (.ListComp elt [⟨tg, iter, ifs, 0⟩, ⟨tg1, iter1, ifs1, 0⟩] scope pos) spos) (sAsg (aLc2O ti g t ti1 g1 t1 e (own.map (·.2)) vs1) (agName i)) := by
  obtain ⟨wi, p1, l1⟩ := hi
  exact ⟨_, ps_setLc2 hc hN hy hyl hsw p1 ok hv (fun s H C cl fp => (hg s H C cl fp).can) (fun s H C cl fp => (ht s H C cl fp).can) (fun s H C cl fp => (hi1 s H C cl fp).can) (fun s H C cl fp => (hg1 s H C cl fp).can) (fun s H C cl fp => (ht1 s H C cl fp).can) (fun s H C cl fp => (he s H C cl fp).can) hs hs1,
    lift_setLc (lift_lc2O l1 conG_lift conT_lift conI_lift conG_lift conT_lift conE_lift)⟩
theorem je_reprI {e : Expr} {te : AE} {p pos : Pos} (hg : Gl X "repr") (hm : X.mg "repr" = none) (he : JE X e te) (h1 : starEach [e] X.env = (false, eval e X.env) :: starEach [] X.env := by rfl) (hpl : (backTo pos (starEach [] X.env)).any (·.1) = false := by rfl) : JE X (.Call (.Name "repr" p) [e] [] pos) (aCall (a1 aStr) (aCons te aNil)) :=
  je_callB (SkE.call_repr_int) (lift_1 ⟨fun c x a Post Q ra h q => by
    unfold aStr at h
    split at h
    · rename_i i
      cases (show Rp X.K c.Hk x (.int i) from ra)
      exact ⟨i, rfl, h.1, q c _ _ (.refl c) (reS c _) h.2⟩
    · exact h.elim⟩) hg hm (by decide +kernel) (ja_cons he ja_nil h1) (he := h1) (hpl := hpl)
end
end Am
/-! Am: reversed(range(..)). -/
namespace Am
open PySem L2
theorem Wk.rangeC {K : PySem.W.Frag} {c : Cf K} {lo st : Int} {n : Nat} (z : n ≤ sizeLine) : Wk K c (Itc lo st n) ((List.range n).map fun k => D.p (.int (lo + ((k : Nat) : Int) * st))) (fun _ => True) := by
  refine ⟨by simpa using z, fun d i le hk hi => (by simpa using hi : i < n), fun d i x H' le hk hi y => ?_, fun d i le hk hi => (by simpa using hi : n ≤ i)⟩
  obtain ⟨rfl, rfl⟩ := y
  have hi : i < n := by simpa using hi
  refine ⟨d, rfl, rfl, .refl d, .p (.int (lo + ((i : Nat) : Int) * st)), ?_, .int _⟩
  rw [List.getElem?_map, List.getElem?_range hi]
  rfl
def aiRevR (t : Ls → List O → (Int → Int → List O → Prop) → Prop) : AI := fun L S Post => t L S fun a b S1 => RgOk a b ∧ Post ((List.range (b - a).toNat).map fun k => .p (.int (a + (((b - a).toNat : Nat) : Int) - 1 + ((k : Nat) : Int) * (-1)))) (fun _ => True) S1
theorem ji_revR {X : Cx} {tg e : Expr} {tr : Ls → List O → (Int → Int → List O → Prop) → Prop} {p pos : Pos} (hg : Gl X "reversed") (hm : X.mg "reversed" = none) (he : JRg X e tr) (hs : starEach [e] X.env = (false, eval e X.env) :: starEach [] X.env := by rfl) : JI X tg (.Call (.Name "reversed" p) [e] [] pos) (aiRevR tr) := by
  obtain ⟨t1, p1, l1⟩ := he
  refine ⟨_, pi_revR hg hm p1 hs, ⟨fun c L σ Post R hs h q => l1 c L σ _ _ hs h fun d a b le h => ?_⟩⟩
  obtain ⟨⟨h1, h2, h3, h4, h5⟩, h⟩ := h
  exact ⟨h1, h2, h3, h4, q d _ _ _ le (Wk.rangeC (by rw [sizeLine_eq]; omega)) h⟩
end Am
namespace Lw
open PySem PySem.Spec PyProof.Rows L2 Am
theorem hu65 {k : Nat} {A : Around} (hr : Room k A) : A.units + 65 < cLine := by have := hr.un; omega
def topS (i : Nat) : Stmt := PySem.Challenge.pw_everlater_k80_whole_spared_lots.main.body.getD i (.Pass ⟨0, 0, 0, 0⟩)
abbrev st_later_than : Stmt := topS 6
abbrev ns_later_than : List Str := ["lot", "found", "mark", "later", "earlier"]
theorem sc_later_than : FnScope ns_later_than ["lot"] (defScope st_later_than) := ⟨rfl, rfl, rfl, by decide +kernel, rfl, by decide +kernel, by decide +kernel⟩
abbrev st_levels : Stmt := topS 7
abbrev ns_levels : List Str := ["lot", "most", "later", "found", "size", "here", "row", "marks", "mark", "other"]
theorem sc_levels : FnScope ns_levels ["lot", "most"] (defScope st_levels) := ⟨rfl, rfl, rfl, by decide +kernel, rfl, by decide +kernel, by decide +kernel⟩
abbrev st_parts_with : Stmt := topS 8
abbrev ns_parts_with : List Str := ["row", "mark", "at"]
theorem sc_parts_with : FnScope ns_parts_with ["row", "mark"] (defScope st_parts_with) := ⟨rfl, rfl, rfl, by decide +kernel, rfl, by decide +kernel, by decide +kernel⟩
abbrev st_peeled : Stmt := topS 9
abbrev ns_peeled : List Str := ["above", "good", "waiting", "row", "marks", "mark", "part", "gone", "here", "number", "later"]
theorem sc_peeled : FnScope ns_peeled ["above"] (defScope st_peeled) := ⟨rfl, rfl, rfl, by decide +kernel, rfl, by decide +kernel, by decide +kernel⟩
abbrev st_book : Stmt := topS 10
abbrev ns_book : List Str := ["lot", "n", "above", "gone", "row"]
theorem sc_book : FnScope ns_book ["lot", "n"] (defScope st_book) := ⟨rfl, rfl, rfl, by decide +kernel, rfl, by decide +kernel, by decide +kernel⟩
abbrev st_serves : Stmt := topS 11
abbrev ns_serves : List Str := ["lot", "n"]
theorem sc_serves : FnScope ns_serves ["lot", "n"] (defScope st_serves) := ⟨rfl, rfl, rfl, by decide +kernel, rfl, by decide +kernel, by decide +kernel⟩
abbrev st_reach : Stmt := topS 12
abbrev ns_reach : List Str := ["lot", "found"]
theorem sc_reach : FnScope ns_reach ["lot"] (defScope st_reach) := ⟨rfl, rfl, rfl, by decide +kernel, rfl, by decide +kernel, by decide +kernel⟩
abbrev st_lot_of : Stmt := topS 15
abbrev ns_lot_of : List Str := ["many", "pairs"]
theorem sc_lot_of : FnScope ns_lot_of ["many", "pairs"] (defScope st_lot_of) := ⟨rfl, rfl, rfl, by decide +kernel, rfl, by decide +kernel, by decide +kernel⟩
abbrev st_part : Stmt := topS 16
abbrev ns_part : List Str := ["lot", "marks", "at", "number", "mark", "x", "y"]
theorem sc_part : FnScope ns_part ["lot", "marks"] (defScope st_part) := ⟨rfl, rfl, rfl, by decide +kernel, rfl, by decide +kernel, by decide +kernel⟩
abbrev st_want_few : Stmt := topS 17
abbrev ns_want_few : List Str := ["many"]
theorem sc_want_few : FnScope ns_want_few ["many"] (defScope st_want_few) := ⟨rfl, rfl, rfl, by decide +kernel, rfl, by decide +kernel, by decide +kernel⟩
abbrev st_beside : Stmt := topS 18
abbrev ns_beside : List Str := ["lot", "other", "first", "many", "pairs", "x", "y"]
theorem sc_beside : FnScope ns_beside ["lot", "other"] (defScope st_beside) := ⟨rfl, rfl, rfl, by decide +kernel, rfl, by decide +kernel, by decide +kernel⟩
abbrev st_spare : Stmt := topS 20
abbrev ns_spare : List Str := ["lot", "n", "kept", "mark", "fewer", "one"]
theorem sc_spare : FnScope ns_spare ["lot", "n"] (defScope st_spare) := ⟨rfl, rfl, rfl, by decide +kernel, rfl, by decide +kernel, by decide +kernel⟩
abbrev st_law_pot : Stmt := topS 22
abbrev ns_law_pot : List Str := ["_law_script", "_law_k", "_law_cell", "_law_own"]
theorem sc_law_pot : FnScope ns_law_pot ["_law_script", "_law_k"] (defScope st_law_pot) := ⟨rfl, rfl, rfl, by decide +kernel, rfl, by decide +kernel, by decide +kernel⟩
abbrev st_law_take : Stmt := topS 23
abbrev ns_law_take : List Str := ["_law_pot_here", "_law_size", "_law_digit", "_law_turn", "_law_prime", "_law_mixed"]
theorem sc_law_take : FnScope ns_law_take ["_law_pot_here", "_law_size"] (defScope st_law_take) := ⟨rfl, rfl, rfl, by decide +kernel, rfl, by decide +kernel, by decide +kernel⟩
abbrev st_law_of : Stmt := topS 24
abbrev ns_law_of : List Str := ["_law_pot_here", "_law_some"]
theorem sc_law_of : FnScope ns_law_of ["_law_pot_here", "_law_some"] (defScope st_law_of) := ⟨rfl, rfl, rfl, by decide +kernel, rfl, by decide +kernel, by decide +kernel⟩
abbrev st_law_drawn : Stmt := topS 25
abbrev ns_law_drawn : List Str := ["_law_pot_here", "_law_most", "_law_size", "_law_share", "_law_found", "_law_x", "_law_y", "_law_way"]
theorem sc_law_drawn : FnScope ns_law_drawn ["_law_pot_here", "_law_most"] (defScope st_law_drawn) := ⟨rfl, rfl, rfl, by decide +kernel, rfl, by decide +kernel, by decide +kernel⟩
abbrev st_law_circle : Stmt := topS 26
abbrev ns_law_circle : List Str := ["_law_size", "_law_steps", "_law_found", "_law_x", "_law_y"]
theorem sc_law_circle : FnScope ns_law_circle ["_law_size", "_law_steps"] (defScope st_law_circle) := ⟨rfl, rfl, rfl, by decide +kernel, rfl, by decide +kernel, by decide +kernel⟩
abbrev st_law_line : Stmt := topS 27
abbrev ns_law_line : List Str := ["_law_size", "_law_found", "_law_x", "_law_y"]
theorem sc_law_line : FnScope ns_law_line ["_law_size"] (defScope st_law_line) := ⟨rfl, rfl, rfl, by decide +kernel, rfl, by decide +kernel, by decide +kernel⟩
abbrev st_law_lot : Stmt := topS 28
abbrev ns_law_lot : List Str := ["_law_pot_here", "_law_most", "_law_known", "_law_lot_here"]
theorem sc_law_lot : FnScope ns_law_lot ["_law_pot_here", "_law_most"] (defScope st_law_lot) := ⟨rfl, rfl, rfl, by decide +kernel, rfl, by decide +kernel, by decide +kernel⟩
abbrev st_law_thick : Stmt := topS 29
abbrev ns_law_thick : List Str := ["_law_pot_here", "_law_size", "_law_found", "_law_x", "_law_y", "_law_way"]
theorem sc_law_thick : FnScope ns_law_thick ["_law_pot_here"] (defScope st_law_thick) := ⟨rfl, rfl, rfl, by decide +kernel, rfl, by decide +kernel, by decide +kernel⟩
abbrev st_law_is_refused : Stmt := topS 30
abbrev ns_law_is_refused : List Str := ["_law_lot_here", "_law_n"]
theorem sc_law_is_refused : FnScope ns_law_is_refused ["_law_lot_here", "_law_n"] (defScope st_law_is_refused) := ⟨rfl, rfl, rfl, by decide +kernel, rfl, by decide +kernel, by decide +kernel⟩
abbrev st_law_spared_right : Stmt := topS 31
abbrev ns_law_spared_right : List Str := ["_law_lot_here", "_law_n", "_law_marks", "_law_left", "_law_size", "_law_mark", "_law_other", "_law_x", "_law_y"]
theorem sc_law_spared_right : FnScope ns_law_spared_right ["_law_lot_here", "_law_n"] (defScope st_law_spared_right) := ⟨rfl, rfl, rfl, by decide +kernel, rfl, by decide +kernel, by decide +kernel⟩
abbrev st_law : Stmt := topS 32
abbrev ns_law : List Str := ["_law_script", "_law_k", "_law_pot_here", "_law_turn", "_law_lot_here", "_law_far", "_law_n"]
theorem sc_law : FnScope ns_law ["_law_script"] (defScope st_law) := ⟨rfl, rfl, rfl, by decide +kernel, rfl, by decide +kernel, by decide +kernel⟩
abbrev st_Fails_init : Stmt := inClass (topS 3) 0
theorem sc_Fails_init : FnScope ["self"] ["self"] (defScope st_Fails_init) := ⟨rfl, rfl, rfl, by decide +kernel, rfl, by decide +kernel, by decide +kernel⟩
section
variable {Pg : Program} {w : World} {K : PySem.W.Frag} {mg : Str → Option Value} {base : Heap}
/-! ### lots -/
theorem rng_at {n i : Nat} {x : D} (h : ((List.range n).map fun k => D.p (.int (k : Nat)))[i]? = some x) : x = .p (.int (i : Nat)) ∧ i < n := by
  rw [List.getElem?_map] at h
  have hi : i < n := by
    cases e : (List.range n)[i]? with
    | none => rw [e] at h; cases h
    | some k => simpa using (List.getElem?_eq_some_iff.mp e).1
  rw [List.getElem?_range hi] at h
  exact ⟨(Option.some.inj h).symm, hi⟩
theorem map_at {α β : Type} {f : α → β} {xs : List α} {i : Nat} {x : β} (h : (xs.map f)[i]? = some x) : ∃ y, xs[i]? = some y ∧ x = f y := by
  rw [List.getElem?_map] at h
  cases e : xs[i]? with
  | none => rw [e] at h; cases h
  | some y => rw [e] at h; exact ⟨y, rfl, (Option.some.inj h).symm⟩
/-- an arrow: later, earlier -/
def prP (q : Nat × Nat) : P := .tup [.int (q.1 : Nat), .int (q.2 : Nat)]
structure Lot where
  m : Nat
  ps : List (Nat × Nat)
def lotP (l : Lot) : P := .tup [.int (l.m : Nat), .tup (l.ps.map prP)]
structure Good (l : Lot) : Prop where
  small : l.m ≤ 30
  low : ∀ q ∈ l.ps, q.1 < l.m ∧ q.2 < l.m
  few : l.ps.length ≤ 1000
  irr : ∀ a, (a, a) ∉ l.ps
  asym : ∀ a b, (a, b) ∈ l.ps → (b, a) ∉ l.ps
/-- the table of what is later: one dict for each mark -/
def owns (n m : Nat) : List D := (List.range m).map fun k => .own (n + k)
structure LatD (ps : List (Nat × Nat)) (m : Nat) (ds : List (List (Key × D))) : Prop where
  len : ds.length = m
  mem : ∀ e d, ds[e]? = some d → ∀ y : Nat, (gt d (.inl ((y : Nat) : Int))).isSome = decide ((y, e) ∈ ps)
  size : ∀ d ∈ ds, d.length ≤ ps.length
  pur : ∀ d ∈ ds, ∀ kv ∈ d, ∃ x, kv.2 = .p x
def latS (S : List O) (ds : List (List (Key × D))) (m : Nat) : List O := S ++ (ds.map O.dk ++ [.lst (owns S.length m)])
theorem latS_list (S : List O) (ds : List (List (Key × D))) (m : Nat) (h : ds.length = m) : (latS S ds m)[S.length + m]? = some (.lst (owns S.length m)) := by
  unfold latS
  rw [List.getElem?_append_right (by omega), List.getElem?_append_right (by simp; omega)]
  simp [h]
theorem latS_dict (S : List O) (ds : List (List (Key × D))) (m e : Nat) (h : ds.length = m) (he : e < m) : (latS S ds m)[S.length + e]? = (ds[e]?).map O.dk := by
  unfold latS
  rw [List.getElem?_append_right (by omega), List.getElem?_append_left (by simp; omega), List.getElem?_map]
  congr 2
  omega
theorem latS_set (S : List O) (ds : List (List (Key × D))) (m e : Nat) (h : ds.length = m) (he : e < m) (d : List (Key × D)) : (latS S ds m).set (S.length + e) (.dk d) = latS S (ds.set e d) m := by
  unfold latS
  rw [List.set_append_right _ _ (by omega), Nat.add_sub_cancel_left, List.set_append_left _ _ (by simp; omega), List.map_set]
theorem gt_any {α : Type} (k : Key) : ∀ kvs : List (Key × α), (gt kvs k).isSome = kvs.any fun kv => decide (kv.1 = k)
  | [] => rfl
  | p :: r => by
    rw [gt_cons, List.any_cons, ← gt_any k r]
    by_cases h : p.1 = k
    · rw [if_pos h, decide_eq_true h]; rfl
    · rw [if_neg h, decide_eq_false h]; rfl
theorem gt_pt {α : Type} (k k' : Key) (v : α) (kvs : List (Key × α)) : (gt (pt kvs k v) k').isSome = ((gt kvs k').isSome || decide (k = k')) := by
  rw [gt_any, gt_any]
  unfold pt
  by_cases h : (kvs.any fun kv => decide (kv.1 = k)) = true
  · rw [if_pos h, List.any_map]
    have e : ((fun kv : Key × α => decide (kv.1 = k')) ∘ fun kv => if kv.1 = k then (kv.1, v) else kv) = fun kv => decide (kv.1 = k') := by
      funext kv
      show decide ((if kv.1 = k then (kv.1, v) else kv).1 = k') = _
      by_cases hk : kv.1 = k
      · rw [if_pos hk]
      · rw [if_neg hk]
    rw [e]
    by_cases hk : k = k'
    · subst hk
      rw [h]; rfl
    · rw [decide_eq_false hk, Bool.or_false]
  · rw [if_neg h, List.any_append]
    congr 1
    simp
theorem LatD.nil (m : Nat) : LatD [] m (List.replicate m []) := by
  refine ⟨List.length_replicate, fun e d h y => ?_, fun d hd => ?_, fun d hd kv hkv => ?_⟩
  · have := List.mem_of_getElem? h
    rw [List.mem_replicate] at this
    rw [this.2]
    rfl
  · rw [List.mem_replicate] at hd
    rw [hd.2]
    exact Nat.le_refl _
  · rw [List.mem_replicate] at hd
    rw [hd.2] at hkv
    cases hkv
theorem LatD.next {ps : List (Nat × Nat)} {m : Nat} {ds : List (List (Key × D))} (h : LatD ps m ds) {q : Nat × Nat} {d : List (Key × D)} (hd : ds[q.2]? = some d) {v : P} : LatD (ps ++ [q]) m (ds.set q.2 (pt d (.inl ((q.1 : Nat) : Int)) (.p v))) := by
  have hl : q.2 < ds.length := (List.getElem?_eq_some_iff.mp hd).1
  refine ⟨by rw [List.length_set]; exact h.len, fun e d' he y => ?_, fun d' hd' => ?_, fun d' hd' kv hkv => ?_⟩
  · by_cases hq : q.2 = e
    · subst hq
      rw [List.getElem?_set_self hl] at he
      obtain rfl := Option.some.inj he
      rw [gt_pt, h.mem _ _ hd y]
      have : (decide ((Sum.inl ((q.1 : Nat) : Int) : Key) = .inl ((y : Nat) : Int))) = decide ((y, q.2) = q) := by
        refine decide_eq_decide.mpr ⟨fun z => ?_, fun z => ?_⟩
        · have := Sum.inl.inj z
          have : q.1 = y := by omega
          rw [← this]
        · rw [← z]
      rw [this]
      simp [Bool.decide_or, List.mem_append]
    · rw [List.getElem?_set_ne hq] at he
      rw [h.mem _ _ he y]
      refine decide_eq_decide.mpr ?_
      rw [List.mem_append]
      refine ⟨.inl, fun z => z.elim id fun z => ?_⟩
      rw [List.mem_singleton] at z
      exact absurd (by rw [← z]) hq
  · rw [List.length_append, List.length_singleton]
    rcases List.mem_or_eq_of_mem_set hd' with z | rfl
    · have := h.size _ z; omega
    · have h1 := h.size _ (List.mem_of_getElem? hd)
      have h2 := pt_length d (.inl ((q.1 : Nat) : Int)) (.p v)
      omega
  · rcases List.mem_or_eq_of_mem_set hd' with z | rfl
    · exact h.pur _ z kv hkv
    · have h0 := h.pur d (List.mem_of_getElem? hd)
      unfold pt at hkv
      split at hkv
      · obtain ⟨kv0, h1, rfl⟩ := List.mem_map.mp hkv
        by_cases hk : kv0.1 = .inl ((q.1 : Nat) : Int)
        · rw [if_pos hk]; exact ⟨v, rfl⟩
        · rw [if_neg hk]; exact h0 kv0 h1
      · rcases List.mem_append.mp hkv with h1 | h1
        · exact h0 kv h1
        · rw [List.mem_singleton] at h1
          rw [h1]; exact ⟨v, rfl⟩
def F_later_than : FT := fun as S Post => ∃ l : Lot, as = [.p (lotP l)] ∧ Good l ∧ ∀ ds, LatD l.ps l.m ds → Post (.own (S.length + l.m)) (latS S ds l.m)
theorem len_later_than : ∀ as S Post, F_later_than as S Post → as.length = ["lot"].length := by
  rintro _ S Post ⟨_, rfl, _⟩; rfl
theorem cl_later_than (p : Pre K mg "later_than" st_later_than) (z_range : mg "range" = none) : Cl Pg w K mg base 1 "later_than" st_later_than ["lot"] F_later_than := by
  refine p.cl (fun _ _ _ _ _ _ us hl => match us, hl with | [_], _ => rfl) fun f fd F => ?_
  refine fun_ok F sc_later_than len_later_than (fun cdv A outer s H E gd hr => have hu := hu65 hr; (jb_cons (js_setLcO 1 rfl sc_later_than.nd (sw_true rfl rfl rfl (by decide +kernel)) (ji_range1 (by rfl) z_range (ja_cons (je_ix (je_var 0) je_int (fun _ _ => rfl)) ja_nil)) (blkOk_by (N := ns_later_than) (sc := defScope st_later_than) (own := [("mark", 2)]) (by decide +kernel)) (fun _ _ _ _ _ => (jgo_name 2 sc_later_than.nd)) (fun _ _ _ _ _ => jts_nil) (fun _ _ _ _ _ => je_d0K))
    (jb_cons (js_for PassesOwn.never rfl (ji_seq (je_ix (je_var 0) je_int (fun _ _ => rfl))) (jg_tup (n := 2) rfl (jgs_cons (jg_name 3 sc_later_than.nd) (jgs_cons (jg_name 4 sc_later_than.nd) jgs_nil))) (jb_one (js_dput hu (je_ix (je_var 1) (je_var 4) (fun _ _ => rfl)) (je_var 3) je_bl)))
    (jb_one (js_ret (je_var 1)))))) ?_
  rintro as S Post hB ⟨l, rfl, hl, h⟩
  refine sq ?_
  simp only [↓sNext, ↓sBreak, ↓sCont, ↓sDrop, ↓sRet, ↓sRetN, ↓sIf, ↓sAsg, ↓agName, ↓agNil, ↓agCons, ↓agTup, ↓sPar, ↓sFor, ↓aV, ↓lk, ↓aC, ↓aOp, ↓aUn, ↓aCall, ↓aNil, ↓aCons, ↓aIf, ↓aTest, ↓aAnd, ↓aOr, ↓aNot, ↓aAndV, ↓aOrV, ↓aNotV, ↓aI, ↓aI0, ↓aAdd, ↓aNeg, ↓aIsN, ↓isNone, ↓aTup, ↓purs, ↓aLst, ↓aLstO, ↓aIx, ↓gi0, ↓gi1, ↓gi2, ↓giN, ↓a1, ↓aLen, ↓aAbs, ↓aInt, ↓aStr, ↓aIsi, ↓btOf, ↓BT.isB, ↓aYes, ↓aiSeq, wipeL, ↓startL, List.map, List.set, List.replicate, List.length, List.append, List.cons_append, List.nil_append, ↓aMt, ↓isLs, ↓aLc, ↓aLcO, Bool.false_bne, Bool.true_bne, Bool.xor_false, Bool.false_xor, Bool.true_xor, Bool.not_true, Bool.not_false, decide_eq_true_eq, if_true, if_false, ite_true, ite_false, reduceIte, Bool.false_eq_true, List.getElem?_cons_zero, List.getElem?_cons_succ, ↓aLt, ↓aLe, ↓aGt, ↓aGe, ↓aSub, ↓aMul, ↓aDiv, ↓aMod, ↓aPow, true_and, and_true, lotP, aiRng1]
  have h30 := hl.small
  refine ⟨by omega, by omega, ?_⟩
  refine lc_go (fun i acc S' => acc = owns S.length i ∧ S' = S ++ List.replicate i (.dk [])) (fun _ _ _ _ => trivial) (fun i x acc S' N hx hI hN => ?_) (fun acc S' hI => ?_) ⟨rfl, by simp⟩
  · obtain ⟨rfl, rfl⟩ := hI
    simp only [↓sNext, ↓sBreak, ↓sCont, ↓sDrop, ↓sRet, ↓sRetN, ↓sIf, ↓sAsg, ↓agName, ↓agNil, ↓agCons, ↓agTup, ↓sPar, ↓sFor, ↓aV, ↓lk, ↓aC, ↓aOp, ↓aUn, ↓aCall, ↓aNil, ↓aCons, ↓aIf, ↓aTest, ↓aAnd, ↓aOr, ↓aNot, ↓aAndV, ↓aOrV, ↓aNotV, ↓aI, ↓aI0, ↓aAdd, ↓aNeg, ↓aIsN, ↓isNone, ↓aTup, ↓purs, ↓aLst, ↓aLstO, ↓aIx, ↓gi0, ↓gi1, ↓gi2, ↓giN, ↓a1, ↓aLen, ↓aAbs, ↓aInt, ↓aStr, ↓aIsi, ↓btOf, ↓BT.isB, ↓aYes, ↓aiSeq, wipeL, ↓startL, List.map, List.set, List.replicate, List.length, List.append, List.cons_append, List.nil_append, ↓aMt, ↓isLs, ↓aLc, ↓aLcO, Bool.false_bne, Bool.true_bne, Bool.xor_false, Bool.false_xor, Bool.true_xor, Bool.not_true, Bool.not_false, decide_eq_true_eq, if_true, if_false, ite_true, ite_false, reduceIte, Bool.false_eq_true, List.getElem?_cons_zero, List.getElem?_cons_succ, ↓aLt, ↓aLe, ↓aGt, ↓aGe, ↓aSub, ↓aMul, ↓aDiv, ↓aMod, ↓aPow, true_and, and_true, aD0K]
    refine hN _ _ ⟨?_, ?_⟩
    · unfold owns
      rw [List.range_succ, List.map_append]
      simp
    · rw [List.append_assoc, ← List.replicate_succ']
  · obtain ⟨rfl, rfl⟩ := hI
    rw [List.length_map, List.length_range]
    have e0 : S ++ List.replicate l.m (O.dk []) ++ [.lst (owns S.length l.m)] = latS S (List.replicate l.m []) l.m := by
      unfold latS
      rw [List.append_assoc, List.map_replicate]
    show sSeq _ _ _ _ (S ++ List.replicate l.m (O.dk []) ++ [.lst (owns S.length l.m)])
    rw [e0]
    have e1 : (S ++ List.replicate l.m (O.dk [])).length = S.length + l.m := by simp
    rw [show ((l.m : Nat) : Int).toNat = l.m from rfl, e1]
    refine sq ?_
    simp only [↓sNext, ↓sBreak, ↓sCont, ↓sDrop, ↓sRet, ↓sRetN, ↓sIf, ↓sAsg, ↓agName, ↓agNil, ↓agCons, ↓agTup, ↓sPar, ↓sFor, ↓aV, ↓lk, ↓aC, ↓aOp, ↓aUn, ↓aCall, ↓aNil, ↓aCons, ↓aIf, ↓aTest, ↓aAnd, ↓aOr, ↓aNot, ↓aAndV, ↓aOrV, ↓aNotV, ↓aI, ↓aI0, ↓aAdd, ↓aNeg, ↓aIsN, ↓isNone, ↓aTup, ↓purs, ↓aLst, ↓aLstO, ↓aIx, ↓gi0, ↓gi1, ↓gi2, ↓giN, ↓a1, ↓aLen, ↓aAbs, ↓aInt, ↓aStr, ↓aIsi, ↓btOf, ↓BT.isB, ↓aYes, ↓aiSeq, wipeL, ↓startL, List.map, List.set, List.replicate, List.length, List.append, List.cons_append, List.nil_append, ↓aMt, ↓isLs, ↓aLc, ↓aLcO, Bool.false_bne, Bool.true_bne, Bool.xor_false, Bool.false_xor, Bool.true_xor, Bool.not_true, Bool.not_false, decide_eq_true_eq, if_true, if_false, ite_true, ite_false, reduceIte, Bool.false_eq_true, List.getElem?_cons_zero, List.getElem?_cons_succ, ↓aLt, ↓aLe, ↓aGt, ↓aGe, ↓aSub, ↓aMul, ↓aDiv, ↓aMod, ↓aPow, true_and, and_true]
    refine for_go (fun i L S' => ∃ (ds : List (List (Key × D))) (l3 l4 : Option D), L = [some (.p (lotP l)), some (.own (S.length + l.m)), none, l3, l4] ∧ S' = latS S ds l.m ∧ LatD (l.ps.take i) l.m ds) (fun _ _ _ _ => trivial) (fun i x L S' N hx hI hN => ?_) (fun L S' hI => ?_) ⟨_, none, none, rfl, rfl, LatD.nil _⟩
    · obtain ⟨y, hy, rfl⟩ := map_at hx
      obtain ⟨q, hq, rfl⟩ := map_at hy
      obtain ⟨ds, l3, l4, rfl, rfl, hd⟩ := hI
      have hlow := hl.low q (List.mem_of_getElem? hq)
      have hq2 : q.2 < ds.length := by rw [hd.len]; exact hlow.2
      have eL := latS_list S ds l.m hd.len
      have eD := latS_dict S ds l.m q.2 hd.len hlow.2
      rw [List.getElem?_eq_getElem hq2] at eD
      have eO : (owns S.length l.m)[q.2]? = some (.own (S.length + q.2)) := by
        unfold owns
        rw [List.getElem?_map, List.getElem?_range hlow.2]; rfl
      simp only [↓sNext, ↓sBreak, ↓sCont, ↓sDrop, ↓sRet, ↓sRetN, ↓sIf, ↓sAsg, ↓agName, ↓agNil, ↓agCons, ↓agTup, ↓sPar, ↓sFor, ↓aV, ↓lk, ↓aC, ↓aOp, ↓aUn, ↓aCall, ↓aNil, ↓aCons, ↓aIf, ↓aTest, ↓aAnd, ↓aOr, ↓aNot, ↓aAndV, ↓aOrV, ↓aNotV, ↓aI, ↓aI0, ↓aAdd, ↓aNeg, ↓aIsN, ↓isNone, ↓aTup, ↓purs, ↓aLst, ↓aLstO, ↓aIx, ↓gi0, ↓gi1, ↓gi2, ↓giN, ↓a1, ↓aLen, ↓aAbs, ↓aInt, ↓aStr, ↓aIsi, ↓btOf, ↓BT.isB, ↓aYes, ↓aiSeq, wipeL, ↓startL, List.map, List.set, List.replicate, List.length, List.append, List.cons_append, List.nil_append, ↓aMt, ↓isLs, ↓aLc, ↓aLcO, Bool.false_bne, Bool.true_bne, Bool.xor_false, Bool.false_xor, Bool.true_xor, Bool.not_true, Bool.not_false, decide_eq_true_eq, if_true, if_false, ite_true, ite_false, reduceIte, Bool.false_eq_true, List.getElem?_cons_zero, List.getElem?_cons_succ, ↓aLt, ↓aLe, ↓aGt, ↓aGe, ↓aSub, ↓aMul, ↓aDiv, ↓aMod, ↓aPow, true_and, and_true, prP, sDPutA, eL, eO, eD, Option.map_some, dkK, keyP]
      refine ⟨?_, ?_⟩
      · have h1 := hd.size _ (List.getElem_mem hq2)
        have h2 : (l.ps.take i).length ≤ l.ps.length := by rw [List.length_take]; omega
        have h3 := hl.few
        exact Nat.lt_of_le_of_lt (show _ ≤ 1000 by omega) (by decide)
      · rw [latS_set S ds l.m q.2 hd.len hlow.2]
        refine hN _ _ ⟨_, _, _, rfl, rfl, ?_⟩
        rw [List.take_add_one, hq]
        exact hd.next (List.getElem?_eq_getElem hq2)
    · obtain ⟨ds, l3, l4, rfl, rfl, hd⟩ := hI
      rw [List.length_map, List.length_map, List.take_length] at hd
      simp only [↓sNext, ↓sBreak, ↓sCont, ↓sDrop, ↓sRet, ↓sRetN, ↓sIf, ↓sAsg, ↓agName, ↓agNil, ↓agCons, ↓agTup, ↓sPar, ↓sFor, ↓aV, ↓lk, ↓aC, ↓aOp, ↓aUn, ↓aCall, ↓aNil, ↓aCons, ↓aIf, ↓aTest, ↓aAnd, ↓aOr, ↓aNot, ↓aAndV, ↓aOrV, ↓aNotV, ↓aI, ↓aI0, ↓aAdd, ↓aNeg, ↓aIsN, ↓isNone, ↓aTup, ↓purs, ↓aLst, ↓aLstO, ↓aIx, ↓gi0, ↓gi1, ↓gi2, ↓giN, ↓a1, ↓aLen, ↓aAbs, ↓aInt, ↓aStr, ↓aIsi, ↓btOf, ↓BT.isB, ↓aYes, ↓aiSeq, wipeL, ↓startL, List.map, List.set, List.replicate, List.length, List.append, List.cons_append, List.nil_append, ↓aMt, ↓isLs, ↓aLc, ↓aLcO, Bool.false_bne, Bool.true_bne, Bool.xor_false, Bool.false_xor, Bool.true_xor, Bool.not_true, Bool.not_false, decide_eq_true_eq, if_true, if_false, ite_true, ite_false, reduceIte, Bool.false_eq_true, List.getElem?_cons_zero, List.getElem?_cons_succ, ↓aLt, ↓aLe, ↓aGt, ↓aGe, ↓aSub, ↓aMul, ↓aDiv, ↓aMod, ↓aPow, true_and, and_true]
      exact .inl (h ds hd)
def rowP (r : List Nat) : P := .tup (r.map fun n => .int (n : Nat))
def F_parts_with : FT := fun as S Post => ∃ (r : List Nat) (m : Nat), as = [.p (rowP r), .p (.int (m : Nat))] ∧ r.length ≤ 100 ∧ Post (.p (.lst ((Jm.parts r m).map rowP))) S
theorem len_parts_with : ∀ as S Post, F_parts_with as S Post → as.length = ["row", "mark"].length := by
  rintro _ S Post ⟨_, _, rfl, _⟩; rfl
theorem small_sl {n : Nat} (h : n ≤ 10000) : n ≤ sizeLine := Nat.le_trans h (by decide)
theorem cl_parts_with (p : Pre K mg "parts_with" st_parts_with) (z_len : mg "len" = none) (z_range : mg "range" = none) : Cl Pg w K mg base 1 "parts_with" st_parts_with ["row", "mark"] F_parts_with := by
  refine p.cl (fun _ _ _ _ _ _ us hl => match us, hl with | [_, _], _ => rfl) fun f fd F => ?_
  refine fun_ok F sc_parts_with len_parts_with (fun cdv A outer s H E gd hr => have hu := hu65 hr; (jb_one (js_ret (je_lc rfl sc_parts_with.nd (ji_range1 (by rfl) z_range (ja_cons (je_len (by rfl) z_len (je_var 0)) ja_nil)) (blkOk_by (N := ns_parts_with) (sc := defScope st_parts_with) (own := [("at", 2)]) (by decide +kernel)) (fun _ _ _ _ _ => (jgo_name 2 sc_parts_with.nd)) (fun _ _ _ _ _ => jts_nil) (fun _ _ _ _ _ => (je_add (je_add (je_sl (je_var 0) jp_none (jp_some (je_var 2))) (je_sl (je_var 0) (jp_some (je_add (je_var 2) je_int)) jp_none)) (je_tup (ja_cons (je_var 1) ja_nil)))))))) ?_
  rintro as S Post hB ⟨r, m, rfl, hr, h⟩
  simp only [↓sNext, ↓sBreak, ↓sCont, ↓sDrop, ↓sRet, ↓sRetN, ↓sIf, ↓sAsg, ↓agName, ↓agNil, ↓agCons, ↓agTup, ↓sPar, ↓sFor, ↓aV, ↓lk, ↓aC, ↓aOp, ↓aUn, ↓aCall, ↓aNil, ↓aCons, ↓aIf, ↓aTest, ↓aAnd, ↓aOr, ↓aNot, ↓aAndV, ↓aOrV, ↓aNotV, ↓aI, ↓aI0, ↓aAdd, ↓aNeg, ↓aIsN, ↓isNone, ↓aTup, ↓purs, ↓aLst, ↓aLstO, ↓aIx, ↓gi0, ↓gi1, ↓gi2, ↓giN, ↓a1, ↓aLen, ↓aAbs, ↓aInt, ↓aStr, ↓aIsi, ↓btOf, ↓BT.isB, ↓aYes, ↓aiSeq, wipeL, ↓startL, List.map, List.set, List.replicate, List.length, List.append, List.cons_append, List.nil_append, ↓aMt, ↓isLs, ↓aLc, ↓aLcO, Bool.false_bne, Bool.true_bne, Bool.xor_false, Bool.false_xor, Bool.true_xor, Bool.not_true, Bool.not_false, decide_eq_true_eq, if_true, if_false, ite_true, ite_false, reduceIte, Bool.false_eq_true, List.getElem?_cons_zero, List.getElem?_cons_succ, ↓aLt, ↓aLe, ↓aGt, ↓aGe, ↓aSub, ↓aMul, ↓aDiv, ↓aMod, ↓aPow, true_and, and_true, rowP, aiRng1]
  refine ⟨by omega, by simp; omega, ?_⟩
  rw [show (((r.map fun n => P.int (n : Nat)).length : Nat) : Int).toNat = r.length by simp]
  refine lc_all (List.range r.length) (fun k => .p (.int (k : Nat))) (fun i => rowP (r.take i ++ r.drop (i + 1) ++ [m])) (fun i hi Q hQ => ?_) ?_
  · simp only [↓sNext, ↓sBreak, ↓sCont, ↓sDrop, ↓sRet, ↓sRetN, ↓sIf, ↓sAsg, ↓agName, ↓agNil, ↓agCons, ↓agTup, ↓sPar, ↓sFor, ↓aV, ↓lk, ↓aC, ↓aOp, ↓aUn, ↓aCall, ↓aNil, ↓aCons, ↓aIf, ↓aTest, ↓aAnd, ↓aOr, ↓aNot, ↓aAndV, ↓aOrV, ↓aNotV, ↓aI, ↓aI0, ↓aAdd, ↓aNeg, ↓aIsN, ↓isNone, ↓aTup, ↓purs, ↓aLst, ↓aLstO, ↓aIx, ↓gi0, ↓gi1, ↓gi2, ↓giN, ↓a1, ↓aLen, ↓aAbs, ↓aInt, ↓aStr, ↓aIsi, ↓btOf, ↓BT.isB, ↓aYes, ↓aiSeq, wipeL, ↓startL, List.map, List.set, List.replicate, List.length, List.append, List.cons_append, List.nil_append, ↓aMt, ↓isLs, ↓aLc, ↓aLcO, Bool.false_bne, Bool.true_bne, Bool.xor_false, Bool.false_xor, Bool.true_xor, Bool.not_true, Bool.not_false, decide_eq_true_eq, if_true, if_false, ite_true, ite_false, reduceIte, Bool.false_eq_true, List.getElem?_cons_zero, List.getElem?_cons_succ, ↓aLt, ↓aLe, ↓aGt, ↓aGe, ↓aSub, ↓aMul, ↓aDiv, ↓aMod, ↓aPow, true_and, and_true, aSl, aPt, aNoPt]
    have e1 : cutL (r.map fun n => P.int (n : Nat)) none (some ((i : Nat) : Int)) = (r.take i).map fun n => P.int (n : Nat) := by rw [cutL_to, List.map_take]
    have e2 : cutL (r.map fun n => P.int (n : Nat)) (some (((i : Nat) : Int) + 1)) none = (r.drop (i + 1)).map fun n => P.int (n : Nat) := by
      rw [show ((i : Nat) : Int) + 1 = ((i + 1 : Nat) : Int) by omega, cutL_from, List.map_drop]
    rw [e1, e2, ← List.map_append]
    have h1 : (r.take i ++ r.drop (i + 1)).length ≤ 200 := by rw [List.length_append, List.length_take, List.length_drop]; omega
    refine ⟨small_sl (by rw [← List.length_append, ← List.map_append, List.length_map]; omega), small_sl ?_, ?_⟩
    · rw [List.length_map]
      show _ + 1 ≤ _
      omega
    · have := hQ
      unfold rowP at this
      rw [List.map_append (l₁ := List.take i r ++ List.drop (i + 1) r)] at this
      exact this
  · exact ⟨_, rfl, .inl (by have := h; unfold Jm.parts at this; rw [List.map_map] at this; exact this)⟩
end
end Lw
namespace Lw
open PySem PySem.Spec PyProof.Rows L2 Am
section
variable {Pg : Program} {w : World} {K : PySem.W.Frag} {mg : Str → Option Value} {base : Heap}
theorem latS_bel {S : List O} (h : Bel S.length S) {ds : List (List (Key × D))} {m : Nat} (hd : ∀ d ∈ ds, ∀ kv ∈ d, ∃ x, kv.2 = .p x) : Bel (S.length + m) (latS S ds m) := by
  unfold latS
  refine (h.le (by omega)).app (Bel.app (fun o ho => ?_) (Bel.cons (fun d hd => ?_) Bel.nil))
  · obtain ⟨d, h1, rfl⟩ := List.mem_map.mp ho
    intro kv hkv
    obtain ⟨x, e⟩ := hd d h1 kv hkv
    rw [e]; trivial
  · unfold owns at hd
    obtain ⟨k, hk, rfl⟩ := List.mem_map.mp hd
    have := List.mem_range.mp hk
    exact Nat.add_lt_add_left this _
/-! ### levels -/
theorem pt_new {κ α : Type} [DecidableEq κ] {kvs : List (κ × α)} {k : κ} {v : α} (h : ∀ e ∈ kvs, e.1 ≠ k) : pt kvs k v = kvs ++ [(k, v)] := by
  unfold pt
  rw [if_neg]
  intro q
  obtain ⟨e, he, h2⟩ := List.any_eq_true.mp q
  exact h e he (by simpa using h2)
/-- a level as a frozen dict -/
def keyR (r : List Nat) : List Key := r.map fun n => .inl ((n : Nat) : Int)
def marksP (r : List Nat) : P := .lst (r.map fun n => .int (n : Nat))
def tabE (A : Jm.Tab) : List (List Key × P) := A.map fun e => (keyR e.1, marksP e.2)
def tabP (A : Jm.Tab) : P := .dt (tabE A)
def ent {κ : Type} (ps : List (κ × P)) : List (κ × D) := ps.map fun kv => (kv.1, .p kv.2)
theorem keyR_inj {a b : List Nat} (h : keyR a = keyR b) : a = b := by
  unfold keyR at h
  refine (List.map_inj_right (fun x y e => ?_)).mp h
  have := Sum.inl.inj e
  omega
theorem rowP_key (r : List Nat) : P.tup ((keyR r).map unK) = rowP r := by
  unfold keyR rowP
  rw [List.map_map]; rfl
theorem keyR_of (r : List Nat) : keysOf (r.map fun n => P.int (n : Nat)) = some (keyR r) := by
  have := keysOf_un (keyR r)
  have e := rowP_key r
  unfold rowP at e
  rw [P.tup.inj e] at this
  exact this
theorem tab_put {A : Jm.Tab} {r ms : List Nat} (h : ∀ e ∈ A, e.1 ≠ r) : pt (ent (tabE A)) (keyR r) (.p (marksP ms)) = ent (tabE (A ++ [(r, ms)])) := by
  rw [pt_new]
  · unfold ent tabE
    simp
  · intro e he
    unfold ent tabE at he
    rw [List.map_map] at he
    obtain ⟨a, ha, rfl⟩ := List.mem_map.mp he
    exact fun q => h a ha (keyR_inj q)
def stL (T : List O) (m : Nat) (ps : List (Nat × Nat)) (i : Nat) : List O := T ++ (.dead :: .lst ((List.range (i + 1)).map fun j => .p (tabP (Jm.lv m ps j))) :: List.replicate i .dead)
theorem stL_len (T : List O) (m : Nat) (ps : List (Nat × Nat)) (i : Nat) : (stL T m ps i).length = T.length + 2 + i := by
  unfold stL
  simp
  omega
theorem stL_at (T : List O) (m : Nat) (ps : List (Nat × Nat)) (i : Nat) (R : List O) : (stL T m ps i ++ R)[T.length + 1]? = some (.lst ((List.range (i + 1)).map fun j => .p (tabP (Jm.lv m ps j)))) := by
  unfold stL
  rw [List.append_assoc, List.getElem?_append_right (by omega), Nat.add_sub_cancel_left]
  rfl
theorem stL_old (T : List O) (m : Nat) (ps : List (Nat × Nat)) (i : Nat) (R : List O) {n : Nat} (h : n < T.length) : (stL T m ps i ++ R)[n]? = T[n]? := by
  unfold stL
  rw [List.append_assoc, List.getElem?_append_left h]
theorem stL_bel {T : List O} (h : Bel T.length T) (m : Nat) (ps : List (Nat × Nat)) (i : Nat) : Bel (stL T m ps i).length (stL T m ps i) := by
  rw [stL_len]
  unfold stL
  refine (h.le (by omega)).app (Bel.cons trivial (Bel.cons (fun d hd => ?_) fun o ho => ?_))
  · obtain ⟨k, hk, rfl⟩ := List.mem_map.mp hd
    trivial
  · rw [List.mem_replicate] at ho
    rw [ho.2]; trivial
theorem stL_next (T : List O) (m : Nat) (ps : List (Nat × Nat)) (i : Nat) : (stL T m ps i ++ [O.dead]).set (T.length + 1) (O.lst (((List.range (i + 1)).map fun j => D.p (tabP (Jm.lv m ps j))) ++ [D.p (tabP (Jm.lv m ps (i + 1)))])) = stL T m ps (i + 1) := by
  unfold stL
  rw [List.append_assoc, List.set_append_right _ _ (by omega), Nat.add_sub_cancel_left]
  congr 1
  rw [List.replicate_succ', List.range_succ (n := i + 1), List.map_append]
  rfl
theorem gi_last {α : Type} (f : Nat → α) (i : Nat) : gi ((List.range (i + 1)).map f) (-1) = some (f i) := by
  show ((List.range (i + 1)).map f).reverse[0]? = _
  rw [List.range_succ, List.map_append, List.reverse_append]
  rfl
theorem item_row (e : List Nat × List Nat) : itemT (keyR e.1, marksP e.2) = .p (.tup [rowP e.1, marksP e.2]) := by
  unfold itemT
  rw [rowP_key]
def F_levels : FT := fun as S Post => ∃ (l : Lot) (k : Nat), as = [.p (lotP l), .p (.int (k : Nat))] ∧ Good l ∧ k ≤ 4 ∧ ∀ S' n, (∀ i, i < S.length → S'[i]? = S[i]?) → S'[n]? = some (.lst ((List.range (k + 1)).map fun i => .p (tabP (Jm.lv l.m l.ps i)))) → Post (.own n) S'
theorem len_levels : ∀ as S Post, F_levels as S Post → as.length = ["lot", "most"].length := by
  rintro _ S Post ⟨_, _, rfl, _⟩; rfl
theorem cl_levels (p : Pre K mg "levels" st_levels) (z_list : mg "list" = none) (z_range : mg "range" = none) (c_later_than : Cl Pg w K mg base 1 "later_than" st_later_than ["lot"] F_later_than) : Cl Pg w K mg base 2 "levels" st_levels ["lot", "most"] F_levels := by
  refine p.cl (fun _ _ _ _ _ _ us hl => match us, hl with | [_, _], _ => rfl) fun f fd F => ?_
  refine fun_ok F sc_levels len_levels (fun cdv A outer s H E gd hr => have hu := hu65 hr; (jb_cons (js_set 2 sc_levels.nd (je_own c_later_than gd hr (ja_cons (je_var 0) ja_nil)))
    (jb_cons (js_set 3 sc_levels.nd (je_lstO (ja_cons (je_disp1 hu (je_tup ja_nil) (je_lstRg rfl (by rfl) z_list (jrg_1 (by rfl) z_range (je_ix (je_var 0) je_int (fun _ _ => rfl))))) ja_nil)))
    (jb_fzm (jb_cons (js_for PassesOwn.never rfl (ji_range1 (by rfl) z_range (ja_cons (je_var 1) ja_nil)) (jg_name 4 sc_levels.nd) (jb_cons (js_set 5 sc_levels.nd je_d0T)
    (jb_cons (js_for PassesOwn.never rfl (ji_itemsT (je_ix (je_var 3) (je_neg je_int) (fun _ _ => rfl))) (jg_tup (n := 2) rfl (jgs_cons (jg_name 6 sc_levels.nd) (jgs_cons (jg_name 7 sc_levels.nd) jgs_nil))) (jb_one (js_for PassesOwn.never rfl (ji_seq (je_var 7)) (jg_name 8 sc_levels.nd) (jb_one (js_dput hu (je_var 5) (je_add (je_var 6) (je_tup (ja_cons (je_var 8) ja_nil))) (je_lc rfl sc_levels.nd (ji_seq (je_var 7)) (blkOk_by (N := ns_levels) (sc := defScope st_levels) (own := [("other", 9)]) (by decide +kernel)) (fun _ _ _ _ _ => (jgo_name 9 sc_levels.nd)) (fun _ _ _ _ _ => jts_one (jt_din hu (je_var 9) (je_ix (je_var 2) (je_var 8) (fun _ _ => rfl)))) (fun _ _ _ _ _ => (je_var 9))))))))
    (jb_fzm (jb_one (js_expr (je_mtL PySem.F.slot_list_append PySem.F.type_list_append mt_append lift_append (je_var 3) (ja_cons (je_var 5) ja_nil))))))))
    (jb_one (js_ret (je_var 3)))))))) ?_
  rintro as S Post hB ⟨l, k, rfl, hl, hk, h⟩
  refine sq ?_
  simp only [↓sNext, ↓sBreak, ↓sCont, ↓sDrop, ↓sRet, ↓sRetN, ↓sIf, ↓sAsg, ↓agName, ↓agNil, ↓agCons, ↓agTup, ↓sPar, ↓sFor, ↓aV, ↓lk, ↓aC, ↓aOp, ↓aUn, ↓aCall, ↓aNil, ↓aCons, ↓aIf, ↓aTest, ↓aAnd, ↓aOr, ↓aNot, ↓aAndV, ↓aOrV, ↓aNotV, ↓aI, ↓aI0, ↓aAdd, ↓aNeg, ↓aIsN, ↓isNone, ↓aTup, ↓purs, ↓aLst, ↓aLstO, ↓aIx, ↓gi0, ↓gi1, ↓gi2, ↓giN, ↓a1, ↓aLen, ↓aAbs, ↓aInt, ↓aStr, ↓aIsi, ↓btOf, ↓BT.isB, ↓aYes, ↓aiSeq, wipeL, ↓startL, List.map, List.set, List.replicate, List.length, List.append, List.cons_append, List.nil_append, ↓aMt, ↓isLs, ↓aLc, ↓aLcO, Bool.false_bne, Bool.true_bne, Bool.xor_false, Bool.false_xor, Bool.true_xor, Bool.not_true, Bool.not_false, decide_eq_true_eq, if_true, if_false, ite_true, ite_false, reduceIte, Bool.false_eq_true, List.getElem?_cons_zero, List.getElem?_cons_succ, ↓aLt, ↓aLe, ↓aGt, ↓aGe, ↓aSub, ↓aMul, ↓aDiv, ↓aMod, ↓aPow, true_and, and_true]
  refine ⟨l, rfl, hl, fun ds hds => ?_⟩
  have h30 := hl.small
  refine sq ?_
  simp only [↓sNext, ↓sBreak, ↓sCont, ↓sDrop, ↓sRet, ↓sRetN, ↓sIf, ↓sAsg, ↓agName, ↓agNil, ↓agCons, ↓agTup, ↓sPar, ↓sFor, ↓aV, ↓lk, ↓aC, ↓aOp, ↓aUn, ↓aCall, ↓aNil, ↓aCons, ↓aIf, ↓aTest, ↓aAnd, ↓aOr, ↓aNot, ↓aAndV, ↓aOrV, ↓aNotV, ↓aI, ↓aI0, ↓aAdd, ↓aNeg, ↓aIsN, ↓isNone, ↓aTup, ↓purs, ↓aLst, ↓aLstO, ↓aIx, ↓gi0, ↓gi1, ↓gi2, ↓giN, ↓a1, ↓aLen, ↓aAbs, ↓aInt, ↓aStr, ↓aIsi, ↓btOf, ↓BT.isB, ↓aYes, ↓aiSeq, wipeL, ↓startL, List.map, List.set, List.replicate, List.length, List.append, List.cons_append, List.nil_append, ↓aMt, ↓isLs, ↓aLc, ↓aLcO, Bool.false_bne, Bool.true_bne, Bool.xor_false, Bool.false_xor, Bool.true_xor, Bool.not_true, Bool.not_false, decide_eq_true_eq, if_true, if_false, ite_true, ite_false, reduceIte, Bool.false_eq_true, List.getElem?_cons_zero, List.getElem?_cons_succ, ↓aLt, ↓aLe, ↓aGt, ↓aGe, ↓aSub, ↓aMul, ↓aDiv, ↓aMod, ↓aPow, true_and, and_true, aDisp1, aLstRg, aRg1, lotP, dkT, keysOf]
  refine ⟨⟨by omega, by omega⟩, ?_⟩
  have e0 : P.lst (rgP 0 l.m) = marksP (List.range l.m) := by
    unfold rgP marksP
    rw [Int.sub_zero]
    simp
  rw [e0, List.append_assoc, List.length_append]
  have hT : (latS S ds l.m).length = S.length + l.m + 1 := by simp [latS, hds.len]; omega
  have bT : Bel (latS S ds l.m).length (latS S ds l.m) := by rw [hT]; exact (latS_bel hB hds.pur (m := l.m)).le (Nat.le_succ _)
  have fD : ∀ e, e < l.m → (latS S ds l.m)[S.length + e]? = (ds[e]?).map O.dk := fun e he => latS_dict S ds l.m e hds.len he
  have fL := latS_list S ds l.m hds.len
  have fS : ∀ i, i < S.length → (latS S ds l.m)[i]? = S[i]? := fun i hi => by unfold latS; rw [List.getElem?_append_left hi]
  generalize latS S ds l.m = T at *
  refine ⟨1, T.length, _, tabP (Jm.lv l.m l.ps 0), ?_, .inl ⟨tabE (Jm.lv l.m l.ps 0), rfl, rfl⟩, ?_⟩
  · rw [List.getElem?_append_right (Nat.le_refl _), Nat.sub_self]
    rfl
  have e1 : subS T.length (tabP (Jm.lv l.m l.ps 0)) (T ++ ([O.dt [([], D.p (marksP (List.range l.m)))]] ++ [O.lst [D.own T.length]])) = stL T l.m l.ps 0 := by
    unfold subS stL
    rw [List.set_append_right _ _ (Nat.le_refl _), Nat.sub_self, List.map_append, bT.sub]
    congr 1
    simp [O.sub, D.sub]
  rw [e1]
  clear e1
  simp only [fzRun, subL, List.map, Option.map_some, Option.map_none, D.sub, List.length_singleton]
  rw [if_neg (by omega), if_neg (by omega)]
  refine sq ?_
  simp only [↓sNext, ↓sBreak, ↓sCont, ↓sDrop, ↓sRet, ↓sRetN, ↓sIf, ↓sAsg, ↓agName, ↓agNil, ↓agCons, ↓agTup, ↓sPar, ↓sFor, ↓aV, ↓lk, ↓aC, ↓aOp, ↓aUn, ↓aCall, ↓aNil, ↓aCons, ↓aIf, ↓aTest, ↓aAnd, ↓aOr, ↓aNot, ↓aAndV, ↓aOrV, ↓aNotV, ↓aI, ↓aI0, ↓aAdd, ↓aNeg, ↓aIsN, ↓isNone, ↓aTup, ↓purs, ↓aLst, ↓aLstO, ↓aIx, ↓gi0, ↓gi1, ↓gi2, ↓giN, ↓a1, ↓aLen, ↓aAbs, ↓aInt, ↓aStr, ↓aIsi, ↓btOf, ↓BT.isB, ↓aYes, ↓aiSeq, wipeL, ↓startL, List.map, List.set, List.replicate, List.length, List.append, List.cons_append, List.nil_append, ↓aMt, ↓isLs, ↓aLc, ↓aLcO, Bool.false_bne, Bool.true_bne, Bool.xor_false, Bool.false_xor, Bool.true_xor, Bool.not_true, Bool.not_false, decide_eq_true_eq, if_true, if_false, ite_true, ite_false, reduceIte, Bool.false_eq_true, List.getElem?_cons_zero, List.getElem?_cons_succ, ↓aLt, ↓aLe, ↓aGt, ↓aGe, ↓aSub, ↓aMul, ↓aDiv, ↓aMod, ↓aPow, true_and, and_true, aiRng1]
  refine ⟨by omega, by omega, ?_⟩
  rw [show ((k : Nat) : Int).toNat = k from rfl]
  refine for_go (fun i L S' => ∃ a4 a5 a6 a7 a8 a9 : Option D, L = [some (.p (lotP l)), some (.p (.int (k : Nat))), some (.own (S.length + l.m)), some (.own (T.length + 1)), a4, a5, a6, a7, a8, a9] ∧ S' = stL T l.m l.ps i) (fun _ _ _ _ => trivial) (fun i x L S' N hx hI hN => ?_) (fun L S' hI => ?_) ⟨_, _, _, _, _, _, rfl, rfl⟩
  · obtain ⟨a4, a5, a6, a7, a8, a9, rfl, rfl⟩ := hI
    obtain ⟨rfl, hi⟩ := rng_at hx
    simp only [↓sNext, ↓sBreak, ↓sCont, ↓sDrop, ↓sRet, ↓sRetN, ↓sIf, ↓sAsg, ↓agName, ↓agNil, ↓agCons, ↓agTup, ↓sPar, ↓sFor, ↓aV, ↓lk, ↓aC, ↓aOp, ↓aUn, ↓aCall, ↓aNil, ↓aCons, ↓aIf, ↓aTest, ↓aAnd, ↓aOr, ↓aNot, ↓aAndV, ↓aOrV, ↓aNotV, ↓aI, ↓aI0, ↓aAdd, ↓aNeg, ↓aIsN, ↓isNone, ↓aTup, ↓purs, ↓aLst, ↓aLstO, ↓aIx, ↓gi0, ↓gi1, ↓gi2, ↓giN, ↓a1, ↓aLen, ↓aAbs, ↓aInt, ↓aStr, ↓aIsi, ↓btOf, ↓BT.isB, ↓aYes, ↓aiSeq, wipeL, ↓startL, List.map, List.set, List.replicate, List.length, List.append, List.cons_append, List.nil_append, ↓aMt, ↓isLs, ↓aLc, ↓aLcO, Bool.false_bne, Bool.true_bne, Bool.xor_false, Bool.false_xor, Bool.true_xor, Bool.not_true, Bool.not_false, decide_eq_true_eq, if_true, if_false, ite_true, ite_false, reduceIte, Bool.false_eq_true, List.getElem?_cons_zero, List.getElem?_cons_succ, ↓aLt, ↓aLe, ↓aGt, ↓aGe, ↓aSub, ↓aMul, ↓aDiv, ↓aMod, ↓aPow, true_and, and_true]
    refine sq ?_
    simp only [↓sNext, ↓sBreak, ↓sCont, ↓sDrop, ↓sRet, ↓sRetN, ↓sIf, ↓sAsg, ↓agName, ↓agNil, ↓agCons, ↓agTup, ↓sPar, ↓sFor, ↓aV, ↓lk, ↓aC, ↓aOp, ↓aUn, ↓aCall, ↓aNil, ↓aCons, ↓aIf, ↓aTest, ↓aAnd, ↓aOr, ↓aNot, ↓aAndV, ↓aOrV, ↓aNotV, ↓aI, ↓aI0, ↓aAdd, ↓aNeg, ↓aIsN, ↓isNone, ↓aTup, ↓purs, ↓aLst, ↓aLstO, ↓aIx, ↓gi0, ↓gi1, ↓gi2, ↓giN, ↓a1, ↓aLen, ↓aAbs, ↓aInt, ↓aStr, ↓aIsi, ↓btOf, ↓BT.isB, ↓aYes, ↓aiSeq, wipeL, ↓startL, List.map, List.set, List.replicate, List.length, List.append, List.cons_append, List.nil_append, ↓aMt, ↓isLs, ↓aLc, ↓aLcO, Bool.false_bne, Bool.true_bne, Bool.xor_false, Bool.false_xor, Bool.true_xor, Bool.not_true, Bool.not_false, decide_eq_true_eq, if_true, if_false, ite_true, ite_false, reduceIte, Bool.false_eq_true, List.getElem?_cons_zero, List.getElem?_cons_succ, ↓aLt, ↓aLe, ↓aGt, ↓aGe, ↓aSub, ↓aMul, ↓aDiv, ↓aMod, ↓aPow, true_and, and_true, aD0T]
    have hlen := stL_len T l.m l.ps i
    have hn := Jm.lv_nodup l.m l.ps i
    have hw := Jm.lv_wide l.m l.ps i
    have hz : (Jm.lv l.m l.ps (i + 1)).length ≤ 810000 := by
      refine Nat.le_trans (Jm.lv_len _ _ _) (Nat.le_trans (Nat.pow_le_pow_left h30 _) (Nat.le_trans (Nat.pow_le_pow_right (by decide) (show i + 1 ≤ 4 by omega)) (by decide)))
    refine sq ?_
    simp only [↓sNext, ↓sBreak, ↓sCont, ↓sDrop, ↓sRet, ↓sRetN, ↓sIf, ↓sAsg, ↓agName, ↓agNil, ↓agCons, ↓agTup, ↓sPar, ↓sFor, ↓aV, ↓lk, ↓aC, ↓aOp, ↓aUn, ↓aCall, ↓aNil, ↓aCons, ↓aIf, ↓aTest, ↓aAnd, ↓aOr, ↓aNot, ↓aAndV, ↓aOrV, ↓aNotV, ↓aI, ↓aI0, ↓aAdd, ↓aNeg, ↓aIsN, ↓isNone, ↓aTup, ↓purs, ↓aLst, ↓aLstO, ↓aIx, ↓gi0, ↓gi1, ↓gi2, ↓giN, ↓a1, ↓aLen, ↓aAbs, ↓aInt, ↓aStr, ↓aIsi, ↓btOf, ↓BT.isB, ↓aYes, ↓aiSeq, wipeL, ↓startL, List.map, List.set, List.replicate, List.length, List.append, List.cons_append, List.nil_append, ↓aMt, ↓isLs, ↓aLc, ↓aLcO, Bool.false_bne, Bool.true_bne, Bool.xor_false, Bool.false_xor, Bool.true_xor, Bool.not_true, Bool.not_false, decide_eq_true_eq, if_true, if_false, ite_true, ite_false, reduceIte, Bool.false_eq_true, List.getElem?_cons_zero, List.getElem?_cons_succ, ↓aLt, ↓aLe, ↓aGt, ↓aGe, ↓aSub, ↓aMul, ↓aDiv, ↓aMod, ↓aPow, true_and, and_true, aiItemsT, stL_at, gi_last, tabP]
    refine ⟨?_, ?_⟩
    · intro kv hkv
      obtain ⟨e, he, rfl⟩ := List.mem_map.mp hkv
      have := (hw e he).2.1
      show (keyR e.1).length ≤ 1000
      unfold keyR
      rw [List.length_map]
      omega
    refine for_go (fun j L S' => ∃ a6 a7 a8 a9 : Option D, L = [some (.p (lotP l)), some (.p (.int (k : Nat))), some (.own (S.length + l.m)), some (.own (T.length + 1)), some (.p (.int (i : Nat))), some (.own (stL T l.m l.ps i).length), a6, a7, a8, a9] ∧ S' = stL T l.m l.ps i ++ [.dt (ent (tabE (Jm.up l.ps ((Jm.lv l.m l.ps i).take j))))]) (fun _ _ _ _ => trivial) (fun j x L S' N2 hx2 hI2 hN2 => ?_) (fun L S' hI2 => ?_) ⟨_, _, _, _, rfl, rfl⟩
    · obtain ⟨a6, a7, a8, a9, rfl, rfl⟩ := hI2
      obtain ⟨kv, hkv, rfl⟩ := map_at hx2
      obtain ⟨e, he, rfl⟩ := map_at hkv
      rw [item_row]
      obtain ⟨r, ms⟩ := e
      simp only [↓sNext, ↓sBreak, ↓sCont, ↓sDrop, ↓sRet, ↓sRetN, ↓sIf, ↓sAsg, ↓agName, ↓agNil, ↓agCons, ↓agTup, ↓sPar, ↓sFor, ↓aV, ↓lk, ↓aC, ↓aOp, ↓aUn, ↓aCall, ↓aNil, ↓aCons, ↓aIf, ↓aTest, ↓aAnd, ↓aOr, ↓aNot, ↓aAndV, ↓aOrV, ↓aNotV, ↓aI, ↓aI0, ↓aAdd, ↓aNeg, ↓aIsN, ↓isNone, ↓aTup, ↓purs, ↓aLst, ↓aLstO, ↓aIx, ↓gi0, ↓gi1, ↓gi2, ↓giN, ↓a1, ↓aLen, ↓aAbs, ↓aInt, ↓aStr, ↓aIsi, ↓btOf, ↓BT.isB, ↓aYes, ↓aiSeq, wipeL, ↓startL, List.map, List.set, List.replicate, List.length, List.append, List.cons_append, List.nil_append, ↓aMt, ↓isLs, ↓aLc, ↓aLcO, Bool.false_bne, Bool.true_bne, Bool.xor_false, Bool.false_xor, Bool.true_xor, Bool.not_true, Bool.not_false, decide_eq_true_eq, if_true, if_false, ite_true, ite_false, reduceIte, Bool.false_eq_true, List.getElem?_cons_zero, List.getElem?_cons_succ, ↓aLt, ↓aLe, ↓aGt, ↓aGe, ↓aSub, ↓aMul, ↓aDiv, ↓aMod, ↓aPow, true_and, and_true, marksP]
      have hwr := hw _ (List.mem_of_getElem? he)
      refine for_go (fun q L S' => ∃ a8 a9 : Option D, L = [some (.p (lotP l)), some (.p (.int (k : Nat))), some (.own (S.length + l.m)), some (.own (T.length + 1)), some (.p (.int (i : Nat))), some (.own (stL T l.m l.ps i).length), some (.p (rowP r)), some (.p (marksP ms)), a8, a9] ∧ S' = stL T l.m l.ps i ++ [.dt (ent (tabE (Jm.half l.ps (Jm.lv l.m l.ps i) j r ms q)))]) (fun _ _ _ _ => trivial) (fun q x L S' N3 hx3 hI3 hN3 => ?_) (fun L S' hI3 => ?_) ⟨_, _, rfl, by rw [Jm.half_zero]⟩
      · obtain ⟨a8, a9, rfl, rfl⟩ := hI3
        obtain ⟨y, hy, rfl⟩ := map_at hx3
        obtain ⟨x, hx, rfl⟩ := map_at hy
        have hxm := hwr.2.2 x (List.mem_of_getElem? hx)
        have hxd : x < ds.length := by rw [hds.len]; exact hxm
        have eO : (owns S.length l.m)[x]? = some (.own (S.length + x)) := by
          unfold owns
          rw [List.getElem?_map, List.getElem?_range hxm]; rfl
        have eL := stL_old T l.m l.ps i [.dt (ent (tabE (Jm.half l.ps (Jm.lv l.m l.ps i) j r ms q)))] (show S.length + l.m < T.length by omega)
        rw [fL] at eL
        have eD := stL_old T l.m l.ps i [.dt (ent (tabE (Jm.half l.ps (Jm.lv l.m l.ps i) j r ms q)))] (show S.length + x < T.length by omega)
        rw [fD x hxm, List.getElem?_eq_getElem hxd] at eD
        simp only [↓sNext, ↓sBreak, ↓sCont, ↓sDrop, ↓sRet, ↓sRetN, ↓sIf, ↓sAsg, ↓agName, ↓agNil, ↓agCons, ↓agTup, ↓sPar, ↓sFor, ↓aV, ↓lk, ↓aC, ↓aOp, ↓aUn, ↓aCall, ↓aNil, ↓aCons, ↓aIf, ↓aTest, ↓aAnd, ↓aOr, ↓aNot, ↓aAndV, ↓aOrV, ↓aNotV, ↓aI, ↓aI0, ↓aAdd, ↓aNeg, ↓aIsN, ↓isNone, ↓aTup, ↓purs, ↓aLst, ↓aLstO, ↓aIx, ↓gi0, ↓gi1, ↓gi2, ↓giN, ↓a1, ↓aLen, ↓aAbs, ↓aInt, ↓aStr, ↓aIsi, ↓btOf, ↓BT.isB, ↓aYes, ↓aiSeq, wipeL, ↓startL, List.map, List.set, List.replicate, List.length, List.append, List.cons_append, List.nil_append, ↓aMt, ↓isLs, ↓aLc, ↓aLcO, Bool.false_bne, Bool.true_bne, Bool.xor_false, Bool.false_xor, Bool.true_xor, Bool.not_true, Bool.not_false, decide_eq_true_eq, if_true, if_false, ite_true, ite_false, reduceIte, Bool.false_eq_true, List.getElem?_cons_zero, List.getElem?_cons_succ, ↓aLt, ↓aLe, ↓aGt, ↓aGe, ↓aSub, ↓aMul, ↓aDiv, ↓aMod, ↓aPow, true_and, and_true, sDPutA, marksP]
        refine lc_mapP ms (fun n => .int (n : Nat)) (fun o => decide ((o, x) ∈ l.ps)) (fun n => .int (n : Nat)) (fun o ho Q R hQ => ?_) ?_
        · simp only [↓sNext, ↓sBreak, ↓sCont, ↓sDrop, ↓sRet, ↓sRetN, ↓sIf, ↓sAsg, ↓agName, ↓agNil, ↓agCons, ↓agTup, ↓sPar, ↓sFor, ↓aV, ↓lk, ↓aC, ↓aOp, ↓aUn, ↓aCall, ↓aNil, ↓aCons, ↓aIf, ↓aTest, ↓aAnd, ↓aOr, ↓aNot, ↓aAndV, ↓aOrV, ↓aNotV, ↓aI, ↓aI0, ↓aAdd, ↓aNeg, ↓aIsN, ↓isNone, ↓aTup, ↓purs, ↓aLst, ↓aLstO, ↓aIx, ↓gi0, ↓gi1, ↓gi2, ↓giN, ↓a1, ↓aLen, ↓aAbs, ↓aInt, ↓aStr, ↓aIsi, ↓btOf, ↓BT.isB, ↓aYes, ↓aiSeq, wipeL, ↓startL, List.map, List.set, List.replicate, List.length, List.append, List.cons_append, List.nil_append, ↓aMt, ↓isLs, ↓aLc, ↓aLcO, Bool.false_bne, Bool.true_bne, Bool.xor_false, Bool.false_xor, Bool.true_xor, Bool.not_true, Bool.not_false, decide_eq_true_eq, if_true, if_false, ite_true, ite_false, reduceIte, Bool.false_eq_true, List.getElem?_cons_zero, List.getElem?_cons_succ, ↓aLt, ↓aLe, ↓aGt, ↓aGe, ↓aSub, ↓aMul, ↓aDiv, ↓aMod, ↓aPow, true_and, and_true, eL, eO, aDIn, dlk, eD, Option.map_some, dkK, keyP]
          rw [hds.mem x _ (List.getElem?_eq_getElem hxd) o]
          exact hQ
        · refine ⟨_, rfl, ?_⟩
          simp only [↓sNext, ↓sBreak, ↓sCont, ↓sDrop, ↓sRet, ↓sRetN, ↓sIf, ↓sAsg, ↓agName, ↓agNil, ↓agCons, ↓agTup, ↓sPar, ↓sFor, ↓aV, ↓lk, ↓aC, ↓aOp, ↓aUn, ↓aCall, ↓aNil, ↓aCons, ↓aIf, ↓aTest, ↓aAnd, ↓aOr, ↓aNot, ↓aAndV, ↓aOrV, ↓aNotV, ↓aI, ↓aI0, ↓aAdd, ↓aNeg, ↓aIsN, ↓isNone, ↓aTup, ↓purs, ↓aLst, ↓aLstO, ↓aIx, ↓gi0, ↓gi1, ↓gi2, ↓giN, ↓a1, ↓aLen, ↓aAbs, ↓aInt, ↓aStr, ↓aIsi, ↓btOf, ↓BT.isB, ↓aYes, ↓aiSeq, wipeL, ↓startL, List.map, List.set, List.replicate, List.length, List.append, List.cons_append, List.nil_append, ↓aMt, ↓isLs, ↓aLc, ↓aLcO, Bool.false_bne, Bool.true_bne, Bool.xor_false, Bool.false_xor, Bool.true_xor, Bool.not_true, Bool.not_false, decide_eq_true_eq, if_true, if_false, ite_true, ite_false, reduceIte, Bool.false_eq_true, List.getElem?_cons_zero, List.getElem?_cons_succ, ↓aLt, ↓aLe, ↓aGt, ↓aGe, ↓aSub, ↓aMul, ↓aDiv, ↓aMod, ↓aPow, true_and, and_true, rowP, getE, dkT]
          have hr : r.length = i := hwr.2.1
          refine ⟨small_sl (by rw [List.length_map]; omega), ?_⟩
          have ek : keysOf ((r.map fun n => P.int (n : Nat)) ++ [P.int (x : Nat)]) = some (keyR (r ++ [x])) := by
            rw [← keyR_of, List.map_append]; rfl
          rw [ek]
          refine ⟨?_, ?_⟩
          · have h1 := Jm.half_len (ps := l.ps) he q
            have h2 : (Jm.up l.ps (Jm.lv l.m l.ps i)).length ≤ 810000 := hz
            have h3 : (ent (tabE (Jm.half l.ps (Jm.lv l.m l.ps i) j r ms q))).length = (Jm.half l.ps (Jm.lv l.m l.ps i) j r ms q).length := by simp [ent, tabE]
            rw [h3]
            exact Nat.lt_of_le_of_lt (Nat.le_trans h1 h2) (by decide)
          · rw [setE]
            have h4 := tab_put (ms := Jm.later l.ps x ms) (Jm.half_new (ps := l.ps) hn he hx)
            rw [← Jm.half_succ hx] at h4
            have h5 : P.lst ((ms.filter fun o => decide ((o, x) ∈ l.ps)).map fun n => P.int (n : Nat)) = marksP (Jm.later l.ps x ms) := rfl
            rw [h5, h4]
            exact hN3 _ _ ⟨_, _, rfl, rfl⟩
      · obtain ⟨a8, a9, rfl, rfl⟩ := hI3
        rw [List.length_map, List.length_map, Jm.half_all he]
        exact hN2 _ _ ⟨_, _, _, _, rfl, rfl⟩
    · obtain ⟨a6, a7, a8, a9, rfl, rfl⟩ := hI2
      rw [List.length_map, show (tabE (Jm.lv l.m l.ps i)).length = (Jm.lv l.m l.ps i).length from List.length_map .., List.take_length]
      show sFzM _ _ _ _
      refine ⟨1, (stL T l.m l.ps i).length, _, tabP (Jm.lv l.m l.ps (i + 1)), getE _ _, .inl ⟨tabE (Jm.lv l.m l.ps (i + 1)), rfl, rfl⟩, ?_⟩
      rw [subS_last (stL_bel bT _ _ _)]
      simp only [fzRun, subL, List.map, Option.map_some, Option.map_none, D.sub]
      rw [if_neg (by omega), if_neg (by omega), if_pos trivial]
      have eL2 := stL_at T l.m l.ps i [.dead]
      simp only [↓sNext, ↓sBreak, ↓sCont, ↓sDrop, ↓sRet, ↓sRetN, ↓sIf, ↓sAsg, ↓agName, ↓agNil, ↓agCons, ↓agTup, ↓sPar, ↓sFor, ↓aV, ↓lk, ↓aC, ↓aOp, ↓aUn, ↓aCall, ↓aNil, ↓aCons, ↓aIf, ↓aTest, ↓aAnd, ↓aOr, ↓aNot, ↓aAndV, ↓aOrV, ↓aNotV, ↓aI, ↓aI0, ↓aAdd, ↓aNeg, ↓aIsN, ↓isNone, ↓aTup, ↓purs, ↓aLst, ↓aLstO, ↓aIx, ↓gi0, ↓gi1, ↓gi2, ↓giN, ↓a1, ↓aLen, ↓aAbs, ↓aInt, ↓aStr, ↓aIsi, ↓btOf, ↓BT.isB, ↓aYes, ↓aiSeq, wipeL, ↓startL, List.map, List.set, List.replicate, List.length, List.append, List.cons_append, List.nil_append, ↓aMt, ↓isLs, ↓aLc, ↓aLcO, Bool.false_bne, Bool.true_bne, Bool.xor_false, Bool.false_xor, Bool.true_xor, Bool.not_true, Bool.not_false, decide_eq_true_eq, if_true, if_false, ite_true, ite_false, reduceIte, Bool.false_eq_true, List.getElem?_cons_zero, List.getElem?_cons_succ, ↓aLt, ↓aLe, ↓aGt, ↓aGe, ↓aSub, ↓aMul, ↓aDiv, ↓aMod, ↓aPow, true_and, and_true, eL2, aAppend]
      refine ⟨?_, ?_⟩
      · rw [List.length_map, List.length_range]
        exact Nat.lt_of_le_of_lt (show _ ≤ 10 by omega) (by decide)
      rw [stL_next]
      exact hN _ _ ⟨_, _, _, _, _, _, rfl, rfl⟩
  · obtain ⟨a4, a5, a6, a7, a8, a9, rfl, rfl⟩ := hI
    simp only [↓sNext, ↓sBreak, ↓sCont, ↓sDrop, ↓sRet, ↓sRetN, ↓sIf, ↓sAsg, ↓agName, ↓agNil, ↓agCons, ↓agTup, ↓sPar, ↓sFor, ↓aV, ↓lk, ↓aC, ↓aOp, ↓aUn, ↓aCall, ↓aNil, ↓aCons, ↓aIf, ↓aTest, ↓aAnd, ↓aOr, ↓aNot, ↓aAndV, ↓aOrV, ↓aNotV, ↓aI, ↓aI0, ↓aAdd, ↓aNeg, ↓aIsN, ↓isNone, ↓aTup, ↓purs, ↓aLst, ↓aLstO, ↓aIx, ↓gi0, ↓gi1, ↓gi2, ↓giN, ↓a1, ↓aLen, ↓aAbs, ↓aInt, ↓aStr, ↓aIsi, ↓btOf, ↓BT.isB, ↓aYes, ↓aiSeq, wipeL, ↓startL, List.map, List.set, List.replicate, List.length, List.append, List.cons_append, List.nil_append, ↓aMt, ↓isLs, ↓aLc, ↓aLcO, Bool.false_bne, Bool.true_bne, Bool.xor_false, Bool.false_xor, Bool.true_xor, Bool.not_true, Bool.not_false, decide_eq_true_eq, if_true, if_false, ite_true, ite_false, reduceIte, Bool.false_eq_true, List.getElem?_cons_zero, List.getElem?_cons_succ, ↓aLt, ↓aLe, ↓aGt, ↓aGe, ↓aSub, ↓aMul, ↓aDiv, ↓aMod, ↓aPow, true_and, and_true]
    refine .inl (h _ _ ?_ ?_)
    · intro i hi
      have := stL_old T l.m l.ps ((List.range k).map fun n => D.p (.int (n : Nat))).length [] (show i < T.length by omega)
      rw [List.append_nil] at this
      rw [this]
      exact fS i hi
    · have := stL_at T l.m l.ps ((List.range k).map fun n => D.p (.int (n : Nat))).length []
      rw [List.append_nil] at this
      rw [this]
      simp
end
end Lw
namespace Lw
open PySem PySem.Spec PyProof.Rows L2 Am
section
variable {Pg : Program} {w : World} {K : PySem.W.Frag} {mg : Str → Option Value} {base : Heap}
/-! ### peeled -/
def ownE (b : Nat) : List (List Nat) → List (List Key × D)
  | [] => []
  | r :: rs => (keyR r, .own b) :: ownE (b + 1) rs
theorem ownE_app : ∀ (rs : List (List Nat)) (b : Nat) (r : List Nat), ownE b (rs ++ [r]) = ownE b rs ++ [(keyR r, .own (b + rs.length))]
  | [], b, r => rfl
  | x :: rs, b, r => by
    rw [List.cons_append, ownE, ownE, ownE_app rs, List.length_cons, List.cons_append]
    congr 5
    omega
theorem ownE_len : ∀ (rs : List (List Nat)) (b : Nat), (ownE b rs).length = rs.length
  | [], b => rfl
  | x :: rs, b => by rw [ownE, List.length_cons, ownE_len rs, List.length_cons]
theorem ownE_key : ∀ (rs : List (List Nat)) (b : Nat), ∀ e ∈ ownE b rs, ∃ r ∈ rs, e.1 = keyR r
  | [], b, e, h => nomatch h
  | x :: rs, b, e, h => by
    rcases List.mem_cons.mp h with rfl | h
    · exact ⟨x, List.mem_cons_self .., rfl⟩
    · obtain ⟨r, h1, h2⟩ := ownE_key rs _ e h
      exact ⟨r, List.mem_cons_of_mem _ h1, h2⟩
theorem ownE_gt : ∀ (rs : List (List Nat)) (b : Nat), rs.Nodup → ∀ (j : Nat) (r : List Nat), rs[j]? = some r → gt (ownE b rs) (keyR r) = some (.own (b + j))
  | [], b, _, j, r, h => by simp at h
  | x :: rs, b, hn, j, r, h => by
    rw [List.nodup_cons] at hn
    rw [ownE, gt_cons]
    cases j with
    | zero =>
      simp at h
      rw [if_pos (by rw [h])]
      rfl
    | succ j =>
      have h : rs[j]? = some r := by simpa using h
      rw [if_neg, ownE_gt rs _ hn.2 j r h]
      · congr 2; omega
      · intro q
        have := keyR_inj q
        subst this
        exact hn.1 (List.mem_of_getElem? h)
theorem ownE_put {rs : List (List Nat)} {b : Nat} {r : List Nat} (h : r ∉ rs) : pt (ownE b rs) (keyR r) (.own (b + rs.length)) = ownE b (rs ++ [r]) := by
  rw [pt_new, ownE_app]
  intro e he q
  obtain ⟨r', h1, h2⟩ := ownE_key _ _ e he
  have := keyR_inj (h2.symm.trans q)
  subst this
  exact h h1
/-- the store while it peels: good, what waits, waiting, good's dicts, more -/
def pS (S : List O) (gd : List (List Key × D)) (Ws : List (List D)) (wd : List (List Key × D)) (Gs : List (List (Key × D))) (R : List O) : List O := S ++ (.dt gd :: (Ws.map .lst ++ (.dt wd :: (Gs.map .dk ++ R))))
section
variable {S : List O} {gd wd : List (List Key × D)} {Ws : List (List D)} {Gs : List (List (Key × D))} {R : List O}
theorem pS_len : (pS S gd Ws wd Gs R).length = S.length + 2 + Ws.length + Gs.length + R.length := by
  unfold pS
  simp
  omega
theorem pS_gd : (pS S gd Ws wd Gs R)[S.length]? = some (.dt gd) := by
  unfold pS
  rw [List.getElem?_append_right (Nat.le_refl _), Nat.sub_self]; rfl
theorem pS_old {i : Nat} (h : i < S.length) : (pS S gd Ws wd Gs R)[i]? = S[i]? := by
  unfold pS
  rw [List.getElem?_append_left h]
theorem pS_W {j : Nat} {ds : List D} (h : Ws[j]? = some ds) : (pS S gd Ws wd Gs R)[S.length + 1 + j]? = some (.lst ds) := by
  have hj := (List.getElem?_eq_some_iff.mp h).1
  unfold pS
  rw [List.getElem?_append_right (by omega), show S.length + 1 + j - S.length = j + 1 by omega, List.getElem?_cons_succ, List.getElem?_append_left (by simpa using hj), List.getElem?_map, h]
  rfl
theorem pS_wd {n : Nat} (hn : n = Ws.length) : (pS S gd Ws wd Gs R)[S.length + 1 + n]? = some (.dt wd) := by
  subst hn
  unfold pS
  rw [List.getElem?_append_right (by omega), show S.length + 1 + Ws.length - S.length = Ws.length + 1 by omega, List.getElem?_cons_succ, List.getElem?_append_right (by simp), List.length_map, Nat.sub_self]
  rfl
theorem pS_G {n j : Nat} (hn : n = Ws.length) {kvs : List (Key × D)} (h : Gs[j]? = some kvs) : (pS S gd Ws wd Gs R)[S.length + 2 + n + j]? = some (.dk kvs) := by
  have hj := (List.getElem?_eq_some_iff.mp h).1
  subst hn
  unfold pS
  rw [List.getElem?_append_right (by omega), show S.length + 2 + Ws.length + j - S.length = Ws.length + 1 + j + 1 by omega, List.getElem?_cons_succ, List.getElem?_append_right (by simp; omega), List.length_map, show Ws.length + 1 + j - Ws.length = j + 1 by omega, List.getElem?_cons_succ, List.getElem?_append_left (by simpa using hj), List.getElem?_map, h]
  rfl
theorem pS_R {n m k : Nat} (hn : n = Ws.length) (hm : m = Gs.length) : (pS S gd Ws wd Gs R)[S.length + 2 + n + m + k]? = R[k]? := by
  subst hn hm
  unfold pS
  rw [List.getElem?_append_right (by omega), show S.length + 2 + Ws.length + Gs.length + k - S.length = Ws.length + 1 + Gs.length + k + 1 by omega, List.getElem?_cons_succ, List.getElem?_append_right (by simp; omega), List.length_map, show Ws.length + 1 + Gs.length + k - Ws.length = Gs.length + k + 1 by omega, List.getElem?_cons_succ, List.getElem?_append_right (by simp), List.length_map]
  congr 1
  omega
theorem pS_gd_set {gd' : List (List Key × D)} : (pS S gd Ws wd Gs R).set S.length (.dt gd') = pS S gd' Ws wd Gs R := by
  unfold pS
  rw [List.set_append_right _ _ (Nat.le_refl _), Nat.sub_self]; rfl
theorem pS_W_set {j : Nat} {ds : List D} (hj : j < Ws.length) : (pS S gd Ws wd Gs R).set (S.length + 1 + j) (.lst ds) = pS S gd (Ws.set j ds) wd Gs R := by
  unfold pS
  rw [List.set_append_right _ _ (by omega), show S.length + 1 + j - S.length = j + 1 by omega, List.set_cons_succ, List.set_append_left _ _ (by simpa using hj), List.map_set]
theorem pS_G_set {n j : Nat} (hn : n = Ws.length) {kvs : List (Key × D)} (hj : j < Gs.length) : (pS S gd Ws wd Gs R).set (S.length + 2 + n + j) (.dk kvs) = pS S gd Ws wd (Gs.set j kvs) R := by
  subst hn
  unfold pS
  rw [List.set_append_right _ _ (by omega), show S.length + 2 + Ws.length + j - S.length = Ws.length + 1 + j + 1 by omega, List.set_cons_succ, List.set_append_right _ _ (by simp; omega), List.length_map, show Ws.length + 1 + j - Ws.length = j + 1 by omega, List.set_cons_succ, List.set_append_left _ _ (by simpa using hj), List.map_set]
theorem pS_R_set {n m k : Nat} (hn : n = Ws.length) (hm : m = Gs.length) {o : O} : (pS S gd Ws wd Gs R).set (S.length + 2 + n + m + k) o = pS S gd Ws wd Gs (R.set k o) := by
  subst hn hm
  unfold pS
  rw [List.set_append_right _ _ (by omega), show S.length + 2 + Ws.length + Gs.length + k - S.length = Ws.length + 1 + Gs.length + k + 1 by omega, List.set_cons_succ, List.set_append_right _ _ (by simp; omega), List.length_map, show Ws.length + 1 + Gs.length + k - Ws.length = Gs.length + k + 1 by omega, List.set_cons_succ, List.set_append_right _ _ (by simp), List.length_map]
  congr 8
  omega
theorem pS_app {R' : List O} : pS S gd Ws wd Gs R ++ R' = pS S gd Ws wd Gs (R ++ R') := by
  unfold pS
  simp
theorem pS_G_app {kvs : List (Key × D)} : pS S gd Ws wd Gs [] ++ [.dk kvs] = pS S gd Ws wd (Gs ++ [kvs]) [] := by
  unfold pS
  simp
end
def trueE (ms : List Nat) : List (Key × D) := ms.map fun m => (.inl ((m : Nat) : Int), .p (.bl true))
theorem trueE_mem {ms : List Nat} {m : Nat} : (gt (trueE ms) (.inl ((m : Nat) : Int))) = if m ∈ ms then some (.p (.bl true)) else none := by
  induction ms with
  | nil => rfl
  | cons x ms ih =>
    show gt ((Sum.inl ((x : Nat) : Int), D.p (.bl true)) :: trueE ms) _ = _
    rw [gt_cons, ih]
    by_cases h : x = m
    · subst h
      rw [if_pos rfl, if_pos (List.mem_cons_self ..)]
    · rw [if_neg (fun q => h (by have := Sum.inl.inj q; omega))]
      by_cases h2 : m ∈ ms
      · rw [if_pos h2, if_pos (List.mem_cons_of_mem _ h2)]
      · rw [if_neg h2, if_neg (fun q => (List.mem_cons.mp q).elim (fun z => h z.symm) h2)]
theorem trueE_dl {ms : List Nat} {m : Nat} : Am.dl (trueE ms) (.inl ((m : Nat) : Int)) = trueE (ms.filter fun x => decide (x ≠ m)) := by
  unfold Am.dl trueE
  rw [List.filter_map]
  congr 1
  refine List.filter_congr fun x _ => ?_
  show decide ((Sum.inl ((x : Nat) : Int) : Key) ≠ .inl ((m : Nat) : Int)) = decide (x ≠ m)
  refine decide_eq_decide.mpr ⟨fun h q => h (by rw [q]), fun h q => h (by have := Sum.inl.inj q; omega)⟩
theorem trueE_put {ms : List Nat} {m : Nat} (h : m ∉ ms) : pt (trueE ms) (.inl ((m : Nat) : Int)) (.p (.bl true)) = trueE (ms ++ [m]) := by
  rw [pt_new]
  · unfold trueE; rw [List.map_append]; rfl
  · intro e he q
    obtain ⟨x, hx, rfl⟩ := List.mem_map.mp he
    have : x = m := by have := Sum.inl.inj q; omega
    subst this
    exact h hx
theorem trueE_bare {ms : List Nat} : (trueE ms).isEmpty = ms.isEmpty := by cases ms <;> rfl
def wtD (es : List Jm.Ev) (p : List Nat) : List D := (Jm.wt es p).map fun e => .p (.tup [rowP e.1, .int (e.2 : Nat)])
def goneE (gk : List (List Nat × Nat)) : List (List Key × P) := gk.map fun e => (keyR e.1, .int (e.2 : Nat))
theorem goneE_gt {gk : List (List Nat × Nat)} {r : List Nat} : (gt (ent (goneE gk)) (keyR r)).isSome = decide (r ∈ gk.map (·.1)) := by
  induction gk with
  | nil => rfl
  | cons e gk ih =>
    show (gt ((keyR e.1, D.p (.int (e.2 : Nat))) :: ent (goneE gk)) _).isSome = _
    rw [gt_cons]
    by_cases h : e.1 = r
    · subst h
      rw [if_pos rfl]
      simp
    · rw [if_neg (fun q => h (keyR_inj q)), ih]
      refine decide_eq_decide.mpr ⟨fun q => List.mem_cons_of_mem _ q, fun q => (List.mem_cons.mp q).elim (fun z => absurd z.symm h) id⟩
theorem goneE_put {gk : List (List Nat × Nat)} {r : List Nat} {k : Nat} (h : r ∉ gk.map (·.1)) : pt (ent (goneE gk)) (keyR r) (.p (.int (k : Nat))) = ent (goneE (gk ++ [(r, k)])) := by
  rw [pt_new]
  · unfold ent goneE; simp
  · intro e he q
    obtain ⟨e1, h1, rfl⟩ := List.mem_map.mp he
    obtain ⟨e2, h2, rfl⟩ := List.mem_map.mp h1
    exact h (List.mem_map.mpr ⟨e2, h2, keyR_inj q⟩)
theorem len_sub {α : Type} [DecidableEq α] : ∀ {xs ys : List α}, xs.Nodup → (∀ u ∈ xs, u ∈ ys) → xs.length ≤ ys.length
  | [], _, _, _ => Nat.zero_le _
  | x :: xs, ys, hn, h => by
    rw [List.nodup_cons] at hn
    have hx := h x (by simp)
    have ih := len_sub (ys := ys.erase x) hn.2 fun u hu => by
      have hne : u ≠ x := fun e => hn.1 (e ▸ hu)
      exact (List.mem_erase_of_ne hne).mpr (h u (List.mem_cons_of_mem _ hu))
    rw [List.length_erase_of_mem hx] at ih
    have := List.length_pos_of_mem hx
    rw [List.length_cons]
    omega
def marksE (lt : List (List Nat)) : List (List Key × D) := lt.map fun r => (keyR r, .p (.bl true))
theorem marksE_put {lt : List (List Nat)} {r : List Nat} : pt (marksE lt) (keyR r) (.p (.bl true)) = marksE (if r ∈ lt then lt else lt ++ [r]) := by
  by_cases h : r ∈ lt
  · rw [if_pos h]
    unfold pt
    have : ((marksE lt).any fun kv => decide (kv.1 = keyR r)) = true := List.any_eq_true.mpr ⟨_, List.mem_map.mpr ⟨r, h, rfl⟩, by simp⟩
    rw [if_pos this]
    unfold marksE
    rw [List.map_map]
    refine List.map_congr_left fun x _ => ?_
    show (if keyR x = keyR r then (keyR x, _) else (keyR x, _)) = _
    split <;> rfl
  · rw [if_neg h, pt_new]
    · unfold marksE; simp
    · intro e he q
      obtain ⟨x, hx, rfl⟩ := List.mem_map.mp he
      exact h (keyR_inj q ▸ hx)
theorem marksE_list (lt : List (List Nat)) : P.lst ((marksE lt).map fun kv => .tup (kv.1.map unK)) = .lst (lt.map rowP) := by
  unfold marksE
  rw [List.map_map]
  congr 1
  refine List.map_congr_left fun r _ => ?_
  exact rowP_key r
theorem dat_int {n : Nat} {i : Int} : Dat n (.int i) := by cases n <;> trivial
theorem row_dat {r : List Nat} {n : Nat} : Dat (n + 1) (rowP r) := by
  intro x hx
  obtain ⟨m, _, rfl⟩ := List.mem_map.mp hx
  exact dat_int
theorem map_set_at {α β : Type} (f f' : α → β) : ∀ (xs : List α) (j : Nat) (a : α), xs.Nodup → xs[j]? = some a → (∀ x ∈ xs, x ≠ a → f x = f' x) → (xs.map f).set j (f' a) = xs.map f'
  | [], j, a, _, h, _ => by simp at h
  | x :: xs, 0, a, hn, h, k => by
    simp at h
    subst h
    rw [List.nodup_cons] at hn
    rw [List.map_cons, List.set_cons_zero, List.map_cons]
    congr 1
    refine List.map_congr_left fun y hy => k y (List.mem_cons_of_mem _ hy) fun e => hn.1 (e ▸ hy)
  | x :: xs, j + 1, a, hn, h, k => by
    rw [List.nodup_cons] at hn
    have h : xs[j]? = some a := by simpa using h
    rw [List.map_cons, List.set_cons_succ, List.map_cons, map_set_at f f' xs j a hn.2 h fun y hy => k y (List.mem_cons_of_mem _ hy)]
    congr 1
    exact k x (List.mem_cons_self ..) fun e => hn.1 (e ▸ List.mem_of_getElem? h)
/-- a table that can be peeled -/
structure TabOk (A : Jm.Tab) : Prop where
  once : Jm.Once A
  total : Jm.Total A
  len : A.length ≤ 810000
  row : ∀ e ∈ A, e.1.length ≤ 4
  marks : ∀ e ∈ A, e.2.length ≤ 30
theorem TabOk.func {A : Jm.Tab} (h : TabOk A) : Jm.Func A := fun row ms ms' h1 h2 => by
  obtain ⟨i, hi⟩ := List.mem_iff_getElem?.mp h1
  obtain ⟨j, hj⟩ := List.mem_iff_getElem?.mp h2
  have a := h.once.1
  have e1 : (A.map (·.1))[i]? = some row := by rw [List.getElem?_map, hi]; rfl
  have e2 : (A.map (·.1))[j]? = some row := by rw [List.getElem?_map, hj]; rfl
  have := (List.getElem?_inj (List.getElem?_eq_some_iff.mp e1).1 a).mp (e1.trans e2.symm)
  subst this
  rw [hi] at hj
  cases hj
  rfl
def F_peeled : FT := fun as S Post => ∃ A : Jm.Tab, as = [.p (tabP A)] ∧ TabOk A ∧ ∀ gk S' n, Jm.Ranked A gk → (∀ i, i < S.length → S'[i]? = S[i]?) → S'[n]? = some (.dt (ent (goneE gk))) → Post (.own n) S'
theorem len_peeled : ∀ as S Post, F_peeled as S Post → as.length = ["above"].length := by
  rintro _ S Post ⟨_, rfl, _⟩; rfl
def GsOf (A : Jm.Tab) (pp : List (List Nat × Nat)) : List (List (Key × D)) := A.map fun e => trueE (Jm.lft pp e.1 e.2)
theorem key_at {A : Jm.Tab} {j : Nat} {e : List Nat × List Nat} (h : A[j]? = some e) : (A.map (·.1))[j]? = some e.1 := by rw [List.getElem?_map, h]; rfl
theorem GsOf_at {A : Jm.Tab} {j : Nat} {r ms : List Nat} (h : A[j]? = some (r, ms)) (pp : List (List Nat × Nat)) : (GsOf A pp)[j]? = some (trueE (Jm.lft pp r ms)) := by unfold GsOf; rw [List.getElem?_map, h]; rfl
theorem GsOf_pop {A : Jm.Tab} (hA : (A.map (·.1)).Nodup) {j : Nat} {r ms : List Nat} (h : A[j]? = some (r, ms)) (pp : List (List Nat × Nat)) (m : Nat) : (GsOf A pp).set j (trueE (Jm.lft (pp ++ [(r, m)]) r ms)) = GsOf A (pp ++ [(r, m)]) := by
  unfold GsOf
  have hn : A.Nodup := List.Pairwise.of_map (·.1) (fun a b hab e => hab (by rw [e])) hA
  refine map_set_at (fun e : List Nat × List Nat => trueE (Jm.lft pp e.1 e.2)) (fun e : List Nat × List Nat => trueE (Jm.lft (pp ++ [(r, m)]) e.1 e.2)) A j (r, ms) hn h fun x hx hne => ?_
  have : r ≠ x.1 := fun e => by
    obtain ⟨i, hi⟩ := List.mem_iff_getElem?.mp hx
    have e1 := key_at hi
    have e2 := key_at h
    rw [← e] at e1
    have := (List.getElem?_inj (List.getElem?_eq_some_iff.mp e1).1 hA).mp (e1.trans e2.symm)
    subst this
    rw [hi] at h
    exact hne (Option.some.inj h)
  show trueE _ = trueE _
  rw [Jm.lft_other _ _ _ this]
end
end Lw
namespace Lw
open PySem PySem.Spec PyProof.Rows L2 Am
section
variable {Pg : Program} {w : World} {K : PySem.W.Frag} {mg : Str → Option Value} {base : Heap}
theorem app_pS {S : List O} {wd : List (List Key × D)} {n : Nat} : S ++ (O.dt [] :: List.replicate n (.lst [])) ++ [.dt wd] = pS S [] (List.replicate n []) wd [] [] := by
  unfold pS
  simp
theorem wtD_nil (p : List Nat) : wtD [] p = [] := rfl
theorem wtD_put {es : List Jm.Ev} {rs : List (List Nat)} (hn : rs.Nodup) {j : Nat} {p r : List Nat} {m : Nat} (h : rs[j]? = some p) : (rs.map (wtD es)).set j (wtD es p ++ [.p (.tup [rowP r, .int (m : Nat)])]) = rs.map (wtD (es ++ [(r, m, p)])) := by
  have e : wtD es p ++ [.p (.tup [rowP r, .int (m : Nat)])] = wtD (es ++ [(r, m, p)]) p := by
    unfold wtD
    rw [Jm.wt_app, Jm.wt_one, if_pos rfl]
    simp
  rw [e]
  refine map_set_at (wtD es) (wtD (es ++ [(r, m, p)])) rs j p hn h fun x hx hne => ?_
  unfold wtD
  rw [Jm.wt_app, Jm.wt_one, if_neg (fun q => hne q.symm), List.append_nil]
theorem items_row (A : Jm.Tab) : (tabE A).map (fun kv => D.p (.tup (kv.1.map unK))) = A.map fun e => .p (rowP e.1) := by
  unfold tabE
  rw [List.map_map]
  refine List.map_congr_left fun e _ => ?_
  show D.p (.tup ((keyR e.1).map unK)) = _
  rw [rowP_key]
theorem tab_small {A : Jm.Tab} (h : TabOk A) : ∀ kv ∈ tabE A, kv.1.length ≤ 1000 := by
  intro kv hkv
  obtain ⟨e, he, rfl⟩ := List.mem_map.mp hkv
  have := h.row e he
  show (keyR e.1).length ≤ 1000
  unfold keyR
  rw [List.length_map]
  omega
theorem big_sl {n : Nat} (h : n ≤ 4000000) : n < sizeLine := Nat.lt_of_le_of_lt h (by decide)
theorem keysD (r : List Nat) : dkT (.p (rowP r)) = some (keyR r) := keyR_of r
theorem dlk_own {S : List O} {n : Nat} {kvs : List (List Key × D)} (h : S[n]? = some (.dt kvs)) (r : List Nat) : dlk S (.own n) (.p (rowP r)) = some (gt kvs (keyR r)) := by
  simp only [dlk, h, keysD, Option.map_some]
theorem dget_row {S : List O} {n : Nat} {kvs : List (List Key × D)} {x : D} {Post : D → List O → Prop} (h : S[n]? = some (.dt kvs)) {r : List Nat} (g : gt kvs (keyR r) = some x) (q : Post x S) : aDGet (.own n) (.p (rowP r)) S Post := by
  unfold aDGet
  rw [dlk_own h, g]
  exact q
theorem eqE_go {S : List O} {n : Nat} {kvs : List (Key × D)} {neg : Bool} {Post : D → List O → Prop} (h : S[n]? = some (.dk kvs)) (q : Post (.p (.bl (xor neg kvs.isEmpty))) (S ++ [.dk []])) : aEqE neg (.own n) (.own S.length) (S ++ [.dk []]) Post := by
  unfold aEqE
  have : (S ++ [O.dk []])[n]? = some (.dk kvs) := by rw [List.getElem?_append_left (List.getElem?_eq_some_iff.mp h).1]; exact h
  simp only [this, getE]
  exact q
theorem pop_go {S : List O} {n : Nat} {ms : List Nat} {m : Nat} {Post : D → List O → Prop} (h : S[n]? = some (.dk (trueE ms))) (q : ∀ x, Post x (S.set n (.dk (trueE (ms.filter fun x => decide (x ≠ m)))))) : aPopK (.own n) [.p (.int ((m : Nat) : Int)), .p .non] S Post := by
  unfold aPopK
  simp only [h, dkK, keyP, trueE_mem]
  by_cases hm : m ∈ ms
  · rw [if_pos hm]
    show Post _ (S.set n (.dk (Am.dl (trueE ms) (.inl ((m : Nat) : Int)))))
    rw [trueE_dl]
    exact q _
  · rw [if_neg hm]
    have e : (ms.filter fun x => decide (x ≠ m)) = ms := by
      rw [List.filter_eq_self]
      intro x hx
      exact decide_eq_true fun z => hm (z ▸ hx)
    have := q (.p .non)
    rw [e] at this
    have e2 : S.set n (.dk (trueE ms)) = S := by
      refine List.ext_getElem? fun i => ?_
      by_cases hi : n = i
      · subst hi
        rw [List.getElem?_set_self (List.getElem?_eq_some_iff.mp h).1, h]
      · rw [List.getElem?_set_ne hi]
    rw [e2] at this
    exact this
theorem isDk_at {S : List O} {n : Nat} {kvs : List (Key × D)} (h : S[n]? = some (.dk kvs)) : isDk S (.own n) = true := by simp only [isDk, h]
theorem isLs_at {S : List O} {n : Nat} {ds : List D} (h : S[n]? = some (.lst ds)) : isLs S (.own n) = true := by simp only [isLs, h]
theorem cl_peeled (p : Pre K mg "peeled" st_peeled) (z_list : mg "list" = none) (c_parts_with : Cl Pg w K mg base 1 "parts_with" st_parts_with ["row", "mark"] F_parts_with) : Cl Pg w K mg base 2 "peeled" st_peeled ["above"] F_peeled := by
  refine p.cl (fun _ _ _ _ _ _ us hl => match us, hl with | [_], _ => rfl) fun f fd F => ?_
  refine fun_ok F sc_peeled len_peeled (fun cdv A outer s H E gd hr => have hu := hu65 hr; (jb_cons (js_tupO (n := 2) (by decide) rfl (ja_cons je_d0T (ja_cons (je_dcT hu rfl sc_peeled.nd (ji_keys (je_var 0)) (blkOk_by (N := ns_peeled) (sc := defScope st_peeled) (own := [("row", 3)]) (by decide +kernel)) (fun _ _ _ _ _ => (jgo_name 3 sc_peeled.nd)) (fun _ _ _ _ _ => jts_nil) (fun _ _ _ _ _ => (je_var 3)) (fun _ _ _ _ _ => (je_lstO ja_nil))) ja_nil)) (jgs_cons (jg_name 1 sc_peeled.nd) (jgs_cons (jg_name 2 sc_peeled.nd) jgs_nil)))
    (jb_cons (js_for PassesOwn.never rfl (ji_itemsT (je_var 0)) (jg_tup (n := 2) rfl (jgs_cons (jg_name 3 sc_peeled.nd) (jgs_cons (jg_name 4 sc_peeled.nd) jgs_nil))) (jb_cons (js_dput hu (je_var 1) (je_var 3) (je_dcK hu rfl sc_peeled.nd (ji_seq (je_var 4)) (blkOk_by (N := ns_peeled) (sc := defScope st_peeled) (own := [("mark", 5)]) (by decide +kernel)) (fun _ _ _ _ _ => (jgo_name 5 sc_peeled.nd)) (fun _ _ _ _ _ => jts_nil) (fun _ _ _ _ _ => (je_var 5)) (fun _ _ _ _ _ => je_bl)))
    (jb_one (js_for PassesOwn.never rfl (ji_seq (je_var 4)) (jg_name 5 sc_peeled.nd) (jb_one (js_for PassesOwn.never rfl (ji_seq (je_own c_parts_with gd hr (ja_cons (je_var 3) (ja_cons (je_var 5) ja_nil)))) (jg_name 6 sc_peeled.nd) (jb_one (js_expr (je_mtL PySem.F.slot_list_append PySem.F.type_list_append mt_append lift_append (je_dget hu (je_var 2) (je_var 6)) (ja_cons (je_tup (ja_cons (je_var 3) (ja_cons (je_var 5) ja_nil))) ja_nil))))))))))
    (jb_cons (js_par3 7 8 9 rfl sc_peeled.nd (ja_cons je_d0T (ja_cons (je_lc rfl sc_peeled.nd (ji_keys (je_var 0)) (blkOk_by (N := ns_peeled) (sc := defScope st_peeled) (own := [("row", 3)]) (by decide +kernel)) (fun _ _ _ _ _ => (jgo_name 3 sc_peeled.nd)) (fun _ _ _ _ _ => jts_one (jt_eqE hu (je_dget hu (je_var 1) (je_var 3)) je_d0K)) (fun _ _ _ _ _ => (je_var 3))) (ja_cons je_int ja_nil))))
    (jb_cons (js_while PassesOwn.never (jt_ne hr (je_var 8) (je_lst ja_nil)) (jb_cons (js_for PassesOwn.never rfl (ji_seq (je_var 8)) (jg_name 3 sc_peeled.nd) (jb_one (js_dput hu (je_var 7) (je_var 3) (je_var 9))))
    (jb_cons (js_set 10 sc_peeled.nd je_d0T)
    (jb_cons (js_for PassesOwn.never rfl (ji_seq (je_var 8)) (jg_name 6 sc_peeled.nd) (jb_one (js_for PassesOwn.never rfl (ji_seq (je_dget hu (je_var 2) (je_var 6))) (jg_tup (n := 2) rfl (jgs_cons (jg_name 3 sc_peeled.nd) (jgs_cons (jg_name 5 sc_peeled.nd) jgs_nil))) (jb_cons (js_expr (je_mtD PySem.F.slot_dict_pop PySem.F.type_dict_pop mt_popK lift_popK (je_dget hu (je_var 1) (je_var 3)) (ja_cons (je_var 5) (ja_cons je_non ja_nil))))
    (jb_one (js_if (JW.jt (jw_and (jt_eqE hu (je_dget hu (je_var 1) (je_var 3)) je_d0K) (jw_and1 (jt_dnin hu (je_var 3) (je_var 7))))) (jb_one (js_dput hu (je_var 10) (je_var 3) je_bl)) jb_nil))))))
    (jb_one (js_par 8 9 rfl sc_peeled.nd (ja_cons (je_listT (by rfl) (by rfl) z_list (je_var 10)) (ja_cons (je_add (je_var 9) je_int) ja_nil))))))))
    (jb_one (js_ret (je_var 7)))))))) ?_
  rintro as S Post hB ⟨A, rfl, hA, h⟩
  have hkn := hA.once.1
  have hAl := hA.len
  have hN : (A.map (·.1)).length = A.length := List.length_map ..
  refine sq ?_
  simp only [↓sNext, ↓sBreak, ↓sCont, ↓sDrop, ↓sRet, ↓sRetN, ↓sIf, ↓sAsg, ↓agName, ↓agNil, ↓agCons, ↓agTup, ↓sPar, ↓sFor, ↓aV, ↓lk, ↓aC, ↓aOp, ↓aUn, ↓aCall, ↓aNil, ↓aCons, ↓aIf, ↓aTest, ↓aAnd, ↓aOr, ↓aNot, ↓aAndV, ↓aOrV, ↓aNotV, ↓aI, ↓aI0, ↓aAdd, ↓aNeg, ↓aIsN, ↓isNone, ↓aTup, ↓purs, ↓aLst, ↓aLstO, ↓aIx, ↓gi0, ↓gi1, ↓gi2, ↓giN, ↓a1, ↓aLen, ↓aAbs, ↓aInt, ↓aStr, ↓aIsi, ↓btOf, ↓BT.isB, ↓aYes, ↓aiSeq, wipeL, ↓startL, List.map, List.set, List.replicate, List.length, List.append, List.cons_append, List.nil_append, ↓aMt, ↓isLs, ↓aLc, ↓aLcO, Bool.false_bne, Bool.true_bne, Bool.xor_false, Bool.false_xor, Bool.true_xor, Bool.not_true, Bool.not_false, decide_eq_true_eq, if_true, if_false, ite_true, ite_false, reduceIte, Bool.false_eq_true, List.getElem?_cons_zero, List.getElem?_cons_succ, ↓aLt, ↓aLe, ↓aGt, ↓aGe, ↓aSub, ↓aMul, ↓aDiv, ↓aMod, ↓aPow, true_and, and_true, sTupO, aD0T, aiKeys, tabP]
  refine ⟨tab_small hA, ?_⟩
  rw [items_row]
  refine dc_go (fun i acc S' => acc = ownE (S.length + 1) ((A.map (·.1)).take i) ∧ S' = S ++ (O.dt [] :: List.replicate i (.lst []))) (fun _ _ _ _ => trivial) (fun i x acc S' N hx hI hN' => ?_) (fun acc S' hI => ?_) ⟨rfl, rfl⟩
  · obtain ⟨rfl, rfl⟩ := hI
    obtain ⟨e, he, rfl⟩ := map_at hx
    simp only [↓sNext, ↓sBreak, ↓sCont, ↓sDrop, ↓sRet, ↓sRetN, ↓sIf, ↓sAsg, ↓agName, ↓agNil, ↓agCons, ↓agTup, ↓sPar, ↓sFor, ↓aV, ↓lk, ↓aC, ↓aOp, ↓aUn, ↓aCall, ↓aNil, ↓aCons, ↓aIf, ↓aTest, ↓aAnd, ↓aOr, ↓aNot, ↓aAndV, ↓aOrV, ↓aNotV, ↓aI, ↓aI0, ↓aAdd, ↓aNeg, ↓aIsN, ↓isNone, ↓aTup, ↓purs, ↓aLst, ↓aLstO, ↓aIx, ↓gi0, ↓gi1, ↓gi2, ↓giN, ↓a1, ↓aLen, ↓aAbs, ↓aInt, ↓aStr, ↓aIsi, ↓btOf, ↓BT.isB, ↓aYes, ↓aiSeq, wipeL, ↓startL, List.map, List.set, List.replicate, List.length, List.append, List.cons_append, List.nil_append, ↓aMt, ↓isLs, ↓aLc, ↓aLcO, Bool.false_bne, Bool.true_bne, Bool.xor_false, Bool.false_xor, Bool.true_xor, Bool.not_true, Bool.not_false, decide_eq_true_eq, if_true, if_false, ite_true, ite_false, reduceIte, Bool.false_eq_true, List.getElem?_cons_zero, List.getElem?_cons_succ, ↓aLt, ↓aLe, ↓aGt, ↓aGe, ↓aSub, ↓aMul, ↓aDiv, ↓aMod, ↓aPow, true_and, and_true, keysD]
    have hi := (List.getElem?_eq_some_iff.mp he).1
    have e1 : ((A.map (·.1)).take i).length = i := by rw [List.length_take, hN]; omega
    have hk : e.1 ∉ (A.map (·.1)).take i := by
      intro q
      have e2 := key_at he
      rw [← List.take_append_drop i (A.map (·.1))] at hkn
      have := (List.nodup_append.mp hkn).2.2 e.1 q e.1 ?_ rfl
      · exact this
      · rw [List.mem_iff_getElem?]
        exact ⟨0, by rw [List.getElem?_drop]; exact e2⟩
    have e3 := ownE_put (b := S.length + 1) hk
    rw [e1] at e3
    have e4 : (S ++ O.dt [] :: List.replicate i (O.lst [])).length = S.length + 1 + i := by simp; omega
    have e5 : (A.map (·.1)).take (i + 1) = (A.map (·.1)).take i ++ [e.1] := by rw [List.take_add_one, key_at he]; rfl
    rw [e4, e3]
    refine hN' _ _ ⟨by rw [e5], ?_⟩
    rw [List.append_assoc, List.cons_append, ← List.replicate_succ']
  obtain ⟨rfl, rfl⟩ := hI
  rw [List.length_map, ← hN, List.take_length, app_pS]
  have e0 : List.replicate (A.map (·.1)).length ([] : List D) = (A.map (·.1)).map (wtD []) := by
    rw [← List.map_const']
    rfl
  rw [e0]
  have e1 : (S ++ O.dt [] :: List.replicate (A.map (·.1)).length (O.lst [])).length = S.length + 1 + A.length := by simp; omega
  rw [e1]
  refine sq ?_
  simp only [↓sNext, ↓sBreak, ↓sCont, ↓sDrop, ↓sRet, ↓sRetN, ↓sIf, ↓sAsg, ↓agName, ↓agNil, ↓agCons, ↓agTup, ↓sPar, ↓sFor, ↓aV, ↓lk, ↓aC, ↓aOp, ↓aUn, ↓aCall, ↓aNil, ↓aCons, ↓aIf, ↓aTest, ↓aAnd, ↓aOr, ↓aNot, ↓aAndV, ↓aOrV, ↓aNotV, ↓aI, ↓aI0, ↓aAdd, ↓aNeg, ↓aIsN, ↓isNone, ↓aTup, ↓purs, ↓aLst, ↓aLstO, ↓aIx, ↓gi0, ↓gi1, ↓gi2, ↓giN, ↓a1, ↓aLen, ↓aAbs, ↓aInt, ↓aStr, ↓aIsi, ↓btOf, ↓BT.isB, ↓aYes, ↓aiSeq, wipeL, ↓startL, List.map, List.set, List.replicate, List.length, List.append, List.cons_append, List.nil_append, ↓aMt, ↓isLs, ↓aLc, ↓aLcO, Bool.false_bne, Bool.true_bne, Bool.xor_false, Bool.false_xor, Bool.true_xor, Bool.not_true, Bool.not_false, decide_eq_true_eq, if_true, if_false, ite_true, ite_false, reduceIte, Bool.false_eq_true, List.getElem?_cons_zero, List.getElem?_cons_succ, ↓aLt, ↓aLe, ↓aGt, ↓aGe, ↓aSub, ↓aMul, ↓aDiv, ↓aMod, ↓aPow, true_and, and_true, aiItemsT, tabP]
  refine ⟨tab_small hA, ?_⟩
  generalize hR : A.map (·.1) = rs at *
  refine for_go (fun j L S' => ∃ a3 a4 a5 a6 a7 a8 a9 a10 : Option D, L = [some (.p (tabP A)), some (.own S.length), some (.own (S.length + 1 + A.length)), a3, a4, a5, a6, a7, a8, a9, a10] ∧ S' = pS S (ownE (S.length + 2 + A.length) (rs.take j)) (rs.map (wtD (Jm.evs (A.take j)))) (ownE (S.length + 1) rs) ((A.take j).map fun e => trueE e.2) []) (fun _ _ _ _ => trivial) (fun j x L S' N hx hI hN1 => ?_) (fun L S' hI => ?_) ⟨_, _, _, _, _, _, _, _, rfl, rfl⟩
  · obtain ⟨a3, a4, a5, a6, a7, a8, a9, a10, rfl, rfl⟩ := hI
    obtain ⟨kv, hkv, rfl⟩ := map_at hx
    obtain ⟨e, he, rfl⟩ := map_at hkv
    rw [item_row]
    obtain ⟨r, ms⟩ := e
    have hj := (List.getElem?_eq_some_iff.mp he).1
    have hmem := List.mem_of_getElem? he
    have hms : ms.length ≤ 30 := hA.marks _ hmem
    have hr4 : r.length ≤ 4 := hA.row _ hmem
    have hmn : ms.Nodup := hA.once.2 _ hmem
    have hkey : rs[j]? = some r := by rw [← hR]; exact key_at he
    have elen : (rs.map (wtD (Jm.evs (A.take j)))).length = A.length := by rw [List.length_map, hN]
    have glen : ((A.take j).map fun e => trueE e.2).length = j := by rw [List.length_map, List.length_take]; omega
    have tlen : (rs.take j).length = j := by rw [List.length_take, hN]; omega
    simp only [↓sNext, ↓sBreak, ↓sCont, ↓sDrop, ↓sRet, ↓sRetN, ↓sIf, ↓sAsg, ↓agName, ↓agNil, ↓agCons, ↓agTup, ↓sPar, ↓sFor, ↓aV, ↓lk, ↓aC, ↓aOp, ↓aUn, ↓aCall, ↓aNil, ↓aCons, ↓aIf, ↓aTest, ↓aAnd, ↓aOr, ↓aNot, ↓aAndV, ↓aOrV, ↓aNotV, ↓aI, ↓aI0, ↓aAdd, ↓aNeg, ↓aIsN, ↓isNone, ↓aTup, ↓purs, ↓aLst, ↓aLstO, ↓aIx, ↓gi0, ↓gi1, ↓gi2, ↓giN, ↓a1, ↓aLen, ↓aAbs, ↓aInt, ↓aStr, ↓aIsi, ↓btOf, ↓BT.isB, ↓aYes, ↓aiSeq, wipeL, ↓startL, List.map, List.set, List.replicate, List.length, List.append, List.cons_append, List.nil_append, ↓aMt, ↓isLs, ↓aLc, ↓aLcO, Bool.false_bne, Bool.true_bne, Bool.xor_false, Bool.false_xor, Bool.true_xor, Bool.not_true, Bool.not_false, decide_eq_true_eq, if_true, if_false, ite_true, ite_false, reduceIte, Bool.false_eq_true, List.getElem?_cons_zero, List.getElem?_cons_succ, ↓aLt, ↓aLe, ↓aGt, ↓aGe, ↓aSub, ↓aMul, ↓aDiv, ↓aMod, ↓aPow, true_and, and_true, marksP]
    refine sq ?_
    simp only [↓sNext, ↓sBreak, ↓sCont, ↓sDrop, ↓sRet, ↓sRetN, ↓sIf, ↓sAsg, ↓agName, ↓agNil, ↓agCons, ↓agTup, ↓sPar, ↓sFor, ↓aV, ↓lk, ↓aC, ↓aOp, ↓aUn, ↓aCall, ↓aNil, ↓aCons, ↓aIf, ↓aTest, ↓aAnd, ↓aOr, ↓aNot, ↓aAndV, ↓aOrV, ↓aNotV, ↓aI, ↓aI0, ↓aAdd, ↓aNeg, ↓aIsN, ↓isNone, ↓aTup, ↓purs, ↓aLst, ↓aLstO, ↓aIx, ↓gi0, ↓gi1, ↓gi2, ↓giN, ↓a1, ↓aLen, ↓aAbs, ↓aInt, ↓aStr, ↓aIsi, ↓btOf, ↓BT.isB, ↓aYes, ↓aiSeq, wipeL, ↓startL, List.map, List.set, List.replicate, List.length, List.append, List.cons_append, List.nil_append, ↓aMt, ↓isLs, ↓aLc, ↓aLcO, Bool.false_bne, Bool.true_bne, Bool.xor_false, Bool.false_xor, Bool.true_xor, Bool.not_true, Bool.not_false, decide_eq_true_eq, if_true, if_false, ite_true, ite_false, reduceIte, Bool.false_eq_true, List.getElem?_cons_zero, List.getElem?_cons_succ, ↓aLt, ↓aLe, ↓aGt, ↓aGe, ↓aSub, ↓aMul, ↓aDiv, ↓aMod, ↓aPow, true_and, and_true, sDPutA, aDcK]
    refine dc_go (fun i acc S' => acc = trueE (ms.take i) ∧ S' = pS S (ownE (S.length + 2 + A.length) (rs.take j)) (rs.map (wtD (Jm.evs (A.take j)))) (ownE (S.length + 1) rs) ((A.take j).map fun e => trueE e.2) []) (fun _ _ _ _ => trivial) (fun i x acc S' N2 hx2 hI2 hN2 => ?_) (fun acc S' hI2 => ?_) ⟨rfl, rfl⟩
    · obtain ⟨rfl, rfl⟩ := hI2
      obtain ⟨y, hy, rfl⟩ := map_at hx2
      obtain ⟨m, hm, rfl⟩ := map_at hy
      simp only [↓sNext, ↓sBreak, ↓sCont, ↓sDrop, ↓sRet, ↓sRetN, ↓sIf, ↓sAsg, ↓agName, ↓agNil, ↓agCons, ↓agTup, ↓sPar, ↓sFor, ↓aV, ↓lk, ↓aC, ↓aOp, ↓aUn, ↓aCall, ↓aNil, ↓aCons, ↓aIf, ↓aTest, ↓aAnd, ↓aOr, ↓aNot, ↓aAndV, ↓aOrV, ↓aNotV, ↓aI, ↓aI0, ↓aAdd, ↓aNeg, ↓aIsN, ↓isNone, ↓aTup, ↓purs, ↓aLst, ↓aLstO, ↓aIx, ↓gi0, ↓gi1, ↓gi2, ↓giN, ↓a1, ↓aLen, ↓aAbs, ↓aInt, ↓aStr, ↓aIsi, ↓btOf, ↓BT.isB, ↓aYes, ↓aiSeq, wipeL, ↓startL, List.map, List.set, List.replicate, List.length, List.append, List.cons_append, List.nil_append, ↓aMt, ↓isLs, ↓aLc, ↓aLcO, Bool.false_bne, Bool.true_bne, Bool.xor_false, Bool.false_xor, Bool.true_xor, Bool.not_true, Bool.not_false, decide_eq_true_eq, if_true, if_false, ite_true, ite_false, reduceIte, Bool.false_eq_true, List.getElem?_cons_zero, List.getElem?_cons_succ, ↓aLt, ↓aLe, ↓aGt, ↓aGe, ↓aSub, ↓aMul, ↓aDiv, ↓aMod, ↓aPow, true_and, and_true, dkK, keyP]
      have e1 : ms.take (i + 1) = ms.take i ++ [m] := by rw [List.take_add_one, hm]; rfl
      have e2 : m ∉ ms.take i := by
        intro q
        have h2 := hmn
        rw [← List.take_append_drop i ms] at h2
        refine (List.nodup_append.mp h2).2.2 m q m ?_ rfl
        rw [List.mem_iff_getElem?]
        exact ⟨0, by rw [List.getElem?_drop]; exact hm⟩
      rw [trueE_put e2, ← e1]
      exact hN2 _ _ ⟨rfl, rfl⟩
    obtain ⟨rfl, rfl⟩ := hI2
    rw [List.length_map, List.length_map, List.take_length, pS_len, elen, glen, pS_G_app]
    simp only [↓sNext, ↓sBreak, ↓sCont, ↓sDrop, ↓sRet, ↓sRetN, ↓sIf, ↓sAsg, ↓agName, ↓agNil, ↓agCons, ↓agTup, ↓sPar, ↓sFor, ↓aV, ↓lk, ↓aC, ↓aOp, ↓aUn, ↓aCall, ↓aNil, ↓aCons, ↓aIf, ↓aTest, ↓aAnd, ↓aOr, ↓aNot, ↓aAndV, ↓aOrV, ↓aNotV, ↓aI, ↓aI0, ↓aAdd, ↓aNeg, ↓aIsN, ↓isNone, ↓aTup, ↓purs, ↓aLst, ↓aLstO, ↓aIx, ↓gi0, ↓gi1, ↓gi2, ↓giN, ↓a1, ↓aLen, ↓aAbs, ↓aInt, ↓aStr, ↓aIsi, ↓btOf, ↓BT.isB, ↓aYes, ↓aiSeq, wipeL, ↓startL, List.map, List.set, List.replicate, List.length, List.append, List.cons_append, List.nil_append, ↓aMt, ↓isLs, ↓aLc, ↓aLcO, Bool.false_bne, Bool.true_bne, Bool.xor_false, Bool.false_xor, Bool.true_xor, Bool.not_true, Bool.not_false, decide_eq_true_eq, if_true, if_false, ite_true, ite_false, reduceIte, Bool.false_eq_true, List.getElem?_cons_zero, List.getElem?_cons_succ, ↓aLt, ↓aLe, ↓aGt, ↓aGe, ↓aSub, ↓aMul, ↓aDiv, ↓aMod, ↓aPow, true_and, and_true, pS_gd, keysD]
    refine ⟨by rw [ownE_len, tlen]; exact big_sl (by omega), ?_⟩
    have hk : r ∉ rs.take j := by
      intro q
      have h2 := hkn
      rw [← List.take_append_drop j rs] at h2
      refine (List.nodup_append.mp h2).2.2 r q r ?_ rfl
      rw [List.mem_iff_getElem?]
      exact ⟨0, by rw [List.getElem?_drop]; exact hkey⟩
    have e3 := ownE_put (b := S.length + 2 + A.length) hk
    rw [tlen] at e3
    have e3 : pt (ownE (S.length + 2 + A.length) (rs.take j)) (keyR r) (.own (S.length + 2 + A.length + j + 0)) = _ := e3
    have e5 : rs.take (j + 1) = rs.take j ++ [r] := by rw [List.take_add_one, hkey]; rfl
    have e6 : ((A.take j).map fun e => trueE e.2) ++ [trueE ms] = (A.take (j + 1)).map fun e => trueE e.2 := by rw [List.take_add_one, he]; simp
    rw [e3, ← e5, e6, pS_gd_set]
    have elen2 : ∀ es, (rs.map (wtD es)).length = A.length := fun es => by rw [List.length_map, hN]
    refine for_go (fun q L S' => ∃ a5 a6 a7 a8 a9 a10 : Option D, L = [some (.p (tabP A)), some (.own S.length), some (.own (S.length + 1 + A.length)), some (.p (rowP r)), some (.p (marksP ms)), a5, a6, a7, a8, a9, a10] ∧ S' = pS S (ownE (S.length + 2 + A.length) (rs.take (j + 1))) (rs.map (wtD (Jm.evs (A.take j) ++ Jm.evR r (ms.take q)))) (ownE (S.length + 1) rs) ((A.take (j + 1)).map fun e => trueE e.2) []) (fun _ _ _ _ => trivial) (fun q x L S' N3 hx3 hI3 hN3 => ?_) (fun L S' hI3 => ?_) ⟨_, _, _, _, _, _, rfl, by simp [Jm.evR]⟩
    · obtain ⟨a5, a6, a7, a8, a9, a10, rfl, rfl⟩ := hI3
      obtain ⟨y, hy, rfl⟩ := map_at hx3
      obtain ⟨m, hm, rfl⟩ := map_at hy
      simp only [↓sNext, ↓sBreak, ↓sCont, ↓sDrop, ↓sRet, ↓sRetN, ↓sIf, ↓sAsg, ↓agName, ↓agNil, ↓agCons, ↓agTup, ↓sPar, ↓sFor, ↓aV, ↓lk, ↓aC, ↓aOp, ↓aUn, ↓aCall, ↓aNil, ↓aCons, ↓aIf, ↓aTest, ↓aAnd, ↓aOr, ↓aNot, ↓aAndV, ↓aOrV, ↓aNotV, ↓aI, ↓aI0, ↓aAdd, ↓aNeg, ↓aIsN, ↓isNone, ↓aTup, ↓purs, ↓aLst, ↓aLstO, ↓aIx, ↓gi0, ↓gi1, ↓gi2, ↓giN, ↓a1, ↓aLen, ↓aAbs, ↓aInt, ↓aStr, ↓aIsi, ↓btOf, ↓BT.isB, ↓aYes, ↓aiSeq, wipeL, ↓startL, List.map, List.set, List.replicate, List.length, List.append, List.cons_append, List.nil_append, ↓aMt, ↓isLs, ↓aLc, ↓aLcO, Bool.false_bne, Bool.true_bne, Bool.xor_false, Bool.false_xor, Bool.true_xor, Bool.not_true, Bool.not_false, decide_eq_true_eq, if_true, if_false, ite_true, ite_false, reduceIte, Bool.false_eq_true, List.getElem?_cons_zero, List.getElem?_cons_succ, ↓aLt, ↓aLe, ↓aGt, ↓aGe, ↓aSub, ↓aMul, ↓aDiv, ↓aMod, ↓aPow, true_and, and_true]
      refine ⟨r, m, rfl, by omega, ?_⟩
      simp only [↓sNext, ↓sBreak, ↓sCont, ↓sDrop, ↓sRet, ↓sRetN, ↓sIf, ↓sAsg, ↓agName, ↓agNil, ↓agCons, ↓agTup, ↓sPar, ↓sFor, ↓aV, ↓lk, ↓aC, ↓aOp, ↓aUn, ↓aCall, ↓aNil, ↓aCons, ↓aIf, ↓aTest, ↓aAnd, ↓aOr, ↓aNot, ↓aAndV, ↓aOrV, ↓aNotV, ↓aI, ↓aI0, ↓aAdd, ↓aNeg, ↓aIsN, ↓isNone, ↓aTup, ↓purs, ↓aLst, ↓aLstO, ↓aIx, ↓gi0, ↓gi1, ↓gi2, ↓giN, ↓a1, ↓aLen, ↓aAbs, ↓aInt, ↓aStr, ↓aIsi, ↓btOf, ↓BT.isB, ↓aYes, ↓aiSeq, wipeL, ↓startL, List.map, List.set, List.replicate, List.length, List.append, List.cons_append, List.nil_append, ↓aMt, ↓isLs, ↓aLc, ↓aLcO, Bool.false_bne, Bool.true_bne, Bool.xor_false, Bool.false_xor, Bool.true_xor, Bool.not_true, Bool.not_false, decide_eq_true_eq, if_true, if_false, ite_true, ite_false, reduceIte, Bool.false_eq_true, List.getElem?_cons_zero, List.getElem?_cons_succ, ↓aLt, ↓aLe, ↓aGt, ↓aGe, ↓aSub, ↓aMul, ↓aDiv, ↓aMod, ↓aPow, true_and, and_true]
      refine for_go (fun i L S' => ∃ a6 a7 a8 a9 a10 : Option D, L = [some (.p (tabP A)), some (.own S.length), some (.own (S.length + 1 + A.length)), some (.p (rowP r)), some (.p (marksP ms)), some (.p (.int (m : Nat))), a6, a7, a8, a9, a10] ∧ S' = pS S (ownE (S.length + 2 + A.length) (rs.take (j + 1))) (rs.map (wtD (Jm.evU A j r ms q m i))) (ownE (S.length + 1) rs) ((A.take (j + 1)).map fun e => trueE e.2) []) (fun _ _ _ _ => trivial) (fun i x L S' N4 hx4 hI4 hN4 => ?_) (fun L S' hI4 => ?_) ⟨_, _, _, _, _, rfl, by rw [Jm.evU_0]⟩
      · obtain ⟨a6, a7, a8, a9, a10, rfl, rfl⟩ := hI4
        obtain ⟨y, hy, rfl⟩ := map_at hx4
        obtain ⟨p, hp, rfl⟩ := map_at hy
        have hmm := List.mem_of_getElem? hm
        have hpp := List.mem_of_getElem? hp
        obtain ⟨ms', hp'⟩ := hA.total r ms hmem m hmm p hpp
        obtain ⟨jp, hjp⟩ := List.mem_iff_getElem?.mp hp'
        have hkp : rs[jp]? = some p := by rw [← hR]; exact key_at hjp
        have hwd := pS_wd (S := S) (gd := ownE (S.length + 2 + A.length) (rs.take (j + 1))) (wd := ownE (S.length + 1) rs) (Gs := (A.take (j + 1)).map fun e => trueE e.2) (R := []) (elen2 (Jm.evU A j r ms q m i)).symm
        have hgt := ownE_gt rs (S.length + 1) hkn jp p hkp
        have hW : (rs.map (wtD (Jm.evU A j r ms q m i)))[jp]? = some (wtD (Jm.evU A j r ms q m i) p) := by rw [List.getElem?_map, hkp]; rfl
        have hWs := pS_W (S := S) (gd := ownE (S.length + 2 + A.length) (rs.take (j + 1))) (wd := ownE (S.length + 1) rs) (Gs := (A.take (j + 1)).map fun e => trueE e.2) (R := []) hW
        simp only [↓sNext, ↓sBreak, ↓sCont, ↓sDrop, ↓sRet, ↓sRetN, ↓sIf, ↓sAsg, ↓agName, ↓agNil, ↓agCons, ↓agTup, ↓sPar, ↓sFor, ↓aV, ↓lk, ↓aC, ↓aOp, ↓aUn, ↓aCall, ↓aNil, ↓aCons, ↓aIf, ↓aTest, ↓aAnd, ↓aOr, ↓aNot, ↓aAndV, ↓aOrV, ↓aNotV, ↓aI, ↓aI0, ↓aAdd, ↓aNeg, ↓aIsN, ↓isNone, ↓aTup, ↓purs, ↓aLst, ↓aLstO, ↓aIx, ↓gi0, ↓gi1, ↓gi2, ↓giN, ↓a1, ↓aLen, ↓aAbs, ↓aInt, ↓aStr, ↓aIsi, ↓btOf, ↓BT.isB, ↓aYes, ↓aiSeq, wipeL, ↓startL, List.map, List.set, List.replicate, List.length, List.append, List.cons_append, List.nil_append, ↓aMt, ↓isLs, ↓aLc, ↓aLcO, Bool.false_bne, Bool.true_bne, Bool.xor_false, Bool.false_xor, Bool.true_xor, Bool.not_true, Bool.not_false, decide_eq_true_eq, if_true, if_false, ite_true, ite_false, reduceIte, Bool.false_eq_true, List.getElem?_cons_zero, List.getElem?_cons_succ, ↓aLt, ↓aLe, ↓aGt, ↓aGe, ↓aSub, ↓aMul, ↓aDiv, ↓aMod, ↓aPow, true_and, and_true]
        refine dget_row hwd hgt ?_
        simp only [isLs_at hWs, ↓sNext, ↓sBreak, ↓sCont, ↓sDrop, ↓sRet, ↓sRetN, ↓sIf, ↓sAsg, ↓agName, ↓agNil, ↓agCons, ↓agTup, ↓sPar, ↓sFor, ↓aV, ↓lk, ↓aC, ↓aOp, ↓aUn, ↓aCall, ↓aNil, ↓aCons, ↓aIf, ↓aTest, ↓aAnd, ↓aOr, ↓aNot, ↓aAndV, ↓aOrV, ↓aNotV, ↓aI, ↓aI0, ↓aAdd, ↓aNeg, ↓aIsN, ↓isNone, ↓aTup, ↓purs, ↓aLst, ↓aLstO, ↓aIx, ↓gi0, ↓gi1, ↓gi2, ↓giN, ↓a1, ↓aLen, ↓aAbs, ↓aInt, ↓aStr, ↓aIsi, ↓btOf, ↓BT.isB, ↓aYes, ↓aiSeq, wipeL, ↓startL, List.map, List.set, List.replicate, List.length, List.append, List.cons_append, List.nil_append, ↓aMt, ↓isLs, ↓aLc, ↓aLcO, Bool.false_bne, Bool.true_bne, Bool.xor_false, Bool.false_xor, Bool.true_xor, Bool.not_true, Bool.not_false, decide_eq_true_eq, if_true, if_false, ite_true, ite_false, reduceIte, Bool.false_eq_true, List.getElem?_cons_zero, List.getElem?_cons_succ, ↓aLt, ↓aLe, ↓aGt, ↓aGe, ↓aSub, ↓aMul, ↓aDiv, ↓aMod, ↓aPow, true_and, and_true, rowP]
        simp only [aAppend, hWs]
        refine ⟨?_, ?_⟩
        · obtain ⟨fs, ef⟩ := Jm.evU_pre he hm i
          have h1 := Jm.wt_pre (es := Jm.evU A j r ms q m i) (fs := fs) p
          rw [← ef] at h1
          have h2 := Jm.wt_le (A := A) (n := 4) p fun e he => ⟨hA.once.2 e he, hA.row e he⟩
          have h3 : (wtD (Jm.evU A j r ms q m i) p).length = (Jm.wt (Jm.evU A j r ms q m i) p).length := by unfold wtD; rw [List.length_map]
          have h4 := hA.len
          rw [h3]
          exact big_sl (by omega)
        · rw [pS_W_set (List.getElem?_eq_some_iff.mp hW).1]
          have := wtD_put (es := Jm.evU A j r ms q m i) (r := r) (m := m) hkn hkp
          unfold rowP at this
          rw [this, ← Jm.evU_succ hp]
          exact hN4 _ _ ⟨_, _, _, _, _, rfl, rfl⟩
      · obtain ⟨a6, a7, a8, a9, a10, rfl, rfl⟩ := hI4
        rw [List.length_map, List.length_map, Jm.evU_all hm]
        exact hN3 _ _ ⟨_, _, _, _, _, _, rfl, rfl⟩
    · obtain ⟨a5, a6, a7, a8, a9, a10, rfl, rfl⟩ := hI3
      rw [List.length_map, List.length_map, List.take_length, Jm.evR_all he]
      exact hN1 _ _ ⟨_, _, _, _, _, _, _, _, rfl, rfl⟩
  · obtain ⟨a3, a4, a5, a6, a7, a8, a9, a10, rfl, rfl⟩ := hI
    have tl : (tabE A).length = A.length := List.length_map ..
    rw [List.length_map, tl, ← hN, List.take_length, hN, List.take_length]
    have eG : (A.map fun e => trueE e.2) = GsOf A [] := by
      unfold GsOf
      refine List.map_congr_left fun e _ => ?_
      rw [Jm.lft_nil]
    rw [eG]
    have gl : ∀ pp, A.length = (GsOf A pp).length := fun pp => by unfold GsOf; rw [List.length_map]
    have wl : A.length = (rs.map (wtD (Jm.evs A))).length := by rw [List.length_map, hN]
    generalize hgd : ownE (S.length + 2 + A.length) rs = gd
    generalize hwd : ownE (S.length + 1) rs = wd
    generalize hWs : rs.map (wtD (Jm.evs A)) = Ws at wl
    have goodAt : ∀ (j : Nat) (r ms : List Nat), A[j]? = some (r, ms) → gt gd (keyR r) = some (.own (S.length + 2 + A.length + j)) := fun j r ms hj => by
      rw [← hgd]
      exact ownE_gt rs _ hkn j r (by rw [← hR]; exact key_at hj)
    refine sq ?_
    simp only [↓sNext, ↓sBreak, ↓sCont, ↓sDrop, ↓sRet, ↓sRetN, ↓sIf, ↓sAsg, ↓agName, ↓agNil, ↓agCons, ↓agTup, ↓sPar, ↓sFor, ↓aV, ↓lk, ↓aC, ↓aOp, ↓aUn, ↓aCall, ↓aNil, ↓aCons, ↓aIf, ↓aTest, ↓aAnd, ↓aOr, ↓aNot, ↓aAndV, ↓aOrV, ↓aNotV, ↓aI, ↓aI0, ↓aAdd, ↓aNeg, ↓aIsN, ↓isNone, ↓aTup, ↓purs, ↓aLst, ↓aLstO, ↓aIx, ↓gi0, ↓gi1, ↓gi2, ↓giN, ↓a1, ↓aLen, ↓aAbs, ↓aInt, ↓aStr, ↓aIsi, ↓btOf, ↓BT.isB, ↓aYes, ↓aiSeq, wipeL, ↓startL, List.map, List.set, List.replicate, List.length, List.append, List.cons_append, List.nil_append, ↓aMt, ↓isLs, ↓aLc, ↓aLcO, Bool.false_bne, Bool.true_bne, Bool.xor_false, Bool.false_xor, Bool.true_xor, Bool.not_true, Bool.not_false, decide_eq_true_eq, if_true, if_false, ite_true, ite_false, reduceIte, Bool.false_eq_true, List.getElem?_cons_zero, List.getElem?_cons_succ, ↓aLt, ↓aLe, ↓aGt, ↓aGe, ↓aSub, ↓aMul, ↓aDiv, ↓aMod, ↓aPow, true_and, and_true, sPar3, aD0T, aiKeys, tabP, pS_app, List.nil_append]
    refine ⟨tab_small hA, ?_⟩
    rw [items_row, pS_len, ← wl, ← gl, List.length_nil, Nat.add_zero]
    refine lc_go (fun i acc S' => ∃ R, S' = pS S gd Ws wd (GsOf A []) (.dt [] :: R) ∧ acc = (((A.take i).filter fun e => e.2.isEmpty).map fun e => rowP e.1).map .p) (fun _ _ _ _ => trivial) (fun i x acc S' N hx hI hN1 => ?_) (fun acc S' hI => ?_) ⟨[], rfl, rfl⟩
    · obtain ⟨R, rfl, rfl⟩ := hI
      obtain ⟨e, he, rfl⟩ := map_at hx
      obtain ⟨r, ms⟩ := e
      have hG := pS_G (S := S) (gd := gd) (wd := wd) (R := .dt [] :: R) (n := A.length) wl (GsOf_at he [])
      simp only [↓sNext, ↓sBreak, ↓sCont, ↓sDrop, ↓sRet, ↓sRetN, ↓sIf, ↓sAsg, ↓agName, ↓agNil, ↓agCons, ↓agTup, ↓sPar, ↓sFor, ↓aV, ↓lk, ↓aC, ↓aOp, ↓aUn, ↓aCall, ↓aNil, ↓aCons, ↓aIf, ↓aTest, ↓aAnd, ↓aOr, ↓aNot, ↓aAndV, ↓aOrV, ↓aNotV, ↓aI, ↓aI0, ↓aAdd, ↓aNeg, ↓aIsN, ↓isNone, ↓aTup, ↓purs, ↓aLst, ↓aLstO, ↓aIx, ↓gi0, ↓gi1, ↓gi2, ↓giN, ↓a1, ↓aLen, ↓aAbs, ↓aInt, ↓aStr, ↓aIsi, ↓btOf, ↓BT.isB, ↓aYes, ↓aiSeq, wipeL, ↓startL, List.map, List.set, List.replicate, List.length, List.append, List.cons_append, List.nil_append, ↓aMt, ↓isLs, ↓aLc, ↓aLcO, Bool.false_bne, Bool.true_bne, Bool.xor_false, Bool.false_xor, Bool.true_xor, Bool.not_true, Bool.not_false, decide_eq_true_eq, if_true, if_false, ite_true, ite_false, reduceIte, Bool.false_eq_true, List.getElem?_cons_zero, List.getElem?_cons_succ, ↓aLt, ↓aLe, ↓aGt, ↓aGe, ↓aSub, ↓aMul, ↓aDiv, ↓aMod, ↓aPow, true_and, and_true, aD0K]
      refine dget_row pS_gd (goodAt _ _ _ he) ?_
      refine eqE_go hG ?_
      rw [trueE_bare, Jm.lft_nil, pS_app]
      simp only [↓sNext, ↓sBreak, ↓sCont, ↓sDrop, ↓sRet, ↓sRetN, ↓sIf, ↓sAsg, ↓agName, ↓agNil, ↓agCons, ↓agTup, ↓sPar, ↓sFor, ↓aV, ↓lk, ↓aC, ↓aOp, ↓aUn, ↓aCall, ↓aNil, ↓aCons, ↓aIf, ↓aTest, ↓aAnd, ↓aOr, ↓aNot, ↓aAndV, ↓aOrV, ↓aNotV, ↓aI, ↓aI0, ↓aAdd, ↓aNeg, ↓aIsN, ↓isNone, ↓aTup, ↓purs, ↓aLst, ↓aLstO, ↓aIx, ↓gi0, ↓gi1, ↓gi2, ↓giN, ↓a1, ↓aLen, ↓aAbs, ↓aInt, ↓aStr, ↓aIsi, ↓btOf, ↓BT.isB, ↓aYes, ↓aiSeq, wipeL, ↓startL, List.map, List.set, List.replicate, List.length, List.append, List.cons_append, List.nil_append, ↓aMt, ↓isLs, ↓aLc, ↓aLcO, Bool.false_bne, Bool.true_bne, Bool.xor_false, Bool.false_xor, Bool.true_xor, Bool.not_true, Bool.not_false, decide_eq_true_eq, if_true, if_false, ite_true, ite_false, reduceIte, Bool.false_eq_true, List.getElem?_cons_zero, List.getElem?_cons_succ, ↓aLt, ↓aLe, ↓aGt, ↓aGe, ↓aSub, ↓aMul, ↓aDiv, ↓aMod, ↓aPow, true_and, and_true]
      have et : A.take (i + 1) = A.take i ++ [(r, ms)] := by rw [List.take_add_one, he]; rfl
      by_cases hb : ms.isEmpty = true
      · rw [if_pos hb]
        refine hN1 _ _ ⟨_, rfl, ?_⟩
        rw [et, List.filter_append, List.filter_cons_of_pos (p := fun e : List Nat × List Nat => e.2.isEmpty) hb, List.map_append, List.map_append]
        rfl
      · rw [if_neg hb]
        refine hN1 _ _ ⟨_, rfl, ?_⟩
        rw [et, List.filter_append, List.filter_cons_of_neg (p := fun e : List Nat × List Nat => e.2.isEmpty) hb]
        simp
    obtain ⟨R, rfl, rfl⟩ := hI
    have il : (A.map fun e => D.p (rowP e.1)).length = A.length := List.length_map ..
    rw [il, List.take_length]
    refine ⟨_, rfl, ?_⟩
    have here0 : ∀ r, r ∈ (A.filter fun e => e.2.isEmpty).map (·.1) ↔ Jm.Rank A 0 r := by
      intro r
      rw [List.mem_map]
      constructor
      · rintro ⟨⟨r', ms⟩, h1, rfl⟩
        obtain ⟨h2, h3⟩ := List.mem_filter.mp h1
        have : ms = [] := by simpa using h3
        subst this
        exact ⟨h2, fun j hj => absurd hj (Nat.not_lt_zero _)⟩
      · rintro ⟨h1, _⟩
        exact ⟨(r, []), List.mem_filter.mpr ⟨h1, rfl⟩, rfl⟩
    have hereN : ((A.filter fun e => e.2.isEmpty).map (·.1)).Nodup := by
      have := hA.once.1
      exact this.sublist ((List.filter_sublist).map _)
    have e1 : ((A.filter fun e => e.2.isEmpty).map fun e => rowP e.1) = ((A.filter fun e => e.2.isEmpty).map (·.1)).map rowP := by rw [List.map_map]; rfl
    rw [e1]
    generalize (A.filter fun e => e.2.isEmpty).map (·.1) = here at here0 hereN
    refine sq ?_
    refine while_go (fun m L S' => ∃ (k : Nat) (gk : List (List Nat × Nat)) (here : List (List Nat)) (pp : List (List Nat × Nat)) (R : List O) (a3 a4 a5 a6 a10 : Option D),
      L = [some (.p (tabP A)), some (.own S.length), some (.own (S.length + 1 + A.length)), a3, a4, a5, a6, some (.own (S.length + 2 + A.length + A.length)), some (.p (.lst (here.map rowP))), some (.p (.int (k : Nat))), a10] ∧
      S' = pS S gd Ws wd (GsOf A pp) (.dt (ent (goneE gk)) :: R) ∧ Jm.PopK A k pp ∧ Jm.GoneK A k gk ∧ here.Nodup ∧ (∀ r, r ∈ here ↔ Jm.Rank A k r) ∧ m + gk.length = A.length) (fun m L S' N hI hN1 => ?_) (m := A.length) ⟨0, [], here, [], R, _, _, _, _, _, rfl, rfl, Jm.popK_0 A, Jm.goneK_0 A, hereN, here0, rfl⟩
    obtain ⟨k, gk, here, pp, R, a3, a4, a5, a6, a10, rfl, rfl, hpp, hgk, hhn, hh, hm⟩ := hI
    have sub_rows : ∀ (xs : List (List Nat)), xs.Nodup → (∀ r ∈ xs, ∃ j, Jm.Rank A j r) → xs.length ≤ A.length := fun xs hx hr => by
      rw [← hN]
      refine len_sub hx fun r h2 => ?_
      obtain ⟨j, hj⟩ := hr r h2
      obtain ⟨ms, h3⟩ := hj.key
      rw [← hR]
      exact List.mem_map.mpr ⟨_, h3, rfl⟩
    have gkAt : ∀ (pp : List (List Nat × Nat)) (R : List O), (pS S gd Ws wd (GsOf A pp) R)[S.length + 2 + A.length + A.length]? = R[0]? := fun pp R => pS_R (k := 0) wl (gl pp)
    have gkSet : ∀ (pp : List (List Nat × Nat)) (o o' : O) (R : List O), (pS S gd Ws wd (GsOf A pp) (o :: R)).set (S.length + 2 + A.length + A.length) o' = pS S gd Ws wd (GsOf A pp) (o' :: R) := fun pp o o' R => pS_R_set (k := 0) wl (gl pp)
    simp only [↓sNext, ↓sBreak, ↓sCont, ↓sDrop, ↓sRet, ↓sRetN, ↓sIf, ↓sAsg, ↓agName, ↓agNil, ↓agCons, ↓agTup, ↓sPar, ↓sFor, ↓aV, ↓lk, ↓aC, ↓aOp, ↓aUn, ↓aCall, ↓aNil, ↓aCons, ↓aIf, ↓aTest, ↓aAnd, ↓aOr, ↓aNot, ↓aAndV, ↓aOrV, ↓aNotV, ↓aI, ↓aI0, ↓aAdd, ↓aNeg, ↓aIsN, ↓isNone, ↓aTup, ↓purs, ↓aLst, ↓aLstO, ↓aIx, ↓gi0, ↓gi1, ↓gi2, ↓giN, ↓a1, ↓aLen, ↓aAbs, ↓aInt, ↓aStr, ↓aIsi, ↓btOf, ↓BT.isB, ↓aYes, ↓aiSeq, wipeL, ↓startL, List.map, List.set, List.replicate, List.length, List.append, List.cons_append, List.nil_append, ↓aMt, ↓isLs, ↓aLc, ↓aLcO, Bool.false_bne, Bool.true_bne, Bool.xor_false, Bool.false_xor, Bool.true_xor, Bool.not_true, Bool.not_false, decide_eq_true_eq, if_true, if_false, ite_true, ite_false, reduceIte, Bool.false_eq_true, List.getElem?_cons_zero, List.getElem?_cons_succ, ↓aLt, ↓aLe, ↓aGt, ↓aGe, ↓aSub, ↓aMul, ↓aDiv, ↓aMod, ↓aPow, true_and, and_true, aEq, asP]
    refine ⟨_, _, rfl, rfl, ?_, ?_, ?_⟩
    · intro x hx
      obtain ⟨r, _, rfl⟩ := List.mem_map.mp hx
      exact row_dat
    · intro x hx
      cases hx
    rw [eqb_lst_nil]
    by_cases hne0 : here = []
    · subst hne0
      simp only [List.map, List.isEmpty, ↓sNext, ↓sBreak, ↓sCont, ↓sDrop, ↓sRet, ↓sRetN, ↓sIf, ↓sAsg, ↓agName, ↓agNil, ↓agCons, ↓agTup, ↓sPar, ↓sFor, ↓aV, ↓lk, ↓aC, ↓aOp, ↓aUn, ↓aCall, ↓aNil, ↓aCons, ↓aIf, ↓aTest, ↓aAnd, ↓aOr, ↓aNot, ↓aAndV, ↓aOrV, ↓aNotV, ↓aI, ↓aI0, ↓aAdd, ↓aNeg, ↓aIsN, ↓isNone, ↓aTup, ↓purs, ↓aLst, ↓aLstO, ↓aIx, ↓gi0, ↓gi1, ↓gi2, ↓giN, ↓a1, ↓aLen, ↓aAbs, ↓aInt, ↓aStr, ↓aIsi, ↓btOf, ↓BT.isB, ↓aYes, ↓aiSeq, wipeL, ↓startL, List.map, List.set, List.replicate, List.length, List.append, List.cons_append, List.nil_append, ↓aMt, ↓isLs, ↓aLc, ↓aLcO, Bool.false_bne, Bool.true_bne, Bool.xor_false, Bool.false_xor, Bool.true_xor, Bool.not_true, Bool.not_false, decide_eq_true_eq, if_true, if_false, ite_true, ite_false, reduceIte, Bool.false_eq_true, List.getElem?_cons_zero, List.getElem?_cons_succ, ↓aLt, ↓aLe, ↓aGt, ↓aGe, ↓aSub, ↓aMul, ↓aDiv, ↓aMod, ↓aPow, true_and, and_true]
      refine .inl (h gk _ _ (hgk.all fun r hr => ?_) (fun i hi => pS_old hi) (gkAt _ _))
      have := (hh r).mpr hr
      cases this
    have hne : (List.map rowP here).isEmpty = false := by cases here with | nil => exact absurd rfl hne0 | cons _ _ => rfl
    rw [hne]
    simp only [↓sNext, ↓sBreak, ↓sCont, ↓sDrop, ↓sRet, ↓sRetN, ↓sIf, ↓sAsg, ↓agName, ↓agNil, ↓agCons, ↓agTup, ↓sPar, ↓sFor, ↓aV, ↓lk, ↓aC, ↓aOp, ↓aUn, ↓aCall, ↓aNil, ↓aCons, ↓aIf, ↓aTest, ↓aAnd, ↓aOr, ↓aNot, ↓aAndV, ↓aOrV, ↓aNotV, ↓aI, ↓aI0, ↓aAdd, ↓aNeg, ↓aIsN, ↓isNone, ↓aTup, ↓purs, ↓aLst, ↓aLstO, ↓aIx, ↓gi0, ↓gi1, ↓gi2, ↓giN, ↓a1, ↓aLen, ↓aAbs, ↓aInt, ↓aStr, ↓aIsi, ↓btOf, ↓BT.isB, ↓aYes, ↓aiSeq, wipeL, ↓startL, List.map, List.set, List.replicate, List.length, List.append, List.cons_append, List.nil_append, ↓aMt, ↓isLs, ↓aLc, ↓aLcO, Bool.false_bne, Bool.true_bne, Bool.xor_false, Bool.false_xor, Bool.true_xor, Bool.not_true, Bool.not_false, decide_eq_true_eq, if_true, if_false, ite_true, ite_false, reduceIte, Bool.false_eq_true, List.getElem?_cons_zero, List.getElem?_cons_succ, ↓aLt, ↓aLe, ↓aGt, ↓aGe, ↓aSub, ↓aMul, ↓aDiv, ↓aMod, ↓aPow, true_and, and_true]
    have hpos : 0 < here.length := List.length_pos_iff.mpr hne0
    have hgk' := Jm.goneK_next hgk hhn hh
    have hgl : (gk ++ here.map fun r => (r, k)).length ≤ A.length := by
      have := sub_rows _ hgk'.nd fun r hr => by
        obtain ⟨j, _, hj⟩ := (Jm.goneK_mem hgk' r).mp hr
        exact ⟨j, hj⟩
      rw [List.length_map] at this
      exact this
    rw [List.length_append, List.length_map] at hgl
    refine sq ?_
    simp only [↓sNext, ↓sBreak, ↓sCont, ↓sDrop, ↓sRet, ↓sRetN, ↓sIf, ↓sAsg, ↓agName, ↓agNil, ↓agCons, ↓agTup, ↓sPar, ↓sFor, ↓aV, ↓lk, ↓aC, ↓aOp, ↓aUn, ↓aCall, ↓aNil, ↓aCons, ↓aIf, ↓aTest, ↓aAnd, ↓aOr, ↓aNot, ↓aAndV, ↓aOrV, ↓aNotV, ↓aI, ↓aI0, ↓aAdd, ↓aNeg, ↓aIsN, ↓isNone, ↓aTup, ↓purs, ↓aLst, ↓aLstO, ↓aIx, ↓gi0, ↓gi1, ↓gi2, ↓giN, ↓a1, ↓aLen, ↓aAbs, ↓aInt, ↓aStr, ↓aIsi, ↓btOf, ↓BT.isB, ↓aYes, ↓aiSeq, wipeL, ↓startL, List.map, List.set, List.replicate, List.length, List.append, List.cons_append, List.nil_append, ↓aMt, ↓isLs, ↓aLc, ↓aLcO, Bool.false_bne, Bool.true_bne, Bool.xor_false, Bool.false_xor, Bool.true_xor, Bool.not_true, Bool.not_false, decide_eq_true_eq, if_true, if_false, ite_true, ite_false, reduceIte, Bool.false_eq_true, List.getElem?_cons_zero, List.getElem?_cons_succ, ↓aLt, ↓aLe, ↓aGt, ↓aGe, ↓aSub, ↓aMul, ↓aDiv, ↓aMod, ↓aPow, true_and, and_true]
    refine for_go (fun i L S' => ∃ a3 : Option D,
      L = [some (.p (tabP A)), some (.own S.length), some (.own (S.length + 1 + A.length)), a3, a4, a5, a6, some (.own (S.length + 2 + A.length + A.length)), some (.p (.lst (here.map rowP))), some (.p (.int (k : Nat))), a10] ∧
      S' = pS S gd Ws wd (GsOf A pp) (.dt (ent (goneE (gk ++ (here.take i).map fun r => (r, k)))) :: R)) (fun _ _ _ _ => trivial) (fun i x L S' N2 hx2 hI2 hN2 => ?_) (fun L S' hI2 => ?_) ⟨_, rfl, by simp⟩
    · obtain ⟨a3, rfl, rfl⟩ := hI2
      obtain ⟨y, hy, rfl⟩ := map_at hx2
      obtain ⟨r, hr, rfl⟩ := map_at hy
      have hi := (List.getElem?_eq_some_iff.mp hr).1
      have e1 := gkAt pp (.dt (ent (goneE (gk ++ (here.take i).map fun r => (r, k)))) :: R)
      rw [List.getElem?_cons_zero] at e1
      simp only [↓sNext, ↓sBreak, ↓sCont, ↓sDrop, ↓sRet, ↓sRetN, ↓sIf, ↓sAsg, ↓agName, ↓agNil, ↓agCons, ↓agTup, ↓sPar, ↓sFor, ↓aV, ↓lk, ↓aC, ↓aOp, ↓aUn, ↓aCall, ↓aNil, ↓aCons, ↓aIf, ↓aTest, ↓aAnd, ↓aOr, ↓aNot, ↓aAndV, ↓aOrV, ↓aNotV, ↓aI, ↓aI0, ↓aAdd, ↓aNeg, ↓aIsN, ↓isNone, ↓aTup, ↓purs, ↓aLst, ↓aLstO, ↓aIx, ↓gi0, ↓gi1, ↓gi2, ↓giN, ↓a1, ↓aLen, ↓aAbs, ↓aInt, ↓aStr, ↓aIsi, ↓btOf, ↓BT.isB, ↓aYes, ↓aiSeq, wipeL, ↓startL, List.map, List.set, List.replicate, List.length, List.append, List.cons_append, List.nil_append, ↓aMt, ↓isLs, ↓aLc, ↓aLcO, Bool.false_bne, Bool.true_bne, Bool.xor_false, Bool.false_xor, Bool.true_xor, Bool.not_true, Bool.not_false, decide_eq_true_eq, if_true, if_false, ite_true, ite_false, reduceIte, Bool.false_eq_true, List.getElem?_cons_zero, List.getElem?_cons_succ, ↓aLt, ↓aLe, ↓aGt, ↓aGe, ↓aSub, ↓aMul, ↓aDiv, ↓aMod, ↓aPow, true_and, and_true, sDPutA, e1, keysD]
      have e2 : (ent (goneE (gk ++ (here.take i).map fun r => (r, k)))).length = gk.length + i := by
        unfold ent goneE
        rw [List.length_map, List.length_map, List.length_append, List.length_map, List.length_take]
        omega
      refine ⟨by rw [e2]; exact big_sl (by omega), ?_⟩
      have e3 : r ∉ (gk ++ (here.take i).map fun r => (r, k)).map (·.1) := by
        have h2 := hgk'.nd
        have h3 : gk ++ here.map (fun r => (r, k)) = (gk ++ (here.take i).map fun r => (r, k)) ++ ((r, k) :: (here.drop (i + 1)).map fun r => (r, k)) := by
          conv => lhs; rw [← List.take_append_drop i here, List.drop_eq_getElem_cons hi, (List.getElem?_eq_some_iff.mp hr).2]
          simp
        rw [h3, List.map_append] at h2
        intro q
        refine (List.nodup_append.mp h2).2.2 r q r ?_ rfl
        simp
      rw [goneE_put e3, gkSet]
      refine hN2 _ _ ⟨_, rfl, ?_⟩
      rw [List.take_add_one, hr]
      simp
    obtain ⟨a3, rfl, rfl⟩ := hI2
    have il : (here.map rowP).length = here.length := List.length_map ..
    rw [List.length_map, il, List.take_length]
    generalize hgg : (gk ++ here.map fun r => (r, k)) = gk2 at hgk'
    refine sq ?_
    simp only [↓sNext, ↓sBreak, ↓sCont, ↓sDrop, ↓sRet, ↓sRetN, ↓sIf, ↓sAsg, ↓agName, ↓agNil, ↓agCons, ↓agTup, ↓sPar, ↓sFor, ↓aV, ↓lk, ↓aC, ↓aOp, ↓aUn, ↓aCall, ↓aNil, ↓aCons, ↓aIf, ↓aTest, ↓aAnd, ↓aOr, ↓aNot, ↓aAndV, ↓aOrV, ↓aNotV, ↓aI, ↓aI0, ↓aAdd, ↓aNeg, ↓aIsN, ↓isNone, ↓aTup, ↓purs, ↓aLst, ↓aLstO, ↓aIx, ↓gi0, ↓gi1, ↓gi2, ↓giN, ↓a1, ↓aLen, ↓aAbs, ↓aInt, ↓aStr, ↓aIsi, ↓btOf, ↓BT.isB, ↓aYes, ↓aiSeq, wipeL, ↓startL, List.map, List.set, List.replicate, List.length, List.append, List.cons_append, List.nil_append, ↓aMt, ↓isLs, ↓aLc, ↓aLcO, Bool.false_bne, Bool.true_bne, Bool.xor_false, Bool.false_xor, Bool.true_xor, Bool.not_true, Bool.not_false, decide_eq_true_eq, if_true, if_false, ite_true, ite_false, reduceIte, Bool.false_eq_true, List.getElem?_cons_zero, List.getElem?_cons_succ, ↓aLt, ↓aLe, ↓aGt, ↓aGe, ↓aSub, ↓aMul, ↓aDiv, ↓aMod, ↓aPow, true_and, and_true, aD0T, pS_app, List.cons_append]
    have eLen : (pS S gd Ws wd (GsOf A pp) (.dt (ent (goneE gk2)) :: R)).length = S.length + 2 + A.length + A.length + (1 + R.length) := by
      rw [pS_len, ← wl, ← gl, List.length_cons]
      omega
    rw [eLen]
    have ltAt : ∀ (pp : List (List Nat × Nat)) (o : O) (lt : List (List Key × D)) (J : List O), (pS S gd Ws wd (GsOf A pp) (o :: (R ++ .dt lt :: J)))[S.length + 2 + A.length + A.length + (1 + R.length)]? = some (.dt lt) := fun pp o lt J => by
      rw [pS_R wl (gl pp), Nat.add_comm 1, List.getElem?_cons_succ, List.getElem?_append_right (Nat.le_refl _), Nat.sub_self]
      rfl
    have ltSet : ∀ (pp : List (List Nat × Nat)) (o : O) (lt lt' : List (List Key × D)) (J : List O), (pS S gd Ws wd (GsOf A pp) (o :: (R ++ .dt lt :: J))).set (S.length + 2 + A.length + A.length + (1 + R.length)) (.dt lt') = pS S gd Ws wd (GsOf A pp) (o :: (R ++ .dt lt' :: J)) := fun pp o lt lt' J => by
      rw [pS_R_set wl (gl pp), Nat.add_comm 1, List.set_cons_succ, List.set_append_right _ _ (Nat.le_refl _), Nat.sub_self]
      rfl
    -- what is bare and has not gone
    let LtOk : List (List Nat × Nat) → List (List Nat) → Prop := fun pp lt => lt.Nodup ∧ ∀ r, r ∈ lt ↔ (∃ ms, (r, ms) ∈ A ∧ Jm.lft pp r ms = []) ∧ r ∉ gk2.map (·.1)
    have lt0 : LtOk pp [] := by
      refine ⟨List.nodup_nil, fun r => ⟨fun h => (nomatch h), ?_⟩⟩
      rintro ⟨⟨ms, h1, h2⟩, h3⟩
      have g := (Jm.popK_bare hpp hA.func h1).mp h2
      obtain ⟨j, hj, hr⟩ := g.rank
      exact absurd ((Jm.goneK_mem hgk' r).mpr ⟨j, by omega, hr⟩) h3
    refine sq ?_
    simp only [↓sNext, ↓sBreak, ↓sCont, ↓sDrop, ↓sRet, ↓sRetN, ↓sIf, ↓sAsg, ↓agName, ↓agNil, ↓agCons, ↓agTup, ↓sPar, ↓sFor, ↓aV, ↓lk, ↓aC, ↓aOp, ↓aUn, ↓aCall, ↓aNil, ↓aCons, ↓aIf, ↓aTest, ↓aAnd, ↓aOr, ↓aNot, ↓aAndV, ↓aOrV, ↓aNotV, ↓aI, ↓aI0, ↓aAdd, ↓aNeg, ↓aIsN, ↓isNone, ↓aTup, ↓purs, ↓aLst, ↓aLstO, ↓aIx, ↓gi0, ↓gi1, ↓gi2, ↓giN, ↓a1, ↓aLen, ↓aAbs, ↓aInt, ↓aStr, ↓aIsi, ↓btOf, ↓BT.isB, ↓aYes, ↓aiSeq, wipeL, ↓startL, List.map, List.set, List.replicate, List.length, List.append, List.cons_append, List.nil_append, ↓aMt, ↓isLs, ↓aLc, ↓aLcO, Bool.false_bne, Bool.true_bne, Bool.xor_false, Bool.false_xor, Bool.true_xor, Bool.not_true, Bool.not_false, decide_eq_true_eq, if_true, if_false, ite_true, ite_false, reduceIte, Bool.false_eq_true, List.getElem?_cons_zero, List.getElem?_cons_succ, ↓aLt, ↓aLe, ↓aGt, ↓aGe, ↓aSub, ↓aMul, ↓aDiv, ↓aMod, ↓aPow, true_and, and_true]
    refine for_go (fun i L S' => ∃ (a3 a5 a6 : Option D) (lt : List (List Nat)) (J : List O),
      L = [some (.p (tabP A)), some (.own S.length), some (.own (S.length + 1 + A.length)), a3, a4, a5, a6, some (.own (S.length + 2 + A.length + A.length)), some (.p (.lst (here.map rowP))), some (.p (.int (k : Nat))), some (.own (S.length + 2 + A.length + A.length + (1 + R.length)))] ∧
      S' = pS S gd Ws wd (GsOf A (pp ++ (here.take i).flatMap (Jm.wt (Jm.evs A)))) (.dt (ent (goneE gk2)) :: (R ++ .dt (marksE lt) :: J)) ∧ LtOk (pp ++ (here.take i).flatMap (Jm.wt (Jm.evs A))) lt) (fun _ _ _ _ => trivial) (fun i x L S' N2 hx2 hI2 hN2 => ?_) (fun L S' hI2 => ?_) ⟨_, _, _, [], [], rfl, by simp; rfl, by simpa using lt0⟩
    · obtain ⟨a3, a5, a6, lt, J, rfl, rfl, hlt⟩ := hI2
      obtain ⟨y, hy, rfl⟩ := map_at hx2
      obtain ⟨part, hpart, rfl⟩ := map_at hy
      obtain ⟨pms, hpA⟩ := ((hh part).mp (List.mem_of_getElem? hpart)).key
      obtain ⟨jp, hjp⟩ := List.mem_iff_getElem?.mp hpA
      have hkp : rs[jp]? = some part := by rw [← hR]; exact key_at hjp
      have hgtw : gt wd (keyR part) = some (.own (S.length + 1 + jp)) := by rw [← hwd]; exact ownE_gt rs _ hkn jp part hkp
      have hWj : Ws[jp]? = some (wtD (Jm.evs A) part) := by rw [← hWs, List.getElem?_map, hkp]; rfl
      simp only [↓sNext, ↓sBreak, ↓sCont, ↓sDrop, ↓sRet, ↓sRetN, ↓sIf, ↓sAsg, ↓agName, ↓agNil, ↓agCons, ↓agTup, ↓sPar, ↓sFor, ↓aV, ↓lk, ↓aC, ↓aOp, ↓aUn, ↓aCall, ↓aNil, ↓aCons, ↓aIf, ↓aTest, ↓aAnd, ↓aOr, ↓aNot, ↓aAndV, ↓aOrV, ↓aNotV, ↓aI, ↓aI0, ↓aAdd, ↓aNeg, ↓aIsN, ↓isNone, ↓aTup, ↓purs, ↓aLst, ↓aLstO, ↓aIx, ↓gi0, ↓gi1, ↓gi2, ↓giN, ↓a1, ↓aLen, ↓aAbs, ↓aInt, ↓aStr, ↓aIsi, ↓btOf, ↓BT.isB, ↓aYes, ↓aiSeq, wipeL, ↓startL, List.map, List.set, List.replicate, List.length, List.append, List.cons_append, List.nil_append, ↓aMt, ↓isLs, ↓aLc, ↓aLcO, Bool.false_bne, Bool.true_bne, Bool.xor_false, Bool.false_xor, Bool.true_xor, Bool.not_true, Bool.not_false, decide_eq_true_eq, if_true, if_false, ite_true, ite_false, reduceIte, Bool.false_eq_true, List.getElem?_cons_zero, List.getElem?_cons_succ, ↓aLt, ↓aLe, ↓aGt, ↓aGe, ↓aSub, ↓aMul, ↓aDiv, ↓aMod, ↓aPow, true_and, and_true]
      refine dget_row (pS_wd wl) hgtw ?_
      simp only [aiSeq, ↓sNext, ↓sBreak, ↓sCont, ↓sDrop, ↓sRet, ↓sRetN, ↓sIf, ↓sAsg, ↓agName, ↓agNil, ↓agCons, ↓agTup, ↓sPar, ↓sFor, ↓aV, ↓lk, ↓aC, ↓aOp, ↓aUn, ↓aCall, ↓aNil, ↓aCons, ↓aIf, ↓aTest, ↓aAnd, ↓aOr, ↓aNot, ↓aAndV, ↓aOrV, ↓aNotV, ↓aI, ↓aI0, ↓aAdd, ↓aNeg, ↓aIsN, ↓isNone, ↓aTup, ↓purs, ↓aLst, ↓aLstO, ↓aIx, ↓gi0, ↓gi1, ↓gi2, ↓giN, ↓a1, ↓aLen, ↓aAbs, ↓aInt, ↓aStr, ↓aIsi, ↓btOf, ↓BT.isB, ↓aYes, ↓aiSeq, wipeL, ↓startL, List.map, List.set, List.replicate, List.length, List.append, List.cons_append, List.nil_append, ↓aMt, ↓isLs, ↓aLc, ↓aLcO, Bool.false_bne, Bool.true_bne, Bool.xor_false, Bool.false_xor, Bool.true_xor, Bool.not_true, Bool.not_false, decide_eq_true_eq, if_true, if_false, ite_true, ite_false, reduceIte, Bool.false_eq_true, List.getElem?_cons_zero, List.getElem?_cons_succ, ↓aLt, ↓aLe, ↓aGt, ↓aGe, ↓aSub, ↓aMul, ↓aDiv, ↓aMod, ↓aPow, true_and, and_true]
      refine ⟨_, pS_W hWj, ?_⟩
      generalize hp0 : pp ++ (here.take i).flatMap (Jm.wt (Jm.evs A)) = p0 at hlt ⊢
      refine for_go (fun q L S' => ∃ (a3 a5 : Option D) (lt : List (List Nat)) (J : List O),
        L = [some (.p (tabP A)), some (.own S.length), some (.own (S.length + 1 + A.length)), a3, a4, a5, some (.p (rowP part)), some (.own (S.length + 2 + A.length + A.length)), some (.p (.lst (here.map rowP))), some (.p (.int (k : Nat))), some (.own (S.length + 2 + A.length + A.length + (1 + R.length)))] ∧
        S' = pS S gd Ws wd (GsOf A (p0 ++ (Jm.wt (Jm.evs A) part).take q)) (.dt (ent (goneE gk2)) :: (R ++ .dt (marksE lt) :: J)) ∧ LtOk (p0 ++ (Jm.wt (Jm.evs A) part).take q) lt) (fun q L S' hq => ?_) (fun q x L S' N3 hx3 hI3 hN3 => ?_) (fun L S' hI3 => ?_) ⟨_, _, lt, J, rfl, by simp, by simpa using hlt⟩
      · obtain ⟨_, _, _, _, rfl, rfl, _⟩ := hq
        exact pS_W hWj
      · obtain ⟨a3, a5, lt, J, rfl, rfl, hlt⟩ := hI3
        obtain ⟨e, he, rfl⟩ := map_at hx3
        obtain ⟨r, m⟩ := e
        obtain ⟨ms, hrA, hmm, hpp2⟩ := Jm.mem_wt.mp (List.mem_of_getElem? he)
        obtain ⟨j, hj⟩ := List.mem_iff_getElem?.mp hrA
        have et : (Jm.wt (Jm.evs A) part).take (q + 1) = (Jm.wt (Jm.evs A) part).take q ++ [(r, m)] := by rw [List.take_add_one, he]; rfl
        generalize hp1 : p0 ++ (Jm.wt (Jm.evs A) part).take q = p1 at hlt ⊢
        have hp2 : p0 ++ (Jm.wt (Jm.evs A) part).take (q + 1) = p1 ++ [(r, m)] := by rw [et, ← hp1, List.append_assoc]
        rw [hp2] at hN3
        have hG1 := pS_G (S := S) (gd := gd) (wd := wd) (R := .dt (ent (goneE gk2)) :: (R ++ .dt (marksE lt) :: J)) (n := A.length) wl (GsOf_at hj p1)
        have hgood := goodAt _ _ _ hj
        simp only [↓sNext, ↓sBreak, ↓sCont, ↓sDrop, ↓sRet, ↓sRetN, ↓sIf, ↓sAsg, ↓agName, ↓agNil, ↓agCons, ↓agTup, ↓sPar, ↓sFor, ↓aV, ↓lk, ↓aC, ↓aOp, ↓aUn, ↓aCall, ↓aNil, ↓aCons, ↓aIf, ↓aTest, ↓aAnd, ↓aOr, ↓aNot, ↓aAndV, ↓aOrV, ↓aNotV, ↓aI, ↓aI0, ↓aAdd, ↓aNeg, ↓aIsN, ↓isNone, ↓aTup, ↓purs, ↓aLst, ↓aLstO, ↓aIx, ↓gi0, ↓gi1, ↓gi2, ↓giN, ↓a1, ↓aLen, ↓aAbs, ↓aInt, ↓aStr, ↓aIsi, ↓btOf, ↓BT.isB, ↓aYes, ↓aiSeq, wipeL, ↓startL, List.map, List.set, List.replicate, List.length, List.append, List.cons_append, List.nil_append, ↓aMt, ↓isLs, ↓aLc, ↓aLcO, Bool.false_bne, Bool.true_bne, Bool.xor_false, Bool.false_xor, Bool.true_xor, Bool.not_true, Bool.not_false, decide_eq_true_eq, if_true, if_false, ite_true, ite_false, reduceIte, Bool.false_eq_true, List.getElem?_cons_zero, List.getElem?_cons_succ, ↓aLt, ↓aLe, ↓aGt, ↓aGe, ↓aSub, ↓aMul, ↓aDiv, ↓aMod, ↓aPow, true_and, and_true]
        refine sq ?_
        simp only [↓sNext, ↓sBreak, ↓sCont, ↓sDrop, ↓sRet, ↓sRetN, ↓sIf, ↓sAsg, ↓agName, ↓agNil, ↓agCons, ↓agTup, ↓sPar, ↓sFor, ↓aV, ↓lk, ↓aC, ↓aOp, ↓aUn, ↓aCall, ↓aNil, ↓aCons, ↓aIf, ↓aTest, ↓aAnd, ↓aOr, ↓aNot, ↓aAndV, ↓aOrV, ↓aNotV, ↓aI, ↓aI0, ↓aAdd, ↓aNeg, ↓aIsN, ↓isNone, ↓aTup, ↓purs, ↓aLst, ↓aLstO, ↓aIx, ↓gi0, ↓gi1, ↓gi2, ↓giN, ↓a1, ↓aLen, ↓aAbs, ↓aInt, ↓aStr, ↓aIsi, ↓btOf, ↓BT.isB, ↓aYes, ↓aiSeq, wipeL, ↓startL, List.map, List.set, List.replicate, List.length, List.append, List.cons_append, List.nil_append, ↓aMt, ↓isLs, ↓aLc, ↓aLcO, Bool.false_bne, Bool.true_bne, Bool.xor_false, Bool.false_xor, Bool.true_xor, Bool.not_true, Bool.not_false, decide_eq_true_eq, if_true, if_false, ite_true, ite_false, reduceIte, Bool.false_eq_true, List.getElem?_cons_zero, List.getElem?_cons_succ, ↓aLt, ↓aLe, ↓aGt, ↓aGe, ↓aSub, ↓aMul, ↓aDiv, ↓aMod, ↓aPow, true_and, and_true]
        refine dget_row pS_gd hgood ?_
        simp only [isDk_at hG1, ↓sNext, ↓sBreak, ↓sCont, ↓sDrop, ↓sRet, ↓sRetN, ↓sIf, ↓sAsg, ↓agName, ↓agNil, ↓agCons, ↓agTup, ↓sPar, ↓sFor, ↓aV, ↓lk, ↓aC, ↓aOp, ↓aUn, ↓aCall, ↓aNil, ↓aCons, ↓aIf, ↓aTest, ↓aAnd, ↓aOr, ↓aNot, ↓aAndV, ↓aOrV, ↓aNotV, ↓aI, ↓aI0, ↓aAdd, ↓aNeg, ↓aIsN, ↓isNone, ↓aTup, ↓purs, ↓aLst, ↓aLstO, ↓aIx, ↓gi0, ↓gi1, ↓gi2, ↓giN, ↓a1, ↓aLen, ↓aAbs, ↓aInt, ↓aStr, ↓aIsi, ↓btOf, ↓BT.isB, ↓aYes, ↓aiSeq, wipeL, ↓startL, List.map, List.set, List.replicate, List.length, List.append, List.cons_append, List.nil_append, ↓aMt, ↓isLs, ↓aLc, ↓aLcO, Bool.false_bne, Bool.true_bne, Bool.xor_false, Bool.false_xor, Bool.true_xor, Bool.not_true, Bool.not_false, decide_eq_true_eq, if_true, if_false, ite_true, ite_false, reduceIte, Bool.false_eq_true, List.getElem?_cons_zero, List.getElem?_cons_succ, ↓aLt, ↓aLe, ↓aGt, ↓aGe, ↓aSub, ↓aMul, ↓aDiv, ↓aMod, ↓aPow, true_and, and_true]
        refine pop_go hG1 fun _ => ?_
        rw [← Jm.lft_pop, pS_G_set wl (by rw [← gl]; exact (List.getElem?_eq_some_iff.mp hj).1), GsOf_pop hA.once.1 hj]
        have hG2 := pS_G (S := S) (gd := gd) (wd := wd) (R := .dt (ent (goneE gk2)) :: (R ++ .dt (marksE lt) :: J)) (n := A.length) wl (GsOf_at hj (p1 ++ [(r, m)]))
        simp only [↓sNext, ↓sBreak, ↓sCont, ↓sDrop, ↓sRet, ↓sRetN, ↓sIf, ↓sAsg, ↓agName, ↓agNil, ↓agCons, ↓agTup, ↓sPar, ↓sFor, ↓aV, ↓lk, ↓aC, ↓aOp, ↓aUn, ↓aCall, ↓aNil, ↓aCons, ↓aIf, ↓aTest, ↓aAnd, ↓aOr, ↓aNot, ↓aAndV, ↓aOrV, ↓aNotV, ↓aI, ↓aI0, ↓aAdd, ↓aNeg, ↓aIsN, ↓isNone, ↓aTup, ↓purs, ↓aLst, ↓aLstO, ↓aIx, ↓gi0, ↓gi1, ↓gi2, ↓giN, ↓a1, ↓aLen, ↓aAbs, ↓aInt, ↓aStr, ↓aIsi, ↓btOf, ↓BT.isB, ↓aYes, ↓aiSeq, wipeL, ↓startL, List.map, List.set, List.replicate, List.length, List.append, List.cons_append, List.nil_append, ↓aMt, ↓isLs, ↓aLc, ↓aLcO, Bool.false_bne, Bool.true_bne, Bool.xor_false, Bool.false_xor, Bool.true_xor, Bool.not_true, Bool.not_false, decide_eq_true_eq, if_true, if_false, ite_true, ite_false, reduceIte, Bool.false_eq_true, List.getElem?_cons_zero, List.getElem?_cons_succ, ↓aLt, ↓aLe, ↓aGt, ↓aGe, ↓aSub, ↓aMul, ↓aDiv, ↓aMod, ↓aPow, true_and, and_true, aD0K]
        refine dget_row pS_gd hgood ?_
        refine eqE_go hG2 ?_
        rw [trueE_bare, pS_app]
        simp only [↓sNext, ↓sBreak, ↓sCont, ↓sDrop, ↓sRet, ↓sRetN, ↓sIf, ↓sAsg, ↓agName, ↓agNil, ↓agCons, ↓agTup, ↓sPar, ↓sFor, ↓aV, ↓lk, ↓aC, ↓aOp, ↓aUn, ↓aCall, ↓aNil, ↓aCons, ↓aIf, ↓aTest, ↓aAnd, ↓aOr, ↓aNot, ↓aAndV, ↓aOrV, ↓aNotV, ↓aI, ↓aI0, ↓aAdd, ↓aNeg, ↓aIsN, ↓isNone, ↓aTup, ↓purs, ↓aLst, ↓aLstO, ↓aIx, ↓gi0, ↓gi1, ↓gi2, ↓giN, ↓a1, ↓aLen, ↓aAbs, ↓aInt, ↓aStr, ↓aIsi, ↓btOf, ↓BT.isB, ↓aYes, ↓aiSeq, wipeL, ↓startL, List.map, List.set, List.replicate, List.length, List.append, List.cons_append, List.nil_append, ↓aMt, ↓isLs, ↓aLc, ↓aLcO, Bool.false_bne, Bool.true_bne, Bool.xor_false, Bool.false_xor, Bool.true_xor, Bool.not_true, Bool.not_false, decide_eq_true_eq, if_true, if_false, ite_true, ite_false, reduceIte, Bool.false_eq_true, List.getElem?_cons_zero, List.getElem?_cons_succ, ↓aLt, ↓aLe, ↓aGt, ↓aGe, ↓aSub, ↓aMul, ↓aDiv, ↓aMod, ↓aPow, true_and, and_true, List.cons_append, List.append_assoc]
        -- what is bare otherwise stays so
        have other : ∀ r', r' ≠ r → ((∃ ms, (r', ms) ∈ A ∧ Jm.lft (p1 ++ [(r, m)]) r' ms = []) ↔ ∃ ms, (r', ms) ∈ A ∧ Jm.lft p1 r' ms = []) := fun r' hne => by
          constructor
          · rintro ⟨ms', h1, h2⟩
            rw [Jm.lft_other _ _ _ (Ne.symm hne)] at h2
            exact ⟨ms', h1, h2⟩
          · rintro ⟨ms', h1, h2⟩
            exact ⟨ms', h1, by rw [Jm.lft_other _ _ _ (Ne.symm hne)]; exact h2⟩
        have own : (∃ ms', (r, ms') ∈ A ∧ Jm.lft (p1 ++ [(r, m)]) r ms' = []) ↔ Jm.lft (p1 ++ [(r, m)]) r ms = [] := by
          constructor
          · rintro ⟨ms', h1, h2⟩
            rw [hA.func _ _ _ hrA h1]; exact h2
          · intro h2
            exact ⟨ms, hrA, h2⟩
        have keep : r ∈ lt → Jm.lft (p1 ++ [(r, m)]) r ms = [] ∧ r ∉ gk2.map (·.1) := fun hr => by
          obtain ⟨⟨ms', h1, h2⟩, h3⟩ := (hlt.2 r).mp hr
          rw [← hA.func _ _ _ hrA h1] at h2
          refine ⟨?_, h3⟩
          rw [Jm.lft_pop, h2]; rfl
        by_cases hb : Jm.lft (p1 ++ [(r, m)]) r ms = []
        · have hb' : (Jm.lft (p1 ++ [(r, m)]) r ms).isEmpty = true := by rw [hb]; rfl
          rw [if_pos hb']
          have e5 := gkAt (p1 ++ [(r, m)]) (.dt (ent (goneE gk2)) :: (R ++ .dt (marksE lt) :: (J ++ [.dk []])))
          rw [List.getElem?_cons_zero] at e5
          simp only [aDIn, dlk_own e5, goneE_gt, ↓sNext, ↓sBreak, ↓sCont, ↓sDrop, ↓sRet, ↓sRetN, ↓sIf, ↓sAsg, ↓agName, ↓agNil, ↓agCons, ↓agTup, ↓sPar, ↓sFor, ↓aV, ↓lk, ↓aC, ↓aOp, ↓aUn, ↓aCall, ↓aNil, ↓aCons, ↓aIf, ↓aTest, ↓aAnd, ↓aOr, ↓aNot, ↓aAndV, ↓aOrV, ↓aNotV, ↓aI, ↓aI0, ↓aAdd, ↓aNeg, ↓aIsN, ↓isNone, ↓aTup, ↓purs, ↓aLst, ↓aLstO, ↓aIx, ↓gi0, ↓gi1, ↓gi2, ↓giN, ↓a1, ↓aLen, ↓aAbs, ↓aInt, ↓aStr, ↓aIsi, ↓btOf, ↓BT.isB, ↓aYes, ↓aiSeq, wipeL, ↓startL, List.map, List.set, List.replicate, List.length, List.append, List.cons_append, List.nil_append, ↓aMt, ↓isLs, ↓aLc, ↓aLcO, Bool.false_bne, Bool.true_bne, Bool.xor_false, Bool.false_xor, Bool.true_xor, Bool.not_true, Bool.not_false, decide_eq_true_eq, if_true, if_false, ite_true, ite_false, reduceIte, Bool.false_eq_true, List.getElem?_cons_zero, List.getElem?_cons_succ, ↓aLt, ↓aLe, ↓aGt, ↓aGe, ↓aSub, ↓aMul, ↓aDiv, ↓aMod, ↓aPow, true_and, and_true]
          by_cases hg : r ∈ gk2.map (·.1)
          · rw [if_neg (by simpa using hg)]
            refine hN3 _ _ ⟨_, _, lt, _, rfl, rfl, hlt.1, fun r' => ?_⟩
            by_cases hne : r' = r
            · subst hne
              exact ⟨fun h => absurd hg (keep h).2, fun h => absurd hg h.2⟩
            · rw [hlt.2 r', other r' hne]
          · rw [if_pos (by simpa using hg)]
            simp only [↓sNext, ↓sBreak, ↓sCont, ↓sDrop, ↓sRet, ↓sRetN, ↓sIf, ↓sAsg, ↓agName, ↓agNil, ↓agCons, ↓agTup, ↓sPar, ↓sFor, ↓aV, ↓lk, ↓aC, ↓aOp, ↓aUn, ↓aCall, ↓aNil, ↓aCons, ↓aIf, ↓aTest, ↓aAnd, ↓aOr, ↓aNot, ↓aAndV, ↓aOrV, ↓aNotV, ↓aI, ↓aI0, ↓aAdd, ↓aNeg, ↓aIsN, ↓isNone, ↓aTup, ↓purs, ↓aLst, ↓aLstO, ↓aIx, ↓gi0, ↓gi1, ↓gi2, ↓giN, ↓a1, ↓aLen, ↓aAbs, ↓aInt, ↓aStr, ↓aIsi, ↓btOf, ↓BT.isB, ↓aYes, ↓aiSeq, wipeL, ↓startL, List.map, List.set, List.replicate, List.length, List.append, List.cons_append, List.nil_append, ↓aMt, ↓isLs, ↓aLc, ↓aLcO, Bool.false_bne, Bool.true_bne, Bool.xor_false, Bool.false_xor, Bool.true_xor, Bool.not_true, Bool.not_false, decide_eq_true_eq, if_true, if_false, ite_true, ite_false, reduceIte, Bool.false_eq_true, List.getElem?_cons_zero, List.getElem?_cons_succ, ↓aLt, ↓aLe, ↓aGt, ↓aGe, ↓aSub, ↓aMul, ↓aDiv, ↓aMod, ↓aPow, true_and, and_true, sDPutA, ltAt, keysD]
            refine ⟨?_, ?_⟩
            · have h1 : lt.length ≤ A.length := by
                rw [← hN]
                refine len_sub hlt.1 fun r' h2 => ?_
                obtain ⟨⟨ms', h3, _⟩, _⟩ := (hlt.2 r').mp h2
                rw [← hR]
                exact List.mem_map.mpr ⟨_, h3, rfl⟩
              have : (marksE lt).length = lt.length := List.length_map ..
              rw [this]
              exact big_sl (by omega)
            · rw [ltSet, marksE_put]
              refine hN3 _ _ ⟨_, _, _, _, rfl, rfl, ?_, fun r' => ?_⟩
              · split
                · exact hlt.1
                · rename_i hr
                  refine List.nodup_append.mpr ⟨hlt.1, by simp, fun a ha b hb e => ?_⟩
                  rw [List.mem_singleton] at hb
                  subst hb
                  subst e
                  exact hr ha
              · by_cases hne : r' = r
                · subst hne
                  refine ⟨fun _ => ⟨own.mpr hb, hg⟩, fun _ => ?_⟩
                  split
                  · assumption
                  · simp
                · rw [other r' hne, ← hlt.2 r']
                  split
                  · exact Iff.rfl
                  · rw [List.mem_append, List.mem_singleton]
                    exact ⟨fun z => z.elim id fun z => absurd z hne, .inl⟩
        · have hb' : (Jm.lft (p1 ++ [(r, m)]) r ms).isEmpty = false := by
            cases q : Jm.lft (p1 ++ [(r, m)]) r ms with
            | nil => exact absurd q hb
            | cons _ _ => rfl
          rw [hb']
          simp only [↓sNext, ↓sBreak, ↓sCont, ↓sDrop, ↓sRet, ↓sRetN, ↓sIf, ↓sAsg, ↓agName, ↓agNil, ↓agCons, ↓agTup, ↓sPar, ↓sFor, ↓aV, ↓lk, ↓aC, ↓aOp, ↓aUn, ↓aCall, ↓aNil, ↓aCons, ↓aIf, ↓aTest, ↓aAnd, ↓aOr, ↓aNot, ↓aAndV, ↓aOrV, ↓aNotV, ↓aI, ↓aI0, ↓aAdd, ↓aNeg, ↓aIsN, ↓isNone, ↓aTup, ↓purs, ↓aLst, ↓aLstO, ↓aIx, ↓gi0, ↓gi1, ↓gi2, ↓giN, ↓a1, ↓aLen, ↓aAbs, ↓aInt, ↓aStr, ↓aIsi, ↓btOf, ↓BT.isB, ↓aYes, ↓aiSeq, wipeL, ↓startL, List.map, List.set, List.replicate, List.length, List.append, List.cons_append, List.nil_append, ↓aMt, ↓isLs, ↓aLc, ↓aLcO, Bool.false_bne, Bool.true_bne, Bool.xor_false, Bool.false_xor, Bool.true_xor, Bool.not_true, Bool.not_false, decide_eq_true_eq, if_true, if_false, ite_true, ite_false, reduceIte, Bool.false_eq_true, List.getElem?_cons_zero, List.getElem?_cons_succ, ↓aLt, ↓aLe, ↓aGt, ↓aGe, ↓aSub, ↓aMul, ↓aDiv, ↓aMod, ↓aPow, true_and, and_true]
          refine hN3 _ _ ⟨_, _, lt, _, rfl, rfl, hlt.1, fun r' => ?_⟩
          by_cases hne : r' = r
          · subst hne
            exact ⟨fun h => absurd (keep h).1 hb, fun h => absurd (own.mp h.1) hb⟩
          · rw [hlt.2 r', other r' hne]
      · obtain ⟨a3, a5, lt, J, rfl, rfl, hlt⟩ := hI3
        have wl2 : (wtD (Jm.evs A) part).length = (Jm.wt (Jm.evs A) part).length := List.length_map ..
        rw [wl2, List.take_length] at hlt ⊢
        have et : here.take (i + 1) = here.take i ++ [part] := by rw [List.take_add_one, hpart]; rfl
        have e6 : pp ++ (here.take (i + 1)).flatMap (Jm.wt (Jm.evs A)) = p0 ++ Jm.wt (Jm.evs A) part := by rw [et, ← hp0]; simp
        exact hN2 _ _ ⟨_, _, _, lt, J, rfl, by rw [e6], by rw [e6]; exact hlt⟩
    obtain ⟨a3, a5, a6, lt, J, rfl, rfl, hlt⟩ := hI2
    rw [List.length_map, il, List.take_length] at hlt ⊢
    have hpp' := Jm.popK_next hpp hA.func hh
    simp only [↓sNext, ↓sBreak, ↓sCont, ↓sDrop, ↓sRet, ↓sRetN, ↓sIf, ↓sAsg, ↓agName, ↓agNil, ↓agCons, ↓agTup, ↓sPar, ↓sFor, ↓aV, ↓lk, ↓aC, ↓aOp, ↓aUn, ↓aCall, ↓aNil, ↓aCons, ↓aIf, ↓aTest, ↓aAnd, ↓aOr, ↓aNot, ↓aAndV, ↓aOrV, ↓aNotV, ↓aI, ↓aI0, ↓aAdd, ↓aNeg, ↓aIsN, ↓isNone, ↓aTup, ↓purs, ↓aLst, ↓aLstO, ↓aIx, ↓gi0, ↓gi1, ↓gi2, ↓giN, ↓a1, ↓aLen, ↓aAbs, ↓aInt, ↓aStr, ↓aIsi, ↓btOf, ↓BT.isB, ↓aYes, ↓aiSeq, wipeL, ↓startL, List.map, List.set, List.replicate, List.length, List.append, List.cons_append, List.nil_append, ↓aMt, ↓isLs, ↓aLc, ↓aLcO, Bool.false_bne, Bool.true_bne, Bool.xor_false, Bool.false_xor, Bool.true_xor, Bool.not_true, Bool.not_false, decide_eq_true_eq, if_true, if_false, ite_true, ite_false, reduceIte, Bool.false_eq_true, List.getElem?_cons_zero, List.getElem?_cons_succ, ↓aLt, ↓aLe, ↓aGt, ↓aGe, ↓aSub, ↓aMul, ↓aDiv, ↓aMod, ↓aPow, true_and, and_true, aListT, ltAt]
    refine ⟨?_, ?_⟩
    · intro kv hkv
      obtain ⟨r, hr, rfl⟩ := List.mem_map.mp hkv
      obtain ⟨⟨ms, h1, _⟩, _⟩ := (hlt.2 r).mp hr
      have : r.length ≤ 4 := hA.row _ h1
      show (keyR r).length ≤ 1000
      unfold keyR
      rw [List.length_map]
      omega
    rw [marksE_list]
    refine hN1 (A.length - gk2.length) _ _ ?_ ⟨k + 1, gk2, lt, _, _, _, _, _, _, _, rfl, rfl, hpp', hgk', hlt.1, fun r => ?_, ?_⟩
    · rw [← hgg, List.length_append, List.length_map]
      omega
    · rw [hlt.2 r, Jm.goneK_mem hgk']
      constructor
      · rintro ⟨⟨ms, h1, h2⟩, h3⟩
        have g := (Jm.popK_bare hpp' hA.func h1).mp h2
        obtain ⟨j, hj, hr⟩ := g.rank
        by_cases e : j = k + 1
        · subst e; exact hr
        · exact absurd ⟨j, by omega, hr⟩ h3
      · intro hr
        obtain ⟨ms, h1⟩ := hr.key
        refine ⟨⟨ms, h1, (Jm.popK_bare hpp' hA.func h1).mpr hr.1⟩, ?_⟩
        rintro ⟨j, hj, hr'⟩
        have := hr.inj hr'
        omega
    · rw [← hgg, List.length_append, List.length_map]
      omega
end
end Lw
namespace Lw
open PySem PySem.Spec PyProof.Rows L2 Am
section
variable {Pg : Program} {w : World} {K : PySem.W.Frag} {mg : Str → Option Value} {base : Heap}
/-! ### the book -/
def rle (a b : List Nat) : Bool := PySem.W.dataLe false P.py (rowP a) (rowP b)
/-- the rows that never go, sorted -/
noncomputable def bookL (l : Lot) (n : Nat) : List (List Nat) := (((Jm.lv l.m l.ps (n - 1)).map (·.1)).filter fun r => !Jm.goneB (Jm.lv l.m l.ps (n - 1)) r).mergeSort rle
theorem mem_bookL {l : Lot} {n : Nat} {r : List Nat} : r ∈ bookL l n ↔ Jm.Kept l.m l.ps (n - 1) r := by
  unfold bookL
  rw [List.mem_mergeSort, List.mem_filter, List.mem_map]
  constructor
  · rintro ⟨⟨⟨r, ms⟩, h1, rfl⟩, h2⟩
    exact ⟨⟨ms, h1⟩, Jm.goneB_no.mp (by simpa using h2)⟩
  · rintro ⟨⟨ms, h1⟩, h2⟩
    exact ⟨⟨(r, ms), h1, rfl⟩, by rw [Jm.goneB_no.mpr h2]; rfl⟩
theorem tab_lv {l : Lot} (hl : Good l) {k : Nat} (hk : k ≤ 4) : TabOk (Jm.lv l.m l.ps k) := by
  refine ⟨Jm.lv_nodup _ _ _, Jm.lv_total _ _ _, ?_, fun e he => ?_, fun e he => ?_⟩
  · exact Nat.le_trans (Jm.lv_len _ _ _) (Nat.le_trans (Nat.pow_le_pow_left hl.small _) (Nat.le_trans (Nat.pow_le_pow_right (by decide) hk) (by decide)))
  · have := (Jm.lv_wide _ _ _ e he).2.1
    omega
  · have := (Jm.lv_wide _ _ _ e he).1
    have := hl.small
    omega
theorem take_same {S S' : List O} (h : ∀ i, i < S.length → S'[i]? = S[i]?) : S'.take S.length = S := by
  refine List.ext_getElem? fun i => ?_
  rw [List.getElem?_take]
  split
  · rename_i hi; exact h i hi
  · rename_i hi; rw [List.getElem?_eq_none (by omega)]
theorem cut_same {S S' : List O} {Post : D → List O → Prop} {x : Am.P} (hB : Bel S.length S) (h : ∀ i, i < S.length → S'[i]? = S[i]?) (q : Post (.p x) S) : Cut S.length Post (.p x) S' :=
  .inr ⟨S.length, Nat.le_refl _, by rw [take_same h]; exact hB, trivial, by rw [take_same h]; exact q⟩
theorem row_alike (a b : List Nat) : PySem.W.alike (rowP a).py (rowP b).py = true := by
  unfold rowP
  rw [P.py, P.py, pys_map, pys_map, List.map_map, List.map_map, PySem.W.alike]
  induction a generalizing b with
  | nil => cases b <;> rfl
  | cons x a ih =>
    cases b with
    | nil => rfl
    | cons y b =>
      rw [List.map_cons, List.map_cons, PySem.W.alikeAll, ih b]
      rfl
theorem rows_alike (xs : List (List Nat)) : PySem.W.AllAlike ((xs.map rowP).map P.py) := by
  intro d hd e he
  rw [List.map_map] at hd he
  obtain ⟨x, _, rfl⟩ := List.mem_map.mp hd
  obtain ⟨y, _, rfl⟩ := List.mem_map.mp he
  exact row_alike x y
theorem row_py (r : List Nat) : (rowP r).py = .tuple (r.map fun n => .int (n : Nat)) := by
  unfold rowP
  rw [P.py, pys_map, List.map_map]; rfl
theorem rows_sortable {xs : List (List Nat)} {k : Nat} (hk : ∀ r ∈ xs, r.length = k) (hn : xs.Nodup) : PySem.W.Sortable ((xs.map rowP).map P.py) ∨ ∃ x, xs.map rowP = [x] ∧ x.py ≠ .none := by
  cases k with
  | zero =>
    match xs, hk, hn with
    | [], _, _ => exact .inl (.inl fun d hd => by simp at hd)
    | [r], _, _ => exact .inr ⟨rowP r, rfl, by rw [row_py]; exact fun h => by cases h⟩
    | r :: s :: xs, hk, hn =>
      have h1 : r = [] := List.length_eq_zero_iff.mp (hk r (by simp))
      have h2 : s = [] := List.length_eq_zero_iff.mp (hk s (by simp))
      rw [h1, h2] at hn
      exact absurd hn (by simp)
  | succ k =>
    refine .inl (.inl fun d hd => ?_)
    rw [List.map_map] at hd
    obtain ⟨r, hr, rfl⟩ := List.mem_map.mp hd
    have := hk r hr
    show ∃ x r', (rowP r).py = _
    rw [row_py]
    cases r with
    | nil => simp at this
    | cons a r => exact ⟨_, _, rfl⟩
theorem rows_sorted (xs : List (List Nat)) : (xs.map rowP).mergeSort (PySem.W.dataLe false P.py) = (xs.mergeSort rle).map rowP := (List.map_mergeSort (r := rle) (s := PySem.W.dataLe false P.py) (f := rowP) (l := xs) fun a _ b _ => rfl).symm
def F_book : FT := fun as S Post => ∃ (l : Lot) (n : Nat), as = [.p (lotP l), .p (.int (n : Nat))] ∧ Good l ∧ 1 ≤ n ∧ n ≤ 5 ∧ Post (.p (.tup ((bookL l n).map rowP))) S
theorem len_book : ∀ as S Post, F_book as S Post → as.length = ["lot", "n"].length := by
  rintro _ S Post ⟨_, _, rfl, _⟩; rfl
theorem cl_book (p : Pre K mg "book" st_book) (z_sorted : mg "sorted" = none) (z_tuple : mg "tuple" = none) (c_levels : Cl Pg w K mg base 2 "levels" st_levels ["lot", "most"] F_levels) (c_peeled : Cl Pg w K mg base 2 "peeled" st_peeled ["above"] F_peeled) : Cl Pg w K mg base 3 "book" st_book ["lot", "n"] F_book := by
  refine p.cl (fun _ _ _ _ _ _ us hl => match us, hl with | [_, _], _ => rfl) fun f fd F => ?_
  refine fun_ok F sc_book len_book (fun cdv A outer s H E gd hr => have hu := hu65 hr; (jb_cons (js_set 2 sc_book.nd (je_ix (je_own c_levels gd hr (ja_cons (je_var 0) (ja_cons (je_sub (je_var 1) je_int) ja_nil))) (je_neg je_int) (fun _ _ => rfl)))
    (jb_cons (js_set 3 sc_book.nd (je_own c_peeled gd hr (ja_cons (je_var 2) ja_nil)))
    (jb_one (js_ret (je_tuple (by rfl) z_tuple (je_sortedX hu (by rfl) z_sorted (je_lc rfl sc_book.nd (ji_keys (je_var 2)) (blkOk_by (N := ns_book) (sc := defScope st_book) (own := [("row", 4)]) (by decide +kernel)) (fun _ _ _ _ _ => (jgo_name 4 sc_book.nd)) (fun _ _ _ _ _ => jts_one (jt_dnin hu (je_var 4) (je_var 3))) (fun _ _ _ _ _ => (je_var 4)))))))))) ?_
  rintro as S Post hB ⟨l, n, rfl, hl, hn1, hn5, h⟩
  have en : ((n : Nat) : Int) - 1 = ((n - 1 : Nat) : Int) := by omega
  refine sq ?_
  simp only [↓sNext, ↓sBreak, ↓sCont, ↓sDrop, ↓sRet, ↓sRetN, ↓sIf, ↓sAsg, ↓agName, ↓agNil, ↓agCons, ↓agTup, ↓sPar, ↓sFor, ↓aV, ↓lk, ↓aC, ↓aOp, ↓aUn, ↓aCall, ↓aNil, ↓aCons, ↓aIf, ↓aTest, ↓aAnd, ↓aOr, ↓aNot, ↓aAndV, ↓aOrV, ↓aNotV, ↓aI, ↓aI0, ↓aAdd, ↓aNeg, ↓aIsN, ↓isNone, ↓aTup, ↓purs, ↓aLst, ↓aLstO, ↓aIx, ↓gi0, ↓gi1, ↓gi2, ↓giN, ↓a1, ↓aLen, ↓aAbs, ↓aInt, ↓aStr, ↓aIsi, ↓btOf, ↓BT.isB, ↓aYes, ↓aiSeq, wipeL, ↓startL, List.map, List.set, List.replicate, List.length, List.append, List.cons_append, List.nil_append, ↓aMt, ↓isLs, ↓aLc, ↓aLcO, Bool.false_bne, Bool.true_bne, Bool.xor_false, Bool.false_xor, Bool.true_xor, Bool.not_true, Bool.not_false, decide_eq_true_eq, if_true, if_false, ite_true, ite_false, reduceIte, Bool.false_eq_true, List.getElem?_cons_zero, List.getElem?_cons_succ, ↓aLt, ↓aLe, ↓aGt, ↓aGe, ↓aSub, ↓aMul, ↓aDiv, ↓aMod, ↓aPow, true_and, and_true, en]
  refine ⟨l, n - 1, rfl, hl, by omega, fun S1 n1 h1 h2 => ?_⟩
  simp only [↓sNext, ↓sBreak, ↓sCont, ↓sDrop, ↓sRet, ↓sRetN, ↓sIf, ↓sAsg, ↓agName, ↓agNil, ↓agCons, ↓agTup, ↓sPar, ↓sFor, ↓aV, ↓lk, ↓aC, ↓aOp, ↓aUn, ↓aCall, ↓aNil, ↓aCons, ↓aIf, ↓aTest, ↓aAnd, ↓aOr, ↓aNot, ↓aAndV, ↓aOrV, ↓aNotV, ↓aI, ↓aI0, ↓aAdd, ↓aNeg, ↓aIsN, ↓isNone, ↓aTup, ↓purs, ↓aLst, ↓aLstO, ↓aIx, ↓gi0, ↓gi1, ↓gi2, ↓giN, ↓a1, ↓aLen, ↓aAbs, ↓aInt, ↓aStr, ↓aIsi, ↓btOf, ↓BT.isB, ↓aYes, ↓aiSeq, wipeL, ↓startL, List.map, List.set, List.replicate, List.length, List.append, List.cons_append, List.nil_append, ↓aMt, ↓isLs, ↓aLc, ↓aLcO, Bool.false_bne, Bool.true_bne, Bool.xor_false, Bool.false_xor, Bool.true_xor, Bool.not_true, Bool.not_false, decide_eq_true_eq, if_true, if_false, ite_true, ite_false, reduceIte, Bool.false_eq_true, List.getElem?_cons_zero, List.getElem?_cons_succ, ↓aLt, ↓aLe, ↓aGt, ↓aGe, ↓aSub, ↓aMul, ↓aDiv, ↓aMod, ↓aPow, true_and, and_true, h2, gi_last]
  refine sq ?_
  simp only [↓sNext, ↓sBreak, ↓sCont, ↓sDrop, ↓sRet, ↓sRetN, ↓sIf, ↓sAsg, ↓agName, ↓agNil, ↓agCons, ↓agTup, ↓sPar, ↓sFor, ↓aV, ↓lk, ↓aC, ↓aOp, ↓aUn, ↓aCall, ↓aNil, ↓aCons, ↓aIf, ↓aTest, ↓aAnd, ↓aOr, ↓aNot, ↓aAndV, ↓aOrV, ↓aNotV, ↓aI, ↓aI0, ↓aAdd, ↓aNeg, ↓aIsN, ↓isNone, ↓aTup, ↓purs, ↓aLst, ↓aLstO, ↓aIx, ↓gi0, ↓gi1, ↓gi2, ↓giN, ↓a1, ↓aLen, ↓aAbs, ↓aInt, ↓aStr, ↓aIsi, ↓btOf, ↓BT.isB, ↓aYes, ↓aiSeq, wipeL, ↓startL, List.map, List.set, List.replicate, List.length, List.append, List.cons_append, List.nil_append, ↓aMt, ↓isLs, ↓aLc, ↓aLcO, Bool.false_bne, Bool.true_bne, Bool.xor_false, Bool.false_xor, Bool.true_xor, Bool.not_true, Bool.not_false, decide_eq_true_eq, if_true, if_false, ite_true, ite_false, reduceIte, Bool.false_eq_true, List.getElem?_cons_zero, List.getElem?_cons_succ, ↓aLt, ↓aLe, ↓aGt, ↓aGe, ↓aSub, ↓aMul, ↓aDiv, ↓aMod, ↓aPow, true_and, and_true]
  refine ⟨_, rfl, tab_lv hl (by omega), fun gk S2 n2 hg h3 h4 => ?_⟩
  simp only [↓sNext, ↓sBreak, ↓sCont, ↓sDrop, ↓sRet, ↓sRetN, ↓sIf, ↓sAsg, ↓agName, ↓agNil, ↓agCons, ↓agTup, ↓sPar, ↓sFor, ↓aV, ↓lk, ↓aC, ↓aOp, ↓aUn, ↓aCall, ↓aNil, ↓aCons, ↓aIf, ↓aTest, ↓aAnd, ↓aOr, ↓aNot, ↓aAndV, ↓aOrV, ↓aNotV, ↓aI, ↓aI0, ↓aAdd, ↓aNeg, ↓aIsN, ↓isNone, ↓aTup, ↓purs, ↓aLst, ↓aLstO, ↓aIx, ↓gi0, ↓gi1, ↓gi2, ↓giN, ↓a1, ↓aLen, ↓aAbs, ↓aInt, ↓aStr, ↓aIsi, ↓btOf, ↓BT.isB, ↓aYes, ↓aiSeq, wipeL, ↓startL, List.map, List.set, List.replicate, List.length, List.append, List.cons_append, List.nil_append, ↓aMt, ↓isLs, ↓aLc, ↓aLcO, Bool.false_bne, Bool.true_bne, Bool.xor_false, Bool.false_xor, Bool.true_xor, Bool.not_true, Bool.not_false, decide_eq_true_eq, if_true, if_false, ite_true, ite_false, reduceIte, Bool.false_eq_true, List.getElem?_cons_zero, List.getElem?_cons_succ, ↓aLt, ↓aLe, ↓aGt, ↓aGe, ↓aSub, ↓aMul, ↓aDiv, ↓aMod, ↓aPow, true_and, and_true, aiKeys, tabP]
  refine ⟨tab_small (tab_lv hl (by omega)), ?_⟩
  rw [items_row]
  refine lc_map (Jm.lv l.m l.ps (n - 1)) (fun e => .p (rowP e.1)) (fun e => !decide (e.1 ∈ gk.map (·.1))) (fun e => rowP e.1) (fun e he Q R hQ => ?_) ?_
  · simp only [↓sNext, ↓sBreak, ↓sCont, ↓sDrop, ↓sRet, ↓sRetN, ↓sIf, ↓sAsg, ↓agName, ↓agNil, ↓agCons, ↓agTup, ↓sPar, ↓sFor, ↓aV, ↓lk, ↓aC, ↓aOp, ↓aUn, ↓aCall, ↓aNil, ↓aCons, ↓aIf, ↓aTest, ↓aAnd, ↓aOr, ↓aNot, ↓aAndV, ↓aOrV, ↓aNotV, ↓aI, ↓aI0, ↓aAdd, ↓aNeg, ↓aIsN, ↓isNone, ↓aTup, ↓purs, ↓aLst, ↓aLstO, ↓aIx, ↓gi0, ↓gi1, ↓gi2, ↓giN, ↓a1, ↓aLen, ↓aAbs, ↓aInt, ↓aStr, ↓aIsi, ↓btOf, ↓BT.isB, ↓aYes, ↓aiSeq, wipeL, ↓startL, List.map, List.set, List.replicate, List.length, List.append, List.cons_append, List.nil_append, ↓aMt, ↓isLs, ↓aLc, ↓aLcO, Bool.false_bne, Bool.true_bne, Bool.xor_false, Bool.false_xor, Bool.true_xor, Bool.not_true, Bool.not_false, decide_eq_true_eq, if_true, if_false, ite_true, ite_false, reduceIte, Bool.false_eq_true, List.getElem?_cons_zero, List.getElem?_cons_succ, ↓aLt, ↓aLe, ↓aGt, ↓aGe, ↓aSub, ↓aMul, ↓aDiv, ↓aMod, ↓aPow, true_and, and_true, aDIn, dlk_own h4, goneE_gt]
    exact hQ
  · refine ⟨_, rfl, ?_⟩
    have e1 : ((Jm.lv l.m l.ps (n - 1)).filter fun e => !decide (e.1 ∈ gk.map (·.1))).map (fun e => rowP e.1) = (((Jm.lv l.m l.ps (n - 1)).map (·.1)).filter fun r => !Jm.goneB (Jm.lv l.m l.ps (n - 1)) r).map rowP := by
      rw [List.filter_map, List.map_map]
      congr 1
      refine List.filter_congr fun e _ => ?_
      show _ = !Jm.goneB (Jm.lv l.m l.ps (n - 1)) e.1
      congr 1
      rw [Bool.eq_iff_iff, Jm.goneB_iff, decide_eq_true_eq]
      exact hg.key e.1
    rw [e1]
    generalize hR : (((Jm.lv l.m l.ps (n - 1)).map (·.1)).filter fun r => !Jm.goneB (Jm.lv l.m l.ps (n - 1)) r) = rs
    have hb : bookL l n = rs.mergeSort rle := by rw [← hR]; rfl
    refine ⟨_, .inl rfl, fun x hx => ?_, rows_alike rs, rows_sortable (k := n - 1) (fun r hr => ?_) ?_, ?_⟩
    · obtain ⟨r, _, rfl⟩ := List.mem_map.mp hx
      exact row_dat
    · rw [← hR, List.mem_filter, List.mem_map] at hr
      obtain ⟨⟨e, he, rfl⟩, _⟩ := hr
      exact (Jm.lv_wide _ _ _ e he).2.1
    · rw [← hR]
      exact (Jm.lv_nodup _ _ _).1.sublist List.filter_sublist
    · rw [rows_sorted, ← hb]
      simp only [↓sNext, ↓sBreak, ↓sCont, ↓sDrop, ↓sRet, ↓sRetN, ↓sIf, ↓sAsg, ↓agName, ↓agNil, ↓agCons, ↓agTup, ↓sPar, ↓sFor, ↓aV, ↓lk, ↓aC, ↓aOp, ↓aUn, ↓aCall, ↓aNil, ↓aCons, ↓aIf, ↓aTest, ↓aAnd, ↓aOr, ↓aNot, ↓aAndV, ↓aOrV, ↓aNotV, ↓aI, ↓aI0, ↓aAdd, ↓aNeg, ↓aIsN, ↓isNone, ↓aTup, ↓purs, ↓aLst, ↓aLstO, ↓aIx, ↓gi0, ↓gi1, ↓gi2, ↓giN, ↓a1, ↓aLen, ↓aAbs, ↓aInt, ↓aStr, ↓aIsi, ↓btOf, ↓BT.isB, ↓aYes, ↓aiSeq, wipeL, ↓startL, List.map, List.set, List.replicate, List.length, List.append, List.cons_append, List.nil_append, ↓aMt, ↓isLs, ↓aLc, ↓aLcO, Bool.false_bne, Bool.true_bne, Bool.xor_false, Bool.false_xor, Bool.true_xor, Bool.not_true, Bool.not_false, decide_eq_true_eq, if_true, if_false, ite_true, ite_false, reduceIte, Bool.false_eq_true, List.getElem?_cons_zero, List.getElem?_cons_succ, ↓aLt, ↓aLe, ↓aGt, ↓aGe, ↓aSub, ↓aMul, ↓aDiv, ↓aMod, ↓aPow, true_and, and_true, aTuple]
      refine ⟨_, rfl, ?_⟩
      exact cut_same hB (fun i hi => (h3 i (by have h5 := (h1 i hi); have h6 := List.getElem?_eq_getElem hi; rw [h6] at h5; exact (List.getElem?_eq_some_iff.mp h5).1)).trans (h1 i hi)) h
def F_serves : FT := fun as S Post => ∃ (l : Lot) (n : Nat), as = [.p (lotP l), .p (.int (n : Nat))] ∧ Good l ∧ 1 ≤ n ∧ n ≤ 5 ∧ Post (.p (.bl (Jm.servesB l.m l.ps n))) S
theorem len_serves : ∀ as S Post, F_serves as S Post → as.length = ["lot", "n"].length := by
  rintro _ S Post ⟨_, _, rfl, _⟩; rfl
theorem book_serves (l : Lot) (n : Nat) : (!(bookL l n).isEmpty) = Jm.servesB l.m l.ps n := by
  rw [Bool.eq_iff_iff, Jm.servesB_iff]
  constructor
  · intro h
    cases e : bookL l n with
    | nil => rw [e] at h; cases h
    | cons r rs => exact ⟨r, mem_bookL.mp (by rw [e]; simp)⟩
  · rintro ⟨r, h⟩
    have := mem_bookL.mpr h
    cases e : bookL l n with
    | nil => rw [e] at this; cases this
    | cons r rs => rfl
theorem cl_serves (p : Pre K mg "serves" st_serves) (c_book : Cl Pg w K mg base 3 "book" st_book ["lot", "n"] F_book) : Cl Pg w K mg base 4 "serves" st_serves ["lot", "n"] F_serves := by
  refine p.cl (fun _ _ _ _ _ _ us hl => match us, hl with | [_, _], _ => rfl) fun f fd F => ?_
  refine fun_ok F sc_serves len_serves (fun cdv A outer s H E gd hr => have hu := hu65 hr; (jb_one (js_ret (je_ne hr (je_own c_book gd hr (ja_cons (je_var 0) (ja_cons (je_var 1) ja_nil))) (je_tup ja_nil))))) ?_
  rintro as S Post hB ⟨l, n, rfl, hl, hn1, hn5, h⟩
  simp only [↓sNext, ↓sBreak, ↓sCont, ↓sDrop, ↓sRet, ↓sRetN, ↓sIf, ↓sAsg, ↓agName, ↓agNil, ↓agCons, ↓agTup, ↓sPar, ↓sFor, ↓aV, ↓lk, ↓aC, ↓aOp, ↓aUn, ↓aCall, ↓aNil, ↓aCons, ↓aIf, ↓aTest, ↓aAnd, ↓aOr, ↓aNot, ↓aAndV, ↓aOrV, ↓aNotV, ↓aI, ↓aI0, ↓aAdd, ↓aNeg, ↓aIsN, ↓isNone, ↓aTup, ↓purs, ↓aLst, ↓aLstO, ↓aIx, ↓gi0, ↓gi1, ↓gi2, ↓giN, ↓a1, ↓aLen, ↓aAbs, ↓aInt, ↓aStr, ↓aIsi, ↓btOf, ↓BT.isB, ↓aYes, ↓aiSeq, wipeL, ↓startL, List.map, List.set, List.replicate, List.length, List.append, List.cons_append, List.nil_append, ↓aMt, ↓isLs, ↓aLc, ↓aLcO, Bool.false_bne, Bool.true_bne, Bool.xor_false, Bool.false_xor, Bool.true_xor, Bool.not_true, Bool.not_false, decide_eq_true_eq, if_true, if_false, ite_true, ite_false, reduceIte, Bool.false_eq_true, List.getElem?_cons_zero, List.getElem?_cons_succ, ↓aLt, ↓aLe, ↓aGt, ↓aGe, ↓aSub, ↓aMul, ↓aDiv, ↓aMod, ↓aPow, true_and, and_true]
  refine ⟨l, n, rfl, hl, hn1, hn5, ?_⟩
  simp only [aEq, asP]
  refine ⟨_, _, rfl, rfl, fun x hx => ?_, (fun x hx => nomatch hx), ?_⟩
  · obtain ⟨r, _, rfl⟩ := List.mem_map.mp hx
    exact row_dat
  · rw [eqb_tup_nil]
    have e : ((bookL l n).map rowP).isEmpty = (bookL l n).isEmpty := by cases bookL l n <;> rfl
    rw [e, show (true ^^ (bookL l n).isEmpty) = !(bookL l n).isEmpty by simp, book_serves]
    exact .inl h
def F_reach : FT := fun as S Post => ∃ (l : Lot), as = [.p (lotP l)] ∧ Good l ∧ Post (.p (.int (Jm.reach l.m l.ps : Nat))) S
theorem len_reach : ∀ as S Post, F_reach as S Post → as.length = ["lot"].length := by
  rintro _ S Post ⟨_, rfl, _⟩; rfl
theorem cl_reach (p : Pre K mg "reach" st_reach) {t_MOST_SLOTS : Tok} (m_MOST_SLOTS : mg "MOST_SLOTS" = some (.int 5 t_MOST_SLOTS)) (c_serves : Cl Pg w K mg base 4 "serves" st_serves ["lot", "n"] F_serves) : Cl Pg w K mg base 5 "reach" st_reach ["lot"] F_reach := by
  refine p.cl (fun _ _ _ _ _ _ us hl => match us, hl with | [_], _ => rfl) fun f fd F => ?_
  refine fun_ok F sc_reach len_reach (fun cdv A outer s H E gd hr => have hu := hu65 hr; (jb_cons (js_set 1 sc_reach.nd je_int)
    (jb_cons (js_while PassesOwn.never (JW.jt (jw_and (jt_lt (je_var 1) (je_glob (fun _ => .int _) (by rfl) m_MOST_SLOTS ⟨_, rfl⟩)) (jw_and1 (jt_val (je_own c_serves gd hr (ja_cons (je_var 0) (ja_cons (je_add (je_var 1) je_int) ja_nil))))))) (jb_one (js_augAdd 1 sc_reach.nd je_int)))
    (jb_one (js_ret (je_var 1)))))) ?_
  rintro as S Post hB ⟨l, rfl, hl, h⟩
  refine sq ?_
  simp only [↓sNext, ↓sBreak, ↓sCont, ↓sDrop, ↓sRet, ↓sRetN, ↓sIf, ↓sAsg, ↓agName, ↓agNil, ↓agCons, ↓agTup, ↓sPar, ↓sFor, ↓aV, ↓lk, ↓aC, ↓aOp, ↓aUn, ↓aCall, ↓aNil, ↓aCons, ↓aIf, ↓aTest, ↓aAnd, ↓aOr, ↓aNot, ↓aAndV, ↓aOrV, ↓aNotV, ↓aI, ↓aI0, ↓aAdd, ↓aNeg, ↓aIsN, ↓isNone, ↓aTup, ↓purs, ↓aLst, ↓aLstO, ↓aIx, ↓gi0, ↓gi1, ↓gi2, ↓giN, ↓a1, ↓aLen, ↓aAbs, ↓aInt, ↓aStr, ↓aIsi, ↓btOf, ↓BT.isB, ↓aYes, ↓aiSeq, wipeL, ↓startL, List.map, List.set, List.replicate, List.length, List.append, List.cons_append, List.nil_append, ↓aMt, ↓isLs, ↓aLc, ↓aLcO, Bool.false_bne, Bool.true_bne, Bool.xor_false, Bool.false_xor, Bool.true_xor, Bool.not_true, Bool.not_false, decide_eq_true_eq, if_true, if_false, ite_true, ite_false, reduceIte, Bool.false_eq_true, List.getElem?_cons_zero, List.getElem?_cons_succ, ↓aLt, ↓aLe, ↓aGt, ↓aGe, ↓aSub, ↓aMul, ↓aDiv, ↓aMod, ↓aPow, true_and, and_true]
  refine sq ?_
  refine while_go (fun m L S' => S' = S ∧ ∃ r : Nat, L = [some (.p (lotP l)), some (.p (.int (r : Nat)))] ∧ r + m = 5 ∧ Jm.rch l.m l.ps m r = Jm.reach l.m l.ps) (fun m L S' N hI hN => ?_) (m := 5) ⟨rfl, 0, rfl, rfl, rfl⟩
  obtain ⟨rfl, r, rfl, hm, hr⟩ := hI
  simp only [↓sNext, ↓sBreak, ↓sCont, ↓sDrop, ↓sRet, ↓sRetN, ↓sIf, ↓sAsg, ↓agName, ↓agNil, ↓agCons, ↓agTup, ↓sPar, ↓sFor, ↓aV, ↓lk, ↓aC, ↓aOp, ↓aUn, ↓aCall, ↓aNil, ↓aCons, ↓aIf, ↓aTest, ↓aAnd, ↓aOr, ↓aNot, ↓aAndV, ↓aOrV, ↓aNotV, ↓aI, ↓aI0, ↓aAdd, ↓aNeg, ↓aIsN, ↓isNone, ↓aTup, ↓purs, ↓aLst, ↓aLstO, ↓aIx, ↓gi0, ↓gi1, ↓gi2, ↓giN, ↓a1, ↓aLen, ↓aAbs, ↓aInt, ↓aStr, ↓aIsi, ↓btOf, ↓BT.isB, ↓aYes, ↓aiSeq, wipeL, ↓startL, List.map, List.set, List.replicate, List.length, List.append, List.cons_append, List.nil_append, ↓aMt, ↓isLs, ↓aLc, ↓aLcO, Bool.false_bne, Bool.true_bne, Bool.xor_false, Bool.false_xor, Bool.true_xor, Bool.not_true, Bool.not_false, decide_eq_true_eq, if_true, if_false, ite_true, ite_false, reduceIte, Bool.false_eq_true, List.getElem?_cons_zero, List.getElem?_cons_succ, ↓aLt, ↓aLe, ↓aGt, ↓aGe, ↓aSub, ↓aMul, ↓aDiv, ↓aMod, ↓aPow, true_and, and_true, sAugI]
  by_cases hm0 : m = 0
  · subst hm0
    have : ¬ ((r : Nat) : Int) < 5 := by omega
    rw [if_neg (by simpa using this)]
    have e : r = Jm.reach l.m l.ps := hr
    rw [e]
    exact .inl h
  · have : ((r : Nat) : Int) < 5 := by omega
    rw [if_pos (by simpa using this)]
    refine ⟨l, r + 1, by simp, hl, by omega, by omega, ?_⟩
    obtain ⟨f, rfl⟩ : ∃ f, m = f + 1 := ⟨m - 1, by omega⟩
    show if Jm.servesB l.m l.ps (r + 1) = true then _ else _
    by_cases hs : Jm.servesB l.m l.ps (r + 1) = true
    · rw [if_pos hs]
      refine hN f _ _ (by omega) ⟨rfl, r + 1, by simp, by omega, ?_⟩
      rw [← hr, Jm.rch, if_pos hs]
    · rw [if_neg hs]
      have e : r = Jm.reach l.m l.ps := by rw [← hr, Jm.rch, if_neg hs]
      rw [e]
      exact .inl h
end
end Lw
namespace Lw
open PySem PySem.Spec PyProof.Rows L2 Am
section
variable {Pg : Program} {w : World} {K : PySem.W.Frag} {mg : Str → Option Value} {base : Heap}
/-! ### equality of small data -/
def intsP (ns : List Nat) : P := .lst (ns.map fun k => .int (k : Nat))
theorem eqb_i (i j : Int) : P.eqb (.int i) (.int j) = decide (i = j) := by
  unfold P.eqb
  rw [P.py, P.py, PyData.eqv]
  by_cases h : i = j <;> simp [h]
theorem eqb_n (i j : Nat) : P.eqb (.int (i : Nat)) (.int (j : Nat)) = decide (i = j) := by
  rw [eqb_i]
  exact decide_eq_decide.mpr ⟨fun h => by omega, fun h => by rw [h]⟩
theorem eqvAll_ints : ∀ a b : List Nat, PyData.eqvAll (a.map fun n => .int (n : Nat)) (b.map fun n => .int (n : Nat)) = decide (a = b)
  | [], [] => by simp [PyData.eqvAll]
  | [], _ :: _ => by simp [PyData.eqvAll]
  | _ :: _, [] => by simp [PyData.eqvAll]
  | x :: a, y :: b => by
    rw [List.map_cons, List.map_cons, PyData.eqvAll, eqvAll_ints a b, PyData.eqv]
    by_cases h : x = y
    · subst h; simp
    · have : ¬ ((x : Nat) : Int) = (y : Nat) := by omega
      simp [h, this]
theorem eqb_row (a b : List Nat) : P.eqb (rowP a) (rowP b) = decide (a = b) := by
  unfold P.eqb
  rw [row_py, row_py, PyData.eqv, eqvAll_ints]
theorem prP_row (q : Nat × Nat) : prP q = rowP [q.1, q.2] := rfl
theorem eqb_pr (a b : Nat × Nat) : P.eqb (prP a) (prP b) = decide (a = b) := by
  rw [prP_row, prP_row, eqb_row]
  obtain ⟨a1, a2⟩ := a
  obtain ⟨b1, b2⟩ := b
  exact decide_eq_decide.mpr (by simp)
theorem prs_dat {n : Nat} {fs : List (Nat × Nat)} : ∀ y ∈ fs.map prP, Dat (n + 1) y := fun y hy => by
  obtain ⟨q, _, rfl⟩ := List.mem_map.mp hy
  exact row_dat (r := [q.1, q.2])
theorem ints_dat {n : Nat} {ns : List Nat} : ∀ y ∈ ns.map (fun k => P.int (k : Nat)), Dat n y := fun y hy => by
  obtain ⟨q, _, rfl⟩ := List.mem_map.mp hy
  exact dat_int
theorem any_prs (fs : List (Nat × Nat)) (q : Nat × Nat) : ((fs.map prP).any fun z => P.eqb z (prP q)) = decide (q ∈ fs) := by
  rw [List.any_map, Bool.eq_iff_iff, List.any_eq_true, decide_eq_true_eq]
  constructor
  · rintro ⟨x, h1, h2⟩
    have : P.eqb (prP x) (prP q) = true := h2
    rw [eqb_pr, decide_eq_true_eq] at this
    rw [← this]; exact h1
  · intro h
    exact ⟨q, h, by show P.eqb (prP q) (prP q) = true; rw [eqb_pr]; simp⟩
theorem any_ints (ns : List Nat) (k : Nat) : ((ns.map fun n => P.int (n : Nat)).any fun z => P.eqb z (.int (k : Nat))) = decide (k ∈ ns) := by
  rw [List.any_map, Bool.eq_iff_iff, List.any_eq_true, decide_eq_true_eq]
  constructor
  · rintro ⟨x, h1, h2⟩
    have : P.eqb (.int (x : Nat)) (.int (k : Nat)) = true := h2
    rw [eqb_n, decide_eq_true_eq] at this
    rw [← this]; exact h1
  · intro h
    exact ⟨k, h, by show P.eqb (.int (k : Nat)) (.int (k : Nat)) = true; rw [eqb_n]; simp⟩
/-- (a, b) in pairs -/
theorem in_prs {fs : List (Nat × Nat)} {a b : Nat} {S : List O} {neg : Bool} {Post : D → List O → Prop} (q : Post (.p (.bl (xor neg (decide ((a, b) ∈ fs))))) S) : aIn neg (.p (.tup [.int (a : Nat), .int (b : Nat)])) (.p (.tup (fs.map prP))) S Post := by
  refine ⟨_, _, rfl, rfl, row_dat (r := [a, b]), prs_dat, ?_⟩
  have := any_prs fs (a, b)
  rw [show P.tup [P.int (a : Nat), .int (b : Nat)] = prP (a, b) from rfl, this]
  exact q
/-! ### sorted rows -/
theorem rle_one {a b : Nat} (h : a ≤ b) : rle [a] [b] = true := by
  unfold rle PySem.W.dataLe PySem.W.sortLe
  simp [row_py, PySem.W.keyToks, PySem.W.keyToksAll, PyProof.Rows.lexLt, PyProof.Rows.itemLt]
  omega
/-- the book of two slots -/
theorem book2 (l : Lot) : bookL l 2 = (Jm.ever l.m l.ps).map fun y => [y] := by
  have e1 : (Jm.lv l.m l.ps 1).map (·.1) = (List.range l.m).map fun x => [x] := by
    show (Jm.up l.ps [([], List.range l.m)]).map (·.1) = _
    unfold Jm.up
    simp
  unfold bookL
  rw [show (2 - 1 : Nat) = 1 from rfl, e1, List.filter_map]
  have e2 : (List.range l.m).filter ((fun r => !Jm.goneB (Jm.lv l.m l.ps 1) r) ∘ fun x => [x]) = Jm.ever l.m l.ps := by
    unfold Jm.ever
    refine List.filter_congr fun y hy => ?_
    show (!Jm.goneB (Jm.lv l.m l.ps 1) [y]) = _
    rw [Bool.eq_iff_iff, Jm.keptB_iff, Bool.not_eq_true', Jm.goneB_no]
    refine ⟨fun h => ⟨?_, h⟩, fun h => h.2⟩
    have : [y] ∈ (Jm.lv l.m l.ps 1).map (·.1) := by rw [e1]; exact List.mem_map.mpr ⟨y, hy, rfl⟩
    obtain ⟨⟨r, ms⟩, h1, h2⟩ := List.mem_map.mp this
    exact ⟨ms, by rw [← h2]; exact h1⟩
  rw [e2]
  refine List.mergeSort_of_pairwise ?_
  rw [List.pairwise_map]
  have : (Jm.ever l.m l.ps).Pairwise (· < ·) := by
    unfold Jm.ever
    exact (List.pairwise_lt_range).sublist List.filter_sublist
  exact this.imp fun h => rle_one (Nat.le_of_lt h)
end
end Lw
namespace Lw
open PySem PySem.Spec PyProof.Rows L2 Am
section
variable {Pg : Program} {w : World} {K : PySem.W.Frag} {mg : Str → Option Value} {base : Heap}
/-! ### drawn lots -/
theorem pr_py (q : Nat × Nat) : (prP q).py = .tuple [.int (q.1 : Nat), .int (q.2 : Nat)] := by simp [prP, P.py, P.pys]
theorem pairs_alike (xs : List (Nat × Nat)) : PySem.W.AllAlike ((xs.map prP).map P.py) := by
  intro d hd e he
  rw [List.map_map] at hd he
  obtain ⟨x, _, rfl⟩ := List.mem_map.mp hd
  obtain ⟨y, _, rfl⟩ := List.mem_map.mp he
  show PySem.W.alike (prP x).py (prP y).py = true
  rw [pr_py, pr_py]
  simp [PySem.W.alike, PySem.W.alikeAll]
theorem pairs_sortable (xs : List (Nat × Nat)) : PySem.W.Sortable ((xs.map prP).map P.py) := by
  refine .inl fun d hd => ?_
  rw [List.map_map] at hd
  obtain ⟨x, _, rfl⟩ := List.mem_map.mp hd
  exact ⟨_, _, pr_py x⟩
theorem pr_dat {n : Nat} (q : Nat × Nat) : Dat (n + 1) (prP q) := by
  intro z hz
  have hz : z = .int (q.1 : Nat) ∨ z = .int (q.2 : Nat) := by simpa using hz
  rcases hz with rfl | rfl <;> exact dat_int
def ple (a b : Nat × Nat) : Bool := PySem.W.dataLe false P.py (prP a) (prP b)
def sortP (fs : List (Nat × Nat)) : List (Nat × Nat) := fs.mergeSort ple
theorem pairs_sorted (xs : List (Nat × Nat)) : (xs.map prP).mergeSort (PySem.W.dataLe false P.py) = (sortP xs).map prP := (List.map_mergeSort (r := ple) (s := PySem.W.dataLe false P.py) (f := prP) (l := xs) fun a _ b _ => rfl).symm
theorem mem_sortP {fs : List (Nat × Nat)} {q : Nat × Nat} : q ∈ sortP fs ↔ q ∈ fs := List.mem_mergeSort
theorem sortP_len (fs : List (Nat × Nat)) : (sortP fs).length = fs.length := List.length_mergeSort ..
/-- tuple(sorted(pairs)) -/
theorem sorted_pairs {S : List O} {a : D} {fs : List (Nat × Nat)} (h : lsAt S a (fs.map prP)) {Post : D → List O → Prop} (q : Post (.p (.lst ((sortP fs).map prP))) S) : aSortedX a S Post := by
  refine ⟨_, .inl h, fun x hx => ?_, pairs_alike fs, .inl (pairs_sortable fs), by rw [pairs_sorted]; exact q⟩
  obtain ⟨y, _, rfl⟩ := List.mem_map.mp hx
  exact pr_dat y
theorem sorted_own {S : List O} {n : Nat} {fs : List (Nat × Nat)} (h : S[n]? = some (.lst ((fs.map prP).map .p))) {Post : D → List O → Prop} (q : Post (.p (.lst ((sortP fs).map prP))) S) : aSortedX (.own n) S Post := sorted_pairs (S := S) (a := .own n) (fs := fs) h q
theorem good_of {n : Nat} {fs : List (Nat × Nat)} (hn : n ≤ 30) (h1 : ∀ q ∈ fs, q.1 < n ∧ q.2 < n ∧ q.1 ≠ q.2) (h2 : ∀ a b, (a, b) ∈ fs → (b, a) ∉ fs) (hl : fs.length ≤ 1000) : Good ⟨n, fs⟩ :=
  ⟨hn, fun q hq => ⟨(h1 q hq).1, (h1 q hq).2.1⟩, hl, fun a ha => (h1 _ ha).2.2 rfl, h2⟩
theorem good_sort {n : Nat} {fs : List (Nat × Nat)} (h : Good ⟨n, fs⟩) : Good ⟨n, sortP fs⟩ :=
  ⟨h.small, fun q hq => h.low q (mem_sortP.mp hq), by rw [show (⟨n, sortP fs⟩ : Lot).ps.length = fs.length from sortP_len fs]; exact h.few, fun a ha => h.irr a (mem_sortP.mp ha), fun a b ha hb => h.asym a b (mem_sortP.mp ha) (mem_sortP.mp hb)⟩
/-- pairs drawn ahead of (x, y) -/
structure Drawn (x y : Nat) (fs : List (Nat × Nat)) : Prop where
  at_ : ∀ q ∈ fs, q.1 ≠ q.2 ∧ (max q.1 q.2 < x ∨ (max q.1 q.2 = x ∧ min q.1 q.2 < y))
  asym : ∀ a b, (a, b) ∈ fs → (b, a) ∉ fs
  len : fs.length ≤ 30 * x + y
  nd : fs.Nodup
def newP (w x y : Nat) : List (Nat × Nat) := if w = 0 then [(x, y)] else if w = 1 then [(y, x)] else []
theorem Drawn.nil : Drawn 0 0 [] := ⟨(fun _ h => nomatch h), (fun _ _ h => nomatch h), Nat.zero_le _, List.nodup_nil⟩
theorem Drawn.more {x y : Nat} {fs : List (Nat × Nat)} (h : Drawn x y fs) (hy : y < x) {new : List (Nat × Nat)} (hw : new = [] ∨ new = [(x, y)] ∨ new = [(y, x)]) : Drawn x (y + 1) (fs ++ new) := by
  have old : ∀ a b, (a, b) ∈ fs → ¬ (a = x ∧ b = y) ∧ ¬ (a = y ∧ b = x) := fun a b hq => by
    obtain ⟨h1, h2⟩ := h.at_ _ hq
    have h2 : max a b < x ∨ (max a b = x ∧ min a b < y) := h2
    omega
  have nw : ∀ q ∈ new, q = (x, y) ∨ q = (y, x) := fun q hq => by
    rcases hw with rfl | rfl | rfl
    · cases hq
    · exact .inl (List.mem_singleton.mp hq)
    · exact .inr (List.mem_singleton.mp hq)
  refine ⟨fun q hq => ?_, fun a b h1 h2 => ?_, ?_, ?_⟩
  · rcases List.mem_append.mp hq with z | z
    · obtain ⟨h1, h2⟩ := h.at_ q z
      exact ⟨h1, by omega⟩
    · rcases nw q z with rfl | rfl
      · exact ⟨by show x ≠ y; omega, .inr (by show max x y = x ∧ min x y < y + 1; omega)⟩
      · exact ⟨by show y ≠ x; omega, .inr (by show max y x = x ∧ min y x < y + 1; omega)⟩
  · rcases List.mem_append.mp h1 with z1 | z1 <;> rcases List.mem_append.mp h2 with z2 | z2
    · exact h.asym a b z1 z2
    · obtain ⟨o1, o2⟩ := old a b z1
      rcases nw _ z2 with e | e
      · rw [Prod.mk.injEq] at e; exact o2 ⟨e.2, e.1⟩
      · rw [Prod.mk.injEq] at e; exact o1 ⟨e.2, e.1⟩
    · obtain ⟨o1, o2⟩ := old b a z2
      rcases nw _ z1 with e | e
      · rw [Prod.mk.injEq] at e; exact o2 ⟨e.2, e.1⟩
      · rw [Prod.mk.injEq] at e; exact o1 ⟨e.2, e.1⟩
    · rcases hw with rfl | rfl | rfl
      · cases z1
      · rw [List.mem_singleton, Prod.mk.injEq] at z1 z2; omega
      · rw [List.mem_singleton, Prod.mk.injEq] at z1 z2; omega
  · have : new.length ≤ 1 := by rcases hw with rfl | rfl | rfl <;> simp
    have := h.len
    rw [List.length_append]
    omega
  · rw [List.nodup_append]
    refine ⟨h.nd, by rcases hw with rfl | rfl | rfl <;> simp, fun q hq q2 hq2 e => ?_⟩
    subst e
    obtain ⟨o1, o2⟩ := old q.1 q.2 hq
    rcases nw q hq2 with e | e
    · rw [e] at o1; exact o1 ⟨rfl, rfl⟩
    · rw [e] at o2; exact o2 ⟨rfl, rfl⟩
theorem newP_alt (w x y : Nat) : newP w x y = [] ∨ newP w x y = [(x, y)] ∨ newP w x y = [(y, x)] := by
  unfold newP
  split
  · exact .inr (.inl rfl)
  · split
    · exact .inr (.inr rfl)
    · exact .inl rfl
theorem Drawn.next {x y : Nat} {fs : List (Nat × Nat)} (h : Drawn x y fs) (hy : y < x) (w : Nat) : Drawn x (y + 1) (fs ++ newP w x y) := h.more hy (newP_alt w x y)
theorem Drawn.row {x : Nat} {fs : List (Nat × Nat)} (h : Drawn x x fs) (hx : x ≤ 30) : Drawn (x + 1) 0 fs := by
  refine ⟨fun q hq => ?_, h.asym, by have := h.len; omega, h.nd⟩
  obtain ⟨h1, h2⟩ := h.at_ q hq
  exact ⟨h1, by omega⟩
theorem Drawn.good {n : Nat} {fs : List (Nat × Nat)} (h : Drawn n 0 fs) (hn : n ≤ 30) : Good ⟨n, fs⟩ :=
  good_of hn (fun q hq => by obtain ⟨h1, h2⟩ := h.at_ q hq; exact ⟨by omega, by omega, h1⟩) h.asym (by have := h.len; omega)
/-- [p] * int(way == 0) + [q] * int(way == 1) -/
theorem two_ways {S : List O} {w x y : Nat} {Post : D → List O → Prop} (q : Post (.p (.lst ((newP w x y).map prP))) S) :
    aRep (.p (.lst [.tup [.int (x : Nat), .int (y : Nat)]])) (.p (.int (if ((w : Nat) : Int) == 0 then 1 else 0))) S fun a S1 => aRep (.p (.lst [.tup [.int (y : Nat), .int (x : Nat)]])) (.p (.int (if ((w : Nat) : Int) == 1 then 1 else 0))) S1 fun b S2 => aAdd a b S2 Post := by
  have e : ∀ b : Bool, (if b = true then (1 : Int) else 0).toNat = if b = true then 1 else 0 := fun b => by cases b <;> rfl
  refine ⟨_, rfl, by split <;> decide, by split <;> decide, by rw [e]; exact small_sl (by split <;> simp), _, rfl, by split <;> decide, by split <;> decide, by rw [e]; exact small_sl (by split <;> simp), ?_⟩
  rw [e, e]
  unfold newP at q
  by_cases h0 : w = 0
  · subst h0
    exact ⟨small_sl (by simp), q⟩
  · rw [if_neg h0] at q
    have b0 : (((w : Nat) : Int) == 0) = false := by simp; omega
    rw [b0]
    by_cases h1 : w = 1
    · subst h1
      exact ⟨small_sl (by simp), q⟩
    · rw [if_neg h1] at q
      have b1 : (((w : Nat) : Int) == 1) = false := by simp; omega
      rw [b1]
      exact ⟨small_sl (by simp), q⟩
end
end Lw
namespace Lw
open PySem PySem.Spec PyProof.Rows L2 Am
section
variable {Pg : Program} {w : World} {K : PySem.W.Frag} {mg : Str → Option Value} {base : Heap}
/-! ### the order of rows -/
theorem rle_total (a b : List Nat) : (rle a b || rle b a) = true := (Bool.or_eq_true _ _).mpr <| (PySem.W.sortLe_total (PyProof.Rows.listOrd PyProof.Rows.itemOrd) false fun x : P => PySem.W.keyToks x.py).total (rowP a) (rowP b)
theorem rle_trans (a b c : List Nat) (h1 : rle a b = true) (h2 : rle b c = true) : rle a c = true := (PySem.W.sortLe_total (PyProof.Rows.listOrd PyProof.Rows.itemOrd) false fun x : P => PySem.W.keyToks x.py).trans (rowP a) (rowP b) (rowP c) h1 h2
theorem toks_inj : ∀ a b : List Nat, PySem.W.keyToksAll (a.map fun n => PyData.int (n : Nat)) = PySem.W.keyToksAll (b.map fun n => PyData.int (n : Nat)) → a = b
  | [], [], _ => rfl
  | [], y :: b, h => by simp [PySem.W.keyToksAll] at h
  | x :: a, [], h => by simp [PySem.W.keyToksAll] at h
  | x :: a, y :: b, h => by
    rw [List.map_cons, List.map_cons, PySem.W.keyToksAll, PySem.W.keyToksAll, PySem.W.keyToks, PySem.W.keyToks] at h
    simp only [List.cons.injEq, List.cons_append, List.nil_append, Sum.inl.injEq, true_and] at h
    obtain ⟨h1, h2⟩ := h
    have : x = y := by omega
    rw [this, toks_inj a b h2]
theorem rle_antisymm {a b : List Nat} (h1 : rle a b = true) (h2 : rle b a = true) : a = b := by
  have k1 : PyProof.Rows.lexLt PyProof.Rows.itemOrd (PySem.W.keyToks (rowP b).py) (PySem.W.keyToks (rowP a).py) = false := by
    have : (!PyProof.Rows.lexLt PyProof.Rows.itemOrd (PySem.W.keyToks (rowP b).py) (PySem.W.keyToks (rowP a).py)) = true := h1
    simpa using this
  have k2 : PyProof.Rows.lexLt PyProof.Rows.itemOrd (PySem.W.keyToks (rowP a).py) (PySem.W.keyToks (rowP b).py) = false := by
    have : (!PyProof.Rows.lexLt PyProof.Rows.itemOrd (PySem.W.keyToks (rowP a).py) (PySem.W.keyToks (rowP b).py)) = true := h2
    simpa using this
  have e := (PyProof.Rows.listOrd PyProof.Rows.itemOrd).total _ _ k1 k2
  rw [row_py, row_py, PySem.W.keyToks, PySem.W.keyToks] at e
  exact (toks_inj b a e).symm
theorem sort_one {xs ys : List (List Nat)} (hx : xs.Nodup) (hy : ys.Nodup) (h : ∀ r, r ∈ xs ↔ r ∈ ys) : xs.mergeSort rle = ys.mergeSort rle := by
  have hp : (xs.mergeSort rle).Perm (ys.mergeSort rle) := ((List.mergeSort_perm xs rle).trans ((List.perm_ext_iff_of_nodup hx hy).mpr h)).trans (List.mergeSort_perm ys rle).symm
  exact hp.eq_of_pairwise (fun a b _ _ h1 h2 => rle_antisymm h1 h2) (List.pairwise_mergeSort rle_trans rle_total xs) (List.pairwise_mergeSort rle_trans rle_total ys)
theorem sort_nodup {xs : List (List Nat)} (hx : xs.Nodup) : (xs.mergeSort rle).Nodup := (List.mergeSort_perm xs rle).nodup_iff.mpr hx
/-! ### rising pairs -/
theorem ple_rle (a b : Nat × Nat) : ple a b = rle [a.1, a.2] [b.1, b.2] := rfl
theorem ple_lt {a b : Nat × Nat} (h : ple a b = true) (hn : a ≠ b) : ltA a b := by
  refine Classical.byContradiction fun q => ?_
  have hba : ple b a = true := by
    rw [ple_rle]
    unfold ltA at q
    unfold rle PySem.W.dataLe PySem.W.sortLe
    simp [row_py, PySem.W.keyToks, PySem.W.keyToksAll, PyProof.Rows.lexLt, PyProof.Rows.itemLt]
    omega
  have := rle_antisymm (show rle [a.1, a.2] [b.1, b.2] = true from h) (show rle [b.1, b.2] [a.1, a.2] = true from hba)
  obtain ⟨a1, a2⟩ := a
  obtain ⟨b1, b2⟩ := b
  exact hn (by simpa using this)
theorem sortP_rise {fs : List (Nat × Nat)} (h : fs.Nodup) : (sortP fs).Pairwise ltA := by
  have h1 : (sortP fs).Pairwise fun a b => ple a b = true := List.pairwise_mergeSort (fun a b c h1 h2 => rle_trans [a.1, a.2] [b.1, b.2] [c.1, c.2] h1 h2) (fun a b => rle_total [a.1, a.2] [b.1, b.2]) fs
  have h2 : (sortP fs).Nodup := (List.mergeSort_perm fs ple).nodup_iff.mpr h
  exact (h1.and h2).imp fun {a b} z => ple_lt z.1 z.2
theorem rise_nodup {fs : List (Nat × Nat)} (h : fs.Pairwise ltA) : fs.Nodup := h.imp fun {a b} z e => by
  subst e
  unfold ltA at z
  omega
end
end Lw
namespace Lw
open PySem PySem.Spec PyProof.Rows L2 Am
section
variable {Pg : Program} {w : World} {K : PySem.W.Frag} {mg : Str → Option Value} {base : Heap}
/-! ### the pot -/
/-- digits left, a number, at most c turns -/
def PotO (o : O) (c : Nat) : Prop := ∃ (a s : Int) (t : Nat), o = .lst [.p (.int a), .p (.int s), .p (.int (t : Nat))] ∧ 0 ≤ a ∧ a < 10 ^ 300 ∧ 0 ≤ s ∧ s < 2 ^ 62 ∧ t ≤ c
theorem PotO.bel {o : O} {c : Nat} (h : PotO o c) (n : Nat) : o.bel n := by
  obtain ⟨a, s, t, rfl, _⟩ := h
  intro x hx
  have hx : x = .p (.int a) ∨ x = .p (.int s) ∨ x = .p (.int (t : Nat)) := by simpa using hx
  rcases hx with rfl | rfl | rfl <;> trivial
theorem PotO.le {o : O} {c d : Nat} (h : PotO o c) (hd : c ≤ d) : PotO o d := by
  obtain ⟨a, s, t, e, h1, h2, h3, h4, h5⟩ := h
  exact ⟨a, s, t, e, h1, h2, h3, h4, by omega⟩
theorem pow300 : (10 : Int) ^ 300 < 2 ^ 1000 := by decide +kernel
theorem powW1 : CPowW 10 60 := ⟨by decide, by decide +kernel⟩
theorem powW2 : CPowW ((10 : Int) ^ (60 : Int).toNat) 5 := ⟨by decide, by decide +kernel⟩
theorem powW3 : CPowW 10 18 := ⟨by decide, by decide +kernel⟩
theorem pow_eq : ((10 : Int) ^ (60 : Int).toNat) ^ (5 : Int).toNat = 10 ^ 300 := by decide +kernel
theorem pow18_eq : (10 : Int) ^ (18 : Int).toNat = 1000000000000000000 := by decide +kernel
theorem pow300_pos : (0 : Int) < 10 ^ 300 := by decide +kernel
theorem p1000 : (2 : Int) ^ 1000 = ((2 ^ 1000 : Nat) : Int) := by decide +kernel
theorem n1000 : (2 : Nat) ^ 1000 ≤ 2 ^ 2000 := Nat.pow_le_pow_right (by decide) (by decide)
theorem big_ok {x : Int} (h0 : 0 ≤ x) (h : x < 10 ^ 300) : x.natAbs < 2 ^ 2000 := by
  refine Nat.lt_of_lt_of_le ?_ n1000
  have h1 := Int.lt_trans h pow300
  rw [p1000] at h1
  generalize (2 : Nat) ^ 1000 = q at h1 ⊢
  omega
def F_law_pot : FT := fun as S Post => ∃ (ns : List Int) (i : Nat), as = [.p (.fz (ns.map .int)), .p (.int (i : Nat))] ∧ i < 1000 ∧ ∀ o, PotO o 0 → Post (.own S.length) (S ++ [o])
theorem len_law_pot : ∀ as S Post, F_law_pot as S Post → as.length = ["_law_script", "_law_k"].length := by
  rintro _ S Post ⟨_, n, rfl, _⟩; rfl
theorem pot_ok {x y : Int} {b : Prop} [Decidable b] : PotO (.lst [.p (.int ((x.natAbs : Nat) % (10 ^ 300) * (if b then 1 else 0))), .p (.int (y % 2305843009213693921)), .p (.int 0)]) 0 := by
  have h1 := Int.emod_nonneg (x.natAbs : Int) (Int.ne_of_gt pow300_pos)
  have h2 := Int.emod_lt_of_pos (x.natAbs : Int) pow300_pos
  have h3 := Int.emod_nonneg y (b := 2305843009213693921) (by decide)
  have h4 := Int.emod_lt_of_pos y (b := 2305843009213693921) (by decide)
  refine ⟨_, _, 0, rfl, ?_, ?_, by omega, by omega, Nat.le_refl _⟩
  · split
    · rw [Int.mul_one]; exact h1
    · rw [Int.mul_zero]; exact Int.le_refl _
  · split
    · rw [Int.mul_one]; exact h2
    · rw [Int.mul_zero]; exact pow300_pos
theorem cl_law_pot (p : Pre K mg "_law_pot" st_law_pot) (z_abs : mg "abs" = none) (z_int : mg "int" = none) (z_len : mg "len" = none) : Cl Pg w K mg base 1 "_law_pot" st_law_pot ["_law_script", "_law_k"] F_law_pot := by
  refine p.cl (fun _ _ _ _ _ _ us hl => match us, hl with | [_, _], _ => rfl) fun f fd F => ?_
  refine fun_ok F sc_law_pot len_law_pot (fun cdv A outer s H E gd hr => have hu := hu65 hr; (jb_cons (js_set 2 sc_law_pot.nd (je_if (jt_lt (je_var 1) (je_len (by rfl) z_len (je_var 0))) (je_ix (je_var 0) (je_var 1) (fun _ _ => rfl)) je_int))
    (jb_cons (js_set 3 sc_law_pot.nd (je_mul (je_mod (je_abs (by rfl) z_abs (je_var 2)) (je_pow (je_pow je_int je_int) je_int)) (je_intC (by rfl) z_int (je_ge (je_abs (by rfl) z_abs (je_var 2)) (je_pow je_int je_int)))))
    (jb_one (js_ret (je_lstO (ja_cons (je_var 3) (ja_cons (je_mod (je_mul (je_add (je_add (je_mod (je_var 2) je_int) (je_mul (je_mul je_int (je_var 1)) (je_var 1))) je_int) je_int) je_int) (ja_cons je_int ja_nil))))))))) ?_
  rintro as S Post hB ⟨ns, i, rfl, hi, h⟩
  refine seq_then (fun L' S' => S' = S ∧ ∃ x : Int, L' = [some (.p (.fz (ns.map .int))), some (.p (.int (i : Nat))), some (.p (.int x)), none]) (fun L' S' ⟨e1, x, e2⟩ => ?_) (fun N hN => ?_)
  · subst e1 e2
    refine sq ?_
    simp only [↓sNext, ↓sBreak, ↓sCont, ↓sDrop, ↓sRet, ↓sRetN, ↓sIf, ↓sAsg, ↓agName, ↓agNil, ↓agCons, ↓agTup, ↓sPar, ↓sFor, ↓aV, ↓lk, ↓aC, ↓aOp, ↓aUn, ↓aCall, ↓aNil, ↓aCons, ↓aIf, ↓aTest, ↓aAnd, ↓aOr, ↓aNot, ↓aAndV, ↓aOrV, ↓aNotV, ↓aI, ↓aI0, ↓aAdd, ↓aNeg, ↓aIsN, ↓isNone, ↓aTup, ↓purs, ↓aLst, ↓aLstO, ↓aIx, ↓gi0, ↓gi1, ↓gi2, ↓giN, ↓a1, ↓aLen, ↓aAbs, ↓aInt, ↓aStr, ↓aIsi, ↓btOf, ↓BT.isB, ↓aYes, ↓aiSeq, wipeL, ↓startL, List.map, List.set, List.replicate, List.length, List.append, List.cons_append, List.nil_append, ↓aMt, ↓isLs, ↓aLc, ↓aLcO, Bool.false_bne, Bool.true_bne, Bool.xor_false, Bool.false_xor, Bool.true_xor, Bool.not_true, Bool.not_false, decide_eq_true_eq, if_true, if_false, ite_true, ite_false, reduceIte, Bool.false_eq_true, List.getElem?_cons_zero, List.getElem?_cons_succ, ↓aLt, ↓aLe, ↓aGt, ↓aGe, ↓aSub, ↓aMul, ↓aDiv, ↓aMod, ↓aPow, true_and, and_true, pow_eq, pow18_eq]
    have h1 := Int.emod_nonneg (x.natAbs : Int) (Int.ne_of_gt pow300_pos)
    have h2 := Int.emod_lt_of_pos (x.natAbs : Int) pow300_pos
    refine ⟨powW1, powW2, pow300_pos, powW3, cmul_ok (big_ok h1 h2) ?_, ?_⟩
    · split
      · exact Nat.lt_of_lt_of_le (by decide) p64
      · exact Nat.lt_of_lt_of_le (by decide) p64
    have h3 := Int.emod_nonneg x (b := 2305843009213693951) (by decide)
    have h4 := Int.emod_lt_of_pos x (b := 2305843009213693951) (by decide)
    have hii : ((i : Nat) : Int) * (i : Nat) ≤ 1000000 := by
      have : i * i ≤ 1000 * 1000 := Nat.mul_le_mul (by omega) (by omega)
      have e : ((i : Nat) : Int) * (i : Nat) = ((i * i : Nat) : Int) := by simp
      rw [e]; omega
    have hi0 : 0 ≤ ((i : Nat) : Int) * (i : Nat) := Int.mul_nonneg (by omega) (by omega)
    have hmm : 104729 * ((i : Nat) : Int) * (i : Nat) = 104729 * (((i : Nat) : Int) * (i : Nat)) := by rw [Int.mul_assoc]
    refine ⟨by decide, cmul64 (by decide) (by omega), cmul64 (by omega) (by omega), cmul64 (by rw [hmm]; omega) (by decide), by decide, .inl (h _ pot_ok)⟩
  · simp only [↓sNext, ↓sBreak, ↓sCont, ↓sDrop, ↓sRet, ↓sRetN, ↓sIf, ↓sAsg, ↓agName, ↓agNil, ↓agCons, ↓agTup, ↓sPar, ↓sFor, ↓aV, ↓lk, ↓aC, ↓aOp, ↓aUn, ↓aCall, ↓aNil, ↓aCons, ↓aIf, ↓aTest, ↓aAnd, ↓aOr, ↓aNot, ↓aAndV, ↓aOrV, ↓aNotV, ↓aI, ↓aI0, ↓aAdd, ↓aNeg, ↓aIsN, ↓isNone, ↓aTup, ↓purs, ↓aLst, ↓aLstO, ↓aIx, ↓gi0, ↓gi1, ↓gi2, ↓giN, ↓a1, ↓aLen, ↓aAbs, ↓aInt, ↓aStr, ↓aIsi, ↓btOf, ↓BT.isB, ↓aYes, ↓aiSeq, wipeL, ↓startL, List.map, List.set, List.replicate, List.length, List.append, List.cons_append, List.nil_append, ↓aMt, ↓isLs, ↓aLc, ↓aLcO, Bool.false_bne, Bool.true_bne, Bool.xor_false, Bool.false_xor, Bool.true_xor, Bool.not_true, Bool.not_false, decide_eq_true_eq, if_true, if_false, ite_true, ite_false, reduceIte, Bool.false_eq_true, List.getElem?_cons_zero, List.getElem?_cons_succ, ↓aLt, ↓aLe, ↓aGt, ↓aGe, ↓aSub, ↓aMul, ↓aDiv, ↓aMod, ↓aPow, true_and, and_true]
    by_cases hl : i < ns.length
    · have e1 : ((i : Nat) : Int) < (ns.map P.int).length := by rw [List.length_map]; omega
      simp only [if_pos e1, List.getElem?_map, List.getElem?_eq_getElem hl, Option.map_some]
      exact hN _ _ ⟨rfl, _, rfl⟩
    · have e1 : ¬ ((i : Nat) : Int) < (ns.map P.int).length := by rw [List.length_map]; omega
      simp only [if_neg e1]
      exact hN _ _ ⟨rfl, _, rfl⟩
def F_law_take : FT := fun as S Post => ∃ (n up c : Nat) (o : O), as = [.own n, .p (.int (up : Nat))] ∧ S[n]? = some o ∧ PotO o c ∧ c ≤ 1000000 ∧ 1 ≤ up ∧ up ≤ 1000000000 ∧ ∀ (v : Nat) (o' : O), v < up → PotO o' (c + 1) → Post (.p (.int (v : Nat))) (S.set n o')
theorem len_law_take : ∀ as S Post, F_law_take as S Post → as.length = ["_law_pot_here", "_law_size"].length := by
  rintro _ S Post ⟨_, _, _, _, rfl, _⟩; rfl
def primes : List P := [.int 2305843009213693951, .int 2305843009213693921, .int 2305843009213693907, .int 67280421310721]
theorem prime_at {i : Int} (h0 : 0 ≤ i) (h8 : i < 4) : ∃ q : Int, gi primes i = some (.int q) ∧ 67280421310720 < q ∧ q < 2305843009213693952 := by
  have : i = 0 ∨ i = 1 ∨ i = 2 ∨ i = 3 := by omega
  rcases this with rfl | rfl | rfl | rfl <;> exact ⟨_, rfl, by decide, by decide⟩
theorem nat_cast {v : Int} {up : Nat} (h0 : 0 ≤ v) (h : v < (up : Int)) : ∃ k : Nat, v = (k : Nat) ∧ k < up := ⟨v.toNat, (Int.toNat_of_nonneg h0).symm, by omega⟩
theorem cl_law_take (p : Pre K mg "_law_take" st_law_take) : Cl Pg w K mg base 1 "_law_take" st_law_take ["_law_pot_here", "_law_size"] F_law_take := by
  refine p.cl (fun _ _ _ _ _ _ us hl => match us, hl with | [_, _], _ => rfl) fun f fd F => ?_
  refine fun_ok F sc_law_take len_law_take (fun cdv A outer s H E gd hr => have hu := hu65 hr; (jb_cons (js_if (jt_gt (je_ix (je_var 0) je_int (fun _ _ => rfl)) je_int) (jb_cons (js_set 2 sc_law_take.nd (je_mod (je_ix (je_var 0) je_int (fun _ _ => rfl)) (je_var 1)))
    (jb_cons (js_asg (je_div (je_ix (je_var 0) je_int (fun _ _ => rfl)) (je_var 1)) (jg_sub (je_var 0) je_int))
    (jb_one (js_ret (je_var 2))))) jb_nil)
    (jb_cons (js_set 3 sc_law_take.nd (je_add (je_ix (je_var 0) je_int (fun _ _ => rfl)) je_int))
    (jb_cons (js_asg (je_var 3) (jg_sub (je_var 0) je_int))
    (jb_cons (js_set 4 sc_law_take.nd (je_ix (je_lst (ja_cons je_int (ja_cons je_int (ja_cons je_int (ja_cons je_int ja_nil))))) (je_mod (je_var 3) je_int) (fun _ _ => rfl)))
    (jb_cons (js_set 5 sc_law_take.nd (je_mod (je_pow (je_add (je_add (je_ix (je_var 0) je_int (fun _ _ => rfl)) (je_mul (je_mul je_int (je_var 3)) (je_var 3))) (je_mul je_int (je_var 3))) je_int) (je_var 4)))
    (jb_one (js_ret (je_mod (je_div (je_mod (je_mul (je_var 5) (je_add (je_mod (je_var 5) je_int) (je_mul je_int (je_var 3)))) je_int) je_int) (je_var 1)))))))))) ?_
  rintro as S Post hB ⟨n, up, c, o, rfl, hS, ⟨a, s, t, rfl, ha0, ha1, hs0, hs1, ht⟩, hc, hu1, hu2, h⟩
  have hn : n < S.length := (List.getElem?_eq_some_iff.mp hS).1
  have hset : ∀ o, (S.set n o)[n]? = some o := fun o => List.getElem?_set_self hn
  have hup : (0 : Int) < (up : Nat) := by omega
  simp only [↓sNext, ↓sSeq_run, ↓sBreak, ↓sCont, ↓sDrop, ↓sRet, ↓sRetN, ↓sIf, ↓sAsg, ↓agName, ↓agNil, ↓agCons, ↓agTup, ↓sPar, ↓sFor, ↓aV, ↓lk, ↓aC, ↓aOp, ↓aUn, ↓aCall, ↓aNil, ↓aCons, ↓aIf, ↓aTest, ↓aAnd, ↓aOr, ↓aNot, ↓aAndV, ↓aOrV, ↓aNotV, ↓aI, ↓aI0, ↓aAdd, ↓aNeg, ↓aIsN, ↓isNone, ↓aTup, ↓purs, ↓aLst, ↓aLstO, ↓aIx, ↓gi0, ↓gi1, ↓gi2, ↓giN, ↓a1, ↓aLen, ↓aAbs, ↓aInt, ↓aStr, ↓aIsi, ↓btOf, ↓BT.isB, ↓aYes, ↓aiSeq, wipeL, ↓startL, List.map, List.set, List.replicate, List.length, List.append, List.cons_append, List.nil_append, ↓aMt, ↓isLs, ↓aLc, ↓aLcO, Bool.false_bne, Bool.true_bne, Bool.xor_false, Bool.false_xor, Bool.true_xor, Bool.not_true, Bool.not_false, decide_eq_true_eq, if_true, if_false, ite_true, ite_false, reduceIte, Bool.false_eq_true, List.getElem?_cons_zero, List.getElem?_cons_succ, ↓aLt, ↓aLe, ↓aGt, ↓aGe, ↓aSub, ↓aMul, ↓aDiv, ↓aMod, ↓aPow, true_and, and_true, agSub, hS, hset, ix30, ix32, List.set_set]
  by_cases hg : 0 < a
  · simp only [if_pos hg]
    refine ⟨hup, cdiv64 hup (by omega), ?_⟩
    obtain ⟨k, e, hk⟩ := nat_cast (Int.emod_nonneg a (Int.ne_of_gt hup)) (Int.emod_lt_of_pos a hup)
    rw [e]
    refine .inl (h k _ hk ⟨_, s, t, rfl, Int.ediv_nonneg ha0 (Int.le_of_lt hup), ?_, hs0, hs1, by omega⟩)
    exact Int.lt_of_le_of_lt (Int.ediv_le_self _ ha0) ha1
  · simp only [if_neg hg]
    obtain ⟨q, e1, hq1, hq2⟩ := prime_at (i := (((t : Nat) : Int) + 1) % 4) (by omega) (by omega)
    have hx : ∀ x : Int, 0 ≤ x % q ∧ x % q < q := fun x => ⟨Int.emod_nonneg x (by omega), Int.emod_lt_of_pos x (by omega)⟩
    unfold primes at e1
    generalize hT : (((t : Nat) : Int) + 1) = T at e1 ⊢
    have hT0 : 0 ≤ T := by omega
    have hT1 : T ≤ 1000001 := by omega
    have hTT0 : 0 ≤ T * T := Int.mul_nonneg hT0 hT0
    have hTT1 : T * T ≤ 1000001 * 1000001 := Int.mul_le_mul hT1 hT1 hT0 (by decide)
    have hmm : 7919 * T * T = 7919 * (T * T) := by rw [Int.mul_assoc]
    generalize hB0 : s + 7919 * T * T + 65537 * T = b
    have hb0 : 0 ≤ b := by rw [← hB0, hmm]; omega
    have hb1 : b < 2 ^ 63 := by rw [← hB0, hmm]; omega
    obtain ⟨d0, d1⟩ := hx (b ^ (3 : Int).toNat)
    generalize hd : b ^ (3 : Int).toNat % q = d at d0 d1
    simp only [↓sNext, ↓sSeq_run, ↓sBreak, ↓sCont, ↓sDrop, ↓sRet, ↓sRetN, ↓sIf, ↓sAsg, ↓agName, ↓agNil, ↓agCons, ↓agTup, ↓sPar, ↓sFor, ↓aV, ↓lk, ↓aC, ↓aOp, ↓aUn, ↓aCall, ↓aNil, ↓aCons, ↓aIf, ↓aTest, ↓aAnd, ↓aOr, ↓aNot, ↓aAndV, ↓aOrV, ↓aNotV, ↓aI, ↓aI0, ↓aAdd, ↓aNeg, ↓aIsN, ↓isNone, ↓aTup, ↓purs, ↓aLst, ↓aLstO, ↓aIx, ↓gi0, ↓gi1, ↓gi2, ↓giN, ↓a1, ↓aLen, ↓aAbs, ↓aInt, ↓aStr, ↓aIsi, ↓btOf, ↓BT.isB, ↓aYes, ↓aiSeq, wipeL, ↓startL, List.map, List.set, List.replicate, List.length, List.append, List.cons_append, List.nil_append, ↓aMt, ↓isLs, ↓aLc, ↓aLcO, Bool.false_bne, Bool.true_bne, Bool.xor_false, Bool.false_xor, Bool.true_xor, Bool.not_true, Bool.not_false, decide_eq_true_eq, if_true, if_false, ite_true, ite_false, reduceIte, Bool.false_eq_true, List.getElem?_cons_zero, List.getElem?_cons_succ, ↓aLt, ↓aLe, ↓aGt, ↓aGe, ↓aSub, ↓aMul, ↓aDiv, ↓aMod, ↓aPow, true_and, and_true, e1, hB0, hd]
    have m1 : 0 ≤ d % 10007 := Int.emod_nonneg _ (by decide)
    have m2 : d % 10007 < 10007 := Int.emod_lt_of_pos _ (by decide)
    obtain ⟨k, e, hk⟩ := nat_cast (Int.emod_nonneg (d * (d % 10007 + 97 * T) % 2305843009213693669 / 4099) (Int.ne_of_gt hup)) (Int.emod_lt_of_pos (d * (d % 10007 + 97 * T) % 2305843009213693669 / 4099) hup)
    rw [e]
    refine ⟨by decide, cmul64 (by decide) (by omega), cmul64 (by omega) (by omega), cmul64 (by decide) (by omega), ⟨by decide, ?_⟩, by omega, by decide, cmul64 (by decide) (by omega), cmul64 (by omega) (by omega), by decide, cdiv64 (by decide) (by decide), hup, .inl (h k _ hk ⟨a, s, t + 1, ?_, ha0, ha1, hs0, hs1, by omega⟩)⟩
    · have hb : Builtin.Int.intBits b ≤ 64 := by
        unfold Builtin.Int.intBits
        split
        · decide
        · have := log2_lt_of (n := b.natAbs) (k := 63) (by omega) (by decide)
          omega
      omega
    · rw [← hT]
      simp
def F_law_of : FT := fun as S Post => ∃ (n : Nat) (xs : List P) (c : Nat) (o : O), (as = [.own n, .p (.lst xs)] ∨ ∃ k, k ≠ n ∧ as = [.own n, .own k] ∧ S[k]? = some (.lst (xs.map .p))) ∧ S[n]? = some o ∧ PotO o c ∧ c ≤ 1000000 ∧ xs ≠ [] ∧ xs.length ≤ 1000 ∧ ∀ (x : P) (o' : O), x ∈ xs → PotO o' (c + 1) → Post (.p x) (S.set n o')
theorem len_law_of : ∀ as S Post, F_law_of as S Post → as.length = ["_law_pot_here", "_law_some"].length := by
  rintro _ S Post ⟨_, _, _, _, h, _⟩
  rcases h with rfl | ⟨_, _, rfl, _⟩ <;> rfl
theorem cl_law_of (p : Pre K mg "_law_of" st_law_of) (z_len : mg "len" = none) (c_law_take : Cl Pg w K mg base 1 "_law_take" st_law_take ["_law_pot_here", "_law_size"] F_law_take) : Cl Pg w K mg base 2 "_law_of" st_law_of ["_law_pot_here", "_law_some"] F_law_of := by
  refine p.cl (fun _ _ _ _ _ _ us hl => match us, hl with | [_, _], _ => rfl) fun f fd F => ?_
  refine fun_ok F sc_law_of len_law_of (fun cdv A outer s H E gd hr => have hu := hu65 hr; (jb_one (js_ret (je_ix (je_var 1) (je_own c_law_take gd hr (ja_cons (je_var 0) (ja_cons (je_len (by rfl) z_len (je_var 1)) ja_nil))) (fun _ _ => rfl))))) ?_
  rintro as S Post hB ⟨n, xs, c, o, has, hS, hp, hc, hx, hl, h⟩
  have h1 : 1 ≤ xs.length := by cases xs with | nil => exact absurd rfl hx | cons _ _ => simp
  rcases has with rfl | ⟨k, hk, rfl, hSk⟩
  · simp only [↓sNext, ↓sSeq_run, ↓sBreak, ↓sCont, ↓sDrop, ↓sRet, ↓sRetN, ↓sIf, ↓sAsg, ↓agName, ↓agNil, ↓agCons, ↓agTup, ↓sPar, ↓sFor, ↓aV, ↓lk, ↓aC, ↓aOp, ↓aUn, ↓aCall, ↓aNil, ↓aCons, ↓aIf, ↓aTest, ↓aAnd, ↓aOr, ↓aNot, ↓aAndV, ↓aOrV, ↓aNotV, ↓aI, ↓aI0, ↓aAdd, ↓aNeg, ↓aIsN, ↓isNone, ↓aTup, ↓purs, ↓aLst, ↓aLstO, ↓aIx, ↓gi0, ↓gi1, ↓gi2, ↓giN, ↓a1, ↓aLen, ↓aAbs, ↓aInt, ↓aStr, ↓aIsi, ↓btOf, ↓BT.isB, ↓aYes, ↓aiSeq, wipeL, ↓startL, List.map, List.set, List.replicate, List.length, List.append, List.cons_append, List.nil_append, ↓aMt, ↓isLs, ↓aLc, ↓aLcO, Bool.false_bne, Bool.true_bne, Bool.xor_false, Bool.false_xor, Bool.true_xor, Bool.not_true, Bool.not_false, decide_eq_true_eq, if_true, if_false, ite_true, ite_false, reduceIte, Bool.false_eq_true, List.getElem?_cons_zero, List.getElem?_cons_succ, ↓aLt, ↓aLe, ↓aGt, ↓aGe, ↓aSub, ↓aMul, ↓aDiv, ↓aMod, ↓aPow, true_and, and_true]
    refine ⟨n, xs.length, c, o, rfl, hS, hp, hc, by omega, by omega, fun v o' hv hp' => ?_⟩
    simp only [giN, List.getElem?_eq_getElem hv]
    exact .inl (h _ o' (List.getElem_mem hv) hp')
  · simp only [↓sNext, ↓sSeq_run, ↓sBreak, ↓sCont, ↓sDrop, ↓sRet, ↓sRetN, ↓sIf, ↓sAsg, ↓agName, ↓agNil, ↓agCons, ↓agTup, ↓sPar, ↓sFor, ↓aV, ↓lk, ↓aC, ↓aOp, ↓aUn, ↓aCall, ↓aNil, ↓aCons, ↓aIf, ↓aTest, ↓aAnd, ↓aOr, ↓aNot, ↓aAndV, ↓aOrV, ↓aNotV, ↓aI, ↓aI0, ↓aAdd, ↓aNeg, ↓aIsN, ↓isNone, ↓aTup, ↓purs, ↓aLst, ↓aLstO, ↓aIx, ↓gi0, ↓gi1, ↓gi2, ↓giN, ↓a1, ↓aLen, ↓aAbs, ↓aInt, ↓aStr, ↓aIsi, ↓btOf, ↓BT.isB, ↓aYes, ↓aiSeq, wipeL, ↓startL, List.map, List.set, List.replicate, List.length, List.append, List.cons_append, List.nil_append, ↓aMt, ↓isLs, ↓aLc, ↓aLcO, Bool.false_bne, Bool.true_bne, Bool.xor_false, Bool.false_xor, Bool.true_xor, Bool.not_true, Bool.not_false, decide_eq_true_eq, if_true, if_false, ite_true, ite_false, reduceIte, Bool.false_eq_true, List.getElem?_cons_zero, List.getElem?_cons_succ, ↓aLt, ↓aLe, ↓aGt, ↓aGe, ↓aSub, ↓aMul, ↓aDiv, ↓aMod, ↓aPow, true_and, and_true, hSk]
    refine ⟨n, xs.length, c, o, by rw [List.length_map], hS, hp, hc, by omega, by omega, fun v o' hv hp' => ?_⟩
    have e : (S.set n o')[k]? = some (.lst (xs.map .p)) := by rw [List.getElem?_set_ne (Ne.symm hk)]; exact hSk
    simp only [e, giN, List.getElem?_map, List.getElem?_eq_getElem hv, Option.map_some]
    exact .inl (h _ o' (List.getElem_mem hv) hp')
end
end Lw
namespace Lw
open PySem PySem.Spec PyProof.Rows L2 Am
section
variable {Pg : Program} {w : World} {K : PySem.W.Frag} {mg : Str → Option Value} {base : Heap}
def F_law_drawn : FT := fun as S Post => ∃ (n most c : Nat) (o : O), as = [.own n, .p (.int (most : Nat))] ∧ S[n]? = some o ∧ PotO o c ∧ c ≤ 900000 ∧ most ≤ 29 ∧ ∀ (l : Lot) (o' : O), Good l → l.m ≤ most → l.ps.Pairwise ltA → PotO o' (c + 1000) → Post (.p (lotP l)) (S.set n o')
theorem len_law_drawn : ∀ as S Post, F_law_drawn as S Post → as.length = ["_law_pot_here", "_law_most"].length := by
  rintro _ S Post ⟨_, _, _, _, rfl, _⟩; rfl
theorem cl_law_drawn (p : Pre K mg "_law_drawn" st_law_drawn) (z_int : mg "int" = none) (z_range : mg "range" = none) (z_sorted : mg "sorted" = none) (z_tuple : mg "tuple" = none) (c_law_take : Cl Pg w K mg base 1 "_law_take" st_law_take ["_law_pot_here", "_law_size"] F_law_take) : Cl Pg w K mg base 2 "_law_drawn" st_law_drawn ["_law_pot_here", "_law_most"] F_law_drawn := by
  refine p.cl (fun _ _ _ _ _ _ us hl => match us, hl with | [_, _], _ => rfl) fun f fd F => ?_
  refine fun_ok F sc_law_drawn len_law_drawn (fun cdv A outer s H E gd hr => have hu := hu65 hr; (jb_cons (js_par3 2 3 4 rfl sc_law_drawn.nd (ja_cons (je_own c_law_take gd hr (ja_cons (je_var 0) (ja_cons (je_add (je_var 1) je_int) ja_nil))) (ja_cons (je_add je_int (je_own c_law_take gd hr (ja_cons (je_var 0) (ja_cons je_int ja_nil)))) (ja_cons (je_lstO ja_nil) ja_nil))))
    (jb_cons (js_for PassesOwn.never rfl (ji_range1 (by rfl) z_range (ja_cons (je_var 2) ja_nil)) (jg_name 5 sc_law_drawn.nd) (jb_one (js_for PassesOwn.never rfl (ji_range1 (by rfl) z_range (ja_cons (je_var 5) ja_nil)) (jg_name 6 sc_law_drawn.nd) (jb_cons (js_set 7 sc_law_drawn.nd (je_own c_law_take gd hr (ja_cons (je_var 0) (ja_cons (je_var 3) ja_nil))))
    (jb_one (js_expr (je_mtL PySem.F.slot_list_extend PySem.F.type_list_extend mt_extend lift_extend (je_var 4) (ja_cons (je_add (je_rep (je_lst (ja_cons (je_tup (ja_cons (je_var 5) (ja_cons (je_var 6) ja_nil))) ja_nil)) (je_intC (by rfl) z_int (je_eq hr (je_var 7) je_int))) (je_rep (je_lst (ja_cons (je_tup (ja_cons (je_var 6) (ja_cons (je_var 5) ja_nil))) ja_nil)) (je_intC (by rfl) z_int (je_eq hr (je_var 7) je_int)))) ja_nil))))))))
    (jb_one (js_ret (je_tup (ja_cons (je_var 2) (ja_cons (je_tuple (by rfl) z_tuple (je_sortedX hu (by rfl) z_sorted (je_var 4))) ja_nil)))))))) ?_
  rintro as S Post hB ⟨n, most, c, o, rfl, hS, hp, hc, hm, h⟩
  have hn : n < S.length := (List.getElem?_eq_some_iff.mp hS).1
  have hset : ∀ o, (S.set n o)[n]? = some o := fun o => List.getElem?_set_self hn
  have hbel : ∀ {o : O} {c : Nat}, PotO o c → o.bel S.length := fun h => h.bel _
  refine sq ?_
  simp only [↓sNext, ↓sBreak, ↓sCont, ↓sDrop, ↓sRet, ↓sRetN, ↓sIf, ↓sAsg, ↓agName, ↓agNil, ↓agCons, ↓agTup, ↓sPar, ↓sFor, ↓aV, ↓lk, ↓aC, ↓aOp, ↓aUn, ↓aCall, ↓aNil, ↓aCons, ↓aIf, ↓aTest, ↓aAnd, ↓aOr, ↓aNot, ↓aAndV, ↓aOrV, ↓aNotV, ↓aI, ↓aI0, ↓aAdd, ↓aNeg, ↓aIsN, ↓isNone, ↓aTup, ↓purs, ↓aLst, ↓aLstO, ↓aIx, ↓gi0, ↓gi1, ↓gi2, ↓giN, ↓a1, ↓aLen, ↓aAbs, ↓aInt, ↓aStr, ↓aIsi, ↓btOf, ↓BT.isB, ↓aYes, ↓aiSeq, wipeL, ↓startL, List.map, List.set, List.replicate, List.length, List.append, List.cons_append, List.nil_append, ↓aMt, ↓isLs, ↓aLc, ↓aLcO, Bool.false_bne, Bool.true_bne, Bool.xor_false, Bool.false_xor, Bool.true_xor, Bool.not_true, Bool.not_false, decide_eq_true_eq, if_true, if_false, ite_true, ite_false, reduceIte, Bool.false_eq_true, List.getElem?_cons_zero, List.getElem?_cons_succ, ↓aLt, ↓aLe, ↓aGt, ↓aGe, ↓aSub, ↓aMul, ↓aDiv, ↓aMod, ↓aPow, true_and, and_true, sPar3]
  refine ⟨n, most + 1, c, o, by simp, hS, hp, by omega, by omega, by omega, fun size o1 hs1 hp1 => ?_⟩
  refine ⟨n, 3, c + 1, o1, by simp, hset _, hp1, by omega, by decide, by decide, fun share o2 hs2 hp2 => ?_⟩
  simp only [↓sNext, ↓sBreak, ↓sCont, ↓sDrop, ↓sRet, ↓sRetN, ↓sIf, ↓sAsg, ↓agName, ↓agNil, ↓agCons, ↓agTup, ↓sPar, ↓sFor, ↓aV, ↓lk, ↓aC, ↓aOp, ↓aUn, ↓aCall, ↓aNil, ↓aCons, ↓aIf, ↓aTest, ↓aAnd, ↓aOr, ↓aNot, ↓aAndV, ↓aOrV, ↓aNotV, ↓aI, ↓aI0, ↓aAdd, ↓aNeg, ↓aIsN, ↓isNone, ↓aTup, ↓purs, ↓aLst, ↓aLstO, ↓aIx, ↓gi0, ↓gi1, ↓gi2, ↓giN, ↓a1, ↓aLen, ↓aAbs, ↓aInt, ↓aStr, ↓aIsi, ↓btOf, ↓BT.isB, ↓aYes, ↓aiSeq, wipeL, ↓startL, List.map, List.set, List.replicate, List.length, List.append, List.cons_append, List.nil_append, ↓aMt, ↓isLs, ↓aLc, ↓aLcO, Bool.false_bne, Bool.true_bne, Bool.xor_false, Bool.false_xor, Bool.true_xor, Bool.not_true, Bool.not_false, decide_eq_true_eq, if_true, if_false, ite_true, ite_false, reduceIte, Bool.false_eq_true, List.getElem?_cons_zero, List.getElem?_cons_succ, ↓aLt, ↓aLe, ↓aGt, ↓aGe, ↓aSub, ↓aMul, ↓aDiv, ↓aMod, ↓aPow, true_and, and_true, List.set_set]
  rw [List.length_set, show (2 : Int) + (share : Nat) = ((2 + share : Nat) : Int) by omega]
  have at0 : ∀ (o : O) (xs : List O), (S.set n o ++ xs)[n]? = some o := fun o xs => by rw [List.getElem?_append_left (by rw [List.length_set]; exact hn), hset]
  have set0 : ∀ (o o' : O) (xs : List O), (S.set n o ++ xs).set n o' = S.set n o' ++ xs := fun o o' xs => by rw [List.set_append_left _ _ (by rw [List.length_set]; exact hn), List.set_set]
  have at1 : ∀ (o u : O), (S.set n o ++ [u])[S.length]? = some u := fun o u => by
    have := getE (S.set n o) u
    rw [List.length_set] at this
    exact this
  have set1 : ∀ (o u u' : O), (S.set n o ++ [u]).set S.length u' = S.set n o ++ [u'] := fun o u u' => by
    have := setE (S.set n o) u u'
    rw [List.length_set] at this
    exact this
  refine sq ?_
  simp only [↓sNext, ↓sBreak, ↓sCont, ↓sDrop, ↓sRet, ↓sRetN, ↓sIf, ↓sAsg, ↓agName, ↓agNil, ↓agCons, ↓agTup, ↓sPar, ↓sFor, ↓aV, ↓lk, ↓aC, ↓aOp, ↓aUn, ↓aCall, ↓aNil, ↓aCons, ↓aIf, ↓aTest, ↓aAnd, ↓aOr, ↓aNot, ↓aAndV, ↓aOrV, ↓aNotV, ↓aI, ↓aI0, ↓aAdd, ↓aNeg, ↓aIsN, ↓isNone, ↓aTup, ↓purs, ↓aLst, ↓aLstO, ↓aIx, ↓gi0, ↓gi1, ↓gi2, ↓giN, ↓a1, ↓aLen, ↓aAbs, ↓aInt, ↓aStr, ↓aIsi, ↓btOf, ↓BT.isB, ↓aYes, ↓aiSeq, wipeL, ↓startL, List.map, List.set, List.replicate, List.length, List.append, List.cons_append, List.nil_append, ↓aMt, ↓isLs, ↓aLc, ↓aLcO, Bool.false_bne, Bool.true_bne, Bool.xor_false, Bool.false_xor, Bool.true_xor, Bool.not_true, Bool.not_false, decide_eq_true_eq, if_true, if_false, ite_true, ite_false, reduceIte, Bool.false_eq_true, List.getElem?_cons_zero, List.getElem?_cons_succ, ↓aLt, ↓aLe, ↓aGt, ↓aGe, ↓aSub, ↓aMul, ↓aDiv, ↓aMod, ↓aPow, true_and, and_true, aiRng1]
  refine ⟨by omega, by omega, ?_⟩
  rw [show ((size : Nat) : Int).toNat = size from rfl]
  refine for_go (fun x L S' => ∃ (fs : List (Nat × Nat)) (o : O) (a5 a6 a7 : Option D), L = [some (.own n), some (.p (.int (most : Nat))), some (.p (.int (size : Nat))), some (.p (.int ((2 + share : Nat) : Int))), some (.own S.length), a5, a6, a7] ∧
    S' = S.set n o ++ [.lst ((fs.map prP).map .p)] ∧ PotO o (c + 2 + 30 * x) ∧ Drawn x 0 fs) (fun _ _ _ _ => trivial) (fun x y L S' N hx hI hN => ?_) (fun L S' hI => ?_) ⟨[], o2, _, _, _, rfl, rfl, hp2, .nil⟩
  · obtain ⟨fs, o, a5, a6, a7, rfl, rfl, hp, hd⟩ := hI
    obtain ⟨rfl, hxs⟩ := rng_at hx
    simp only [↓sNext, ↓sBreak, ↓sCont, ↓sDrop, ↓sRet, ↓sRetN, ↓sIf, ↓sAsg, ↓agName, ↓agNil, ↓agCons, ↓agTup, ↓sPar, ↓sFor, ↓aV, ↓lk, ↓aC, ↓aOp, ↓aUn, ↓aCall, ↓aNil, ↓aCons, ↓aIf, ↓aTest, ↓aAnd, ↓aOr, ↓aNot, ↓aAndV, ↓aOrV, ↓aNotV, ↓aI, ↓aI0, ↓aAdd, ↓aNeg, ↓aIsN, ↓isNone, ↓aTup, ↓purs, ↓aLst, ↓aLstO, ↓aIx, ↓gi0, ↓gi1, ↓gi2, ↓giN, ↓a1, ↓aLen, ↓aAbs, ↓aInt, ↓aStr, ↓aIsi, ↓btOf, ↓BT.isB, ↓aYes, ↓aiSeq, wipeL, ↓startL, List.map, List.set, List.replicate, List.length, List.append, List.cons_append, List.nil_append, ↓aMt, ↓isLs, ↓aLc, ↓aLcO, Bool.false_bne, Bool.true_bne, Bool.xor_false, Bool.false_xor, Bool.true_xor, Bool.not_true, Bool.not_false, decide_eq_true_eq, if_true, if_false, ite_true, ite_false, reduceIte, Bool.false_eq_true, List.getElem?_cons_zero, List.getElem?_cons_succ, ↓aLt, ↓aLe, ↓aGt, ↓aGe, ↓aSub, ↓aMul, ↓aDiv, ↓aMod, ↓aPow, true_and, and_true]
    refine ⟨by omega, by omega, ?_⟩
    rw [show ((x : Nat) : Int).toNat = x from rfl]
    refine for_go (fun y L S' => ∃ (fs : List (Nat × Nat)) (o : O) (a6 a7 : Option D), L = [some (.own n), some (.p (.int (most : Nat))), some (.p (.int (size : Nat))), some (.p (.int ((2 + share : Nat) : Int))), some (.own S.length), some (.p (.int (x : Nat))), a6, a7] ∧
      S' = S.set n o ++ [.lst ((fs.map prP).map .p)] ∧ PotO o (c + 2 + 30 * x + y) ∧ Drawn x y fs) (fun _ _ _ _ => trivial) (fun y z L S' N2 hy hI2 hN2 => ?_) (fun L S' hI2 => ?_) ⟨fs, o, _, _, rfl, rfl, hp, hd⟩
    · obtain ⟨fs, o, a6, a7, rfl, rfl, hp, hd⟩ := hI2
      obtain ⟨rfl, hyx⟩ := rng_at hy
      simp only [↓sNext, ↓sBreak, ↓sCont, ↓sDrop, ↓sRet, ↓sRetN, ↓sIf, ↓sAsg, ↓agName, ↓agNil, ↓agCons, ↓agTup, ↓sPar, ↓sFor, ↓aV, ↓lk, ↓aC, ↓aOp, ↓aUn, ↓aCall, ↓aNil, ↓aCons, ↓aIf, ↓aTest, ↓aAnd, ↓aOr, ↓aNot, ↓aAndV, ↓aOrV, ↓aNotV, ↓aI, ↓aI0, ↓aNeg, ↓aIsN, ↓isNone, ↓aTup, ↓purs, ↓aLst, ↓aLstO, ↓aIx, ↓gi0, ↓gi1, ↓gi2, ↓giN, ↓a1, ↓aLen, ↓aAbs, ↓aInt, ↓aStr, ↓aIsi, ↓btOf, ↓BT.isB, ↓aYes, ↓aiSeq, wipeL, ↓startL, List.map, List.set, List.replicate, List.length, List.append, List.cons_append, List.nil_append, ↓aMt, ↓isLs, ↓aLc, ↓aLcO, Bool.false_bne, Bool.true_bne, Bool.xor_false, Bool.false_xor, Bool.true_xor, Bool.not_true, Bool.not_false, decide_eq_true_eq, if_true, if_false, ite_true, ite_false, reduceIte, Bool.false_eq_true, List.getElem?_cons_zero, List.getElem?_cons_succ, ↓aLt, ↓aLe, ↓aGt, ↓aGe, ↓aSub, ↓aMul, ↓aDiv, ↓aMod, ↓aPow, true_and, and_true]
      refine sq ?_
      simp only [↓sNext, ↓sBreak, ↓sCont, ↓sDrop, ↓sRet, ↓sRetN, ↓sIf, ↓sAsg, ↓agName, ↓agNil, ↓agCons, ↓agTup, ↓sPar, ↓sFor, ↓aV, ↓lk, ↓aC, ↓aOp, ↓aUn, ↓aCall, ↓aNil, ↓aCons, ↓aIf, ↓aTest, ↓aAnd, ↓aOr, ↓aNot, ↓aAndV, ↓aOrV, ↓aNotV, ↓aI, ↓aI0, ↓aNeg, ↓aIsN, ↓isNone, ↓aTup, ↓purs, ↓aLst, ↓aLstO, ↓aIx, ↓gi0, ↓gi1, ↓gi2, ↓giN, ↓a1, ↓aLen, ↓aAbs, ↓aInt, ↓aStr, ↓aIsi, ↓btOf, ↓BT.isB, ↓aYes, ↓aiSeq, wipeL, ↓startL, List.map, List.set, List.replicate, List.length, List.append, List.cons_append, List.nil_append, ↓aMt, ↓isLs, ↓aLc, ↓aLcO, Bool.false_bne, Bool.true_bne, Bool.xor_false, Bool.false_xor, Bool.true_xor, Bool.not_true, Bool.not_false, decide_eq_true_eq, if_true, if_false, ite_true, ite_false, reduceIte, Bool.false_eq_true, List.getElem?_cons_zero, List.getElem?_cons_succ, ↓aLt, ↓aLe, ↓aGt, ↓aGe, ↓aSub, ↓aMul, ↓aDiv, ↓aMod, ↓aPow, true_and, and_true]
      refine ⟨n, 2 + share, _, o, rfl, at0 _ _, hp, by omega, by omega, by omega, fun w o' hw hp' => ?_⟩
      simp only [set0, at1, ↓sNext, ↓sBreak, ↓sCont, ↓sDrop, ↓sRet, ↓sRetN, ↓sIf, ↓sAsg, ↓agName, ↓agNil, ↓agCons, ↓agTup, ↓sPar, ↓sFor, ↓aV, ↓lk, ↓aC, ↓aOp, ↓aUn, ↓aCall, ↓aNil, ↓aCons, ↓aIf, ↓aTest, ↓aAnd, ↓aOr, ↓aNot, ↓aAndV, ↓aOrV, ↓aNotV, ↓aI, ↓aI0, ↓aNeg, ↓aIsN, ↓isNone, ↓aTup, ↓purs, ↓aLst, ↓aLstO, ↓aIx, ↓gi0, ↓gi1, ↓gi2, ↓giN, ↓a1, ↓aLen, ↓aAbs, ↓aInt, ↓aStr, ↓aIsi, ↓btOf, ↓BT.isB, ↓aYes, ↓aiSeq, wipeL, ↓startL, List.map, List.set, List.replicate, List.length, List.append, List.cons_append, List.nil_append, ↓aMt, ↓isLs, ↓aLc, ↓aLcO, Bool.false_bne, Bool.true_bne, Bool.xor_false, Bool.false_xor, Bool.true_xor, Bool.not_true, Bool.not_false, decide_eq_true_eq, if_true, if_false, ite_true, ite_false, reduceIte, Bool.false_eq_true, List.getElem?_cons_zero, List.getElem?_cons_succ, ↓aLt, ↓aLe, ↓aGt, ↓aGe, ↓aSub, ↓aMul, ↓aDiv, ↓aMod, ↓aPow, true_and, and_true, aEq]
      refine two_ways ?_
      simp only [aExtend, at1]
      refine ⟨?_, ?_⟩
      · have := (hd.next hyx w).len
        rw [List.length_append] at this
        rw [List.length_map, List.length_map, List.length_map]
        exact small_sl (by omega)
      · rw [set1, ← List.map_append, ← List.map_append]
        exact hN2 _ _ ⟨_, o', _, _, rfl, rfl, hp', hd.next hyx w⟩
    · obtain ⟨fs, o, a6, a7, rfl, rfl, hp, hd⟩ := hI2
      rw [List.length_map, List.length_range] at hp hd
      exact hN _ _ ⟨fs, o, _, _, _, rfl, rfl, hp.le (by omega), hd.row (by omega)⟩
  · obtain ⟨fs, o, a5, a6, a7, rfl, rfl, hp, hd⟩ := hI
    rw [List.length_map, List.length_range] at hp hd
    simp only [↓sNext, ↓sBreak, ↓sCont, ↓sDrop, ↓sRet, ↓sRetN, ↓sIf, ↓sAsg, ↓agName, ↓agNil, ↓agCons, ↓agTup, ↓sPar, ↓sFor, ↓aV, ↓lk, ↓aC, ↓aOp, ↓aUn, ↓aCall, ↓aNil, ↓aCons, ↓aIf, ↓aTest, ↓aAnd, ↓aOr, ↓aNot, ↓aAndV, ↓aOrV, ↓aNotV, ↓aI, ↓aI0, ↓aAdd, ↓aNeg, ↓aIsN, ↓isNone, ↓aTup, ↓purs, ↓aLst, ↓aLstO, ↓aIx, ↓gi0, ↓gi1, ↓gi2, ↓giN, ↓a1, ↓aLen, ↓aAbs, ↓aInt, ↓aStr, ↓aIsi, ↓btOf, ↓BT.isB, ↓aYes, ↓aiSeq, wipeL, ↓startL, List.map, List.set, List.replicate, List.length, List.append, List.cons_append, List.nil_append, ↓aMt, ↓isLs, ↓aLc, ↓aLcO, Bool.false_bne, Bool.true_bne, Bool.xor_false, Bool.false_xor, Bool.true_xor, Bool.not_true, Bool.not_false, decide_eq_true_eq, if_true, if_false, ite_true, ite_false, reduceIte, Bool.false_eq_true, List.getElem?_cons_zero, List.getElem?_cons_succ, ↓aLt, ↓aLe, ↓aGt, ↓aGe, ↓aSub, ↓aMul, ↓aDiv, ↓aMod, ↓aPow, true_and, and_true]
    refine sorted_own (fs := fs) (at1 _ _) ?_
    simp only [↓sNext, ↓sBreak, ↓sCont, ↓sDrop, ↓sRet, ↓sRetN, ↓sIf, ↓sAsg, ↓agName, ↓agNil, ↓agCons, ↓agTup, ↓sPar, ↓sFor, ↓aV, ↓lk, ↓aC, ↓aOp, ↓aUn, ↓aCall, ↓aNil, ↓aCons, ↓aIf, ↓aTest, ↓aAnd, ↓aOr, ↓aNot, ↓aAndV, ↓aOrV, ↓aNotV, ↓aI, ↓aI0, ↓aAdd, ↓aNeg, ↓aIsN, ↓isNone, ↓aTup, ↓purs, ↓aLst, ↓aLstO, ↓aIx, ↓gi0, ↓gi1, ↓gi2, ↓giN, ↓a1, ↓aLen, ↓aAbs, ↓aInt, ↓aStr, ↓aIsi, ↓btOf, ↓BT.isB, ↓aYes, ↓aiSeq, wipeL, ↓startL, List.map, List.set, List.replicate, List.length, List.append, List.cons_append, List.nil_append, ↓aMt, ↓isLs, ↓aLc, ↓aLcO, Bool.false_bne, Bool.true_bne, Bool.xor_false, Bool.false_xor, Bool.true_xor, Bool.not_true, Bool.not_false, decide_eq_true_eq, if_true, if_false, ite_true, ite_false, reduceIte, Bool.false_eq_true, List.getElem?_cons_zero, List.getElem?_cons_succ, ↓aLt, ↓aLe, ↓aGt, ↓aGe, ↓aSub, ↓aMul, ↓aDiv, ↓aMod, ↓aPow, true_and, and_true, aTuple]
    refine ⟨_, rfl, ?_⟩
    exact Cut.set hB (hbel hp) (h ⟨size, sortP fs⟩ o (good_sort (hd.good (by omega))) (by show size ≤ most; omega) (sortP_rise hd.nd) (hp.le (by omega)))
def circR (n : Nat) (st : List Int) (x : Nat) : List (Nat × Nat) := ((List.range n).filter fun y => st.any fun z => decide (z = (((x : Nat) : Int) - (y : Nat)) % (n : Nat))).map fun y => (x, y)
def circ (n : Nat) (st : List Int) : Lot := ⟨n, (List.range n).flatMap (circR n st)⟩
theorem circR_len (n : Nat) (st : List Int) (x : Nat) : (circR n st x).length ≤ n := by
  unfold circR
  rw [List.length_map]
  exact Nat.le_trans (List.length_filter_le _ _) (by simp)
theorem flat_len {α β : Type} {f : α → List β} {n : Nat} (h : ∀ x, (f x).length ≤ n) : ∀ xs : List α, (xs.flatMap f).length ≤ xs.length * n
  | [] => by simp
  | x :: xs => by
    rw [List.flatMap_cons, List.length_append, List.length_cons, Nat.add_mul, Nat.one_mul]
    have := flat_len h xs
    have := h x
    omega
theorem eqb_int (i j : Int) : P.eqb (.int i) (.int j) = decide (i = j) := by
  unfold P.eqb
  rw [P.py, P.py, PyData.eqv]
  by_cases h : i = j <;> simp [h]
def F_law_circle : FT := fun as S Post => ∃ (n : Nat) (st : List Int), as = [.p (.int (n : Nat)), .p (.lst (st.map .int))] ∧ 1 ≤ n ∧ n ≤ 30 ∧ Post (.p (lotP (circ n st))) S
theorem len_law_circle : ∀ as S Post, F_law_circle as S Post → as.length = ["_law_size", "_law_steps"].length := by
  rintro _ S Post ⟨_, _, rfl, _⟩; rfl
theorem cl_law_circle (p : Pre K mg "_law_circle" st_law_circle) (z_range : mg "range" = none) (z_tuple : mg "tuple" = none) : Cl Pg w K mg base 1 "_law_circle" st_law_circle ["_law_size", "_law_steps"] F_law_circle := by
  refine p.cl (fun _ _ _ _ _ _ us hl => match us, hl with | [_, _], _ => rfl) fun f fd F => ?_
  refine fun_ok F sc_law_circle len_law_circle (fun cdv A outer s H E gd hr => have hu := hu65 hr; (jb_cons (js_set 2 sc_law_circle.nd (je_lstO ja_nil))
    (jb_cons (js_for PassesOwn.never rfl (ji_range1 (by rfl) z_range (ja_cons (je_var 0) ja_nil)) (jg_name 3 sc_law_circle.nd) (jb_one (js_expr (je_mtL PySem.F.slot_list_extend PySem.F.type_list_extend mt_extend lift_extend (je_var 2) (ja_cons (je_lc rfl sc_law_circle.nd (ji_range1 (by rfl) z_range (ja_cons (je_var 0) ja_nil)) (blkOk_by (N := ns_law_circle) (sc := defScope st_law_circle) (own := [("_law_y", 4)]) (by decide +kernel)) (fun _ _ _ _ _ => (jgo_name 4 sc_law_circle.nd)) (fun _ _ _ _ _ => jts_one (jt_in hu (je_mod (je_sub (je_var 3) (je_var 4)) (je_var 0)) (je_var 1))) (fun _ _ _ _ _ => (je_tup (ja_cons (je_var 3) (ja_cons (je_var 4) ja_nil))))) ja_nil)))))
    (jb_one (js_ret (je_tup (ja_cons (je_var 0) (ja_cons (je_tuple (by rfl) z_tuple (je_var 2)) ja_nil)))))))) ?_
  rintro as S Post hB ⟨n, st, rfl, hn1, hn, h⟩
  refine sq ?_
  simp only [↓sNext, ↓sBreak, ↓sCont, ↓sDrop, ↓sRet, ↓sRetN, ↓sIf, ↓sAsg, ↓agName, ↓agNil, ↓agCons, ↓agTup, ↓sPar, ↓sFor, ↓aV, ↓lk, ↓aC, ↓aOp, ↓aUn, ↓aCall, ↓aNil, ↓aCons, ↓aIf, ↓aTest, ↓aAnd, ↓aOr, ↓aNot, ↓aAndV, ↓aOrV, ↓aNotV, ↓aI, ↓aI0, ↓aAdd, ↓aNeg, ↓aIsN, ↓isNone, ↓aTup, ↓purs, ↓aLst, ↓aLstO, ↓aIx, ↓gi0, ↓gi1, ↓gi2, ↓giN, ↓a1, ↓aLen, ↓aAbs, ↓aInt, ↓aStr, ↓aIsi, ↓btOf, ↓BT.isB, ↓aYes, ↓aiSeq, wipeL, ↓startL, List.map, List.set, List.replicate, List.length, List.append, List.cons_append, List.nil_append, ↓aMt, ↓isLs, ↓aLc, ↓aLcO, Bool.false_bne, Bool.true_bne, Bool.xor_false, Bool.false_xor, Bool.true_xor, Bool.not_true, Bool.not_false, decide_eq_true_eq, if_true, if_false, ite_true, ite_false, reduceIte, Bool.false_eq_true, List.getElem?_cons_zero, List.getElem?_cons_succ, ↓aLt, ↓aLe, ↓aGt, ↓aGe, ↓aSub, ↓aMul, ↓aDiv, ↓aMod, ↓aPow, true_and, and_true]
  refine sq ?_
  simp only [↓sNext, ↓sBreak, ↓sCont, ↓sDrop, ↓sRet, ↓sRetN, ↓sIf, ↓sAsg, ↓agName, ↓agNil, ↓agCons, ↓agTup, ↓sPar, ↓sFor, ↓aV, ↓lk, ↓aC, ↓aOp, ↓aUn, ↓aCall, ↓aNil, ↓aCons, ↓aIf, ↓aTest, ↓aAnd, ↓aOr, ↓aNot, ↓aAndV, ↓aOrV, ↓aNotV, ↓aI, ↓aI0, ↓aAdd, ↓aNeg, ↓aIsN, ↓isNone, ↓aTup, ↓purs, ↓aLst, ↓aLstO, ↓aIx, ↓gi0, ↓gi1, ↓gi2, ↓giN, ↓a1, ↓aLen, ↓aAbs, ↓aInt, ↓aStr, ↓aIsi, ↓btOf, ↓BT.isB, ↓aYes, ↓aiSeq, wipeL, ↓startL, List.map, List.set, List.replicate, List.length, List.append, List.cons_append, List.nil_append, ↓aMt, ↓isLs, ↓aLc, ↓aLcO, Bool.false_bne, Bool.true_bne, Bool.xor_false, Bool.false_xor, Bool.true_xor, Bool.not_true, Bool.not_false, decide_eq_true_eq, if_true, if_false, ite_true, ite_false, reduceIte, Bool.false_eq_true, List.getElem?_cons_zero, List.getElem?_cons_succ, ↓aLt, ↓aLe, ↓aGt, ↓aGe, ↓aSub, ↓aMul, ↓aDiv, ↓aMod, ↓aPow, true_and, and_true, aiRng1]
  refine ⟨by omega, by omega, ?_⟩
  rw [show ((n : Nat) : Int).toNat = n from rfl]
  refine for_go (fun i L S' => ∃ l1 l2, L = [some (.p (.int (n : Nat))), some (.p (.lst (st.map .int))), some (.own S.length), l1, l2] ∧ S' = S ++ [.lst (((((List.range n).take i).flatMap (circR n st)).map prP).map .p)]) (fun _ _ _ _ => trivial) (fun x y L S' N hx hI hN => ?_) (fun L S' hI => ?_) ⟨_, _, rfl, rfl⟩
  · obtain ⟨l1, l2, rfl, rfl⟩ := hI
    obtain ⟨rfl, hxs⟩ := rng_at hx
    simp only [↓sNext, ↓sBreak, ↓sCont, ↓sDrop, ↓sRet, ↓sRetN, ↓sIf, ↓sAsg, ↓agName, ↓agNil, ↓agCons, ↓agTup, ↓sPar, ↓sFor, ↓aV, ↓lk, ↓aC, ↓aOp, ↓aUn, ↓aCall, ↓aNil, ↓aCons, ↓aIf, ↓aTest, ↓aAnd, ↓aOr, ↓aNot, ↓aAndV, ↓aOrV, ↓aNotV, ↓aI, ↓aI0, ↓aAdd, ↓aNeg, ↓aIsN, ↓isNone, ↓aTup, ↓purs, ↓aLst, ↓aLstO, ↓aIx, ↓gi0, ↓gi1, ↓gi2, ↓giN, ↓a1, ↓aLen, ↓aAbs, ↓aInt, ↓aStr, ↓aIsi, ↓btOf, ↓BT.isB, ↓aYes, ↓aiSeq, wipeL, ↓startL, List.map, List.set, List.replicate, List.length, List.append, List.cons_append, List.nil_append, ↓aMt, ↓isLs, ↓aLc, ↓aLcO, Bool.false_bne, Bool.true_bne, Bool.xor_false, Bool.false_xor, Bool.true_xor, Bool.not_true, Bool.not_false, decide_eq_true_eq, if_true, if_false, ite_true, ite_false, reduceIte, Bool.false_eq_true, List.getElem?_cons_zero, List.getElem?_cons_succ, ↓aLt, ↓aLe, ↓aGt, ↓aGe, ↓aSub, ↓aMul, ↓aDiv, ↓aMod, ↓aPow, true_and, and_true, getE, setE]
    refine ⟨by omega, by omega, ?_⟩
    rw [show ((n : Nat) : Int).toNat = n from rfl]
    refine lc_map (List.range n) (fun k => .p (.int (k : Nat))) (fun y => st.any fun z => decide (z = (((x : Nat) : Int) - (y : Nat)) % (n : Nat))) (fun k => prP (x, k)) (fun k hk Q R hQ => ?_) ?_
    · simp only [↓sNext, ↓sBreak, ↓sCont, ↓sDrop, ↓sRet, ↓sRetN, ↓sIf, ↓sAsg, ↓agName, ↓agNil, ↓agCons, ↓agTup, ↓sPar, ↓sFor, ↓aV, ↓lk, ↓aC, ↓aOp, ↓aUn, ↓aCall, ↓aNil, ↓aCons, ↓aIf, ↓aTest, ↓aAnd, ↓aOr, ↓aNot, ↓aAndV, ↓aOrV, ↓aNotV, ↓aI, ↓aI0, ↓aAdd, ↓aNeg, ↓aIsN, ↓isNone, ↓aTup, ↓purs, ↓aLst, ↓aLstO, ↓aIx, ↓gi0, ↓gi1, ↓gi2, ↓giN, ↓a1, ↓aLen, ↓aAbs, ↓aInt, ↓aStr, ↓aIsi, ↓btOf, ↓BT.isB, ↓aYes, ↓aiSeq, wipeL, ↓startL, List.map, List.set, List.replicate, List.length, List.append, List.cons_append, List.nil_append, ↓aMt, ↓isLs, ↓aLc, ↓aLcO, Bool.false_bne, Bool.true_bne, Bool.xor_false, Bool.false_xor, Bool.true_xor, Bool.not_true, Bool.not_false, decide_eq_true_eq, if_true, if_false, ite_true, ite_false, reduceIte, Bool.false_eq_true, List.getElem?_cons_zero, List.getElem?_cons_succ, ↓aLt, ↓aLe, ↓aGt, ↓aGe, ↓aSub, ↓aMul, ↓aDiv, ↓aMod, ↓aPow, true_and, and_true, aIn]
      refine ⟨by omega, _, _, rfl, rfl, dat_int, fun z hz => ?_, ?_⟩
      · obtain ⟨u, _, rfl⟩ := List.mem_map.mp hz
        exact dat_int
      · rw [List.any_map]
        have e : ((fun z => P.eqb z (.int ((((x : Nat) : Int) - (k : Nat)) % (n : Nat)))) ∘ fun u => P.int u) = fun z => decide (z = (((x : Nat) : Int) - (k : Nat)) % (n : Nat)) := by
          funext z
          exact eqb_int _ _
        rw [e]
        exact hQ
    · refine ⟨_, rfl, ?_⟩
      simp only [aExtend, getE, setE]
      refine ⟨?_, hN _ _ ⟨_, _, rfl, ?_⟩⟩
      · have h1 := flat_len (circR_len n st) ((List.range n).take x)
        have h2 : ((List.range n).take x).length ≤ n := by simp; omega
        have h3 := circR_len n st x
        unfold circR at h3
        rw [List.length_map] at h3
        rw [List.length_map, List.length_map, List.length_map]
        have h4 : ((List.range n).take x).length * n ≤ 30 * 30 := Nat.mul_le_mul (by omega) hn
        exact small_sl (by omega)
      · rw [List.take_add_one, List.getElem?_range hxs, List.flatMap_append, List.map_append, List.map_append]
        congr 4
        simp [circR]
  · obtain ⟨l1, l2, rfl, rfl⟩ := hI
    rw [List.length_map, List.length_range, List.take_of_length_le (by simp)]
    simp only [↓sNext, ↓sBreak, ↓sCont, ↓sDrop, ↓sRet, ↓sRetN, ↓sIf, ↓sAsg, ↓agName, ↓agNil, ↓agCons, ↓agTup, ↓sPar, ↓sFor, ↓aV, ↓lk, ↓aC, ↓aOp, ↓aUn, ↓aCall, ↓aNil, ↓aCons, ↓aIf, ↓aTest, ↓aAnd, ↓aOr, ↓aNot, ↓aAndV, ↓aOrV, ↓aNotV, ↓aI, ↓aI0, ↓aAdd, ↓aNeg, ↓aIsN, ↓isNone, ↓aTup, ↓purs, ↓aLst, ↓aLstO, ↓aIx, ↓gi0, ↓gi1, ↓gi2, ↓giN, ↓a1, ↓aLen, ↓aAbs, ↓aInt, ↓aStr, ↓aIsi, ↓btOf, ↓BT.isB, ↓aYes, ↓aiSeq, wipeL, ↓startL, List.map, List.set, List.replicate, List.length, List.append, List.cons_append, List.nil_append, ↓aMt, ↓isLs, ↓aLc, ↓aLcO, Bool.false_bne, Bool.true_bne, Bool.xor_false, Bool.false_xor, Bool.true_xor, Bool.not_true, Bool.not_false, decide_eq_true_eq, if_true, if_false, ite_true, ite_false, reduceIte, Bool.false_eq_true, List.getElem?_cons_zero, List.getElem?_cons_succ, ↓aLt, ↓aLe, ↓aGt, ↓aGe, ↓aSub, ↓aMul, ↓aDiv, ↓aMod, ↓aPow, true_and, and_true, aTuple]
    refine ⟨_, getE _ _, Cut.pure hB h⟩
def checkL (l : Lot) : Bool := decide (l.m ≤ 30) && decide (l.ps.length ≤ 1000) && l.ps.all fun q => decide (q.1 < l.m) && decide (q.2 < l.m) && decide (q.1 ≠ q.2) && !(l.ps.contains (q.2, q.1))
theorem good_check {l : Lot} (h : checkL l = true) : Good l := by
  unfold checkL at h
  rw [Bool.and_eq_true, Bool.and_eq_true, List.all_eq_true] at h
  obtain ⟨⟨h1, h2⟩, h3⟩ := h
  have k : ∀ q ∈ l.ps, q.1 < l.m ∧ q.2 < l.m ∧ q.1 ≠ q.2 ∧ (q.2, q.1) ∉ l.ps := fun q hq => by
    have := h3 q hq
    rw [Bool.and_eq_true, Bool.and_eq_true, Bool.and_eq_true] at this
    obtain ⟨⟨⟨a, b⟩, c⟩, d⟩ := this
    exact ⟨by simpa using a, by simpa using b, by simpa using c, by simpa using d⟩
  exact ⟨by simpa using h1, fun q hq => ⟨(k q hq).1, (k q hq).2.1⟩, by simpa using h2, fun a ha => (k _ ha).2.2.1 rfl, fun a b ha hb => (k _ ha).2.2.2 hb⟩
theorem circ3_up : (circ 3 [1]).ps.Pairwise ltA := by unfold ltA; decide +kernel
theorem circ5_up : (circ 5 [1, 2]).ps.Pairwise ltA := by unfold ltA; decide +kernel
theorem circ7_up : (circ 7 [1, 2, 4]).ps.Pairwise ltA := by unfold ltA; decide +kernel
theorem circ3 : Good (circ 3 [1]) := good_check (by decide +kernel)
theorem circ5 : Good (circ 5 [1, 2]) := good_check (by decide +kernel)
theorem circ7 : Good (circ 7 [1, 2, 4]) := good_check (by decide +kernel)
def lineR (x : Nat) : List (Nat × Nat) := (List.range x).map fun y => (x, y)
def lineL (n : Nat) : Lot := ⟨n, (List.range n).flatMap lineR⟩
theorem lineL_mem {n a b : Nat} : (a, b) ∈ (lineL n).ps ↔ a < n ∧ b < a := by
  unfold lineL lineR
  simp only [List.mem_flatMap, List.mem_range, List.mem_map, Prod.mk.injEq]
  constructor
  · rintro ⟨x, h1, y, h2, rfl, rfl⟩
    exact ⟨h1, h2⟩
  · rintro ⟨h1, h2⟩
    exact ⟨a, h1, b, h2, rfl, rfl⟩
theorem lineL_len : ∀ (n : Nat), n ≤ 30 → ((List.range n).flatMap lineR).length ≤ 30 * n
  | 0, _ => by simp
  | n + 1, h => by
    have := lineL_len n (by omega)
    rw [List.range_succ, List.flatMap_append, List.length_append]
    have e : ([n].flatMap lineR).length = n := by simp [lineR]
    omega
theorem lineL_good {n : Nat} (hn : n ≤ 30) : Good (lineL n) :=
  good_of hn (fun q hq => by have := lineL_mem.mp (show (q.1, q.2) ∈ (lineL n).ps from hq); omega) (fun a b h1 h2 => by have := lineL_mem.mp h1; have := lineL_mem.mp h2; omega) (by have := lineL_len n hn; omega)
theorem lineL_up (n : Nat) : (lineL n).ps.Pairwise ltA := by
  unfold lineL
  refine List.pairwise_flatMap.mpr ⟨fun x _ => ?_, ?_⟩
  · unfold lineR
    rw [List.pairwise_map]
    exact List.pairwise_lt_range.imp fun {a b} h => .inr ⟨rfl, h⟩
  · refine List.pairwise_lt_range.imp fun {a b} h x hx y hy => ?_
    unfold lineR at hx hy
    obtain ⟨_, _, rfl⟩ := List.mem_map.mp hx
    obtain ⟨_, _, rfl⟩ := List.mem_map.mp hy
    exact .inl h
def F_law_line : FT := fun as S Post => ∃ (n : Nat), as = [.p (.int (n : Nat))] ∧ n ≤ 30 ∧ Post (.p (lotP (lineL n))) S
theorem len_law_line : ∀ as S Post, F_law_line as S Post → as.length = ["_law_size"].length := by
  rintro _ S Post ⟨_, rfl, _⟩; rfl
theorem cl_law_line (p : Pre K mg "_law_line" st_law_line) (z_range : mg "range" = none) (z_tuple : mg "tuple" = none) : Cl Pg w K mg base 1 "_law_line" st_law_line ["_law_size"] F_law_line := by
  refine p.cl (fun _ _ _ _ _ _ us hl => match us, hl with | [_], _ => rfl) fun f fd F => ?_
  refine fun_ok F sc_law_line len_law_line (fun cdv A outer s H E gd hr => have hu := hu65 hr; (jb_cons (js_set 1 sc_law_line.nd (je_lstO ja_nil))
    (jb_cons (js_for PassesOwn.never rfl (ji_range1 (by rfl) z_range (ja_cons (je_var 0) ja_nil)) (jg_name 2 sc_law_line.nd) (jb_one (js_expr (je_mtL PySem.F.slot_list_extend PySem.F.type_list_extend mt_extend lift_extend (je_var 1) (ja_cons (je_lc rfl sc_law_line.nd (ji_range1 (by rfl) z_range (ja_cons (je_var 2) ja_nil)) (blkOk_by (N := ns_law_line) (sc := defScope st_law_line) (own := [("_law_y", 3)]) (by decide +kernel)) (fun _ _ _ _ _ => (jgo_name 3 sc_law_line.nd)) (fun _ _ _ _ _ => jts_nil) (fun _ _ _ _ _ => (je_tup (ja_cons (je_var 2) (ja_cons (je_var 3) ja_nil))))) ja_nil)))))
    (jb_one (js_ret (je_tup (ja_cons (je_var 0) (ja_cons (je_tuple (by rfl) z_tuple (je_var 1)) ja_nil)))))))) ?_
  rintro as S Post hB ⟨n, rfl, hn, h⟩
  refine sq ?_
  simp only [↓sNext, ↓sBreak, ↓sCont, ↓sDrop, ↓sRet, ↓sRetN, ↓sIf, ↓sAsg, ↓agName, ↓agNil, ↓agCons, ↓agTup, ↓sPar, ↓sFor, ↓aV, ↓lk, ↓aC, ↓aOp, ↓aUn, ↓aCall, ↓aNil, ↓aCons, ↓aIf, ↓aTest, ↓aAnd, ↓aOr, ↓aNot, ↓aAndV, ↓aOrV, ↓aNotV, ↓aI, ↓aI0, ↓aAdd, ↓aNeg, ↓aIsN, ↓isNone, ↓aTup, ↓purs, ↓aLst, ↓aLstO, ↓aIx, ↓gi0, ↓gi1, ↓gi2, ↓giN, ↓a1, ↓aLen, ↓aAbs, ↓aInt, ↓aStr, ↓aIsi, ↓btOf, ↓BT.isB, ↓aYes, ↓aiSeq, wipeL, ↓startL, List.map, List.set, List.replicate, List.length, List.append, List.cons_append, List.nil_append, ↓aMt, ↓isLs, ↓aLc, ↓aLcO, Bool.false_bne, Bool.true_bne, Bool.xor_false, Bool.false_xor, Bool.true_xor, Bool.not_true, Bool.not_false, decide_eq_true_eq, if_true, if_false, ite_true, ite_false, reduceIte, Bool.false_eq_true, List.getElem?_cons_zero, List.getElem?_cons_succ, ↓aLt, ↓aLe, ↓aGt, ↓aGe, ↓aSub, ↓aMul, ↓aDiv, ↓aMod, ↓aPow, true_and, and_true]
  refine sq ?_
  simp only [↓sNext, ↓sBreak, ↓sCont, ↓sDrop, ↓sRet, ↓sRetN, ↓sIf, ↓sAsg, ↓agName, ↓agNil, ↓agCons, ↓agTup, ↓sPar, ↓sFor, ↓aV, ↓lk, ↓aC, ↓aOp, ↓aUn, ↓aCall, ↓aNil, ↓aCons, ↓aIf, ↓aTest, ↓aAnd, ↓aOr, ↓aNot, ↓aAndV, ↓aOrV, ↓aNotV, ↓aI, ↓aI0, ↓aAdd, ↓aNeg, ↓aIsN, ↓isNone, ↓aTup, ↓purs, ↓aLst, ↓aLstO, ↓aIx, ↓gi0, ↓gi1, ↓gi2, ↓giN, ↓a1, ↓aLen, ↓aAbs, ↓aInt, ↓aStr, ↓aIsi, ↓btOf, ↓BT.isB, ↓aYes, ↓aiSeq, wipeL, ↓startL, List.map, List.set, List.replicate, List.length, List.append, List.cons_append, List.nil_append, ↓aMt, ↓isLs, ↓aLc, ↓aLcO, Bool.false_bne, Bool.true_bne, Bool.xor_false, Bool.false_xor, Bool.true_xor, Bool.not_true, Bool.not_false, decide_eq_true_eq, if_true, if_false, ite_true, ite_false, reduceIte, Bool.false_eq_true, List.getElem?_cons_zero, List.getElem?_cons_succ, ↓aLt, ↓aLe, ↓aGt, ↓aGe, ↓aSub, ↓aMul, ↓aDiv, ↓aMod, ↓aPow, true_and, and_true, aiRng1]
  refine ⟨by omega, by omega, ?_⟩
  rw [show ((n : Nat) : Int).toNat = n from rfl]
  refine for_go (fun i L S' => ∃ l1 l2, L = [some (.p (.int (n : Nat))), some (.own S.length), l1, l2] ∧ S' = S ++ [.lst (((((List.range n).take i).flatMap lineR).map prP).map .p)]) (fun _ _ _ _ => trivial) (fun x y L S' N hx hI hN => ?_) (fun L S' hI => ?_) ⟨_, _, rfl, rfl⟩
  · obtain ⟨l1, l2, rfl, rfl⟩ := hI
    obtain ⟨rfl, hxs⟩ := rng_at hx
    simp only [↓sNext, ↓sBreak, ↓sCont, ↓sDrop, ↓sRet, ↓sRetN, ↓sIf, ↓sAsg, ↓agName, ↓agNil, ↓agCons, ↓agTup, ↓sPar, ↓sFor, ↓aV, ↓lk, ↓aC, ↓aOp, ↓aUn, ↓aCall, ↓aNil, ↓aCons, ↓aIf, ↓aTest, ↓aAnd, ↓aOr, ↓aNot, ↓aAndV, ↓aOrV, ↓aNotV, ↓aI, ↓aI0, ↓aAdd, ↓aNeg, ↓aIsN, ↓isNone, ↓aTup, ↓purs, ↓aLst, ↓aLstO, ↓aIx, ↓gi0, ↓gi1, ↓gi2, ↓giN, ↓a1, ↓aLen, ↓aAbs, ↓aInt, ↓aStr, ↓aIsi, ↓btOf, ↓BT.isB, ↓aYes, ↓aiSeq, wipeL, ↓startL, List.map, List.set, List.replicate, List.length, List.append, List.cons_append, List.nil_append, ↓aMt, ↓isLs, ↓aLc, ↓aLcO, Bool.false_bne, Bool.true_bne, Bool.xor_false, Bool.false_xor, Bool.true_xor, Bool.not_true, Bool.not_false, decide_eq_true_eq, if_true, if_false, ite_true, ite_false, reduceIte, Bool.false_eq_true, List.getElem?_cons_zero, List.getElem?_cons_succ, ↓aLt, ↓aLe, ↓aGt, ↓aGe, ↓aSub, ↓aMul, ↓aDiv, ↓aMod, ↓aPow, true_and, and_true, getE, setE]
    refine ⟨by omega, by omega, ?_⟩
    rw [show ((x : Nat) : Int).toNat = x from rfl]
    refine lc_all (List.range x) (fun k => .p (.int (k : Nat))) (fun k => prP (x, k)) (fun k hk Q hQ => ?_) ?_
    · simp only [↓sNext, ↓sBreak, ↓sCont, ↓sDrop, ↓sRet, ↓sRetN, ↓sIf, ↓sAsg, ↓agName, ↓agNil, ↓agCons, ↓agTup, ↓sPar, ↓sFor, ↓aV, ↓lk, ↓aC, ↓aOp, ↓aUn, ↓aCall, ↓aNil, ↓aCons, ↓aIf, ↓aTest, ↓aAnd, ↓aOr, ↓aNot, ↓aAndV, ↓aOrV, ↓aNotV, ↓aI, ↓aI0, ↓aAdd, ↓aNeg, ↓aIsN, ↓isNone, ↓aTup, ↓purs, ↓aLst, ↓aLstO, ↓aIx, ↓gi0, ↓gi1, ↓gi2, ↓giN, ↓a1, ↓aLen, ↓aAbs, ↓aInt, ↓aStr, ↓aIsi, ↓btOf, ↓BT.isB, ↓aYes, ↓aiSeq, wipeL, ↓startL, List.map, List.set, List.replicate, List.length, List.append, List.cons_append, List.nil_append, ↓aMt, ↓isLs, ↓aLc, ↓aLcO, Bool.false_bne, Bool.true_bne, Bool.xor_false, Bool.false_xor, Bool.true_xor, Bool.not_true, Bool.not_false, decide_eq_true_eq, if_true, if_false, ite_true, ite_false, reduceIte, Bool.false_eq_true, List.getElem?_cons_zero, List.getElem?_cons_succ, ↓aLt, ↓aLe, ↓aGt, ↓aGe, ↓aSub, ↓aMul, ↓aDiv, ↓aMod, ↓aPow, true_and, and_true]
      exact hQ
    · refine ⟨_, rfl, ?_⟩
      simp only [aExtend, getE, setE]
      have et : (List.range n).take x = List.range x := by rw [List.take_range]; congr 1; omega
      refine ⟨?_, hN _ _ ⟨_, _, rfl, ?_⟩⟩
      · have h1 := lineL_len x (by omega)
        rw [et, List.length_map, List.length_map, List.length_map, List.length_range]
        exact small_sl (by omega)
      · rw [List.take_add_one, List.getElem?_range hxs, List.flatMap_append, List.map_append, List.map_append]
        congr 4
        simp [lineR]
  · obtain ⟨l1, l2, rfl, rfl⟩ := hI
    rw [List.length_map, List.length_range, List.take_of_length_le (by simp)]
    simp only [↓sNext, ↓sBreak, ↓sCont, ↓sDrop, ↓sRet, ↓sRetN, ↓sIf, ↓sAsg, ↓agName, ↓agNil, ↓agCons, ↓agTup, ↓sPar, ↓sFor, ↓aV, ↓lk, ↓aC, ↓aOp, ↓aUn, ↓aCall, ↓aNil, ↓aCons, ↓aIf, ↓aTest, ↓aAnd, ↓aOr, ↓aNot, ↓aAndV, ↓aOrV, ↓aNotV, ↓aI, ↓aI0, ↓aAdd, ↓aNeg, ↓aIsN, ↓isNone, ↓aTup, ↓purs, ↓aLst, ↓aLstO, ↓aIx, ↓gi0, ↓gi1, ↓gi2, ↓giN, ↓a1, ↓aLen, ↓aAbs, ↓aInt, ↓aStr, ↓aIsi, ↓btOf, ↓BT.isB, ↓aYes, ↓aiSeq, wipeL, ↓startL, List.map, List.set, List.replicate, List.length, List.append, List.cons_append, List.nil_append, ↓aMt, ↓isLs, ↓aLc, ↓aLcO, Bool.false_bne, Bool.true_bne, Bool.xor_false, Bool.false_xor, Bool.true_xor, Bool.not_true, Bool.not_false, decide_eq_true_eq, if_true, if_false, ite_true, ite_false, reduceIte, Bool.false_eq_true, List.getElem?_cons_zero, List.getElem?_cons_succ, ↓aLt, ↓aLe, ↓aGt, ↓aGe, ↓aSub, ↓aMul, ↓aDiv, ↓aMod, ↓aPow, true_and, and_true, aTuple]
    refine ⟨_, getE _ _, Cut.pure hB h⟩
end
end Lw
namespace Lw
open PySem PySem.Spec PyProof.Rows L2 Am
section
variable {Pg : Program} {w : World} {K : PySem.W.Frag} {mg : Str → Option Value} {base : Heap}
def F_law_lot : FT := fun as S Post => ∃ (n most c : Nat) (o : O), as = [.own n, .p (.int (most : Nat))] ∧ S[n]? = some o ∧ PotO o c ∧ c ≤ 800000 ∧ most ≤ 29 ∧ ∀ (l : Lot) (o' : O), Good l → l.m ≤ most → l.ps.Pairwise ltA → PotO o' (c + 1100) → Post (.p (lotP l)) (S.set n o')
theorem len_law_lot : ∀ as S Post, F_law_lot as S Post → as.length = ["_law_pot_here", "_law_most"].length := by
  rintro _ S Post ⟨_, _, _, _, rfl, _⟩; rfl
theorem cl_law_lot (p : Pre K mg "_law_lot" st_law_lot) (c_law_take : Cl Pg w K mg base 1 "_law_take" st_law_take ["_law_pot_here", "_law_size"] F_law_take) (c_law_of : Cl Pg w K mg base 2 "_law_of" st_law_of ["_law_pot_here", "_law_some"] F_law_of) (c_law_drawn : Cl Pg w K mg base 2 "_law_drawn" st_law_drawn ["_law_pot_here", "_law_most"] F_law_drawn) (c_law_circle : Cl Pg w K mg base 1 "_law_circle" st_law_circle ["_law_size", "_law_steps"] F_law_circle) (c_law_line : Cl Pg w K mg base 1 "_law_line" st_law_line ["_law_size"] F_law_line) : Cl Pg w K mg base 3 "_law_lot" st_law_lot ["_law_pot_here", "_law_most"] F_law_lot := by
  refine p.cl (fun _ _ _ _ _ _ us hl => match us, hl with | [_, _], _ => rfl) fun f fd F => ?_
  refine fun_ok F sc_law_lot len_law_lot (fun cdv A outer s H E gd hr => have hu := hu65 hr; (jb_cons (js_set 2 sc_law_lot.nd (je_lstO (ja_cons (je_own c_law_circle gd hr (ja_cons je_int (ja_cons (je_lst (ja_cons je_int ja_nil)) ja_nil))) (ja_cons (je_own c_law_circle gd hr (ja_cons je_int (ja_cons (je_lst (ja_cons je_int (ja_cons je_int ja_nil))) ja_nil))) (ja_cons (je_own c_law_circle gd hr (ja_cons je_int (ja_cons (je_lst (ja_cons je_int (ja_cons je_int (ja_cons je_int ja_nil)))) ja_nil))) ja_nil)))))
    (jb_cons (js_expr (je_mtL PySem.F.slot_list_append PySem.F.type_list_append mt_append lift_append (je_var 2) (ja_cons (je_own c_law_line gd hr (ja_cons (je_own c_law_take gd hr (ja_cons (je_var 0) (ja_cons (je_add (je_var 1) je_int) ja_nil))) ja_nil)) ja_nil)))
    (jb_cons (js_setLcO 2 rfl sc_law_lot.nd (sw_true rfl rfl rfl (by decide +kernel)) (ji_seq (je_var 2)) (blkOk_by (N := ns_law_lot) (sc := defScope st_law_lot) (own := [("_law_lot_here", 3)]) (by decide +kernel)) (fun _ _ _ _ _ => (jgo_name 3 sc_law_lot.nd)) (fun _ _ _ _ _ => jts_one (jt_le (je_ix (je_var 3) je_int (fun _ _ => rfl)) (je_var 1))) (fun _ _ _ _ _ => (je_var 3)))
    (jb_one (js_ret (je_own c_law_of gd hr (ja_cons (je_var 0) (ja_cons (je_add (je_rep (je_lst (ja_cons (je_own c_law_drawn gd hr (ja_cons (je_var 0) (ja_cons (je_var 1) ja_nil))) ja_nil)) je_int) (je_var 2)) ja_nil))))))))) ?_
  rintro as S Post hB ⟨n, most, c, o, rfl, hS, hp, hc, hm, h⟩
  have hn : n < S.length := (List.getElem?_eq_some_iff.mp hS).1
  have at0 : ∀ (o : O) (xs : List O), (S.set n o ++ xs)[n]? = some o := fun o xs => by rw [List.getElem?_append_left (by rw [List.length_set]; exact hn), List.getElem?_set_self hn]
  have set0 : ∀ (o o' : O) (xs : List O), (S.set n o ++ xs).set n o' = S.set n o' ++ xs := fun o o' xs => by rw [List.set_append_left _ _ (by rw [List.length_set]; exact hn), List.set_set]
  have at1 : ∀ (o u : O), (S.set n o ++ [u])[S.length]? = some u := fun o u => by
    have := getE (S.set n o) u
    rw [List.length_set] at this
    exact this
  have set1 : ∀ (o u u' : O), (S.set n o ++ [u]).set S.length u' = S.set n o ++ [u'] := fun o u u' => by
    have := setE (S.set n o) u u'
    rw [List.length_set] at this
    exact this
  have e0 : S = S.set n o := by
    refine List.ext_getElem? fun i => ?_
    by_cases hi : n = i
    · subst hi; rw [List.getElem?_set_self hn]; exact hS
    · rw [List.getElem?_set_ne hi]
  refine sq ?_
  simp only [↓sNext, ↓sBreak, ↓sCont, ↓sDrop, ↓sRet, ↓sRetN, ↓sIf, ↓sAsg, ↓agName, ↓agNil, ↓agCons, ↓agTup, ↓sPar, ↓sFor, ↓aV, ↓lk, ↓aC, ↓aOp, ↓aUn, ↓aCall, ↓aNil, ↓aCons, ↓aIf, ↓aTest, ↓aAnd, ↓aOr, ↓aNot, ↓aAndV, ↓aOrV, ↓aNotV, ↓aI, ↓aI0, ↓aNeg, ↓aIsN, ↓isNone, ↓aTup, ↓purs, ↓aLst, ↓aLstO, ↓aIx, ↓gi0, ↓gi1, ↓gi2, ↓giN, ↓a1, ↓aLen, ↓aAbs, ↓aInt, ↓aStr, ↓aIsi, ↓btOf, ↓BT.isB, ↓aYes, ↓aiSeq, wipeL, ↓startL, List.map, List.set, List.replicate, List.length, List.append, List.cons_append, List.nil_append, ↓aMt, ↓isLs, ↓aLc, ↓aLcO, Bool.false_bne, Bool.true_bne, Bool.xor_false, Bool.false_xor, Bool.true_xor, Bool.not_true, Bool.not_false, decide_eq_true_eq, if_true, if_false, ite_true, ite_false, reduceIte, Bool.false_eq_true, List.getElem?_cons_zero, List.getElem?_cons_succ, ↓aLt, ↓aLe, ↓aGt, ↓aGe, ↓aSub, ↓aMul, ↓aDiv, ↓aMod, ↓aPow, true_and, and_true]
  refine ⟨3, [1], rfl, by decide, by decide, 5, [1, 2], rfl, by decide, by decide, 7, [1, 2, 4], rfl, by decide, by decide, ?_⟩
  simp only [↓sNext, ↓sBreak, ↓sCont, ↓sDrop, ↓sRet, ↓sRetN, ↓sIf, ↓sAsg, ↓agName, ↓agNil, ↓agCons, ↓agTup, ↓sPar, ↓sFor, ↓aV, ↓lk, ↓aC, ↓aOp, ↓aUn, ↓aCall, ↓aNil, ↓aCons, ↓aIf, ↓aTest, ↓aAnd, ↓aOr, ↓aNot, ↓aAndV, ↓aOrV, ↓aNotV, ↓aI, ↓aI0, ↓aNeg, ↓aIsN, ↓isNone, ↓aTup, ↓purs, ↓aLst, ↓aLstO, ↓aIx, ↓gi0, ↓gi1, ↓gi2, ↓giN, ↓a1, ↓aLen, ↓aAbs, ↓aInt, ↓aStr, ↓aIsi, ↓btOf, ↓BT.isB, ↓aYes, ↓aiSeq, wipeL, ↓startL, List.map, List.set, List.replicate, List.length, List.append, List.cons_append, List.nil_append, ↓aMt, ↓isLs, ↓aLc, ↓aLcO, Bool.false_bne, Bool.true_bne, Bool.xor_false, Bool.false_xor, Bool.true_xor, Bool.not_true, Bool.not_false, decide_eq_true_eq, if_true, if_false, ite_true, ite_false, reduceIte, Bool.false_eq_true, List.getElem?_cons_zero, List.getElem?_cons_succ, ↓aLt, ↓aLe, ↓aGt, ↓aGe, ↓aSub, ↓aMul, ↓aDiv, ↓aMod, ↓aPow, true_and, and_true]
  refine sq ?_
  rw [show S ++ [O.lst [D.p (lotP (circ 3 [1])), D.p (lotP (circ 5 [1, 2])), D.p (lotP (circ 7 [1, 2, 4]))]] = S.set n o ++ [O.lst [D.p (lotP (circ 3 [1])), D.p (lotP (circ 5 [1, 2])), D.p (lotP (circ 7 [1, 2, 4]))]] by rw [← e0]]
  simp only [↓sNext, ↓sBreak, ↓sCont, ↓sDrop, ↓sRet, ↓sRetN, ↓sIf, ↓sAsg, ↓agName, ↓agNil, ↓agCons, ↓agTup, ↓sPar, ↓sFor, ↓aV, ↓lk, ↓aC, ↓aOp, ↓aUn, ↓aCall, ↓aNil, ↓aCons, ↓aIf, ↓aTest, ↓aAnd, ↓aOr, ↓aNot, ↓aAndV, ↓aOrV, ↓aNotV, ↓aI, ↓aI0, ↓aNeg, ↓aIsN, ↓isNone, ↓aTup, ↓purs, ↓aLst, ↓aLstO, ↓aIx, ↓gi0, ↓gi1, ↓gi2, ↓giN, ↓a1, ↓aLen, ↓aAbs, ↓aInt, ↓aStr, ↓aIsi, ↓btOf, ↓BT.isB, ↓aYes, ↓aiSeq, wipeL, ↓startL, List.map, List.set, List.replicate, List.length, List.append, List.cons_append, List.nil_append, ↓aMt, ↓isLs, ↓aLc, ↓aLcO, Bool.false_bne, Bool.true_bne, Bool.xor_false, Bool.false_xor, Bool.true_xor, Bool.not_true, Bool.not_false, decide_eq_true_eq, if_true, if_false, ite_true, ite_false, reduceIte, Bool.false_eq_true, List.getElem?_cons_zero, List.getElem?_cons_succ, ↓aLt, ↓aLe, ↓aGt, ↓aGe, ↓aSub, ↓aMul, ↓aDiv, ↓aMod, ↓aPow, true_and, and_true, at1]
  refine ⟨n, most + 1, c, o, by simp, at0 _ _, hp, by omega, by omega, by omega, fun v o1 hv hp1 => ?_⟩
  refine ⟨v, rfl, by omega, ?_⟩
  rw [set0]
  simp only [aAppend, at1, set1, List.length, List.cons_append, List.nil_append]
  refine ⟨by decide, ?_⟩
  refine sq ?_
  simp only [↓sNext, ↓sBreak, ↓sCont, ↓sDrop, ↓sRet, ↓sRetN, ↓sIf, ↓sAsg, ↓agName, ↓agNil, ↓agCons, ↓agTup, ↓sPar, ↓sFor, ↓aV, ↓lk, ↓aC, ↓aOp, ↓aUn, ↓aCall, ↓aNil, ↓aCons, ↓aIf, ↓aTest, ↓aAnd, ↓aOr, ↓aNot, ↓aAndV, ↓aOrV, ↓aNotV, ↓aI, ↓aI0, ↓aNeg, ↓aIsN, ↓isNone, ↓aTup, ↓purs, ↓aLst, ↓aLstO, ↓aIx, ↓gi0, ↓gi1, ↓gi2, ↓giN, ↓a1, ↓aLen, ↓aAbs, ↓aInt, ↓aStr, ↓aIsi, ↓btOf, ↓BT.isB, ↓aYes, ↓aiSeq, wipeL, ↓startL, List.map, List.set, List.replicate, List.length, List.append, List.cons_append, List.nil_append, ↓aMt, ↓isLs, ↓aLc, ↓aLcO, Bool.false_bne, Bool.true_bne, Bool.xor_false, Bool.false_xor, Bool.true_xor, Bool.not_true, Bool.not_false, decide_eq_true_eq, if_true, if_false, ite_true, ite_false, reduceIte, Bool.false_eq_true, List.getElem?_cons_zero, List.getElem?_cons_succ, ↓aLt, ↓aLe, ↓aGt, ↓aGe, ↓aSub, ↓aMul, ↓aDiv, ↓aMod, ↓aPow, true_and, and_true, at1]
  refine ⟨_, rfl, ?_⟩
  refine lc_map (keep := fun S' => S'[S.length]? = some (O.lst [D.p (lotP (circ 3 [1])), D.p (lotP (circ 5 [1, 2])), D.p (lotP (circ 7 [1, 2, 4])), D.p (lotP (lineL v))])) [circ 3 [1], circ 5 [1, 2], circ 7 [1, 2, 4], lineL v] (fun l => .p (lotP l)) (fun l => decide (l.m ≤ most)) lotP (fun l hl Q R hQ => ?_) ?_ (at1 _ _)
  · simp only [↓sNext, ↓sBreak, ↓sCont, ↓sDrop, ↓sRet, ↓sRetN, ↓sIf, ↓sAsg, ↓agName, ↓agNil, ↓agCons, ↓agTup, ↓sPar, ↓sFor, ↓aV, ↓lk, ↓aC, ↓aOp, ↓aUn, ↓aCall, ↓aNil, ↓aCons, ↓aIf, ↓aTest, ↓aAnd, ↓aOr, ↓aNot, ↓aAndV, ↓aOrV, ↓aNotV, ↓aI, ↓aI0, ↓aAdd, ↓aNeg, ↓aIsN, ↓isNone, ↓aTup, ↓purs, ↓aLst, ↓aLstO, ↓aIx, ↓gi0, ↓gi1, ↓gi2, ↓giN, ↓a1, ↓aLen, ↓aAbs, ↓aInt, ↓aStr, ↓aIsi, ↓btOf, ↓BT.isB, ↓aYes, ↓aiSeq, wipeL, ↓startL, List.map, List.set, List.replicate, List.length, List.append, List.cons_append, List.nil_append, ↓aMt, ↓isLs, ↓aLc, ↓aLcO, Bool.false_bne, Bool.true_bne, Bool.xor_false, Bool.false_xor, Bool.true_xor, Bool.not_true, Bool.not_false, decide_eq_true_eq, if_true, if_false, ite_true, ite_false, reduceIte, Bool.false_eq_true, List.getElem?_cons_zero, List.getElem?_cons_succ, ↓aLt, ↓aLe, ↓aGt, ↓aGe, ↓aSub, ↓aMul, ↓aDiv, ↓aMod, ↓aPow, true_and, and_true, lotP]
    by_cases hle : l.m ≤ most
    · rw [if_pos (by simpa using hle)] at hQ
      rw [if_pos (by omega)]
      exact hQ
    · rw [if_neg (by simpa using hle)] at hQ
      rw [if_neg (by omega)]
      exact hQ
  · generalize hks : [circ 3 [1], circ 5 [1, 2], circ 7 [1, 2, 4], lineL v].filter (fun l => decide (l.m ≤ most)) = ks
    have gks : ∀ l ∈ ks, (Good l ∧ l.ps.Pairwise ltA) ∧ l.m ≤ most := fun l hl => by
      rw [← hks, List.mem_filter] at hl
      obtain ⟨h1, h2⟩ := hl
      refine ⟨?_, by simpa using h2⟩
      simp only [List.mem_cons, List.not_mem_nil, or_false] at h1
      rcases h1 with rfl | rfl | rfl | rfl
      · exact ⟨circ3, circ3_up⟩
      · exact ⟨circ5, circ5_up⟩
      · exact ⟨circ7, circ7_up⟩
      · exact ⟨lineL_good (by omega), lineL_up _⟩
    have lks : ks.length ≤ 4 := by
      rw [← hks]
      exact Nat.le_trans (List.length_filter_le _ _) (by simp)
    refine ⟨n, most, c + 1, o1, rfl, ?_, hp1, by omega, hm, fun l o2 hl hlm hlu hp2 => ?_⟩
    · rw [List.append_assoc]; exact at0 _ _
    rw [List.append_assoc, set0]
    simp only [↓sNext, ↓sBreak, ↓sCont, ↓sDrop, ↓sRet, ↓sRetN, ↓sIf, ↓sAsg, ↓agName, ↓agNil, ↓agCons, ↓agTup, ↓sPar, ↓sFor, ↓aV, ↓lk, ↓aC, ↓aOp, ↓aUn, ↓aCall, ↓aNil, ↓aCons, ↓aIf, ↓aTest, ↓aAnd, ↓aOr, ↓aNot, ↓aAndV, ↓aOrV, ↓aNotV, ↓aI, ↓aI0, ↓aNeg, ↓aIsN, ↓isNone, ↓aTup, ↓purs, ↓aLst, ↓aLstO, ↓aIx, ↓gi0, ↓gi1, ↓gi2, ↓giN, ↓a1, ↓aLen, ↓aAbs, ↓aInt, ↓aStr, ↓aIsi, ↓btOf, ↓BT.isB, ↓aYes, ↓aiSeq, wipeL, ↓startL, List.map, List.set, List.replicate, List.length, List.append, List.cons_append, List.nil_append, ↓aMt, ↓isLs, ↓aLc, ↓aLcO, Bool.false_bne, Bool.true_bne, Bool.xor_false, Bool.false_xor, Bool.true_xor, Bool.not_true, Bool.not_false, decide_eq_true_eq, if_true, if_false, ite_true, ite_false, reduceIte, Bool.false_eq_true, List.getElem?_cons_zero, List.getElem?_cons_succ, ↓aLt, ↓aLe, ↓aGt, ↓aGe, ↓aSub, ↓aMul, ↓aDiv, ↓aMod, ↓aPow, true_and, and_true, aRep]
    refine ⟨_, rfl, by decide, by decide, small_sl (by simp), ?_⟩
    simp only [aAdd]
    have at2 : (S.set n o2 ++ ([O.lst [D.p (lotP (circ 3 [1])), D.p (lotP (circ 5 [1, 2])), D.p (lotP (circ 7 [1, 2, 4])), D.p (lotP (lineL v))]] ++ [O.lst ((ks.map lotP).map .p)]))[(S.set n o1 ++ [O.lst [D.p (lotP (circ 3 [1])), D.p (lotP (circ 5 [1, 2])), D.p (lotP (circ 7 [1, 2, 4])), D.p (lotP (lineL v))]]).length]? = some (.lst ((ks.map lotP).map .p)) := by
      rw [List.getElem?_append_right (by simp), List.length_append, List.length_set, List.length_set, Nat.add_sub_cancel_left]
      rfl
    refine ⟨_, ks.map lotP, rfl, at2, small_sl (by rw [List.length_map]; simp; omega), ?_⟩
    have hall : ∀ x ∈ (List.replicate (4 : Int).toNat [lotP l]).flatten ++ ks.map lotP, ∃ l', x = lotP l' ∧ (Good l' ∧ l'.ps.Pairwise ltA) ∧ l'.m ≤ most := fun x hx => by
      rcases List.mem_append.mp hx with z | z
      · have : x = lotP l := by simpa using z
        exact ⟨l, this, ⟨hl, hlu⟩, hlm⟩
      · obtain ⟨l', h1, rfl⟩ := List.mem_map.mp z
        exact ⟨l', rfl, (gks l' h1).1, (gks l' h1).2⟩
    refine ⟨n, _, c + 1001, o2, .inl rfl, at0 _ _, hp2.le (by omega), by omega, ?_, ?_, fun x o3 hx hp3 => ?_⟩
    · intro q
      have := congrArg List.length q
      simp at this
    · rw [List.length_append, List.length_map]
      simp
      omega
    · obtain ⟨l', rfl, g1, g2⟩ := hall x hx
      rw [set0]
      exact Cut.set hB (hp3.bel _) (h l' o3 g1.1 g2 g1.2 (hp3.le (by omega)))
end
end Lw
/-! What is led along serves no less. -/
namespace Jm
theorem parts_map (f : Nat → Nat) (r : List Nat) (x : Nat) : parts (r.map f) (f x) = (parts r x).map (List.map f) := by
  unfold parts
  rw [List.length_map, List.map_map]
  refine List.map_congr_left fun i _ => ?_
  simp [List.map_take, List.map_drop]
theorem serves_lead {m m2 : Nat} {ps ps2 : List (Nat × Nat)} (f : Nat → Nat) (low : ∀ k, k < m → f k < m2) (go : ∀ a b, a < m → b < m → (a, b) ∈ ps → (f a, f b) ∈ ps2) {n : Nat} (h : Serves m ps n) : Serves m2 ps2 n := by
  obtain ⟨row, h⟩ := h
  refine ⟨row.map f, kept_of (F := fun row => ∃ r, Kept m ps (n - 1) r ∧ row = r.map f) ?_ ⟨row, h, rfl⟩⟩
  rintro _ ⟨r, hr, rfl⟩
  obtain ⟨h1, h2, h3⟩ := hr.len
  obtain ⟨x, h4, h5, h6⟩ := kept_step hr
  refine ⟨by rw [List.length_map]; exact h1, ⟨fun v hv => ?_, ?_⟩, f x, low x h4, fun v hv => ?_, fun p hp => ?_⟩
  · obtain ⟨u, hu, rfl⟩ := List.mem_map.mp hv
    exact low u (h2 u hu)
  · rw [List.pairwise_map]
    exact (List.Pairwise.and_mem.mp h3).imp fun {a b} h => go b a (h2 b h.2.1) (h2 a h.1) h.2.2
  · obtain ⟨u, hu, rfl⟩ := List.mem_map.mp hv
    exact go x u h4 (h2 u hu) (h5 u hu)
  · rw [parts_map] at hp
    obtain ⟨q, hq, rfl⟩ := List.mem_map.mp hp
    exact ⟨q, h6 q hq, rfl⟩
theorem serves_zero {m : Nat} {ps : List (Nat × Nat)} : Serves m ps 0 ↔ Serves m ps 1 := Iff.rfl
theorem reach_mono {m m2 : Nat} {ps ps2 : List (Nat × Nat)} (h : ∀ n, Serves m ps n → Serves m2 ps2 n) : reach m ps ≤ reach m2 ps2 := by
  have h5 := reach_le5 m ps
  by_cases h0 : reach m ps = 0
  · omega
  · exact (reach_iff (by omega) h5).mpr (h _ ((reach_iff (by omega) h5).mp (Nat.le_refl _)))
theorem reach_is {m : Nat} {ps : List (Nat × Nat)} (irr : ∀ a, (a, a) ∉ ps) (asym : ∀ a b, (a, b) ∈ ps → (b, a) ∉ ps) {n : Nat} (h1 : 1 ≤ n) (h5 : n ≤ 4) (h : Serves m ps n) (hm : m + 1 < 2 ^ (n + 1)) : reach m ps = n := by
  have a := (reach_iff h1 (by omega)).mpr h
  refine Nat.le_antisymm (Classical.byContradiction fun q => ?_) a
  have := serves_many irr asym ((reach_iff (m := m) (ps := ps) (n := n + 1) (by omega) (by omega)).mp (by omega)) (by omega)
  omega
/-- all marks are kept where each has a later one -/
theorem serves2_all {m : Nat} {ps : List (Nat × Nat)} (h0 : 0 < m) (h : ∀ y, y < m → ∃ x, x < m ∧ (x, y) ∈ ps) : Serves m ps 2 := by
  refine ⟨[0], kept_of (F := fun r => ∃ y, y < m ∧ r = [y]) ?_ ⟨0, h0, rfl⟩⟩
  rintro _ ⟨y, hy, rfl⟩
  obtain ⟨x, h1, h2⟩ := h y hy
  refine ⟨rfl, ⟨fun v hv => by rw [List.mem_singleton.mp hv]; exact hy, List.pairwise_singleton _ _⟩, x, h1, fun v hv => by rw [List.mem_singleton.mp hv]; exact h2, fun p hp => ⟨x, h1, ?_⟩⟩
  simpa [parts] using hp
/-- all rows of two are kept where each has a later mark -/
theorem serves3_all {m : Nat} {ps : List (Nat × Nat)} (low : ∀ q ∈ ps, q.1 < m ∧ q.2 < m) (h0 : ps ≠ []) (h : ∀ q ∈ ps, ∃ x, (x, q.1) ∈ ps ∧ (x, q.2) ∈ ps) : Serves m ps 3 := by
  obtain ⟨q0, hq0⟩ := List.exists_mem_of_ne_nil ps h0
  refine ⟨[q0.2, q0.1], kept_of (F := fun r => ∃ q ∈ ps, r = [q.2, q.1]) ?_ ⟨q0, hq0, rfl⟩⟩
  rintro _ ⟨q, hq, rfl⟩
  obtain ⟨x, h1, h2⟩ := h q hq
  refine ⟨rfl, ⟨fun v hv => ?_, ?_⟩, x, (low _ h1).1, fun v hv => ?_, fun p hp => ?_⟩
  · have : v = q.2 ∨ v = q.1 := by simpa using hv
    rcases this with rfl | rfl
    · exact (low q hq).2
    · exact (low q hq).1
  · simpa using hq
  · have : v = q.2 ∨ v = q.1 := by simpa using hv
    rcases this with rfl | rfl
    · exact h2
    · exact h1
  · have : p = [q.1, x] ∨ p = [q.2, x] := by simpa [parts, List.range_succ] using hp
    rcases this with rfl | rfl
    · exact ⟨(x, q.1), h1, rfl⟩
    · exact ⟨(x, q.2), h2, rfl⟩
end Jm
/-! One lot beside another one. -/
namespace Jm
/-- the arrows of two lots, the second one's marks later than all of the first one's -/
structure Beside (a b : Nat) (A B ps : List (Nat × Nat)) : Prop where
  lowA : ∀ q ∈ A, q.1 < a ∧ q.2 < a
  lowB : ∀ q ∈ B, q.1 < b ∧ q.2 < b
  mem : ∀ x y, (x, y) ∈ ps ↔ (x, y) ∈ A ∨ (∃ u v, (u, v) ∈ B ∧ x = a + u ∧ y = a + v) ∨ (∃ u, u < b ∧ x = a + u ∧ y < a)
section
variable {a b : Nat} {A B ps : List (Nat × Nat)} (h : Beside a b A B ps)
include h
theorem bes_up {x y : Nat} (hxy : (x, y) ∈ ps) (hy : a ≤ y) : a ≤ x := by
  rcases (h.mem x y).mp hxy with q | ⟨u, v, _, rfl, rfl⟩ | ⟨u, _, rfl, q⟩
  · have := (h.lowA _ q).2
    have : y < a := this
    omega
  · omega
  · omega
theorem bes_inB {x y : Nat} (hxy : (a + x, a + y) ∈ ps) : (x, y) ∈ B := by
  rcases (h.mem _ _).mp hxy with q | ⟨u, v, q, e1, e2⟩ | ⟨u, _, _, q⟩
  · have : a + x < a := (h.lowA _ q).1
    omega
  · have e1 : u = x := by omega
    have e2 : v = y := by omega
    rw [← e1, ← e2]
    exact q
  · omega
theorem bes_inA {x y : Nat} (hxy : (x, y) ∈ ps) (hx : x < a) : (x, y) ∈ A := by
  rcases (h.mem _ _).mp hxy with q | ⟨u, v, q, e1, e2⟩ | ⟨u, _, e1, q⟩
  · exact q
  · omega
  · omega
theorem bes_fromA {n : Nat} (s : Serves a A n) : Serves (a + b) ps n := serves_lead (fun k => k) (fun k hk => by show k < a + b; omega) (fun x y _ _ hxy => (h.mem x y).mpr (.inl hxy)) s
theorem bes_fromB {n : Nat} (s : Serves b B n) : Serves (a + b) ps n := serves_lead (fun k => a + k) (fun k hk => by show a + k < a + b; omega) (fun x y _ _ hxy => (h.mem _ _).mpr (.inr (.inl ⟨x, y, hxy, rfl, rfl⟩))) s
theorem part_first {r : List Nat} {q x : Nat} : r ++ [x] ∈ parts (q :: r) x := by
  unfold parts
  refine List.mem_map.mpr ⟨0, List.mem_range.mpr (by simp), ?_⟩
  simp
theorem bes_ends {n : Nat} (h1 : ∃ r, Kept (a + b) ps (n + 1) r ∧ ∃ v ∈ r, a ≤ v) : ∀ j, 1 ≤ j → j ≤ n + 1 → ∃ p s, Kept (a + b) ps (n + 1) (p ++ s) ∧ s.length = j ∧ ∀ v ∈ s, a ≤ v := by
  intro j
  induction j with
  | zero => intro h; omega
  | succ j ih =>
    intro _ hj
    by_cases hj0 : j = 0
    · subst hj0
      obtain ⟨r, hr, v, hv, hav⟩ := h1
      obtain ⟨x, _, h4, h5⟩ := kept_step hr
      have hx := bes_up h (h4 v hv) hav
      have hl := hr.len.1
      cases r with
      | nil => cases hv
      | cons q r => exact ⟨r, [x], h5 _ (part_first h), rfl, fun v hv => by rw [List.mem_singleton.mp hv]; exact hx⟩
    · obtain ⟨p, s, hk, hs, hav⟩ := ih (by omega) (by omega)
      have hl := hk.len.1
      rw [List.length_append] at hl
      cases p with
      | nil => simp at hl; omega
      | cons q p =>
        obtain ⟨x, _, h4, h5⟩ := kept_step hk
        have hx : a ≤ x := by
          cases s with
          | nil => simp at hs; omega
          | cons v s => exact bes_up h (h4 v (by simp)) (hav v (by simp))
        have := h5 _ (part_first h (r := p ++ s))
        rw [List.append_assoc] at this
        refine ⟨p, s ++ [x], this, by rw [List.length_append, hs]; rfl, fun v hv => ?_⟩
        rcases List.mem_append.mp hv with z | z
        · exact hav v z
        · rw [List.mem_singleton.mp z]; exact hx
theorem bes_split {n : Nat} (s : Serves (a + b) ps (n + 2)) : Serves a A (n + 2) ∨ Serves b B (n + 2) := by
  by_cases h1 : ∃ r, Kept (a + b) ps (n + 1) r ∧ ∃ v ∈ r, a ≤ v
  · right
    obtain ⟨p, s, hk, hs, hav⟩ := bes_ends h h1 (n + 1) (by omega) (by omega)
    have hp : p = [] := by
      have := hk.len.1
      rw [List.length_append] at this
      exact List.length_eq_zero_iff.mp (by omega)
    subst hp
    have hk : Kept (a + b) ps (n + 1) s := hk
    have es : s = (s.map fun v => v - a).map fun v => a + v := by
      rw [List.map_map]
      conv => lhs; rw [← List.map_id s]
      refine List.map_congr_left fun v hv => ?_
      have := hav v hv
      show v = a + (v - a)
      omega
    refine ⟨s.map fun v => v - a, kept_of (F := fun r => Kept (a + b) ps (n + 1) (r.map fun v => a + v)) (fun r hr => ?_) (by rw [← es]; exact hk)⟩
    obtain ⟨h2, h3, h4⟩ := hr.len
    rw [List.length_map] at h2
    obtain ⟨x, h5, h6, h7⟩ := kept_step hr
    have hx : a ≤ x := by
      cases r with
      | nil => simp at h2
      | cons v r => exact bes_up h (h6 (a + v) (by simp)) (by omega)
    obtain ⟨x', rfl⟩ : ∃ x', x = a + x' := ⟨x - a, by omega⟩
    refine ⟨h2, ⟨fun v hv => ?_, ?_⟩, x', by omega, fun v hv => ?_, fun p hp => ?_⟩
    · have := h3 (a + v) (List.mem_map.mpr ⟨v, hv, rfl⟩)
      omega
    · rw [List.pairwise_map] at h4
      exact h4.imp fun {u v} z => bes_inB h z
    · exact bes_inB h (h6 (a + v) (List.mem_map.mpr ⟨v, hv, rfl⟩))
    · refine h7 _ ?_
      rw [parts_map]
      exact List.mem_map.mpr ⟨p, hp, rfl⟩
  · left
    have all : ∀ r, Kept (a + b) ps (n + 1) r → ∀ v ∈ r, v < a := fun r hr v hv => Classical.byContradiction fun q => h1 ⟨r, hr, v, hv, by omega⟩
    obtain ⟨r, hr⟩ := s
    refine ⟨r, kept_of (F := Kept (a + b) ps (n + 1)) (fun r hr => ?_) hr⟩
    obtain ⟨h2, h3, h4⟩ := hr.len
    obtain ⟨x, h5, h6, h7⟩ := kept_step hr
    have hx : x < a := by
      cases r with
      | nil => simp at h2
      | cons v r => exact all _ (h7 _ (part_first h)) x (by simp)
    refine ⟨h2, ⟨all r hr, ?_⟩, x, hx, fun v hv => bes_inA h (h6 v hv) hx, fun p hp => h7 p hp⟩
    exact (List.Pairwise.and_mem.mp h4).imp fun {u v} z => bes_inA h z.2.2 (all r hr v z.2.1)
theorem bes_iff {n : Nat} (hn : 1 ≤ n) : Serves (a + b) ps n ↔ Serves a A n ∨ Serves b B n := by
  refine ⟨fun s => ?_, fun s => s.elim (bes_fromA h) (bes_fromB h)⟩
  match n, hn with
  | 1, _ =>
    have := serves_one.mp s
    by_cases ha : 0 < a
    · exact .inl (serves_one.mpr ha)
    · exact .inr (serves_one.mpr (by omega))
  | n + 2, _ => exact bes_split h s
theorem bes_reach : reach (a + b) ps = max (reach a A) (reach b B) := by
  refine Nat.le_antisymm ?_ (Nat.max_le.mpr ⟨reach_mono fun n s => bes_fromA h s, reach_mono fun n s => bes_fromB h s⟩)
  have h5 := reach_le5 (a + b) ps
  by_cases h0 : reach (a + b) ps = 0
  · omega
  · have s := (reach_iff (m := a + b) (ps := ps) (n := reach (a + b) ps) (by omega) h5).mp (Nat.le_refl _)
    rcases (bes_iff h (by omega)).mp s with q | q
    · have := (reach_iff (by omega) h5).mpr q
      omega
    · have := (reach_iff (by omega) h5).mpr q
      omega
end
end Jm
/-! One lot within another one: the upper bound. -/
namespace Jm
/-- the marks of a lot B within each mark of a lot A -/
structure Within (a b : Nat) (A B W : List (Nat × Nat)) : Prop where
  lowA : ∀ q ∈ A, q.1 < a ∧ q.2 < a
  lowB : ∀ q ∈ B, q.1 < b ∧ q.2 < b
  irrA : ∀ u, (u, u) ∉ A
  asymA : ∀ u v, (u, v) ∈ A → (v, u) ∉ A
  mem : ∀ v u, v < a * b → u < a * b → ((v, u) ∈ W ↔ (v / b = u / b ∧ (v % b, u % b) ∈ B) ∨ (v / b, u / b) ∈ A)
theorem sub_drop {t r : List Nat} (h : List.Sublist t r) : t.length < r.length → ∃ i, i < r.length ∧ List.Sublist t (r.take i ++ r.drop (i + 1)) := by
  induction h with
  | slnil => intro h; simp at h
  | cons y h ih => intro _; exact ⟨0, by simp, by simpa using h⟩
  | cons_cons y h ih =>
    intro hl
    obtain ⟨i, h1, h2⟩ := ih (by simpa using hl)
    exact ⟨i + 1, by simpa using h1, by simpa using h2.cons_cons y⟩
theorem sub_part {t r : List Nat} {x : Nat} (h : List.Sublist t r) (hl : t.length < r.length) : ∃ p ∈ parts r x, List.Sublist (t ++ [x]) p := by
  obtain ⟨i, h1, h2⟩ := sub_drop h hl
  exact ⟨_, List.mem_map.mpr ⟨i, List.mem_range.mpr h1, rfl⟩, h2.append (List.Sublist.refl _)⟩
theorem part_of {s : List Nat} {x : Nat} {p : List Nat} (h : p ∈ parts s x) : ∃ i, i < s.length ∧ p = (s.take i ++ s.drop (i + 1)) ++ [x] := by
  obtain ⟨i, hi, rfl⟩ := List.mem_map.mp h
  exact ⟨i, List.mem_range.mp hi, rfl⟩
theorem drop_sub (s : List Nat) (i : Nat) : List.Sublist (s.take i ++ s.drop (i + 1)) s := by
  conv => rhs; rw [← List.take_append_drop i s]
  refine List.Sublist.append (List.Sublist.refl _) ?_
  rw [← List.drop_drop]
  exact List.drop_sublist _ _
theorem drop_len {s : List Nat} {i : Nat} (h : i < s.length) : (s.take i ++ s.drop (i + 1)).length + 1 = s.length := by
  rw [List.length_append, List.length_take, List.length_drop]
  omega
section
variable {a b p q : Nat} {A B W : List (Nat × Nat)}
/-- all rows of so many marks go, where no more slots are served -/
theorem all_gone {m n : Nat} {ps : List (Nat × Nat)} (h : ¬ Serves m ps (n + 1)) {o : List Nat} (hl : o.length = n) (hc : Chain m ps o) : Gone (lv m ps n) o :=
  Classical.byContradiction fun g => h ⟨o, (lv_chain m ps n o).mpr ⟨hl, hc⟩, g⟩
def Hold (a b : Nat) (A : List (Nat × Nat)) (K : List Nat → Prop) (o : List Nat) : Prop := Chain a A o ∧ ∃ r t, K r ∧ List.Sublist t r ∧ t.map (· / b) = o
variable (h : Within a b A B W) (hp : 1 ≤ p) (hq : 1 ≤ q)
include h hp hq
/-- the next mark stays in the last block, or leads to a row that isn't held -/
theorem wit_stay {o1 : List Nat} {c : Nat} (hc : Chain a A (o1 ++ [c]))
    (hx : ∀ c', c' < a → (∀ u ∈ o1 ++ [c], (c', u) ∈ A) → ∃ o2, List.Sublist o2 (o1 ++ [c]) ∧ o2.length < p + q - 1 ∧ ¬ Hold a b A (Kept (a * b) W (p + q - 1)) (o2 ++ [c']))
    {r t s : List Nat} (hr : Kept (a * b) W (p + q - 1) r) (hs : List.Sublist (t ++ s) r) (ht : t.map (· / b) = o1) (hsc : ∀ v ∈ s, v / b = c) (hne : s ≠ []) :
    ∃ x, x < a * b ∧ (∀ v ∈ r, (x, v) ∈ W) ∧ (∀ k ∈ parts r x, Kept (a * b) W (p + q - 1) k) ∧ x / b = c := by
  obtain ⟨x, h1, h2, h3⟩ := kept_step hr
  refine ⟨x, h1, h2, h3, Classical.byContradiction fun hcx => ?_⟩
  obtain ⟨hl, hlow, hpw⟩ := hr.len
  obtain ⟨sl, hsl⟩ := List.exists_mem_of_ne_nil s hne
  have inr : ∀ v ∈ t ++ s, v ∈ r := fun v hv => hs.subset hv
  have hslr := inr sl (List.mem_append_right _ hsl)
  have hxc : (x / b, c) ∈ A := by
    rcases (h.mem x sl h1 (hlow sl hslr)).mp (h2 sl hslr) with ⟨e, _⟩ | e
    · rw [hsc sl hsl] at e
      exact absurd e hcx
    · rw [hsc sl hsl] at e
      exact e
  have hall : ∀ u ∈ o1 ++ [c], (x / b, u) ∈ A := fun u hu => by
    rcases List.mem_append.mp hu with z | z
    · rw [← ht] at z
      obtain ⟨v, hv, rfl⟩ := List.mem_map.mp z
      have hvr := inr v (List.mem_append_left _ hv)
      rcases (h.mem x v h1 (hlow v hvr)).mp (h2 v hvr) with ⟨e, _⟩ | e
      · have hcv : (c, v / b) ∈ A := by
          have := hc.2
          rw [List.pairwise_append] at this
          exact this.2.2 (v / b) (by rw [← ht]; exact List.mem_map.mpr ⟨v, hv, rfl⟩) c (by simp)
        rw [← e] at hcv
        exact absurd hxc (h.asymA _ _ hcv)
      · exact e
    · rw [List.mem_singleton.mp z]
      exact hxc
  have hxa : x / b < a := (h.lowA _ hxc).1
  obtain ⟨o2, h4, h5, h6⟩ := hx (x / b) hxa hall
  have e1 : (t ++ [sl]).map (· / b) = o1 ++ [c] := by rw [List.map_append, ht, List.map_singleton, hsc sl hsl]
  rw [← e1] at h4
  obtain ⟨t2, h7, h8⟩ := List.sublist_map_iff.mp h4
  have h9 : List.Sublist t2 r := h7.trans ((List.Sublist.append (List.Sublist.refl t) (List.singleton_sublist.mpr hsl)).trans hs)
  obtain ⟨k, hk, hk2⟩ := sub_part (x := x) h9 (by have := congrArg List.length h8; rw [List.length_map] at this; omega)
  refine h6 ⟨?_, k, t2 ++ [x], h3 k hk, hk2, by rw [List.map_append, ← h8]; rfl⟩
  refine Chain.snoc (hc.sub (by rw [← e1]; exact h4)) hxa fun v hv => hall v ?_
  rw [← e1]
  exact h4.subset hv
theorem wit_not {o1 : List Nat} {c : Nat} (hB : ¬ Serves b B (q + 1)) (hol : o1.length + 1 ≤ p)
    (hx : ∀ c', c' < a → (∀ u ∈ o1 ++ [c], (c', u) ∈ A) → ∃ o2, List.Sublist o2 (o1 ++ [c]) ∧ o2.length < p + q - 1 ∧ ¬ Hold a b A (Kept (a * b) W (p + q - 1)) (o2 ++ [c'])) : ¬ Hold a b A (Kept (a * b) W (p + q - 1)) (o1 ++ [c]) := by
  rintro ⟨hc, r0, t0, hr0, ht0, e0⟩
  -- more marks in the last block
  have c2 : ∀ m, 1 ≤ m → m ≤ q → ∃ r t s, Kept (a * b) W (p + q - 1) r ∧ List.Sublist (t ++ s) r ∧ t.map (· / b) = o1 ∧ (∀ v ∈ s, v / b = c) ∧ s.length = m := by
    intro m
    induction m with
    | zero => intro h; omega
    | succ m ih =>
      intro _ hm
      by_cases hm0 : m = 0
      · subst hm0
        obtain ⟨t, s, e1, e2, e3⟩ := List.map_eq_append_iff.mp e0
        refine ⟨r0, t, s, hr0, by rw [← e1]; exact ht0, e2, fun v hv => ?_, ?_⟩
        · have : v / b ∈ s.map (· / b) := List.mem_map.mpr ⟨v, hv, rfl⟩
          rw [e3] at this
          exact List.mem_singleton.mp this
        · have := congrArg List.length e3
          simpa using this
      · obtain ⟨r, t, s, hr, hs, ht, hsc, hsl⟩ := ih (by omega) (by omega)
        have hne : s ≠ [] := fun e => by rw [e] at hsl; simp at hsl; omega
        obtain ⟨x, h1, h2, h3, h4⟩ := wit_stay h hp hq hc hx hr hs ht hsc hne
        have hl := hr.len.1
        have htl : t.length = o1.length := by rw [← ht, List.length_map]
        obtain ⟨k, hk, hk2⟩ := sub_part (x := x) hs (by rw [List.length_append]; omega)
        refine ⟨k, t, s ++ [x], h3 k hk, by rw [← List.append_assoc]; exact hk2, ht, fun v hv => ?_, by rw [List.length_append, hsl]; rfl⟩
        rcases List.mem_append.mp hv with z | z
        · exact hsc v z
        · rw [List.mem_singleton.mp z]; exact h4
  -- the last block's rows go
  have c3 : ∀ sb, Gone (lv b B q) sb → ∀ r t s, Kept (a * b) W (p + q - 1) r → List.Sublist (t ++ s) r → t.map (· / b) = o1 → (∀ v ∈ s, v / b = c) → s.map (· % b) = sb → False := by
    intro sb g
    induction g with
    | @mk row marks f h1 h2 h3 ih =>
      intro r t s hr hs ht hsc e
      obtain ⟨hrl, _⟩ := (lv_chain b B q row).mp ⟨marks, h1⟩
      have hsl : s.length = q := by rw [← hrl, ← e, List.length_map]
      have hne : s ≠ [] := fun z => by rw [z] at hsl; simp at hsl; omega
      obtain ⟨x, g1, g2, g3, g4⟩ := wit_stay h hp hq hc hx hr hs ht hsc hne
      obtain ⟨hl, hlow, _⟩ := hr.len
      have hb : 0 < b := by
        rcases Nat.eq_zero_or_pos b with z | z
        · rw [z, Nat.mul_zero] at g1; omega
        · exact z
      have hz : x % b ∈ marks := by
        refine ((lv_marks b B q row marks h1).2 (x % b)).mpr ⟨Nat.mod_lt _ hb, fun v hv => ?_⟩
        rw [← e] at hv
        obtain ⟨u, hu, rfl⟩ := List.mem_map.mp hv
        have hur : u ∈ r := hs.subset (List.mem_append_right _ hu)
        rcases (h.mem x u g1 (hlow u hur)).mp (g2 u hur) with z | z
        · exact z.2
        · rw [g4, hsc u hu] at z
          exact absurd z (h.irrA _)
      obtain ⟨i, hi, e2⟩ := part_of (h2 _ hz)
      have hi2 : i < s.length := by rw [hsl, ← hrl]; exact hi
      have htl : t.length = o1.length := by rw [← ht, List.length_map]
      have hdl := drop_len hi2
      have hs2 : List.Sublist (t ++ (s.take i ++ s.drop (i + 1))) r := (List.Sublist.append (List.Sublist.refl t) (drop_sub s i)).trans hs
      obtain ⟨k, hk, hk2⟩ := sub_part (x := x) hs2 (by rw [List.length_append]; omega)
      refine ih _ hz k t ((s.take i ++ s.drop (i + 1)) ++ [x]) (g3 k hk) (by rw [← List.append_assoc]; exact hk2) ht (fun v hv => ?_) ?_
      · rcases List.mem_append.mp hv with z | z
        · exact hsc v ((drop_sub s i).subset z)
        · rw [List.mem_singleton.mp z]; exact g4
      · rw [e2, List.map_append, List.map_append, List.map_take, List.map_drop, e]
        rfl
  obtain ⟨r, t, s, hr, hs, ht, hsc, hsl⟩ := c2 q hq (Nat.le_refl _)
  obtain ⟨hl, hlow, hpw⟩ := hr.len
  have hsr : List.Sublist s r := (List.sublist_append_right t s).trans hs
  refine c3 (s.map (· % b)) (all_gone hB (by rw [List.length_map, hsl]) ⟨fun v hv => ?_, ?_⟩) r t s hr hs ht hsc rfl
  · obtain ⟨u, hu, rfl⟩ := List.mem_map.mp hv
    have := hlow u (hsr.subset hu)
    refine Nat.mod_lt _ ?_
    rcases Nat.eq_zero_or_pos b with z | z
    · rw [z, Nat.mul_zero] at this; omega
    · exact z
  · rw [List.pairwise_map]
    refine (List.Pairwise.and_mem.mp (hpw.sublist hsr)).imp fun {u v} z => ?_
    obtain ⟨z1, z2, z3⟩ := z
    rcases (h.mem v u (hlow v (hsr.subset z2)) (hlow u (hsr.subset z1))).mp z3 with w | w
    · exact w.2
    · rw [hsc u z1, hsc v z2] at w
      exact absurd w (h.irrA _)
theorem wit_upper (hA : ¬ Serves a A (p + 1)) (hB : ¬ Serves b B (q + 1)) : ¬ Serves (a * b) W (p + q) := by
  rintro ⟨r, hr⟩
  have last : ∀ o : List Nat, o ≠ [] → ∃ o1 c, o = o1 ++ [c] := fun o ho => ⟨o.dropLast, o.getLast ho, (List.dropLast_concat_getLast ho).symm⟩
  have full : ∀ o, Gone (lv a A p) o → ¬ Hold a b A (Kept (a * b) W (p + q - 1)) o := by
    intro o g
    induction g with
    | @mk row marks f h1 h2 h3 ih =>
      obtain ⟨hrl, hrc⟩ := (lv_chain a A p row).mp ⟨marks, h1⟩
      obtain ⟨o1, c, rfl⟩ := last row (fun e => by rw [e] at hrl; simp at hrl; omega)
      refine wit_not h hp hq hB (by rw [List.length_append] at hrl; simp at hrl; omega) fun c' hc' hall => ?_
      have hm : c' ∈ marks := ((lv_marks a A p _ marks h1).2 c').mpr ⟨hc', hall⟩
      obtain ⟨i, hi, e2⟩ := part_of (h2 _ hm)
      refine ⟨_, drop_sub _ i, by have := drop_len hi; omega, ?_⟩
      rw [← e2]
      exact ih _ hm
  have short : ∀ d o1 c, o1.length + 1 + d = p → ¬ Hold a b A (Kept (a * b) W (p + q - 1)) (o1 ++ [c]) := by
    intro d
    induction d with
    | zero =>
      intro o1 c hl hh
      exact full _ (all_gone hA (by rw [List.length_append]; simpa using hl) hh.1) hh
    | succ d ih =>
      intro o1 c hl
      refine wit_not h hp hq hB (by omega) fun c' hc' hall => ⟨o1 ++ [c], List.Sublist.refl _, by rw [List.length_append, List.length_singleton]; omega, ih (o1 ++ [c]) c' (by rw [List.length_append, List.length_singleton]; omega)⟩
  obtain ⟨hl, hlow, _⟩ := hr.len
  cases r with
  | nil => simp at hl; omega
  | cons v r =>
    have hv := hlow v (by simp)
    have hva : v / b < a := Nat.div_lt_of_lt_mul (by rw [Nat.mul_comm]; exact hv)
    refine short (p - 1) [] (v / b) (by simp; omega) ⟨⟨fun u hu => ?_, by simp⟩, v :: r, [v], hr, by simp, rfl⟩
    have : u = v / b := by simpa using hu
    rw [this]; exact hva
end
end Jm
/-! One lot within another one: the lower bound. -/
namespace Jm
/-- whatever is short enough in a list lies in a row of the family -/
def OkS (K : List Nat → Prop) (n : Nat) (s : List Nat) : Prop := ∀ t, List.Sublist t s → t.length ≤ n → ∃ k, K k ∧ List.Sublist t k
theorem OkS.sub {K : List Nat → Prop} {n : Nat} {s s' : List Nat} (h : OkS K n s) (hs : List.Sublist s' s) : OkS K n s' := fun t ht hl => h t (ht.trans hs) hl
theorem sub_snoc {t s : List Nat} {x : Nat} (h : List.Sublist t (s ++ [x])) : List.Sublist t s ∨ ∃ t1, t = t1 ++ [x] ∧ List.Sublist t1 s := by
  obtain ⟨t1, t2, rfl, h1, h2⟩ := List.sublist_append_iff.mp h
  cases t2 with
  | nil => left; rw [List.append_nil]; exact h1
  | cons y t2 =>
    right
    have hl := h2.length_le
    have : t2 = [] := List.length_eq_zero_iff.mp (by rw [List.length_cons, List.length_singleton] at hl; omega)
    subst this
    have : y = x := List.mem_singleton.mp (h2.subset (by simp))
    subst this
    exact ⟨t1, rfl, h1⟩
theorem ok_ext {m n : Nat} {ps : List (Nat × Nat)} {s : List Nat} (h : OkS (Kept m ps n) n s) (hl : s.length ≤ n) : ∃ x, x < m ∧ (∀ v ∈ s, (x, v) ∈ ps) ∧ OkS (Kept m ps n) n (s ++ [x]) := by
  obtain ⟨k, hk, hs⟩ := h s (List.Sublist.refl _) hl
  obtain ⟨x, h1, h2, h3⟩ := kept_step hk
  refine ⟨x, h1, fun v hv => h2 v (hs.subset hv), fun t ht htl => ?_⟩
  rcases sub_snoc ht with z | ⟨t1, rfl, z⟩
  · exact h t z htl
  · rw [List.length_append, List.length_singleton] at htl
    obtain ⟨p, hp, hp2⟩ := sub_part (x := x) (z.trans hs) (by rw [hk.len.1]; omega)
    exact ⟨p, h3 p hp, hp2⟩
/-- two lists in the order of an asymmetric relation -/
theorem psub {R : Nat → Nat → Prop} (irr : ∀ u, ¬ R u u) (asym : ∀ u v, R u v → ¬ R v u) : ∀ {o t : List Nat}, o.Pairwise R → t.Pairwise R → (∀ u ∈ t, u ∈ o) → List.Sublist t o
  | _, [], _, _, _ => List.nil_sublist _
  | [], z :: t, _, _, h => absurd (h z (by simp)) (by simp)
  | y :: o, z :: t, ho, ht, h => by
    obtain ⟨ho1, ho2⟩ := List.pairwise_cons.mp ho
    obtain ⟨ht1, ht2⟩ := List.pairwise_cons.mp ht
    by_cases e : z = y
    · subst e
      refine (psub irr asym ho2 ht2 fun u hu => ?_).cons_cons z
      rcases List.mem_cons.mp (h u (List.mem_cons_of_mem _ hu)) with w | w
      · subst w
        exact absurd (ht1 u hu) (irr u)
      · exact w
    · have hz : z ∈ o := by
        rcases List.mem_cons.mp (h z (by simp)) with w | w
        · exact absurd w e
        · exact w
      have hyz := ho1 z hz
      refine (psub irr asym ho2 ht fun u hu => ?_).cons y
      rcases List.mem_cons.mp (h u hu) with w | w
      · subst w
        rcases List.mem_cons.mp hu with w2 | w2
        · exact absurd w2.symm e
        · exact absurd (ht1 u w2) (asym _ _ hyz)
      · exact w
theorem dedup : ∀ l : List Nat, ∃ o, List.Sublist o l ∧ o.Nodup ∧ ∀ u ∈ l, u ∈ o
  | [] => ⟨[], List.Sublist.refl _, List.nodup_nil, fun u hu => hu⟩
  | y :: l => by
    obtain ⟨o, h1, h2, h3⟩ := dedup l
    by_cases hy : y ∈ o
    · refine ⟨o, h1.cons y, h2, fun u hu => ?_⟩
      rcases List.mem_cons.mp hu with rfl | hu
      · exact hy
      · exact h3 u hu
    · refine ⟨y :: o, h1.cons_cons y, List.nodup_cons.mpr ⟨hy, h2⟩, fun u hu => ?_⟩
      rcases List.mem_cons.mp hu with rfl | hu
      · simp
      · exact List.mem_cons_of_mem _ (h3 u hu)
section
variable {a b p q : Nat} {A B W : List (Nat × Nat)}
/-- rows that can be gone on with -/
structure Go (a b p q : Nat) (A B W : List (Nat × Nat)) (r : List Nat) : Prop where
  ch : Chain (a * b) W r
  outer : ∀ t, List.Sublist t (r.map (· / b)) → t.Nodup → t.length ≤ p - 1 → ∃ k, Kept a A (p - 1) k ∧ List.Sublist t k
  inner : ∀ r' v, r = r' ++ [v] → OkS (Kept b B (q - 1)) (q - 1) ((r.filter fun u => decide (u / b = v / b)).map (· % b))
theorem code_div {c y b : Nat} (hy : y < b) : (c * b + y) / b = c := by
  rw [Nat.mul_comm, Nat.mul_add_div (by omega), Nat.div_eq_of_lt hy, Nat.add_zero]
theorem code_mod {c y b : Nat} (hy : y < b) : (c * b + y) % b = y := by
  rw [Nat.mul_comm, Nat.mul_add_mod, Nat.mod_eq_of_lt hy]
theorem code_lt {c y a b : Nat} (hc : c < a) (hy : y < b) : c * b + y < a * b := by
  have : (c + 1) * b ≤ a * b := Nat.mul_le_mul_right b hc
  rw [Nat.add_mul, Nat.one_mul] at this
  omega
variable (h : Within a b A B W) (hp : 1 ≤ p) (hq : 1 ≤ q) (sA : Serves a A p) (sB : Serves b B q)
include h hp hq sA sB
/-- a new outer mark -/
theorem go_out {r o : List Nat} (g : Go a b p q A B W r) (ho : List.Sublist o (r.map (· / b))) (hn : o.Nodup) (hl : o.length ≤ p - 1) (hall : ∀ u ∈ r, u / b ∈ o) :
    ∃ x, x < a * b ∧ (∀ v ∈ r, (x, v) ∈ W) ∧ ∀ r1, List.Sublist r1 r → Go a b p q A B W (r1 ++ [x]) := by
  obtain ⟨k, hk, hok⟩ := g.outer o ho hn hl
  obtain ⟨c, h1, h2, h3⟩ := kept_step hk
  obtain ⟨kb, hkb⟩ := sB
  have ok0 : OkS (Kept b B (q - 1)) (q - 1) [] := fun t ht _ => ⟨kb, hkb, by rw [List.sublist_nil.mp ht]; exact List.nil_sublist _⟩
  obtain ⟨y, hy, _, oky⟩ := ok_ext ok0 (by simp)
  have hxb := code_lt h1 hy
  have later : ∀ v ∈ r, (c, v / b) ∈ A := fun v hv => h2 _ (hok.subset (hall v hv))
  have hxv : ∀ v ∈ r, (c * b + y, v) ∈ W := fun v hv => (h.mem _ v hxb (g.ch.1 v hv)).mpr (.inr (by rw [code_div hy]; exact later v hv))
  refine ⟨c * b + y, hxb, hxv, fun r1 hr1 => ⟨(g.ch.sub hr1).snoc hxb fun v hv => hxv v (hr1.subset hv), fun t ht htn htl => ?_, fun r' v e => ?_⟩⟩
  · rw [List.map_append, List.map_singleton, code_div hy] at ht
    have hm : List.Sublist (r1.map (· / b)) (r.map (· / b)) := hr1.map _
    rcases sub_snoc ht with z | ⟨t1, rfl, z⟩
    · exact g.outer t (z.trans hm) htn htl
    · rw [List.length_append, List.length_singleton] at htl
      have hn1 : t1.Nodup := htn.sublist (List.sublist_append_left _ _)
      have hw : (r.map (· / b)).Pairwise fun u w => u = w ∨ (w, u) ∈ A := by
        rw [List.pairwise_map]
        refine (List.Pairwise.and_mem.mp g.ch.2).imp fun {u v} z => ?_
        rcases (h.mem v u (g.ch.1 v z.2.1) (g.ch.1 u z.1)).mp z.2.2 with w | w
        · exact .inl w.1.symm
        · exact .inr w
      have strict : ∀ {l : List Nat}, List.Sublist l (r.map (· / b)) → l.Nodup → l.Pairwise fun u w => (w, u) ∈ A := fun {l} hl hnl =>
        ((hw.sublist hl).and hnl).imp fun {u w} z => z.1.resolve_left z.2
      have hto : List.Sublist t1 o := by
        refine psub (R := fun u w => (w, u) ∈ A) (fun u => h.irrA u) (fun u v z => h.asymA _ _ z) (strict ho hn) (strict (z.trans hm) hn1) fun u hu => ?_
        obtain ⟨v, hv, rfl⟩ := List.mem_map.mp ((z.trans hm).subset hu)
        exact hall v hv
      obtain ⟨k2, hk2, hk3⟩ := sub_part (x := c) (hto.trans hok) (by rw [hk.len.1]; omega)
      exact ⟨k2, h3 k2 hk2, hk3⟩
  · obtain ⟨_, e2⟩ := List.append_inj' e rfl
    have e2 : c * b + y = v := by simpa using e2
    rw [← e2, code_div hy, List.filter_append]
    have e3 : r1.filter (fun u => decide (u / b = c)) = [] := List.filter_eq_nil_iff.mpr fun u hu w => by
      have w : u / b = c := by simpa using w
      have := later u (hr1.subset hu)
      rw [w] at this
      exact h.irrA _ this
    rw [e3, List.nil_append, List.filter_cons_of_pos (by simp [code_div hy]), List.filter_nil, List.map_singleton, code_mod hy]
    exact oky
theorem go_step {r : List Nat} (g : Go a b p q A B W r) (hl : r.length ≤ p + q - 2) : ∃ x, x < a * b ∧ (∀ v ∈ r, (x, v) ∈ W) ∧ ∀ r1, List.Sublist r1 r → Go a b p q A B W (r1 ++ [x]) := by
  by_cases hr : r = []
  · subst hr
    exact go_out h hp hq sA sB g (o := []) (List.nil_sublist _) List.nodup_nil (by simp) (fun u hu => nomatch hu)
  · obtain ⟨r', v, rfl⟩ : ∃ r' v, r = r' ++ [v] := ⟨r.dropLast, r.getLast hr, (List.dropLast_concat_getLast hr).symm⟩
    have ok := g.inner r' v rfl
    by_cases hs : (((r' ++ [v]).filter fun u => decide (u / b = v / b)).map (· % b)).length ≤ q - 1
    · obtain ⟨y, hy, hlat, okx⟩ := ok_ext ok hs
      have hvm := g.ch.1 v (by simp)
      have hca : v / b < a := Nat.div_lt_of_lt_mul (by rw [Nat.mul_comm]; exact hvm)
      have hxb := code_lt hca hy
      have hxu : ∀ u ∈ r' ++ [v], ((v / b) * b + y, u) ∈ W := fun u hu => by
        refine (h.mem _ u hxb (g.ch.1 u hu)).mpr ?_
        rw [code_div hy, code_mod hy]
        by_cases e : u / b = v / b
        · exact .inl ⟨e.symm, hlat _ (List.mem_map.mpr ⟨u, List.mem_filter.mpr ⟨hu, by simpa using e⟩, rfl⟩)⟩
        · right
          have hur : u ∈ r' := by
            rcases List.mem_append.mp hu with z | z
            · exact z
            · rw [List.mem_singleton.mp z] at e; exact absurd rfl e
          have hvu : (v, u) ∈ W := by
            have := g.ch.2
            rw [List.pairwise_append] at this
            exact this.2.2 u hur v (by simp)
          rcases (h.mem v u hvm (g.ch.1 u hu)).mp hvu with z | z
          · exact absurd z.1.symm e
          · exact z
      refine ⟨(v / b) * b + y, hxb, hxu, fun r1 hr1 => ⟨(g.ch.sub hr1).snoc hxb fun u hu => hxu u (hr1.subset hu), fun t ht htn htl => ?_, fun r'' w e => ?_⟩⟩
      · rw [List.map_append, List.map_singleton, code_div hy] at ht
        have hm : List.Sublist (r1.map (· / b)) ((r' ++ [v]).map (· / b)) := hr1.map _
        rcases sub_snoc ht with z | ⟨t1, rfl, z⟩
        · exact g.outer t (z.trans hm) htn htl
        · refine g.outer _ ?_ htn htl
          have z2 := z.trans hm
          rw [List.map_append, List.map_singleton] at z2 ⊢
          rcases sub_snoc z2 with w | ⟨t2, rfl, w⟩
          · exact w.append (List.Sublist.refl _)
          · rw [List.nodup_append] at htn
            exact absurd rfl (htn.2.2 (v / b) (by simp) (v / b) (by simp))
      · obtain ⟨_, e2⟩ := List.append_inj' e rfl
        have e2 : (v / b) * b + y = w := by simpa using e2
        rw [← e2, code_div hy, List.filter_append, List.filter_cons_of_pos (by simp [code_div hy]), List.filter_nil, List.map_append, List.map_singleton, code_mod hy]
        exact okx.sub (((hr1.filter _).map _).append (List.Sublist.refl _))
    · obtain ⟨o0, d1, d2, d3⟩ := dedup ((r'.map (· / b)).filter fun u => decide (u ≠ v / b))
      have hcnt : ((r'.map (· / b)).filter fun u => decide (u ≠ v / b)).length + (((r' ++ [v]).filter fun u => decide (u / b = v / b)).map (· % b)).length = r'.length + 1 := by
        rw [List.length_map, List.filter_append, List.filter_cons_of_pos (by simp), List.filter_nil, List.length_append, List.length_singleton, List.filter_map, List.length_map]
        have : ∀ l : List Nat, (l.filter ((fun u => decide (u ≠ v / b)) ∘ fun x => x / b)).length + (l.filter fun u => decide (u / b = v / b)).length = l.length := by
          intro l
          induction l with
          | nil => rfl
          | cons z l ih =>
            by_cases e : z / b = v / b
            · rw [List.filter_cons_of_neg (by simp [e]), List.filter_cons_of_pos (by simpa using e), List.length_cons, List.length_cons]
              omega
            · rw [List.filter_cons_of_pos (by simp [e]), List.filter_cons_of_neg (by simpa using e), List.length_cons, List.length_cons]
              omega
        have := this r'
        omega
      rw [List.length_append, List.length_singleton] at hl
      have hd := d1.length_le
      refine go_out h hp hq sA sB g (o := o0 ++ [v / b]) ?_ ?_ ?_ fun u hu => ?_
      · rw [List.map_append, List.map_singleton]
        exact (d1.trans List.filter_sublist).append (List.Sublist.refl _)
      · rw [List.nodup_append]
        refine ⟨d2, by simp, fun u hu w hw e => ?_⟩
        rw [List.mem_singleton] at hw
        have := (List.mem_filter.mp (d1.subset hu)).2
        rw [e, hw] at this
        simp at this
      · rw [List.length_append, List.length_singleton]
        omega
      · by_cases e : u / b = v / b
        · rw [e]; simp
        · refine List.mem_append_left _ (d3 _ (List.mem_filter.mpr ⟨?_, by simpa using e⟩))
          rcases List.mem_append.mp hu with z | z
          · exact List.mem_map.mpr ⟨u, z, rfl⟩
          · rw [List.mem_singleton.mp z] at e; exact absurd rfl e
theorem wit_lower : Serves (a * b) W (p + q - 1) := by
  have start : ∀ j, j ≤ p + q - 2 → ∃ r, r.length = j ∧ Go a b p q A B W r := by
    intro j
    induction j with
    | zero =>
      intro _
      obtain ⟨k, hk⟩ := sA
      exact ⟨[], rfl, ⟨(fun v hv => nomatch hv), List.Pairwise.nil⟩, fun t ht _ _ => ⟨k, hk, by rw [List.sublist_nil.mp ht]; exact List.nil_sublist _⟩, fun r' v e => by simp at e⟩
    | succ j ih =>
      intro hj
      obtain ⟨r, hl, g⟩ := ih (by omega)
      obtain ⟨x, _, _, h3⟩ := go_step h hp hq sA sB g (by omega)
      exact ⟨r ++ [x], by rw [List.length_append, hl]; rfl, h3 r (List.Sublist.refl _)⟩
  obtain ⟨r, hl, g⟩ := start (p + q - 2) (Nat.le_refl _)
  refine ⟨r, kept_of (F := fun r => r.length = p + q - 2 ∧ Go a b p q A B W r) (fun r hr => ?_) ⟨hl, g⟩⟩
  obtain ⟨hl, g⟩ := hr
  obtain ⟨x, h1, h2, h3⟩ := go_step h hp hq sA sB g (by omega)
  refine ⟨by omega, g.ch, x, h1, h2, fun k hk => ?_⟩
  obtain ⟨i, hi, rfl⟩ := part_of hk
  have := drop_len hi
  exact ⟨by rw [List.length_append, List.length_singleton]; omega, h3 _ (drop_sub r i)⟩
end
end Jm
/-! All rows by hand; all families by bits. -/
namespace Jm
section
variable {m : Nat} {ps : List (Nat × Nat)}
/-- the marks later than all of a row, rising -/
def overL (m : Nat) (ps : List (Nat × Nat)) (r : List Nat) : List Nat := (List.range m).filter fun z => r.all fun v => decide ((z, v) ∈ ps)
theorem mem_overL {r : List Nat} {z : Nat} : z ∈ overL m ps r ↔ z < m ∧ ∀ v ∈ r, (z, v) ∈ ps := by
  unfold overL
  rw [List.mem_filter, List.mem_range, List.all_eq_true]
  simp
theorem lv_over : ∀ (k : Nat) (r ms : List Nat), (r, ms) ∈ lv m ps k → ms = overL m ps r
  | 0, r, ms, h => by
    rw [lv, List.mem_singleton] at h
    cases h
    unfold overL
    exact (List.filter_eq_self.mpr fun _ _ => rfl).symm
  | k + 1, r, ms, h => by
    obtain ⟨r0, a, x, h3, h4, rfl, rfl⟩ := mem_up.mp h
    have ih := lv_over k r0 a h3
    rw [ih]
    unfold later overL
    rw [List.filter_filter]
    refine List.filter_congr fun z _ => ?_
    rw [List.all_append, Bool.and_comm]
    simp
theorem overL_nodup (r : List Nat) : (overL m ps r).Nodup := List.nodup_range.sublist List.filter_sublist
theorem overL_len (r : List Nat) : (overL m ps r).length ≤ m := Nat.le_trans (List.length_filter_le _ _) (by simp)
/-- the rows one longer, by hand -/
theorem lv_rows (k : Nat) : (lv m ps (k + 1)).map (·.1) = ((lv m ps k).map (·.1)).flatMap fun r => (overL m ps r).map fun z => r ++ [z] := by
  have key : ∀ A : Tab, (∀ e ∈ A, e.2 = overL m ps e.1) → (up ps A).map (·.1) = (A.map (·.1)).flatMap fun r => (overL m ps r).map fun z => r ++ [z] := by
    intro A
    induction A with
    | nil => intro _; rfl
    | cons e A ih =>
      intro h
      have h1 := h e (List.mem_cons_self ..)
      have h2 := ih fun e he => h e (List.mem_cons_of_mem _ he)
      unfold up at h2 ⊢
      rw [List.flatMap_cons, List.map_append, List.map_cons, List.flatMap_cons, h2, List.map_map, h1]
      rfl
  exact key _ fun e he => lv_over k e.1 e.2 he
/-- few marks, few rows -/
theorem lv_few (irr : ∀ a, (a, a) ∉ ps) : ∀ (k : Nat) (e : List Nat × List Nat), e ∈ lv m ps k → e.2.length + k ≤ m ∨ e.2 = []
  | k, (r, ms), h => by
    obtain ⟨h1, h2⟩ := lv_marks m ps k r ms h
    obtain ⟨_, hc⟩ := (lv_chain m ps k r).mp ⟨ms, h⟩
    by_cases hms : ms = []
    · exact .inr hms
    · refine .inl ?_
      have nd : (r ++ ms).Nodup := by
        rw [List.nodup_append]
        refine ⟨?_, ?_, ?_⟩
        · refine hc.2.imp fun {a b} hab e => ?_
          subst e
          exact irr _ hab
        · rw [lv_over k r ms h]; exact overL_nodup _
        · intro a ha b hb e
          subst e
          exact irr _ (((h2 a).mp hb).2 a ha)
      have sub : ∀ u ∈ r ++ ms, u ∈ List.range m := fun u hu => by
        rcases List.mem_append.mp hu with z | z
        · exact List.mem_range.mpr (hc.1 u z)
        · exact List.mem_range.mpr ((h2 u).mp z).1
      have := len_le_of_sub nd sub
      rw [List.length_append, List.length_range, h1] at this
      show ms.length + k ≤ m
      omega
theorem lv_step (irr : ∀ a, (a, a) ∉ ps) (k : Nat) : (lv m ps (k + 1)).length ≤ (m - k) * (lv m ps k).length :=
  up_len fun e he => by
    rcases lv_few irr k e he with h | h
    · omega
    · rw [h]; exact Nat.zero_le _
theorem lv_len3 (irr : ∀ a, (a, a) ∉ ps) (hm : m ≤ 4) : (lv m ps 3).length ≤ 24 := by
  have h0 : (lv m ps 0).length = 1 := rfl
  have h1 : (lv m ps 1).length ≤ (m - 0) * (lv m ps 0).length := lv_step irr 0
  have h2 : (lv m ps 2).length ≤ (m - 1) * (lv m ps 1).length := lv_step irr 1
  have h3 : (lv m ps 3).length ≤ (m - 2) * (lv m ps 2).length := lv_step irr 2
  rw [h0] at h1
  have a1 : (lv m ps 1).length ≤ 4 := by omega
  have a2 : (lv m ps 2).length ≤ 3 * 4 := Nat.le_trans h2 (Nat.mul_le_mul (by omega) a1)
  exact Nat.le_trans h3 (Nat.le_trans (Nat.mul_le_mul (show m - 2 ≤ 2 by omega) a2) (by decide))
/-- a family of rows that is shut, as the law asks -/
def Shut (m : Nat) (ps : List (Nat × Nat)) (some : List (List Nat)) : Prop := ∀ r ∈ some, ∃ z ∈ overL m ps r, ∀ p ∈ parts r z, p ∈ some
theorem shut_kept {n : Nat} {some : List (List Nat)} (hs : ∀ r ∈ some, ∃ ms, (r, ms) ∈ lv m ps n) (h : Shut m ps some) {r : List Nat} (hr : r ∈ some) : Kept m ps n r := by
  refine kept_of (F := fun r => r ∈ some) (fun row hrow => ?_) hr
  obtain ⟨h1, h2⟩ := (lv_chain m ps n row).mp (hs row hrow)
  obtain ⟨z, h3, h4⟩ := h row hrow
  obtain ⟨h5, h6⟩ := mem_overL.mp h3
  exact ⟨h1, h2, z, h5, h6, h4⟩
theorem kept_shut {n : Nat} {some : List (List Nat)} (h : ∀ r, r ∈ some ↔ Kept m ps n r) : Shut m ps some := by
  intro r hr
  obtain ⟨x, h1, h2, h3⟩ := kept_step ((h r).mp hr)
  exact ⟨x, mem_overL.mpr ⟨h1, h2⟩, fun p hp => (h p).mpr (h3 p hp)⟩
end
/-! ### bits -/
def bit (n k : Nat) : Bool := decide (n / 2 ^ k % 2 = 1)
theorem bits_exist (p : Nat → Bool) : ∀ N : Nat, ∃ n, n < 2 ^ N ∧ ∀ k, k < N → bit n k = p k
  | 0 => ⟨0, by simp, fun k h => absurd h (Nat.not_lt_zero _)⟩
  | N + 1 => by
    obtain ⟨n, h1, h2⟩ := bits_exist p N
    refine ⟨n + (if p N = true then 2 ^ N else 0), ?_, fun k hk => ?_⟩
    · rw [Nat.pow_succ]
      split <;> omega
    · unfold bit at h2 ⊢
      by_cases e : k = N
      · subst e
        by_cases hp : p k = true
        · rw [if_pos hp, hp, Nat.add_div_right _ (Nat.two_pow_pos _), Nat.div_eq_of_lt h1]
          rfl
        · rw [if_neg hp, Nat.add_zero, Nat.div_eq_of_lt h1]
          simpa using hp
      · have hk : k < N := by omega
        rw [← h2 k hk]
        by_cases hp : p N = true
        · rw [if_pos hp]
          have e1 : 2 ^ N = 2 ^ k * (2 * 2 ^ (N - k - 1)) := by
            rw [← Nat.pow_succ', ← Nat.pow_add]
            congr 1
            omega
          rw [e1, Nat.add_mul_div_left _ _ (Nat.two_pow_pos _), Nat.add_mul_mod_self_left]
        · rw [if_neg hp, Nat.add_zero]
end Jm
namespace Lw
open PySem PySem.Spec PyProof.Rows L2 Am
section
variable {Pg : Program} {w : World} {K : PySem.W.Frag} {mg : Str → Option Value} {base : Heap}
/-! ### lots made -/
def F_lot_of : FT := fun as S Post => ∃ (m : Nat) (fs : List (Nat × Nat)) (d : D), as = [.p (.int (m : Nat)), d] ∧ lsAt S d (fs.map prP) ∧ Post (.p (lotP ⟨m, sortP fs⟩)) S
theorem len_lot_of : ∀ as S Post, F_lot_of as S Post → as.length = ["many", "pairs"].length := by
  rintro _ S Post ⟨_, _, _, rfl, _⟩; rfl
theorem cl_lot_of (p : Pre K mg "lot_of" st_lot_of) (z_sorted : mg "sorted" = none) (z_tuple : mg "tuple" = none) : Cl Pg w K mg base 1 "lot_of" st_lot_of ["many", "pairs"] F_lot_of := by
  refine p.cl (fun _ _ _ _ _ _ us hl => match us, hl with | [_, _], _ => rfl) fun f fd F => ?_
  refine fun_ok F sc_lot_of len_lot_of (fun cdv A outer s H E gd hr => have hu := hu65 hr; (jb_one (js_ret (je_tup (ja_cons (je_var 0) (ja_cons (je_tuple (by rfl) z_tuple (je_sortedX hu (by rfl) z_sorted (je_var 1))) ja_nil)))))) ?_
  rintro as S Post hB ⟨m, fs, d, rfl, hd, h⟩
  simp only [↓sNext, ↓sBreak, ↓sCont, ↓sDrop, ↓sRet, ↓sRetN, ↓sIf, ↓sAsg, ↓agName, ↓agNil, ↓agCons, ↓agTup, ↓sPar, ↓sFor, ↓aV, ↓lk, ↓aC, ↓aOp, ↓aUn, ↓aCall, ↓aNil, ↓aCons, ↓aIf, ↓aTest, ↓aAnd, ↓aOr, ↓aNot, ↓aAndV, ↓aOrV, ↓aNotV, ↓aI, ↓aI0, ↓aAdd, ↓aNeg, ↓aIsN, ↓isNone, ↓aTup, ↓purs, ↓aLst, ↓aLstO, ↓aIx, ↓gi0, ↓gi1, ↓gi2, ↓giN, ↓a1, ↓aLen, ↓aAbs, ↓aInt, ↓aStr, ↓aIsi, ↓btOf, ↓BT.isB, ↓aYes, ↓aiSeq, wipeL, ↓startL, List.map, List.set, List.replicate, List.length, List.append, List.cons_append, List.nil_append, ↓aMt, ↓isLs, ↓aLc, ↓aLcO, Bool.false_bne, Bool.true_bne, Bool.xor_false, Bool.false_xor, Bool.true_xor, Bool.not_true, Bool.not_false, decide_eq_true_eq, if_true, if_false, ite_true, ite_false, reduceIte, Bool.false_eq_true, List.getElem?_cons_zero, List.getElem?_cons_succ, ↓aLt, ↓aLe, ↓aGt, ↓aGe, ↓aSub, ↓aMul, ↓aDiv, ↓aMod, ↓aPow, true_and, and_true]
  refine sorted_pairs (fs := fs) hd ?_
  simp only [↓sNext, ↓sBreak, ↓sCont, ↓sDrop, ↓sRet, ↓sRetN, ↓sIf, ↓sAsg, ↓agName, ↓agNil, ↓agCons, ↓agTup, ↓sPar, ↓sFor, ↓aV, ↓lk, ↓aC, ↓aOp, ↓aUn, ↓aCall, ↓aNil, ↓aCons, ↓aIf, ↓aTest, ↓aAnd, ↓aOr, ↓aNot, ↓aAndV, ↓aOrV, ↓aNotV, ↓aI, ↓aI0, ↓aAdd, ↓aNeg, ↓aIsN, ↓isNone, ↓aTup, ↓purs, ↓aLst, ↓aLstO, ↓aIx, ↓gi0, ↓gi1, ↓gi2, ↓giN, ↓a1, ↓aLen, ↓aAbs, ↓aInt, ↓aStr, ↓aIsi, ↓btOf, ↓BT.isB, ↓aYes, ↓aiSeq, wipeL, ↓startL, List.map, List.set, List.replicate, List.length, List.append, List.cons_append, List.nil_append, ↓aMt, ↓isLs, ↓aLc, ↓aLcO, Bool.false_bne, Bool.true_bne, Bool.xor_false, Bool.false_xor, Bool.true_xor, Bool.not_true, Bool.not_false, decide_eq_true_eq, if_true, if_false, ite_true, ite_false, reduceIte, Bool.false_eq_true, List.getElem?_cons_zero, List.getElem?_cons_succ, ↓aLt, ↓aLe, ↓aGt, ↓aGe, ↓aSub, ↓aMul, ↓aDiv, ↓aMod, ↓aPow, true_and, and_true, aTuple]
  refine ⟨_, rfl, ?_⟩
  exact .inl h
def F_want_few : FT := fun as S Post => ∃ m : Nat, as = [.p (.int (m : Nat))] ∧ m ≤ 24 ∧ Post (.p .non) S
theorem len_want_few : ∀ as S Post, F_want_few as S Post → as.length = ["many"].length := by
  rintro _ S Post ⟨_, rfl, _⟩; rfl
theorem cl_want_few (p : Pre K mg "want_few" st_want_few) {t_MOST_MARKS : Tok} (m_MOST_MARKS : mg "MOST_MARKS" = some (.int 24 t_MOST_MARKS)) : Cl Pg w K mg base 1 "want_few" st_want_few ["many"] F_want_few := by
  refine p.cl (fun _ _ _ _ _ _ us hl => match us, hl with | [_], _ => rfl) fun f fd F => ?_
  refine fun_ok F sc_want_few len_want_few (fun cdv A outer s H E gd hr => have hu := hu65 hr; (jb_one (js_if (jt_gt (je_var 0) (je_glob (fun _ => .int _) (by rfl) m_MOST_MARKS ⟨_, rfl⟩)) jb_never jb_nil))) ?_
  rintro as S Post hB ⟨m, rfl, hm, h⟩
  simp only [↓sNext, ↓sSeq_run, ↓sBreak, ↓sCont, ↓sDrop, ↓sRet, ↓sRetN, ↓sIf, ↓sAsg, ↓agName, ↓agNil, ↓agCons, ↓agTup, ↓sPar, ↓sFor, ↓aV, ↓lk, ↓aC, ↓aOp, ↓aUn, ↓aCall, ↓aNil, ↓aCons, ↓aIf, ↓aTest, ↓aAnd, ↓aOr, ↓aNot, ↓aAndV, ↓aOrV, ↓aNotV, ↓aI, ↓aI0, ↓aAdd, ↓aNeg, ↓aIsN, ↓isNone, ↓aTup, ↓purs, ↓aLst, ↓aLstO, ↓aIx, ↓gi0, ↓gi1, ↓gi2, ↓giN, ↓a1, ↓aLen, ↓aAbs, ↓aInt, ↓aStr, ↓aIsi, ↓btOf, ↓BT.isB, ↓aYes, ↓aiSeq, wipeL, ↓startL, List.map, List.set, List.replicate, List.length, List.append, List.cons_append, List.nil_append, ↓aMt, ↓isLs, ↓aLc, ↓aLcO, Bool.false_bne, Bool.true_bne, Bool.xor_false, Bool.false_xor, Bool.true_xor, Bool.not_true, Bool.not_false, decide_eq_true_eq, if_true, if_false, ite_true, ite_false, reduceIte, Bool.false_eq_true, List.getElem?_cons_zero, List.getElem?_cons_succ, ↓aLt, ↓aLe, ↓aGt, ↓aGe, ↓aSub, ↓aMul, ↓aDiv, ↓aMod, ↓aPow, true_and, and_true]
  rw [if_neg (show ¬ ((24 : Int) < ((m : Nat) : Int)) by omega)]
  exact .inl h
end
end Lw
namespace Lw
open PySem PySem.Spec PyProof.Rows L2 Am
section
variable {Pg : Program} {w : World} {K : PySem.W.Frag} {mg : Str → Option Value} {base : Heap}
/-! ### k80: part -/
theorem enums_of {xs : List P} {i : Nat} {x : D} (h : (enums xs)[i]? = some x) : ∃ y, xs[i]? = some y ∧ x = .p (.tup [.int (i : Nat), y]) := by
  have hi : i < xs.length := by
    have := (List.getElem?_eq_some_iff.mp h).1
    rwa [enums_len] at this
  refine ⟨xs[i], List.getElem?_eq_getElem hi, ?_⟩
  have := enums_at (List.getElem?_eq_getElem hi)
  rw [this] at h
  exact (Option.some.inj h).symm
/-- marks by where they stand -/
def numE : List Nat → Nat → List (Key × D)
  | [], _ => []
  | x :: xs, s => (.inl ((x : Nat) : Int), .p (.int (s : Nat))) :: numE xs (s + 1)
theorem numE_snoc (x : Nat) : ∀ (xs : List Nat) (s : Nat), numE (xs ++ [x]) s = numE xs s ++ [(.inl ((x : Nat) : Int), .p (.int ((s + xs.length : Nat) : Int)))]
  | [], s => rfl
  | y :: xs, s => by
    rw [List.cons_append, numE, numE_snoc x xs (s + 1), numE, List.cons_append, List.length_cons]
    have e : s + 1 + xs.length = s + (xs.length + 1) := by omega
    rw [e]
theorem numE_key {xs : List Nat} {s : Nat} {e : Key × D} (h : e ∈ numE xs s) : ∃ x ∈ xs, e.1 = .inl ((x : Nat) : Int) := by
  induction xs generalizing s with
  | nil => cases h
  | cons y xs ih =>
    rw [numE] at h
    rcases List.mem_cons.mp h with rfl | h
    · exact ⟨y, by simp, rfl⟩
    · obtain ⟨x, h1, h2⟩ := ih h
      exact ⟨x, List.mem_cons_of_mem _ h1, h2⟩
theorem numE_gt (y : Nat) : ∀ (xs : List Nat) (s : Nat), gt (numE xs s) (.inl ((y : Nat) : Int)) = if y ∈ xs then some (.p (.int ((s + xs.idxOf y : Nat) : Int))) else none
  | [], s => rfl
  | x :: xs, s => by
    rw [numE, gt_cons]
    by_cases h : x = y
    · subst h
      rw [if_pos rfl, if_pos (by simp), List.idxOf_cons_self]
      rfl
    · rw [if_neg (fun e => h (by have := Sum.inl.inj e; omega)), numE_gt y xs (s + 1)]
      have e1 : (y ∈ x :: xs) ↔ y ∈ xs := by simp [Ne.symm h]
      by_cases hy : y ∈ xs
      · rw [if_pos hy, if_pos (e1.mpr hy), List.idxOf_cons]
        have : (x == y) = false := by simpa using h
        rw [this]
        have e2 : s + 1 + xs.idxOf y = s + (xs.idxOf y + 1) := by omega
        rw [e2]; rfl
      · rw [if_neg hy, if_neg (fun q => hy (e1.mp q))]
theorem numE_put {xs : List Nat} {x : Nat} (h : x ∉ xs) : pt (numE xs 0) (.inl ((x : Nat) : Int)) (.p (.int ((xs.length : Nat) : Int))) = numE (xs ++ [x]) 0 := by
  rw [pt_new fun e he => ?_, numE_snoc, Nat.zero_add]
  obtain ⟨y, h1, h2⟩ := numE_key he
  rw [h2]
  intro q
  have := Sum.inl.inj q
  have : y = x := by omega
  exact h (this ▸ h1)
def inB (ms : List Nat) (q : Nat × Nat) : Bool := decide (q.1 ∈ ms) && decide (q.2 ∈ ms)
def toIx (ms : List Nat) (q : Nat × Nat) : Nat × Nat := (ms.idxOf q.1, ms.idxOf q.2)
def partL (l : Lot) (ms : List Nat) : Lot := ⟨ms.length, sortP ((l.ps.filter (inB ms)).map (toIx ms))⟩
theorem ix_inj {ms : List Nat} {a b : Nat} (ha : a ∈ ms) (hb : b ∈ ms) (h : ms.idxOf a = ms.idxOf b) : a = b := by
  have h1 := List.getElem?_eq_getElem (List.idxOf_lt_length_of_mem ha)
  have h2 := List.getElem?_eq_getElem (List.idxOf_lt_length_of_mem hb)
  rw [List.getElem_idxOf] at h1 h2
  rw [h, h2] at h1
  exact (Option.some.inj h1).symm
theorem partL_mem {l : Lot} {ms : List Nat} {i j : Nat} : (i, j) ∈ (partL l ms).ps ↔ ∃ a b, (a, b) ∈ l.ps ∧ a ∈ ms ∧ b ∈ ms ∧ ms.idxOf a = i ∧ ms.idxOf b = j := by
  unfold partL
  rw [mem_sortP, List.mem_map]
  constructor
  · rintro ⟨⟨a, b⟩, h1, h2⟩
    obtain ⟨h3, h4⟩ := List.mem_filter.mp h1
    unfold inB at h4
    rw [Bool.and_eq_true, decide_eq_true_eq, decide_eq_true_eq] at h4
    unfold toIx at h2
    rw [Prod.mk.injEq] at h2
    exact ⟨a, b, h3, h4.1, h4.2, h2.1, h2.2⟩
  · rintro ⟨a, b, h1, h2, h3, rfl, rfl⟩
    refine ⟨(a, b), List.mem_filter.mpr ⟨h1, ?_⟩, rfl⟩
    unfold inB
    rw [Bool.and_eq_true, decide_eq_true_eq, decide_eq_true_eq]
    exact ⟨h2, h3⟩
theorem partL_good {l : Lot} {ms : List Nat} (hl : Good l) (hm : ms.length ≤ 30) : Good (partL l ms) := by
  refine ⟨hm, fun q hq => ?_, ?_, fun a ha => ?_, fun a b ha hb => ?_⟩
  · obtain ⟨a, b, h1, h2, h3, h4, h5⟩ := partL_mem.mp (show (q.1, q.2) ∈ _ from hq)
    rw [← h4, ← h5]
    exact ⟨List.idxOf_lt_length_of_mem h2, List.idxOf_lt_length_of_mem h3⟩
  · unfold partL
    rw [show (Lot.ps ⟨ms.length, sortP ((l.ps.filter (inB ms)).map (toIx ms))⟩) = sortP ((l.ps.filter (inB ms)).map (toIx ms)) from rfl, sortP_len, List.length_map]
    exact Nat.le_trans (List.length_filter_le _ _) hl.few
  · obtain ⟨x, y, h1, h2, h3, h4, h5⟩ := partL_mem.mp ha
    have := ix_inj h2 h3 (h4.trans h5.symm)
    subst this
    exact hl.irr x h1
  · obtain ⟨x, y, h1, h2, h3, h4, h5⟩ := partL_mem.mp ha
    obtain ⟨u, v, k1, k2, k3, k4, k5⟩ := partL_mem.mp hb
    have e1 := ix_inj h2 k3 (h4.trans k5.symm)
    have e2 := ix_inj h3 k2 (h5.trans k4.symm)
    subst e1 e2
    exact hl.asym _ _ h1 k1
theorem partL_serves {l : Lot} {ms : List Nat} (hl : Good l) (hms : ∀ k ∈ ms, k < l.m) {n : Nat} (h : Jm.Serves (partL l ms).m (partL l ms).ps n) : Jm.Serves l.m l.ps n := by
  refine Jm.serves_lead (fun k => ms[k]?.getD 0) (fun k hk => ?_) (fun a b ha hb hab => ?_) h
  · have hk : k < ms.length := hk
    show ms[k]?.getD 0 < l.m
    rw [List.getElem?_eq_getElem hk]
    exact hms _ (List.getElem_mem hk)
  · obtain ⟨x, y, h1, h2, h3, rfl, rfl⟩ := partL_mem.mp hab
    show (ms[ms.idxOf x]?.getD 0, ms[ms.idxOf y]?.getD 0) ∈ l.ps
    rw [List.getElem?_eq_getElem (List.idxOf_lt_length_of_mem h2), List.getElem?_eq_getElem (List.idxOf_lt_length_of_mem h3), List.getElem_idxOf, List.getElem_idxOf]
    exact h1
def F_part : FT := fun as S Post => ∃ (l : Lot) (ms : List Nat), as = [.p (lotP l), .p (rowP ms)] ∧ ms.Nodup ∧ ms.length ≤ 1000 ∧ Post (.p (lotP (partL l ms))) S
theorem len_part : ∀ as S Post, F_part as S Post → as.length = ["lot", "marks"].length := by
  rintro _ S Post ⟨_, _, rfl, _⟩; rfl
theorem cl_part (p : Pre K mg "part" st_part) (z_enumerate : mg "enumerate" = none) (z_len : mg "len" = none) (c_lot_of : Cl Pg w K mg base 1 "lot_of" st_lot_of ["many", "pairs"] F_lot_of) : Cl Pg w K mg base 2 "part" st_part ["lot", "marks"] F_part := by
  refine p.cl (fun _ _ _ _ _ _ us hl => match us, hl with | [_, _], _ => rfl) fun f fd F => ?_
  refine fun_ok F sc_part len_part (fun cdv A outer s H E gd hr => have hu := hu65 hr; (jb_cons (js_set 2 sc_part.nd (je_dcK hu rfl sc_part.nd (ji_enumT (by rfl) z_enumerate (je_var 1)) (blkOk_by (N := ns_part) (sc := defScope st_part) (own := [("number", 3), ("mark", 4)]) (by decide +kernel)) (fun _ _ _ _ _ => (jgo_tup (n := 2) rfl (jgos_name 3 sc_part.nd (jgos_name 4 sc_part.nd jgos_nil)))) (fun _ _ _ _ _ => jts_nil) (fun _ _ _ _ _ => (je_var 4)) (fun _ _ _ _ _ => (je_var 3))))
    (jb_one (js_ret (je_own c_lot_of gd hr (ja_cons (je_len (by rfl) z_len (je_var 1)) (ja_cons (je_lc rfl sc_part.nd (ji_seq (je_ix (je_var 0) je_int (fun _ _ => rfl))) (blkOk_by (N := ns_part) (sc := defScope st_part) (own := [("x", 5), ("y", 6)]) (by decide +kernel)) (fun _ _ _ _ _ => (jgo_tup (n := 2) rfl (jgos_name 5 sc_part.nd (jgos_name 6 sc_part.nd jgos_nil)))) (fun _ _ _ _ _ => jts_one (JW.jt (jw_and (jt_din hu (je_var 5) (je_var 2)) (jw_and1 (jt_din hu (je_var 6) (je_var 2)))))) (fun _ _ _ _ _ => (je_tup (ja_cons (je_dget hu (je_var 2) (je_var 5)) (ja_cons (je_dget hu (je_var 2) (je_var 6)) ja_nil))))) ja_nil))))))) ?_
  rintro as S Post hB ⟨l, ms, rfl, hnd, hml, h⟩
  refine sq ?_
  simp only [↓sNext, ↓sBreak, ↓sCont, ↓sDrop, ↓sRet, ↓sRetN, ↓sIf, ↓sAsg, ↓agName, ↓agNil, ↓agCons, ↓agTup, ↓sPar, ↓sFor, ↓aV, ↓lk, ↓aC, ↓aOp, ↓aUn, ↓aCall, ↓aNil, ↓aCons, ↓aIf, ↓aTest, ↓aAnd, ↓aOr, ↓aNot, ↓aAndV, ↓aOrV, ↓aNotV, ↓aI, ↓aI0, ↓aAdd, ↓aNeg, ↓aIsN, ↓isNone, ↓aTup, ↓purs, ↓aLst, ↓aLstO, ↓aIx, ↓gi0, ↓gi1, ↓gi2, ↓giN, ↓a1, ↓aLen, ↓aAbs, ↓aInt, ↓aStr, ↓aIsi, ↓btOf, ↓BT.isB, ↓aYes, ↓aiSeq, wipeL, ↓startL, List.map, List.set, List.replicate, List.length, List.append, List.cons_append, List.nil_append, ↓aMt, ↓isLs, ↓aLc, ↓aLcO, Bool.false_bne, Bool.true_bne, Bool.xor_false, Bool.false_xor, Bool.true_xor, Bool.not_true, Bool.not_false, decide_eq_true_eq, if_true, if_false, ite_true, ite_false, reduceIte, Bool.false_eq_true, List.getElem?_cons_zero, List.getElem?_cons_succ, ↓aLt, ↓aLe, ↓aGt, ↓aGe, ↓aSub, ↓aMul, ↓aDiv, ↓aMod, ↓aPow, true_and, and_true, lotP, rowP, aDcK, aiEnumT]
  refine dc_go (fun i acc S' => acc = numE (ms.take i) 0 ∧ S' = S) (fun _ _ _ _ => trivial) (fun i x acc S' N hx hI hN => ?_) (fun acc S' hI => ?_) ⟨rfl, rfl⟩
  · obtain ⟨rfl, rfl⟩ := hI
    obtain ⟨y, hy, rfl⟩ := enums_of hx
    obtain ⟨k, hk, rfl⟩ := map_at hy
    simp only [↓sNext, ↓sBreak, ↓sCont, ↓sDrop, ↓sRet, ↓sRetN, ↓sIf, ↓sAsg, ↓agName, ↓agNil, ↓agCons, ↓agTup, ↓sPar, ↓sFor, ↓aV, ↓lk, ↓aC, ↓aOp, ↓aUn, ↓aCall, ↓aNil, ↓aCons, ↓aIf, ↓aTest, ↓aAnd, ↓aOr, ↓aNot, ↓aAndV, ↓aOrV, ↓aNotV, ↓aI, ↓aI0, ↓aAdd, ↓aNeg, ↓aIsN, ↓isNone, ↓aTup, ↓purs, ↓aLst, ↓aLstO, ↓aIx, ↓gi0, ↓gi1, ↓gi2, ↓giN, ↓a1, ↓aLen, ↓aAbs, ↓aInt, ↓aStr, ↓aIsi, ↓btOf, ↓BT.isB, ↓aYes, ↓aiSeq, wipeL, ↓startL, List.map, List.set, List.replicate, List.length, List.append, List.cons_append, List.nil_append, ↓aMt, ↓isLs, ↓aLc, ↓aLcO, Bool.false_bne, Bool.true_bne, Bool.xor_false, Bool.false_xor, Bool.true_xor, Bool.not_true, Bool.not_false, decide_eq_true_eq, if_true, if_false, ite_true, ite_false, reduceIte, Bool.false_eq_true, List.getElem?_cons_zero, List.getElem?_cons_succ, ↓aLt, ↓aLe, ↓aGt, ↓aGe, ↓aSub, ↓aMul, ↓aDiv, ↓aMod, ↓aPow, true_and, and_true, dkK, keyP]
    have hlt := (List.getElem?_eq_some_iff.mp hk).1
    have e1 : ms.take (i + 1) = ms.take i ++ [k] := by rw [List.take_add_one, hk]; rfl
    have e2 : k ∉ ms.take i := by
      intro q
      have h2 := hnd
      rw [← List.take_append_drop i ms] at h2
      refine (List.nodup_append.mp h2).2.2 k q k ?_ rfl
      rw [List.mem_iff_getElem?]
      exact ⟨0, by rw [List.getElem?_drop]; exact hk⟩
    have e3 : (ms.take i).length = i := by rw [List.length_take]; omega
    have := numE_put e2
    rw [e3] at this
    rw [this, ← e1]
    exact hN _ _ ⟨rfl, rfl⟩
  obtain ⟨rfl, rfl⟩ := hI
  rw [enums_len, List.length_map, List.take_length]
  refine lc_mapP l.ps prP (inB ms) (fun q => prP (toIx ms q)) (fun q hq Q R hQ => ?_) ?_
  · simp only [↓sNext, ↓sBreak, ↓sCont, ↓sDrop, ↓sRet, ↓sRetN, ↓sIf, ↓sAsg, ↓agName, ↓agNil, ↓agCons, ↓agTup, ↓sPar, ↓sFor, ↓aV, ↓lk, ↓aC, ↓aOp, ↓aUn, ↓aCall, ↓aNil, ↓aCons, ↓aIf, ↓aTest, ↓aAnd, ↓aOr, ↓aNot, ↓aAndV, ↓aOrV, ↓aNotV, ↓aI, ↓aI0, ↓aAdd, ↓aNeg, ↓aIsN, ↓isNone, ↓aTup, ↓purs, ↓aLst, ↓aLstO, ↓aIx, ↓gi0, ↓gi1, ↓gi2, ↓giN, ↓a1, ↓aLen, ↓aAbs, ↓aInt, ↓aStr, ↓aIsi, ↓btOf, ↓BT.isB, ↓aYes, ↓aiSeq, wipeL, ↓startL, List.map, List.set, List.replicate, List.length, List.append, List.cons_append, List.nil_append, ↓aMt, ↓isLs, ↓aLc, ↓aLcO, Bool.false_bne, Bool.true_bne, Bool.xor_false, Bool.false_xor, Bool.true_xor, Bool.not_true, Bool.not_false, decide_eq_true_eq, if_true, if_false, ite_true, ite_false, reduceIte, Bool.false_eq_true, List.getElem?_cons_zero, List.getElem?_cons_succ, ↓aLt, ↓aLe, ↓aGt, ↓aGe, ↓aSub, ↓aMul, ↓aDiv, ↓aMod, ↓aPow, true_and, and_true, prP, aDIn, aDGet, dlk, getE, dkK, keyP, numE_gt, Option.map_some]
    unfold inB at hQ
    by_cases h1 : q.1 ∈ ms
    · rw [decide_eq_true h1, Bool.true_and] at hQ
      simp only [if_pos h1, Option.isSome_some, if_true]
      by_cases h2 : q.2 ∈ ms
      · rw [decide_eq_true h2, if_pos rfl] at hQ
        simp only [if_pos h2, Option.isSome_some, if_true, Nat.zero_add]
        exact hQ
      · rw [decide_eq_false h2, if_neg Bool.false_ne_true] at hQ
        simp only [if_neg h2, Option.isSome_none, Bool.false_eq_true, if_false]
        exact hQ
    · rw [decide_eq_false h1, Bool.false_and, if_neg Bool.false_ne_true] at hQ
      simp only [if_neg h1, Option.isSome_none, Bool.false_eq_true, if_false]
      exact hQ
  refine ⟨_, rfl, ?_⟩
  refine ⟨ms.length, (l.ps.filter (inB ms)).map (toIx ms), .p (.lst (((l.ps.filter (inB ms)).map (toIx ms)).map prP)), ?_, rfl, Cut.pure hB h⟩
  rw [List.map_map]
  rfl
/-! ### beside -/
def shiftP (a : Nat) (q : Nat × Nat) : Nat × Nat := (a + q.1, a + q.2)
def besF (l1 l2 : Lot) : List (Nat × Nat) := (l1.ps ++ l2.ps.map (shiftP l1.m)) ++ (List.range l2.m).flatMap fun x => (List.range l1.m).map fun y => (l1.m + x, y)
def besL (l1 l2 : Lot) : Lot := ⟨l1.m + l2.m, sortP (besF l1 l2)⟩
theorem besF_mem {l1 l2 : Lot} {x y : Nat} : (x, y) ∈ besF l1 l2 ↔ (x, y) ∈ l1.ps ∨ (∃ u v, (u, v) ∈ l2.ps ∧ x = l1.m + u ∧ y = l1.m + v) ∨ (∃ u, u < l2.m ∧ x = l1.m + u ∧ y < l1.m) := by
  unfold besF
  rw [List.mem_append, List.mem_append, or_assoc, List.mem_map, List.mem_flatMap]
  refine or_congr_right (or_congr ⟨?_, ?_⟩ ⟨?_, ?_⟩)
  · rintro ⟨⟨u, v⟩, h1, h2⟩
    unfold shiftP at h2
    rw [Prod.mk.injEq] at h2
    exact ⟨u, v, h1, h2.1.symm, h2.2.symm⟩
  · rintro ⟨u, v, h1, rfl, rfl⟩
    exact ⟨(u, v), h1, rfl⟩
  · rintro ⟨u, h1, h2⟩
    obtain ⟨v, h3, h4⟩ := List.mem_map.mp h2
    rw [Prod.mk.injEq] at h4
    exact ⟨u, List.mem_range.mp h1, h4.1.symm, by rw [← h4.2]; exact List.mem_range.mp h3⟩
  · rintro ⟨u, h1, rfl, h2⟩
    exact ⟨u, List.mem_range.mpr h1, List.mem_map.mpr ⟨y, List.mem_range.mpr h2, rfl⟩⟩
theorem besL_mem {l1 l2 : Lot} {x y : Nat} : (x, y) ∈ (besL l1 l2).ps ↔ (x, y) ∈ l1.ps ∨ (∃ u v, (u, v) ∈ l2.ps ∧ x = l1.m + u ∧ y = l1.m + v) ∨ (∃ u, u < l2.m ∧ x = l1.m + u ∧ y < l1.m) := by
  unfold besL
  rw [mem_sortP]
  exact besF_mem
theorem flat_rect (a b : Nat) : ((List.range b).flatMap fun x => (List.range a).map fun y => (a + x, y)).length ≤ b * a := by
  have := flat_len (f := fun x : Nat => (List.range a).map fun y => (a + x, y)) (n := a) (fun _ => by simp) (List.range b)
  rw [List.length_range] at this
  exact this
theorem besF_len (l1 l2 : Lot) : (besF l1 l2).length ≤ l1.ps.length + l2.ps.length + l2.m * l1.m := by
  unfold besF
  rw [List.length_append, List.length_append, List.length_map]
  have := flat_rect l1.m l2.m
  omega
theorem besL_len (l1 l2 : Lot) : (besL l1 l2).ps.length ≤ l1.ps.length + l2.ps.length + l2.m * l1.m := by
  rw [show (besL l1 l2).ps = sortP (besF l1 l2) from rfl, sortP_len]
  exact besF_len l1 l2
theorem besL_good {l1 l2 : Lot} (h1 : Good l1) (h2 : Good l2) (hm : l1.m + l2.m ≤ 30) (hl : l1.ps.length + l2.ps.length + l2.m * l1.m ≤ 1000) : Good (besL l1 l2) := by
  refine ⟨hm, fun q hq => ?_, Nat.le_trans (besL_len l1 l2) hl, fun x hx => ?_, fun x y hx hy => ?_⟩
  · rcases besL_mem.mp (show (q.1, q.2) ∈ _ from hq) with z | ⟨u, v, z, e1, e2⟩ | ⟨u, z, e1, e2⟩
    · have := h1.low _ z
      show q.1 < l1.m + l2.m ∧ q.2 < l1.m + l2.m
      omega
    · have := h2.low _ z
      show q.1 < l1.m + l2.m ∧ q.2 < l1.m + l2.m
      omega
    · show q.1 < l1.m + l2.m ∧ q.2 < l1.m + l2.m
      omega
  · rcases besL_mem.mp hx with z | ⟨u, v, z, e1, e2⟩ | ⟨u, z, e1, e2⟩
    · exact h1.irr _ z
    · have : u = v := by omega
      subst this
      exact h2.irr _ z
    · omega
  · rcases besL_mem.mp hx with z | ⟨u, v, z, e1, e2⟩ | ⟨u, z, e1, e2⟩ <;> rcases besL_mem.mp hy with z' | ⟨u', v', z', e1', e2'⟩ | ⟨u', z', e1', e2'⟩
    · exact h1.asym _ _ z z'
    · have := h1.low _ z
      omega
    · have := h1.low _ z
      omega
    · have := h1.low _ z'
      omega
    · have e3 : u' = v := by omega
      have e4 : v' = u := by omega
      subst e3 e4
      exact h2.asym _ _ z z'
    · omega
    · have := h1.low _ z'
      omega
    · omega
    · omega
theorem besL_beside {l1 l2 : Lot} (h1 : Good l1) (h2 : Good l2) : Jm.Beside l1.m l2.m l1.ps l2.ps (besL l1 l2).ps := ⟨h1.low, h2.low, fun x y => besL_mem⟩
def F_beside : FT := fun as S Post => ∃ (l1 l2 : Lot), as = [.p (lotP l1), .p (lotP l2)] ∧ Good l1 ∧ Good l2 ∧ l1.m + l2.m ≤ 24 ∧ l1.ps.length + l2.ps.length + l2.m * l1.m ≤ 1000 ∧ Post (.p (lotP (besL l1 l2))) S
theorem len_beside : ∀ as S Post, F_beside as S Post → as.length = ["lot", "other"].length := by
  rintro _ S Post ⟨_, _, rfl, _⟩; rfl
theorem cl_beside (p : Pre K mg "beside" st_beside) (z_list : mg "list" = none) (z_range : mg "range" = none) (c_lot_of : Cl Pg w K mg base 1 "lot_of" st_lot_of ["many", "pairs"] F_lot_of) (c_want_few : Cl Pg w K mg base 1 "want_few" st_want_few ["many"] F_want_few) : Cl Pg w K mg base 2 "beside" st_beside ["lot", "other"] F_beside := by
  refine p.cl (fun _ _ _ _ _ _ us hl => match us, hl with | [_, _], _ => rfl) fun f fd F => ?_
  refine fun_ok F sc_beside len_beside (fun cdv A outer s H E gd hr => have hu := hu65 hr; (jb_cons (js_tupO (n := 2) (by decide) rfl (ja_cons (je_ix (je_var 0) je_int (fun _ _ => rfl)) (ja_cons (je_add (je_ix (je_var 0) je_int (fun _ _ => rfl)) (je_ix (je_var 1) je_int (fun _ _ => rfl))) ja_nil)) (jgs_cons (jg_name 2 sc_beside.nd) (jgs_cons (jg_name 3 sc_beside.nd) jgs_nil)))
    (jb_cons (js_expr (je_own c_want_few gd hr (ja_cons (je_var 3) ja_nil)))
    (jb_cons (js_set 4 sc_beside.nd (je_add (je_listP (by rfl) z_list (je_ix (je_var 0) je_int (fun _ _ => rfl))) (je_lc rfl sc_beside.nd (ji_seq (je_ix (je_var 1) je_int (fun _ _ => rfl))) (blkOk_by (N := ns_beside) (sc := defScope st_beside) (own := [("x", 5), ("y", 6)]) (by decide +kernel)) (fun _ _ _ _ _ => (jgo_tup (n := 2) rfl (jgos_name 5 sc_beside.nd (jgos_name 6 sc_beside.nd jgos_nil)))) (fun _ _ _ _ _ => jts_nil) (fun _ _ _ _ _ => (je_tup (ja_cons (je_add (je_var 2) (je_var 5)) (ja_cons (je_add (je_var 2) (je_var 6)) ja_nil)))))))
    (jb_one (js_ret (je_own c_lot_of gd hr (ja_cons (je_var 3) (ja_cons (je_add (je_var 4) (je_lc2 (vs1 := [6]) rfl sc_beside.nd (ji_range1 (by rfl) z_range (ja_cons (je_ix (je_var 1) je_int (fun _ _ => rfl)) ja_nil)) (blkOk_by (N := ns_beside) (sc := defScope st_beside) (own := [("x", 5), ("y", 6)]) (by decide +kernel)) (by decide) (fun _ _ _ _ _ => (jgo_name 5 sc_beside.nd)) (fun _ _ _ _ _ => jts_nil) (fun _ _ _ _ _ => (ji_range1 (by rfl) z_range (ja_cons (je_var 2) ja_nil))) (fun _ _ _ _ _ => (jgo_name 6 sc_beside.nd)) (fun _ _ _ _ _ => jts_nil) (fun _ _ _ _ _ => (je_tup (ja_cons (je_add (je_var 2) (je_var 5)) (ja_cons (je_var 6) ja_nil)))))) ja_nil))))))))) ?_
  rintro as S Post hB ⟨l1, l2, rfl, g1, g2, hm, hl, h⟩
  refine sq ?_
  simp only [↓sNext, ↓sBreak, ↓sCont, ↓sDrop, ↓sRet, ↓sRetN, ↓sIf, ↓sAsg, ↓agName, ↓agNil, ↓agCons, ↓agTup, ↓sPar, ↓sFor, ↓aV, ↓lk, ↓aC, ↓aOp, ↓aUn, ↓aCall, ↓aNil, ↓aCons, ↓aIf, ↓aTest, ↓aAnd, ↓aOr, ↓aNot, ↓aAndV, ↓aOrV, ↓aNotV, ↓aI, ↓aI0, ↓aAdd, ↓aNeg, ↓aIsN, ↓isNone, ↓aTup, ↓purs, ↓aLst, ↓aLstO, ↓aIx, ↓gi0, ↓gi1, ↓gi2, ↓giN, ↓a1, ↓aLen, ↓aAbs, ↓aInt, ↓aStr, ↓aIsi, ↓btOf, ↓BT.isB, ↓aYes, ↓aiSeq, wipeL, ↓startL, List.map, List.set, List.replicate, List.length, List.append, List.cons_append, List.nil_append, ↓aMt, ↓isLs, ↓aLc, ↓aLcO, Bool.false_bne, Bool.true_bne, Bool.xor_false, Bool.false_xor, Bool.true_xor, Bool.not_true, Bool.not_false, decide_eq_true_eq, if_true, if_false, ite_true, ite_false, reduceIte, Bool.false_eq_true, List.getElem?_cons_zero, List.getElem?_cons_succ, ↓aLt, ↓aLe, ↓aGt, ↓aGe, ↓aSub, ↓aMul, ↓aDiv, ↓aMod, ↓aPow, true_and, and_true, sTupO, lotP]
  refine sq ?_
  simp only [↓sNext, ↓sBreak, ↓sCont, ↓sDrop, ↓sRet, ↓sRetN, ↓sIf, ↓sAsg, ↓agName, ↓agNil, ↓agCons, ↓agTup, ↓sPar, ↓sFor, ↓aV, ↓lk, ↓aC, ↓aOp, ↓aUn, ↓aCall, ↓aNil, ↓aCons, ↓aIf, ↓aTest, ↓aAnd, ↓aOr, ↓aNot, ↓aAndV, ↓aOrV, ↓aNotV, ↓aI, ↓aI0, ↓aAdd, ↓aNeg, ↓aIsN, ↓isNone, ↓aTup, ↓purs, ↓aLst, ↓aLstO, ↓aIx, ↓gi0, ↓gi1, ↓gi2, ↓giN, ↓a1, ↓aLen, ↓aAbs, ↓aInt, ↓aStr, ↓aIsi, ↓btOf, ↓BT.isB, ↓aYes, ↓aiSeq, wipeL, ↓startL, List.map, List.set, List.replicate, List.length, List.append, List.cons_append, List.nil_append, ↓aMt, ↓isLs, ↓aLc, ↓aLcO, Bool.false_bne, Bool.true_bne, Bool.xor_false, Bool.false_xor, Bool.true_xor, Bool.not_true, Bool.not_false, decide_eq_true_eq, if_true, if_false, ite_true, ite_false, reduceIte, Bool.false_eq_true, List.getElem?_cons_zero, List.getElem?_cons_succ, ↓aLt, ↓aLe, ↓aGt, ↓aGe, ↓aSub, ↓aMul, ↓aDiv, ↓aMod, ↓aPow, true_and, and_true]
  refine ⟨l1.m + l2.m, by simp, hm, ?_⟩
  refine sq ?_
  simp only [↓sNext, ↓sBreak, ↓sCont, ↓sDrop, ↓sRet, ↓sRetN, ↓sIf, ↓sAsg, ↓agName, ↓agNil, ↓agCons, ↓agTup, ↓sPar, ↓sFor, ↓aV, ↓lk, ↓aC, ↓aOp, ↓aUn, ↓aCall, ↓aNil, ↓aCons, ↓aIf, ↓aTest, ↓aAnd, ↓aOr, ↓aNot, ↓aAndV, ↓aOrV, ↓aNotV, ↓aI, ↓aI0, ↓aNeg, ↓aIsN, ↓isNone, ↓aTup, ↓purs, ↓aLst, ↓aLstO, ↓aIx, ↓gi0, ↓gi1, ↓gi2, ↓giN, ↓a1, ↓aLen, ↓aAbs, ↓aInt, ↓aStr, ↓aIsi, ↓btOf, ↓BT.isB, ↓aYes, ↓aiSeq, wipeL, ↓startL, List.map, List.set, List.replicate, List.length, List.append, List.cons_append, List.nil_append, ↓aMt, ↓isLs, ↓aLc, ↓aLcO, Bool.false_bne, Bool.true_bne, Bool.xor_false, Bool.false_xor, Bool.true_xor, Bool.not_true, Bool.not_false, decide_eq_true_eq, if_true, if_false, ite_true, ite_false, reduceIte, Bool.false_eq_true, List.getElem?_cons_zero, List.getElem?_cons_succ, ↓aLt, ↓aLe, ↓aGt, ↓aGe, ↓aSub, ↓aMul, ↓aDiv, ↓aMod, ↓aPow, true_and, and_true, aList]
  refine ⟨_, rfl, ?_⟩
  refine lc_allP l2.ps prP (fun q => prP (shiftP l1.m q)) (fun q hq Q hQ => ?_) ?_
  · simp only [↓sNext, ↓sBreak, ↓sCont, ↓sDrop, ↓sRet, ↓sRetN, ↓sIf, ↓sAsg, ↓agName, ↓agNil, ↓agCons, ↓agTup, ↓sPar, ↓sFor, ↓aV, ↓lk, ↓aC, ↓aOp, ↓aUn, ↓aCall, ↓aNil, ↓aCons, ↓aIf, ↓aTest, ↓aAnd, ↓aOr, ↓aNot, ↓aAndV, ↓aOrV, ↓aNotV, ↓aI, ↓aI0, ↓aAdd, ↓aNeg, ↓aIsN, ↓isNone, ↓aTup, ↓purs, ↓aLst, ↓aLstO, ↓aIx, ↓gi0, ↓gi1, ↓gi2, ↓giN, ↓a1, ↓aLen, ↓aAbs, ↓aInt, ↓aStr, ↓aIsi, ↓btOf, ↓BT.isB, ↓aYes, ↓aiSeq, wipeL, ↓startL, List.map, List.set, List.replicate, List.length, List.append, List.cons_append, List.nil_append, ↓aMt, ↓isLs, ↓aLc, ↓aLcO, Bool.false_bne, Bool.true_bne, Bool.xor_false, Bool.false_xor, Bool.true_xor, Bool.not_true, Bool.not_false, decide_eq_true_eq, if_true, if_false, ite_true, ite_false, reduceIte, Bool.false_eq_true, List.getElem?_cons_zero, List.getElem?_cons_succ, ↓aLt, ↓aLe, ↓aGt, ↓aGe, ↓aSub, ↓aMul, ↓aDiv, ↓aMod, ↓aPow, true_and, and_true, prP]
    have e1 : ((l1.m : Nat) : Int) + (q.1 : Nat) = ((l1.m + q.1 : Nat) : Int) := by omega
    have e2 : ((l1.m : Nat) : Int) + (q.2 : Nat) = ((l1.m + q.2 : Nat) : Int) := by omega
    rw [e1, e2]
    exact hQ
  refine ⟨_, rfl, ?_⟩
  have e1 : l2.ps.map (fun q => prP (shiftP l1.m q)) = (l2.ps.map (shiftP l1.m)).map prP := by rw [List.map_map]; rfl
  rw [e1]
  simp only [aAdd]
  refine ⟨small_sl (by simp only [List.length_map]; omega), ?_⟩
  rw [← List.map_append]
  simp only [aLc2, aiRng1, ↓sNext, ↓sBreak, ↓sCont, ↓sDrop, ↓sRet, ↓sRetN, ↓sIf, ↓sAsg, ↓agName, ↓agNil, ↓agCons, ↓agTup, ↓sPar, ↓sFor, ↓aV, ↓lk, ↓aC, ↓aOp, ↓aUn, ↓aCall, ↓aNil, ↓aCons, ↓aIf, ↓aTest, ↓aAnd, ↓aOr, ↓aNot, ↓aAndV, ↓aOrV, ↓aNotV, ↓aI, ↓aI0, ↓aNeg, ↓aIsN, ↓isNone, ↓aTup, ↓purs, ↓aLst, ↓aLstO, ↓aIx, ↓gi0, ↓gi1, ↓gi2, ↓giN, ↓a1, ↓aLen, ↓aAbs, ↓aInt, ↓aStr, ↓aIsi, ↓btOf, ↓BT.isB, ↓aYes, ↓aiSeq, wipeL, ↓startL, List.map, List.set, List.replicate, List.length, List.append, List.cons_append, List.nil_append, ↓aMt, ↓isLs, ↓aLc, ↓aLcO, Bool.false_bne, Bool.true_bne, Bool.xor_false, Bool.false_xor, Bool.true_xor, Bool.not_true, Bool.not_false, decide_eq_true_eq, if_true, if_false, ite_true, ite_false, reduceIte, Bool.false_eq_true, List.getElem?_cons_zero, List.getElem?_cons_succ, ↓aLt, ↓aLe, ↓aGt, ↓aGe, ↓aSub, ↓aMul, ↓aDiv, ↓aMod, ↓aPow, true_and, and_true]
  refine ⟨by have := g2.small; omega, by have := g2.small; omega, ?_⟩
  rw [show ((l2.m : Nat) : Int).toNat = l2.m from rfl]
  refine lc2_map (List.range l2.m) (fun k => .p (.int (k : Nat))) (fun _ => List.range l1.m) (fun _ _ => true) (fun x y => prP (l1.m + x, y)) (fun x hx Q hQ => ?_) ?_ ?_
  · simp only [↓sNext, ↓sBreak, ↓sCont, ↓sDrop, ↓sRet, ↓sRetN, ↓sIf, ↓sAsg, ↓agName, ↓agNil, ↓agCons, ↓agTup, ↓sPar, ↓sFor, ↓aV, ↓lk, ↓aC, ↓aOp, ↓aUn, ↓aCall, ↓aNil, ↓aCons, ↓aIf, ↓aTest, ↓aAnd, ↓aOr, ↓aNot, ↓aAndV, ↓aOrV, ↓aNotV, ↓aI, ↓aI0, ↓aAdd, ↓aNeg, ↓aIsN, ↓isNone, ↓aTup, ↓purs, ↓aLst, ↓aLstO, ↓aIx, ↓gi0, ↓gi1, ↓gi2, ↓giN, ↓a1, ↓aLen, ↓aAbs, ↓aInt, ↓aStr, ↓aIsi, ↓btOf, ↓BT.isB, ↓aYes, ↓aiSeq, wipeL, ↓startL, List.map, List.set, List.replicate, List.length, List.append, List.cons_append, List.nil_append, ↓aMt, ↓isLs, ↓aLc, ↓aLcO, Bool.false_bne, Bool.true_bne, Bool.xor_false, Bool.false_xor, Bool.true_xor, Bool.not_true, Bool.not_false, decide_eq_true_eq, if_true, if_false, ite_true, ite_false, reduceIte, Bool.false_eq_true, List.getElem?_cons_zero, List.getElem?_cons_succ, ↓aLt, ↓aLe, ↓aGt, ↓aGe, ↓aSub, ↓aMul, ↓aDiv, ↓aMod, ↓aPow, true_and, and_true]
    refine hQ _ fun R hR => ?_
    simp only [↓sNext, ↓sBreak, ↓sCont, ↓sDrop, ↓sRet, ↓sRetN, ↓sIf, ↓sAsg, ↓agName, ↓agNil, ↓agCons, ↓agTup, ↓sPar, ↓sFor, ↓aV, ↓lk, ↓aC, ↓aOp, ↓aUn, ↓aCall, ↓aNil, ↓aCons, ↓aIf, ↓aTest, ↓aAnd, ↓aOr, ↓aNot, ↓aAndV, ↓aOrV, ↓aNotV, ↓aI, ↓aI0, ↓aAdd, ↓aNeg, ↓aIsN, ↓isNone, ↓aTup, ↓purs, ↓aLst, ↓aLstO, ↓aIx, ↓gi0, ↓gi1, ↓gi2, ↓giN, ↓a1, ↓aLen, ↓aAbs, ↓aInt, ↓aStr, ↓aIsi, ↓btOf, ↓BT.isB, ↓aYes, ↓aiSeq, wipeL, ↓startL, List.map, List.set, List.replicate, List.length, List.append, List.cons_append, List.nil_append, ↓aMt, ↓isLs, ↓aLc, ↓aLcO, Bool.false_bne, Bool.true_bne, Bool.xor_false, Bool.false_xor, Bool.true_xor, Bool.not_true, Bool.not_false, decide_eq_true_eq, if_true, if_false, ite_true, ite_false, reduceIte, Bool.false_eq_true, List.getElem?_cons_zero, List.getElem?_cons_succ, ↓aLt, ↓aLe, ↓aGt, ↓aGe, ↓aSub, ↓aMul, ↓aDiv, ↓aMod, ↓aPow, true_and, and_true, aiRng1]
    refine ⟨by have := g1.small; omega, by have := g1.small; omega, ?_⟩
    rw [show ((l1.m : Nat) : Int).toNat = l1.m from rfl]
    refine hR _ _ trivial fun N acc hN hz => ?_
    refine lc2In_map (List.range l1.m) (fun k => .p (.int (k : Nat))) (fun _ => true) (fun y => prP (l1.m + x, y)) (fun y hy Q R hQ => ?_) acc hz hN trivial
    rw [if_pos rfl] at hQ
    simp only [↓sNext, ↓sBreak, ↓sCont, ↓sDrop, ↓sRet, ↓sRetN, ↓sIf, ↓sAsg, ↓agName, ↓agNil, ↓agCons, ↓agTup, ↓sPar, ↓sFor, ↓aV, ↓lk, ↓aC, ↓aOp, ↓aUn, ↓aCall, ↓aNil, ↓aCons, ↓aIf, ↓aTest, ↓aAnd, ↓aOr, ↓aNot, ↓aAndV, ↓aOrV, ↓aNotV, ↓aI, ↓aI0, ↓aAdd, ↓aNeg, ↓aIsN, ↓isNone, ↓aTup, ↓purs, ↓aLst, ↓aLstO, ↓aIx, ↓gi0, ↓gi1, ↓gi2, ↓giN, ↓a1, ↓aLen, ↓aAbs, ↓aInt, ↓aStr, ↓aIsi, ↓btOf, ↓BT.isB, ↓aYes, ↓aiSeq, wipeL, ↓startL, List.map, List.set, List.replicate, List.length, List.append, List.cons_append, List.nil_append, ↓aMt, ↓isLs, ↓aLc, ↓aLcO, Bool.false_bne, Bool.true_bne, Bool.xor_false, Bool.false_xor, Bool.true_xor, Bool.not_true, Bool.not_false, decide_eq_true_eq, if_true, if_false, ite_true, ite_false, reduceIte, Bool.false_eq_true, List.getElem?_cons_zero, List.getElem?_cons_succ, ↓aLt, ↓aLe, ↓aGt, ↓aGe, ↓aSub, ↓aMul, ↓aDiv, ↓aMod, ↓aPow, true_and, and_true]
    have e1 : ((l1.m : Nat) : Int) + (x : Nat) = ((l1.m + x : Nat) : Int) := by omega
    rw [e1]
    exact hQ
  · have := flat_len (f := fun _ : Nat => List.range l1.m) (n := l1.m) (fun _ => by simp) (List.range l2.m)
    rw [List.length_range] at this
    exact small_sl (by omega)
  refine ⟨_, rfl, ?_⟩
  have e2 : ((List.range l2.m).flatMap fun x => ((List.range l1.m).filter fun _ => true).map fun y => prP (l1.m + x, y)) = ((List.range l2.m).flatMap fun x => (List.range l1.m).map fun y => (l1.m + x, y)).map prP := by
    rw [List.map_flatMap]
    congr 1
    funext x
    rw [List.filter_eq_self.mpr (fun _ _ => rfl), List.map_map]
    rfl
  rw [e2]
  have h4 := flat_rect l1.m l2.m
  refine ⟨small_sl (by simp only [List.length_map, List.length_append]; omega), ?_⟩
  rw [← List.map_append]
  exact ⟨l1.m + l2.m, besF l1 l2, .p (.lst ((besF l1 l2).map prP)), by simp [besF], rfl, .inl h⟩
end
end Lw
/-! Am: own classes: instances made, their fields, their methods. -/
namespace Am
open PySem PySem.Spec L2
/-! ### fields -/
/-- a field stored -/
def putA {α : Type} (f : Str) (y : α) : List (Str × α) → List (Str × α)
  | [] => [(f, y)]
  | (g, x) :: r => if g = f then (g, y) :: r else (g, x) :: putA f y r
theorem putA_len {α : Type} (f : Str) (y : α) : ∀ fs : List (Str × α), (putA f y fs).length ≤ fs.length + 1
  | [] => by simp [putA]
  | (g, x) :: r => by
    unfold putA
    have := putA_len f y r
    split <;> simp only [List.length_cons] <;> omega
section
variable {K : PySem.W.Frag} {η : List Addr} {Hk : Hp}
theorem ReE.putF {f : Str} {v : V} {d : D} (r0 : Re K η Hk v d) : ∀ {gs : List (Str × V)} {fs : List (Str × D)}, ReE K η Hk gs fs → ReE K η Hk (putF f v gs) (putA f d fs)
  | _, _, .nil => .cons r0 .nil
  | _, _, .cons (k := k) r1 l => by
    unfold L2.putF putA
    by_cases h : k = f
    · rw [if_pos h, if_pos h]; exact .cons r0 l
    · rw [if_neg h, if_neg h]; exact .cons r1 (ReE.putF r0 l)
theorem ReE.look {f : Str} : ∀ {gs : List (Str × V)} {fs : List (Str × D)}, ReE K η Hk gs fs → (∃ v d, gs.lookup f = some v ∧ fs.lookup f = some d ∧ Re K η Hk v d) ∨ (gs.lookup f = none ∧ fs.lookup f = none)
  | _, _, .nil => .inr ⟨rfl, rfl⟩
  | _, _, .cons (k := k) (v := v) (x := x) r1 l => by
    by_cases h : (f == k) = true
    · exact .inl ⟨v, x, by simp [List.lookup, h], by simp [List.lookup, h], r1⟩
    · have h : (f == k) = false := by simpa using h
      rcases ReE.look (f := f) l with ⟨v2, d2, a1, a2, a3⟩ | ⟨a1, a2⟩
      · exact .inl ⟨v2, d2, by simp [List.lookup, h, a1], by simp [List.lookup, h, a2], a3⟩
      · exact .inr ⟨by simp [List.lookup, h, a1], by simp [List.lookup, h, a2]⟩
theorem RpF.ent {K : PySem.W.Frag} {η : List Addr} {Hk : Hp} : ∀ {xs : List (Str × P)} {vs : List (Str × V)}, RpF K Hk vs xs → ReE K η Hk vs (xs.map fun kv => (kv.1, .p kv.2))
  | [], _, h => by cases h; exact .nil
  | (_, x) :: xs, _, h => by
    cases h with
    | cons r l => exact .cons r (RpF.ent l)
theorem RpF.of_ent {K : PySem.W.Frag} {η : List Addr} {Hk : Hp} : ∀ {xs : List (Str × P)} {vs : List (Str × V)}, ReE K η Hk vs (xs.map fun kv => (kv.1, .p kv.2)) → RpF K Hk vs xs
  | [], _, h => by cases h; exact .nil
  | (_, x) :: xs, _, h => by
    cases h with
    | cons r l => exact .cons r (RpF.of_ent l)
end
/-- the fields of an instance of the class at C -/
def insOf (S : List O) (C : Addr) : D → Option (List (Str × D))
  | .own n => match S[n]? with | some (.ins C' fs) => if C' = C then some fs else none | _ => none
  | .p (.ins C' fs) => if C' = C then some (fs.map fun kv => (kv.1, .p kv.2)) else none
  | _ => none
theorem Cf.ins {K : PySem.W.Frag} (c : Cf K) {C : Addr} {v : V} {d : D} {fs : List (Str × D)} (r : c.re v d) (h : insOf c.S C d = some fs) : ∃ a dx gs, v = .ref a ∧ c.H a = some (.ins C dx gs) ∧ ReE K c.η c.Hk gs fs := by
  cases d with
  | own n =>
    unfold insOf at h
    dsimp only at h
    split at h
    · rename_i C' fs' e
      by_cases hC : C' = C
      · rw [if_pos hC] at h
        cases h; subst hC
        obtain ⟨a, e1, rfl⟩ := r
        obtain ⟨_, dx, gs, e2, l⟩ := c.ok.obj n a _ e1 e
        exact ⟨a, dx, gs, rfl, e2, l⟩
      · rw [if_neg hC] at h; cases h
    · cases h
  | p x =>
    cases x with
    | ins C' fs' =>
      unfold insOf at h
      dsimp only at h
      by_cases hC : C' = C
      · rw [if_pos hC] at h
        cases h; subst hC
        cases (show Rp K c.Hk v (.ins C' fs') from r) with
        | ins s l => exact ⟨_, _, _, rfl, c.ok.ex _ _ s, RpF.ent l⟩
      · rw [if_neg hC] at h; cases h
    | _ => cases h
section
variable {X : Cx} {C : Addr} {o e value : Expr} {es : List Expr} {f m : Str} {pos pos' p apos : Pos} {te to tv : AE} {ta : AA}
/-- o.f -/
def aFld (C : Addr) (f : Str) : A1 := fun a S Post => match insOf S C a with
  | some fs => (match fs.lookup f with | some d => Post d S | none => False)
  | none => False
theorem je_fld (c : Cls X.K C) (n : NoAttr X.K C f) (he : JE X e te) (hb : attributeBase e f X.env (eval e X.env) = eval e X.env := by rfl) : JE X (.Attribute e f pos) (aUn (aFld C f) te) := by
  obtain ⟨t1, p1, l1⟩ := he
  refine ⟨_, pe_fld p1 hb, ⟨fun c' L σ Post Q hs h q => ?_⟩⟩
  refine l1.run c' L σ _ _ hs h fun d v x le re h => ?_
  unfold aFld at h
  split at h
  · rename_i fs ei
    split at h
    · rename_i y ef
      obtain ⟨a, dx, gs, rfl, ea, l⟩ := d.ins re ei
      rcases l.look (f := f) with ⟨v2, d2, a1, a2, a3⟩ | ⟨a1, a2⟩
      · rw [ef] at a2; cases a2
        exact ⟨a, C, dx, gs, v2, rfl, ea, c, n, a1, q d v2 y le a3 h⟩
      · rw [ef] at a2; cases a2
    · exact h.elim
  · exact h.elim
/-- o.f = value -/
def sFldS (C : Addr) (f : Str) (to tv : AE) : AS := fun E L S => tv L S fun y S1 => to L S1 fun o S2 => match o with
  | .own n => (match S2[n]? with | some (.ins C' fs) => C' = C ∧ fs.length < 900 ∧ E.nx L (S2.set n (.ins C (putA f y fs))) | _ => False)
  | _ => False
theorem Cf.setIns {K : PySem.W.Frag} (c : Cf K) {n : Nat} {a dx : Addr} {fs fs' : List (Str × D)} {gs' : List (Str × V)} (e1 : c.η[n]? = some a) (e2 : c.S[n]? = some (.ins C fs)) (l : ReE K c.η c.Hk gs' fs') (z : fs'.length < 1000) :
    ∃ e : Cf K, e.H = upd c.H a (.ins C dx gs') ∧ e.S = c.S.set n (.ins C fs') ∧ c.Le e := by
  have w := c.ok.write (o := .ins C fs') (u := .ins C dx gs') e1 e2 (fun z => nomatch z) ⟨z, dx, gs', upd_same, l⟩
  exact ⟨⟨c.η, c.Hk, _, _, w.1⟩, rfl, rfl, w.2⟩
theorem js_fld (c : Cls X.K C) (n : NoAttr X.K C f) (ho : JE X o to) (hv : JE X value tv) (hs : swapsWith value (some (.Attribute o f pos')) pos.line X.env = pure false := by rfl) : JS X (.Assign [.Attribute o f pos'] value pos) (sFldS C f to tv) := by
  obtain ⟨t1, p1, l1⟩ := ho
  obtain ⟨t2, p2, l2⟩ := hv
  refine ⟨_, ps_fld p1 p2 hs, ⟨fun c' L σ E D hs h k1 k2 k3 k4 => ?_⟩⟩
  refine l2.run c' L σ _ _ hs h fun d1 v1 y le1 r1 h => ?_
  refine l1.run d1 L σ _ _ (le1.sl hs) h fun d v x le re h => ?_
  split at h
  · rename_i i
    split at h
    · rename_i C' fs e2
      obtain ⟨rfl, z, h⟩ := h
      obtain ⟨a, e1, rfl⟩ := re
      obtain ⟨_, dx, gs, ea, l⟩ := d.ok.obj i a _ e1 e2
      have hlen : gs.length < 1000 := by
        have := ReE.length l
        omega
      obtain ⟨e, q1, q2, le2⟩ := d.setIns (dx := dx) e1 e2 (ReE.putF (f := f) (le.re r1) l) (by have := putA_len f y fs; omega)
      refine ⟨a, C', dx, gs, rfl, ea, c, n, hlen, ?_⟩
      have lef := le1.trans (le.trans le2)
      have := k1 e σ L lef (lef.sl hs) (by rw [q2]; exact h)
      rw [q1] at this
      exact this
    · exact h.elim
  · exact h.elim
end
/-! ### methods -/
section
variable {P : Program} {w : World} {K : PySem.W.Frag} {mg : Str → Option Value} {base : Heap}
structure ClM (P : Program) (w : World) (K : PySem.W.Frag) (mg : Str → Option Value) (base : Heap) (k : Nat) (C : Addr) (m : Str) (ps : List Str) (F : FT) : Prop where
  ex : ∃ f fd, Meth K C m f ∧ Binds K fd ps [] ∧ FnG P w K mg base CX0 k f fd ps (spOf K F)
structure ClI (P : Program) (w : World) (K : PySem.W.Frag) (mg : Str → Option Value) (base : Heap) (k : Nat) (C : Addr) (x : Str) (ps : List Str) (F : FT) : Prop where
  ex : ∃ f fd, Mk K C f ∧ mg x = some (.ref C) ∧ Binds K fd ps [] ∧ FnG P w K mg base CX0 k f fd ps (spOf K F)
/-- a method that stands in its class; __init__ -/
structure PreM (K : PySem.W.Frag) (C : Addr) (m qual : Str) (st : Stmt) : Prop where
  ex : ∃ f fd, Fun K m qual st f fd ∧ Meth K C m f
structure PreI (K : PySem.W.Frag) (C : Addr) (qual : Str) (st : Stmt) : Prop where
  ex : ∃ f fd, Fun K "__init__" qual st f fd ∧ Mk K C f
theorem PreM.cl {C : Addr} {m qual : Str} {st : Stmt} {k : Nat} {ps : List Str} {F : FT} (p : PreM K C m qual st) (hb : ∀ (kV doc pm : Value) (an : Option Addr) (cdv ct : Value) (us : List Value), us.length = ps.length → bindArgs (PySem.W.fnOf m qual (defArgs st) (defBody st) (defScope st) .none kV doc pm an cdv ct) ⟨us, []⟩ = pure (ps.zip us))
    (h : ∀ f fd, Fun K m qual st f fd → FnG P w K mg base CX0 k f fd ps (spOf K F)) : ClM P w K mg base k C m ps F :=
  let ⟨f, fd, F, m⟩ := p.ex
  ⟨f, fd, m, F.binds hb, h f fd F⟩
theorem PreI.cl {C : Addr} {x qual : Str} {st : Stmt} {k : Nat} {ps : List Str} {F : FT} (p : PreI K C qual st) (hm : mg x = some (.ref C)) (hb : ∀ (kV doc pm : Value) (an : Option Addr) (cdv ct : Value) (us : List Value), us.length = ps.length → bindArgs (PySem.W.fnOf "__init__" qual (defArgs st) (defBody st) (defScope st) .none kV doc pm an cdv ct) ⟨us, []⟩ = pure (ps.zip us))
    (h : ∀ f fd, Fun K "__init__" qual st f fd → FnG P w K mg base CX0 k f fd ps (spOf K F)) : ClI P w K mg base k C x ps F :=
  let ⟨f, fd, F, m⟩ := p.ex
  ⟨f, fd, m, hm, F.binds hb, h f fd F⟩
end
section
variable {X : Cx} {C f : Addr} {o e value : Expr} {es : List Expr} {m x : Str} {pos pos' p apos : Pos} {te to tv : AE} {tr : AA} {k k' : Nat} {fd : FuncData} {ps : List Str} {F : FT} {CX : CXT} {E : XK} {sp : Sp}
/-- the receiver has no field of the method's name -/
def recv (S : List O) (C : Addr) (m : Str) (d : D) : Prop := match insOf S C d with | some fs => fs.lookup m = none | none => False
def aMeth (C : Addr) (m : Str) (F : FT) (to : AE) (tr : AA) : AE := fun L S Post => to L S fun o S1 => recv S1 C m o ∧ tr L S1 fun as S2 => F (o :: as) S2 Post
theorem recv_at {K : PySem.W.Frag} (c : Cf K) {v : V} {d : D} (r : c.re v d) (h : recv c.S C m d) : ∃ a dx gs, v = .ref a ∧ c.H a = some (.ins C dx gs) ∧ gs.lookup m = none := by
  unfold recv at h
  split at h
  · rename_i fs e
    obtain ⟨a, dx, gs, rfl, ea, l⟩ := c.ins r e
    rcases l.look (f := m) with ⟨v2, d2, a1, a2, a3⟩ | ⟨a1, a2⟩
    · rw [h] at a2; cases a2
    · exact ⟨a, dx, gs, rfl, ea, a1⟩
  · exact h.elim
theorem je_meth' {pl : Sem Bool} (ho : JE X o to) (c : Cls X.K C) (hm : Meth X.K C m f) (G : FnG X.prog X.w X.K X.mg X.base CX0 k f fd ps (spOf X.K F)) (hgd : X.A.guards = some []) (hr : Room k X.A) (hb : Binds X.K fd ps []) (ha : JA X (e :: es) tr)
    (hst : starEach (e :: es) X.env = (false, eval e X.env) :: starEach es X.env := by rfl) (hpl : (backTo pos (starEach es X.env)).any (·.1) = false := by rfl)
    (ht : eval (.Call (.Attribute o m apos) (e :: es) [] pos) X.env = (do
      let ov ← eval o X.env
      standAt apos.atName
      let (f, first) ← holding [ov] (getMethod ov m pl)
      callWith pos f first (backTo pos (starEach (e :: es) X.env)) (backToKw pos (keywordEach [] X.env))) := by rfl) :
    JE X (.Call (.Attribute o m apos) (e :: es) [] pos) (aMeth C m F to tr) := by
  obtain ⟨t1, p1, l1⟩ := ho
  obtain ⟨t2, p2, l2⟩ := ha
  refine ⟨fun σ H Q => t1 σ H fun x H1 => ∃ a dx fs, x = .ref a ∧ H1 a = some (.ins C dx fs) ∧ fs.lookup m = none ∧ t2 σ H1 fun vs H2 => spOf X.K F (x :: vs) H2 Q (fun _ _ _ => False), ⟨fun pins s σ H Q I h => ?_⟩, ⟨fun c' L σ Post Q hs h q => ?_⟩⟩
  · refine PySem.W.methodCall_KW (pl := pl) (thn (p1.run pins s σ H _ I h) fun u s1 ⟨x, H1, I1, rx, a, dx, fs, ex, ea, l, q⟩ => ?_) ht
    subst ex
    obtain rfl : u = Value.ref a := rx
    refine getmeth_ok I1 ea c hm l ?_
    refine PySem.W.callWith_K (first := [.ref a]) (h₀ := X.base) I.ok.mod.kin hm.kp (thn (p2.run pos pins s1 σ H1 _ I1 q) fun us s2 ⟨vs, H2, I2, r, q2⟩ => ⟨I2.kIn, ?_⟩) hst hpl
    exact run_g (us := .ref a :: us) (vs := .ref a :: vs) G hgd hr hb pass0' I2 (.cons rfl r) q2
  · refine l1.run c' L σ _ _ hs h fun d v x le re h => ?_
    obtain ⟨hrc, h⟩ := h
    obtain ⟨a, dx, gs, rfl, ea, hl⟩ := recv_at d re hrc
    refine ⟨a, dx, gs, rfl, ea, hl, ?_⟩
    exact l2.run d L σ _ _ (le.sl hs) h fun d2 vs as le2 re2 h => ⟨d2, x :: as, Post, rfl, .cons (le2.re re) re2, h, fun d3 v a le3 r3 h => q d3 v a (le.trans (le2.trans le3)) r3 h⟩
theorem je_meth0' {pl : Sem Bool} (ho : JE X o to) (c : Cls X.K C) (hm : Meth X.K C m f) (G : FnG X.prog X.w X.K X.mg X.base CX0 k f fd ps (spOf X.K F)) (hgd : X.A.guards = some []) (hr : Room k X.A) (hb : Binds X.K fd ps [])
    (ht : eval (.Call (.Attribute o m apos) [] [] pos) X.env = (do
      let ov ← eval o X.env
      standAt apos.atName
      let (f, first) ← holding [ov] (getMethod ov m pl)
      callWith pos f first (backTo pos (starEach [] X.env)) (backToKw pos (keywordEach [] X.env))) := by rfl) :
    JE X (.Call (.Attribute o m apos) [] [] pos) (aMeth C m F to aNil) := by
  obtain ⟨t1, p1, l1⟩ := ho
  refine ⟨fun σ H Q => t1 σ H fun x H1 => ∃ a dx fs, x = .ref a ∧ H1 a = some (.ins C dx fs) ∧ fs.lookup m = none ∧ spOf X.K F [x] H1 Q (fun _ _ _ => False), ⟨fun pins s σ H Q I h => ?_⟩, ⟨fun c' L σ Post Q hs h q => ?_⟩⟩
  · refine PySem.W.methodCall_KW (pl := pl) (thn (p1.run pins s σ H _ I h) fun u s1 ⟨x, H1, I1, rx, a, dx, fs, ex, ea, l, q⟩ => ?_) ht
    subst ex
    obtain rfl : u = Value.ref a := rx
    refine getmeth_ok I1 ea c hm l ?_
    exact PySem.W.callWith_K0 (first := [.ref a]) I1.kIn hm.kp (run_g (us := [.ref a]) (vs := [.ref a]) G hgd hr hb pass0' I1 (.cons rfl .nil) q)
  · refine l1.run c' L σ _ _ hs h fun d v x le re h => ?_
    obtain ⟨hrc, h⟩ := h
    obtain ⟨a, dx, gs, rfl, ea, hl⟩ := recv_at d re hrc
    exact ⟨a, dx, gs, rfl, ea, hl, d, [x], Post, rfl, .cons re .nil, h, fun d3 v a le3 r3 h => q d3 v a (le.trans le3) r3 h⟩
theorem je_meth {pl : Sem Bool} (c : Cls X.K C) (M : ClM X.prog X.w X.K X.mg X.base k C m ps F) (hgd : X.A.guards = some []) (hr : Room k' X.A) (ho : JE X o to) (ha : JA X (e :: es) tr) (hk : k ≤ k' := by decide)
    (hst : starEach (e :: es) X.env = (false, eval e X.env) :: starEach es X.env := by rfl) (hpl : (backTo pos (starEach es X.env)).any (·.1) = false := by rfl)
    (ht : eval (.Call (.Attribute o m apos) (e :: es) [] pos) X.env = (do
      let ov ← eval o X.env
      standAt apos.atName
      let (f, first) ← holding [ov] (getMethod ov m pl)
      callWith pos f first (backTo pos (starEach (e :: es) X.env)) (backToKw pos (keywordEach [] X.env))) := by rfl) :
    JE X (.Call (.Attribute o m apos) (e :: es) [] pos) (aMeth C m F to tr) := by
  obtain ⟨f, fd, m, b, G⟩ := M.ex
  exact je_meth' ho c m (G.mono hk) hgd hr b ha hst hpl ht
theorem je_meth0 {pl : Sem Bool} (c : Cls X.K C) (M : ClM X.prog X.w X.K X.mg X.base k C m ps F) (hgd : X.A.guards = some []) (hr : Room k' X.A) (ho : JE X o to) (hk : k ≤ k' := by decide)
    (ht : eval (.Call (.Attribute o m apos) [] [] pos) X.env = (do
      let ov ← eval o X.env
      standAt apos.atName
      let (f, first) ← holding [ov] (getMethod ov m pl)
      callWith pos f first (backTo pos (starEach [] X.env)) (backToKw pos (keywordEach [] X.env))) := by rfl) :
    JE X (.Call (.Attribute o m apos) [] [] pos) (aMeth C m F to aNil) := by
  obtain ⟨f, fd, m, b, G⟩ := M.ex
  exact je_meth0' ho c m (G.mono hk) hgd hr b ht
/-! ### C(..) -/
def aMake (C : Addr) (F : FT) (tr : AA) : AE := fun L S Post => tr L S fun as S1 => F (.own S1.length :: as) (S1 ++ [.ins C []]) fun v S2 => v = .p .non ∧ Post (.own S1.length) S2
theorem guards_make {A : Around} {us : List Value} {kw : List (Str × Value)} : (A.under (.builtin "type.__call__" ⟨.ref C :: us, kw⟩)).guards = A.guards := by
  first | rfl | simp [Around.under, Code.guards, pushGuards]
theorem run_mk {pins : List (Addr × Obj)} {σ : St} {H : Hp} {s : Shared} {Q : VK} {us : List Value} {vs : List V} (M : Mk X.K C f) (G : FnG X.prog X.w X.K X.mg X.base CX k f fd ps sp) (hgd : X.A.guards = some []) (hr : Room (k + 1) X.A) (hb : Binds X.K fd ps [])
    (hx : Passes CX X E) (I : L2.Inv X pins σ H s) (r : Vals vs us)
    (h : ∀ x dx, H x = none → H dx = none → dx ≠ x → sp (.ref x :: vs) (upd (upd H dx (.own x)) x (.ins C dx [])) (fun v H2 => v = .non ∧ Q (.ref x) H2) E) :
    wpAny (model X.prog X.w) X.A (call (.ref C) us) (EP X pins σ Q) X.xe s := by
  have hq := h (s.heap.objs.size + 1) s.heap.objs.size (I.hok.fresh (Nat.le_succ _)) (I.hok.fresh (Nat.le_refl _)) (Nat.ne_of_lt (Nat.lt_succ_self _))
  have I2 := L2.Inv.made (C := C) I
  have r2 : Vals (V.ref (s.heap.objs.size + 1) :: vs) (Value.ref (s.heap.objs.size + 1) :: us) := .cons rfl r
  have hl : ((Value.ref (s.heap.objs.size + 1) :: us) ++ []).length = ps.length := by
    have e := r2.length
    rw [G.len _ _ _ _ hq] at e
    rw [List.append_nil]
    exact e.symm
  have b := hb _ (Value.ref (s.heap.objs.size + 1) :: us) I2.kIn hl
  rw [List.append_nil] at b
  refine wpAny_call (make_map (f := f) I.kIn M.makes M.init (beq_iff_eq.mp M.fn) (codeAny_mono (G.go _ X.stack _ _ ⟨Value.ref (s.heap.objs.size + 1) :: us, []⟩ (Value.ref (s.heap.objs.size + 1) :: us) _ _ E (guards_make.trans hgd) (hr.make C us [])
    (I2.env0.make C us []) b r2 hq) fun r s' hq' => ?_))
  cases r with
  | error e => exact hx pins σ _ _ e s' I2 hq'
  | ok fl =>
    cases fl with
    | ret u =>
      obtain ⟨v, H', I3, rv, ev, q3⟩ := I2.after hq'
      subst ev
      exact ⟨rv, ⟨V.ref (s.heap.objs.size + 1), H', I3, rfl, q3⟩⟩
    | next => exact False.elim hq'
    | brk => exact False.elim hq'
    | cont => exact False.elim hq'
/-- a new instance is owned -/
theorem Cf.newIns {K : PySem.W.Frag} (c : Cf K) {x dx : Addr} (hx : c.H x = none) (hd : c.H dx = none) (ne : dx ≠ x) :
    ∃ e : Cf K, e.H = upd (upd c.H dx (.own x)) x (.ins C dx []) ∧ e.S = c.S ++ [.ins C []] ∧ c.Le e ∧ e.re (.ref x) (.own c.S.length) := by
  have dη := c.ok.not_mem hd
  have dk := c.ok.knone hd
  have ok1 := c.ok.foreign dη dk (.own x)
  have hx1 : upd c.H dx (.own x) x = none := by rw [upd_ne (Ne.symm ne)]; exact hx
  have w := ok1.allocOwn (o := .ins C []) (u := .ins C dx []) hx1 ⟨by simp, dx, [], upd_same, .nil⟩
  refine ⟨⟨_, _, _, _, w.1⟩, rfl, rfl, ?_, x, ?_, rfl⟩
  · have le := w.2
    refine ⟨le.ex, le.pre, fun b o e hb => ?_, fun b hb => ?_, fun b hb => ?_, fun b hb => ?_⟩
    · exact le.fr b o (by rw [upd_ne (ne_of_none e hd)]; exact e) hb
    · rcases le.newE b hb with z | z
      · exact .inl z
      · refine .inr ?_
        by_cases e : b = dx
        · rw [e]; exact hd
        · rw [upd_ne e] at z; exact z
    · rcases le.newK b hb with z | z | z | ⟨xs, z⟩
      · exact .inl z
      · exact .inr (.inl z)
      · refine .inr (.inr (.inl ?_))
        by_cases e : b = dx
        · rw [e]; exact hd
        · rw [upd_ne e] at z; exact z
      · by_cases e : b = dx
        · rw [e]; exact .inr (.inr (.inl hd))
        · rw [upd_ne e] at z; exact .inr (.inr (.inr ⟨xs, z⟩))
    · refine le.kept b ?_
      by_cases e : b = dx
      · rw [e, upd_same]; simp
      · rw [upd_ne e]; exact hb
  · show (c.η ++ [x])[c.S.length]? = some x
    rw [← c.ok.len]
    simp
theorem je_make (M : ClI X.prog X.w X.K X.mg X.base k C x ps F) (hgd : X.A.guards = some []) (hr : Room k' X.A) (ha : JA X (e :: es) tr) (hk : k + 1 ≤ k' := by decide) (hg : Gl X x := by rfl)
    (hdb : (x == ("__debug__" : Str)) = false := by decide) (he : starEach (e :: es) X.env = (false, eval e X.env) :: starEach es X.env := by rfl) (hpl : (backTo pos (starEach es X.env)).any (·.1) = false := by rfl) :
    JE X (.Call (.Name x p) (e :: es) [] pos) (aMake C F tr) := by
  obtain ⟨f, fd, M, hm, b, G⟩ := M.ex
  obtain ⟨t1, p1, l1⟩ := ha
  refine ⟨fun σ H Q => t1 σ H fun vs H1 => ∀ x dx, H1 x = none → H1 dx = none → dx ≠ x → spOf X.K F (.ref x :: vs) (upd (upd H1 dx (.own x)) x (.ins C dx [])) (fun v H2 => v = .non ∧ Q (.ref x) H2) (fun _ _ _ => False), ⟨fun pins s σ H Q I h => ?_⟩, ⟨fun c L σ Post Q hs h q => ?_⟩⟩
  · refine wpAny_Call_Name_kw (ld_glob I hg hm ?_ hdb)
    refine PySem.W.callWith_K (h₀ := X.base) I.ok.mod.kin M.kp (thn (p1.run pos pins s σ H _ I h) fun us s1 ⟨vs, H1, I1, r, q⟩ => ⟨I1.kIn, ?_⟩) he hpl
    exact run_mk M G hgd (hr.mono hk) b pass0' I1 r q
  · refine l1.run c L σ _ _ hs h fun d vs as le re h => ?_
    intro y dy hy hdy ne
    obtain ⟨e, e1, e2, le2, re2⟩ := d.newIns (C := C) hy hdy ne
    refine ⟨e, .own d.S.length :: as, _, e1, .cons re2 (le2.reL re), by rw [e2]; exact h, ?_⟩
    rintro d3 v a le3 r3 ⟨rfl, h⟩
    cases (show Rp X.K d3.Hk v .non from r3)
    exact ⟨rfl, q d3 (.ref y) (.own d.S.length) (le.trans (le2.trans le3)) (le3.re re2) h⟩
theorem je_make0 (M : ClI X.prog X.w X.K X.mg X.base k C x ps F) (hgd : X.A.guards = some []) (hr : Room k' X.A) (hk : k + 1 ≤ k' := by decide) (hg : Gl X x := by rfl)
    (hdb : (x == ("__debug__" : Str)) = false := by decide) :
    JE X (.Call (.Name x p) [] [] pos) (aMake C F aNil) := by
  obtain ⟨f, fd, M, hm, b, G⟩ := M.ex
  refine ⟨fun σ H Q => ∀ x dx, H x = none → H dx = none → dx ≠ x → spOf X.K F [.ref x] (upd (upd H dx (.own x)) x (.ins C dx [])) (fun v H2 => v = .non ∧ Q (.ref x) H2) (fun _ _ _ => False), ⟨fun pins s σ H Q I h => ?_⟩, ⟨fun d L σ Post Q hs h q => ?_⟩⟩
  · refine wpAny_Call_Name_kw (ld_glob I hg hm ?_ hdb)
    exact PySem.W.callWith_K0 I.kIn M.kp (run_mk (us := []) M G hgd (hr.mono hk) b pass0' I .nil h)
  · intro y dy hy hdy ne
    obtain ⟨e, e1, e2, le2, re2⟩ := d.newIns (C := C) hy hdy ne
    refine ⟨e, [.own d.S.length], _, e1, .cons re2 .nil, by rw [e2]; exact h, ?_⟩
    rintro d3 v a le3 r3 ⟨rfl, h⟩
    cases (show Rp X.K d3.Hk v .non from r3)
    exact ⟨rfl, q d3 (.ref y) (.own d.S.length) (le2.trans le3) (le3.re re2) h⟩
/-- an instance of pure fields is frozen as soon as it is made -/
def aFzI (C : Addr) (t : AE) : AE := fun L S Post => t L S fun d S1 => ∃ n fs, d = .own n ∧ S1[n]? = some (.ins C (fs.map fun kv => (kv.1, .p kv.2))) ∧ Post (.p (.ins C fs)) (subS n (.ins C fs) S1)
theorem je_fzI (h : JE X e te) : JE X e (aFzI C te) := by
  obtain ⟨t1, p1, l1⟩ := h
  refine ⟨t1, p1, ⟨fun c L σ Post Q hs h q => ?_⟩⟩
  refine l1.run c L σ _ _ hs h fun d v x le re h => ?_
  obtain ⟨n, fs, rfl, e2, h⟩ := h
  obtain ⟨a, e1, rfl⟩ := re
  obtain ⟨z, dx, gs, ea, l⟩ := d.ok.obj n a _ e1 e2
  have hk := d.ok.hid n a _ e1 e2 (fun z => nomatch z)
  have rp : Rp X.K (upd d.Hk a (.ins C dx gs)) (.ref a) (.ins C fs) := .ins upd_same (RpF.mono (.new hk) _ _ (RpF.of_ent (η := d.η) l))
  obtain ⟨e, eh, es, le2, hsl⟩ := d.freeze (u := .ins C dx gs) e1 e2 (fun z => nomatch z) rp
  have eq : upd d.H a (.ins C dx gs) = d.H := by
    funext b
    by_cases hb : b = a
    · rw [hb, upd_same]; exact ea.symm
    · rw [upd_ne hb]
  rw [eq] at eh
  rw [← eh]
  refine q e (.ref a) (.p (.ins C fs)) (le.trans le2) ?_ (by rw [es]; exact h)
  have sl0 : d.sl [some (.ref a)] [some (.own n)] := ⟨rfl, fun i b hb => by
    match i, hb with
    | 0, hb => cases hb; exact ⟨.ref a, rfl, a, e1, rfl⟩
    | i + 1, hb => simp at hb⟩
  obtain ⟨v, ev, rv⟩ := (hsl _ _ sl0).2 0 (.p (.ins C fs)) (by show some (some (if n = n then D.p (P.ins C fs) else D.own n)) = _; rw [if_pos rfl])
  cases ev
  exact rv
end
end Am
/-! Am: own exceptions over ValueError: made, raised, let out of a def, caught. -/
namespace Am
open PySem PySem.Spec L2
/-! ### an exception class -/
section
variable {X : Cx} {e : Expr} {es : List Expr} {ta : TA} {x : Str} {MC : Addr} {mc : Value} {p1 p2 pos p : Pos} {pl : Sem Bool}
/-- B.__init__(self, ..) where B finds ValueError's -/
theorem pe_meinit (hg : Gl X x) (hm : X.mg x = some (.ref MC)) (r : ClX.CRead X.K MC mc) (vV : PySem.W.findCls X.K (.ref MC) mc "__init__" = some (.val (.builtin "ValueError.__init__"))) (ha : PA X (e :: es) ta)
    (hdb : (x == ("__debug__" : Str)) = false := by decide)
    (hc : eval (.Call (.Attribute (.Name x p1) "__init__" p2) (e :: es) [] pos) X.env = (do
      let ov ← eval (.Name x p1) X.env
      standAt p2.atName
      let (f, first) ← holding [ov] (getMethod ov "__init__" pl)
      callWith pos f first (backTo pos (starEach (e :: es) X.env)) (backToKw pos (keywordEach [] X.env))) := by rfl)
    (he : starEach (e :: es) X.env = (false, eval e X.env) :: starEach es X.env := by rfl) (hpl : (backTo pos (starEach es X.env)).any (·.1) = false := by rfl) :
    PE X (.Call (.Attribute (.Name x p1) "__init__" p2) (e :: es) [] pos) (tVeI X.K ta) := by
  refine ⟨fun pins s σ H Q I h => ?_⟩
  refine PySem.W.methodCall_KW (ld_glob I hg hm ?_ hdb) hc
  refine PySem.W.method_cls I.kIn r.ga ?_
  refine PySem.W.cls_value I.kIn r.rd vV (by decide) ?_
  show wpAny _ _ (callWith pos (Value.builtin "ValueError.__init__") [] (backTo pos (starEach (e :: es) X.env)) []) _ _ _
  refine PyProof.Rows.callWith_method1 (thn (ha.run pos pins _ σ H _ (I.tok _) h) fun us s1 ⟨vs, H1, I1, r1, a, C, ws, ev, hl, T, ea, q⟩ => ?_) he hpl
  subst ev
  cases r1 with
  | @cons _ u0 _ ur ra rw' =>
    obtain rfl : u0 = Value.ref a := ra
    have hlen : ur.length ≤ sizeLine := by
      rw [← Paired.length rw', sizeLine_eq]
      omega
    exact oinit_ok T I1 ea hlen fun s' J => ⟨.non, H1, J, rfl, q⟩
end
/-- __init__ with no field, with one -/
def spI0 (C : Addr) : Sp := fun vs H Q _ => ∃ a, vs = [.ref a] ∧ H a = some (exo a C none) ∧ Q .non H
def spI1 (C : Addr) (f : Str) : Sp := fun vs H Q _ => ∃ a y, vs = [.ref a, y] ∧ H a = some (exo a C none) ∧ ∀ dx, H dx = none → dx ≠ a → Q .non (upd (upd H dx (exd dx [(f, y)])) a (exo a C (some dx)))
theorem len_I0 {C : Addr} : ∀ vs H Q E, spI0 C vs H Q E → vs.length = ["self"].length := by rintro _ _ _ _ ⟨_, rfl, _⟩; rfl
theorem len_I1 {C : Addr} {f x : Str} : ∀ vs H Q E, spI1 C f vs H Q E → vs.length = [("self" : Str), x].length := by rintro _ _ _ _ ⟨_, _, rfl, _⟩; rfl
theorem I0_go {K : PySem.W.Frag} {C : Addr} {vs : List V} {H : Hp} {Q : VK} {E : XK} {msg : Str} (T : OexC K C) (h : spI0 C vs H Q E) :
    tDrop (tVeI K (tCons (tVar 0) (tCons (tC (.str msg)) tNil))) { nx := fun _ H' => Q .non H', rt := Q } (L2.start ["self"] vs) H := by
  obtain ⟨a, rfl, e, q⟩ := h
  exact ⟨.ref a, rfl, a, C, [.str msg], rfl, by simp, T, e, q⟩
theorem I1_go {K : PySem.W.Frag} {C : Addr} {vs : List V} {H : Hp} {Q : VK} {E : XK} {msg f x : Str} (T : OexC K C) (n : PySem.W.findIn K (.ref C) f = some none) (h : spI1 C f vs H Q E) :
    tSeq (tDrop (tVeI K (tCons (tVar 0) (tCons (tC (.str msg)) tNil)))) (tOst K f (tVar 0) (tVar 1)) { nx := fun _ H' => Q .non H', rt := Q } (L2.start [("self" : Str), x] vs) H := by
  obtain ⟨a, y, rfl, e, q⟩ := h
  exact ⟨.ref a, rfl, a, C, [.str msg], rfl, by simp, T, e, y, rfl, .ref a, rfl, a, C, rfl, T, n, .inl ⟨e, q⟩⟩
/-! ### C() -/
theorem mk_endN {X : Cx} {pins : List (Addr × Obj)} {σ : St} {H1 : Hp} {hp hp2 h2 : Heap} {g1 g2 : Array GenState} {d1 d2 : Drawn} {t1 t2 : Nat} {os1 os2 : OsState} {a C : Addr} (I1 : Inv X pins σ H1 ⟨hp, g1, d1, t1, os1⟩)
    (ha : hp.objs.size ≤ a) (k : ∀ b o, hp.get? b = some o → hp2.get? b = some o) (un : Un (frs X.stack) [] (upd H1 a (exo a C none)) (upd H1 a (exo a C none)) hp2 h2) (hok : HOk X.prog X.w (upd H1 a (exo a C none)) h2) (ho : os2 = os1) (hb : PyProof.Rows.AllBare g2) :
    ∃ (t0 : Addr) (G : Heap), Inv X pins σ H1 ⟨G, g2, d2, t2, os2⟩ ∧ (∀ b o, G.get? b = some o → h2.get? b = some o) ∧ G.get? a = none ∧
      h2.get? a = some ({ cls := .ref C, dict := none, data := .fields #[.ref t0, .none, .none, .none, .bool false, .none] } : Obj) := by
  have ea : upd H1 a (exo a C none) a = some (exo a C none) := upd_same
  obtain ⟨t0, hoe⟩ := exo_at hok ea
  have hn : H1 a = none := I1.hok.fresh ha
  obtain ⟨G, g1', g2'⟩ := restrict h2 fun b => decide (b ≠ a)
  have gk : ∀ b, b ≠ a → G.get? b = h2.get? b := fun b hb => g1' b (decide_eq_true hb)
  have ge : G.get? a = none := g2' a (by simp)
  have nha : ∀ {b : Addr} {o : Obj}, hp.get? b = some o → b ≠ a := fun {b o} z => Nat.ne_of_lt (Nat.lt_of_lt_of_le (Heap.lt_size z) ha)
  have up : ∀ {b : Addr}, b ≠ a → H1 b = none → upd H1 a (exo a C none) b = none := fun {b} hb n => by rw [upd_ne hb]; exact n
  have U : Un (frs X.stack) [] H1 H1 hp G := {
    keep := fun b o z n hf hx => by
      rw [gk b (nha z)]
      exact un.keep b o (k b o z) (up (nha z) n) hf hx
    slot := fun b o z n hf hx => by
      rw [gk b (nha z)]
      exact un.slot b o (k b o z) (up (nha z) n) hf hx
    free := fun b o z n hx => n
    there := fun b o z hx => by
      rw [gk b (nha z)]
      exact un.there b o (k b o z) hx
    tups := fun b xs z => z
    frzs := fun b o v z => z
    tbls := fun b ps z => ⟨#[], by rw [z]; simp⟩ }
  have hok3 : HOk X.prog X.w H1 G := fun b o z => by
    have hba : b ≠ a := fun e => by
      rw [e, hn] at z
      cases z
    have z' : upd H1 a (exo a C none) b = some o := by rw [upd_ne hba]; exact z
    have noa : ∀ {c : Addr}, upd H1 a (exo a C none) c = some (.own b) → c ≠ a := fun {c} hc => at_ne ea hc exo_own
    exact (hok b o z').stay (fun c v hc y => by
        have hca : c ≠ a := by
          rcases hc with hc | hc
          · rw [hc]
            exact hba
          · exact noa hc
        rw [gk c hca]
        exact y)
      (fun c hc => by rw [upd_ne (noa hc)] at hc; exact hc) (fun c xs hc => by rw [upd_ne (at_ne ea hc exo_tup)] at hc; exact hc)
  have J : Inv X pins σ H1 ⟨G, g2, d2, t2, os2⟩ := I1.call' (ch := []) ho U hok3 hb (fun b z => absurd z (by simp))
  refine ⟨t0, G, J, fun b o z => ?_, ge, hoe⟩
  by_cases hba : b = a
  · rw [hba, ge] at z
    cases z
  · exact (gk b hba).symm.trans z
section
variable {X : Cx} {x : Str} {p pos : Pos}
theorem pmk_oex0 {C fI : Addr} {k : Nat} {fd : FuncData} (T : OexC X.K C) (iC : PySem.W.findIn X.K (.ref C) "__init__" = some (some (.ref fI))) (tI : PySem.W.typeIn X.K (.ref fI) = some (.type "function"))
    (F1 : FnOk X.prog X.w X.K X.mg X.base CX0 k fI fd ["self"] (spI0 C)) (hr : Room (k + 1) X.A) (hb : Binds X.K fd ["self"] []) (hg : Gl X x) (hm : X.mg x = some (.ref C))
    (hdb : (x == ("__debug__" : Str)) = false := by decide) :
    PMk X (.Call (.Name x p) [] [] pos) (fun _ H Q => Q (.ref C) none H) := by
  intro pins s σ H Q I h
  obtain ⟨nm, q, N, bs, bm, sn, sub, ab, col, dd, k0, k1, k2, k3, k5, hC, hbm⟩ := T.cls
  refine wpAny_Call_Name_kw (ld_glob I hg hm ?_ hdb)
  refine PySem.W.callWith_K0 (first := []) I.kIn T.kC ?_
  show wpAny _ _ (call (.ref C) []) _ _ _
  obtain ⟨hp, g, dr, tk, os⟩ := s
  have hsz : hp.objs.size ≤ hp.objs.size + 1 := Nat.le_succ _
  have hn : H (hp.objs.size + 1) = none := I.hok.fresh hsz
  have kk : ∀ b o, hp.get? b = some o → ((hp.push (PySem.W.kdv_tup [])).push (PySem.HandSPX.excO C hp.objs.size)).get? b = some o := fun b o e => Heap.get?_push_of_some _ (Heap.get?_push_of_some _ e)
  have hget : ((hp.push (PySem.W.kdv_tup [])).push (PySem.HandSPX.excO C hp.objs.size)).get? (hp.objs.size + 1) = some (PySem.HandSPX.excO C hp.objs.size) := by heap_get
  have I2 : Inv X pins σ (upd H (hp.objs.size + 1) (exo (hp.objs.size + 1) C none)) ⟨(hp.push (PySem.W.kdv_tup [])).push (PySem.HandSPX.excO C hp.objs.size), g, dr, tk, os⟩ :=
    I.laid (t' := tk) (a := hp.objs.size + 1) (o := exo (hp.objs.size + 1) C none) (h' := (hp.push (PySem.W.kdv_tup [])).push (PySem.HandSPX.excO C hp.objs.size)) kk hsz (exo_ok hget)
  have r2 : Vals [V.ref (hp.objs.size + 1)] [Value.ref (hp.objs.size + 1)] := .cons rfl .nil
  have hq : spI0 C [V.ref (hp.objs.size + 1)] (upd H (hp.objs.size + 1) (exo (hp.objs.size + 1) C none)) (fun v H2 => v = .non ∧ H2 = upd H (hp.objs.size + 1) (exo (hp.objs.size + 1) C none)) (fun _ _ _ => False) :=
    ⟨_, rfl, upd_same, rfl, rfl⟩
  refine wpAny_call (PySem.HandSPX.call_own F.excBase_ValueError (fun Y => PySem.HandSPX.refsVE_contains Y bm hbm) (I.kIn _ _ hC) (PySem.W.looks_findIn I.kIn iC) (fun self => PySem.W.bind_fn I.kIn self tI) (by simp [sizeLine_eq])
    (codeAny_mono (F1.run _ X.stack _ _ ⟨[Value.ref (hp.objs.size + 1)], []⟩ [Value.ref (hp.objs.size + 1)] _ _ (fun _ _ _ => False) (hr.make C [] []) (I2.env0.make C [] []) (hb _ [Value.ref (hp.objs.size + 1)] I2.kIn rfl) r2 hq) fun r s' hq' => ?_))
  cases r with
  | error er => exact hq'.elim
  | ok fl =>
    cases fl with
    | ret u =>
      obtain ⟨v, H2, os2, bare2, un2, hok2, rv, ev, eH⟩ := hq'
      subst ev
      subst eH
      obtain ⟨h2, g2, d2, t2, os'⟩ := s'
      obtain ⟨t0, G, J, kG, ge, hoe⟩ := mk_endN (d2 := d2) (t2 := t2) I hsz kk un2 hok2 os2 bare2
      exact ⟨rv, _, _, _, ⟨G, g2, d2, t2, os'⟩, H, .ref C, none, rfl, J, kG, ge, hoe, ⟨rfl, rfl⟩, rfl, rfl, hn, rfl, bare2, raises_own T.exC T.tyC, h⟩
    | next => exact False.elim hq'
    | brk => exact False.elim hq'
    | cont => exact False.elim hq'
end
end Am
/-! Am: exceptions, the readings. -/
namespace Am
open PySem PySem.Spec L2
/-- an exception of the class at C, its fields -/
def XR {K : PySem.W.Frag} (c : Cf K) (cls : Value) (d : Option Addr) (C : Addr) (fs : List (Str × D)) : Prop :=
  cls = .ref C ∧ (fs = [] ∨ ∃ dx gs, d = some dx ∧ c.H dx = some (.xd gs) ∧ ReE K c.η c.Hk gs fs ∧ dx ∉ c.η)
section
variable {K : PySem.W.Frag} {c d : Cf K}
theorem Cf.Le.fr (x : c.Le d) {b : Addr} {o : HO} (h : c.H b = some o) (n : b ∉ c.η) : d.H b = some o ∧ b ∉ d.η := by
  refine ⟨Stp.fr x b o h n, fun hb => ?_⟩
  rcases Stp.newE x b hb with z | z
  · exact n z
  · rw [h] at z; cases z
theorem Cf.Le.reE {κ : Type} (x : c.Le d) {vs : List (κ × V)} {ds : List (κ × D)} (h : ReE K c.η c.Hk vs ds) : ReE K d.η d.Hk vs ds := by
  induction h with
  | nil => exact .nil
  | cons r _ ih => exact .cons (x.re r) ih
theorem XR.mono (x : c.Le d) {cls : Value} {dd : Option Addr} {C : Addr} {fs : List (Str × D)} (h : XR c cls dd C fs) : XR d cls dd C fs := by
  obtain ⟨h1, h2⟩ := h
  refine ⟨h1, ?_⟩
  rcases h2 with h2 | ⟨dx, gs, e1, e2, e3, e4⟩
  · exact .inl h2
  · obtain ⟨f1, f2⟩ := x.fr e2 e4
    exact .inr ⟨dx, gs, e1, f1, x.reE e3, f2⟩
end
/-- what is wanted of an exception: with the frame's slots, without -/
abbrev AXL := Addr → List (Str × D) → Ls → List O → Prop
abbrev AXP := Addr → List (Str × D) → List O → Prop
def noX : AXL := fun _ _ _ _ => False
structure LiftX (K : PySem.W.Frag) (W : WX) (ts : TS) (t : AXL → AS) : Prop where
  run : ∀ (c : Cf K) (L : Ls) (σ : St) (E : En) (PX : AXL) (D : Ends), c.sl σ L → t PX E L c.S →
    (∀ (d : Cf K) σ' L', c.Le d → d.sl σ' L' → E.nx L' d.S → D.nx σ' d.H) → (∀ (d : Cf K) v a, c.Le d → d.re v a → E.rt a d.S → D.rt v d.H) →
    (∀ (d : Cf K) σ' L', c.Le d → d.sl σ' L' → E.bk L' d.S → D.bk σ' d.H) → (∀ (d : Cf K) σ' L', c.Le d → d.sl σ' L' → E.ct L' d.S → D.ct σ' d.H) →
    (∀ (d : Cf K) σ' L' cls dd C fs, c.Le d → d.sl σ' L' → XR d cls dd C fs → PX C fs L' d.S → W cls dd σ' d.H) → ts D σ c.H
structure JSX (X : Cx) (W : WX) (st : Stmt) (t : AXL → AS) : Prop where
  ex : ∃ ts, PS X st ts ∧ LiftX X.K W ts t
structure JBX (X : Cx) (W : WX) (st : List Stmt) (t : AXL → AS) : Prop where
  ex : ∃ ts, PSs X st ts ∧ LiftX X.K W ts t
structure LiftEX (K : PySem.W.Frag) (W : WX) (te : TE) (t : AXP → AE) : Prop where
  run : ∀ (c : Cf K) (L : Ls) (σ : St) (Post : D → List O → Prop) (PX : AXP) (Q : VK), c.sl σ L → t PX L c.S Post → (∀ (d : Cf K) v a, c.Le d → d.re v a → Post a d.S → Q v d.H) →
    (∀ (d : Cf K) cls dd C fs, c.Le d → XR d cls dd C fs → PX C fs d.S → W cls dd σ d.H) → te σ c.H Q
structure JEX (X : Cx) (W : WX) (e : Expr) (t : AXP → AE) : Prop where
  ex : ∃ te, PE X e te ∧ LiftEX X.K W te t
section
variable {X : Cx} {W : WX} {st : Stmt} {rest : List Stmt} {t u : AXL → AS} {s0 : AS} {e : Expr} {te : AXP → AE} {pos : Pos}
theorem liftX_of {K : PySem.W.Frag} {ts : TS} (l : LiftS K ts s0) : LiftX K W ts (fun _ => s0) := ⟨fun c L σ E PX D hs h k1 k2 k3 k4 _ => l.run c L σ E D hs h k1 k2 k3 k4⟩
theorem jsx_of (h : JS X st s0) : JSX X W st (fun _ => s0) := let ⟨ts, p, l⟩ := h; ⟨ts, p, liftX_of l⟩
theorem jbx_of (h : JB X rest s0) : JBX X W rest (fun _ => s0) := let ⟨ts, p, l⟩ := h; ⟨ts, p, liftX_of l⟩
theorem jbx_cons (h1 : JSX X W st t) (h2 : JBX X W rest u) : JBX X W (st :: rest) (fun PX => sSeq (t PX) (u PX)) := by
  obtain ⟨t1, p1, l1⟩ := h1
  obtain ⟨t2, p2, l2⟩ := h2
  refine ⟨_, pss_cons p1 p2, ⟨fun c L σ E PX D hs h k1 k2 k3 k4 k5 => ?_⟩⟩
  rw [sSeq_run] at h
  refine l1.run c L σ _ PX { D with nx := t2 D } hs h (fun d σ' L' le hs' h => ?_) k2 k3 k4 k5
  exact l2.run d L' σ' E PX D hs' h (fun d2 σ2 L2 le2 => k1 d2 σ2 L2 (le.trans le2)) (fun d2 v a le2 => k2 d2 v a (le.trans le2)) (fun d2 σ2 L2 le2 => k3 d2 σ2 L2 (le.trans le2)) (fun d2 σ2 L2 le2 => k4 d2 σ2 L2 (le.trans le2))
    (fun d2 σ2 L2 cls dd C fs le2 => k5 d2 σ2 L2 cls dd C fs (le.trans le2))
theorem jbx_one (h1 : JSX X W st t) : JBX X W [st] t := let ⟨t1, p1, l1⟩ := h1; ⟨_, pss_one p1, l1⟩
theorem jsx_if {c : Expr} {a b : List Stmt} {tc : AT} (hc : JT X c tc) (ha : JBX X W a t) (hb : JBX X W b u) : JSX X W (.If c a b pos) (fun PX => sIf tc (t PX) (u PX)) := by
  obtain ⟨t0, p0, l0⟩ := hc
  obtain ⟨t1, p1, l1⟩ := ha
  obtain ⟨t2, p2, l2⟩ := hb
  refine ⟨_, ps_if p0 p1 p2, ⟨fun c L σ E PX D hs h k1 k2 k3 k4 k5 => ?_⟩⟩
  refine l0.run c L σ _ _ hs h fun d k le h => ?_
  cases k with
  | true =>
    rw [if_pos rfl] at h ⊢
    exact l1.run d L σ E PX D (le.sl hs) h (fun d2 σ2 L2 le2 => k1 d2 σ2 L2 (le.trans le2)) (fun d2 v a le2 => k2 d2 v a (le.trans le2)) (fun d2 σ2 L2 le2 => k3 d2 σ2 L2 (le.trans le2)) (fun d2 σ2 L2 le2 => k4 d2 σ2 L2 (le.trans le2))
      (fun d2 σ2 L2 cls dd C fs le2 => k5 d2 σ2 L2 cls dd C fs (le.trans le2))
  | false =>
    rw [if_neg Bool.false_ne_true] at h ⊢
    exact l2.run d L σ E PX D (le.sl hs) h (fun d2 σ2 L2 le2 => k1 d2 σ2 L2 (le.trans le2)) (fun d2 v a le2 => k2 d2 v a (le.trans le2)) (fun d2 σ2 L2 le2 => k3 d2 σ2 L2 (le.trans le2)) (fun d2 σ2 L2 le2 => k4 d2 σ2 L2 (le.trans le2))
      (fun d2 σ2 L2 cls dd C fs le2 => k5 d2 σ2 L2 cls dd C fs (le.trans le2))
/-- expressions that may let an exception out -/
def xE (te : AXP → AE) (PX : AXL) : AE := fun L S Post => te (fun C fs S' => PX C fs L S') L S Post
theorem jsx_expr (he : JEX X W e te) (hs : swapsWith e none pos.line X.env = pure false := by rfl) : JSX X W (.Expr e pos) (fun PX => sDrop (xE te PX)) := by
  obtain ⟨t1, p1, l1⟩ := he
  exact ⟨_, ps_expr p1 hs, ⟨fun c L σ E PX D hs h k1 k2 k3 k4 k5 => l1.run c L σ _ _ _ hs h (fun d v a le re h => k1 d σ L le (le.sl hs) h) fun d cls dd C fs le xr h => k5 d σ L cls dd C fs le (le.sl hs) xr h⟩⟩
theorem jsx_ret (he : JEX X W e te) : JSX X W (.Return (some e) pos) (fun PX => sRet (xE te PX)) := by
  obtain ⟨t1, p1, l1⟩ := he
  exact ⟨_, ps_ret p1, ⟨fun c L σ E PX D hs h k1 k2 k3 k4 k5 => l1.run c L σ _ _ _ hs h (fun d v a le re h => k2 d v a le re h) fun d cls dd C fs le xr h => k5 d σ L cls dd C fs le (le.sl hs) xr h⟩⟩
end
/-! ### raise -/
abbrev AMk := Ls → List O → AXP → Prop
structure LiftMk (K : PySem.W.Frag) (tm : St → Hp → XK → Prop) (t : AMk) : Prop where
  run : ∀ (c : Cf K) (L : Ls) (σ : St) (Post : AXP) (Q : XK), c.sl σ L → t L c.S Post → (∀ (d : Cf K) cls dd C fs, c.Le d → XR d cls dd C fs → Post C fs d.S → Q cls dd d.H) → tm σ c.H Q
structure JMk (X : Cx) (e : Expr) (t : AMk) : Prop where
  ex : ∃ tm, PMk X e tm ∧ LiftMk X.K tm t
def sRaise (t : AMk) (PX : AXL) : AS := fun _ L S => t L S fun C fs S1 => PX C fs L S1
section
variable {X : Cx} {W : WX} {e : Expr} {es : List Expr} {pos p : Pos} {t : AMk} {x : Str}
theorem jsx_raise (hc : X.calm = true) (tk : Takes X W) (h : JMk X e t) : JSX X W (.Raise (some e) none pos) (sRaise t) := by
  obtain ⟨tm, p, l⟩ := h
  exact ⟨_, ps_raise hc tk p, ⟨fun c L σ E PX D hs h k1 k2 k3 k4 k5 => l.run c L σ _ _ hs h fun d cls dd C fs le xr h => k5 d σ L cls dd C fs le (le.sl hs) xr h⟩⟩
/-- what is known of an exception class: its __init__ with no field -/
structure Ex0 (P : Program) (w : World) (K : PySem.W.Frag) (mg : Str → Option Value) (base : Heap) (x : Str) (C : Addr) : Prop where
  oex : OexC K C
  gl : mg x = some (.ref C)
  ini : ∃ fI fd, PySem.W.findIn K (.ref C) "__init__" = some (some (.ref fI)) ∧ PySem.W.typeIn K (.ref fI) = some (.type "function") ∧ FnOk P w K mg base CX0 2 fI fd ["self"] (spI0 C) ∧ L2.Binds K fd ["self"] []
/-- .. with one -/
structure Ex1 (P : Program) (w : World) (K : PySem.W.Frag) (mg : Str → Option Value) (base : Heap) (x f y : Str) (C : Addr) : Prop where
  oex : OexC K C
  gl : mg x = some (.ref C)
  ini : ∃ fI fd, PySem.W.findIn K (.ref C) "__init__" = some (some (.ref fI)) ∧ PySem.W.typeIn K (.ref fI) = some (.type "function") ∧ FnOk P w K mg base CX0 2 fI fd [("self" : Str), y] (spI1 C f) ∧ L2.Binds K fd [("self" : Str), y] []
def mk0 (C : Addr) : AMk := fun _ S Post => Post C [] S
def mk1 (C : Addr) (f : Str) (te : AE) : AMk := fun L S Post => te L S fun d S1 => Post C [(f, d)] S1
theorem jm_0 {k' : Nat} {C : Addr} (M : Ex0 X.prog X.w X.K X.mg X.base x C) (hr : Room k' X.A) (hk : 3 ≤ k' := by decide) (hg : Gl X x := by rfl) (hdb : (x == ("__debug__" : Str)) = false := by decide) : JMk X (.Call (.Name x p) [] [] pos) (mk0 C) := by
  obtain ⟨fI, fd, iC, tI, F1, hb⟩ := M.ini
  exact ⟨_, pmk_oex0 M.oex iC tI F1 (hr.mono hk) hb hg M.gl hdb, ⟨fun c L σ Post Q hs h q => q c _ _ C [] (.refl c) ⟨rfl, .inl rfl⟩ h⟩⟩
theorem jm_1 {k' : Nat} {C : Addr} {f y : Str} {te : AE} (M : Ex1 X.prog X.w X.K X.mg X.base x f y C) (hr : Room k' X.A) (he : JE X e te) (hk : 3 ≤ k' := by decide) (hg : Gl X x := by rfl) (hdb : (x == ("__debug__" : Str)) = false := by decide)
    (h1 : starEach [e] X.env = (false, eval e X.env) :: starEach [] X.env := by rfl) (hpl : (backTo pos (starEach [] X.env)).any (·.1) = false := by rfl) : JMk X (.Call (.Name x p) [e] [] pos) (mk1 C f te) := by
  obtain ⟨fI, fd, iC, tI, F1, hb⟩ := M.ini
  obtain ⟨t1, p1, l1⟩ := he
  refine ⟨_, pmk_oex (dvs := []) M.oex iC tI F1 (hr.mono hk) hb .nil pass0' hg M.gl (pa_cons p1 pa_nil h1) hdb h1 hpl, ⟨fun c L σ Post Q hs h q => ?_⟩⟩
  refine l1.run c L σ _ _ hs h fun d v a le re h => ?_
  refine ⟨by simp, fun b hb => ⟨b, v, rfl, upd_same, fun dx hdx ne => ⟨rfl, dx, [(f, v)], upd_same, by rw [upd_ne ne, upd_same], ?_, ?_⟩⟩⟩
  · rw [upd_ne ne] at hdx
    exact hdx
  · have hdn : d.H dx = none := by rw [upd_ne ne] at hdx; exact hdx
    have dη := d.ok.not_mem hdn
    have dk := d.ok.knone hdn
    have ok1 := d.ok.foreign dη dk (.xd [(f, v)])
    have eH : upd (del (upd (upd (upd d.H b (exo b C none)) dx (exd dx [(f, v)])) b (exo b C (some dx))) b) dx (.xd [(f, v)]) = upd d.H dx (.xd [(f, v)]) := by
      funext z
      by_cases z1 : z = dx
      · rw [z1, upd_same, upd_same]
      · rw [upd_ne z1, upd_ne z1]
        by_cases z2 : z = b
        · rw [z2, del_same, hb]
        · rw [del_ne z2, upd_ne z2, upd_ne z1, upd_ne z2]
    rw [eH]
    have st : Stp d.η d.Hk d.H d.η d.Hk (upd d.H dx (.xd [(f, v)])) :=
      ⟨.refl _, ⟨[], by simp⟩, fun z o e _ => by rw [upd_ne (ne_of_none e hdn)]; exact e, fun z h => .inl h, fun z h => .inr (.inl h), fun z h => by
        by_cases e : z = dx
        · rw [e, upd_same]; simp
        · rw [upd_ne e]; exact h⟩
    exact q ⟨d.η, d.Hk, _, d.S, ok1⟩ (.ref C) (some dx) C [(f, a)] (le.trans st) ⟨rfl, .inr ⟨dx, [(f, v)], rfl, upd_same, .cons re .nil, dη⟩⟩ h
end
/-! ### defs that let exceptions out -/
abbrev FTX := List D → List O → (D → List O → Prop) → AXP → Prop
def spX (K : PySem.W.Frag) (F : FTX) : Sp := fun vs H Q E => ∃ (c : Cf K) (as : List D) (Post : D → List O → Prop) (PX : AXP), c.H = H ∧ ReL K c.η c.Hk vs as ∧ F as c.S Post PX ∧ (∀ (d : Cf K) v a, c.Le d → d.re v a → Post a d.S → Q v d.H) ∧
  ∀ (d : Cf K) cls dd C fs, c.Le d → XR d cls dd C fs → PX C fs d.S → E cls dd d.H
section
variable {P : Program} {w : World} {K : PySem.W.Frag} {mg : Str → Option Value} {base : Heap}
structure ClX (P : Program) (w : World) (K : PySem.W.Frag) (mg : Str → Option Value) (base : Heap) (k : Nat) (x : Str) (st : Stmt) (ps : List Str) (F : FTX) : Prop where
  ex : ∃ f fd, Fun K x x st f fd ∧ mg x = some (.ref f) ∧ Binds K fd ps [] ∧ FnG P w K mg base (L2.CX P w) k f fd ps (spX K F)
theorem Pre.clX {x : Str} {st : Stmt} {k : Nat} {ps : List Str} {F : FTX} (p : Pre K mg x st) (hb : ∀ (kV doc pm : Value) (an : Option Addr) (cdv ct : Value) (us : List Value), us.length = ps.length → bindArgs (PySem.W.fnOf x x (defArgs st) (defBody st) (defScope st) .none kV doc pm an cdv ct) ⟨us, []⟩ = pure (ps.zip us))
    (h : ∀ f fd, Fun K x x st f fd → FnG P w K mg base (L2.CX P w) k f fd ps (spX K F)) : ClX P w K mg base k x st ps F :=
  let ⟨f, fd, F, m⟩ := p.ex
  ⟨f, fd, F, m, F.binds hb, h f fd F⟩
/-- where it lets nothing out -/
theorem ClX.cl {x : Str} {st : Stmt} {k : Nat} {ps : List Str} {F : FTX} {G : FT} (c : ClX P w K mg base k x st ps F) (h : ∀ as S Post, G as S Post → F as S Post fun _ _ _ => False) : Cl P w K mg base k x st ps G := by
  obtain ⟨f, fd, F1, m, b, G1⟩ := c.ex
  have key : ∀ vs H Q E, spOf K G vs H Q E → spX K F vs H Q fun _ _ _ => False := fun vs H Q E ⟨c, as, Post, e, r, h', q⟩ => ⟨c, as, Post, _, e, r, h _ _ _ h', q, fun _ _ _ _ _ _ _ z => z.elim⟩
  refine ⟨f, fd, F1, m, b, ⟨fun vs H Q E h' => G1.len vs H Q _ (key _ _ _ _ h'), fun A outer s H args us vs Q E gd hr e0 hb r h' => ?_⟩⟩
  refine codeAny_mono (G1.go A outer s H args us vs Q _ gd hr e0 hb r (key _ _ _ _ h')) fun r s' hq => ?_
  cases r with
  | error e =>
    obtain ⟨_, _, _, _, _, _, _, _, _, _, _, _, z⟩ := hq
    exact z.elim
  | ok fl => cases fl <;> exact hq
/-- behind a def that lets an exception out -/
def CutX (m : Nat) (PX : AXP) : AXP := fun C fs S => PX C fs S ∨ ∃ n, m ≤ n ∧ Bel n (S.take n) ∧ (∀ kv ∈ fs, kv.2.bel n) ∧ PX C fs (S.take n)
theorem CutX.pure {S : List O} {PX : AXP} {C : Addr} {fs : List (Str × Am.P)} (hb : Bel S.length S) {junk : List O} (h : PX C (fs.map fun kv => (kv.1, .p kv.2)) S) : CutX S.length PX C (fs.map fun kv => (kv.1, .p kv.2)) (S ++ junk) :=
  .inr ⟨S.length, Nat.le_refl _, by rw [List.take_left']; exact hb; rfl, fun kv hkv => by
    obtain ⟨_, _, rfl⟩ := List.mem_map.mp hkv
    trivial, by rw [List.take_left']; exact h; rfl⟩
theorem CutX.pure0 {S : List O} {PX : AXP} {C : Addr} (hb : Bel S.length S) {junk : List O} (h : PX C [] S) : CutX S.length PX C [] (S ++ junk) := CutX.pure (fs := []) hb h
/-- THE RULE for a def that may let exceptions out -/
theorem fun_okX {x qual : Str} {st : Stmt} {f : Addr} {fd : FuncData} {N ps : List Str} {k : Nat} {G : FTX} {t : AXL → AS} (F : Fun K x qual st f fd) (S : FnScope N ps (defScope st)) (len : ∀ as S Post PX, G as S Post PX → as.length = ps.length)
    (hb : ∀ (cdv : Value) (A : Around) (outer : List Env) (s : Shared) (H : Hp) (E : XK), A.guards = some [] → Room k (A.deeper (PyProof.Rows.envOfC qual (defScope st) s.heap.objs.size f cdv)) →
      Takes (cxOf (L2.CX P w) P w K mg base N qual (defScope st) f cdv A outer s H E) (fun cls d _ H => E cls d H) →
      (PassesOwn (model P w) (cxOf (L2.CX P w) P w K mg base N qual (defScope st) f cdv A outer s H E).A (cxOf (L2.CX P w) P w K mg base N qual (defScope st) f cdv A outer s H E).env (cxOf (L2.CX P w) P w K mg base N qual (defScope st) f cdv A outer s H E).xe) →
      JBX (cxOf (L2.CX P w) P w K mg base N qual (defScope st) f cdv A outer s H E) (fun cls d _ H => E cls d H) (defBody st) t)
    (hf : ∀ as S Post PX, Bel S.length S → G as S Post PX → t (fun C fs _ S' => CutX S.length PX C fs S') { nx := fun _ S' => Cut S.length Post (.p .non) S', rt := Cut S.length Post } (startL N as) S) : FnG P w K mg base (L2.CX P w) (k + 1) f fd ps (spX K G) := by
  obtain ⟨oc, od, kV, doc, pm, an, cdv, ct, osl, rfl, lk, hcd⟩ := F.ex
  refine fn_g lk hcd S (fun vs H Q E h => ?_) (fun A outer s H vs Q E gd hr h => ?_)
  · obtain ⟨c, as, Post, PX, _, r, g, _⟩ := h
    rw [r.length]
    exact len _ _ _ _ g
  · obtain ⟨c, as, Post, PX, e, r, g, q, qx⟩ := h
    subst e
    obtain ⟨ts, p, l⟩ := hb cdv A outer s c.H E gd hr (takes_of rfl rfl rfl rfl) (passes_of rfl)
    refine ⟨ts, p, ?_⟩
    have fin : ∀ (d : Cf K) v a, c.Le d → d.re v a → Cut c.S.length Post a d.S → Q v d.H := fun d v a le r h => by
      rcases h with h | ⟨n, hn, hB, hd, h⟩
      · exact q d v a le r h
      · obtain ⟨e, e1, e2, e3, e4, le'⟩ := le.cut hn hB
        rw [← e1]
        refine q e v a le' ?_ (by rw [e2]; exact h)
        show Re K e.η e.Hk v a
        rw [e3, e4]
        exact Re.cut r hd
    refine l.run c (startL N as) (L2.start N vs) _ _ _ (start_sl c r) (hf as c.S Post PX c.ok.bel g) (fun d σ' L' le hs h => fin d .non (.p .non) le .non h) (fun d v a le r h => fin d v a le r h) (fun _ _ _ _ _ h => h.elim) (fun _ _ _ _ _ h => h.elim)
      (fun d σ' L' cls dd C fs le hs xr h => ?_)
    rcases h with h | ⟨n, hn, hB, hd, h⟩
    · exact qx d cls dd C fs le xr h
    · obtain ⟨e, e1, e2, e3, e4, le'⟩ := le.cut hn hB
      rw [← e1]
      refine qx e cls dd C fs le' ?_ (by rw [e2]; exact h)
      obtain ⟨x1, x2⟩ := xr
      refine ⟨x1, ?_⟩
      rcases x2 with x2 | ⟨dx, gs, y1, y2, y3, y4⟩
      · exact .inl x2
      · refine .inr ⟨dx, gs, y1, by rw [e1]; exact y2, ?_, fun z => y4 ?_⟩
        · rw [e3, e4]; exact ReE.cut y3 hd
        · rw [e3] at z; exact List.mem_of_mem_take z
end
/-! ### a call of such a def -/
section
variable {X : Cx} {W : WX} {k k' : Nat} {st : Stmt} {ps : List Str} {F : FTX} {e : Expr} {es : List Expr} {tr : AA} {pos p : Pos} {x : Str}
def aCallX (F : FTX) (tr : AA) (PX : AXP) : AE := fun L S Post => tr L S fun as S1 => F as S1 Post PX
theorem run_gx {f : Addr} {fd : FuncData} {sp : Sp} {E : XK} {pp : List (Addr × Obj)} {τ : St} {G : Hp} {s : Shared} {Q : VK} {us : List Value} {vs : List V} (F : FnG X.prog X.w X.K X.mg X.base (L2.CX X.prog X.w) k f fd ps sp) (hg : X.A.guards = some []) (hr : Room k X.A) (hb : Binds X.K fd ps [])
    (J : L2.Inv X pp τ G s) (hx : ∀ e s', L2.CX X.prog X.w X.stack G s E e s' → X.xe e s') (r : Vals vs us) (h : sp vs G Q E) : wpAny (model X.prog X.w) X.A (call (.ref f) us) (EP X pp τ Q) X.xe s := by
  have hl : (us ++ []).length = ps.length := by rw [List.append_nil, ← r.length]; exact F.len _ _ _ _ h
  have b := hb s us J.kIn hl
  rw [List.append_nil] at b
  refine wpAny_call (codeAny_mono (F.go X.A X.stack s G _ us vs Q E hg hr J.env0 b r h) fun r s' hq => ?_)
  cases r with
  | error e => exact hx e s' hq
  | ok fl =>
    cases fl with
    | ret u => exact J.after hq
    | _ => exact hq.elim
theorem jex_own (c : ClX X.prog X.w X.K X.mg X.base k x st ps F) (tk : Takes X W) (hgd : X.A.guards = some []) (hr : Room k' X.A) (ha : JA X (e :: es) tr) (hk : k ≤ k' := by decide) (hg : Gl X x := by rfl)
    (hdb : (x == ("__debug__" : Str)) = false := by decide) (he : starEach (e :: es) X.env = (false, eval e X.env) :: starEach es X.env := by rfl) (hpl : (backTo pos (starEach es X.env)).any (·.1) = false := by rfl) : JEX X W (.Call (.Name x p) (e :: es) [] pos) (aCallX F tr) := by
  obtain ⟨f, fd, F1, m, b, G⟩ := c.ex
  obtain ⟨t1, p1, l1⟩ := ha
  refine ⟨fun σ H Q => t1 σ H fun vs H1 => spX X.K F vs H1 Q fun cls d H' => W cls d σ H', ⟨fun pp s τ H Q J h => ?_⟩, ⟨fun c L σ Post PX Q hs h q qx => ?_⟩⟩
  · refine wpAny_Call_Name_kw (ld_glob J hg m (PySem.W.callWith_K (h₀ := X.base) J.ok.mod.kin F1.kp (thn (p1.run pos pp s τ H _ J h) fun us s1 ⟨vs, H1, J1, r, q⟩ => ⟨J1.kIn, ?_⟩) he hpl) hdb)
    exact run_gx (G.mono hk) hgd hr b J1 (fun e s' c => tk e s' (XE.of_call J1 (fun _ _ _ h => h) c)) r q
  · exact l1.run c L σ _ _ hs h fun d vs as le re h => ⟨d, as, Post, PX, rfl, re, h, fun d2 v a le2 re2 h => q d2 v a (le.trans le2) re2 h, fun d2 cls dd C fs le2 xr h => qx d2 cls dd C fs (le.trans le2) xr h⟩
end
/-! ### try -/
def conX (K : PySem.W.Frag) (t : AXL → AS) (W : WX) : TS := fun D σ H => ∃ (c : Cf K) (L : Ls) (E : En) (PX : AXL), c.H = H ∧ c.sl σ L ∧ t PX E L c.S ∧
    (∀ (d : Cf K) σ' L', c.Le d → d.sl σ' L' → E.nx L' d.S → D.nx σ' d.H) ∧ (∀ (d : Cf K) v a, c.Le d → d.re v a → E.rt a d.S → D.rt v d.H) ∧
    (∀ (d : Cf K) σ' L', c.Le d → d.sl σ' L' → E.bk L' d.S → D.bk σ' d.H) ∧ (∀ (d : Cf K) σ' L', c.Le d → d.sl σ' L' → E.ct L' d.S → D.ct σ' d.H) ∧
    (∀ (d : Cf K) σ' L' cls dd C fs, c.Le d → d.sl σ' L' → XR d cls dd C fs → PX C fs L' d.S → W cls dd σ' d.H)
def conS (K : PySem.W.Frag) (t : AS) : TS := fun D σ H => ∃ (c : Cf K) (L : Ls) (E : En), c.H = H ∧ c.sl σ L ∧ t E L c.S ∧
    (∀ (d : Cf K) σ' L', c.Le d → d.sl σ' L' → E.nx L' d.S → D.nx σ' d.H) ∧ (∀ (d : Cf K) v a, c.Le d → d.re v a → E.rt a d.S → D.rt v d.H) ∧
    (∀ (d : Cf K) σ' L', c.Le d → d.sl σ' L' → E.bk L' d.S → D.bk σ' d.H) ∧ (∀ (d : Cf K) σ' L', c.Le d → d.sl σ' L' → E.ct L' d.S → D.ct σ' d.H)
section
variable {X : Cx} {W Wout : WX} {body suite : List Stmt} {b₀ : Stmt} {t : AXL → AS} {ts : AS} {x : Str} {np pos pos' : Pos} {CC : Addr}
theorem JBX.can (h : JBX X W body t) : PSs X body (conX X.K t W) := by
  obtain ⟨ts, p, l⟩ := h
  refine ⟨fun pins s σ H D I ⟨c, L, E, PX, e, hs, h, k1, k2, k3, k4, k5⟩ => ?_⟩
  subst e
  exact p.run pins s σ _ D I (l.run c L σ E PX D hs h k1 k2 k3 k4 k5)
theorem JB.can (h : JB X body ts) : PSs X body (conS X.K ts) := by
  obtain ⟨tt, p, l⟩ := h
  refine ⟨fun pins s σ H D I ⟨c, L, E, e, hs, h, k1, k2, k3, k4⟩ => ?_⟩
  subst e
  exact p.run pins s σ _ D I (l.run c L σ E D hs h k1 k2 k3 k4)
/-- try: body, except x: suite -/
def sTry (K : PySem.W.Frag) (CC : Addr) (t : AXL → AS) (ts : AS) (PX : AXL) : AS := fun E L S => t (fun C fs L' S' => ∃ b, PySem.W.exmOne K (.ref C) (.ref CC) = some b ∧ if b = true then ts E L' S' else PX C fs L' S') E L S
theorem jsx_try {K : PySem.W.Frag} (hK : ∀ C b, PySem.W.exmOne K (.ref C) (.ref CC) = some b → PySem.W.exmOne X.K (.ref C) (.ref CC) = some b) (hs : X.stack = X.env :: X.outer) (hf : X.env.frame = some X.env.locals) (hc : Names X x (.ref CC)) (tk : Takes X Wout)
    (hb : ∀ (W : WX) (pn : List (Addr × Obj)) (xe : Value → Shared → Prop), Takes (X.tr pn xe) W → PassesOwn (model X.prog X.w) X.A X.env xe → JBX (X.tr pn xe) W body t)
    (hsu : ∀ (a : Addr) (oe : Obj) (pn : List (Addr × Obj)), JB (X.suite a ((a, oe) :: pn)) (b₀ :: suite) ts) :
    JSX X Wout (.Try body [.ExceptHandler (some (.Name x np)) none (b₀ :: suite) pos'] [] [] pos) (sTry K CC t ts) := by
  refine ⟨_, ps_try_only (tb := conX X.K t) (ts := fun _ _ _ => conS X.K ts) hs hf hc tk (fun W pn xe h1 h2 => (hb W pn xe h1 h2).can) (fun a oe cls d pn _ _ => (hsu a oe pn).can), ⟨fun c L σ E PX D hs h k1 k2 k3 k4 k5 => ?_⟩⟩
  refine ⟨c, L, E, _, rfl, hs, h, k1, k2, k3, k4, fun d σ' L' cls dd C fs le hs' xr ⟨b, hb, h⟩ => ?_⟩
  obtain ⟨rfl, xr2⟩ := id xr
  refine ⟨b, hK _ _ hb, fun e a na => ?_, fun e => ?_⟩
  · rw [e, if_pos rfl] at h
    exact ⟨d, L', E, rfl, hs', h, fun d2 σ2 L2 le2 => k1 d2 σ2 L2 (le.trans le2), fun d2 v a le2 => k2 d2 v a (le.trans le2), fun d2 σ2 L2 le2 => k3 d2 σ2 L2 (le.trans le2), fun d2 σ2 L2 le2 => k4 d2 σ2 L2 (le.trans le2)⟩
  · rw [e, if_neg Bool.false_ne_true] at h
    exact k5 d σ' L' _ _ C fs le hs' xr h
/-- where nothing is let out -/
theorem js_ofX {st : Stmt} (h : JSX X (fun _ _ _ _ => False) st t) : JS X st (t noX) := by
  obtain ⟨ts, p, l⟩ := h
  exact ⟨ts, p, ⟨fun c L σ E D hs h k1 k2 k3 k4 => l.run c L σ E noX D hs h k1 k2 k3 k4 fun _ _ _ _ _ _ _ _ _ _ z => z.elim⟩⟩
theorem takes_no : Takes X (fun _ _ _ _ => False) := fun u s' ⟨_, _, _, _, _, _, _, _, _, _, _, _, _, _, _, _, z⟩ => z.elim
end
end Am
namespace Am
open PySem
theorem exm_mk {K : PySem.W.Frag} {C Y : Addr} {b : Bool} (h1 : PySem.W.isClsIn K Y = true) (h2 : PySem.W.typeIn K (.ref Y) = some (.type "type")) (h3 : PySem.W.subIn K (.ref Y) (.type "BaseException") = some true) (h4 : PySem.W.subIn K (.ref C) (.ref Y) = some b) :
    PySem.W.exmOne K (.ref C) (.ref Y) = some b := by
  have h1' : (PySem.W.clsIn K Y).isSome = true := h1
  unfold PySem.W.exmOne PySem.W.kitCls
  rw [h3]
  show (if ((PySem.W.clsIn K Y).isSome && PySem.W.typeIn K (.ref Y) == some (.type "type")) = true then PySem.W.subIn K (.ref C) (.ref Y) else none) = some b
  rw [h2, h1', h4]
  rfl
end Am
namespace Am
open PySem PySem.Spec L2
section
variable {X : Cx} {body suite : List Stmt} {b₀ : Stmt} {t : AXL → AS} {ts : AS} {x : Str} {np pos pos' : Pos} {CC : Addr}
theorem js_try {K : PySem.W.Frag} (hK : ∀ C b, PySem.W.exmOne K (.ref C) (.ref CC) = some b → PySem.W.exmOne X.K (.ref C) (.ref CC) = some b) (hm : X.mg x = some (.ref CC))
    (hb : ∀ (W : WX) (pn : List (Addr × Obj)) (xe : Value → Shared → Prop), Takes (X.tr pn xe) W → PassesOwn (model X.prog X.w) X.A X.env xe → JBX (X.tr pn xe) W body t)
    (hsu : ∀ (a : Addr) (oe : Obj) (pn : List (Addr × Obj)), JB (X.suite a ((a, oe) :: pn)) (b₀ :: suite) ts)
    (hs : X.stack = X.env :: X.outer := by rfl) (hf : X.env.frame = some X.env.locals := by rfl) (hg : Gl X x := by rfl) (hdb : (x == ("__debug__" : Str)) = false := by decide) :
    JS X (.Try body [.ExceptHandler (some (.Name x np)) none (b₀ :: suite) pos'] [] [] pos) (sTry K CC t ts noX) := js_ofX (jsx_try hK hs hf ⟨hg, hdb, .inl hm⟩ takes_no hb hsu)
end
end Am
namespace Lw
open PySem PySem.Spec PyProof.Rows L2 Am
section
variable {Pg : Program} {w : World} {K : PySem.W.Frag} {mg : Str → Option Value} {base : Heap}
/-! ### k80: spare -/
def without (ms : List Nat) (k : Nat) : List Nat := ms.filter fun x => decide (x ≠ k)
open Classical in
/-- the marks that stay, once so many of the greatest are tried -/
noncomputable def spareL (l : Lot) (n : Nat) : Nat → List Nat
  | 0 => List.range l.m
  | i + 1 => if Jm.servesB (partL l (without (spareL l n i) (l.m - 1 - i))).m (partL l (without (spareL l n i) (l.m - 1 - i))).ps n = true then without (spareL l n i) (l.m - 1 - i) else spareL l n i
theorem without_sub (ms : List Nat) (k : Nat) : List.Sublist (without ms k) ms := List.filter_sublist
theorem spare_sub (l : Lot) (n : Nat) : ∀ i, List.Sublist (spareL l n i) (List.range l.m)
  | 0 => List.Sublist.refl _
  | i + 1 => by
    rw [spareL]
    split
    · exact (without_sub _ _).trans (spare_sub l n i)
    · exact spare_sub l n i
theorem spare_nd (l : Lot) (n i : Nat) : (spareL l n i).Nodup := List.nodup_range.sublist (spare_sub l n i)
theorem spare_len (l : Lot) (n i : Nat) : (spareL l n i).length ≤ l.m := by
  have := (spare_sub l n i).length_le
  rw [List.length_range] at this
  exact this
def F_spare (C : Addr) : FTX := fun as S Post PX => ∃ (l : Lot) (n : Nat), as = [.p (lotP l), .p (.int (n : Nat))] ∧ Good l ∧ 1 ≤ n ∧ n ≤ 5 ∧ (Jm.Serves l.m l.ps n → Post (.p (rowP (spareL l n l.m))) S) ∧ (¬ Jm.Serves l.m l.ps n → PX C [] S)
theorem len_spare {C : Addr} : ∀ as S Post PX, F_spare C as S Post PX → as.length = ["lot", "n"].length := by
  rintro _ S Post PX ⟨_, _, rfl, _⟩; rfl
def F_spareN : FT := fun as S Post => ∃ (l : Lot) (n : Nat), as = [.p (lotP l), .p (.int (n : Nat))] ∧ Good l ∧ 1 ≤ n ∧ n ≤ 5 ∧ Jm.Serves l.m l.ps n ∧ Post (.p (rowP (spareL l n l.m))) S
theorem nx_spare {C : Addr} : ∀ as S Post, F_spareN as S Post → F_spare C as S Post fun _ _ _ => False := by
  rintro as S Post ⟨l, n, e, hl, h1, h5, hs, h⟩
  exact ⟨l, n, e, hl, h1, h5, fun _ => h, fun z => absurd hs z⟩
theorem cl_spare {C_Fails : Addr} (x_Fails : Ex0 Pg w K mg base "Fails" C_Fails) (p : Pre K mg "spare" st_spare) (z_range : mg "range" = none) (z_reversed : mg "reversed" = none) (z_tuple : mg "tuple" = none) (c_serves : Cl Pg w K mg base 4 "serves" st_serves ["lot", "n"] F_serves) (c_part : Cl Pg w K mg base 2 "part" st_part ["lot", "marks"] F_part) : ClX Pg w K mg base 5 "spare" st_spare ["lot", "n"] (F_spare C_Fails) := by
  refine p.clX (fun _ _ _ _ _ _ us hl => match us, hl with | [_, _], _ => rfl) fun f fd F => ?_
  refine fun_okX F sc_spare len_spare (fun cdv A outer s H E gd hr tk po => have hu := hu65 hr; (jbx_cons (jsx_if (jt_not (jt_val (je_own c_serves gd hr (ja_cons (je_var 0) (ja_cons (je_var 1) ja_nil))))) (jbx_one (jsx_raise rfl tk (jm_0 x_Fails hr))) (jbx_of jb_nil))
    (jbx_of (jb_cons (js_set 2 sc_spare.nd (je_tupRg rfl (by rfl) z_tuple (jrg_1 (by rfl) z_range (je_ix (je_var 0) je_int (fun _ _ => rfl)))))
    (jb_cons (js_for po rfl (ji_revR (by rfl) z_reversed (jrg_1 (by rfl) z_range (je_ix (je_var 0) je_int (fun _ _ => rfl)))) (jg_name 3 sc_spare.nd) (jb_cons (js_set 4 sc_spare.nd (je_tuple (by rfl) z_tuple (je_lc rfl sc_spare.nd (ji_seq (je_var 2)) (blkOk_by (N := ns_spare) (sc := defScope st_spare) (own := [("one", 5)]) (by decide +kernel)) (fun _ _ _ _ _ => (jgo_name 5 sc_spare.nd)) (fun _ _ _ _ _ => jts_one (jt_ne hr (je_var 5) (je_var 3))) (fun _ _ _ _ _ => (je_var 5)))))
    (jb_one (js_if (jt_val (je_own c_serves gd hr (ja_cons (je_own c_part gd hr (ja_cons (je_var 0) (ja_cons (je_var 4) ja_nil))) (ja_cons (je_var 1) ja_nil)))) (jb_one (js_set 2 sc_spare.nd (je_var 4))) jb_nil))))
    (jb_one (js_ret (je_var 2)))))))) ?_
  rintro as S Post PX hB ⟨l, n, rfl, hl, hn1, hn5, h, hno⟩
  have h30 := hl.small
  refine sq ?_
  simp only [↓sNext, ↓sBreak, ↓sCont, ↓sDrop, ↓sRet, ↓sRetN, ↓sIf, ↓sAsg, ↓agName, ↓agNil, ↓agCons, ↓agTup, ↓sPar, ↓sFor, ↓aV, ↓lk, ↓aC, ↓aOp, ↓aUn, ↓aCall, ↓aNil, ↓aCons, ↓aIf, ↓aTest, ↓aAnd, ↓aOr, ↓aNot, ↓aAndV, ↓aOrV, ↓aNotV, ↓aI, ↓aI0, ↓aAdd, ↓aNeg, ↓aIsN, ↓isNone, ↓aTup, ↓purs, ↓aLst, ↓aLstO, ↓aIx, ↓gi0, ↓gi1, ↓gi2, ↓giN, ↓a1, ↓aLen, ↓aAbs, ↓aInt, ↓aStr, ↓aIsi, ↓btOf, ↓BT.isB, ↓aYes, ↓aiSeq, wipeL, ↓startL, List.map, List.set, List.replicate, List.length, List.append, List.cons_append, List.nil_append, ↓aMt, ↓isLs, ↓aLc, ↓aLcO, Bool.false_bne, Bool.true_bne, Bool.xor_false, Bool.false_xor, Bool.true_xor, Bool.not_true, Bool.not_false, decide_eq_true_eq, if_true, if_false, ite_true, ite_false, reduceIte, Bool.false_eq_true, List.getElem?_cons_zero, List.getElem?_cons_succ, ↓aLt, ↓aLe, ↓aGt, ↓aGe, ↓aSub, ↓aMul, ↓aDiv, ↓aMod, ↓aPow, true_and, and_true, sRaise, mk0]
  refine ⟨l, n, rfl, hl, hn1, hn5, ?_⟩
  by_cases hs : Jm.Serves l.m l.ps n
  case neg =>
    rw [show Jm.servesB l.m l.ps n = false from by simpa [Jm.servesB] using hs]
    simp only [↓sNext, ↓sBreak, ↓sCont, ↓sDrop, ↓sRet, ↓sRetN, ↓sIf, ↓sAsg, ↓agName, ↓agNil, ↓agCons, ↓agTup, ↓sPar, ↓sFor, ↓aV, ↓lk, ↓aC, ↓aOp, ↓aUn, ↓aCall, ↓aNil, ↓aCons, ↓aIf, ↓aTest, ↓aAnd, ↓aOr, ↓aNot, ↓aAndV, ↓aOrV, ↓aNotV, ↓aI, ↓aI0, ↓aAdd, ↓aNeg, ↓aIsN, ↓isNone, ↓aTup, ↓purs, ↓aLst, ↓aLstO, ↓aIx, ↓gi0, ↓gi1, ↓gi2, ↓giN, ↓a1, ↓aLen, ↓aAbs, ↓aInt, ↓aStr, ↓aIsi, ↓btOf, ↓BT.isB, ↓aYes, ↓aiSeq, wipeL, ↓startL, List.map, List.set, List.replicate, List.length, List.append, List.cons_append, List.nil_append, ↓aMt, ↓isLs, ↓aLc, ↓aLcO, Bool.false_bne, Bool.true_bne, Bool.xor_false, Bool.false_xor, Bool.true_xor, Bool.not_true, Bool.not_false, decide_eq_true_eq, if_true, if_false, ite_true, ite_false, reduceIte, Bool.false_eq_true, List.getElem?_cons_zero, List.getElem?_cons_succ, ↓aLt, ↓aLe, ↓aGt, ↓aGe, ↓aSub, ↓aMul, ↓aDiv, ↓aMod, ↓aPow, true_and, and_true]
    exact .inl (hno hs)
  have h := h hs
  rw [Jm.servesB_iff.mpr hs]
  simp only [↓sNext, ↓sBreak, ↓sCont, ↓sDrop, ↓sRet, ↓sRetN, ↓sIf, ↓sAsg, ↓agName, ↓agNil, ↓agCons, ↓agTup, ↓sPar, ↓sFor, ↓aV, ↓lk, ↓aC, ↓aOp, ↓aUn, ↓aCall, ↓aNil, ↓aCons, ↓aIf, ↓aTest, ↓aAnd, ↓aOr, ↓aNot, ↓aAndV, ↓aOrV, ↓aNotV, ↓aI, ↓aI0, ↓aAdd, ↓aNeg, ↓aIsN, ↓isNone, ↓aTup, ↓purs, ↓aLst, ↓aLstO, ↓aIx, ↓gi0, ↓gi1, ↓gi2, ↓giN, ↓a1, ↓aLen, ↓aAbs, ↓aInt, ↓aStr, ↓aIsi, ↓btOf, ↓BT.isB, ↓aYes, ↓aiSeq, wipeL, ↓startL, List.map, List.set, List.replicate, List.length, List.append, List.cons_append, List.nil_append, ↓aMt, ↓isLs, ↓aLc, ↓aLcO, Bool.false_bne, Bool.true_bne, Bool.xor_false, Bool.false_xor, Bool.true_xor, Bool.not_true, Bool.not_false, decide_eq_true_eq, if_true, if_false, ite_true, ite_false, reduceIte, Bool.false_eq_true, List.getElem?_cons_zero, List.getElem?_cons_succ, ↓aLt, ↓aLe, ↓aGt, ↓aGe, ↓aSub, ↓aMul, ↓aDiv, ↓aMod, ↓aPow, true_and, and_true]
  refine sq ?_
  simp only [↓sNext, ↓sBreak, ↓sCont, ↓sDrop, ↓sRet, ↓sRetN, ↓sIf, ↓sAsg, ↓agName, ↓agNil, ↓agCons, ↓agTup, ↓sPar, ↓sFor, ↓aV, ↓lk, ↓aC, ↓aOp, ↓aUn, ↓aCall, ↓aNil, ↓aCons, ↓aIf, ↓aTest, ↓aAnd, ↓aOr, ↓aNot, ↓aAndV, ↓aOrV, ↓aNotV, ↓aI, ↓aI0, ↓aAdd, ↓aNeg, ↓aIsN, ↓isNone, ↓aTup, ↓purs, ↓aLst, ↓aLstO, ↓aIx, ↓gi0, ↓gi1, ↓gi2, ↓giN, ↓a1, ↓aLen, ↓aAbs, ↓aInt, ↓aStr, ↓aIsi, ↓btOf, ↓BT.isB, ↓aYes, ↓aiSeq, wipeL, ↓startL, List.map, List.set, List.replicate, List.length, List.append, List.cons_append, List.nil_append, ↓aMt, ↓isLs, ↓aLc, ↓aLcO, Bool.false_bne, Bool.true_bne, Bool.xor_false, Bool.false_xor, Bool.true_xor, Bool.not_true, Bool.not_false, decide_eq_true_eq, if_true, if_false, ite_true, ite_false, reduceIte, Bool.false_eq_true, List.getElem?_cons_zero, List.getElem?_cons_succ, ↓aLt, ↓aLe, ↓aGt, ↓aGe, ↓aSub, ↓aMul, ↓aDiv, ↓aMod, ↓aPow, true_and, and_true, lotP, aTupRg, aRg1]
  refine ⟨⟨by omega, by omega⟩, ?_⟩
  have e0 : P.tup (rgP 0 l.m) = rowP (List.range l.m) := by
    unfold rgP rowP
    rw [Int.sub_zero]
    simp
  rw [e0]
  refine sq ?_
  simp only [↓sNext, ↓sBreak, ↓sCont, ↓sDrop, ↓sRet, ↓sRetN, ↓sIf, ↓sAsg, ↓agName, ↓agNil, ↓agCons, ↓agTup, ↓sPar, ↓sFor, ↓aV, ↓lk, ↓aC, ↓aOp, ↓aUn, ↓aCall, ↓aNil, ↓aCons, ↓aIf, ↓aTest, ↓aAnd, ↓aOr, ↓aNot, ↓aAndV, ↓aOrV, ↓aNotV, ↓aI, ↓aI0, ↓aAdd, ↓aNeg, ↓aIsN, ↓isNone, ↓aTup, ↓purs, ↓aLst, ↓aLstO, ↓aIx, ↓gi0, ↓gi1, ↓gi2, ↓giN, ↓a1, ↓aLen, ↓aAbs, ↓aInt, ↓aStr, ↓aIsi, ↓btOf, ↓BT.isB, ↓aYes, ↓aiSeq, wipeL, ↓startL, List.map, List.set, List.replicate, List.length, List.append, List.cons_append, List.nil_append, ↓aMt, ↓isLs, ↓aLc, ↓aLcO, Bool.false_bne, Bool.true_bne, Bool.xor_false, Bool.false_xor, Bool.true_xor, Bool.not_true, Bool.not_false, decide_eq_true_eq, if_true, if_false, ite_true, ite_false, reduceIte, Bool.false_eq_true, List.getElem?_cons_zero, List.getElem?_cons_succ, ↓aLt, ↓aLe, ↓aGt, ↓aGe, ↓aSub, ↓aMul, ↓aDiv, ↓aMod, ↓aPow, true_and, and_true, aiRevR, aRg1]
  refine ⟨⟨by omega, by omega⟩, ?_⟩
  rw [show (((l.m : Nat) : Int) - 0).toNat = l.m by omega]
  refine for_go (fun i L S' => ∃ (b3 b4 b5 : Option D), L = [some (.p (.tup [.int (l.m : Nat), .tup (l.ps.map prP)])), some (.p (.int (n : Nat))), some (.p (rowP (spareL l n i))), b3, b4, b5] ∧ S' = S) (fun _ _ _ _ => trivial) (fun i x L S' N hx hI hN => ?_) (fun L S' hI => ?_) ⟨_, _, _, rfl, rfl⟩
  · obtain ⟨b3, b4, b5, rfl, rfl⟩ := hI
    rw [List.getElem?_map] at hx
    obtain ⟨i', hi', rfl⟩ := Option.map_eq_some_iff.mp hx
    have hlt : i < l.m := by
      have := (List.getElem?_eq_some_iff.mp hi').1
      simpa using this
    rw [List.getElem?_range hlt] at hi'
    obtain rfl := Option.some.inj hi'
    have ek : (0 : Int) + ((l.m : Nat) : Int) - 1 + ((i : Nat) : Int) * (-1) = ((l.m - 1 - i : Nat) : Int) := by omega
    rw [ek]
    generalize hms : spareL l n i = ms
    generalize hkk : l.m - 1 - i = k
    have nd := spare_nd l n i
    have hlen := spare_len l n i
    rw [hms] at nd hlen
    simp only [↓sNext, ↓sBreak, ↓sCont, ↓sDrop, ↓sRet, ↓sRetN, ↓sIf, ↓sAsg, ↓agName, ↓agNil, ↓agCons, ↓agTup, ↓sPar, ↓sFor, ↓aV, ↓lk, ↓aC, ↓aOp, ↓aUn, ↓aCall, ↓aNil, ↓aCons, ↓aIf, ↓aTest, ↓aAnd, ↓aOr, ↓aNot, ↓aAndV, ↓aOrV, ↓aNotV, ↓aI, ↓aI0, ↓aAdd, ↓aNeg, ↓aIsN, ↓isNone, ↓aTup, ↓purs, ↓aLst, ↓aLstO, ↓aIx, ↓gi0, ↓gi1, ↓gi2, ↓giN, ↓a1, ↓aLen, ↓aAbs, ↓aInt, ↓aStr, ↓aIsi, ↓btOf, ↓BT.isB, ↓aYes, ↓aiSeq, wipeL, ↓startL, List.map, List.set, List.replicate, List.length, List.append, List.cons_append, List.nil_append, ↓aMt, ↓isLs, ↓aLc, ↓aLcO, Bool.false_bne, Bool.true_bne, Bool.xor_false, Bool.false_xor, Bool.true_xor, Bool.not_true, Bool.not_false, decide_eq_true_eq, if_true, if_false, ite_true, ite_false, reduceIte, Bool.false_eq_true, List.getElem?_cons_zero, List.getElem?_cons_succ, ↓aLt, ↓aLe, ↓aGt, ↓aGe, ↓aSub, ↓aMul, ↓aDiv, ↓aMod, ↓aPow, true_and, and_true]
    refine sq ?_
    simp only [↓sNext, ↓sBreak, ↓sCont, ↓sDrop, ↓sRet, ↓sRetN, ↓sIf, ↓sAsg, ↓agName, ↓agNil, ↓agCons, ↓agTup, ↓sPar, ↓sFor, ↓aV, ↓lk, ↓aC, ↓aOp, ↓aUn, ↓aCall, ↓aNil, ↓aCons, ↓aIf, ↓aTest, ↓aAnd, ↓aOr, ↓aNot, ↓aAndV, ↓aOrV, ↓aNotV, ↓aI, ↓aI0, ↓aAdd, ↓aNeg, ↓aIsN, ↓isNone, ↓aTup, ↓purs, ↓aLst, ↓aLstO, ↓aIx, ↓gi0, ↓gi1, ↓gi2, ↓giN, ↓a1, ↓aLen, ↓aAbs, ↓aInt, ↓aStr, ↓aIsi, ↓btOf, ↓BT.isB, ↓aYes, ↓aiSeq, wipeL, ↓startL, List.map, List.set, List.replicate, List.length, List.append, List.cons_append, List.nil_append, ↓aMt, ↓isLs, ↓aLc, ↓aLcO, Bool.false_bne, Bool.true_bne, Bool.xor_false, Bool.false_xor, Bool.true_xor, Bool.not_true, Bool.not_false, decide_eq_true_eq, if_true, if_false, ite_true, ite_false, reduceIte, Bool.false_eq_true, List.getElem?_cons_zero, List.getElem?_cons_succ, ↓aLt, ↓aLe, ↓aGt, ↓aGe, ↓aSub, ↓aMul, ↓aDiv, ↓aMod, ↓aPow, true_and, and_true, rowP]
    refine lc_mapP ms (fun x => .int (x : Nat)) (fun x => decide (x ≠ k)) (fun x => .int (x : Nat)) (fun x hx Q R hQ => ?_) ?_
    · simp only [↓sNext, ↓sBreak, ↓sCont, ↓sDrop, ↓sRet, ↓sRetN, ↓sIf, ↓sAsg, ↓agName, ↓agNil, ↓agCons, ↓agTup, ↓sPar, ↓sFor, ↓aV, ↓lk, ↓aC, ↓aOp, ↓aUn, ↓aCall, ↓aNil, ↓aCons, ↓aIf, ↓aTest, ↓aAnd, ↓aOr, ↓aNot, ↓aAndV, ↓aOrV, ↓aNotV, ↓aI, ↓aI0, ↓aAdd, ↓aNeg, ↓aIsN, ↓isNone, ↓aTup, ↓purs, ↓aLst, ↓aLstO, ↓aIx, ↓gi0, ↓gi1, ↓gi2, ↓giN, ↓a1, ↓aLen, ↓aAbs, ↓aInt, ↓aStr, ↓aIsi, ↓btOf, ↓BT.isB, ↓aYes, ↓aiSeq, wipeL, ↓startL, List.map, List.set, List.replicate, List.length, List.append, List.cons_append, List.nil_append, ↓aMt, ↓isLs, ↓aLc, ↓aLcO, Bool.false_bne, Bool.true_bne, Bool.xor_false, Bool.false_xor, Bool.true_xor, Bool.not_true, Bool.not_false, decide_eq_true_eq, if_true, if_false, ite_true, ite_false, reduceIte, Bool.false_eq_true, List.getElem?_cons_zero, List.getElem?_cons_succ, ↓aLt, ↓aLe, ↓aGt, ↓aGe, ↓aSub, ↓aMul, ↓aDiv, ↓aMod, ↓aPow, true_and, and_true, aEq]
      have e1 : (((x : Nat) : Int) == (k : Nat)) = decide (x = k) := by
        rw [Bool.eq_iff_iff, beq_iff_eq, decide_eq_true_eq]
        omega
      rw [e1]
      by_cases hxk : x = k
      · simp only [hxk, decide_true, ne_eq, not_true, decide_false, Bool.not_true, Bool.false_eq_true, if_false] at hQ ⊢
        exact hQ
      · simp only [hxk, decide_false, ne_eq, not_false_eq_true, decide_true, Bool.not_false, if_true] at hQ ⊢
        exact hQ
    refine ⟨_, rfl, ?_⟩
    simp only [aTuple, ↓sNext, ↓sBreak, ↓sCont, ↓sDrop, ↓sRet, ↓sRetN, ↓sIf, ↓sAsg, ↓agName, ↓agNil, ↓agCons, ↓agTup, ↓sPar, ↓sFor, ↓aV, ↓lk, ↓aC, ↓aOp, ↓aUn, ↓aCall, ↓aNil, ↓aCons, ↓aIf, ↓aTest, ↓aAnd, ↓aOr, ↓aNot, ↓aAndV, ↓aOrV, ↓aNotV, ↓aI, ↓aI0, ↓aAdd, ↓aNeg, ↓aIsN, ↓isNone, ↓aTup, ↓purs, ↓aLst, ↓aLstO, ↓aIx, ↓gi0, ↓gi1, ↓gi2, ↓giN, ↓a1, ↓aLen, ↓aAbs, ↓aInt, ↓aStr, ↓aIsi, ↓btOf, ↓BT.isB, ↓aYes, ↓aiSeq, wipeL, ↓startL, List.map, List.set, List.replicate, List.length, List.append, List.cons_append, List.nil_append, ↓aMt, ↓isLs, ↓aLc, ↓aLcO, Bool.false_bne, Bool.true_bne, Bool.xor_false, Bool.false_xor, Bool.true_xor, Bool.not_true, Bool.not_false, decide_eq_true_eq, if_true, if_false, ite_true, ite_false, reduceIte, Bool.false_eq_true, List.getElem?_cons_zero, List.getElem?_cons_succ, ↓aLt, ↓aLe, ↓aGt, ↓aGe, ↓aSub, ↓aMul, ↓aDiv, ↓aMod, ↓aPow, true_and, and_true]
    refine ⟨_, rfl, ?_⟩
    have nd2 : (without ms k).Nodup := nd.sublist (without_sub _ _)
    have hl2 : (without ms k).length ≤ 30 := Nat.le_trans (without_sub ms k).length_le (by omega)
    refine ⟨l, without ms k, rfl, nd2, by omega, ?_⟩
    refine ⟨partL l (without ms k), n, rfl, partL_good hl hl2, hn1, hn5, ?_⟩
    have es : spareL l n (i + 1) = if Jm.servesB (partL l (without ms k)).m (partL l (without ms k)).ps n = true then without ms k else ms := by
      rw [spareL, hms, hkk]
    simp only [↓sNext, ↓sBreak, ↓sCont, ↓sDrop, ↓sRet, ↓sRetN, ↓sIf, ↓sAsg, ↓agName, ↓agNil, ↓agCons, ↓agTup, ↓sPar, ↓sFor, ↓aV, ↓lk, ↓aC, ↓aOp, ↓aUn, ↓aCall, ↓aNil, ↓aCons, ↓aIf, ↓aTest, ↓aAnd, ↓aOr, ↓aNot, ↓aAndV, ↓aOrV, ↓aNotV, ↓aI, ↓aI0, ↓aAdd, ↓aNeg, ↓aIsN, ↓isNone, ↓aTup, ↓purs, ↓aLst, ↓aLstO, ↓aIx, ↓gi0, ↓gi1, ↓gi2, ↓giN, ↓a1, ↓aLen, ↓aAbs, ↓aInt, ↓aStr, ↓aIsi, ↓btOf, ↓BT.isB, ↓aYes, ↓aiSeq, wipeL, ↓startL, List.map, List.set, List.replicate, List.length, List.append, List.cons_append, List.nil_append, ↓aMt, ↓isLs, ↓aLc, ↓aLcO, Bool.false_bne, Bool.true_bne, Bool.xor_false, Bool.false_xor, Bool.true_xor, Bool.not_true, Bool.not_false, decide_eq_true_eq, if_true, if_false, ite_true, ite_false, reduceIte, Bool.false_eq_true, List.getElem?_cons_zero, List.getElem?_cons_succ, ↓aLt, ↓aLe, ↓aGt, ↓aGe, ↓aSub, ↓aMul, ↓aDiv, ↓aMod, ↓aPow, true_and, and_true]
    by_cases hb : Jm.servesB (partL l (without ms k)).m (partL l (without ms k)).ps n = true
    · rw [if_pos hb]
      have e9 : rowP (spareL l n (i + 1)) = P.tup ((ms.filter fun x => decide (x ≠ k)).map fun x => .int (x : Nat)) := by
        rw [es, if_pos hb]; rfl
      refine hN _ _ ?_
      rw [e9]
      exact ⟨_, _, _, rfl, rfl⟩
    · rw [if_neg hb]
      have e9 : rowP (spareL l n (i + 1)) = P.tup (ms.map fun x => .int (x : Nat)) := by
        rw [es, if_neg hb]; rfl
      refine hN _ _ ?_
      rw [e9]
      exact ⟨_, _, _, rfl, rfl⟩
  · obtain ⟨b3, b4, b5, rfl, rfl⟩ := hI
    rw [List.length_map, List.length_range]
    simp only [↓sNext, ↓sBreak, ↓sCont, ↓sDrop, ↓sRet, ↓sRetN, ↓sIf, ↓sAsg, ↓agName, ↓agNil, ↓agCons, ↓agTup, ↓sPar, ↓sFor, ↓aV, ↓lk, ↓aC, ↓aOp, ↓aUn, ↓aCall, ↓aNil, ↓aCons, ↓aIf, ↓aTest, ↓aAnd, ↓aOr, ↓aNot, ↓aAndV, ↓aOrV, ↓aNotV, ↓aI, ↓aI0, ↓aAdd, ↓aNeg, ↓aIsN, ↓isNone, ↓aTup, ↓purs, ↓aLst, ↓aLstO, ↓aIx, ↓gi0, ↓gi1, ↓gi2, ↓giN, ↓a1, ↓aLen, ↓aAbs, ↓aInt, ↓aStr, ↓aIsi, ↓btOf, ↓BT.isB, ↓aYes, ↓aiSeq, wipeL, ↓startL, List.map, List.set, List.replicate, List.length, List.append, List.cons_append, List.nil_append, ↓aMt, ↓isLs, ↓aLc, ↓aLcO, Bool.false_bne, Bool.true_bne, Bool.xor_false, Bool.false_xor, Bool.true_xor, Bool.not_true, Bool.not_false, decide_eq_true_eq, if_true, if_false, ite_true, ite_false, reduceIte, Bool.false_eq_true, List.getElem?_cons_zero, List.getElem?_cons_succ, ↓aLt, ↓aLe, ↓aGt, ↓aGe, ↓aSub, ↓aMul, ↓aDiv, ↓aMod, ↓aPow, true_and, and_true]
    exact .inl h
end
end Lw
/-! Am: sorted(set(a tuple of ints)). -/
namespace Am
open PySem PySem.Spec L2
def rSetOfI (K : PySem.W.Frag) (w : World) : List V → Hp → VK → Prop := fun xs H Q => ∃ (l : Addr) (ns : List Int), xs = [V.ref l] ∧ SqT K H l (ns.map V.int) ∧ ns.length < 64 ∧
  ∀ a c, H a = none → c ≤ ns.length → Q (.ref a) (upd H a (SetO w a (fun j => decide (j ∈ ns)) c))
theorem cr_setOfI {X : Cx} (hc : X.calm = true) : CallR X (.type "set") (rSetOfI X.K X.w) := by
  intro pins s σ H xs us Q I r h
  obtain ⟨l, ns, rfl, hl, hf, q⟩ := h
  rw [Vals.ref1 r]
  obtain ⟨its, rv, pl, hz⟩ := I.tuple hl
  have hn : H s.heap.objs.size = none := I.hok.fresh (Nat.le_refl _)
  refine L2.call_set_tupI (P := X.prog) (w := X.w) ns (I.ok.hd hc) (show s.heap.IsTuple l its.toArray from pl) (by simpa using ints_of_vals rv) (by unfold scanBound; omega) fun h' tk c R hcn k => ?_
  exact ⟨.ref s.heap.objs.size, upd H s.heap.objs.size (SetO X.w s.heap.objs.size (fun j => decide (j ∈ ns)) c), I.laid (t' := tk) k (Nat.le_refl _) (setO_new R), rfl, q _ c hn hcn⟩
def aSortedSetI (te : AE) : AE := fun L S Post => te L S fun a S1 => ∃ ns : List Int, a = .p (.tup (ns.map .int)) ∧ ns.length < 64 ∧ ∀ ms : List Int, ms.Pairwise (· < ·) → (∀ k, k ∈ ms ↔ k ∈ ns) → Post (.p (.lst (ms.map .int))) S1
theorem je_sortedSetI {X : Cx} {e : Expr} {te : AE} {p p2 q2 pos : Pos} (hc : X.calm = true) (hg : Gl X "sorted") (hm : X.mg "sorted" = none) (hg2 : Gl X "set") (hm2 : X.mg "set" = none) (he : JE X e te)
    (h1 : starEach [e] X.env = (false, eval e X.env) :: starEach [] X.env := by rfl) (hpl : (backTo q2 (starEach [] X.env)).any (·.1) = false := by rfl)
    (h2 : starEach [.Call (.Name "set" p2) [e] [] q2] X.env = (false, eval (.Call (.Name "set" p2) [e] [] q2) X.env) :: starEach [] X.env := by rfl) (hpl2 : (backTo pos (starEach [] X.env)).any (·.1) = false := by rfl) :
    JE X (.Call (.Name "sorted" p) [.Call (.Name "set" p2) [e] [] q2] [] pos) (aSortedSetI te) := by
  obtain ⟨t1, p1, l1⟩ := he
  refine ⟨_, pe_callB (L2.cr_sortedSet hc) hg hm (by decide +kernel) (pa_cons (pe_callTy (cr_setOfI hc) hg2 hm2 (by decide +kernel) (pa_cons p1 pa_nil h1) (he := h1) (hpl := hpl)) pa_nil h2) (he := h2) (hpl := hpl2), ⟨fun c L σ Post Q hs h q => ?_⟩⟩
  show t1 σ c.H _
  refine l1.run c L σ _ _ hs h fun d v a le re h => ?_
  obtain ⟨ns, rfl, hf, h⟩ := h
  cases (show Rp X.K d.Hk v (.tup (ns.map .int)) from re) with
  | tup s z l =>
    rename_i b vs
    obtain rfl := RpL.intsV l
    refine ⟨b, ns, rfl, d.ok.ex.tq s, hf, fun a n ha hn => ?_⟩
    have aη := d.ok.not_mem ha
    have ak := d.ok.knone ha
    refine ⟨a, _, n, rfl, upd_same, by omega, fun ms p hp hk hl hpn => ?_⟩
    let d2 := d.with a (SetO X.w a (fun j => decide (j ∈ ns)) n) aη ak
    have led : d.Le d2 := Cf.Le.grow (.refl d) ha aη ak
    have hp2 : d2.H p = none := hpn
    have rl2 : RpL X.K d2.Hk (ms.map V.int) (ms.map .int) := RpL.of_ints
    obtain ⟨f, eh, es, lf, rf⟩ := d2.newLst hp2 rl2 (by rw [List.length_map, sizeLine_eq]; omega)
    have eh : f.H = upd (upd d.H a (SetO X.w a (fun j => decide (j ∈ ns)) n)) p (.lst (ms.map V.int)) := eh
    rw [← eh]
    exact q f (.ref p) _ (le.trans (led.trans lf)) rf (by rw [es]; exact h ms hp fun k => (hk k).trans (by simp))
end Am
namespace Lw
open PySem PySem.Spec PyProof.Rows L2 Am
section
variable {Pg : Program} {w : World} {K : PySem.W.Frag} {mg : Str → Option Value} {base : Heap}
theorem ini_Fails {C MC f : Addr} {fd : FuncData} (T : OexC K C) (hm : mg "MarkError" = some (.ref MC)) (r : _root_.ClX.CRead K MC (.type "type")) (vV : PySem.W.findCls K (.ref MC) (.type "type") "__init__" = some (.val (.builtin "ValueError.__init__"))) (F : Fun K "__init__" "Fails.__init__" st_Fails_init f fd) : FnOk Pg w K mg base CX0 2 f fd ["self"] (spI0 C) :=
  Fun.ok F sc_Fails_init len_I0 fun cdv A outer s H vs Q E hr h => ⟨_, pss_one (ps_expr (pe_meinit (x := "MarkError") rfl hm r vV (pa_cons (pe_var (i := 0) rfl (Or.inl rfl)) (pa_cons pe_str pa_nil)))), I0_go T h⟩
/-! ### k80: refused; thick lots -/
def F_law_is_refused (C : Addr) : FT := fun as S Post => ∃ (l : Lot) (n : Nat), as = [.p (lotP l), .p (.int (n : Nat))] ∧ Good l ∧ 1 ≤ n ∧ n ≤ 5 ∧ ¬ Jm.Serves l.m l.ps n ∧ Post (.p (.bl true)) S
theorem len_law_is_refused {C : Addr} : ∀ as S Post, F_law_is_refused C as S Post → as.length = ["_law_lot_here", "_law_n"].length := by
  rintro _ S Post ⟨_, _, rfl, _⟩; rfl
theorem cl_law_is_refused {C_Fails : Addr} (x_Fails : Ex0 Pg w K mg base "Fails" C_Fails) (em_Fails_Fails : PySem.W.exmOne K (.ref C_Fails) (.ref C_Fails) = some true) (p : Pre K mg "_law_is_refused" st_law_is_refused) (c_spare : ClX Pg w K mg base 5 "spare" st_spare ["lot", "n"] (F_spare C_Fails)) : Cl Pg w K mg base 6 "_law_is_refused" st_law_is_refused ["_law_lot_here", "_law_n"] (F_law_is_refused C_Fails) := by
  refine p.cl (fun _ _ _ _ _ _ us hl => match us, hl with | [_, _], _ => rfl) fun f fd F => ?_
  refine fun_ok F sc_law_is_refused len_law_is_refused (fun cdv A outer s H E gd hr => have hu := hu65 hr; (jb_cons (js_try (K := K) (fun _ _ z => z) x_Fails.gl (fun W pn xe tk po => (jbx_one (jsx_expr (jex_own c_spare tk gd hr (ja_cons (je_var 0) (ja_cons (je_var 1) ja_nil)))))) (fun a oe pn => (jb_one (js_ret je_bl))))
    (jb_one (js_ret je_bl)))) ?_
  rintro as S Post hB ⟨l, n, rfl, hl, h1, h5, hs, h⟩
  refine sq ?_
  simp only [↓sNext, ↓sBreak, ↓sCont, ↓sDrop, ↓sRet, ↓sRetN, ↓sIf, ↓sAsg, ↓agName, ↓agNil, ↓agCons, ↓agTup, ↓sPar, ↓sFor, ↓aV, ↓lk, ↓aC, ↓aOp, ↓aUn, ↓aCall, ↓aNil, ↓aCons, ↓aIf, ↓aTest, ↓aAnd, ↓aOr, ↓aNot, ↓aAndV, ↓aOrV, ↓aNotV, ↓aI, ↓aI0, ↓aAdd, ↓aNeg, ↓aIsN, ↓isNone, ↓aTup, ↓purs, ↓aLst, ↓aLstO, ↓aIx, ↓gi0, ↓gi1, ↓gi2, ↓giN, ↓a1, ↓aLen, ↓aAbs, ↓aInt, ↓aStr, ↓aIsi, ↓btOf, ↓BT.isB, ↓aYes, ↓aiSeq, wipeL, ↓startL, List.map, List.set, List.replicate, List.length, List.append, List.cons_append, List.nil_append, ↓aMt, ↓isLs, ↓aLc, ↓aLcO, Bool.false_bne, Bool.true_bne, Bool.xor_false, Bool.false_xor, Bool.true_xor, Bool.not_true, Bool.not_false, decide_eq_true_eq, if_true, if_false, ite_true, ite_false, reduceIte, Bool.false_eq_true, List.getElem?_cons_zero, List.getElem?_cons_succ, ↓aLt, ↓aLe, ↓aGt, ↓aGe, ↓aSub, ↓aMul, ↓aDiv, ↓aMod, ↓aPow, true_and, and_true, sTry, xE, aCallX]
  refine ⟨l, n, rfl, hl, h1, h5, fun z => absurd z hs, fun _ => ⟨true, em_Fails_Fails, ?_⟩⟩
  rw [if_pos rfl]
  exact .inl h
def F_law_thick : FT := fun as S Post => ∃ (n c : Nat) (o : O), as = [.own n] ∧ S[n]? = some o ∧ PotO o c ∧ c ≤ 900000 ∧ ∀ (l : Lot) (o' : O), Good l → l.m ≤ 9 → l.ps.Pairwise ltA → PotO o' (c + 1000) → Post (.p (lotP l)) (S.set n o')
theorem len_law_thick : ∀ as S Post, F_law_thick as S Post → as.length = ["_law_pot_here"].length := by
  rintro _ S Post ⟨_, _, _, rfl, _⟩; rfl
theorem cl_law_thick (p : Pre K mg "_law_thick" st_law_thick) (z_int : mg "int" = none) (z_range : mg "range" = none) (z_sorted : mg "sorted" = none) (z_tuple : mg "tuple" = none) (c_law_take : Cl Pg w K mg base 1 "_law_take" st_law_take ["_law_pot_here", "_law_size"] F_law_take) : Cl Pg w K mg base 2 "_law_thick" st_law_thick ["_law_pot_here"] F_law_thick := by
  refine p.cl (fun _ _ _ _ _ _ us hl => match us, hl with | [_], _ => rfl) fun f fd F => ?_
  refine fun_ok F sc_law_thick len_law_thick (fun cdv A outer s H E gd hr => have hu := hu65 hr; (jb_cons (js_par 1 2 rfl sc_law_thick.nd (ja_cons (je_add je_int (je_own c_law_take gd hr (ja_cons (je_var 0) (ja_cons je_int ja_nil)))) (ja_cons (je_lstO ja_nil) ja_nil)))
    (jb_cons (js_for PassesOwn.never rfl (ji_range1 (by rfl) z_range (ja_cons (je_var 1) ja_nil)) (jg_name 3 sc_law_thick.nd) (jb_one (js_for PassesOwn.never rfl (ji_range1 (by rfl) z_range (ja_cons (je_var 3) ja_nil)) (jg_name 4 sc_law_thick.nd) (jb_cons (js_set 5 sc_law_thick.nd (je_own c_law_take gd hr (ja_cons (je_var 0) (ja_cons je_int ja_nil))))
    (jb_one (js_expr (je_mtL PySem.F.slot_list_extend PySem.F.type_list_extend mt_extend lift_extend (je_var 2) (ja_cons (je_add (je_rep (je_lst (ja_cons (je_tup (ja_cons (je_var 3) (ja_cons (je_var 4) ja_nil))) ja_nil)) (je_intC (by rfl) z_int (je_lt (je_var 5) je_int))) (je_rep (je_lst (ja_cons (je_tup (ja_cons (je_var 4) (ja_cons (je_var 3) ja_nil))) ja_nil)) (je_intC (by rfl) z_int (je_lt_lt je_int (je_var 5) je_int)))) ja_nil))))))))
    (jb_one (js_ret (je_tup (ja_cons (je_var 1) (ja_cons (je_tuple (by rfl) z_tuple (je_sortedX hu (by rfl) z_sorted (je_var 2))) ja_nil)))))))) ?_
  rintro as S Post hB ⟨n, c, o, rfl, hS, hp, hc, h⟩
  have hn : n < S.length := (List.getElem?_eq_some_iff.mp hS).1
  have hset : ∀ o, (S.set n o)[n]? = some o := fun o => List.getElem?_set_self hn
  have hbel : ∀ {o : O} {c : Nat}, PotO o c → o.bel S.length := fun h => h.bel _
  refine sq ?_
  simp only [↓sNext, ↓sBreak, ↓sCont, ↓sDrop, ↓sRet, ↓sRetN, ↓sIf, ↓sAsg, ↓agName, ↓agNil, ↓agCons, ↓agTup, ↓sPar, ↓sFor, ↓aV, ↓lk, ↓aC, ↓aOp, ↓aUn, ↓aCall, ↓aNil, ↓aCons, ↓aIf, ↓aTest, ↓aAnd, ↓aOr, ↓aNot, ↓aAndV, ↓aOrV, ↓aNotV, ↓aI, ↓aI0, ↓aAdd, ↓aNeg, ↓aIsN, ↓isNone, ↓aTup, ↓purs, ↓aLst, ↓aLstO, ↓aIx, ↓gi0, ↓gi1, ↓gi2, ↓giN, ↓a1, ↓aLen, ↓aAbs, ↓aInt, ↓aStr, ↓aIsi, ↓btOf, ↓BT.isB, ↓aYes, ↓aiSeq, wipeL, ↓startL, List.map, List.set, List.replicate, List.length, List.append, List.cons_append, List.nil_append, ↓aMt, ↓isLs, ↓aLc, ↓aLcO, Bool.false_bne, Bool.true_bne, Bool.xor_false, Bool.false_xor, Bool.true_xor, Bool.not_true, Bool.not_false, decide_eq_true_eq, if_true, if_false, ite_true, ite_false, reduceIte, Bool.false_eq_true, List.getElem?_cons_zero, List.getElem?_cons_succ, ↓aLt, ↓aLe, ↓aGt, ↓aGe, ↓aSub, ↓aMul, ↓aDiv, ↓aMod, ↓aPow, true_and, and_true]
  refine ⟨n, 5, c, o, by simp, hS, hp, by omega, by omega, by omega, fun size0 o1 hs1 hp1 => ?_⟩
  simp only [↓sNext, ↓sBreak, ↓sCont, ↓sDrop, ↓sRet, ↓sRetN, ↓sIf, ↓sAsg, ↓agName, ↓agNil, ↓agCons, ↓agTup, ↓sPar, ↓sFor, ↓aV, ↓lk, ↓aC, ↓aOp, ↓aUn, ↓aCall, ↓aNil, ↓aCons, ↓aIf, ↓aTest, ↓aAnd, ↓aOr, ↓aNot, ↓aAndV, ↓aOrV, ↓aNotV, ↓aI, ↓aI0, ↓aAdd, ↓aNeg, ↓aIsN, ↓isNone, ↓aTup, ↓purs, ↓aLst, ↓aLstO, ↓aIx, ↓gi0, ↓gi1, ↓gi2, ↓giN, ↓a1, ↓aLen, ↓aAbs, ↓aInt, ↓aStr, ↓aIsi, ↓btOf, ↓BT.isB, ↓aYes, ↓aiSeq, wipeL, ↓startL, List.map, List.set, List.replicate, List.length, List.append, List.cons_append, List.nil_append, ↓aMt, ↓isLs, ↓aLc, ↓aLcO, Bool.false_bne, Bool.true_bne, Bool.xor_false, Bool.false_xor, Bool.true_xor, Bool.not_true, Bool.not_false, decide_eq_true_eq, if_true, if_false, ite_true, ite_false, reduceIte, Bool.false_eq_true, List.getElem?_cons_zero, List.getElem?_cons_succ, ↓aLt, ↓aLe, ↓aGt, ↓aGe, ↓aSub, ↓aMul, ↓aDiv, ↓aMod, ↓aPow, true_and, and_true]
  obtain ⟨size, rfl⟩ : ∃ size, size = 5 + size0 := ⟨_, rfl⟩
  rw [List.length_set]
  have at0 : ∀ (o : O) (xs : List O), (S.set n o ++ xs)[n]? = some o := fun o xs => by rw [List.getElem?_append_left (by rw [List.length_set]; exact hn), hset]
  have set0 : ∀ (o o' : O) (xs : List O), (S.set n o ++ xs).set n o' = S.set n o' ++ xs := fun o o' xs => by rw [List.set_append_left _ _ (by rw [List.length_set]; exact hn), List.set_set]
  have at1 : ∀ (o u : O), (S.set n o ++ [u])[S.length]? = some u := fun o u => by
    have := getE (S.set n o) u
    rw [List.length_set] at this
    exact this
  have set1 : ∀ (o u u' : O), (S.set n o ++ [u]).set S.length u' = S.set n o ++ [u'] := fun o u u' => by
    have := setE (S.set n o) u u'
    rw [List.length_set] at this
    exact this
  refine sq ?_
  simp only [↓sNext, ↓sBreak, ↓sCont, ↓sDrop, ↓sRet, ↓sRetN, ↓sIf, ↓sAsg, ↓agName, ↓agNil, ↓agCons, ↓agTup, ↓sPar, ↓sFor, ↓aV, ↓lk, ↓aC, ↓aOp, ↓aUn, ↓aCall, ↓aNil, ↓aCons, ↓aIf, ↓aTest, ↓aAnd, ↓aOr, ↓aNot, ↓aAndV, ↓aOrV, ↓aNotV, ↓aI, ↓aI0, ↓aAdd, ↓aNeg, ↓aIsN, ↓isNone, ↓aTup, ↓purs, ↓aLst, ↓aLstO, ↓aIx, ↓gi0, ↓gi1, ↓gi2, ↓giN, ↓a1, ↓aLen, ↓aAbs, ↓aInt, ↓aStr, ↓aIsi, ↓btOf, ↓BT.isB, ↓aYes, ↓aiSeq, wipeL, ↓startL, List.map, List.set, List.replicate, List.length, List.append, List.cons_append, List.nil_append, ↓aMt, ↓isLs, ↓aLc, ↓aLcO, Bool.false_bne, Bool.true_bne, Bool.xor_false, Bool.false_xor, Bool.true_xor, Bool.not_true, Bool.not_false, decide_eq_true_eq, if_true, if_false, ite_true, ite_false, reduceIte, Bool.false_eq_true, List.getElem?_cons_zero, List.getElem?_cons_succ, ↓aLt, ↓aLe, ↓aGt, ↓aGe, ↓aSub, ↓aMul, ↓aDiv, ↓aMod, ↓aPow, true_and, and_true, aiRng1]
  refine ⟨by omega, by omega, ?_⟩
  rw [show ((5 : Int) + ((size0 : Nat) : Int)).toNat = 5 + size0 by omega]
  refine for_go (fun x L S' => ∃ (fs : List (Nat × Nat)) (o : O) (a5 a6 a7 : Option D), L = [some (.own n), some (.p (.int ((5 : Int) + ((size0 : Nat) : Int)))), some (.own S.length), a5, a6, a7] ∧
    S' = S.set n o ++ [.lst ((fs.map prP).map .p)] ∧ PotO o (c + 2 + 30 * x) ∧ Drawn x 0 fs) (fun _ _ _ _ => trivial) (fun x y L S' N hx hI hN => ?_) (fun L S' hI => ?_) ⟨[], o1, _, _, _, rfl, rfl, hp1.le (by omega), .nil⟩
  · obtain ⟨fs, o, a5, a6, a7, rfl, rfl, hp, hd⟩ := hI
    obtain ⟨rfl, hxs⟩ := rng_at hx
    simp only [↓sNext, ↓sBreak, ↓sCont, ↓sDrop, ↓sRet, ↓sRetN, ↓sIf, ↓sAsg, ↓agName, ↓agNil, ↓agCons, ↓agTup, ↓sPar, ↓sFor, ↓aV, ↓lk, ↓aC, ↓aOp, ↓aUn, ↓aCall, ↓aNil, ↓aCons, ↓aIf, ↓aTest, ↓aAnd, ↓aOr, ↓aNot, ↓aAndV, ↓aOrV, ↓aNotV, ↓aI, ↓aI0, ↓aAdd, ↓aNeg, ↓aIsN, ↓isNone, ↓aTup, ↓purs, ↓aLst, ↓aLstO, ↓aIx, ↓gi0, ↓gi1, ↓gi2, ↓giN, ↓a1, ↓aLen, ↓aAbs, ↓aInt, ↓aStr, ↓aIsi, ↓btOf, ↓BT.isB, ↓aYes, ↓aiSeq, wipeL, ↓startL, List.map, List.set, List.replicate, List.length, List.append, List.cons_append, List.nil_append, ↓aMt, ↓isLs, ↓aLc, ↓aLcO, Bool.false_bne, Bool.true_bne, Bool.xor_false, Bool.false_xor, Bool.true_xor, Bool.not_true, Bool.not_false, decide_eq_true_eq, if_true, if_false, ite_true, ite_false, reduceIte, Bool.false_eq_true, List.getElem?_cons_zero, List.getElem?_cons_succ, ↓aLt, ↓aLe, ↓aGt, ↓aGe, ↓aSub, ↓aMul, ↓aDiv, ↓aMod, ↓aPow, true_and, and_true]
    refine ⟨by omega, by omega, ?_⟩
    rw [show ((x : Nat) : Int).toNat = x from rfl]
    refine for_go (fun y L S' => ∃ (fs : List (Nat × Nat)) (o : O) (a6 a7 : Option D), L = [some (.own n), some (.p (.int ((5 : Int) + ((size0 : Nat) : Int)))), some (.own S.length), some (.p (.int (x : Nat))), a6, a7] ∧
      S' = S.set n o ++ [.lst ((fs.map prP).map .p)] ∧ PotO o (c + 2 + 30 * x + y) ∧ Drawn x y fs) (fun _ _ _ _ => trivial) (fun y z L S' N2 hy hI2 hN2 => ?_) (fun L S' hI2 => ?_) ⟨fs, o, _, _, rfl, rfl, hp, hd⟩
    · obtain ⟨fs, o, a6, a7, rfl, rfl, hp, hd⟩ := hI2
      obtain ⟨rfl, hyx⟩ := rng_at hy
      simp only [↓sNext, ↓sBreak, ↓sCont, ↓sDrop, ↓sRet, ↓sRetN, ↓sIf, ↓sAsg, ↓agName, ↓agNil, ↓agCons, ↓agTup, ↓sPar, ↓sFor, ↓aV, ↓lk, ↓aC, ↓aOp, ↓aUn, ↓aCall, ↓aNil, ↓aCons, ↓aIf, ↓aTest, ↓aAnd, ↓aOr, ↓aNot, ↓aAndV, ↓aOrV, ↓aNotV, ↓aI, ↓aI0, ↓aNeg, ↓aIsN, ↓isNone, ↓aTup, ↓purs, ↓aLst, ↓aLstO, ↓aIx, ↓gi0, ↓gi1, ↓gi2, ↓giN, ↓a1, ↓aLen, ↓aAbs, ↓aInt, ↓aStr, ↓aIsi, ↓btOf, ↓BT.isB, ↓aYes, ↓aiSeq, wipeL, ↓startL, List.map, List.set, List.replicate, List.length, List.append, List.cons_append, List.nil_append, ↓aMt, ↓isLs, ↓aLc, ↓aLcO, Bool.false_bne, Bool.true_bne, Bool.xor_false, Bool.false_xor, Bool.true_xor, Bool.not_true, Bool.not_false, decide_eq_true_eq, if_true, if_false, ite_true, ite_false, reduceIte, Bool.false_eq_true, List.getElem?_cons_zero, List.getElem?_cons_succ, ↓aLt, ↓aLe, ↓aGt, ↓aGe, ↓aSub, ↓aMul, ↓aDiv, ↓aMod, ↓aPow, true_and, and_true]
      refine sq ?_
      simp only [↓sNext, ↓sBreak, ↓sCont, ↓sDrop, ↓sRet, ↓sRetN, ↓sIf, ↓sAsg, ↓agName, ↓agNil, ↓agCons, ↓agTup, ↓sPar, ↓sFor, ↓aV, ↓lk, ↓aC, ↓aOp, ↓aUn, ↓aCall, ↓aNil, ↓aCons, ↓aIf, ↓aTest, ↓aAnd, ↓aOr, ↓aNot, ↓aAndV, ↓aOrV, ↓aNotV, ↓aI, ↓aI0, ↓aNeg, ↓aIsN, ↓isNone, ↓aTup, ↓purs, ↓aLst, ↓aLstO, ↓aIx, ↓gi0, ↓gi1, ↓gi2, ↓giN, ↓a1, ↓aLen, ↓aAbs, ↓aInt, ↓aStr, ↓aIsi, ↓btOf, ↓BT.isB, ↓aYes, ↓aiSeq, wipeL, ↓startL, List.map, List.set, List.replicate, List.length, List.append, List.cons_append, List.nil_append, ↓aMt, ↓isLs, ↓aLc, ↓aLcO, Bool.false_bne, Bool.true_bne, Bool.xor_false, Bool.false_xor, Bool.true_xor, Bool.not_true, Bool.not_false, decide_eq_true_eq, if_true, if_false, ite_true, ite_false, reduceIte, Bool.false_eq_true, List.getElem?_cons_zero, List.getElem?_cons_succ, ↓aLt, ↓aLe, ↓aGt, ↓aGe, ↓aSub, ↓aMul, ↓aDiv, ↓aMod, ↓aPow, true_and, and_true]
      refine ⟨n, 9, _, o, rfl, at0 _ _, hp, by omega, by omega, by omega, fun w o' hw hp' => ?_⟩
      simp only [set0, at1, ↓sNext, ↓sBreak, ↓sCont, ↓sDrop, ↓sRet, ↓sRetN, ↓sIf, ↓sAsg, ↓agName, ↓agNil, ↓agCons, ↓agTup, ↓sPar, ↓sFor, ↓aV, ↓lk, ↓aC, ↓aOp, ↓aUn, ↓aCall, ↓aNil, ↓aCons, ↓aIf, ↓aTest, ↓aAnd, ↓aOr, ↓aNot, ↓aAndV, ↓aOrV, ↓aNotV, ↓aI, ↓aI0, ↓aNeg, ↓aIsN, ↓isNone, ↓aTup, ↓purs, ↓aLst, ↓aLstO, ↓aIx, ↓gi0, ↓gi1, ↓gi2, ↓giN, ↓a1, ↓aLen, ↓aAbs, ↓aInt, ↓aStr, ↓aIsi, ↓btOf, ↓BT.isB, ↓aYes, ↓aiSeq, wipeL, ↓startL, List.map, List.set, List.replicate, List.length, List.append, List.cons_append, List.nil_append, ↓aMt, ↓isLs, ↓aLc, ↓aLcO, Bool.false_bne, Bool.true_bne, Bool.xor_false, Bool.false_xor, Bool.true_xor, Bool.not_true, Bool.not_false, decide_eq_true_eq, if_true, if_false, ite_true, ite_false, reduceIte, Bool.false_eq_true, List.getElem?_cons_zero, List.getElem?_cons_succ, ↓aLt, ↓aLe, ↓aGt, ↓aGe, ↓aSub, ↓aMul, ↓aDiv, ↓aMod, ↓aPow, true_and, and_true]
      have fin : ∀ v : Nat, aExtend (.own S.length) [.p (.lst ((newP v x y).map prP))] (S.set n o' ++ [O.lst ((fs.map prP).map D.p)]) fun _ S1 => N2 [some (.own n), some (.p (.int ((5 : Int) + ((size0 : Nat) : Int)))), some (.own S.length), some (.p (.int (x : Nat))), some (.p (.int (y : Nat))), some (.p (.int (w : Nat)))] S1 := fun v => by
        simp only [aExtend, at1]
        refine ⟨?_, ?_⟩
        · have := (hd.next hyx v).len
          rw [List.length_append] at this
          rw [List.length_map, List.length_map, List.length_map]
          exact small_sl (by omega)
        · rw [set1, ← List.map_append, ← List.map_append]
          exact hN2 _ _ ⟨_, o', _, _, rfl, rfl, hp', hd.next hyx v⟩
      by_cases w4 : w < 4
      · rw [if_pos (show ((w : Nat) : Int) < 4 by omega)]
        refine ⟨_, rfl, by decide, by decide, small_sl (by simp), ?_⟩
        simp only [aChain, ↓sNext, ↓sBreak, ↓sCont, ↓sDrop, ↓sRet, ↓sRetN, ↓sIf, ↓sAsg, ↓agName, ↓agNil, ↓agCons, ↓agTup, ↓sPar, ↓sFor, ↓aV, ↓lk, ↓aC, ↓aOp, ↓aUn, ↓aCall, ↓aNil, ↓aCons, ↓aIf, ↓aTest, ↓aAnd, ↓aOr, ↓aNot, ↓aAndV, ↓aOrV, ↓aNotV, ↓aI, ↓aI0, ↓aNeg, ↓aIsN, ↓isNone, ↓aTup, ↓purs, ↓aLst, ↓aLstO, ↓aIx, ↓gi0, ↓gi1, ↓gi2, ↓giN, ↓a1, ↓aLen, ↓aAbs, ↓aInt, ↓aStr, ↓aIsi, ↓btOf, ↓BT.isB, ↓aYes, ↓aiSeq, wipeL, ↓startL, List.map, List.set, List.replicate, List.length, List.append, List.cons_append, List.nil_append, ↓aMt, ↓isLs, ↓aLc, ↓aLcO, Bool.false_bne, Bool.true_bne, Bool.xor_false, Bool.false_xor, Bool.true_xor, Bool.not_true, Bool.not_false, decide_eq_true_eq, if_true, if_false, ite_true, ite_false, reduceIte, Bool.false_eq_true, List.getElem?_cons_zero, List.getElem?_cons_succ, ↓aLt, ↓aLe, ↓aGt, ↓aGe, ↓aSub, ↓aMul, ↓aDiv, ↓aMod, ↓aPow, true_and, and_true]
        rw [show decide ((3 : Int) < ((w : Nat) : Int)) = false from decide_eq_false (by omega)]
        refine ⟨_, rfl, by decide, by decide, small_sl (by simp), small_sl (by simp), ?_⟩
        exact fin 0
      · rw [if_neg (show ¬ ((w : Nat) : Int) < 4 by omega)]
        refine ⟨_, rfl, by decide, by decide, small_sl (by simp), ?_⟩
        simp only [aChain, ↓sNext, ↓sBreak, ↓sCont, ↓sDrop, ↓sRet, ↓sRetN, ↓sIf, ↓sAsg, ↓agName, ↓agNil, ↓agCons, ↓agTup, ↓sPar, ↓sFor, ↓aV, ↓lk, ↓aC, ↓aOp, ↓aUn, ↓aCall, ↓aNil, ↓aCons, ↓aIf, ↓aTest, ↓aAnd, ↓aOr, ↓aNot, ↓aAndV, ↓aOrV, ↓aNotV, ↓aI, ↓aI0, ↓aNeg, ↓aIsN, ↓isNone, ↓aTup, ↓purs, ↓aLst, ↓aLstO, ↓aIx, ↓gi0, ↓gi1, ↓gi2, ↓giN, ↓a1, ↓aLen, ↓aAbs, ↓aInt, ↓aStr, ↓aIsi, ↓btOf, ↓BT.isB, ↓aYes, ↓aiSeq, wipeL, ↓startL, List.map, List.set, List.replicate, List.length, List.append, List.cons_append, List.nil_append, ↓aMt, ↓isLs, ↓aLc, ↓aLcO, Bool.false_bne, Bool.true_bne, Bool.xor_false, Bool.false_xor, Bool.true_xor, Bool.not_true, Bool.not_false, decide_eq_true_eq, if_true, if_false, ite_true, ite_false, reduceIte, Bool.false_eq_true, List.getElem?_cons_zero, List.getElem?_cons_succ, ↓aLt, ↓aLe, ↓aGt, ↓aGe, ↓aSub, ↓aMul, ↓aDiv, ↓aMod, ↓aPow, true_and, and_true]
        rw [show decide ((3 : Int) < ((w : Nat) : Int)) = true from decide_eq_true (by omega)]
        by_cases w8 : w < 8
        · rw [if_pos (show ((w : Nat) : Int) < 8 by omega)]
          refine ⟨_, rfl, by decide, by decide, small_sl (by simp), small_sl (by simp), ?_⟩
          exact fin 1
        · rw [if_neg (show ¬ ((w : Nat) : Int) < 8 by omega)]
          refine ⟨_, rfl, by decide, by decide, small_sl (by simp), small_sl (by simp), ?_⟩
          exact fin 2
    · obtain ⟨fs, o, a6, a7, rfl, rfl, hp, hd⟩ := hI2
      rw [List.length_map, List.length_range] at hp hd
      exact hN _ _ ⟨fs, o, _, _, _, rfl, rfl, hp.le (by omega), hd.row (by omega)⟩
  · obtain ⟨fs, o, a5, a6, a7, rfl, rfl, hp, hd⟩ := hI
    rw [List.length_map, List.length_range] at hp hd
    simp only [↓sNext, ↓sBreak, ↓sCont, ↓sDrop, ↓sRet, ↓sRetN, ↓sIf, ↓sAsg, ↓agName, ↓agNil, ↓agCons, ↓agTup, ↓sPar, ↓sFor, ↓aV, ↓lk, ↓aC, ↓aOp, ↓aUn, ↓aCall, ↓aNil, ↓aCons, ↓aIf, ↓aTest, ↓aAnd, ↓aOr, ↓aNot, ↓aAndV, ↓aOrV, ↓aNotV, ↓aI, ↓aI0, ↓aAdd, ↓aNeg, ↓aIsN, ↓isNone, ↓aTup, ↓purs, ↓aLst, ↓aLstO, ↓aIx, ↓gi0, ↓gi1, ↓gi2, ↓giN, ↓a1, ↓aLen, ↓aAbs, ↓aInt, ↓aStr, ↓aIsi, ↓btOf, ↓BT.isB, ↓aYes, ↓aiSeq, wipeL, ↓startL, List.map, List.set, List.replicate, List.length, List.append, List.cons_append, List.nil_append, ↓aMt, ↓isLs, ↓aLc, ↓aLcO, Bool.false_bne, Bool.true_bne, Bool.xor_false, Bool.false_xor, Bool.true_xor, Bool.not_true, Bool.not_false, decide_eq_true_eq, if_true, if_false, ite_true, ite_false, reduceIte, Bool.false_eq_true, List.getElem?_cons_zero, List.getElem?_cons_succ, ↓aLt, ↓aLe, ↓aGt, ↓aGe, ↓aSub, ↓aMul, ↓aDiv, ↓aMod, ↓aPow, true_and, and_true]
    refine sorted_own (fs := fs) (at1 _ _) ?_
    simp only [↓sNext, ↓sBreak, ↓sCont, ↓sDrop, ↓sRet, ↓sRetN, ↓sIf, ↓sAsg, ↓agName, ↓agNil, ↓agCons, ↓agTup, ↓sPar, ↓sFor, ↓aV, ↓lk, ↓aC, ↓aOp, ↓aUn, ↓aCall, ↓aNil, ↓aCons, ↓aIf, ↓aTest, ↓aAnd, ↓aOr, ↓aNot, ↓aAndV, ↓aOrV, ↓aNotV, ↓aI, ↓aI0, ↓aAdd, ↓aNeg, ↓aIsN, ↓isNone, ↓aTup, ↓purs, ↓aLst, ↓aLstO, ↓aIx, ↓gi0, ↓gi1, ↓gi2, ↓giN, ↓a1, ↓aLen, ↓aAbs, ↓aInt, ↓aStr, ↓aIsi, ↓btOf, ↓BT.isB, ↓aYes, ↓aiSeq, wipeL, ↓startL, List.map, List.set, List.replicate, List.length, List.append, List.cons_append, List.nil_append, ↓aMt, ↓isLs, ↓aLc, ↓aLcO, Bool.false_bne, Bool.true_bne, Bool.xor_false, Bool.false_xor, Bool.true_xor, Bool.not_true, Bool.not_false, decide_eq_true_eq, if_true, if_false, ite_true, ite_false, reduceIte, Bool.false_eq_true, List.getElem?_cons_zero, List.getElem?_cons_succ, ↓aLt, ↓aLe, ↓aGt, ↓aGe, ↓aSub, ↓aMul, ↓aDiv, ↓aMod, ↓aPow, true_and, and_true, aTuple]
    refine ⟨_, rfl, ?_⟩
    exact Cut.set hB (hbel hp) (h ⟨5 + size0, sortP fs⟩ o (good_sort (hd.good (by omega))) (by show 5 + size0 ≤ 9; omega) (sortP_rise hd.nd) (hp.le (by omega)))
end
end Lw
/-! Nothing to be spared, two slots: one round of marks. -/
namespace Jm
theorem pigeon {m : Nat} {g : Nat → Nat} (low : ∀ x, x < m → g x < m) (inj : ∀ x y, x < m → y < m → g x = g y → x = y) {y : Nat} (hy : y < m) : ∃ x, x < m ∧ g x = y := by
  refine Classical.byContradiction fun hn => ?_
  have nd : (y :: (List.range m).map g).Nodup := by
    rw [List.nodup_cons]
    refine ⟨fun h => ?_, ?_⟩
    · obtain ⟨x, hx, e⟩ := List.mem_map.mp h
      exact hn ⟨x, List.mem_range.mp hx, e⟩
    · refine List.pairwise_map.mpr ((List.Pairwise.and_mem.mp (List.nodup_range (n := m))).imp fun {a b} z e => z.2.2 (inj a b (List.mem_range.mp z.1) (List.mem_range.mp z.2.1) e))
  have := len_le_of_sub nd (ys := List.range m) fun u hu => by
    rcases List.mem_cons.mp hu with rfl | hu
    · exact List.mem_range.mpr hy
    · obtain ⟨x, hx, rfl⟩ := List.mem_map.mp hu
      exact List.mem_range.mpr (low x (List.mem_range.mp hx))
  rw [List.length_cons, List.length_map, List.length_range] at this
  omega
/-- marks that feed themselves -/
def Feeds (m : Nat) (ps : List (Nat × Nat)) (F : Nat → Prop) : Prop := (∃ y, F y) ∧ ∀ y, F y → y < m ∧ ∃ x, F x ∧ (x, y) ∈ ps
theorem one_round {m : Nat} {ps : List (Nat × Nat)} (irr : ∀ a, (a, a) ∉ ps) (low : ∀ q ∈ ps, q.1 < m ∧ q.2 < m) (hF : ∃ F, Feeds m ps F) (hmin : ∀ x, x < m → ¬ ∃ F, Feeds m ps F ∧ ¬ F x) :
    (∀ y, y < m → ∃ x, (x, y) ∈ ps) ∧ (∀ x, x < m → ∃ y, (x, y) ∈ ps) ∧ (∀ x y y', (x, y) ∈ ps → (x, y') ∈ ps → y = y') ∧ (∀ x x' y, (x, y) ∈ ps → (x', y) ∈ ps → x = x') := by
  obtain ⟨F, ⟨hF1, hF2⟩⟩ := hF
  have all : ∀ y, y < m → F y := fun y hy => Classical.byContradiction fun q => hmin y hy ⟨F, ⟨hF1, hF2⟩, q⟩
  have hall : ∀ y, y < m → ∃ x, (x, y) ∈ ps := fun y hy => by
    obtain ⟨_, x, _, h⟩ := hF2 y (all y hy)
    exact ⟨x, h⟩
  have only : ∀ x, x < m → ∃ y, y < m ∧ ∀ z, (z, y) ∈ ps → z = x := fun x hx => by
    refine Classical.byContradiction fun hn => ?_
    refine hmin x hx ⟨fun y => y < m ∧ y ≠ x, ⟨?_, fun y hy => ⟨hy.1, ?_⟩⟩, fun q => q.2 rfl⟩
    · obtain ⟨z, hz⟩ := hall x hx
      exact ⟨z, (low _ hz).1, fun e => irr x (by rw [e] at hz; exact hz)⟩
    · refine Classical.byContradiction fun q => hn ⟨y, hy.1, fun z hz => Classical.byContradiction fun e => q ⟨z, ⟨(low _ hz).1, e⟩, hz⟩⟩
  classical
  let g : Nat → Nat := fun x => if hx : x < m then Classical.choose (only x hx) else 0
  have gs : ∀ x (hx : x < m), g x < m ∧ ∀ z, (z, g x) ∈ ps → z = x := fun x hx => by
    show (if hx : x < m then Classical.choose (only x hx) else 0) < m ∧ ∀ z, (z, if hx : x < m then Classical.choose (only x hx) else 0) ∈ ps → z = x
    rw [dif_pos hx]
    exact Classical.choose_spec (only x hx)
  have inj : ∀ x y, x < m → y < m → g x = g y → x = y := fun x y hx hy e => by
    obtain ⟨z, hz⟩ := hall (g x) (gs x hx).1
    have h1 := (gs x hx).2 z hz
    have h2 := (gs y hy).2 z (by rw [← e]; exact hz)
    exact h1.symm.trans h2
  have sur : ∀ y, y < m → ∃ x, x < m ∧ g x = y := fun y hy => pigeon (fun x hx => (gs x hx).1) inj hy
  have uniq : ∀ x x' y, (x, y) ∈ ps → (x', y) ∈ ps → x = x' := fun x x' y h1 h2 => by
    obtain ⟨u, hu, rfl⟩ := sur y (low _ h1).2
    exact ((gs u hu).2 x h1).trans ((gs u hu).2 x' h2).symm
  refine ⟨hall, fun x hx => ?_, fun x y y' h1 h2 => ?_, uniq⟩
  · obtain ⟨z, hz⟩ := hall (g x) (gs x hx).1
    have := (gs x hx).2 z hz
    subst this
    exact ⟨_, hz⟩
  · obtain ⟨u, hu, rfl⟩ := sur y (low _ h1).2
    obtain ⟨v, hv, rfl⟩ := sur y' (low _ h2).2
    have e1 := (gs u hu).2 x h1
    have e2 := (gs v hv).2 x h2
    rw [← e1, ← e2]
end Jm
namespace Lw
open PySem PySem.Spec PyProof.Rows L2 Am
section
variable {Pg : Program} {w : World} {K : PySem.W.Frag} {mg : Str → Option Value} {base : Heap}
/-! ### k80: what is spared -/
theorem get_idx {A : List Nat} {x : Nat} (h : x ∈ A) : A[A.idxOf x]?.getD 0 = x := by
  rw [List.getElem?_eq_getElem (List.idxOf_lt_length_of_mem h), List.getElem_idxOf]
  rfl
theorem partL_lead {l : Lot} {A B : List Nat} (hA : ∀ x ∈ A, x ∈ B) {n : Nat} (h : Jm.Serves (partL l A).m (partL l A).ps n) : Jm.Serves (partL l B).m (partL l B).ps n := by
  refine Jm.serves_lead (fun k => B.idxOf (A[k]?.getD 0)) (fun k hk => ?_) (fun a b ha hb hab => ?_) h
  · have hk : k < A.length := hk
    show B.idxOf (A[k]?.getD 0) < B.length
    rw [List.getElem?_eq_getElem hk]
    exact List.idxOf_lt_length_of_mem (hA _ (List.getElem_mem hk))
  · obtain ⟨x, y, h1, h2, h3, rfl, rfl⟩ := partL_mem.mp hab
    exact partL_mem.mpr ⟨x, y, h1, hA _ h2, hA _ h3, by rw [get_idx h2], by rw [get_idx h3]⟩
theorem partL_part {l : Lot} {A B C : List Nat} (hB : ∀ b ∈ B, b < A.length) (hC : ∀ b ∈ B, ∀ x, A[b]? = some x → x ∈ C) {n : Nat} (h : Jm.Serves (partL (partL l A) B).m (partL (partL l A) B).ps n) : Jm.Serves (partL l C).m (partL l C).ps n := by
  refine Jm.serves_lead (fun j => C.idxOf (A[B[j]?.getD 0]?.getD 0)) (fun j hj => ?_) (fun i j hi hj hij => ?_) h
  · have hj : j < B.length := hj
    show C.idxOf (A[B[j]?.getD 0]?.getD 0) < C.length
    rw [List.getElem?_eq_getElem hj]
    have hb := hB _ (List.getElem_mem hj)
    refine List.idxOf_lt_length_of_mem (hC _ (List.getElem_mem hj) _ ?_)
    show A[B[j]]? = some (A[B[j]]?.getD 0)
    rw [List.getElem?_eq_getElem hb]
    rfl
  · obtain ⟨a, b, h1, h2, h3, rfl, rfl⟩ := partL_mem.mp hij
    obtain ⟨x, y, k1, k2, k3, rfl, rfl⟩ := partL_mem.mp h1
    have g : ∀ {z : Nat}, z ∈ A → A[A.idxOf z]? = some z := fun {z} hz => by
      rw [List.getElem?_eq_getElem (List.idxOf_lt_length_of_mem hz), List.getElem_idxOf]
    refine partL_mem.mpr ⟨x, y, k1, hC _ h2 x (g k2), hC _ h3 y (g k3), ?_, ?_⟩
    · show _ = C.idxOf (A[B[B.idxOf (A.idxOf x)]?.getD 0]?.getD 0)
      rw [get_idx h2, get_idx k2]
    · show _ = C.idxOf (A[B[B.idxOf (A.idxOf y)]?.getD 0]?.getD 0)
      rw [get_idx h3, get_idx k3]
theorem partL_all {l : Lot} (hl : Good l) {n : Nat} (h : Jm.Serves l.m l.ps n) : Jm.Serves (partL l (List.range l.m)).m (partL l (List.range l.m)).ps n := by
  refine Jm.serves_lead (fun k => (List.range l.m).idxOf k) (fun k hk => List.idxOf_lt_length_of_mem (List.mem_range.mpr hk)) (fun a b ha hb hab => ?_) h
  exact partL_mem.mpr ⟨a, b, hab, List.mem_range.mpr (hl.low _ hab).1, List.mem_range.mpr (hl.low _ hab).2, rfl, rfl⟩
theorem spare_serves {l : Lot} (hl : Good l) {n : Nat} (h : Jm.Serves l.m l.ps n) : ∀ i, Jm.Serves (partL l (spareL l n i)).m (partL l (spareL l n i)).ps n
  | 0 => partL_all hl h
  | i + 1 => by
    rw [spareL]
    split
    · rename_i hb
      exact Jm.servesB_iff.mp hb
    · exact spare_serves hl h i
theorem spare_step (l : Lot) (n : Nat) (i : Nat) : List.Sublist (spareL l n (i + 1)) (spareL l n i) := by
  rw [spareL]
  split
  · exact without_sub _ _
  · exact List.Sublist.refl _
theorem spare_le (l : Lot) (n : Nat) (i : Nat) : ∀ d, List.Sublist (spareL l n (i + d)) (spareL l n i)
  | 0 => List.Sublist.refl _
  | d + 1 => (spare_step l n (i + d)).trans (spare_le l n i d)
theorem mem_without {ms : List Nat} {k x : Nat} : x ∈ without ms k ↔ x ∈ ms ∧ x ≠ k := by
  unfold without
  rw [List.mem_filter, decide_eq_true_eq]
theorem spare_min {l : Lot} {n k : Nat} (hk : k ∈ spareL l n l.m) : ¬ Jm.Serves (partL l (without (spareL l n l.m) k)).m (partL l (without (spareL l n l.m) k)).ps n := fun hs => by
  have hkm : k < l.m := List.mem_range.mp ((spare_sub l n l.m).subset hk)
  obtain ⟨i, hi⟩ : ∃ i, i = l.m - 1 - k := ⟨_, rfl⟩
  have ek : l.m - 1 - i = k := by omega
  have h1 : List.Sublist (spareL l n l.m) (spareL l n (i + 1)) := by
    have := spare_le l n (i + 1) (l.m - (i + 1))
    rwa [show i + 1 + (l.m - (i + 1)) = l.m by omega] at this
  have h2 : List.Sublist (spareL l n l.m) (spareL l n i) := h1.trans (spare_step l n i)
  have h3 : Jm.Serves (partL l (without (spareL l n i) k)).m (partL l (without (spareL l n i) k)).ps n := partL_lead (fun x hx => mem_without.mpr ⟨h2.subset (mem_without.mp hx).1, (mem_without.mp hx).2⟩) hs
  have h4 := h1.subset hk
  rw [spareL, ek, if_pos (Jm.servesB_iff.mpr h3)] at h4
  exact (mem_without.mp h4).2 rfl
/-- no mark of the part can be done without -/
theorem spare_left {l : Lot} {n x : Nat} (hx : x < (spareL l n l.m).length) : ¬ Jm.Serves (partL (partL l (spareL l n l.m)) (without (List.range (spareL l n l.m).length) x)).m (partL (partL l (spareL l n l.m)) (without (List.range (spareL l n l.m).length) x)).ps n := fun hs => by
  refine spare_min (List.getElem_mem hx) (partL_part (fun b hb => List.mem_range.mp (mem_without.mp hb).1) (fun b hb y hy => ?_) hs)
  obtain ⟨hb1, hb2⟩ := mem_without.mp hb
  obtain ⟨hb3, rfl⟩ := List.getElem?_eq_some_iff.mp hy
  exact mem_without.mpr ⟨List.getElem_mem _, fun e => hb2 ((List.getElem_inj (spare_nd l n l.m)).mp e)⟩
theorem spare_fix {l : Lot} {n : Nat} : ∀ i, i ≤ (spareL l n l.m).length → spareL (partL l (spareL l n l.m)) n i = List.range (spareL l n l.m).length
  | 0, _ => rfl
  | i + 1, hi => by
    have hm : (partL l (spareL l n l.m)).m = (spareL l n l.m).length := rfl
    rw [spareL, spare_fix i (by omega), hm, if_neg]
    intro hb
    exact spare_left (by omega) (Jm.servesB_iff.mp hb)
theorem spare_one {l : Lot} (h0 : 0 < l.m) : spareL l 1 l.m = [0] := by
  have key : ∀ i, i < l.m → spareL l 1 i = List.range (l.m - i) := by
    intro i
    induction i with
    | zero => intro _; rfl
    | succ i ih =>
      intro hi
      have e : without (List.range (l.m - i)) (l.m - 1 - i) = List.range (l.m - (i + 1)) := by
        have : l.m - i = (l.m - (i + 1)) + 1 := by omega
        rw [this, List.range_succ]
        unfold without
        rw [List.filter_append, List.filter_eq_self.mpr fun x hx => ?_]
        · rw [show l.m - 1 - i = l.m - (i + 1) by omega]
          simp
        · have := List.mem_range.mp hx
          simp only [ne_eq, decide_not, Bool.not_eq_true', decide_eq_false_iff_not]
          omega
      rw [spareL, ih (by omega), e, if_pos]
      exact Jm.servesB_iff.mpr (Jm.serves_one.mpr (by show 0 < (List.range (l.m - (i + 1))).length; rw [List.length_range]; omega))
  obtain ⟨k, hk⟩ : ∃ k, l.m = k + 1 := ⟨l.m - 1, by omega⟩
  have e1 := key k (by omega)
  rw [show l.m - k = 1 by omega] at e1
  rw [hk, spareL, e1, show l.m - 1 - k = 0 by omega, if_neg]
  · rfl
  · intro hb
    have := Jm.serves_one.mp (Jm.servesB_iff.mp hb)
    exact absurd (show 0 < (without (List.range 1) 0).length from this) (by decide)
theorem feeds_iff {m : Nat} {ps : List (Nat × Nat)} : Jm.Serves m ps 2 ↔ ∃ F, Jm.Feeds m ps F := by
  constructor
  · rintro ⟨row, h⟩
    have hl := h.len.1
    match row, hl, h with
    | [y], _, h =>
      refine ⟨fun y => Jm.Kept m ps 1 [y], ⟨y, h⟩, fun y hy => ⟨hy.len.2.1 y (by simp), ?_⟩⟩
      obtain ⟨x, h1, h2⟩ := Jm.kept1_next hy
      exact ⟨x, h1, h2⟩
  · rintro ⟨F, ⟨y, hy⟩, hF⟩
    exact ⟨[y], Jm.kept1_of (F := F) (fun y hy => (hF y hy).1) (fun y hy => (hF y hy).2) hy⟩
/-- two slots: one round -/
theorem spare_round {l : Lot} (hl : Good l) (h : Jm.Serves l.m l.ps 2) :
    (∀ y, y < (partL l (spareL l 2 l.m)).m → ∃ x, (x, y) ∈ (partL l (spareL l 2 l.m)).ps) ∧ (∀ x, x < (partL l (spareL l 2 l.m)).m → ∃ y, (x, y) ∈ (partL l (spareL l 2 l.m)).ps) ∧
    (∀ x y y', (x, y) ∈ (partL l (spareL l 2 l.m)).ps → (x, y') ∈ (partL l (spareL l 2 l.m)).ps → y = y') ∧ (∀ x x' y, (x, y) ∈ (partL l (spareL l 2 l.m)).ps → (x', y) ∈ (partL l (spareL l 2 l.m)).ps → x = x') := by
  have g := partL_good hl (ms := spareL l 2 l.m) (Nat.le_trans (spare_len l 2 l.m) hl.small)
  refine Jm.one_round g.irr g.low (feeds_iff.mp (spare_serves hl h l.m)) fun x hx => ?_
  rintro ⟨F, ⟨⟨y0, hy0⟩, hF⟩, hnx⟩
  have hx : x < (spareL l 2 l.m).length := hx
  refine spare_left hx (feeds_iff.mpr ⟨fun j => ∃ y, F y ∧ (without (List.range (spareL l 2 l.m).length) x).idxOf y = j, ⟨_, y0, hy0, rfl⟩, ?_⟩)
  have mem : ∀ y, F y → y ∈ without (List.range (spareL l 2 l.m).length) x := fun y hy => mem_without.mpr ⟨List.mem_range.mpr (hF y hy).1, fun e => hnx (e ▸ hy)⟩
  rintro j ⟨y, hy, rfl⟩
  refine ⟨List.idxOf_lt_length_of_mem (mem y hy), ?_⟩
  obtain ⟨_, z, hz, hzy⟩ := hF y hy
  exact ⟨_, ⟨z, hz, rfl⟩, partL_mem.mpr ⟨z, y, hzy, mem z hz, mem y hy, rfl, rfl⟩⟩
theorem partL_nd {l : Lot} {ms : List Nat} (hl : l.ps.Nodup) : (partL l ms).ps.Nodup := by
  refine (List.mergeSort_perm _ ple).nodup_iff.mpr ?_
  refine List.pairwise_map.mpr ((List.Pairwise.and_mem.mp (hl.sublist (List.filter_sublist (p := inB ms)))).imp fun {p q} z e => ?_)
  obtain ⟨hp, hq, hne⟩ := z
  have hp := (List.mem_filter.mp hp).2
  have hq := (List.mem_filter.mp hq).2
  unfold inB at hp hq
  rw [Bool.and_eq_true, decide_eq_true_eq, decide_eq_true_eq] at hp hq
  unfold toIx at e
  rw [Prod.mk.injEq] at e
  exact hne (Prod.ext (ix_inj hp.1 hq.1 e.1) (ix_inj hp.2 hq.2 e.2))
/-! ### sorted numbers -/
def nP (n : Nat) : P := .int (n : Nat)
def nle (a b : Nat) : Bool := PySem.W.dataLe false P.py (nP a) (nP b)
theorem nle_iff {a b : Nat} : nle a b = decide (a ≤ b) := by
  show (!(decide (((b : Nat) : Int) < ((a : Nat) : Int)) || (!decide (((a : Nat) : Int) < ((b : Nat) : Int)) && false))) = decide (a ≤ b)
  rw [Bool.and_false, Bool.or_false, Bool.eq_iff_iff, Bool.not_eq_true', decide_eq_false_iff_not, decide_eq_true_eq]
  omega
theorem ints_sorted (xs : List Nat) : (xs.map nP).mergeSort (PySem.W.dataLe false P.py) = (xs.mergeSort nle).map nP := (List.map_mergeSort (r := nle) (s := PySem.W.dataLe false P.py) (f := nP) (l := xs) fun a _ b _ => rfl).symm
theorem sortN_of {xs ys : List Nat} (hp : xs.Perm ys) (hy : ys.Pairwise (· ≤ ·)) : xs.mergeSort nle = ys := by
  have h1 : (xs.mergeSort nle).Pairwise fun a b => nle a b = true := List.pairwise_mergeSort (fun a b c h1 h2 => by rw [nle_iff, decide_eq_true_eq] at *; omega) (fun a b => by rw [nle_iff, nle_iff, Bool.or_eq_true, decide_eq_true_eq, decide_eq_true_eq]; omega) xs
  refine ((List.mergeSort_perm xs nle).trans hp).eq_of_pairwise (fun a b _ _ x y => ?_) h1 (hy.imp fun {a b} h => by rw [nle_iff, decide_eq_true_eq]; exact h)
  rw [nle_iff, decide_eq_true_eq] at x y
  omega
theorem sorted_ints {S : List O} {xs : List Nat} {Post : D → List O → Prop} (q : Post (.p (.lst ((xs.mergeSort nle).map nP))) S) : aSortedX (.p (.lst (xs.map nP))) S Post := by
  have ty : ∀ n : Nat, (nP n).py = .int (n : Nat) := fun n => rfl
  refine ⟨_, .inl rfl, fun x hx => ?_, fun d hd e he => ?_, .inl (.inr fun d hd => ?_), by rw [ints_sorted]; exact q⟩
  · obtain ⟨y, _, rfl⟩ := List.mem_map.mp hx
    exact dat_int
  · rw [List.map_map] at hd he
    obtain ⟨x, _, rfl⟩ := List.mem_map.mp hd
    obtain ⟨y, _, rfl⟩ := List.mem_map.mp he
    rfl
  · rw [List.map_map] at hd
    obtain ⟨x, _, rfl⟩ := List.mem_map.mp hd
    exact ⟨(fun z => nomatch z), fun xs z => nomatch z⟩
theorem asc_eq {xs ys : List Int} (hx : xs.Pairwise (· < ·)) (hy : ys.Pairwise (· < ·)) (h : ∀ k, k ∈ xs ↔ k ∈ ys) : xs = ys := by
  have nd : ∀ {zs : List Int}, zs.Pairwise (· < ·) → zs.Nodup := fun {zs} h => h.imp fun {a b} z e => by omega
  exact ((List.perm_ext_iff_of_nodup (nd hx) (nd hy)).mpr h).eq_of_pairwise (fun a b _ _ x y => by omega) hx hy
theorem range_asc {m : Nat} {ms : List Nat} (h : List.Sublist ms (List.range m)) : (ms.map fun n : Nat => ((n : Nat) : Int)).Pairwise (· < ·) := by
  refine List.pairwise_map.mpr (((List.pairwise_lt_range (n := m)).sublist h).imp fun {a b} z => by omega)
def F_law_spared_right : FT := fun as S Post => ∃ (l : Lot) (n : Nat), as = [.p (lotP l), .p (.int (n : Nat))] ∧ Good l ∧ l.ps.Nodup ∧ 1 ≤ n ∧ n ≤ 5 ∧ Jm.Serves l.m l.ps n ∧ Post (.p (.bl true)) S
theorem len_law_spared_right : ∀ as S Post, F_law_spared_right as S Post → as.length = ["_law_lot_here", "_law_n"].length := by
  rintro _ S Post ⟨_, _, rfl, _⟩; rfl
theorem cl_law_spared_right {C_Fails : Addr} (x_Fails : Ex0 Pg w K mg base "Fails" C_Fails) (p : Pre K mg "_law_spared_right" st_law_spared_right) (z_len : mg "len" = none) (z_list : mg "list" = none) (z_range : mg "range" = none) (z_set : mg "set" = none) (z_sorted : mg "sorted" = none) (z_tuple : mg "tuple" = none) (c_serves : Cl Pg w K mg base 4 "serves" st_serves ["lot", "n"] F_serves) (c_part : Cl Pg w K mg base 2 "part" st_part ["lot", "marks"] F_part) (c_spare : ClX Pg w K mg base 5 "spare" st_spare ["lot", "n"] (F_spare C_Fails)) : Cl Pg w K mg base 6 "_law_spared_right" st_law_spared_right ["_law_lot_here", "_law_n"] F_law_spared_right := by
  refine p.cl (fun _ _ _ _ _ _ us hl => match us, hl with | [_, _], _ => rfl) fun f fd F => ?_
  refine fun_ok F sc_law_spared_right len_law_spared_right (fun cdv A outer s H E gd hr => have hu := hu65 hr; (jb_cons (js_set 2 sc_law_spared_right.nd (je_own (ClX.cl c_spare nx_spare) gd hr (ja_cons (je_var 0) (ja_cons (je_var 1) ja_nil))))
    (jb_cons (js_par 3 4 rfl sc_law_spared_right.nd (ja_cons (je_own c_part gd hr (ja_cons (je_var 0) (ja_cons (je_var 2) ja_nil))) (ja_cons (je_len (by rfl) z_len (je_var 2)) ja_nil)))
    (jb_cons (js_if (JW.jt (jw_or (jt_ne hr (je_var 2) (je_tuple (by rfl) z_tuple (je_sortedSetI rfl (by rfl) z_sorted (by rfl) z_set (je_var 2)))) (jw_or (jt_notB (je_own c_serves gd hr (ja_cons (je_var 3) (ja_cons (je_var 1) ja_nil))) je_bl) (jw_or1 (jt_lt (je_var 4) (je_sub (je_shl je_int (je_var 1)) je_int)))))) (jb_one (js_ret je_bl)) jb_nil)
    (jb_cons (js_for PassesOwn.never rfl (ji_seq (je_var 2)) (jg_name 5 sc_law_spared_right.nd) (jb_one (js_if (jt_notB (je_own c_serves gd hr (ja_cons (je_own c_part gd hr (ja_cons (je_var 0) (ja_cons (je_tuple (by rfl) z_tuple (je_lc rfl sc_law_spared_right.nd (ji_seq (je_var 2)) (blkOk_by (N := ns_law_spared_right) (sc := defScope st_law_spared_right) (own := [("_law_other", 6)]) (by decide +kernel)) (fun _ _ _ _ _ => (jgo_name 6 sc_law_spared_right.nd)) (fun _ _ _ _ _ => jts_one (jt_ne hr (je_var 6) (je_var 5))) (fun _ _ _ _ _ => (je_var 6)))) ja_nil))) (ja_cons (je_var 1) ja_nil))) je_bl) (jb_one (js_ret je_bl)) jb_nil)))
    (jb_cons (js_if (jt_ne hr (je_own (ClX.cl c_spare nx_spare) gd hr (ja_cons (je_var 3) (ja_cons (je_var 1) ja_nil))) (je_tupRg rfl (by rfl) z_tuple (jrg_1 (by rfl) z_range (je_var 4)))) (jb_one (js_ret je_bl)) jb_nil)
    (jb_cons (js_if (jt_eq hr (je_var 1) je_int) (jb_one (js_ret (je_eq hr (je_var 2) (je_tup (ja_cons je_int ja_nil))))) jb_nil)
    (jb_cons (js_if (jt_gt (je_var 1) je_int) (jb_one (js_ret je_bl)) jb_nil)
    (jb_one (js_ret (je_and (je_eq hr (je_sortedX hu (by rfl) z_sorted (je_lc rfl sc_law_spared_right.nd (ji_seq (je_ix (je_var 3) je_int (fun _ _ => rfl))) (blkOk_by (N := ns_law_spared_right) (sc := defScope st_law_spared_right) (own := [("_law_x", 7), ("_law_y", 8)]) (by decide +kernel)) (fun _ _ _ _ _ => (jgo_tup (n := 2) rfl (jgos_name 7 sc_law_spared_right.nd (jgos_name 8 sc_law_spared_right.nd jgos_nil)))) (fun _ _ _ _ _ => jts_nil) (fun _ _ _ _ _ => (je_var 8)))) (je_lstRg rfl (by rfl) z_list (jrg_1 (by rfl) z_range (je_var 4)))) (je_one (je_eq hr (je_sortedX hu (by rfl) z_sorted (je_lc rfl sc_law_spared_right.nd (ji_seq (je_ix (je_var 3) je_int (fun _ _ => rfl))) (blkOk_by (N := ns_law_spared_right) (sc := defScope st_law_spared_right) (own := [("_law_x", 7), ("_law_y", 8)]) (by decide +kernel)) (fun _ _ _ _ _ => (jgo_tup (n := 2) rfl (jgos_name 7 sc_law_spared_right.nd (jgos_name 8 sc_law_spared_right.nd jgos_nil)))) (fun _ _ _ _ _ => jts_nil) (fun _ _ _ _ _ => (je_var 7)))) (je_lstRg rfl (by rfl) z_list (jrg_1 (by rfl) z_range (je_var 4)))))))))))))))) ?_
  rintro as S Post hB ⟨l, n, rfl, hl, hnd, h1, h5, hs, h⟩
  have h30 := hl.small
  have nd := spare_nd l n l.m
  have hlen := spare_len l n l.m
  refine sq ?_
  simp only [↓sNext, ↓sBreak, ↓sCont, ↓sDrop, ↓sRet, ↓sRetN, ↓sIf, ↓sAsg, ↓agName, ↓agNil, ↓agCons, ↓agTup, ↓sPar, ↓sFor, ↓aV, ↓lk, ↓aC, ↓aOp, ↓aUn, ↓aCall, ↓aNil, ↓aCons, ↓aIf, ↓aTest, ↓aAnd, ↓aOr, ↓aNot, ↓aAndV, ↓aOrV, ↓aNotV, ↓aI, ↓aI0, ↓aAdd, ↓aNeg, ↓aIsN, ↓isNone, ↓aTup, ↓purs, ↓aLst, ↓aLstO, ↓aIx, ↓gi0, ↓gi1, ↓gi2, ↓giN, ↓a1, ↓aLen, ↓aAbs, ↓aInt, ↓aStr, ↓aIsi, ↓btOf, ↓BT.isB, ↓aYes, ↓aiSeq, wipeL, ↓startL, List.map, List.set, List.replicate, List.length, List.append, List.cons_append, List.nil_append, ↓aMt, ↓isLs, ↓aLc, ↓aLcO, Bool.false_bne, Bool.true_bne, Bool.xor_false, Bool.false_xor, Bool.true_xor, Bool.not_true, Bool.not_false, decide_eq_true_eq, if_true, if_false, ite_true, ite_false, reduceIte, Bool.false_eq_true, List.getElem?_cons_zero, List.getElem?_cons_succ, ↓aLt, ↓aLe, ↓aGt, ↓aGe, ↓aSub, ↓aMul, ↓aDiv, ↓aMod, ↓aPow, true_and, and_true]
  refine ⟨l, n, rfl, hl, h1, h5, hs, ?_⟩
  generalize hms : spareL l n l.m = ms
  rw [hms] at nd hlen
  refine sq ?_
  simp only [↓sNext, ↓sBreak, ↓sCont, ↓sDrop, ↓sRet, ↓sRetN, ↓sIf, ↓sAsg, ↓agName, ↓agNil, ↓agCons, ↓agTup, ↓sPar, ↓sFor, ↓aV, ↓lk, ↓aC, ↓aOp, ↓aUn, ↓aCall, ↓aNil, ↓aCons, ↓aIf, ↓aTest, ↓aAnd, ↓aOr, ↓aNot, ↓aAndV, ↓aOrV, ↓aNotV, ↓aI, ↓aI0, ↓aAdd, ↓aNeg, ↓aIsN, ↓isNone, ↓aTup, ↓purs, ↓aLst, ↓aLstO, ↓aIx, ↓gi0, ↓gi1, ↓gi2, ↓giN, ↓a1, ↓aLen, ↓aAbs, ↓aInt, ↓aStr, ↓aIsi, ↓btOf, ↓BT.isB, ↓aYes, ↓aiSeq, wipeL, ↓startL, List.map, List.set, List.replicate, List.length, List.append, List.cons_append, List.nil_append, ↓aMt, ↓isLs, ↓aLc, ↓aLcO, Bool.false_bne, Bool.true_bne, Bool.xor_false, Bool.false_xor, Bool.true_xor, Bool.not_true, Bool.not_false, decide_eq_true_eq, if_true, if_false, ite_true, ite_false, reduceIte, Bool.false_eq_true, List.getElem?_cons_zero, List.getElem?_cons_succ, ↓aLt, ↓aLe, ↓aGt, ↓aGe, ↓aSub, ↓aMul, ↓aDiv, ↓aMod, ↓aPow, true_and, and_true]
  refine ⟨l, ms, rfl, nd, by omega, ?_⟩
  simp only [↓sNext, ↓sBreak, ↓sCont, ↓sDrop, ↓sRet, ↓sRetN, ↓sIf, ↓sAsg, ↓agName, ↓agNil, ↓agCons, ↓agTup, ↓sPar, ↓sFor, ↓aV, ↓lk, ↓aC, ↓aOp, ↓aUn, ↓aCall, ↓aNil, ↓aCons, ↓aIf, ↓aTest, ↓aAnd, ↓aOr, ↓aNot, ↓aAndV, ↓aOrV, ↓aNotV, ↓aI, ↓aI0, ↓aAdd, ↓aNeg, ↓aIsN, ↓isNone, ↓aTup, ↓purs, ↓aLst, ↓aLstO, ↓aIx, ↓gi0, ↓gi1, ↓gi2, ↓giN, ↓a1, ↓aLen, ↓aAbs, ↓aInt, ↓aStr, ↓aIsi, ↓btOf, ↓BT.isB, ↓aYes, ↓aiSeq, wipeL, ↓startL, List.map, List.set, List.replicate, List.length, List.append, List.cons_append, List.nil_append, ↓aMt, ↓isLs, ↓aLc, ↓aLcO, Bool.false_bne, Bool.true_bne, Bool.xor_false, Bool.false_xor, Bool.true_xor, Bool.not_true, Bool.not_false, decide_eq_true_eq, if_true, if_false, ite_true, ite_false, reduceIte, Bool.false_eq_true, List.getElem?_cons_zero, List.getElem?_cons_succ, ↓aLt, ↓aLe, ↓aGt, ↓aGe, ↓aSub, ↓aMul, ↓aDiv, ↓aMod, ↓aPow, true_and, and_true, rowP]
  refine sq ?_
  simp only [↓sNext, ↓sBreak, ↓sCont, ↓sDrop, ↓sRet, ↓sRetN, ↓sIf, ↓sAsg, ↓agName, ↓agNil, ↓agCons, ↓agTup, ↓sPar, ↓sFor, ↓aV, ↓lk, ↓aC, ↓aOp, ↓aUn, ↓aCall, ↓aNil, ↓aCons, ↓aIf, ↓aTest, ↓aAnd, ↓aOr, ↓aNot, ↓aAndV, ↓aOrV, ↓aNotV, ↓aI, ↓aI0, ↓aAdd, ↓aNeg, ↓aIsN, ↓isNone, ↓aTup, ↓purs, ↓aLst, ↓aLstO, ↓aIx, ↓gi0, ↓gi1, ↓gi2, ↓giN, ↓a1, ↓aLen, ↓aAbs, ↓aInt, ↓aStr, ↓aIsi, ↓btOf, ↓BT.isB, ↓aYes, ↓aiSeq, wipeL, ↓startL, List.map, List.set, List.replicate, List.length, List.append, List.cons_append, List.nil_append, ↓aMt, ↓isLs, ↓aLc, ↓aLcO, Bool.false_bne, Bool.true_bne, Bool.xor_false, Bool.false_xor, Bool.true_xor, Bool.not_true, Bool.not_false, decide_eq_true_eq, if_true, if_false, ite_true, ite_false, reduceIte, Bool.false_eq_true, List.getElem?_cons_zero, List.getElem?_cons_succ, ↓aLt, ↓aLe, ↓aGt, ↓aGe, ↓aSub, ↓aMul, ↓aDiv, ↓aMod, ↓aPow, true_and, and_true, aSortedSetI]
  have hasc : List.Sublist ms (List.range l.m) := by rw [← hms]; exact spare_sub l n l.m
  refine ⟨ms.map fun n : Nat => ((n : Nat) : Int), by rw [List.map_map]; rfl, by rw [List.length_map]; omega, fun ns hn1 hn2 => ?_⟩
  obtain rfl := asc_eq hn1 (range_asc hasc) hn2
  simp only [aTuple, ↓sNext, ↓sBreak, ↓sCont, ↓sDrop, ↓sRet, ↓sRetN, ↓sIf, ↓sAsg, ↓agName, ↓agNil, ↓agCons, ↓agTup, ↓sPar, ↓sFor, ↓aV, ↓lk, ↓aC, ↓aOp, ↓aUn, ↓aCall, ↓aNil, ↓aCons, ↓aIf, ↓aTest, ↓aAnd, ↓aOr, ↓aNot, ↓aAndV, ↓aOrV, ↓aNotV, ↓aI, ↓aI0, ↓aAdd, ↓aNeg, ↓aIsN, ↓isNone, ↓aTup, ↓purs, ↓aLst, ↓aLstO, ↓aIx, ↓gi0, ↓gi1, ↓gi2, ↓giN, ↓a1, ↓aLen, ↓aAbs, ↓aInt, ↓aStr, ↓aIsi, ↓btOf, ↓BT.isB, ↓aYes, ↓aiSeq, wipeL, ↓startL, List.map, List.set, List.replicate, List.length, List.append, List.cons_append, List.nil_append, ↓aMt, ↓isLs, ↓aLc, ↓aLcO, Bool.false_bne, Bool.true_bne, Bool.xor_false, Bool.false_xor, Bool.true_xor, Bool.not_true, Bool.not_false, decide_eq_true_eq, if_true, if_false, ite_true, ite_false, reduceIte, Bool.false_eq_true, List.getElem?_cons_zero, List.getElem?_cons_succ, ↓aLt, ↓aLe, ↓aGt, ↓aGe, ↓aSub, ↓aMul, ↓aDiv, ↓aMod, ↓aPow, true_and, and_true]
  refine ⟨_, rfl, ?_⟩
  simp only [aEq, asP]
  refine ⟨_, _, rfl, rfl, row_dat, by rw [List.map_map]; exact row_dat (r := ms), ?_⟩
  rw [show P.tup (List.map P.int (ms.map fun n : Nat => ((n : Nat) : Int))) = rowP ms by unfold rowP; rw [List.map_map]; rfl, show P.tup (ms.map fun n : Nat => P.int (n : Nat)) = rowP ms from rfl, eqb_row, decide_eq_true rfl]
  have gp := partL_good hl (ms := ms) (by omega)
  have sp := spare_serves hl hs l.m
  rw [hms] at sp
  simp only [↓sNext, ↓sBreak, ↓sCont, ↓sDrop, ↓sRet, ↓sRetN, ↓sIf, ↓sAsg, ↓agName, ↓agNil, ↓agCons, ↓agTup, ↓sPar, ↓sFor, ↓aV, ↓lk, ↓aC, ↓aOp, ↓aUn, ↓aCall, ↓aNil, ↓aCons, ↓aIf, ↓aTest, ↓aAnd, ↓aOr, ↓aNot, ↓aAndV, ↓aOrV, ↓aNotV, ↓aI, ↓aI0, ↓aAdd, ↓aNeg, ↓aIsN, ↓isNone, ↓aTup, ↓purs, ↓aLst, ↓aLstO, ↓aIx, ↓gi0, ↓gi1, ↓gi2, ↓giN, ↓a1, ↓aLen, ↓aAbs, ↓aInt, ↓aStr, ↓aIsi, ↓btOf, ↓BT.isB, ↓aYes, ↓aiSeq, wipeL, ↓startL, List.map, List.set, List.replicate, List.length, List.append, List.cons_append, List.nil_append, ↓aMt, ↓isLs, ↓aLc, ↓aLcO, Bool.false_bne, Bool.true_bne, Bool.xor_false, Bool.false_xor, Bool.true_xor, Bool.not_true, Bool.not_false, decide_eq_true_eq, if_true, if_false, ite_true, ite_false, reduceIte, Bool.false_eq_true, List.getElem?_cons_zero, List.getElem?_cons_succ, ↓aLt, ↓aLe, ↓aGt, ↓aGe, ↓aSub, ↓aMul, ↓aDiv, ↓aMod, ↓aPow, true_and, and_true]
  refine ⟨partL l ms, n, rfl, gp, h1, h5, ?_⟩
  rw [Jm.servesB_iff.mpr sp]
  simp only [↓sNext, ↓sBreak, ↓sCont, ↓sDrop, ↓sRet, ↓sRetN, ↓sIf, ↓sAsg, ↓agName, ↓agNil, ↓agCons, ↓agTup, ↓sPar, ↓sFor, ↓aV, ↓lk, ↓aC, ↓aOp, ↓aUn, ↓aCall, ↓aNil, ↓aCons, ↓aIf, ↓aTest, ↓aAnd, ↓aOr, ↓aNot, ↓aAndV, ↓aOrV, ↓aNotV, ↓aI, ↓aI0, ↓aAdd, ↓aNeg, ↓aIsN, ↓isNone, ↓aTup, ↓purs, ↓aLst, ↓aLstO, ↓aIx, ↓gi0, ↓gi1, ↓gi2, ↓giN, ↓a1, ↓aLen, ↓aAbs, ↓aInt, ↓aStr, ↓aIsi, ↓btOf, ↓BT.isB, ↓aYes, ↓aiSeq, wipeL, ↓startL, List.map, List.set, List.replicate, List.length, List.append, List.cons_append, List.nil_append, ↓aMt, ↓isLs, ↓aLc, ↓aLcO, Bool.false_bne, Bool.true_bne, Bool.xor_false, Bool.false_xor, Bool.true_xor, Bool.not_true, Bool.not_false, decide_eq_true_eq, if_true, if_false, ite_true, ite_false, reduceIte, Bool.false_eq_true, List.getElem?_cons_zero, List.getElem?_cons_succ, ↓aLt, ↓aLe, ↓aGt, ↓aGe, ↓aSub, ↓aMul, ↓aDiv, ↓aMod, ↓aPow, true_and, and_true, aIsB]
  rw [if_neg (by decide)]
  have many := Jm.serves_many gp.irr gp.asym sp h1
  have many : 2 ^ n ≤ ms.length + 1 := many
  refine ⟨⟨by omega, by omega, by decide⟩, ?_⟩
  have nolt : ¬ (((ms.map fun n : Nat => P.int (n : Nat)).length : Nat) : Int) < 1 * 2 ^ ((n : Nat) : Int).toNat - 1 := by
    rw [List.length_map, Int.one_mul, show ((n : Nat) : Int).toNat = n from rfl]
    have : ((2 : Int) ^ n) = ((2 ^ n : Nat) : Int) := by norm_cast
    rw [this]
    omega
  rw [if_neg nolt]
  refine sq ?_
  simp only [↓sNext, ↓sBreak, ↓sCont, ↓sDrop, ↓sRet, ↓sRetN, ↓sIf, ↓sAsg, ↓agName, ↓agNil, ↓agCons, ↓agTup, ↓sPar, ↓sFor, ↓aV, ↓lk, ↓aC, ↓aOp, ↓aUn, ↓aCall, ↓aNil, ↓aCons, ↓aIf, ↓aTest, ↓aAnd, ↓aOr, ↓aNot, ↓aAndV, ↓aOrV, ↓aNotV, ↓aI, ↓aI0, ↓aAdd, ↓aNeg, ↓aIsN, ↓isNone, ↓aTup, ↓purs, ↓aLst, ↓aLstO, ↓aIx, ↓gi0, ↓gi1, ↓gi2, ↓giN, ↓a1, ↓aLen, ↓aAbs, ↓aInt, ↓aStr, ↓aIsi, ↓btOf, ↓BT.isB, ↓aYes, ↓aiSeq, wipeL, ↓startL, List.map, List.set, List.replicate, List.length, List.append, List.cons_append, List.nil_append, ↓aMt, ↓isLs, ↓aLc, ↓aLcO, Bool.false_bne, Bool.true_bne, Bool.xor_false, Bool.false_xor, Bool.true_xor, Bool.not_true, Bool.not_false, decide_eq_true_eq, if_true, if_false, ite_true, ite_false, reduceIte, Bool.false_eq_true, List.getElem?_cons_zero, List.getElem?_cons_succ, ↓aLt, ↓aLe, ↓aGt, ↓aGe, ↓aSub, ↓aMul, ↓aDiv, ↓aMod, ↓aPow, true_and, and_true, rowP]
  rw [List.map_map]
  refine for_go (fun i L S' => ∃ (b5 b6 b7 b8 : Option D), L = [some (.p (lotP l)), some (.p (.int (n : Nat))), some (.p (rowP ms)), some (.p (lotP (partL l ms))), some (.p (.int (ms.length : Nat))), b5, b6, b7, b8] ∧ S' = S) (fun _ _ _ _ => trivial) (fun i x L S' N hx hI hN => ?_) (fun L S' hI => ?_) ⟨none, none, none, none, by rw [List.length_map]; rfl, rfl⟩
  · obtain ⟨b5, b6, b7, b8, rfl, rfl⟩ := hI
    rw [List.getElem?_map] at hx
    obtain ⟨k, hk, rfl⟩ := Option.map_eq_some_iff.mp hx
    have hkm := List.mem_of_getElem? hk
    simp only [↓sNext, ↓sBreak, ↓sCont, ↓sDrop, ↓sRet, ↓sRetN, ↓sIf, ↓sAsg, ↓agName, ↓agNil, ↓agCons, ↓agTup, ↓sPar, ↓sFor, ↓aV, ↓lk, ↓aC, ↓aOp, ↓aUn, ↓aCall, ↓aNil, ↓aCons, ↓aIf, ↓aTest, ↓aAnd, ↓aOr, ↓aNot, ↓aAndV, ↓aOrV, ↓aNotV, ↓aI, ↓aI0, ↓aAdd, ↓aNeg, ↓aIsN, ↓isNone, ↓aTup, ↓purs, ↓aLst, ↓aLstO, ↓aIx, ↓gi0, ↓gi1, ↓gi2, ↓giN, ↓a1, ↓aLen, ↓aAbs, ↓aInt, ↓aStr, ↓aIsi, ↓btOf, ↓BT.isB, ↓aYes, ↓aiSeq, wipeL, ↓startL, List.map, List.set, List.replicate, List.length, List.append, List.cons_append, List.nil_append, ↓aMt, ↓isLs, ↓aLc, ↓aLcO, Bool.false_bne, Bool.true_bne, Bool.xor_false, Bool.false_xor, Bool.true_xor, Bool.not_true, Bool.not_false, decide_eq_true_eq, if_true, if_false, ite_true, ite_false, reduceIte, Bool.false_eq_true, List.getElem?_cons_zero, List.getElem?_cons_succ, ↓aLt, ↓aLe, ↓aGt, ↓aGe, ↓aSub, ↓aMul, ↓aDiv, ↓aMod, ↓aPow, true_and, and_true, rowP]
    refine lc_mapP ms (fun x => .int (x : Nat)) (fun x => decide (x ≠ k)) (fun x => .int (x : Nat)) (fun x hx Q R hQ => ?_) ?_
    · simp only [Function.comp, ↓sNext, ↓sBreak, ↓sCont, ↓sDrop, ↓sRet, ↓sRetN, ↓sIf, ↓sAsg, ↓agName, ↓agNil, ↓agCons, ↓agTup, ↓sPar, ↓sFor, ↓aV, ↓lk, ↓aC, ↓aOp, ↓aUn, ↓aCall, ↓aNil, ↓aCons, ↓aIf, ↓aTest, ↓aAnd, ↓aOr, ↓aNot, ↓aAndV, ↓aOrV, ↓aNotV, ↓aI, ↓aI0, ↓aAdd, ↓aNeg, ↓aIsN, ↓isNone, ↓aTup, ↓purs, ↓aLst, ↓aLstO, ↓aIx, ↓gi0, ↓gi1, ↓gi2, ↓giN, ↓a1, ↓aLen, ↓aAbs, ↓aInt, ↓aStr, ↓aIsi, ↓btOf, ↓BT.isB, ↓aYes, ↓aiSeq, wipeL, ↓startL, List.map, List.set, List.replicate, List.length, List.append, List.cons_append, List.nil_append, ↓aMt, ↓isLs, ↓aLc, ↓aLcO, Bool.false_bne, Bool.true_bne, Bool.xor_false, Bool.false_xor, Bool.true_xor, Bool.not_true, Bool.not_false, decide_eq_true_eq, if_true, if_false, ite_true, ite_false, reduceIte, Bool.false_eq_true, List.getElem?_cons_zero, List.getElem?_cons_succ, ↓aLt, ↓aLe, ↓aGt, ↓aGe, ↓aSub, ↓aMul, ↓aDiv, ↓aMod, ↓aPow, true_and, and_true, aEq]
      have e1 : (((x : Nat) : Int) == (k : Nat)) = decide (x = k) := by
        rw [Bool.eq_iff_iff, beq_iff_eq, decide_eq_true_eq]
        omega
      rw [e1]
      by_cases hxk : x = k
      · simp only [hxk, decide_true, ne_eq, not_true, decide_false, Bool.not_true, Bool.false_eq_true, if_false] at hQ ⊢
        exact hQ
      · simp only [hxk, decide_false, ne_eq, not_false_eq_true, decide_true, Bool.not_false, if_true] at hQ ⊢
        exact hQ
    refine ⟨_, rfl, ?_⟩
    simp only [aTuple, ↓sNext, ↓sBreak, ↓sCont, ↓sDrop, ↓sRet, ↓sRetN, ↓sIf, ↓sAsg, ↓agName, ↓agNil, ↓agCons, ↓agTup, ↓sPar, ↓sFor, ↓aV, ↓lk, ↓aC, ↓aOp, ↓aUn, ↓aCall, ↓aNil, ↓aCons, ↓aIf, ↓aTest, ↓aAnd, ↓aOr, ↓aNot, ↓aAndV, ↓aOrV, ↓aNotV, ↓aI, ↓aI0, ↓aAdd, ↓aNeg, ↓aIsN, ↓isNone, ↓aTup, ↓purs, ↓aLst, ↓aLstO, ↓aIx, ↓gi0, ↓gi1, ↓gi2, ↓giN, ↓a1, ↓aLen, ↓aAbs, ↓aInt, ↓aStr, ↓aIsi, ↓btOf, ↓BT.isB, ↓aYes, ↓aiSeq, wipeL, ↓startL, List.map, List.set, List.replicate, List.length, List.append, List.cons_append, List.nil_append, ↓aMt, ↓isLs, ↓aLc, ↓aLcO, Bool.false_bne, Bool.true_bne, Bool.xor_false, Bool.false_xor, Bool.true_xor, Bool.not_true, Bool.not_false, decide_eq_true_eq, if_true, if_false, ite_true, ite_false, reduceIte, Bool.false_eq_true, List.getElem?_cons_zero, List.getElem?_cons_succ, ↓aLt, ↓aLe, ↓aGt, ↓aGe, ↓aSub, ↓aMul, ↓aDiv, ↓aMod, ↓aPow, true_and, and_true]
    refine ⟨_, rfl, ?_⟩
    have nd2 : (without ms k).Nodup := nd.sublist (without_sub _ _)
    have hl2 : (without ms k).length ≤ 30 := Nat.le_trans (without_sub ms k).length_le (by omega)
    refine ⟨l, without ms k, rfl, nd2, by omega, ?_⟩
    refine ⟨partL l (without ms k), n, rfl, partL_good hl hl2, h1, h5, ?_⟩
    have hno : Jm.servesB (partL l (without ms k)).m (partL l (without ms k)).ps n = false := by
      have := spare_min (l := l) (n := n) (k := k) (by rw [hms]; exact hkm)
      rw [hms] at this
      simpa [Jm.servesB] using this
    rw [hno]
    simp only [↓sNext, ↓sBreak, ↓sCont, ↓sDrop, ↓sRet, ↓sRetN, ↓sIf, ↓sAsg, ↓agName, ↓agNil, ↓agCons, ↓agTup, ↓sPar, ↓sFor, ↓aV, ↓lk, ↓aC, ↓aOp, ↓aUn, ↓aCall, ↓aNil, ↓aCons, ↓aIf, ↓aTest, ↓aAnd, ↓aOr, ↓aNot, ↓aAndV, ↓aOrV, ↓aNotV, ↓aI, ↓aI0, ↓aAdd, ↓aNeg, ↓aIsN, ↓isNone, ↓aTup, ↓purs, ↓aLst, ↓aLstO, ↓aIx, ↓gi0, ↓gi1, ↓gi2, ↓giN, ↓a1, ↓aLen, ↓aAbs, ↓aInt, ↓aStr, ↓aIsi, ↓btOf, ↓BT.isB, ↓aYes, ↓aiSeq, wipeL, ↓startL, List.map, List.set, List.replicate, List.length, List.append, List.cons_append, List.nil_append, ↓aMt, ↓isLs, ↓aLc, ↓aLcO, Bool.false_bne, Bool.true_bne, Bool.xor_false, Bool.false_xor, Bool.true_xor, Bool.not_true, Bool.not_false, decide_eq_true_eq, if_true, if_false, ite_true, ite_false, reduceIte, Bool.false_eq_true, List.getElem?_cons_zero, List.getElem?_cons_succ, ↓aLt, ↓aLe, ↓aGt, ↓aGe, ↓aSub, ↓aMul, ↓aDiv, ↓aMod, ↓aPow, true_and, and_true, aIsB]
    rw [if_neg (by decide)]
    exact hN _ _ ⟨_, _, _, _, rfl, rfl⟩
  obtain ⟨b5, b6, b7, b8, rfl, rfl⟩ := hI
  refine sq ?_
  simp only [↓sNext, ↓sBreak, ↓sCont, ↓sDrop, ↓sRet, ↓sRetN, ↓sIf, ↓sAsg, ↓agName, ↓agNil, ↓agCons, ↓agTup, ↓sPar, ↓sFor, ↓aV, ↓lk, ↓aC, ↓aOp, ↓aUn, ↓aCall, ↓aNil, ↓aCons, ↓aIf, ↓aTest, ↓aAnd, ↓aOr, ↓aNot, ↓aAndV, ↓aOrV, ↓aNotV, ↓aI, ↓aI0, ↓aAdd, ↓aNeg, ↓aIsN, ↓isNone, ↓aTup, ↓purs, ↓aLst, ↓aLstO, ↓aIx, ↓gi0, ↓gi1, ↓gi2, ↓giN, ↓a1, ↓aLen, ↓aAbs, ↓aInt, ↓aStr, ↓aIsi, ↓btOf, ↓BT.isB, ↓aYes, ↓aiSeq, wipeL, ↓startL, List.map, List.set, List.replicate, List.length, List.append, List.cons_append, List.nil_append, ↓aMt, ↓isLs, ↓aLc, ↓aLcO, Bool.false_bne, Bool.true_bne, Bool.xor_false, Bool.false_xor, Bool.true_xor, Bool.not_true, Bool.not_false, decide_eq_true_eq, if_true, if_false, ite_true, ite_false, reduceIte, Bool.false_eq_true, List.getElem?_cons_zero, List.getElem?_cons_succ, ↓aLt, ↓aLe, ↓aGt, ↓aGe, ↓aSub, ↓aMul, ↓aDiv, ↓aMod, ↓aPow, true_and, and_true]
  refine ⟨partL l ms, n, rfl, gp, h1, h5, sp, ?_⟩
  have fix := spare_fix (l := l) (n := n) ms.length (by rw [hms]; exact Nat.le_refl _)
  rw [hms] at fix
  rw [show (partL l ms).m = ms.length from rfl, fix]
  simp only [aTupRg, aRg1, ↓sNext, ↓sBreak, ↓sCont, ↓sDrop, ↓sRet, ↓sRetN, ↓sIf, ↓sAsg, ↓agName, ↓agNil, ↓agCons, ↓agTup, ↓sPar, ↓sFor, ↓aV, ↓lk, ↓aC, ↓aOp, ↓aUn, ↓aCall, ↓aNil, ↓aCons, ↓aIf, ↓aTest, ↓aAnd, ↓aOr, ↓aNot, ↓aAndV, ↓aOrV, ↓aNotV, ↓aI, ↓aI0, ↓aAdd, ↓aNeg, ↓aIsN, ↓isNone, ↓aTup, ↓purs, ↓aLst, ↓aLstO, ↓aIx, ↓gi0, ↓gi1, ↓gi2, ↓giN, ↓a1, ↓aLen, ↓aAbs, ↓aInt, ↓aStr, ↓aIsi, ↓btOf, ↓BT.isB, ↓aYes, ↓aiSeq, wipeL, ↓startL, List.map, List.set, List.replicate, List.length, List.append, List.cons_append, List.nil_append, ↓aMt, ↓isLs, ↓aLc, ↓aLcO, Bool.false_bne, Bool.true_bne, Bool.xor_false, Bool.false_xor, Bool.true_xor, Bool.not_true, Bool.not_false, decide_eq_true_eq, if_true, if_false, ite_true, ite_false, reduceIte, Bool.false_eq_true, List.getElem?_cons_zero, List.getElem?_cons_succ, ↓aLt, ↓aLe, ↓aGt, ↓aGe, ↓aSub, ↓aMul, ↓aDiv, ↓aMod, ↓aPow, true_and, and_true]
  refine ⟨⟨by omega, by omega⟩, ?_⟩
  have e0 : P.tup (rgP 0 (ms.length : Nat)) = rowP (List.range ms.length) := by
    unfold rgP rowP
    rw [Int.sub_zero]
    simp
  rw [e0]
  simp only [aEq, asP, rowP]
  refine ⟨_, _, rfl, rfl, row_dat (r := List.range ms.length), row_dat (r := List.range ms.length), ?_⟩
  rw [show P.tup ((List.range ms.length).map fun n : Nat => P.int (n : Nat)) = rowP (List.range ms.length) from rfl, eqb_row, decide_eq_true rfl]
  simp only [↓sNext, ↓sBreak, ↓sCont, ↓sDrop, ↓sRet, ↓sRetN, ↓sIf, ↓sAsg, ↓agName, ↓agNil, ↓agCons, ↓agTup, ↓sPar, ↓sFor, ↓aV, ↓lk, ↓aC, ↓aOp, ↓aUn, ↓aCall, ↓aNil, ↓aCons, ↓aIf, ↓aTest, ↓aAnd, ↓aOr, ↓aNot, ↓aAndV, ↓aOrV, ↓aNotV, ↓aI, ↓aI0, ↓aAdd, ↓aNeg, ↓aIsN, ↓isNone, ↓aTup, ↓purs, ↓aLst, ↓aLstO, ↓aIx, ↓gi0, ↓gi1, ↓gi2, ↓giN, ↓a1, ↓aLen, ↓aAbs, ↓aInt, ↓aStr, ↓aIsi, ↓btOf, ↓BT.isB, ↓aYes, ↓aiSeq, wipeL, ↓startL, List.map, List.set, List.replicate, List.length, List.append, List.cons_append, List.nil_append, ↓aMt, ↓isLs, ↓aLc, ↓aLcO, Bool.false_bne, Bool.true_bne, Bool.xor_false, Bool.false_xor, Bool.true_xor, Bool.not_true, Bool.not_false, decide_eq_true_eq, if_true, if_false, ite_true, ite_false, reduceIte, Bool.false_eq_true, List.getElem?_cons_zero, List.getElem?_cons_succ, ↓aLt, ↓aLe, ↓aGt, ↓aGe, ↓aSub, ↓aMul, ↓aDiv, ↓aMod, ↓aPow, true_and, and_true]
  refine sq ?_
  simp only [↓sNext, ↓sBreak, ↓sCont, ↓sDrop, ↓sRet, ↓sRetN, ↓sIf, ↓sAsg, ↓agName, ↓agNil, ↓agCons, ↓agTup, ↓sPar, ↓sFor, ↓aV, ↓lk, ↓aC, ↓aOp, ↓aUn, ↓aCall, ↓aNil, ↓aCons, ↓aIf, ↓aTest, ↓aAnd, ↓aOr, ↓aNot, ↓aAndV, ↓aOrV, ↓aNotV, ↓aI, ↓aI0, ↓aAdd, ↓aNeg, ↓aIsN, ↓isNone, ↓aTup, ↓purs, ↓aLst, ↓aLstO, ↓aIx, ↓gi0, ↓gi1, ↓gi2, ↓giN, ↓a1, ↓aLen, ↓aAbs, ↓aInt, ↓aStr, ↓aIsi, ↓btOf, ↓BT.isB, ↓aYes, ↓aiSeq, wipeL, ↓startL, List.map, List.set, List.replicate, List.length, List.append, List.cons_append, List.nil_append, ↓aMt, ↓isLs, ↓aLc, ↓aLcO, Bool.false_bne, Bool.true_bne, Bool.xor_false, Bool.false_xor, Bool.true_xor, Bool.not_true, Bool.not_false, decide_eq_true_eq, if_true, if_false, ite_true, ite_false, reduceIte, Bool.false_eq_true, List.getElem?_cons_zero, List.getElem?_cons_succ, ↓aLt, ↓aLe, ↓aGt, ↓aGe, ↓aSub, ↓aMul, ↓aDiv, ↓aMod, ↓aPow, true_and, and_true, aEq]
  by_cases n1 : n = 1
  · subst n1
    rw [show (((1 : Nat) : Int) == 1) = true from rfl]
    have h0 : 0 < l.m := Jm.serves_one.mp hs
    have e1 := spare_one h0
    rw [hms] at e1
    simp only [↓sNext, ↓sBreak, ↓sCont, ↓sDrop, ↓sRet, ↓sRetN, ↓sIf, ↓sAsg, ↓agName, ↓agNil, ↓agCons, ↓agTup, ↓sPar, ↓sFor, ↓aV, ↓lk, ↓aC, ↓aOp, ↓aUn, ↓aCall, ↓aNil, ↓aCons, ↓aIf, ↓aTest, ↓aAnd, ↓aOr, ↓aNot, ↓aAndV, ↓aOrV, ↓aNotV, ↓aI, ↓aI0, ↓aAdd, ↓aNeg, ↓aIsN, ↓isNone, ↓aTup, ↓purs, ↓aLst, ↓aLstO, ↓aIx, ↓gi0, ↓gi1, ↓gi2, ↓giN, ↓a1, ↓aLen, ↓aAbs, ↓aInt, ↓aStr, ↓aIsi, ↓btOf, ↓BT.isB, ↓aYes, ↓aiSeq, wipeL, ↓startL, List.map, List.set, List.replicate, List.length, List.append, List.cons_append, List.nil_append, ↓aMt, ↓isLs, ↓aLc, ↓aLcO, Bool.false_bne, Bool.true_bne, Bool.xor_false, Bool.false_xor, Bool.true_xor, Bool.not_true, Bool.not_false, decide_eq_true_eq, if_true, if_false, ite_true, ite_false, reduceIte, Bool.false_eq_true, List.getElem?_cons_zero, List.getElem?_cons_succ, ↓aLt, ↓aLe, ↓aGt, ↓aGe, ↓aSub, ↓aMul, ↓aDiv, ↓aMod, ↓aPow, true_and, and_true, e1, rowP]
    refine ⟨_, _, rfl, rfl, row_dat (r := [0]), row_dat (r := [0]), ?_⟩
    refine .inl ?_
    rw [show P.eqb (P.tup [P.int ((0 : Nat) : Int)]) (P.tup [P.int 0]) = true from (eqb_row [0] [0]).trans (by decide)]
    exact h
  rw [show (((n : Nat) : Int) == 1) = false by simp; omega]
  simp only [↓sNext, ↓sBreak, ↓sCont, ↓sDrop, ↓sRet, ↓sRetN, ↓sIf, ↓sAsg, ↓agName, ↓agNil, ↓agCons, ↓agTup, ↓sPar, ↓sFor, ↓aV, ↓lk, ↓aC, ↓aOp, ↓aUn, ↓aCall, ↓aNil, ↓aCons, ↓aIf, ↓aTest, ↓aAnd, ↓aOr, ↓aNot, ↓aAndV, ↓aOrV, ↓aNotV, ↓aI, ↓aI0, ↓aAdd, ↓aNeg, ↓aIsN, ↓isNone, ↓aTup, ↓purs, ↓aLst, ↓aLstO, ↓aIx, ↓gi0, ↓gi1, ↓gi2, ↓giN, ↓a1, ↓aLen, ↓aAbs, ↓aInt, ↓aStr, ↓aIsi, ↓btOf, ↓BT.isB, ↓aYes, ↓aiSeq, wipeL, ↓startL, List.map, List.set, List.replicate, List.length, List.append, List.cons_append, List.nil_append, ↓aMt, ↓isLs, ↓aLc, ↓aLcO, Bool.false_bne, Bool.true_bne, Bool.xor_false, Bool.false_xor, Bool.true_xor, Bool.not_true, Bool.not_false, decide_eq_true_eq, if_true, if_false, ite_true, ite_false, reduceIte, Bool.false_eq_true, List.getElem?_cons_zero, List.getElem?_cons_succ, ↓aLt, ↓aLe, ↓aGt, ↓aGe, ↓aSub, ↓aMul, ↓aDiv, ↓aMod, ↓aPow, true_and, and_true]
  refine sq ?_
  simp only [↓sNext, ↓sBreak, ↓sCont, ↓sDrop, ↓sRet, ↓sRetN, ↓sIf, ↓sAsg, ↓agName, ↓agNil, ↓agCons, ↓agTup, ↓sPar, ↓sFor, ↓aV, ↓lk, ↓aC, ↓aOp, ↓aUn, ↓aCall, ↓aNil, ↓aCons, ↓aIf, ↓aTest, ↓aAnd, ↓aOr, ↓aNot, ↓aAndV, ↓aOrV, ↓aNotV, ↓aI, ↓aI0, ↓aAdd, ↓aNeg, ↓aIsN, ↓isNone, ↓aTup, ↓purs, ↓aLst, ↓aLstO, ↓aIx, ↓gi0, ↓gi1, ↓gi2, ↓giN, ↓a1, ↓aLen, ↓aAbs, ↓aInt, ↓aStr, ↓aIsi, ↓btOf, ↓BT.isB, ↓aYes, ↓aiSeq, wipeL, ↓startL, List.map, List.set, List.replicate, List.length, List.append, List.cons_append, List.nil_append, ↓aMt, ↓isLs, ↓aLc, ↓aLcO, Bool.false_bne, Bool.true_bne, Bool.xor_false, Bool.false_xor, Bool.true_xor, Bool.not_true, Bool.not_false, decide_eq_true_eq, if_true, if_false, ite_true, ite_false, reduceIte, Bool.false_eq_true, List.getElem?_cons_zero, List.getElem?_cons_succ, ↓aLt, ↓aLe, ↓aGt, ↓aGe, ↓aSub, ↓aMul, ↓aDiv, ↓aMod, ↓aPow, true_and, and_true]
  by_cases n2 : n = 2
  case neg =>
    rw [if_pos (by omega)]
    exact .inl h
  rw [if_neg (by omega)]
  subst n2
  obtain ⟨ry, rx, uy, ux⟩ := spare_round hl hs
  rw [hms] at ry rx uy ux
  have pnd : (partL l ms).ps.Nodup := partL_nd hnd
  have py : ((partL l ms).ps.map (·.2)).mergeSort nle = List.range ms.length := by
    refine sortN_of ((List.perm_ext_iff_of_nodup ?_ List.nodup_range).mpr fun k => ?_) ((List.pairwise_lt_range (n := ms.length)).imp fun z => Nat.le_of_lt z)
    · refine List.pairwise_map.mpr ((List.Pairwise.and_mem.mp pnd).imp fun {p q} z e => ?_)
      obtain ⟨hp, hq, hne⟩ := z
      exact hne (Prod.ext (ux p.1 q.1 p.2 hp (by rw [e]; exact hq)) e)
    · rw [List.mem_map, List.mem_range]
      constructor
      · rintro ⟨q, hq, rfl⟩
        exact (gp.low q hq).2
      · intro hk
        obtain ⟨x, hx⟩ := ry k hk
        exact ⟨_, hx, rfl⟩
  have px : ((partL l ms).ps.map (·.1)).mergeSort nle = List.range ms.length := by
    refine sortN_of ((List.perm_ext_iff_of_nodup ?_ List.nodup_range).mpr fun k => ?_) ((List.pairwise_lt_range (n := ms.length)).imp fun z => Nat.le_of_lt z)
    · refine List.pairwise_map.mpr ((List.Pairwise.and_mem.mp pnd).imp fun {p q} z e => ?_)
      obtain ⟨hp, hq, hne⟩ := z
      exact hne (Prod.ext e (uy p.1 p.2 q.2 hp (by rw [e]; exact hq)))
    · rw [List.mem_map, List.mem_range]
      constructor
      · rintro ⟨q, hq, rfl⟩
        exact (gp.low q hq).1
      · intro hk
        obtain ⟨y, hy⟩ := rx k hk
        exact ⟨_, hy, rfl⟩
  have el : P.lst (rgP 0 (ms.length : Nat)) = P.lst ((List.range ms.length).map nP) := by
    unfold rgP
    rw [Int.sub_zero]
    simp [nP]
  have dl : Dat 60 (P.lst ((List.range ms.length).map nP)) := fun x hx => by
    obtain ⟨k, _, rfl⟩ := List.mem_map.mp hx
    exact dat_int
  simp only [↓sNext, ↓sBreak, ↓sCont, ↓sDrop, ↓sRet, ↓sRetN, ↓sIf, ↓sAsg, ↓agName, ↓agNil, ↓agCons, ↓agTup, ↓sPar, ↓sFor, ↓aV, ↓lk, ↓aC, ↓aOp, ↓aUn, ↓aCall, ↓aNil, ↓aCons, ↓aIf, ↓aTest, ↓aAnd, ↓aOr, ↓aNot, ↓aAndV, ↓aOrV, ↓aNotV, ↓aI, ↓aI0, ↓aAdd, ↓aNeg, ↓aIsN, ↓isNone, ↓aTup, ↓purs, ↓aLst, ↓aLstO, ↓aIx, ↓gi0, ↓gi1, ↓gi2, ↓giN, ↓a1, ↓aLen, ↓aAbs, ↓aInt, ↓aStr, ↓aIsi, ↓btOf, ↓BT.isB, ↓aYes, ↓aiSeq, wipeL, ↓startL, List.map, List.set, List.replicate, List.length, List.append, List.cons_append, List.nil_append, ↓aMt, ↓isLs, ↓aLc, ↓aLcO, Bool.false_bne, Bool.true_bne, Bool.xor_false, Bool.false_xor, Bool.true_xor, Bool.not_true, Bool.not_false, decide_eq_true_eq, if_true, if_false, ite_true, ite_false, reduceIte, Bool.false_eq_true, List.getElem?_cons_zero, List.getElem?_cons_succ, ↓aLt, ↓aLe, ↓aGt, ↓aGe, ↓aSub, ↓aMul, ↓aDiv, ↓aMod, ↓aPow, true_and, and_true, lotP]
  refine lc_allP (partL l ms).ps prP (fun q => nP q.2) (fun q hq Q hQ => ?_) ?_
  · simp only [↓sNext, ↓sBreak, ↓sCont, ↓sDrop, ↓sRet, ↓sRetN, ↓sIf, ↓sAsg, ↓agName, ↓agNil, ↓agCons, ↓agTup, ↓sPar, ↓sFor, ↓aV, ↓lk, ↓aC, ↓aOp, ↓aUn, ↓aCall, ↓aNil, ↓aCons, ↓aIf, ↓aTest, ↓aAnd, ↓aOr, ↓aNot, ↓aAndV, ↓aOrV, ↓aNotV, ↓aI, ↓aI0, ↓aAdd, ↓aNeg, ↓aIsN, ↓isNone, ↓aTup, ↓purs, ↓aLst, ↓aLstO, ↓aIx, ↓gi0, ↓gi1, ↓gi2, ↓giN, ↓a1, ↓aLen, ↓aAbs, ↓aInt, ↓aStr, ↓aIsi, ↓btOf, ↓BT.isB, ↓aYes, ↓aiSeq, wipeL, ↓startL, List.map, List.set, List.replicate, List.length, List.append, List.cons_append, List.nil_append, ↓aMt, ↓isLs, ↓aLc, ↓aLcO, Bool.false_bne, Bool.true_bne, Bool.xor_false, Bool.false_xor, Bool.true_xor, Bool.not_true, Bool.not_false, decide_eq_true_eq, if_true, if_false, ite_true, ite_false, reduceIte, Bool.false_eq_true, List.getElem?_cons_zero, List.getElem?_cons_succ, ↓aLt, ↓aLe, ↓aGt, ↓aGe, ↓aSub, ↓aMul, ↓aDiv, ↓aMod, ↓aPow, true_and, and_true, prP]
    exact hQ
  refine ⟨_, rfl, ?_⟩
  rw [show (partL l ms).ps.map (fun q => nP q.2) = ((partL l ms).ps.map (·.2)).map nP by rw [List.map_map]; rfl]
  refine sorted_ints ?_
  rw [py]
  simp only [aLstRg, aRg1, ↓sNext, ↓sBreak, ↓sCont, ↓sDrop, ↓sRet, ↓sRetN, ↓sIf, ↓sAsg, ↓agName, ↓agNil, ↓agCons, ↓agTup, ↓sPar, ↓sFor, ↓aV, ↓lk, ↓aC, ↓aOp, ↓aUn, ↓aCall, ↓aNil, ↓aCons, ↓aIf, ↓aTest, ↓aAnd, ↓aOr, ↓aNot, ↓aAndV, ↓aOrV, ↓aNotV, ↓aI, ↓aI0, ↓aAdd, ↓aNeg, ↓aIsN, ↓isNone, ↓aTup, ↓purs, ↓aLst, ↓aLstO, ↓aIx, ↓gi0, ↓gi1, ↓gi2, ↓giN, ↓a1, ↓aLen, ↓aAbs, ↓aInt, ↓aStr, ↓aIsi, ↓btOf, ↓BT.isB, ↓aYes, ↓aiSeq, wipeL, ↓startL, List.map, List.set, List.replicate, List.length, List.append, List.cons_append, List.nil_append, ↓aMt, ↓isLs, ↓aLc, ↓aLcO, Bool.false_bne, Bool.true_bne, Bool.xor_false, Bool.false_xor, Bool.true_xor, Bool.not_true, Bool.not_false, decide_eq_true_eq, if_true, if_false, ite_true, ite_false, reduceIte, Bool.false_eq_true, List.getElem?_cons_zero, List.getElem?_cons_succ, ↓aLt, ↓aLe, ↓aGt, ↓aGe, ↓aSub, ↓aMul, ↓aDiv, ↓aMod, ↓aPow, true_and, and_true]
  refine ⟨⟨by omega, by omega⟩, ?_⟩
  rw [el]
  simp only [aEq, asP]
  refine ⟨_, _, rfl, rfl, dl, dl, ?_⟩
  rw [eqb_refl dl]
  simp only [↓sNext, ↓sBreak, ↓sCont, ↓sDrop, ↓sRet, ↓sRetN, ↓sIf, ↓sAsg, ↓agName, ↓agNil, ↓agCons, ↓agTup, ↓sPar, ↓sFor, ↓aV, ↓lk, ↓aC, ↓aOp, ↓aUn, ↓aCall, ↓aNil, ↓aCons, ↓aIf, ↓aTest, ↓aAnd, ↓aOr, ↓aNot, ↓aAndV, ↓aOrV, ↓aNotV, ↓aI, ↓aI0, ↓aAdd, ↓aNeg, ↓aIsN, ↓isNone, ↓aTup, ↓purs, ↓aLst, ↓aLstO, ↓aIx, ↓gi0, ↓gi1, ↓gi2, ↓giN, ↓a1, ↓aLen, ↓aAbs, ↓aInt, ↓aStr, ↓aIsi, ↓btOf, ↓BT.isB, ↓aYes, ↓aiSeq, wipeL, ↓startL, List.map, List.set, List.replicate, List.length, List.append, List.cons_append, List.nil_append, ↓aMt, ↓isLs, ↓aLc, ↓aLcO, Bool.false_bne, Bool.true_bne, Bool.xor_false, Bool.false_xor, Bool.true_xor, Bool.not_true, Bool.not_false, decide_eq_true_eq, if_true, if_false, ite_true, ite_false, reduceIte, Bool.false_eq_true, List.getElem?_cons_zero, List.getElem?_cons_succ, ↓aLt, ↓aLe, ↓aGt, ↓aGe, ↓aSub, ↓aMul, ↓aDiv, ↓aMod, ↓aPow, true_and, and_true]
  refine lc_allP (partL l ms).ps prP (fun q => nP q.1) (fun q hq Q hQ => ?_) ?_
  · simp only [↓sNext, ↓sBreak, ↓sCont, ↓sDrop, ↓sRet, ↓sRetN, ↓sIf, ↓sAsg, ↓agName, ↓agNil, ↓agCons, ↓agTup, ↓sPar, ↓sFor, ↓aV, ↓lk, ↓aC, ↓aOp, ↓aUn, ↓aCall, ↓aNil, ↓aCons, ↓aIf, ↓aTest, ↓aAnd, ↓aOr, ↓aNot, ↓aAndV, ↓aOrV, ↓aNotV, ↓aI, ↓aI0, ↓aAdd, ↓aNeg, ↓aIsN, ↓isNone, ↓aTup, ↓purs, ↓aLst, ↓aLstO, ↓aIx, ↓gi0, ↓gi1, ↓gi2, ↓giN, ↓a1, ↓aLen, ↓aAbs, ↓aInt, ↓aStr, ↓aIsi, ↓btOf, ↓BT.isB, ↓aYes, ↓aiSeq, wipeL, ↓startL, List.map, List.set, List.replicate, List.length, List.append, List.cons_append, List.nil_append, ↓aMt, ↓isLs, ↓aLc, ↓aLcO, Bool.false_bne, Bool.true_bne, Bool.xor_false, Bool.false_xor, Bool.true_xor, Bool.not_true, Bool.not_false, decide_eq_true_eq, if_true, if_false, ite_true, ite_false, reduceIte, Bool.false_eq_true, List.getElem?_cons_zero, List.getElem?_cons_succ, ↓aLt, ↓aLe, ↓aGt, ↓aGe, ↓aSub, ↓aMul, ↓aDiv, ↓aMod, ↓aPow, true_and, and_true, prP]
    exact hQ
  refine ⟨_, rfl, ?_⟩
  rw [show (partL l ms).ps.map (fun q => nP q.1) = ((partL l ms).ps.map (·.1)).map nP by rw [List.map_map]; rfl]
  refine sorted_ints ?_
  rw [px]
  simp only [aLstRg, aRg1, ↓sNext, ↓sBreak, ↓sCont, ↓sDrop, ↓sRet, ↓sRetN, ↓sIf, ↓sAsg, ↓agName, ↓agNil, ↓agCons, ↓agTup, ↓sPar, ↓sFor, ↓aV, ↓lk, ↓aC, ↓aOp, ↓aUn, ↓aCall, ↓aNil, ↓aCons, ↓aIf, ↓aTest, ↓aAnd, ↓aOr, ↓aNot, ↓aAndV, ↓aOrV, ↓aNotV, ↓aI, ↓aI0, ↓aAdd, ↓aNeg, ↓aIsN, ↓isNone, ↓aTup, ↓purs, ↓aLst, ↓aLstO, ↓aIx, ↓gi0, ↓gi1, ↓gi2, ↓giN, ↓a1, ↓aLen, ↓aAbs, ↓aInt, ↓aStr, ↓aIsi, ↓btOf, ↓BT.isB, ↓aYes, ↓aiSeq, wipeL, ↓startL, List.map, List.set, List.replicate, List.length, List.append, List.cons_append, List.nil_append, ↓aMt, ↓isLs, ↓aLc, ↓aLcO, Bool.false_bne, Bool.true_bne, Bool.xor_false, Bool.false_xor, Bool.true_xor, Bool.not_true, Bool.not_false, decide_eq_true_eq, if_true, if_false, ite_true, ite_false, reduceIte, Bool.false_eq_true, List.getElem?_cons_zero, List.getElem?_cons_succ, ↓aLt, ↓aLe, ↓aGt, ↓aGe, ↓aSub, ↓aMul, ↓aDiv, ↓aMod, ↓aPow, true_and, and_true]
  refine ⟨⟨by omega, by omega⟩, ?_⟩
  refine ⟨_, _, rfl, rfl, dl, dl, ?_⟩
  rw [eqb_refl dl]
  exact .inl h
end
end Lw
namespace Lw
open PySem PySem.Spec PyProof.Rows L2 Am
section
variable {Pg : Program} {w : World} {K : PySem.W.Frag} {mg : Str → Option Value} {base : Heap}
theorem ps_few {l : Lot} (hl : Good l) (nd : l.ps.Nodup) : l.ps.length ≤ 30 * l.m := by
  have h30 := hl.small
  have h1 : (l.ps.map fun q => q.1 * 30 + q.2).Nodup := by
    refine List.pairwise_map.mpr ((List.Pairwise.and_mem.mp nd).imp fun {p q} z e => ?_)
    obtain ⟨hp, hq, hne⟩ := z
    have a := hl.low _ hp
    have b := hl.low _ hq
    exact hne (Prod.ext (by omega) (by omega))
  have h2 := Jm.len_le_of_sub h1 (ys := List.range (30 * l.m)) fun u hu => by
    obtain ⟨q, hq, rfl⟩ := List.mem_map.mp hu
    have a := hl.low _ hq
    rw [List.mem_range]
    omega
  rw [List.length_map, List.length_range] at h2
  exact h2
theorem besL_nd {l1 l2 : Lot} (g1 : Good l1) (g2 : Good l2) (n1 : l1.ps.Nodup) (n2 : l2.ps.Nodup) : (besL l1 l2).ps.Nodup := by
  refine (List.mergeSort_perm _ ple).nodup_iff.mpr ?_
  unfold besF
  rw [List.nodup_append, List.nodup_append]
  refine ⟨⟨n1, List.pairwise_map.mpr (n2.imp fun {p q} z e => ?_), ?_⟩, ?_, ?_⟩
  · unfold shiftP at e
    rw [Prod.mk.injEq] at e
    exact z (Prod.ext (by omega) (by omega))
  · rintro q hq p hp rfl
    obtain ⟨r, hr, rfl⟩ := List.mem_map.mp hp
    have := (g1.low _ hq).1
    unfold shiftP at this
    simp only at this
    omega
  · refine List.pairwise_flatMap.mpr ⟨fun x _ => List.pairwise_map.mpr (List.nodup_range.imp fun {a b} z e => z (by rw [Prod.mk.injEq] at e; exact e.2)), ?_⟩
    refine (List.nodup_range (n := l2.m)).imp fun {a b} hab => ?_
    rintro q hq r hr rfl
    obtain ⟨y, _, rfl⟩ := List.mem_map.mp hq
    obtain ⟨z, _, e⟩ := List.mem_map.mp hr
    rw [Prod.mk.injEq] at e
    omega
  · rintro q hq p hp rfl
    obtain ⟨x, hx, hq2⟩ := List.mem_flatMap.mp hp
    obtain ⟨y, hy, rfl⟩ := List.mem_map.mp hq2
    have hy := List.mem_range.mp hy
    rcases List.mem_append.mp hq with h | h
    · have := (g1.low _ h).1
      simp only at this
      omega
    · obtain ⟨r, hr, e⟩ := List.mem_map.mp h
      unfold shiftP at e
      rw [Prod.mk.injEq] at e
      omega
def F_law : FT := fun as S Post => ∃ ns : List Int, as = [.p (.fz (ns.map .int))] ∧ ∀ S', Post (.p (.bl true)) S'
theorem len_law : ∀ as S Post, F_law as S Post → as.length = ["_law_script"].length := by
  rintro _ S Post ⟨_, rfl, _⟩; rfl
theorem cl_law {C_Fails : Addr} (x_Fails : Ex0 Pg w K mg base "Fails" C_Fails) (p : Pre K mg "law" st_law) (z_all : mg "all" = none) (z_len : mg "len" = none) (z_max : mg "max" = none) (z_min : mg "min" = none) (z_range : mg "range" = none) (c_reach : Cl Pg w K mg base 5 "reach" st_reach ["lot"] F_reach) (c_beside : Cl Pg w K mg base 2 "beside" st_beside ["lot", "other"] F_beside) (c_law_pot : Cl Pg w K mg base 1 "_law_pot" st_law_pot ["_law_script", "_law_k"] F_law_pot) (c_law_take : Cl Pg w K mg base 1 "_law_take" st_law_take ["_law_pot_here", "_law_size"] F_law_take) (c_law_of : Cl Pg w K mg base 2 "_law_of" st_law_of ["_law_pot_here", "_law_some"] F_law_of) (c_law_circle : Cl Pg w K mg base 1 "_law_circle" st_law_circle ["_law_size", "_law_steps"] F_law_circle) (c_law_lot : Cl Pg w K mg base 3 "_law_lot" st_law_lot ["_law_pot_here", "_law_most"] F_law_lot) (c_law_thick : Cl Pg w K mg base 2 "_law_thick" st_law_thick ["_law_pot_here"] F_law_thick) (c_law_is_refused : Cl Pg w K mg base 6 "_law_is_refused" st_law_is_refused ["_law_lot_here", "_law_n"] (F_law_is_refused C_Fails)) (c_law_spared_right : Cl Pg w K mg base 6 "_law_spared_right" st_law_spared_right ["_law_lot_here", "_law_n"] F_law_spared_right) : Cl Pg w K mg base 7 "law" st_law ["_law_script"] F_law := by
  refine p.cl (fun _ _ _ _ _ _ us hl => match us, hl with | [_], _ => rfl) fun f fd F => ?_
  refine fun_ok F sc_law len_law (fun cdv A outer s H E gd hr => have hu := hu65 hr; (jb_cons (js_for PassesOwn.never rfl (ji_range1 (by rfl) z_range (ja_cons (je_max2 (by rfl) (by rfl) z_max je_int (je_min2 (by rfl) (by rfl) z_min je_int (je_len (by rfl) z_len (je_var 0)))) ja_nil)) (jg_name 1 sc_law.nd) (jb_cons (js_set 2 sc_law.nd (je_own c_law_pot gd hr (ja_cons (je_var 0) (ja_cons (je_var 1) ja_nil))))
    (jb_one (js_for PassesOwn.never rfl (ji_range1 (by rfl) z_range (ja_cons je_int ja_nil)) (jg_name 3 sc_law.nd) (jb_cons (js_set 4 sc_law.nd (je_own c_law_of gd hr (ja_cons (je_var 2) (ja_cons (je_lst (ja_cons (je_own c_law_thick gd hr (ja_cons (je_var 2) ja_nil)) (ja_cons (je_own c_law_thick gd hr (ja_cons (je_var 2) ja_nil)) (ja_cons (je_own c_law_lot gd hr (ja_cons (je_var 2) (ja_cons je_int ja_nil))) ja_nil)))) ja_nil))))
    (jb_cons (js_if (jt_eq hr (je_own c_law_take gd hr (ja_cons (je_var 2) (ja_cons je_int ja_nil))) je_int) (jb_one (js_set 4 sc_law.nd (je_own c_beside gd hr (ja_cons (je_var 4) (ja_cons (je_own c_law_circle gd hr (ja_cons je_int (ja_cons (je_lst (ja_cons je_int ja_nil)) ja_nil))) ja_nil))))) jb_nil)
    (jb_cons (js_set 5 sc_law.nd (je_own c_reach gd hr (ja_cons (je_var 4) ja_nil)))
    (jb_one (js_if (JW.jt (jw_or (jt_not (jt_val (je_all (by rfl) (by rfl) z_all (je_lc rfl sc_law.nd (ji_range2 (by rfl) z_range (ja_cons je_int (ja_cons (je_add (je_var 5) je_int) ja_nil))) (blkOk_by (N := ns_law) (sc := defScope st_law) (own := [("_law_n", 6)]) (by decide +kernel)) (fun _ _ _ _ _ => (jgo_name 6 sc_law.nd)) (fun _ _ _ _ _ => jts_nil) (fun _ _ _ _ _ => (je_own c_law_spared_right gd hr (ja_cons (je_var 4) (ja_cons (je_var 6) ja_nil)))))))) (jw_or1 (jt_not (jt_val (je_own c_law_is_refused gd hr (ja_cons (je_var 4) (ja_cons (je_add (je_var 5) je_int) ja_nil)))))))) (jb_one (js_ret je_bl)) jb_nil)))))))))
    (jb_one (js_ret je_bl)))) ?_
  rintro as S Post hB ⟨ns, rfl, h⟩
  refine sq ?_
  simp only [↓sNext, ↓sBreak, ↓sCont, ↓sDrop, ↓sRet, ↓sRetN, ↓sIf, ↓sAsg, ↓agName, ↓agNil, ↓agCons, ↓agTup, ↓sPar, ↓sFor, ↓aV, ↓lk, ↓aC, ↓aOp, ↓aUn, ↓aCall, ↓aNil, ↓aCons, ↓aIf, ↓aTest, ↓aAnd, ↓aOr, ↓aNot, ↓aAndV, ↓aOrV, ↓aNotV, ↓aI, ↓aI0, ↓aAdd, ↓aNeg, ↓aIsN, ↓isNone, ↓aTup, ↓purs, ↓aLst, ↓aLstO, ↓aIx, ↓gi0, ↓gi1, ↓gi2, ↓giN, ↓a1, ↓aLen, ↓aAbs, ↓aInt, ↓aStr, ↓aIsi, ↓btOf, ↓BT.isB, ↓aYes, ↓aiSeq, wipeL, ↓startL, List.map, List.set, List.replicate, List.length, List.append, List.cons_append, List.nil_append, ↓aMt, ↓isLs, ↓aLc, ↓aLcO, Bool.false_bne, Bool.true_bne, Bool.xor_false, Bool.false_xor, Bool.true_xor, Bool.not_true, Bool.not_false, decide_eq_true_eq, if_true, if_false, ite_true, ite_false, reduceIte, Bool.false_eq_true, List.getElem?_cons_zero, List.getElem?_cons_succ, ↓aLt, ↓aLe, ↓aGt, ↓aGe, ↓aSub, ↓aMul, ↓aDiv, ↓aMod, ↓aPow, true_and, and_true, aiRng1, a2i]
  refine ⟨?_, ?_, ?_⟩
  · split <;> split <;> omega
  · split <;> split <;> omega
  generalize hT : (if (if ((ns.map P.int).length : Int) < 2 then ((ns.map P.int).length : Int) else 2) > 1 then (if ((ns.map P.int).length : Int) < 2 then ((ns.map P.int).length : Int) else 2) else 1).toNat = T
  have hT2 : T ≤ 2 := by
    rw [← hT]
    split <;> split <;> omega
  refine for_go (fun i L S' => ∃ b1 b2 b3 b4 b5 b6, L = [some (.p (.fz (ns.map .int))), b1, b2, b3, b4, b5, b6]) (fun _ _ _ _ => trivial) (fun i x L S1 N hx hI hN => ?_) (fun L S' hI => ?_) ⟨_, _, _, _, _, _, rfl⟩
  case refine_2 =>
    obtain ⟨b1, b2, b3, b4, b5, b6, rfl⟩ := hI
    simp only [↓sNext, ↓sBreak, ↓sCont, ↓sDrop, ↓sRet, ↓sRetN, ↓sIf, ↓sAsg, ↓agName, ↓agNil, ↓agCons, ↓agTup, ↓sPar, ↓sFor, ↓aV, ↓lk, ↓aC, ↓aOp, ↓aUn, ↓aCall, ↓aNil, ↓aCons, ↓aIf, ↓aTest, ↓aAnd, ↓aOr, ↓aNot, ↓aAndV, ↓aOrV, ↓aNotV, ↓aI, ↓aI0, ↓aAdd, ↓aNeg, ↓aIsN, ↓isNone, ↓aTup, ↓purs, ↓aLst, ↓aLstO, ↓aIx, ↓gi0, ↓gi1, ↓gi2, ↓giN, ↓a1, ↓aLen, ↓aAbs, ↓aInt, ↓aStr, ↓aIsi, ↓btOf, ↓BT.isB, ↓aYes, ↓aiSeq, wipeL, ↓startL, List.map, List.set, List.replicate, List.length, List.append, List.cons_append, List.nil_append, ↓aMt, ↓isLs, ↓aLc, ↓aLcO, Bool.false_bne, Bool.true_bne, Bool.xor_false, Bool.false_xor, Bool.true_xor, Bool.not_true, Bool.not_false, decide_eq_true_eq, if_true, if_false, ite_true, ite_false, reduceIte, Bool.false_eq_true, List.getElem?_cons_zero, List.getElem?_cons_succ, ↓aLt, ↓aLe, ↓aGt, ↓aGe, ↓aSub, ↓aMul, ↓aDiv, ↓aMod, ↓aPow, true_and, and_true]
    exact .inl (h _)
  obtain ⟨b1, b2, b3, b4, b5, b6, rfl⟩ := hI
  obtain ⟨rfl, hi⟩ := rng_at hx
  simp only [↓sNext, ↓sBreak, ↓sCont, ↓sDrop, ↓sRet, ↓sRetN, ↓sIf, ↓sAsg, ↓agName, ↓agNil, ↓agCons, ↓agTup, ↓sPar, ↓sFor, ↓aV, ↓lk, ↓aC, ↓aOp, ↓aUn, ↓aCall, ↓aNil, ↓aCons, ↓aIf, ↓aTest, ↓aAnd, ↓aOr, ↓aNot, ↓aAndV, ↓aOrV, ↓aNotV, ↓aI, ↓aI0, ↓aAdd, ↓aNeg, ↓aIsN, ↓isNone, ↓aTup, ↓purs, ↓aLst, ↓aLstO, ↓aIx, ↓gi0, ↓gi1, ↓gi2, ↓giN, ↓a1, ↓aLen, ↓aAbs, ↓aInt, ↓aStr, ↓aIsi, ↓btOf, ↓BT.isB, ↓aYes, ↓aiSeq, wipeL, ↓startL, List.map, List.set, List.replicate, List.length, List.append, List.cons_append, List.nil_append, ↓aMt, ↓isLs, ↓aLc, ↓aLcO, Bool.false_bne, Bool.true_bne, Bool.xor_false, Bool.false_xor, Bool.true_xor, Bool.not_true, Bool.not_false, decide_eq_true_eq, if_true, if_false, ite_true, ite_false, reduceIte, Bool.false_eq_true, List.getElem?_cons_zero, List.getElem?_cons_succ, ↓aLt, ↓aLe, ↓aGt, ↓aGe, ↓aSub, ↓aMul, ↓aDiv, ↓aMod, ↓aPow, true_and, and_true]
  refine sq ?_
  simp only [↓sNext, ↓sBreak, ↓sCont, ↓sDrop, ↓sRet, ↓sRetN, ↓sIf, ↓sAsg, ↓agName, ↓agNil, ↓agCons, ↓agTup, ↓sPar, ↓sFor, ↓aV, ↓lk, ↓aC, ↓aOp, ↓aUn, ↓aCall, ↓aNil, ↓aCons, ↓aIf, ↓aTest, ↓aAnd, ↓aOr, ↓aNot, ↓aAndV, ↓aOrV, ↓aNotV, ↓aI, ↓aI0, ↓aAdd, ↓aNeg, ↓aIsN, ↓isNone, ↓aTup, ↓purs, ↓aLst, ↓aLstO, ↓aIx, ↓gi0, ↓gi1, ↓gi2, ↓giN, ↓a1, ↓aLen, ↓aAbs, ↓aInt, ↓aStr, ↓aIsi, ↓btOf, ↓BT.isB, ↓aYes, ↓aiSeq, wipeL, ↓startL, List.map, List.set, List.replicate, List.length, List.append, List.cons_append, List.nil_append, ↓aMt, ↓isLs, ↓aLc, ↓aLcO, Bool.false_bne, Bool.true_bne, Bool.xor_false, Bool.false_xor, Bool.true_xor, Bool.not_true, Bool.not_false, decide_eq_true_eq, if_true, if_false, ite_true, ite_false, reduceIte, Bool.false_eq_true, List.getElem?_cons_zero, List.getElem?_cons_succ, ↓aLt, ↓aLe, ↓aGt, ↓aGe, ↓aSub, ↓aMul, ↓aDiv, ↓aMod, ↓aPow, true_and, and_true]
  refine ⟨ns, i, rfl, by omega, fun o hp => ?_⟩
  simp only [↓sNext, ↓sBreak, ↓sCont, ↓sDrop, ↓sRet, ↓sRetN, ↓sIf, ↓sAsg, ↓agName, ↓agNil, ↓agCons, ↓agTup, ↓sPar, ↓sFor, ↓aV, ↓lk, ↓aC, ↓aOp, ↓aUn, ↓aCall, ↓aNil, ↓aCons, ↓aIf, ↓aTest, ↓aAnd, ↓aOr, ↓aNot, ↓aAndV, ↓aOrV, ↓aNotV, ↓aI, ↓aI0, ↓aAdd, ↓aNeg, ↓aIsN, ↓isNone, ↓aTup, ↓purs, ↓aLst, ↓aLstO, ↓aIx, ↓gi0, ↓gi1, ↓gi2, ↓giN, ↓a1, ↓aLen, ↓aAbs, ↓aInt, ↓aStr, ↓aIsi, ↓btOf, ↓BT.isB, ↓aYes, ↓aiSeq, wipeL, ↓startL, List.map, List.set, List.replicate, List.length, List.append, List.cons_append, List.nil_append, ↓aMt, ↓isLs, ↓aLc, ↓aLcO, Bool.false_bne, Bool.true_bne, Bool.xor_false, Bool.false_xor, Bool.true_xor, Bool.not_true, Bool.not_false, decide_eq_true_eq, if_true, if_false, ite_true, ite_false, reduceIte, Bool.false_eq_true, List.getElem?_cons_zero, List.getElem?_cons_succ, ↓aLt, ↓aLe, ↓aGt, ↓aGe, ↓aSub, ↓aMul, ↓aDiv, ↓aMod, ↓aPow, true_and, and_true, aiRng1]
  refine ⟨by decide, by decide, ?_⟩
  generalize hpp : S1.length = p
  refine for_go (fun j L S' => ∃ b1 b2 b4 b5 b6, L = [some (.p (.fz (ns.map .int))), b1, some (.own p), b2, b4, b5, b6] ∧ ∃ o, S'[p]? = some o ∧ PotO o (4000 * j)) (fun _ _ _ _ => trivial) (fun j x L B N2 hx2 hI2 hN2 => ?_) (fun L S' hI2 => ?_) ⟨_, _, _, _, _, rfl, o, by rw [← hpp]; exact getE _ _, hp⟩
  case refine_2 =>
    obtain ⟨b1, b2, b4, b5, b6, rfl, _⟩ := hI2
    exact hN _ _ ⟨_, _, _, _, _, _, rfl⟩
  obtain ⟨rfl, hj⟩ := rng_at hx2
  have hj : j < 3 := hj
  obtain ⟨b1, b2, b4, b5, b6, rfl, o, hS, hp⟩ := hI2
  have hpl : p < B.length := (List.getElem?_eq_some_iff.mp hS).1
  have at_ : ∀ o, (B.set p o)[p]? = some o := fun o => List.getElem?_set_self hpl
  simp only [↓sNext, ↓sBreak, ↓sCont, ↓sDrop, ↓sRet, ↓sRetN, ↓sIf, ↓sAsg, ↓agName, ↓agNil, ↓agCons, ↓agTup, ↓sPar, ↓sFor, ↓aV, ↓lk, ↓aC, ↓aOp, ↓aUn, ↓aCall, ↓aNil, ↓aCons, ↓aIf, ↓aTest, ↓aAnd, ↓aOr, ↓aNot, ↓aAndV, ↓aOrV, ↓aNotV, ↓aI, ↓aI0, ↓aAdd, ↓aNeg, ↓aIsN, ↓isNone, ↓aTup, ↓purs, ↓aLst, ↓aLstO, ↓aIx, ↓gi0, ↓gi1, ↓gi2, ↓giN, ↓a1, ↓aLen, ↓aAbs, ↓aInt, ↓aStr, ↓aIsi, ↓btOf, ↓BT.isB, ↓aYes, ↓aiSeq, wipeL, ↓startL, List.map, List.set, List.replicate, List.length, List.append, List.cons_append, List.nil_append, ↓aMt, ↓isLs, ↓aLc, ↓aLcO, Bool.false_bne, Bool.true_bne, Bool.xor_false, Bool.false_xor, Bool.true_xor, Bool.not_true, Bool.not_false, decide_eq_true_eq, if_true, if_false, ite_true, ite_false, reduceIte, Bool.false_eq_true, List.getElem?_cons_zero, List.getElem?_cons_succ, ↓aLt, ↓aLe, ↓aGt, ↓aGe, ↓aSub, ↓aMul, ↓aDiv, ↓aMod, ↓aPow, true_and, and_true]
  refine sq ?_
  simp only [↓sNext, ↓sBreak, ↓sCont, ↓sDrop, ↓sRet, ↓sRetN, ↓sIf, ↓sAsg, ↓agName, ↓agNil, ↓agCons, ↓agTup, ↓sPar, ↓sFor, ↓aV, ↓lk, ↓aC, ↓aOp, ↓aUn, ↓aCall, ↓aNil, ↓aCons, ↓aIf, ↓aTest, ↓aAnd, ↓aOr, ↓aNot, ↓aAndV, ↓aOrV, ↓aNotV, ↓aI, ↓aI0, ↓aAdd, ↓aNeg, ↓aIsN, ↓isNone, ↓aTup, ↓purs, ↓aLst, ↓aLstO, ↓aIx, ↓gi0, ↓gi1, ↓gi2, ↓giN, ↓a1, ↓aLen, ↓aAbs, ↓aInt, ↓aStr, ↓aIsi, ↓btOf, ↓BT.isB, ↓aYes, ↓aiSeq, wipeL, ↓startL, List.map, List.set, List.replicate, List.length, List.append, List.cons_append, List.nil_append, ↓aMt, ↓isLs, ↓aLc, ↓aLcO, Bool.false_bne, Bool.true_bne, Bool.xor_false, Bool.false_xor, Bool.true_xor, Bool.not_true, Bool.not_false, decide_eq_true_eq, if_true, if_false, ite_true, ite_false, reduceIte, Bool.false_eq_true, List.getElem?_cons_zero, List.getElem?_cons_succ, ↓aLt, ↓aLe, ↓aGt, ↓aGe, ↓aSub, ↓aMul, ↓aDiv, ↓aMod, ↓aPow, true_and, and_true]
  refine ⟨p, 4000 * j, o, rfl, hS, hp, by omega, fun l1 o1 g1 m1 u1 hp1 => ?_⟩
  refine ⟨p, 4000 * j + 1000, o1, rfl, at_ _, hp1, by omega, fun l2 o2 g2 m2 u2 hp2 => ?_⟩
  refine ⟨p, 9, 4000 * j + 1000 + 1000, o2, rfl, by rw [List.set_set]; exact at_ _, hp2, by omega, by omega, fun l3 o3 g3 m3 u3 hp3 => ?_⟩
  refine ⟨p, [lotP l1, lotP l2, lotP l3], 4000 * j + 1000 + 1000 + 1100, o3, .inl rfl, by rw [List.set_set, List.set_set]; exact at_ _, hp3, by omega, by simp, by simp, fun x o4 hx hp4 => ?_⟩
  obtain ⟨l, rfl, gl, ml, ul⟩ : ∃ l : Lot, x = lotP l ∧ Good l ∧ l.m ≤ 9 ∧ l.ps.Pairwise ltA := by
    simp only [List.mem_cons, List.not_mem_nil, or_false] at hx
    rcases hx with rfl | rfl | rfl
    · exact ⟨l1, rfl, g1, m1, u1⟩
    · exact ⟨l2, rfl, g2, m2, u2⟩
    · exact ⟨l3, rfl, g3, m3, u3⟩
  have nl := rise_nodup ul
  have few := ps_few gl nl
  simp only [↓sNext, ↓sBreak, ↓sCont, ↓sDrop, ↓sRet, ↓sRetN, ↓sIf, ↓sAsg, ↓agName, ↓agNil, ↓agCons, ↓agTup, ↓sPar, ↓sFor, ↓aV, ↓lk, ↓aC, ↓aOp, ↓aUn, ↓aCall, ↓aNil, ↓aCons, ↓aIf, ↓aTest, ↓aAnd, ↓aOr, ↓aNot, ↓aAndV, ↓aOrV, ↓aNotV, ↓aI, ↓aI0, ↓aAdd, ↓aNeg, ↓aIsN, ↓isNone, ↓aTup, ↓purs, ↓aLst, ↓aLstO, ↓aIx, ↓gi0, ↓gi1, ↓gi2, ↓giN, ↓a1, ↓aLen, ↓aAbs, ↓aInt, ↓aStr, ↓aIsi, ↓btOf, ↓BT.isB, ↓aYes, ↓aiSeq, wipeL, ↓startL, List.map, List.set, List.replicate, List.length, List.append, List.cons_append, List.nil_append, ↓aMt, ↓isLs, ↓aLc, ↓aLcO, Bool.false_bne, Bool.true_bne, Bool.xor_false, Bool.false_xor, Bool.true_xor, Bool.not_true, Bool.not_false, decide_eq_true_eq, if_true, if_false, ite_true, ite_false, reduceIte, Bool.false_eq_true, List.getElem?_cons_zero, List.getElem?_cons_succ, ↓aLt, ↓aLe, ↓aGt, ↓aGe, ↓aSub, ↓aMul, ↓aDiv, ↓aMod, ↓aPow, true_and, and_true, List.set_set]
  refine sq ?_
  simp only [↓sNext, ↓sBreak, ↓sCont, ↓sDrop, ↓sRet, ↓sRetN, ↓sIf, ↓sAsg, ↓agName, ↓agNil, ↓agCons, ↓agTup, ↓sPar, ↓sFor, ↓aV, ↓lk, ↓aC, ↓aOp, ↓aUn, ↓aCall, ↓aNil, ↓aCons, ↓aIf, ↓aTest, ↓aAnd, ↓aOr, ↓aNot, ↓aAndV, ↓aOrV, ↓aNotV, ↓aI, ↓aI0, ↓aAdd, ↓aNeg, ↓aIsN, ↓isNone, ↓aTup, ↓purs, ↓aLst, ↓aLstO, ↓aIx, ↓gi0, ↓gi1, ↓gi2, ↓giN, ↓a1, ↓aLen, ↓aAbs, ↓aInt, ↓aStr, ↓aIsi, ↓btOf, ↓BT.isB, ↓aYes, ↓aiSeq, wipeL, ↓startL, List.map, List.set, List.replicate, List.length, List.append, List.cons_append, List.nil_append, ↓aMt, ↓isLs, ↓aLc, ↓aLcO, Bool.false_bne, Bool.true_bne, Bool.xor_false, Bool.false_xor, Bool.true_xor, Bool.not_true, Bool.not_false, decide_eq_true_eq, if_true, if_false, ite_true, ite_false, reduceIte, Bool.false_eq_true, List.getElem?_cons_zero, List.getElem?_cons_succ, ↓aLt, ↓aLe, ↓aGt, ↓aGe, ↓aSub, ↓aMul, ↓aDiv, ↓aMod, ↓aPow, true_and, and_true]
  refine ⟨p, 3, 4000 * j + 1000 + 1000 + 1100 + 1, o4, rfl, at_ _, hp4, by omega, by omega, by omega, fun v o5 hv hp5 => ?_⟩
  have key : ∀ l : Lot, Good l → l.m ≤ 12 → l.ps.Nodup → sSeq (sAsg (aCall F_reach (aCons (aV 4) aNil)) (agName 5))
      (sIf (aOr (aNot (aTest (aCall (a1 aAll) (aCons (aLc (aiRng2 (aCons (aC (P.int 1)) (aCons (aOp aAdd (aV 5) (aC (P.int 1))) aNil))) (agName 6) aYes (aCall F_law_spared_right (aCons (aV 4) (aCons (aV 6) aNil))) [6]) aNil))))
          (aNot (aTest (aCall (F_law_is_refused C_Fails) (aCons (aV 4) (aCons (aOp aAdd (aV 5) (aC (P.int 1))) aNil)))))) (sRet (aC (P.bl false))) sNext)
      { nx := N2, rt := Cut S.length Post, bk := N, ct := N2 } [some (.p (.fz (ns.map P.int))), b1, some (.own p), some (.p (.int (j : Nat))), some (.p (lotP l)), b5, b6] (B.set p o5) := by
    intro l gl ml nl
    refine sq ?_
    simp only [↓sNext, ↓sBreak, ↓sCont, ↓sDrop, ↓sRet, ↓sRetN, ↓sIf, ↓sAsg, ↓agName, ↓agNil, ↓agCons, ↓agTup, ↓sPar, ↓sFor, ↓aV, ↓lk, ↓aC, ↓aOp, ↓aUn, ↓aCall, ↓aNil, ↓aCons, ↓aIf, ↓aTest, ↓aAnd, ↓aOr, ↓aNot, ↓aAndV, ↓aOrV, ↓aNotV, ↓aI, ↓aI0, ↓aAdd, ↓aNeg, ↓aIsN, ↓isNone, ↓aTup, ↓purs, ↓aLst, ↓aLstO, ↓aIx, ↓gi0, ↓gi1, ↓gi2, ↓giN, ↓a1, ↓aLen, ↓aAbs, ↓aInt, ↓aStr, ↓aIsi, ↓btOf, ↓BT.isB, ↓aYes, ↓aiSeq, wipeL, ↓startL, List.map, List.set, List.replicate, List.length, List.append, List.cons_append, List.nil_append, ↓aMt, ↓isLs, ↓aLc, ↓aLcO, Bool.false_bne, Bool.true_bne, Bool.xor_false, Bool.false_xor, Bool.true_xor, Bool.not_true, Bool.not_false, decide_eq_true_eq, if_true, if_false, ite_true, ite_false, reduceIte, Bool.false_eq_true, List.getElem?_cons_zero, List.getElem?_cons_succ, ↓aLt, ↓aLe, ↓aGt, ↓aGe, ↓aSub, ↓aMul, ↓aDiv, ↓aMod, ↓aPow, true_and, and_true]
    refine ⟨l, rfl, gl, ?_⟩
    have far3 : Jm.reach l.m l.ps ≤ 3 := by
      refine Classical.byContradiction fun q => ?_
      have s4 := (Jm.reach_iff (m := l.m) (ps := l.ps) (n := 4) (by decide) (by decide)).mp (by omega)
      have := Jm.serves_many gl.irr gl.asym s4 (by decide)
      omega
    generalize hf : Jm.reach l.m l.ps = far
    have up : ∀ n, 1 ≤ n → n ≤ far → Jm.Serves l.m l.ps n := fun n h1 h2 => (Jm.reach_iff h1 (by omega)).mp (by omega)
    have no : ¬ Jm.Serves l.m l.ps (far + 1) := fun q => by
      have := (Jm.reach_iff (m := l.m) (ps := l.ps) (n := far + 1) (by omega) (by omega)).mpr q
      omega
    simp only [↓sNext, ↓sBreak, ↓sCont, ↓sDrop, ↓sRet, ↓sRetN, ↓sIf, ↓sAsg, ↓agName, ↓agNil, ↓agCons, ↓agTup, ↓sPar, ↓sFor, ↓aV, ↓lk, ↓aC, ↓aOp, ↓aUn, ↓aCall, ↓aNil, ↓aCons, ↓aIf, ↓aTest, ↓aAnd, ↓aOr, ↓aNot, ↓aAndV, ↓aOrV, ↓aNotV, ↓aI, ↓aI0, ↓aAdd, ↓aNeg, ↓aIsN, ↓isNone, ↓aTup, ↓purs, ↓aLst, ↓aLstO, ↓aIx, ↓gi0, ↓gi1, ↓gi2, ↓giN, ↓a1, ↓aLen, ↓aAbs, ↓aInt, ↓aStr, ↓aIsi, ↓btOf, ↓BT.isB, ↓aYes, ↓aiSeq, wipeL, ↓startL, List.map, List.set, List.replicate, List.length, List.append, List.cons_append, List.nil_append, ↓aMt, ↓isLs, ↓aLc, ↓aLcO, Bool.false_bne, Bool.true_bne, Bool.xor_false, Bool.false_xor, Bool.true_xor, Bool.not_true, Bool.not_false, decide_eq_true_eq, if_true, if_false, ite_true, ite_false, reduceIte, Bool.false_eq_true, List.getElem?_cons_zero, List.getElem?_cons_succ, ↓aLt, ↓aLe, ↓aGt, ↓aGe, ↓aSub, ↓aMul, ↓aDiv, ↓aMod, ↓aPow, true_and, and_true, aiRng2]
    refine ⟨⟨by omega, by omega, by omega, by omega, by omega⟩, ?_⟩
    rw [show (((far : Nat) : Int) + 1 - 1).toNat = far by omega]
    refine lc_all (List.range far) (fun k => .p (.int ((1 : Int) + (k : Nat)))) (fun _ => .bl true) (fun k hk Q hQ => ?_) ?_
    · have hk := List.mem_range.mp hk
      simp only [↓sNext, ↓sBreak, ↓sCont, ↓sDrop, ↓sRet, ↓sRetN, ↓sIf, ↓sAsg, ↓agName, ↓agNil, ↓agCons, ↓agTup, ↓sPar, ↓sFor, ↓aV, ↓lk, ↓aC, ↓aOp, ↓aUn, ↓aCall, ↓aNil, ↓aCons, ↓aIf, ↓aTest, ↓aAnd, ↓aOr, ↓aNot, ↓aAndV, ↓aOrV, ↓aNotV, ↓aI, ↓aI0, ↓aAdd, ↓aNeg, ↓aIsN, ↓isNone, ↓aTup, ↓purs, ↓aLst, ↓aLstO, ↓aIx, ↓gi0, ↓gi1, ↓gi2, ↓giN, ↓a1, ↓aLen, ↓aAbs, ↓aInt, ↓aStr, ↓aIsi, ↓btOf, ↓BT.isB, ↓aYes, ↓aiSeq, wipeL, ↓startL, List.map, List.set, List.replicate, List.length, List.append, List.cons_append, List.nil_append, ↓aMt, ↓isLs, ↓aLc, ↓aLcO, Bool.false_bne, Bool.true_bne, Bool.xor_false, Bool.false_xor, Bool.true_xor, Bool.not_true, Bool.not_false, decide_eq_true_eq, if_true, if_false, ite_true, ite_false, reduceIte, Bool.false_eq_true, List.getElem?_cons_zero, List.getElem?_cons_succ, ↓aLt, ↓aLe, ↓aGt, ↓aGe, ↓aSub, ↓aMul, ↓aDiv, ↓aMod, ↓aPow, true_and, and_true]
      rw [show (1 : Int) + ((k : Nat) : Int) = ((1 + k : Nat) : Int) by omega]
      exact ⟨l, 1 + k, rfl, gl, nl, by omega, by omega, up _ (by omega) (by omega), hQ⟩
    refine ⟨_, rfl, ?_⟩
    simp only [↓sNext, ↓sBreak, ↓sCont, ↓sDrop, ↓sRet, ↓sRetN, ↓sIf, ↓sAsg, ↓agName, ↓agNil, ↓agCons, ↓agTup, ↓sPar, ↓sFor, ↓aV, ↓lk, ↓aC, ↓aOp, ↓aUn, ↓aCall, ↓aNil, ↓aCons, ↓aIf, ↓aTest, ↓aAnd, ↓aOr, ↓aNot, ↓aAndV, ↓aOrV, ↓aNotV, ↓aI, ↓aI0, ↓aAdd, ↓aNeg, ↓aIsN, ↓isNone, ↓aTup, ↓purs, ↓aLst, ↓aLstO, ↓aIx, ↓gi0, ↓gi1, ↓gi2, ↓giN, ↓a1, ↓aLen, ↓aAbs, ↓aInt, ↓aStr, ↓aIsi, ↓btOf, ↓BT.isB, ↓aYes, ↓aiSeq, wipeL, ↓startL, List.map, List.set, List.replicate, List.length, List.append, List.cons_append, List.nil_append, ↓aMt, ↓isLs, ↓aLc, ↓aLcO, Bool.false_bne, Bool.true_bne, Bool.xor_false, Bool.false_xor, Bool.true_xor, Bool.not_true, Bool.not_false, decide_eq_true_eq, if_true, if_false, ite_true, ite_false, reduceIte, Bool.false_eq_true, List.getElem?_cons_zero, List.getElem?_cons_succ, ↓aLt, ↓aLe, ↓aGt, ↓aGe, ↓aSub, ↓aMul, ↓aDiv, ↓aMod, ↓aPow, true_and, and_true, aAll]
    refine ⟨(List.range far).map fun _ => true, by unfold lsAt; rw [List.map_map]; rfl, ?_⟩
    have e : ((List.range far).map fun _ => true).all id = true := by simp
    rw [e]
    simp only [↓sNext, ↓sBreak, ↓sCont, ↓sDrop, ↓sRet, ↓sRetN, ↓sIf, ↓sAsg, ↓agName, ↓agNil, ↓agCons, ↓agTup, ↓sPar, ↓sFor, ↓aV, ↓lk, ↓aC, ↓aOp, ↓aUn, ↓aCall, ↓aNil, ↓aCons, ↓aIf, ↓aTest, ↓aAnd, ↓aOr, ↓aNot, ↓aAndV, ↓aOrV, ↓aNotV, ↓aI, ↓aI0, ↓aAdd, ↓aNeg, ↓aIsN, ↓isNone, ↓aTup, ↓purs, ↓aLst, ↓aLstO, ↓aIx, ↓gi0, ↓gi1, ↓gi2, ↓giN, ↓a1, ↓aLen, ↓aAbs, ↓aInt, ↓aStr, ↓aIsi, ↓btOf, ↓BT.isB, ↓aYes, ↓aiSeq, wipeL, ↓startL, List.map, List.set, List.replicate, List.length, List.append, List.cons_append, List.nil_append, ↓aMt, ↓isLs, ↓aLc, ↓aLcO, Bool.false_bne, Bool.true_bne, Bool.xor_false, Bool.false_xor, Bool.true_xor, Bool.not_true, Bool.not_false, decide_eq_true_eq, if_true, if_false, ite_true, ite_false, reduceIte, Bool.false_eq_true, List.getElem?_cons_zero, List.getElem?_cons_succ, ↓aLt, ↓aLe, ↓aGt, ↓aGe, ↓aSub, ↓aMul, ↓aDiv, ↓aMod, ↓aPow, true_and, and_true]
    rw [show ((far : Nat) : Int) + 1 = ((far + 1 : Nat) : Int) by omega]
    refine ⟨l, far + 1, rfl, gl, by omega, by omega, no, ?_⟩
    simp only [↓sNext, ↓sBreak, ↓sCont, ↓sDrop, ↓sRet, ↓sRetN, ↓sIf, ↓sAsg, ↓agName, ↓agNil, ↓agCons, ↓agTup, ↓sPar, ↓sFor, ↓aV, ↓lk, ↓aC, ↓aOp, ↓aUn, ↓aCall, ↓aNil, ↓aCons, ↓aIf, ↓aTest, ↓aAnd, ↓aOr, ↓aNot, ↓aAndV, ↓aOrV, ↓aNotV, ↓aI, ↓aI0, ↓aAdd, ↓aNeg, ↓aIsN, ↓isNone, ↓aTup, ↓purs, ↓aLst, ↓aLstO, ↓aIx, ↓gi0, ↓gi1, ↓gi2, ↓giN, ↓a1, ↓aLen, ↓aAbs, ↓aInt, ↓aStr, ↓aIsi, ↓btOf, ↓BT.isB, ↓aYes, ↓aiSeq, wipeL, ↓startL, List.map, List.set, List.replicate, List.length, List.append, List.cons_append, List.nil_append, ↓aMt, ↓isLs, ↓aLc, ↓aLcO, Bool.false_bne, Bool.true_bne, Bool.xor_false, Bool.false_xor, Bool.true_xor, Bool.not_true, Bool.not_false, decide_eq_true_eq, if_true, if_false, ite_true, ite_false, reduceIte, Bool.false_eq_true, List.getElem?_cons_zero, List.getElem?_cons_succ, ↓aLt, ↓aLe, ↓aGt, ↓aGe, ↓aSub, ↓aMul, ↓aDiv, ↓aMod, ↓aPow, true_and, and_true]
    exact hN2 _ _ ⟨_, _, _, _, _, rfl, o5, at_ _, hp5.le (by omega)⟩
  simp only [↓sNext, ↓sBreak, ↓sCont, ↓sDrop, ↓sRet, ↓sRetN, ↓sIf, ↓sAsg, ↓agName, ↓agNil, ↓agCons, ↓agTup, ↓sPar, ↓sFor, ↓aV, ↓lk, ↓aC, ↓aOp, ↓aUn, ↓aCall, ↓aNil, ↓aCons, ↓aIf, ↓aTest, ↓aAnd, ↓aOr, ↓aNot, ↓aAndV, ↓aOrV, ↓aNotV, ↓aI, ↓aI0, ↓aAdd, ↓aNeg, ↓aIsN, ↓isNone, ↓aTup, ↓purs, ↓aLst, ↓aLstO, ↓aIx, ↓gi0, ↓gi1, ↓gi2, ↓giN, ↓a1, ↓aLen, ↓aAbs, ↓aInt, ↓aStr, ↓aIsi, ↓btOf, ↓BT.isB, ↓aYes, ↓aiSeq, wipeL, ↓startL, List.map, List.set, List.replicate, List.length, List.append, List.cons_append, List.nil_append, ↓aMt, ↓isLs, ↓aLc, ↓aLcO, Bool.false_bne, Bool.true_bne, Bool.xor_false, Bool.false_xor, Bool.true_xor, Bool.not_true, Bool.not_false, decide_eq_true_eq, if_true, if_false, ite_true, ite_false, reduceIte, Bool.false_eq_true, List.getElem?_cons_zero, List.getElem?_cons_succ, ↓aLt, ↓aLe, ↓aGt, ↓aGe, ↓aSub, ↓aMul, ↓aDiv, ↓aMod, ↓aPow, true_and, and_true, aEq, List.set_set]
  by_cases v0 : v = 0
  · subst v0
    rw [show (((0 : Nat) : Int) == 0) = true from rfl]
    refine ⟨3, [1], rfl, by decide, by decide, ?_⟩
    refine ⟨l, circ 3 [1], rfl, gl, circ3, ?_, ?_, ?_⟩
    · show l.m + 3 ≤ 24
      omega
    · have e1 : (circ 3 [1]).ps.length = 3 := by decide +kernel
      have e2 : (circ 3 [1]).m = 3 := rfl
      rw [e1, e2]
      omega
    have e1 : (circ 3 [1]).ps.length = 3 := by decide +kernel
    have e2 : (circ 3 [1]).m = 3 := rfl
    exact key (besL l (circ 3 [1])) (besL_good gl circ3 (by rw [e2]; omega) (by rw [e1, e2]; omega)) (by show l.m + 3 ≤ 12; omega) (besL_nd gl circ3 nl (rise_nodup circ3_up))
  · rw [show (((v : Nat) : Int) == 0) = false by simp; omega]
    simp only [↓sNext, ↓sBreak, ↓sCont, ↓sDrop, ↓sRet, ↓sRetN, ↓sIf, ↓sAsg, ↓agName, ↓agNil, ↓agCons, ↓agTup, ↓sPar, ↓sFor, ↓aV, ↓lk, ↓aC, ↓aOp, ↓aUn, ↓aCall, ↓aNil, ↓aCons, ↓aIf, ↓aTest, ↓aAnd, ↓aOr, ↓aNot, ↓aAndV, ↓aOrV, ↓aNotV, ↓aI, ↓aI0, ↓aAdd, ↓aNeg, ↓aIsN, ↓isNone, ↓aTup, ↓purs, ↓aLst, ↓aLstO, ↓aIx, ↓gi0, ↓gi1, ↓gi2, ↓giN, ↓a1, ↓aLen, ↓aAbs, ↓aInt, ↓aStr, ↓aIsi, ↓btOf, ↓BT.isB, ↓aYes, ↓aiSeq, wipeL, ↓startL, List.map, List.set, List.replicate, List.length, List.append, List.cons_append, List.nil_append, ↓aMt, ↓isLs, ↓aLc, ↓aLcO, Bool.false_bne, Bool.true_bne, Bool.xor_false, Bool.false_xor, Bool.true_xor, Bool.not_true, Bool.not_false, decide_eq_true_eq, if_true, if_false, ite_true, ite_false, reduceIte, Bool.false_eq_true, List.getElem?_cons_zero, List.getElem?_cons_succ, ↓aLt, ↓aLe, ↓aGt, ↓aGe, ↓aSub, ↓aMul, ↓aDiv, ↓aMod, ↓aPow, true_and, and_true]
    exact key l gl (by omega) nl
end
end Lw
namespace Lw
open PySem PySem.Spec PyProof.Rows L2 Am
theorem all_mk {l : PySem.W.OpenLaw} {w : World} {K : PySem.W.Frag} {h : Heap} {mg : Str → Option Value} {fa : Addr} (X : K.In h) (G : h.Ns mainGlobals mg) (hfa : mg "law" = some (.ref fa))
    {C_Fails : Addr} (aC_Fails : PySem.W.nsIn K mainGlobals "Fails" = some (some (.ref C_Fails)))
    (ic_Fails : PySem.W.isClsIn K C_Fails = true)
    (ex_Fails : PySem.W.subIn K (.ref C_Fails) (.type "BaseException") = some true)
    (ty_Fails : PySem.W.typeIn K (.ref C_Fails) = some (.type "type"))
    {xn1000 xq1000 : Str} {xN1000 : Addr} {xb1000 xm1000 xu1000 : List Value} {xs1000 : List Str} {xa1000 : Bool} {xc1000 : Option Bool} {xd1000 : Option Addr} {xk1000 xl1000 xo1000 xp1000 xr1000 : Option Value}
    (lC_Fails : K.lookup C_Fails = some (excClassObj xn1000 xq1000 C_Fails xN1000 xb1000 xm1000 true xs1000 xu1000 xa1000 xc1000 xd1000 xk1000 xl1000 xo1000 xp1000 xr1000 "ValueError.__new__"))
    (rv_Fails : PySem.HandSPX.refsVE xm1000 = true)
    (sa_Fails : PySem.W.findIn K (.ref C_Fails) "__setattr__" = some (some (.builtin "object.__setattr__")))
    (kc_Fails : PySem.W.keepIn K (.ref C_Fails) = true)
    {od1000 an1000 : Option Addr} {sl1000 : Array (Option Value)} {oc1000 kV1000 dc1000 pm1000 cd1000 ct1000 : Value} {f1000 : Addr}
    (iC_Fails : PySem.W.findIn K (.ref C_Fails) "__init__" = some (some (.ref f1000)))
    (tI_Fails : PySem.W.typeIn K (.ref f1000) = some (.type "function"))
    (l_Fails : K.lookup f1000 = some ⟨oc1000, od1000, .func (PySem.W.fnOf "__init__" "Fails.__init__" (defArgs st_Fails_init) (defBody st_Fails_init) (defScope st_Fails_init) .none kV1000 dc1000 pm1000 an1000 cd1000 ct1000), sl1000⟩)
    (c_Fails : PySem.W.codeIn K cd1000 "Fails.__init__" = true)
    (k_Fails : PySem.W.keepIn K (.ref f1000) = true)
    {C_MarkError : Addr} (aC_MarkError : PySem.W.nsIn K mainGlobals "MarkError" = some (some (.ref C_MarkError)))
    (ex_MarkError : PySem.W.subIn K (.ref C_MarkError) (.type "BaseException") = some true)
    (ty_MarkError : PySem.W.typeIn K (.ref C_MarkError) = some (.type "type"))
    (rd_MarkError : PySem.W.readsIn K C_MarkError (.type "type") = true)
    (ga_MarkError : PySem.W.specialIn K (.ref C_MarkError) "__getattribute__" = some (some (.builtin "type.__getattribute__")))
    (vV_MarkError : PySem.W.findCls K (.ref C_MarkError) (.type "type") "__init__" = some (.val (.builtin "ValueError.__init__")))
    (su_Fails_Fails : PySem.W.subIn K (.ref C_Fails) (.ref C_Fails) = some true)
    {od0 an0 : Option Addr} {sl0 : Array (Option Value)} {oc0 kV0 dc0 pm0 cd0 ct0 : Value} {f0 : Addr}
    (a0 : PySem.W.nsIn K mainGlobals "later_than" = some (some (.ref f0)))
    (l0 : K.lookup f0 = some ⟨oc0, od0, .func (PySem.W.fnOf "later_than" "later_than" (defArgs st_later_than) (defBody st_later_than) (defScope st_later_than) .none kV0 dc0 pm0 an0 cd0 ct0), sl0⟩)
    (c0 : PySem.W.codeIn K cd0 "later_than" = true)
    (k0 : PySem.W.keepIn K (.ref f0) = true)
    {od1 an1 : Option Addr} {sl1 : Array (Option Value)} {oc1 kV1 dc1 pm1 cd1 ct1 : Value} {f1 : Addr}
    (a1 : PySem.W.nsIn K mainGlobals "levels" = some (some (.ref f1)))
    (l1 : K.lookup f1 = some ⟨oc1, od1, .func (PySem.W.fnOf "levels" "levels" (defArgs st_levels) (defBody st_levels) (defScope st_levels) .none kV1 dc1 pm1 an1 cd1 ct1), sl1⟩)
    (c1 : PySem.W.codeIn K cd1 "levels" = true)
    (k1 : PySem.W.keepIn K (.ref f1) = true)
    {od2 an2 : Option Addr} {sl2 : Array (Option Value)} {oc2 kV2 dc2 pm2 cd2 ct2 : Value} {f2 : Addr}
    (a2 : PySem.W.nsIn K mainGlobals "parts_with" = some (some (.ref f2)))
    (l2 : K.lookup f2 = some ⟨oc2, od2, .func (PySem.W.fnOf "parts_with" "parts_with" (defArgs st_parts_with) (defBody st_parts_with) (defScope st_parts_with) .none kV2 dc2 pm2 an2 cd2 ct2), sl2⟩)
    (c2 : PySem.W.codeIn K cd2 "parts_with" = true)
    (k2 : PySem.W.keepIn K (.ref f2) = true)
    {od3 an3 : Option Addr} {sl3 : Array (Option Value)} {oc3 kV3 dc3 pm3 cd3 ct3 : Value} {f3 : Addr}
    (a3 : PySem.W.nsIn K mainGlobals "peeled" = some (some (.ref f3)))
    (l3 : K.lookup f3 = some ⟨oc3, od3, .func (PySem.W.fnOf "peeled" "peeled" (defArgs st_peeled) (defBody st_peeled) (defScope st_peeled) .none kV3 dc3 pm3 an3 cd3 ct3), sl3⟩)
    (c3 : PySem.W.codeIn K cd3 "peeled" = true)
    (k3 : PySem.W.keepIn K (.ref f3) = true)
    {od4 an4 : Option Addr} {sl4 : Array (Option Value)} {oc4 kV4 dc4 pm4 cd4 ct4 : Value} {f4 : Addr}
    (a4 : PySem.W.nsIn K mainGlobals "book" = some (some (.ref f4)))
    (l4 : K.lookup f4 = some ⟨oc4, od4, .func (PySem.W.fnOf "book" "book" (defArgs st_book) (defBody st_book) (defScope st_book) .none kV4 dc4 pm4 an4 cd4 ct4), sl4⟩)
    (c4 : PySem.W.codeIn K cd4 "book" = true)
    (k4 : PySem.W.keepIn K (.ref f4) = true)
    {od5 an5 : Option Addr} {sl5 : Array (Option Value)} {oc5 kV5 dc5 pm5 cd5 ct5 : Value} {f5 : Addr}
    (a5 : PySem.W.nsIn K mainGlobals "serves" = some (some (.ref f5)))
    (l5 : K.lookup f5 = some ⟨oc5, od5, .func (PySem.W.fnOf "serves" "serves" (defArgs st_serves) (defBody st_serves) (defScope st_serves) .none kV5 dc5 pm5 an5 cd5 ct5), sl5⟩)
    (c5 : PySem.W.codeIn K cd5 "serves" = true)
    (k5 : PySem.W.keepIn K (.ref f5) = true)
    {od6 an6 : Option Addr} {sl6 : Array (Option Value)} {oc6 kV6 dc6 pm6 cd6 ct6 : Value} {f6 : Addr}
    (a6 : PySem.W.nsIn K mainGlobals "reach" = some (some (.ref f6)))
    (l6 : K.lookup f6 = some ⟨oc6, od6, .func (PySem.W.fnOf "reach" "reach" (defArgs st_reach) (defBody st_reach) (defScope st_reach) .none kV6 dc6 pm6 an6 cd6 ct6), sl6⟩)
    (c6 : PySem.W.codeIn K cd6 "reach" = true)
    (k6 : PySem.W.keepIn K (.ref f6) = true)
    {od7 an7 : Option Addr} {sl7 : Array (Option Value)} {oc7 kV7 dc7 pm7 cd7 ct7 : Value} {f7 : Addr}
    (a7 : PySem.W.nsIn K mainGlobals "lot_of" = some (some (.ref f7)))
    (l7 : K.lookup f7 = some ⟨oc7, od7, .func (PySem.W.fnOf "lot_of" "lot_of" (defArgs st_lot_of) (defBody st_lot_of) (defScope st_lot_of) .none kV7 dc7 pm7 an7 cd7 ct7), sl7⟩)
    (c7 : PySem.W.codeIn K cd7 "lot_of" = true)
    (k7 : PySem.W.keepIn K (.ref f7) = true)
    {od8 an8 : Option Addr} {sl8 : Array (Option Value)} {oc8 kV8 dc8 pm8 cd8 ct8 : Value} {f8 : Addr}
    (a8 : PySem.W.nsIn K mainGlobals "part" = some (some (.ref f8)))
    (l8 : K.lookup f8 = some ⟨oc8, od8, .func (PySem.W.fnOf "part" "part" (defArgs st_part) (defBody st_part) (defScope st_part) .none kV8 dc8 pm8 an8 cd8 ct8), sl8⟩)
    (c8 : PySem.W.codeIn K cd8 "part" = true)
    (k8 : PySem.W.keepIn K (.ref f8) = true)
    {od9 an9 : Option Addr} {sl9 : Array (Option Value)} {oc9 kV9 dc9 pm9 cd9 ct9 : Value} {f9 : Addr}
    (a9 : PySem.W.nsIn K mainGlobals "want_few" = some (some (.ref f9)))
    (l9 : K.lookup f9 = some ⟨oc9, od9, .func (PySem.W.fnOf "want_few" "want_few" (defArgs st_want_few) (defBody st_want_few) (defScope st_want_few) .none kV9 dc9 pm9 an9 cd9 ct9), sl9⟩)
    (c9 : PySem.W.codeIn K cd9 "want_few" = true)
    (k9 : PySem.W.keepIn K (.ref f9) = true)
    {od10 an10 : Option Addr} {sl10 : Array (Option Value)} {oc10 kV10 dc10 pm10 cd10 ct10 : Value} {f10 : Addr}
    (a10 : PySem.W.nsIn K mainGlobals "beside" = some (some (.ref f10)))
    (l10 : K.lookup f10 = some ⟨oc10, od10, .func (PySem.W.fnOf "beside" "beside" (defArgs st_beside) (defBody st_beside) (defScope st_beside) .none kV10 dc10 pm10 an10 cd10 ct10), sl10⟩)
    (c10 : PySem.W.codeIn K cd10 "beside" = true)
    (k10 : PySem.W.keepIn K (.ref f10) = true)
    {od11 an11 : Option Addr} {sl11 : Array (Option Value)} {oc11 kV11 dc11 pm11 cd11 ct11 : Value} {f11 : Addr}
    (a11 : PySem.W.nsIn K mainGlobals "spare" = some (some (.ref f11)))
    (l11 : K.lookup f11 = some ⟨oc11, od11, .func (PySem.W.fnOf "spare" "spare" (defArgs st_spare) (defBody st_spare) (defScope st_spare) .none kV11 dc11 pm11 an11 cd11 ct11), sl11⟩)
    (c11 : PySem.W.codeIn K cd11 "spare" = true)
    (k11 : PySem.W.keepIn K (.ref f11) = true)
    {od12 an12 : Option Addr} {sl12 : Array (Option Value)} {oc12 kV12 dc12 pm12 cd12 ct12 : Value} {f12 : Addr}
    (a12 : PySem.W.nsIn K mainGlobals "_law_pot" = some (some (.ref f12)))
    (l12 : K.lookup f12 = some ⟨oc12, od12, .func (PySem.W.fnOf "_law_pot" "_law_pot" (defArgs st_law_pot) (defBody st_law_pot) (defScope st_law_pot) .none kV12 dc12 pm12 an12 cd12 ct12), sl12⟩)
    (c12 : PySem.W.codeIn K cd12 "_law_pot" = true)
    (k12 : PySem.W.keepIn K (.ref f12) = true)
    {od13 an13 : Option Addr} {sl13 : Array (Option Value)} {oc13 kV13 dc13 pm13 cd13 ct13 : Value} {f13 : Addr}
    (a13 : PySem.W.nsIn K mainGlobals "_law_take" = some (some (.ref f13)))
    (l13 : K.lookup f13 = some ⟨oc13, od13, .func (PySem.W.fnOf "_law_take" "_law_take" (defArgs st_law_take) (defBody st_law_take) (defScope st_law_take) .none kV13 dc13 pm13 an13 cd13 ct13), sl13⟩)
    (c13 : PySem.W.codeIn K cd13 "_law_take" = true)
    (k13 : PySem.W.keepIn K (.ref f13) = true)
    {od14 an14 : Option Addr} {sl14 : Array (Option Value)} {oc14 kV14 dc14 pm14 cd14 ct14 : Value} {f14 : Addr}
    (a14 : PySem.W.nsIn K mainGlobals "_law_of" = some (some (.ref f14)))
    (l14 : K.lookup f14 = some ⟨oc14, od14, .func (PySem.W.fnOf "_law_of" "_law_of" (defArgs st_law_of) (defBody st_law_of) (defScope st_law_of) .none kV14 dc14 pm14 an14 cd14 ct14), sl14⟩)
    (c14 : PySem.W.codeIn K cd14 "_law_of" = true)
    (k14 : PySem.W.keepIn K (.ref f14) = true)
    {od15 an15 : Option Addr} {sl15 : Array (Option Value)} {oc15 kV15 dc15 pm15 cd15 ct15 : Value} {f15 : Addr}
    (a15 : PySem.W.nsIn K mainGlobals "_law_drawn" = some (some (.ref f15)))
    (l15 : K.lookup f15 = some ⟨oc15, od15, .func (PySem.W.fnOf "_law_drawn" "_law_drawn" (defArgs st_law_drawn) (defBody st_law_drawn) (defScope st_law_drawn) .none kV15 dc15 pm15 an15 cd15 ct15), sl15⟩)
    (c15 : PySem.W.codeIn K cd15 "_law_drawn" = true)
    (k15 : PySem.W.keepIn K (.ref f15) = true)
    {od16 an16 : Option Addr} {sl16 : Array (Option Value)} {oc16 kV16 dc16 pm16 cd16 ct16 : Value} {f16 : Addr}
    (a16 : PySem.W.nsIn K mainGlobals "_law_circle" = some (some (.ref f16)))
    (l16 : K.lookup f16 = some ⟨oc16, od16, .func (PySem.W.fnOf "_law_circle" "_law_circle" (defArgs st_law_circle) (defBody st_law_circle) (defScope st_law_circle) .none kV16 dc16 pm16 an16 cd16 ct16), sl16⟩)
    (c16 : PySem.W.codeIn K cd16 "_law_circle" = true)
    (k16 : PySem.W.keepIn K (.ref f16) = true)
    {od17 an17 : Option Addr} {sl17 : Array (Option Value)} {oc17 kV17 dc17 pm17 cd17 ct17 : Value} {f17 : Addr}
    (a17 : PySem.W.nsIn K mainGlobals "_law_line" = some (some (.ref f17)))
    (l17 : K.lookup f17 = some ⟨oc17, od17, .func (PySem.W.fnOf "_law_line" "_law_line" (defArgs st_law_line) (defBody st_law_line) (defScope st_law_line) .none kV17 dc17 pm17 an17 cd17 ct17), sl17⟩)
    (c17 : PySem.W.codeIn K cd17 "_law_line" = true)
    (k17 : PySem.W.keepIn K (.ref f17) = true)
    {od18 an18 : Option Addr} {sl18 : Array (Option Value)} {oc18 kV18 dc18 pm18 cd18 ct18 : Value} {f18 : Addr}
    (a18 : PySem.W.nsIn K mainGlobals "_law_lot" = some (some (.ref f18)))
    (l18 : K.lookup f18 = some ⟨oc18, od18, .func (PySem.W.fnOf "_law_lot" "_law_lot" (defArgs st_law_lot) (defBody st_law_lot) (defScope st_law_lot) .none kV18 dc18 pm18 an18 cd18 ct18), sl18⟩)
    (c18 : PySem.W.codeIn K cd18 "_law_lot" = true)
    (k18 : PySem.W.keepIn K (.ref f18) = true)
    {od19 an19 : Option Addr} {sl19 : Array (Option Value)} {oc19 kV19 dc19 pm19 cd19 ct19 : Value} {f19 : Addr}
    (a19 : PySem.W.nsIn K mainGlobals "_law_thick" = some (some (.ref f19)))
    (l19 : K.lookup f19 = some ⟨oc19, od19, .func (PySem.W.fnOf "_law_thick" "_law_thick" (defArgs st_law_thick) (defBody st_law_thick) (defScope st_law_thick) .none kV19 dc19 pm19 an19 cd19 ct19), sl19⟩)
    (c19 : PySem.W.codeIn K cd19 "_law_thick" = true)
    (k19 : PySem.W.keepIn K (.ref f19) = true)
    {od20 an20 : Option Addr} {sl20 : Array (Option Value)} {oc20 kV20 dc20 pm20 cd20 ct20 : Value} {f20 : Addr}
    (a20 : PySem.W.nsIn K mainGlobals "_law_is_refused" = some (some (.ref f20)))
    (l20 : K.lookup f20 = some ⟨oc20, od20, .func (PySem.W.fnOf "_law_is_refused" "_law_is_refused" (defArgs st_law_is_refused) (defBody st_law_is_refused) (defScope st_law_is_refused) .none kV20 dc20 pm20 an20 cd20 ct20), sl20⟩)
    (c20 : PySem.W.codeIn K cd20 "_law_is_refused" = true)
    (k20 : PySem.W.keepIn K (.ref f20) = true)
    {od21 an21 : Option Addr} {sl21 : Array (Option Value)} {oc21 kV21 dc21 pm21 cd21 ct21 : Value} {f21 : Addr}
    (a21 : PySem.W.nsIn K mainGlobals "_law_spared_right" = some (some (.ref f21)))
    (l21 : K.lookup f21 = some ⟨oc21, od21, .func (PySem.W.fnOf "_law_spared_right" "_law_spared_right" (defArgs st_law_spared_right) (defBody st_law_spared_right) (defScope st_law_spared_right) .none kV21 dc21 pm21 an21 cd21 ct21), sl21⟩)
    (c21 : PySem.W.codeIn K cd21 "_law_spared_right" = true)
    (k21 : PySem.W.keepIn K (.ref f21) = true)
    {od22 an22 : Option Addr} {sl22 : Array (Option Value)} {oc22 kV22 dc22 pm22 cd22 ct22 : Value} {f22 : Addr}
    (a22 : PySem.W.nsIn K mainGlobals "law" = some (some (.ref f22)))
    (l22 : K.lookup f22 = some ⟨oc22, od22, .func (PySem.W.fnOf "law" "law" (defArgs st_law) (defBody st_law) (defScope st_law) .none kV22 dc22 pm22 an22 cd22 ct22), sl22⟩)
    (c22 : PySem.W.codeIn K cd22 "law" = true)
    (k22 : PySem.W.keepIn K (.ref f22) = true)
    {t_MOST_MARKS : Tok} (g_MOST_MARKS : PySem.W.nsIn K mainGlobals "MOST_MARKS" = some (some (.int 24 t_MOST_MARKS)))
    {t_MOST_SLOTS : Tok} (g_MOST_SLOTS : PySem.W.nsIn K mainGlobals "MOST_SLOTS" = some (some (.int 5 t_MOST_SLOTS)))
    (y_abs : PySem.W.nsIn K mainGlobals "abs" = some none)
    (y_all : PySem.W.nsIn K mainGlobals "all" = some none)
    (y_enumerate : PySem.W.nsIn K mainGlobals "enumerate" = some none)
    (y_int : PySem.W.nsIn K mainGlobals "int" = some none)
    (y_len : PySem.W.nsIn K mainGlobals "len" = some none)
    (y_list : PySem.W.nsIn K mainGlobals "list" = some none)
    (y_max : PySem.W.nsIn K mainGlobals "max" = some none)
    (y_min : PySem.W.nsIn K mainGlobals "min" = some none)
    (y_range : PySem.W.nsIn K mainGlobals "range" = some none)
    (y_reversed : PySem.W.nsIn K mainGlobals "reversed" = some none)
    (y_set : PySem.W.nsIn K mainGlobals "set" = some none)
    (y_sorted : PySem.W.nsIn K mainGlobals "sorted" = some none)
    (y_tuple : PySem.W.nsIn K mainGlobals "tuple" = some none) :
    ∃ fd : FuncData, (∀ (s : Shared) (v : Value), BindsTo s fd ⟨[v], []⟩ [("_law_script", v)]) ∧ ∀ base : Heap, K.In base → base.Ns mainGlobals mg → FnG l.prog w K mg base CX0 7 fa fd ["_law_script"] (spOf K F_law) := by
  have m_MOST_MARKS := PySem.W.mg_of X G g_MOST_MARKS
  have m_MOST_SLOTS := PySem.W.mg_of X G g_MOST_SLOTS
  have z_abs := PySem.W.mg_none_of X G y_abs
  have z_all := PySem.W.mg_none_of X G y_all
  have z_enumerate := PySem.W.mg_none_of X G y_enumerate
  have z_int := PySem.W.mg_none_of X G y_int
  have z_len := PySem.W.mg_none_of X G y_len
  have z_list := PySem.W.mg_none_of X G y_list
  have z_max := PySem.W.mg_none_of X G y_max
  have z_min := PySem.W.mg_none_of X G y_min
  have z_range := PySem.W.mg_none_of X G y_range
  have z_reversed := PySem.W.mg_none_of X G y_reversed
  have z_set := PySem.W.mg_none_of X G y_set
  have z_sorted := PySem.W.mg_none_of X G y_sorted
  have z_tuple := PySem.W.mg_none_of X G y_tuple
  have x_MarkError := PySem.W.mg_of X G aC_MarkError
  have o_Fails : OexC K C_Fails := ⟨⟨_, _, _, _, _, _, _, _, _, _, _, _, _, _, _, lC_Fails, rv_Fails⟩, sa_Fails, ex_Fails, ty_Fails, kc_Fails⟩
  have em_Fails_Fails : PySem.W.exmOne K (.ref C_Fails) (.ref C_Fails) = some true := exm_mk ic_Fails ty_Fails ex_Fails su_Fails_Fails
  have p_later_than : Pre K mg "later_than" st_later_than := ⟨_, _, fun_mk l0 c0 k0, PySem.W.mg_of X G a0⟩
  have p_levels : Pre K mg "levels" st_levels := ⟨_, _, fun_mk l1 c1 k1, PySem.W.mg_of X G a1⟩
  have p_parts_with : Pre K mg "parts_with" st_parts_with := ⟨_, _, fun_mk l2 c2 k2, PySem.W.mg_of X G a2⟩
  have p_peeled : Pre K mg "peeled" st_peeled := ⟨_, _, fun_mk l3 c3 k3, PySem.W.mg_of X G a3⟩
  have p_book : Pre K mg "book" st_book := ⟨_, _, fun_mk l4 c4 k4, PySem.W.mg_of X G a4⟩
  have p_serves : Pre K mg "serves" st_serves := ⟨_, _, fun_mk l5 c5 k5, PySem.W.mg_of X G a5⟩
  have p_reach : Pre K mg "reach" st_reach := ⟨_, _, fun_mk l6 c6 k6, PySem.W.mg_of X G a6⟩
  have p_lot_of : Pre K mg "lot_of" st_lot_of := ⟨_, _, fun_mk l7 c7 k7, PySem.W.mg_of X G a7⟩
  have p_part : Pre K mg "part" st_part := ⟨_, _, fun_mk l8 c8 k8, PySem.W.mg_of X G a8⟩
  have p_want_few : Pre K mg "want_few" st_want_few := ⟨_, _, fun_mk l9 c9 k9, PySem.W.mg_of X G a9⟩
  have p_beside : Pre K mg "beside" st_beside := ⟨_, _, fun_mk l10 c10 k10, PySem.W.mg_of X G a10⟩
  have p_spare : Pre K mg "spare" st_spare := ⟨_, _, fun_mk l11 c11 k11, PySem.W.mg_of X G a11⟩
  have p_law_pot : Pre K mg "_law_pot" st_law_pot := ⟨_, _, fun_mk l12 c12 k12, PySem.W.mg_of X G a12⟩
  have p_law_take : Pre K mg "_law_take" st_law_take := ⟨_, _, fun_mk l13 c13 k13, PySem.W.mg_of X G a13⟩
  have p_law_of : Pre K mg "_law_of" st_law_of := ⟨_, _, fun_mk l14 c14 k14, PySem.W.mg_of X G a14⟩
  have p_law_drawn : Pre K mg "_law_drawn" st_law_drawn := ⟨_, _, fun_mk l15 c15 k15, PySem.W.mg_of X G a15⟩
  have p_law_circle : Pre K mg "_law_circle" st_law_circle := ⟨_, _, fun_mk l16 c16 k16, PySem.W.mg_of X G a16⟩
  have p_law_line : Pre K mg "_law_line" st_law_line := ⟨_, _, fun_mk l17 c17 k17, PySem.W.mg_of X G a17⟩
  have p_law_lot : Pre K mg "_law_lot" st_law_lot := ⟨_, _, fun_mk l18 c18 k18, PySem.W.mg_of X G a18⟩
  have p_law_thick : Pre K mg "_law_thick" st_law_thick := ⟨_, _, fun_mk l19 c19 k19, PySem.W.mg_of X G a19⟩
  have p_law_is_refused : Pre K mg "_law_is_refused" st_law_is_refused := ⟨_, _, fun_mk l20 c20 k20, PySem.W.mg_of X G a20⟩
  have p_law_spared_right : Pre K mg "_law_spared_right" st_law_spared_right := ⟨_, _, fun_mk l21 c21 k21, PySem.W.mg_of X G a21⟩
  have p_law : Pre K mg "law" st_law := ⟨_, _, fun_mk l22 c22 k22, PySem.W.mg_of X G a22⟩
  have e := hfa.symm.trans (PySem.W.mg_of X G a22)
  cases e
  refine ⟨PySem.W.fnOf "law" "law" (defArgs st_law) (defBody st_law) (defScope st_law) .none kV22 dc22 pm22 an22 cd22 ct22, fun s v => .of_eq rfl, fun base _ _ => ?_⟩
  have x_Fails : Ex0 l.prog w K mg base "Fails" C_Fails := ⟨o_Fails, PySem.W.mg_of X G aC_Fails, _, _, iC_Fails, tI_Fails, ini_Fails o_Fails (PySem.W.mg_of X G aC_MarkError) ⟨rd_MarkError, ga_MarkError⟩ vV_MarkError (fun_mk l_Fails c_Fails k_Fails), (fun_mk l_Fails c_Fails k_Fails).binds fun _ _ _ _ _ _ us hl => match us, hl with | [_], _ => rfl⟩
  have c_later_than := cl_later_than (Pg := l.prog) (w := w) (base := base) p_later_than z_range
  have c_levels := cl_levels (Pg := l.prog) (w := w) (base := base) p_levels z_list z_range c_later_than
  have c_parts_with := cl_parts_with (Pg := l.prog) (w := w) (base := base) p_parts_with z_len z_range
  have c_peeled := cl_peeled (Pg := l.prog) (w := w) (base := base) p_peeled z_list c_parts_with
  have c_book := cl_book (Pg := l.prog) (w := w) (base := base) p_book z_sorted z_tuple c_levels c_peeled
  have c_serves := cl_serves (Pg := l.prog) (w := w) (base := base) p_serves c_book
  have c_reach := cl_reach (Pg := l.prog) (w := w) (base := base) p_reach m_MOST_SLOTS c_serves
  have c_lot_of := cl_lot_of (Pg := l.prog) (w := w) (base := base) p_lot_of z_sorted z_tuple
  have c_part := cl_part (Pg := l.prog) (w := w) (base := base) p_part z_enumerate z_len c_lot_of
  have c_want_few := cl_want_few (Pg := l.prog) (w := w) (base := base) p_want_few m_MOST_MARKS
  have c_beside := cl_beside (Pg := l.prog) (w := w) (base := base) p_beside z_list z_range c_lot_of c_want_few
  have c_spare := cl_spare (Pg := l.prog) (w := w) (base := base) x_Fails p_spare z_range z_reversed z_tuple c_serves c_part
  have c_law_pot := cl_law_pot (Pg := l.prog) (w := w) (base := base) p_law_pot z_abs z_int z_len
  have c_law_take := cl_law_take (Pg := l.prog) (w := w) (base := base) p_law_take
  have c_law_of := cl_law_of (Pg := l.prog) (w := w) (base := base) p_law_of z_len c_law_take
  have c_law_drawn := cl_law_drawn (Pg := l.prog) (w := w) (base := base) p_law_drawn z_int z_range z_sorted z_tuple c_law_take
  have c_law_circle := cl_law_circle (Pg := l.prog) (w := w) (base := base) p_law_circle z_range z_tuple
  have c_law_line := cl_law_line (Pg := l.prog) (w := w) (base := base) p_law_line z_range z_tuple
  have c_law_lot := cl_law_lot (Pg := l.prog) (w := w) (base := base) p_law_lot c_law_take c_law_of c_law_drawn c_law_circle c_law_line
  have c_law_thick := cl_law_thick (Pg := l.prog) (w := w) (base := base) p_law_thick z_int z_range z_sorted z_tuple c_law_take
  have c_law_is_refused := cl_law_is_refused (Pg := l.prog) (w := w) (base := base) x_Fails em_Fails_Fails p_law_is_refused c_spare
  have c_law_spared_right := cl_law_spared_right (Pg := l.prog) (w := w) (base := base) x_Fails p_law_spared_right z_len z_list z_range z_set z_sorted z_tuple c_serves c_part c_spare
  have c_law := cl_law (Pg := l.prog) (w := w) (base := base) x_Fails p_law z_all z_len z_max z_min z_range c_reach c_beside c_law_pot c_law_take c_law_of c_law_circle c_law_lot c_law_thick c_law_is_refused c_law_spared_right
  obtain ⟨f', fd', F', m', b', G'⟩ := c_law.ex
  have e := m'.symm.trans (PySem.W.mg_of X G a22)
  cases e
  obtain ⟨oc', od', kV', dc', pm', an', cd', ct', sl', e1, e2, _⟩ := F'.ex
  have e3 := e2.symm.trans l22
  cases e3
  exact G'
end Lw
open PySem PySem.W PyProof.Rows
set_option maxHeartbeats 0 in
theorem PySem.Challenge.cw_everlater_k80_whole_spared_lots_holds : PySem.Challenge.rw_everlater_k80_whole_spared_lots.Holds := by
  w_on; o_law; k_head; (case hw => w_witness2)
  k_fill
  refine Am.walk_g (l := PySem.Challenge.rw_everlater_k80_whole_spared_lots) (n := 63) (k := 7) (x := "_law_script") (G := Lw.F_law) rfl (by decide) rfl ⟨rfl, by decide, by decide⟩ (fun w h Y => PySem.W.kIn_of Y) ?F (fun ns hl => ⟨ns, rfl, fun _ => rfl⟩)
  case F =>
    intro w mg fa h KX G hmg
    refine' Lw.all_mk KX G hmg ?aC_Fails ?ic_Fails ?ex_Fails ?ty_Fails ?lC_Fails ?rv_Fails ?sa_Fails ?kc_Fails ?iC_Fails ?tI_Fails ?l_Fails ?c_Fails ?k_Fails ?aC_MarkError ?ex_MarkError ?ty_MarkError ?rd_MarkError ?ga_MarkError ?vV_MarkError ?su_Fails_Fails ?a0 ?l0 ?c0 ?k0 ?a1 ?l1 ?c1 ?k1 ?a2 ?l2 ?c2 ?k2 ?a3 ?l3 ?c3 ?k3 ?a4 ?l4 ?c4 ?k4 ?a5 ?l5 ?c5 ?k5 ?a6 ?l6 ?c6 ?k6 ?a7 ?l7 ?c7 ?k7 ?a8 ?l8 ?c8 ?k8 ?a9 ?l9 ?c9 ?k9 ?a10 ?l10 ?c10 ?k10 ?a11 ?l11 ?c11 ?k11 ?a12 ?l12 ?c12 ?k12 ?a13 ?l13 ?c13 ?k13 ?a14 ?l14 ?c14 ?k14 ?a15 ?l15 ?c15 ?k15 ?a16 ?l16 ?c16 ?k16 ?a17 ?l17 ?c17 ?k17 ?a18 ?l18 ?c18 ?k18 ?a19 ?l19 ?c19 ?k19 ?a20 ?l20 ?c20 ?k20 ?a21 ?l21 ?c21 ?k21 ?a22 ?l22 ?c22 ?k22 ?g_MOST_MARKS ?g_MOST_SLOTS ?y_abs ?y_all ?y_enumerate ?y_int ?y_len ?y_list ?y_max ?y_min ?y_range ?y_reversed ?y_set ?y_sorted ?y_tuple
    (case aC_Fails => k_is); (case ic_Fails => k_is); (case ex_Fails => k_is); (case ty_Fails => k_is); (case lC_Fails => k_is); (case rv_Fails => exact rfl); (case sa_Fails => k_is); (case kc_Fails => k_is); (case iC_Fails => k_is); (case tI_Fails => k_is); (case l_Fails => k_is); (case c_Fails => k_is); (case k_Fails => k_is); (case aC_MarkError => k_is); (case ex_MarkError => k_is); (case ty_MarkError => k_is); (case rd_MarkError => k_is); (case ga_MarkError => k_is); (case vV_MarkError => k_is); (case su_Fails_Fails => k_is); (case a0 => k_is); (case l0 => k_is); (case c0 => k_is); (case k0 => k_is); (case a1 => k_is); (case l1 => k_is); (case c1 => k_is); (case k1 => k_is); (case a2 => k_is); (case l2 => k_is); (case c2 => k_is); (case k2 => k_is); (case a3 => k_is); (case l3 => k_is); (case c3 => k_is); (case k3 => k_is); (case a4 => k_is); (case l4 => k_is); (case c4 => k_is); (case k4 => k_is); (case a5 => k_is); (case l5 => k_is); (case c5 => k_is); (case k5 => k_is); (case a6 => k_is); (case l6 => k_is); (case c6 => k_is); (case k6 => k_is); (case a7 => k_is); (case l7 => k_is); (case c7 => k_is); (case k7 => k_is); (case a8 => k_is); (case l8 => k_is); (case c8 => k_is); (case k8 => k_is); (case a9 => k_is); (case l9 => k_is); (case c9 => k_is); (case k9 => k_is); (case a10 => k_is); (case l10 => k_is); (case c10 => k_is); (case k10 => k_is); (case a11 => k_is); (case l11 => k_is); (case c11 => k_is); (case k11 => k_is); (case a12 => k_is); (case l12 => k_is); (case c12 => k_is); (case k12 => k_is); (case a13 => k_is); (case l13 => k_is); (case c13 => k_is); (case k13 => k_is); (case a14 => k_is); (case l14 => k_is); (case c14 => k_is); (case k14 => k_is); (case a15 => k_is); (case l15 => k_is); (case c15 => k_is); (case k15 => k_is); (case a16 => k_is); (case l16 => k_is); (case c16 => k_is); (case k16 => k_is); (case a17 => k_is); (case l17 => k_is); (case c17 => k_is); (case k17 => k_is); (case a18 => k_is); (case l18 => k_is); (case c18 => k_is); (case k18 => k_is); (case a19 => k_is); (case l19 => k_is); (case c19 => k_is); (case k19 => k_is); (case a20 => k_is); (case l20 => k_is); (case c20 => k_is); (case k20 => k_is); (case a21 => k_is); (case l21 => k_is); (case c21 => k_is); (case k21 => k_is); (case a22 => k_is); (case l22 => k_is); (case c22 => k_is); (case k22 => k_is); (case g_MOST_MARKS => k_is); (case g_MOST_SLOTS => k_is); (case y_abs => k_is); (case y_all => k_is); (case y_enumerate => k_is); (case y_int => k_is); (case y_len => k_is); (case y_list => k_is); (case y_max => k_is); (case y_min => k_is); (case y_range => k_is); (case y_reversed => k_is); (case y_set => k_is); (case y_sorted => k_is); (case y_tuple => k_is)

