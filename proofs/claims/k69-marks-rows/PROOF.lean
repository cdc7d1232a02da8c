import PyProof.Rows.All
import Wide.All
import OpenK.AllK
import Wide.FinOn
import HandS.ForMost
import HandS.TupAny
import HandS.Wide
import HandS.Zip
import HandS.IsInst
import KE.SortData
import PyProof.Rows.RuleB_pow
import PyProof.P3In
import PyProof.ReprRoads
import HandS.Deep
import HandS.Ends
import PyProof.ReprLen
import HandS.Text
import PySem.Challenge.RW_everlater_k69_marks_rows_and_letters_wri
set_option Elab.async false
set_option linter.all false
set_option maxRecDepth 100000
set_option maxHeartbeats 4000000
/-! Am: an abstract machine over the hand layer. Slots hold deep pure data (P) or names of owned objects; a small store holds the owned objects. -/
namespace Am
open PySem L2
/-- deep data that nobody changes any more -/
inductive P where
  | non | bl (b : Bool) | int (i : Int) | str (x : Str)
  | tup (xs : List P) | lst (xs : List P) | fz (xs : List P)
  | dk (kvs : List (Key × P)) | dt (kvs : List (List Key × P))
  | ins (C : Addr) (fs : List (Str × P)) | vv (v : V)
/-- what a slot holds: pure data, or an owned object by its number -/
inductive D where
  | p (x : P) | own (n : Nat)
/-- an owned object -/
inductive O where
  | lst (xs : List D) | dk (kvs : List (Key × D)) | dt (kvs : List (List Key × D)) | ins (C : Addr) (fs : List (Str × D)) | dead
/-- every known object stands in the other heap, too -/
def Ex (H H' : Hp) : Prop := ∀ a o, H a = some o → H' a = some o
theorem Ex.refl (H : Hp) : Ex H H := fun _ _ h => h
theorem Ex.trans {A B C : Hp} (x : Ex A B) (y : Ex B C) : Ex A C := fun a o h => y a o (x a o h)
theorem Ex.new {H : Hp} {p : Addr} {o : HO} (h : H p = none) : Ex H (upd H p o) := fun a u e => by
  rw [upd_ne (ne_of_none e h)]; exact e
theorem Ex.rd {H H' : Hp} (e : Ex H H') {a : Addr} {u : HO} (h : Rd H a u) : Rd H' a u := by
  rcases h with h | ⟨o, h⟩
  · exact .inl (e _ _ h)
  · exact .inr ⟨o, e _ _ h⟩
theorem Ex.sqL {K : PySem.W.Frag} {H H' : Hp} (e : Ex H H') {a : Addr} {xs : List V} (h : SqL K H a xs) : SqL K H' a xs := by
  rcases h with h | h
  · exact .inl (e.rd h)
  · exact .inr h
theorem Ex.sqT {K : PySem.W.Frag} {H H' : Hp} (e : Ex H H') {a : Addr} {xs : List V} (h : SqT K H a xs) : SqT K H' a xs := by
  rcases h with h | h
  · exact .inl (e.rd h)
  · exact .inr h
theorem Ex.none {H H' : Hp} (e : Ex H H') {a : Addr} (h : H' a = none) : H a = none := by
  cases q : H a with
  | none => rfl
  | some o => rw [e _ _ q] at h; cases h
theorem upd_mem {H : Hp} {η : List Addr} {a b : Addr} {o : HO} (ha : a ∈ η) (hb : b ∉ η) : upd H b o a = H a := upd_ne fun q => hb (q ▸ ha)
theorem upd_nmem {H : Hp} {η : List Addr} {a b : Addr} {o : HO} (ha : a ∉ η) (hb : b ∈ η) : upd H b o a = H a := upd_ne fun q => ha (q ▸ hb)
mutual
/-- the value v is the datum x, read in the heap H -/
inductive Rp (K : PySem.W.Frag) (H : Hp) : V → P → Prop
  | non : Rp K H .non .non
  | bl (b : Bool) : Rp K H (.bl b) (.bl b)
  | int (i : Int) : Rp K H (.int i) (.int i)
  | str (x : Str) : Rp K H (.str x) (.str x)
  | tup {a : Addr} {vs : List V} {xs : List P} : SqT K H a vs → xs.length ≤ sizeLine → RpL K H vs xs → Rp K H (.ref a) (.tup xs)
  | lst {a : Addr} {vs : List V} {xs : List P} : H a = some (.lst vs) → xs.length ≤ sizeLine → RpL K H vs xs → Rp K H (.ref a) (.lst xs)
  | fz {a : Addr} {vs : List V} {xs : List P} : SqL K H a vs → xs.length ≤ sizeLine → RpL K H vs xs → Rp K H (.ref a) (.fz xs)
  | dk {a : Addr} {ks : List (Key × V)} {xs : List (Key × P)} : Rd H a (.dK ks) → xs.length ≤ sizeLine → RpK K H ks xs → Rp K H (.ref a) (.dk xs)
  | dt {a : Addr} {ks : List (List Key × V)} {xs : List (List Key × P)} : Rd H a (.dT ks) → xs.length ≤ sizeLine → RpT K H ks xs → Rp K H (.ref a) (.dt xs)
  | ins {a C dx : Addr} {gs : List (Str × V)} {fs : List (Str × P)} : H a = some (.ins C dx gs) → RpF K H gs fs → Rp K H (.ref a) (.ins C fs)
  | vv (v : V) : Rp K H v (.vv v)
inductive RpL (K : PySem.W.Frag) (H : Hp) : List V → List P → Prop
  | nil : RpL K H [] []
  | cons {v : V} {x : P} {vs : List V} {xs : List P} : Rp K H v x → RpL K H vs xs → RpL K H (v :: vs) (x :: xs)
inductive RpK (K : PySem.W.Frag) (H : Hp) : List (Key × V) → List (Key × P) → Prop
  | nil : RpK K H [] []
  | cons {k : Key} {v : V} {x : P} {vs : List (Key × V)} {xs : List (Key × P)} : Rp K H v x → RpK K H vs xs → RpK K H ((k, v) :: vs) ((k, x) :: xs)
inductive RpT (K : PySem.W.Frag) (H : Hp) : List (List Key × V) → List (List Key × P) → Prop
  | nil : RpT K H [] []
  | cons {k : List Key} {v : V} {x : P} {vs : List (List Key × V)} {xs : List (List Key × P)} : Rp K H v x → RpT K H vs xs → RpT K H ((k, v) :: vs) ((k, x) :: xs)
inductive RpF (K : PySem.W.Frag) (H : Hp) : List (Str × V) → List (Str × P) → Prop
  | nil : RpF K H [] []
  | cons {k : Str} {v : V} {x : P} {vs : List (Str × V)} {xs : List (Str × P)} : Rp K H v x → RpF K H vs xs → RpF K H ((k, v) :: vs) ((k, x) :: xs)
end
section
variable {K : PySem.W.Frag} {H H' : Hp}
mutual
theorem Rp.mono (e : Ex H H') : ∀ (x : P) (v : V), Rp K H v x → Rp K H' v x
  | .non, _, h => by cases h; exact .non
  | .bl b, _, h => by cases h; exact .bl b
  | .int i, _, h => by cases h; exact .int i
  | .str s, _, h => by cases h; exact .str s
  | .tup xs, _, h => by
    cases h with
    | tup s z l => exact .tup (e.sqT s) z (RpL.mono e xs _ l)
  | .lst xs, _, h => by
    cases h with
    | lst s z l => exact .lst (e _ _ s) z (RpL.mono e xs _ l)
  | .fz xs, _, h => by
    cases h with
    | fz s z l => exact .fz (e.sqL s) z (RpL.mono e xs _ l)
  | .dk xs, _, h => by
    cases h with
    | dk s z l => exact .dk (e.rd s) z (RpK.mono e xs _ l)
  | .dt xs, _, h => by
    cases h with
    | dt s z l => exact .dt (e.rd s) z (RpT.mono e xs _ l)
  | .ins C fs, _, h => by
    cases h with
    | ins s l => exact .ins (e _ _ s) (RpF.mono e fs _ l)
  | .vv v, _, h => by cases h; exact .vv v
theorem RpL.mono (e : Ex H H') : ∀ (xs : List P) (vs : List V), RpL K H vs xs → RpL K H' vs xs
  | [], _, h => by cases h; exact .nil
  | x :: xs, _, h => by
    cases h with
    | cons r l => exact .cons (Rp.mono e x _ r) (RpL.mono e xs _ l)
theorem RpK.mono (e : Ex H H') : ∀ (xs : List (Key × P)) (vs : List (Key × V)), RpK K H vs xs → RpK K H' vs xs
  | [], _, h => by cases h; exact .nil
  | (_, x) :: xs, _, h => by
    cases h with
    | cons r l => exact .cons (Rp.mono e x _ r) (RpK.mono e xs _ l)
theorem RpT.mono (e : Ex H H') : ∀ (xs : List (List Key × P)) (vs : List (List Key × V)), RpT K H vs xs → RpT K H' vs xs
  | [], _, h => by cases h; exact .nil
  | (_, x) :: xs, _, h => by
    cases h with
    | cons r l => exact .cons (Rp.mono e x _ r) (RpT.mono e xs _ l)
theorem RpF.mono (e : Ex H H') : ∀ (xs : List (Str × P)) (vs : List (Str × V)), RpF K H vs xs → RpF K H' vs xs
  | [], _, h => by cases h; exact .nil
  | (_, x) :: xs, _, h => by
    cases h with
    | cons r l => exact .cons (Rp.mono e x _ r) (RpF.mono e xs _ l)
end
theorem RpL.length : ∀ {xs : List P} {vs : List V}, RpL K H vs xs → vs.length = xs.length
  | [], _, h => by cases h; rfl
  | x :: xs, _, h => by
    cases h with
    | cons r l => simp [RpL.length l]
theorem RpL.get : ∀ {xs : List P} {vs : List V} {i : Nat} {v : V}, RpL K H vs xs → vs[i]? = some v → ∃ x, xs[i]? = some x ∧ Rp K H v x
  | [], _, _, _, h, e => by cases h; simp at e
  | x :: xs, _, 0, v, h, e => by
    cases h with
    | cons r l => simp at e; subst e; exact ⟨x, rfl, r⟩
  | x :: xs, _, i + 1, v, h, e => by
    cases h with
    | cons r l => simpa using RpL.get l (by simpa using e)
theorem RpL.get' : ∀ {xs : List P} {vs : List V} {i : Nat} {x : P}, RpL K H vs xs → xs[i]? = some x → ∃ v, vs[i]? = some v ∧ Rp K H v x
  | [], _, _, _, h, e => by simp at e
  | y :: xs, _, 0, x, h, e => by
    cases h with
    | cons r l => simp at e; subst e; exact ⟨_, rfl, r⟩
  | y :: xs, _, i + 1, x, h, e => by
    cases h with
    | cons r l => simpa using RpL.get' l (by simpa using e)
theorem RpL.append : ∀ {xs ys : List P} {vs ws : List V}, RpL K H vs xs → RpL K H ws ys → RpL K H (vs ++ ws) (xs ++ ys)
  | [], _, _, _, h, g => by cases h; exact g
  | x :: xs, _, _, _, h, g => by
    cases h with
    | cons r l => exact .cons r (RpL.append l g)
theorem RpL.take : ∀ {xs : List P} {vs : List V} (n : Nat), RpL K H vs xs → RpL K H (vs.take n) (xs.take n)
  | _, _, 0, _ => .nil
  | [], _, n + 1, h => by cases h; exact .nil
  | x :: xs, _, n + 1, h => by
    cases h with
    | cons r l => exact .cons r (RpL.take n l)
theorem RpL.drop : ∀ {xs : List P} {vs : List V} (n : Nat), RpL K H vs xs → RpL K H (vs.drop n) (xs.drop n)
  | _, _, 0, h => h
  | [], _, n + 1, h => by cases h; exact .nil
  | x :: xs, _, n + 1, h => by
    cases h with
    | cons r l => exact RpL.drop n l
end
/-- a slot's value -/
def Re (K : PySem.W.Frag) (η : List Addr) (Hk : Hp) : V → D → Prop
  | v, .p x => Rp K Hk v x
  | v, .own n => ∃ a, η[n]? = some a ∧ v = .ref a
inductive ReL (K : PySem.W.Frag) (η : List Addr) (Hk : Hp) : List V → List D → Prop
  | nil : ReL K η Hk [] []
  | cons {v : V} {x : D} {vs : List V} {xs : List D} : Re K η Hk v x → ReL K η Hk vs xs → ReL K η Hk (v :: vs) (x :: xs)
/-- entries of a dict, an instance -/
inductive ReE {κ : Type} (K : PySem.W.Frag) (η : List Addr) (Hk : Hp) : List (κ × V) → List (κ × D) → Prop
  | nil : ReE K η Hk [] []
  | cons {k : κ} {v : V} {x : D} {vs : List (κ × V)} {xs : List (κ × D)} : Re K η Hk v x → ReE K η Hk vs xs → ReE K η Hk ((k, v) :: vs) ((k, x) :: xs)
def ObjR (K : PySem.W.Frag) (η : List Addr) (Hk H : Hp) (a : Addr) : O → Prop
  | .lst xs => xs.length ≤ sizeLine ∧ ∃ vs, H a = some (.lst vs) ∧ ReL K η Hk vs xs
  | .dk kvs => kvs.length ≤ sizeLine ∧ ∃ ks, H a = some (.dK ks) ∧ ReE K η Hk ks kvs
  | .dt kvs => kvs.length ≤ sizeLine ∧ ∃ ks, H a = some (.dT ks) ∧ ReE K η Hk ks kvs
  | .ins C fs => fs.length < 1000 ∧ ∃ dx gs, H a = some (.ins C dx gs) ∧ ReE K η Hk gs fs
  | .dead => True
structure Ok (K : PySem.W.Frag) (η : List Addr) (Hk H : Hp) (S : List O) : Prop where
  ex : Ex Hk H
  len : η.length = S.length
  nd : η.Nodup
  hid : ∀ (i : Nat) a o, η[i]? = some a → S[i]? = some o → o ≠ .dead → Hk a = none
  there : ∀ a ∈ η, ∃ o, H a = some o
  obj : ∀ (i : Nat) a o, η[i]? = some a → S[i]? = some o → ObjR K η Hk H a o
structure Stp (η : List Addr) (Hk H : Hp) (η' : List Addr) (Hk' H' : Hp) : Prop where
  ex : Ex Hk Hk'
  pre : ∃ more, η' = η ++ more
  fr : ∀ b o, H b = some o → b ∉ η → H' b = some o
  newE : ∀ b ∈ η', b ∈ η ∨ H b = none
  newK : ∀ b, Hk' b ≠ none → b ∈ η ∨ Hk b ≠ none ∨ H b = none
  kept : ∀ b, H b ≠ none → H' b ≠ none
theorem Stp.refl {η : List Addr} {Hk H : Hp} : Stp η Hk H η Hk H :=
  ⟨.refl _, ⟨[], by simp⟩, fun _ _ h _ => h, fun _ h => .inl h, fun _ h => .inr (.inl h), fun _ h => h⟩
theorem Stp.trans {η η1 η2 : List Addr} {Hk H Hk1 H1 Hk2 H2 : Hp} (x : Stp η Hk H η1 Hk1 H1) (y : Stp η1 Hk1 H1 η2 Hk2 H2) : Stp η Hk H η2 Hk2 H2 := by
  have back : ∀ b, b ∉ η → H1 b = none → H b = none := fun b hb h => by
    cases q : H b with
    | none => rfl
    | some o => rw [x.fr b o q hb] at h; cases h
  refine ⟨x.ex.trans y.ex, ?_, fun b o h hb => ?_, fun b hb => ?_, fun b hb => ?_, fun b h => y.kept b (x.kept b h)⟩
  · obtain ⟨m1, e1⟩ := x.pre
    obtain ⟨m2, e2⟩ := y.pre
    exact ⟨m1 ++ m2, by rw [e2, e1, List.append_assoc]⟩
  · refine y.fr b o (x.fr b o h hb) fun hb1 => ?_
    rcases x.newE b hb1 with z | z
    · exact hb z
    · rw [h] at z; cases z
  · rcases y.newE b hb with z | z
    · exact x.newE b z
    · by_cases hbη : b ∈ η
      · exact .inl hbη
      · exact .inr (back b hbη z)
  · by_cases hbη : b ∈ η
    · exact .inl hbη
    · rcases y.newK b hb with z | z | z
      · rcases x.newE b z with z | z
        · exact .inl z
        · exact .inr (.inr z)
      · exact x.newK b z
      · exact .inr (.inr (back b hbη z))
section
variable {K : PySem.W.Frag} {η η' : List Addr} {Hk Hk' H H' : Hp} {S : List O}
/-- more is known, more is owned -/
structure Gr (η : List Addr) (Hk : Hp) (η' : List Addr) (Hk' : Hp) : Prop where
  ex : Ex Hk Hk'
  pre : ∃ more, η' = η ++ more
theorem Stp.gr (s : Stp η Hk H η' Hk' H') : Gr η Hk η' Hk' := ⟨s.ex, s.pre⟩
theorem Re.mono' (s : Gr η Hk η' Hk') {v : V} {d : D} (h : Re K η Hk v d) : Re K η' Hk' v d := by
  cases d with
  | p x => exact Rp.mono s.ex x v h
  | own n =>
    obtain ⟨a, e, r⟩ := h
    obtain ⟨m, em⟩ := s.pre
    refine ⟨a, ?_, r⟩
    rw [em, List.getElem?_append_left (List.getElem?_eq_some_iff.mp e).1]
    exact e
theorem ReL.mono' (s : Gr η Hk η' Hk') : ∀ {vs : List V} {ds : List D}, ReL K η Hk vs ds → ReL K η' Hk' vs ds
  | _, _, .nil => .nil
  | _, _, .cons r l => .cons (r.mono' s) (ReL.mono' s l)
theorem ReE.mono' {κ : Type} (s : Gr η Hk η' Hk') : ∀ {vs : List (κ × V)} {ds : List (κ × D)}, ReE K η Hk vs ds → ReE K η' Hk' vs ds
  | _, _, .nil => .nil
  | _, _, .cons r l => .cons (r.mono' s) (ReE.mono' s l)
theorem Re.mono (s : Stp η Hk H η' Hk' H') {v : V} {d : D} (h : Re K η Hk v d) : Re K η' Hk' v d := h.mono' s.gr
theorem ReL.mono (s : Stp η Hk H η' Hk' H') {vs : List V} {ds : List D} (h : ReL K η Hk vs ds) : ReL K η' Hk' vs ds := h.mono' s.gr
theorem ReE.mono {κ : Type} (s : Stp η Hk H η' Hk' H') {vs : List (κ × V)} {ds : List (κ × D)} (h : ReE K η Hk vs ds) : ReE K η' Hk' vs ds := h.mono' s.gr
theorem ReL.length : ∀ {vs : List V} {ds : List D}, ReL K η Hk vs ds → vs.length = ds.length
  | _, _, .nil => rfl
  | _, _, .cons _ l => by simp [ReL.length l]
theorem ReL.append : ∀ {vs ws : List V} {ds es : List D}, ReL K η Hk vs ds → ReL K η Hk ws es → ReL K η Hk (vs ++ ws) (ds ++ es)
  | _, _, _, _, .nil, g => g
  | _, _, _, _, .cons r l, g => .cons r (ReL.append l g)
theorem ReL.get : ∀ {vs : List V} {ds : List D} {i : Nat} {v : V}, ReL K η Hk vs ds → vs[i]? = some v → ∃ x, ds[i]? = some x ∧ Re K η Hk v x
  | _, _, _, _, .nil, e => by simp at e
  | _, _, 0, v, .cons r l, e => by simp at e; subst e; exact ⟨_, rfl, r⟩
  | _, _, i + 1, v, .cons r l, e => by simpa using ReL.get l (by simpa using e)
theorem ReL.get' : ∀ {vs : List V} {ds : List D} {i : Nat} {x : D}, ReL K η Hk vs ds → ds[i]? = some x → ∃ v, vs[i]? = some v ∧ Re K η Hk v x
  | _, _, _, _, .nil, e => by simp at e
  | _, _, 0, v, .cons r l, e => by simp at e; subst e; exact ⟨_, rfl, r⟩
  | _, _, i + 1, v, .cons r l, e => by simpa using ReL.get' l (by simpa using e)
theorem ReL.pure : ∀ {vs : List V} {xs : List P}, RpL K Hk vs xs → ReL K η Hk vs (xs.map .p)
  | _, [], h => by cases h; exact .nil
  | _, x :: xs, h => by
    cases h with
    | cons r l => exact .cons r (ReL.pure l)
theorem ReL.impure : ∀ {vs : List V} {xs : List P}, ReL K η Hk vs (xs.map .p) → RpL K Hk vs xs
  | _, [], h => by cases h; exact .nil
  | _, x :: xs, h => by
    cases h with
    | cons r l => exact .cons r (ReL.impure l)
theorem ObjR.mono' {a : Addr} (s : Gr η Hk η' Hk') {J J' : Hp} (e : J' a = J a) : ∀ {o : O}, ObjR K η Hk J a o → ObjR K η' Hk' J' a o
  | .lst _, ⟨z, vs, h, l⟩ => ⟨z, vs, e.trans h, l.mono' s⟩
  | .dk _, ⟨z, vs, h, l⟩ => ⟨z, vs, e.trans h, l.mono' s⟩
  | .dt _, ⟨z, vs, h, l⟩ => ⟨z, vs, e.trans h, l.mono' s⟩
  | .ins _ _, ⟨z, dx, gs, h, l⟩ => ⟨z, dx, gs, e.trans h, l.mono' s⟩
  | .dead, _ => trivial
theorem ObjR.mono {a : Addr} (s : Stp η Hk H η' Hk' H') {J J' : Hp} (e : J' a = J a) {o : O} (h : ObjR K η Hk J a o) : ObjR K η' Hk' J' a o := h.mono' s.gr e
theorem Ok.not_mem (k : Ok K η Hk H S) {b : Addr} (h : H b = none) : b ∉ η := fun hb => by
  obtain ⟨o, e⟩ := k.there b hb
  rw [h] at e; cases e
theorem Ok.knone (k : Ok K η Hk H S) {b : Addr} (h : H b = none) : Hk b = none := k.ex.none h
/-- a new immutable object -/
theorem Ok.alloc (k : Ok K η Hk H S) {b : Addr} (h : H b = none) (o : HO) : Ok K η (upd Hk b o) (upd H b o) S ∧ Stp η Hk H η (upd Hk b o) (upd H b o) := by
  have hk := k.knone h
  have hb := k.not_mem h
  have st : Stp η Hk H η (upd Hk b o) (upd H b o) := ⟨.new hk, ⟨[], by simp⟩, fun c u e _ => by rw [upd_ne (ne_of_none e h)]; exact e, fun c hc => .inl hc, fun c hc => by
    by_cases e : c = b
    · subst e; exact .inr (.inr h)
    · rw [upd_ne e] at hc; exact .inr (.inl hc), fun c hc => by
    by_cases e : c = b
    · subst e; rw [upd_same]; simp
    · rw [upd_ne e]; exact hc⟩
  refine ⟨⟨fun a u e => ?_, k.len, k.nd, fun i a u e1 e2 nd => ?_, fun a ha => ?_, fun i a u e1 e2 => ?_⟩, st⟩
  · by_cases q : a = b
    · subst q; rw [upd_same] at e ⊢; exact e
    · rw [upd_ne q] at e ⊢; exact k.ex _ _ e
  · have ha : a ∈ η := List.mem_of_getElem? e1
    rw [upd_mem ha hb]
    exact k.hid i a u e1 e2 nd
  · obtain ⟨u, e⟩ := k.there a ha
    exact ⟨u, by rw [upd_mem ha hb]; exact e⟩
  · have ha : a ∈ η := List.mem_of_getElem? e1
    exact (k.obj i a u e1 e2).mono st (upd_mem ha hb)
/-- a new owned object -/
theorem Ok.allocOwn (k : Ok K η Hk H S) {b : Addr} (h : H b = none) {u : HO} {o : O} (hO : ObjR K (η ++ [b]) Hk (upd H b u) b o) : Ok K (η ++ [b]) Hk (upd H b u) (S ++ [o]) ∧ Stp η Hk H (η ++ [b]) Hk (upd H b u) := by
  have hk := k.knone h
  have hb := k.not_mem h
  have st : Stp η Hk H (η ++ [b]) Hk (upd H b u) := ⟨.refl _, ⟨[b], rfl⟩, fun c u e _ => by rw [upd_ne (ne_of_none e h)]; exact e, fun c hc => by
    rcases List.mem_append.mp hc with z | z
    · exact .inl z
    · rw [List.mem_singleton] at z; subst z; exact .inr h, fun c hc => .inr (.inl hc), fun c hc => by
    by_cases e : c = b
    · subst e; rw [upd_same]; simp
    · rw [upd_ne e]; exact hc⟩
  have split : ∀ {i : Nat} {a : Addr} {o' : O}, (η ++ [b])[i]? = some a → (S ++ [o])[i]? = some o' → (η[i]? = some a ∧ S[i]? = some o') ∨ (a = b ∧ o' = o) := by
    intro i a o' e1 e2
    by_cases hi : i < η.length
    · rw [List.getElem?_append_left hi] at e1
      rw [List.getElem?_append_left (k.len ▸ hi)] at e2
      exact .inl ⟨e1, e2⟩
    · rw [List.getElem?_append_right (by omega)] at e1
      rw [List.getElem?_append_right (by have := k.len; omega)] at e2
      have q1 := (List.getElem?_eq_some_iff.mp e1).1
      simp at q1
      have q0 : i - η.length = 0 := by omega
      have q00 : i - S.length = 0 := by have := k.len; omega
      rw [q0] at e1; rw [q00] at e2
      simp at e1 e2
      exact .inr ⟨e1.symm, e2.symm⟩
  refine ⟨⟨fun a v e => ?_, by simp [k.len], ?_, fun i a o' e1 e2 nd => ?_, fun a ha => ?_, fun i a o' e1 e2 => ?_⟩, st⟩
  · rw [upd_ne fun q => by rw [q, hk] at e; cases e]; exact k.ex _ _ e
  · exact List.nodup_append.mpr ⟨k.nd, by simp, fun a ha c hc e => by simp at hc; subst hc; subst e; exact hb ha⟩
  · rcases split e1 e2 with ⟨e1, e2⟩ | ⟨rfl, rfl⟩
    · exact k.hid i a o' e1 e2 nd
    · exact hk
  · rcases List.mem_append.mp ha with z | z
    · obtain ⟨v, e⟩ := k.there a z
      exact ⟨v, by rw [upd_mem z hb]; exact e⟩
    · rw [List.mem_singleton] at z; subst z; exact ⟨u, upd_same⟩
  · rcases split e1 e2 with ⟨e1, e2⟩ | ⟨rfl, rfl⟩
    · have ha : a ∈ η := List.mem_of_getElem? e1
      exact (k.obj i a o' e1 e2).mono st (upd_mem ha hb)
    · exact hO
/-- an owned object is changed -/
theorem Ok.write (k : Ok K η Hk H S) {i : Nat} {a : Addr} {o₀ o : O} {u : HO} (e1 : η[i]? = some a) (e2 : S[i]? = some o₀) (hd : o₀ ≠ .dead) (hO : ObjR K η Hk (upd H a u) a o) :
    Ok K η Hk (upd H a u) (S.set i o) ∧ Stp η Hk H η Hk (upd H a u) := by
  have ha : a ∈ η := List.mem_of_getElem? e1
  have hk := k.hid i a o₀ e1 e2 hd
  have uniq : ∀ {j : Nat} {b : Addr}, η[j]? = some b → b = a → j = i := fun {j b} h1 h2 => by
    subst h2
    exact (List.getElem?_inj (List.getElem?_eq_some_iff.mp h1).1 k.nd).mp (h1.trans e1.symm)
  have st : Stp η Hk H η Hk (upd H a u) := ⟨.refl _, ⟨[], by simp⟩, fun c v e hc => by rw [upd_nmem hc ha]; exact e, fun c hc => .inl hc, fun c hc => .inr (.inl hc), fun c hc => by
    by_cases e : c = a
    · subst e; rw [upd_same]; simp
    · rw [upd_ne e]; exact hc⟩
  refine ⟨⟨fun c v e => ?_, by simp [k.len], k.nd, fun j b o' h1 h2 nd => ?_, fun c hc => ?_, fun j b o' h1 h2 => ?_⟩, st⟩
  · rw [upd_ne fun q => by rw [q, hk] at e; cases e]; exact k.ex _ _ e
  · by_cases hj : j = i
    · subst hj; rw [e1] at h1; cases h1; exact hk
    · rw [List.getElem?_set_ne (Ne.symm hj)] at h2
      exact k.hid j b o' h1 h2 nd
  · by_cases e : c = a
    · subst e; exact ⟨u, upd_same⟩
    · obtain ⟨v, q⟩ := k.there c hc
      exact ⟨v, by rw [upd_ne e]; exact q⟩
  · by_cases hj : j = i
    · subst hj; rw [e1] at h1; cases h1
      rw [List.getElem?_set_self (List.getElem?_eq_some_iff.mp e2).1] at h2
      cases h2
      exact hO
    · rw [List.getElem?_set_ne (Ne.symm hj)] at h2
      exact (k.obj j b o' h1 h2).mono st (upd_ne fun q => hj (uniq h1 q))
/-- an owned object is frozen: nobody owns it any more -/
theorem Ok.freeze (k : Ok K η Hk H S) {i : Nat} {a : Addr} {o₀ : O} {u : HO} (e1 : η[i]? = some a) (e2 : S[i]? = some o₀) (hd : o₀ ≠ .dead) (hu : H a = some u) :
    Ok K η (upd Hk a u) H (S.set i .dead) ∧ Stp η Hk H η (upd Hk a u) H := by
  have ha : a ∈ η := List.mem_of_getElem? e1
  have hk := k.hid i a o₀ e1 e2 hd
  have uniq : ∀ {j : Nat} {b : Addr}, η[j]? = some b → b = a → j = i := fun {j b} h1 h2 => by
    subst h2
    exact (List.getElem?_inj (List.getElem?_eq_some_iff.mp h1).1 k.nd).mp (h1.trans e1.symm)
  have st : Stp η Hk H η (upd Hk a u) H := ⟨.new hk, ⟨[], by simp⟩, fun c v e hc => e, fun c hc => .inl hc, fun c hc => by
    by_cases e : c = a
    · subst e; exact .inl ha
    · rw [upd_ne e] at hc; exact .inr (.inl hc), fun c hc => hc⟩
  refine ⟨⟨fun c v e => ?_, by simp [k.len], k.nd, fun j b o' h1 h2 nd => ?_, k.there, fun j b o' h1 h2 => ?_⟩, st⟩
  · by_cases q : c = a
    · subst q; rw [upd_same] at e; rw [hu]; exact e
    · rw [upd_ne q] at e; exact k.ex _ _ e
  · by_cases hj : j = i
    · subst hj
      rw [List.getElem?_set_self (List.getElem?_eq_some_iff.mp e2).1] at h2
      exact absurd (Option.some.inj h2).symm nd
    · rw [List.getElem?_set_ne (Ne.symm hj)] at h2
      rw [upd_ne fun q => hj (uniq h1 q)]
      exact k.hid j b o' h1 h2 nd
  · by_cases hj : j = i
    · subst hj
      rw [List.getElem?_set_self (List.getElem?_eq_some_iff.mp e2).1] at h2
      cases h2; trivial
    · rw [List.getElem?_set_ne (Ne.symm hj)] at h2
      exact (k.obj j b o' h1 h2).mono st rfl
/-- a foreign object at b is changed -/
theorem Ok.foreign (k : Ok K η Hk H S) {b : Addr} (hb : b ∉ η) (hk : Hk b = none) (u : HO) : Ok K η Hk (upd H b u) S := by
  have st : Stp η Hk H η Hk H := .refl
  refine ⟨fun c v e => ?_, k.len, k.nd, k.hid, fun c hc => ?_, fun j c o' h1 h2 => ?_⟩
  · rw [upd_ne fun q => by rw [q, hk] at e; cases e]; exact k.ex _ _ e
  · obtain ⟨v, q⟩ := k.there c hc
    exact ⟨v, by rw [upd_mem hc hb]; exact q⟩
  · have hc : c ∈ η := List.mem_of_getElem? h1
    exact (k.obj j c o' h1 h2).mono st (upd_mem hc hb)
/-- a foreign object is known from now on -/
theorem Ok.adopt (k : Ok K η Hk H S) {b : Addr} {u : HO} (hb : b ∉ η) (hk : Hk b = none) (hu : H b = some u) : Ok K η (upd Hk b u) H S := by
  have gr : Gr η Hk η (upd Hk b u) := ⟨.new hk, ⟨[], by simp⟩⟩
  refine ⟨fun a o e => ?_, k.len, k.nd, fun i a o e1 e2 nd => ?_, k.there, fun i a o e1 e2 => (k.obj i a o e1 e2).mono' gr rfl⟩
  · by_cases z : a = b
    · subst z; rw [upd_same] at e; rw [hu]; exact e
    · rw [upd_ne z] at e; exact k.ex _ _ e
  · rw [upd_mem (List.mem_of_getElem? e1) hb]
    exact k.hid i a o e1 e2 nd
/-- a foreign object is owned from now on -/
theorem Ok.adoptOwn (k : Ok K η Hk H S) {b : Addr} {o : O} (hb : b ∉ η) (hk : Hk b = none) (ht : ∃ u, H b = some u) (hO : ObjR K (η ++ [b]) Hk H b o) : Ok K (η ++ [b]) Hk H (S ++ [o]) := by
  have gr : Gr η Hk (η ++ [b]) Hk := ⟨.refl _, ⟨[b], rfl⟩⟩
  have split : ∀ {i : Nat} {a : Addr} {o' : O}, (η ++ [b])[i]? = some a → (S ++ [o])[i]? = some o' → (η[i]? = some a ∧ S[i]? = some o') ∨ (a = b ∧ o' = o) := by
    intro i a o' e1 e2
    by_cases hi : i < η.length
    · rw [List.getElem?_append_left hi] at e1
      rw [List.getElem?_append_left (k.len ▸ hi)] at e2
      exact .inl ⟨e1, e2⟩
    · rw [List.getElem?_append_right (by omega)] at e1
      rw [List.getElem?_append_right (by have := k.len; omega)] at e2
      have q1 := (List.getElem?_eq_some_iff.mp e1).1
      simp at q1
      have q0 : i - η.length = 0 := by omega
      have q00 : i - S.length = 0 := by have := k.len; omega
      rw [q0] at e1; rw [q00] at e2
      simp at e1 e2
      exact .inr ⟨e1.symm, e2.symm⟩
  refine ⟨k.ex, by simp [k.len], ?_, fun i a o' e1 e2 nd => ?_, fun a ha => ?_, fun i a o' e1 e2 => ?_⟩
  · exact List.nodup_append.mpr ⟨k.nd, by simp, fun a ha c hc e => by simp at hc; subst hc; subst e; exact hb ha⟩
  · rcases split e1 e2 with ⟨e1, e2⟩ | ⟨rfl, rfl⟩
    · exact k.hid i a o' e1 e2 nd
    · exact hk
  · rcases List.mem_append.mp ha with z | z
    · exact k.there a z
    · rw [List.mem_singleton] at z; subst z; exact ht
  · rcases split e1 e2 with ⟨e1, e2⟩ | ⟨rfl, rfl⟩
    · exact (k.obj i a o' e1 e2).mono' gr rfl
    · exact hO
end
end Am
/-! Am: judgements over abstract states, expressions. -/
namespace Am
open PySem L2
/-- a configuration: the known heap, the owned objects, the heap, the store -/
structure Cf (K : PySem.W.Frag) where
  η : List Addr
  Hk : Hp
  H : Hp
  S : List O
  ok : Ok K η Hk H S
def Cf.Le {K : PySem.W.Frag} (c d : Cf K) : Prop := Stp c.η c.Hk c.H d.η d.Hk d.H
def Cf.re {K : PySem.W.Frag} (c : Cf K) (v : V) (d : D) : Prop := Re K c.η c.Hk v d
abbrev Ls := List (Option D)
def Cf.sl {K : PySem.W.Frag} (c : Cf K) (σ : St) (L : Ls) : Prop := L.length = σ.length ∧ ∀ (i : Nat) d, L[i]? = some (some d) → ∃ v, σ[i]? = some (some v) ∧ c.re v d
section
variable {K : PySem.W.Frag} {c d e : Cf K} {σ : St} {L : Ls}
theorem Cf.Le.refl (c : Cf K) : c.Le c := Stp.refl
theorem Cf.Le.trans (x : c.Le d) (y : d.Le e) : c.Le e := Stp.trans x y
theorem Cf.Le.re (x : c.Le d) {v : V} {a : D} (h : c.re v a) : d.re v a := Re.mono x h
theorem Cf.Le.sl (x : c.Le d) (h : c.sl σ L) : d.sl σ L := ⟨h.1, fun i a e => let ⟨v, q, r⟩ := h.2 i a e; ⟨v, q, x.re r⟩⟩
theorem Cf.Le.reL (x : c.Le d) {vs : List V} {ds : List D} (h : ReL K c.η c.Hk vs ds) : ReL K d.η d.Hk vs ds := ReL.mono x h
theorem Cf.sl.set (h : c.sl σ L) {i : Nat} {v : V} {a : D} (r : c.re v a) : c.sl (σ.set i (some v)) (L.set i (some a)) := by
  refine ⟨by simp [h.1], fun j b e => ?_⟩
  by_cases hj : j = i
  · subst hj
    have hl : j < L.length := by
      have := (List.getElem?_eq_some_iff.mp e).1
      simpa using this
    rw [List.getElem?_set_self hl] at e
    cases e
    exact ⟨v, List.getElem?_set_self (h.1 ▸ hl), r⟩
  · rw [List.getElem?_set_ne (Ne.symm hj)] at e
    obtain ⟨w, q, r'⟩ := h.2 j b e
    exact ⟨w, by rw [List.getElem?_set_ne (Ne.symm hj)]; exact q, r'⟩
end
abbrev AE := Ls → List O → (D → List O → Prop) → Prop
abbrev AT := Ls → List O → (Bool → List O → Prop) → Prop
abbrev AA := Ls → List O → (List D → List O → Prop) → Prop
abbrev A2 := D → D → List O → (D → List O → Prop) → Prop
abbrev A1 := D → List O → (D → List O → Prop) → Prop
abbrev AC := List D → List O → (D → List O → Prop) → Prop
abbrev AM := D → List D → List O → (D → List O → Prop) → Prop
structure LiftE (K : PySem.W.Frag) (te : TE) (t : AE) : Prop where
  run : ∀ (c : Cf K) (L : Ls) (σ : St) (Post : D → List O → Prop) (Q : VK), c.sl σ L → t L c.S Post → (∀ (d : Cf K) v a, c.Le d → d.re v a → Post a d.S → Q v d.H) → te σ c.H Q
structure LiftT (K : PySem.W.Frag) (tt : TT) (t : AT) : Prop where
  run : ∀ (c : Cf K) (L : Ls) (σ : St) (Post : Bool → List O → Prop) (Q : Bool → Hp → Prop), c.sl σ L → t L c.S Post → (∀ (d : Cf K) b, c.Le d → Post b d.S → Q b d.H) → tt σ c.H Q
structure LiftA (K : PySem.W.Frag) (ta : TA) (t : AA) : Prop where
  run : ∀ (c : Cf K) (L : Ls) (σ : St) (Post : List D → List O → Prop) (Q : List V → Hp → Prop), c.sl σ L → t L c.S Post → (∀ (d : Cf K) vs as, c.Le d → ReL K d.η d.Hk vs as → Post as d.S → Q vs d.H) → ta σ c.H Q
structure Lift2 (K : PySem.W.Frag) (r : R2) (t : A2) : Prop where
  run : ∀ (c : Cf K) (x y : V) (a b : D) (Post : D → List O → Prop) (Q : VK), c.re x a → c.re y b → t a b c.S Post → (∀ (d : Cf K) v a, c.Le d → d.re v a → Post a d.S → Q v d.H) → r x y c.H Q
structure Lift1 (K : PySem.W.Frag) (r : V → Hp → VK → Prop) (t : A1) : Prop where
  run : ∀ (c : Cf K) (x : V) (a : D) (Post : D → List O → Prop) (Q : VK), c.re x a → t a c.S Post → (∀ (d : Cf K) v a, c.Le d → d.re v a → Post a d.S → Q v d.H) → r x c.H Q
structure LiftC (K : PySem.W.Frag) (r : List V → Hp → VK → Prop) (t : AC) : Prop where
  run : ∀ (c : Cf K) (vs : List V) (as : List D) (Post : D → List O → Prop) (Q : VK), ReL K c.η c.Hk vs as → t as c.S Post → (∀ (d : Cf K) v a, c.Le d → d.re v a → Post a d.S → Q v d.H) → r vs c.H Q
structure JE (X : Cx) (e : Expr) (t : AE) : Prop where
  ex : ∃ te, PE X e te ∧ LiftE X.K te t
structure JT (X : Cx) (e : Expr) (t : AT) : Prop where
  ex : ∃ te, PT X e te ∧ LiftT X.K te t
structure JW (X : Cx) (e : Expr) (t : AT) : Prop where
  ex : ∃ te, PW X e te ∧ LiftT X.K te t
structure JA (X : Cx) (es : List Expr) (t : AA) : Prop where
  ex : ∃ te, PA X es te ∧ LiftA X.K te t
/-! ### readings -/
/-- the i-th slot -/
def lk : Ls → Nat → Option D
  | [], _ => none
  | d :: _, 0 => d
  | _ :: r, n + 1 => lk r n
theorem lk_eq : ∀ (L : Ls) (i : Nat) (d : D), lk L i = some d → L[i]? = some (some d)
  | [], _, _, h => by simp [lk] at h
  | x :: r, 0, d, h => by simp [lk] at h; simp [h]
  | x :: r, i + 1, d, h => by simpa using lk_eq r i d h
def aV (i : Nat) : AE := fun L S Post => match lk L i with | some d => Post d S | none => False
def aC (x : P) : AE := fun _ S Post => Post (.p x) S
def aOp (r : A2) (ta tb : AE) : AE := fun L S Post => ta L S fun a S1 => tb L S1 fun b S2 => r a b S2 Post
def aUn (r : A1) (ta : AE) : AE := fun L S Post => ta L S fun a S1 => r a S1 Post
def aCall (r : AC) (t : AA) : AE := fun L S Post => t L S fun as S1 => r as S1 Post
def aNil : AA := fun _ S Post => Post [] S
def aCons (te : AE) (tr : AA) : AA := fun L S Post => te L S fun a S1 => tr L S1 fun as S2 => Post (a :: as) S2
def aIf (t : AT) (ta tb : AE) : AE := fun L S Post => t L S fun b S1 => if b = true then ta L S1 Post else tb L S1 Post
def aTest (te : AE) : AT := fun L S Post => te L S fun a S1 => match a with | .p (.bl b) => Post b S1 | _ => False
def aAnd (t u : AT) : AT := fun L S Post => t L S fun b S1 => if b = true then u L S1 Post else Post false S1
def aOr (t u : AT) : AT := fun L S Post => t L S fun b S1 => if b = true then Post true S1 else u L S1 Post
def aNot (t : AT) : AT := fun L S Post => t L S fun b S1 => Post (!b) S1
def aAndV (ta tb : AE) : AE := fun L S Post => ta L S fun a S1 => match a with | .p (.bl b) => if b = true then tb L S1 Post else Post (.p (.bl false)) S1 | _ => False
def aOrV (ta tb : AE) : AE := fun L S Post => ta L S fun a S1 => match a with | .p (.bl b) => if b = true then Post (.p (.bl true)) S1 else tb L S1 Post | _ => False
def aNotV (ta : AE) : AE := fun L S Post => ta L S fun a S1 => match a with | .p (.bl b) => Post (.p (.bl (!b))) S1 | _ => False
section
variable {X : Cx} {a b e : Expr} {es : List Expr} {ta tb te : AE} {t u : AT} {tr : AA} {pos : Pos}
theorem je_var (i : Nat) {x : Str} (hN : X.N[i]? = some x := by rfl) (hv : Vis X.env.scope x := by first | exact Or.inl rfl | exact Or.inr (Or.inl rfl) | exact Or.inr (Or.inr rfl)) (hd : (x == ("__debug__" : Str)) = false := by decide)
    (hcd : (x == ("__classdict__" : Str)) = false := by decide) : JE X (.Name x pos) (aV i) := by
  refine ⟨_, pe_var hN hv hd hcd, ⟨fun c L σ Post Q hs h q => ?_⟩⟩
  unfold aV at h
  split at h
  · rename_i d hd'
    obtain ⟨v, e1, r⟩ := hs.2 i d (lk_eq _ _ _ hd')
    exact ⟨v, e1, q c v d (.refl c) r h⟩
  · exact h.elim
theorem je_const {x : P} {v : V} (hx : ∀ c : Cf X.K, c.re v (.p x)) (h : PE X e (tC v)) : JE X e (aC x) :=
  ⟨_, h, ⟨fun c L σ Post Q hs h q => q c v (.p x) (.refl c) (hx c) h⟩⟩
theorem je_int {i j} : JE X (.Constant (.int i) j pos) (aC (.int i)) := je_const (fun _ => .int i) pe_int
theorem je_bl {i j} : JE X (.Constant (.bool i) j pos) (aC (.bl i)) := je_const (fun _ => .bl i) pe_bl
theorem je_str {i j} : JE X (.Constant (.str i) j pos) (aC (.str i)) := je_const (fun _ => .str i) pe_str
theorem je_non {j} : JE X (.Constant .none j pos) (aC .non) := je_const (fun _ => .non) pe_non
/-- a module's constant -/
theorem je_glob {x : Str} {v : V} {p : P} {w : Value} (hx : ∀ c : Cf X.K, c.re v (.p p)) (hg : Gl X x) (hm : X.mg x = some w) (r : RelV v w) (hd : (x == ("__debug__" : Str)) = false := by decide) : JE X (.Name x pos) (aC p) :=
  je_const hx (pe_glob hg hm r hd)
theorem je_op {op : Operator} {r : R2} {ra : A2} (ho : OpR X (binaryOp op) r) (hr : Lift2 X.K r ra) (ha : JE X a ta) (hb : JE X b tb) : JE X (.BinOp a op b pos) (aOp ra ta tb) := by
  obtain ⟨t1, p1, l1⟩ := ha
  obtain ⟨t2, p2, l2⟩ := hb
  refine ⟨_, pe_op ho p1 p2, ⟨fun c L σ Post Q hs h q => ?_⟩⟩
  refine l1.run c L σ _ _ hs h fun d v x le re h => ?_
  refine l2.run d L σ _ _ (le.sl hs) h fun d2 v2 x2 le2 re2 h => ?_
  exact hr.run d2 v v2 x x2 Post Q (le2.re re) re2 h fun d3 v3 x3 le3 re3 h => q d3 v3 x3 (le.trans (le2.trans le3)) re3 h
theorem je_un {op : UnaryOp} {r : V → Hp → VK → Prop} {ra : A1} (ho : UnR X (unaryOp op) r) (hr : Lift1 X.K r ra) (ha : JE X a ta) : JE X (.UnaryOp op a pos) (aUn ra ta) := by
  obtain ⟨t1, p1, l1⟩ := ha
  refine ⟨_, pe_un ho p1, ⟨fun c L σ Post Q hs h q => ?_⟩⟩
  refine l1.run c L σ _ _ hs h fun d v x le re h => ?_
  exact hr.run d v x Post Q re h fun d3 v3 x3 le3 re3 h => q d3 v3 x3 (le.trans le3) re3 h
theorem lift_op {r : R2} {ra : A2} {t1 t2 : TE} (hr : Lift2 X.K r ra) (l1 : LiftE X.K t1 ta) (l2 : LiftE X.K t2 tb) : LiftE X.K (tOp r t1 t2) (aOp ra ta tb) := by
  refine ⟨fun c L σ Post Q hs h q => ?_⟩
  refine l1.run c L σ _ _ hs h fun d v x le re h => ?_
  refine l2.run d L σ _ _ (le.sl hs) h fun d2 v2 x2 le2 re2 h => ?_
  exact hr.run d2 v v2 x x2 Post Q (le2.re re) re2 h fun d3 v3 x3 le3 re3 h => q d3 v3 x3 (le.trans (le2.trans le3)) re3 h
theorem je_cmp {op : CmpOp} {r : R2} {ra : A2} (ho : OpR X (compareOp op) r) (hr : Lift2 X.K r ra) (ha : JE X a ta) (hb : JE X b tb) (hm : behindInMarks op b = false) : JE X (.Compare a [op] [b] pos) (aOp ra ta tb) := by
  obtain ⟨t1, p1, l1⟩ := ha
  obtain ⟨t2, p2, l2⟩ := hb
  exact ⟨_, pe_cmpR ho p1 p2 hm, lift_op hr l1 l2⟩
theorem lift_test {t1 : TE} (l : LiftE X.K t1 te) : LiftT X.K (tTest t1) (aTest te) := by
  refine ⟨fun c L σ Post Q hs h q => ?_⟩
  refine l.run c L σ _ _ hs h fun d v x le re h => ?_
  split at h
  · rename_i k
    cases (show Rp X.K d.Hk v (.bl k) from re)
    exact ⟨k, rfl, q d k le h⟩
  · exact h.elim
theorem jt_cmp {op : CmpOp} {r : R2} {ra : A2} (ho : OpR X (compareOp op) r) (hr : Lift2 X.K r ra) (ha : JE X a ta) (hb : JE X b tb) (hm : behindInMarks op b = false) : JT X (.Compare a [op] [b] pos) (aTest (aOp ra ta tb)) := by
  obtain ⟨t1, p1, l1⟩ := ha
  obtain ⟨t2, p2, l2⟩ := hb
  exact ⟨_, pt_cmpR ho p1 p2 hm, lift_test (lift_op hr l1 l2)⟩
theorem jt_val (h : JE X e te) (he : ∀ whole, isTrue e X.env whole = (do let v ← whole; standAt e.pos; holding [v] (truthy v)) := by intro _; rfl) : JT X e (aTest te) := by
  obtain ⟨t1, p1, l1⟩ := h
  exact ⟨_, pt_val p1 he, ⟨(lift_test l1).run⟩⟩
theorem jw_and1 (h : JT X a t) : JW X (.BoolOp .And [a] pos) t := let ⟨_, p, l⟩ := h; ⟨_, pw_and1 p, l⟩
theorem jw_or1 (h : JT X a t) : JW X (.BoolOp .Or [a] pos) t := let ⟨_, p, l⟩ := h; ⟨_, pw_or1 p, l⟩
theorem JW.jt (h : JW X e t) : JT X e t := let ⟨_, p, l⟩ := h; ⟨_, p.pt, l⟩
theorem jw_and (h : JT X a t) (h2 : JW X (.BoolOp .And (b :: es) pos) u) : JW X (.BoolOp .And (a :: b :: es) pos) (aAnd t u) := by
  obtain ⟨t1, p1, l1⟩ := h
  obtain ⟨t2, p2, l2⟩ := h2
  refine ⟨_, pw_and p1 p2, ⟨fun c L σ Post Q hs h q => ?_⟩⟩
  refine l1.run c L σ _ _ hs h fun d k le h => ?_
  cases k with
  | true =>
    rw [if_pos rfl] at h ⊢
    exact l2.run d L σ _ _ (le.sl hs) h fun d2 k2 le2 h => q d2 k2 (le.trans le2) h
  | false =>
    rw [if_neg Bool.false_ne_true] at h ⊢
    exact q d false le h
theorem jw_or (h : JT X a t) (h2 : JW X (.BoolOp .Or (b :: es) pos) u) : JW X (.BoolOp .Or (a :: b :: es) pos) (aOr t u) := by
  obtain ⟨t1, p1, l1⟩ := h
  obtain ⟨t2, p2, l2⟩ := h2
  refine ⟨_, pw_or p1 p2, ⟨fun c L σ Post Q hs h q => ?_⟩⟩
  refine l1.run c L σ _ _ hs h fun d k le h => ?_
  cases k with
  | true =>
    rw [if_pos rfl] at h ⊢
    exact q d true le h
  | false =>
    rw [if_neg Bool.false_ne_true] at h ⊢
    exact l2.run d L σ _ _ (le.sl hs) h fun d2 k2 le2 h => q d2 k2 (le.trans le2) h
theorem jt_not (h : JT X a t) : JT X (.UnaryOp .Not a pos) (aNot t) := by
  obtain ⟨t1, p1, l1⟩ := h
  exact ⟨_, pt_not p1, ⟨fun c L σ Post Q hs h q => l1.run c L σ _ _ hs h fun d k le h => q d _ le h⟩⟩
theorem je_one {op} (h : JE X a ta) : JE X (.BoolOp op [a] pos) ta := let ⟨_, p, l⟩ := h; ⟨_, pe_one p, l⟩
theorem je_and (h : JE X a ta) (h2 : JE X (.BoolOp .And (b :: es) pos) tb) : JE X (.BoolOp .And (a :: b :: es) pos) (aAndV ta tb) := by
  obtain ⟨t1, p1, l1⟩ := h
  obtain ⟨t2, p2, l2⟩ := h2
  refine ⟨_, pe_and p1 p2, ⟨fun c L σ Post Q hs h q => ?_⟩⟩
  refine l1.run c L σ _ _ hs h fun d v x le re h => ?_
  split at h
  · rename_i k
    cases (show Rp X.K d.Hk v (.bl k) from re)
    refine ⟨k, rfl, ?_⟩
    cases k with
    | true =>
      rw [if_pos rfl] at h ⊢
      exact l2.run d L σ _ _ (le.sl hs) h fun d2 v2 x2 le2 re2 h => q d2 v2 x2 (le.trans le2) re2 h
    | false =>
      rw [if_neg Bool.false_ne_true] at h ⊢
      exact q d _ (.p (.bl false)) le (.bl false) h
  · exact h.elim
theorem je_or (h : JE X a ta) (h2 : JE X (.BoolOp .Or (b :: es) pos) tb) : JE X (.BoolOp .Or (a :: b :: es) pos) (aOrV ta tb) := by
  obtain ⟨t1, p1, l1⟩ := h
  obtain ⟨t2, p2, l2⟩ := h2
  refine ⟨_, pe_or p1 p2, ⟨fun c L σ Post Q hs h q => ?_⟩⟩
  refine l1.run c L σ _ _ hs h fun d v x le re h => ?_
  split at h
  · rename_i k
    cases (show Rp X.K d.Hk v (.bl k) from re)
    refine ⟨k, rfl, ?_⟩
    cases k with
    | true =>
      rw [if_pos rfl] at h ⊢
      exact q d _ (.p (.bl true)) le (.bl true) h
    | false =>
      rw [if_neg Bool.false_ne_true] at h ⊢
      exact l2.run d L σ _ _ (le.sl hs) h fun d2 v2 x2 le2 re2 h => q d2 v2 x2 (le.trans le2) re2 h
  · exact h.elim
theorem je_not (h : JE X a ta) : JE X (.UnaryOp .Not a pos) (aNotV ta) := by
  obtain ⟨t1, p1, l1⟩ := h
  refine ⟨_, pe_not p1, ⟨fun c L σ Post Q hs h q => ?_⟩⟩
  refine l1.run c L σ _ _ hs h fun d v x le re h => ?_
  split at h
  · rename_i k
    cases (show Rp X.K d.Hk v (.bl k) from re)
    exact ⟨k, rfl, q d _ (.p (.bl (!k))) le (.bl (!k)) h⟩
  · exact h.elim
theorem je_if {c : Expr} (hc : JT X c t) (ha : JE X a ta) (hb : JE X b tb) : JE X (.IfExp c a b pos) (aIf t ta tb) := by
  obtain ⟨t0, p0, l0⟩ := hc
  obtain ⟨t1, p1, l1⟩ := ha
  obtain ⟨t2, p2, l2⟩ := hb
  refine ⟨_, pe_ifExp p0 p1 p2, ⟨fun c L σ Post Q hs h q => ?_⟩⟩
  refine l0.run c L σ _ _ hs h fun d k le h => ?_
  cases k with
  | true =>
    rw [if_pos rfl] at h ⊢
    exact l1.run d L σ _ _ (le.sl hs) h fun d2 v2 x2 le2 re2 h => q d2 v2 x2 (le.trans le2) re2 h
  | false =>
    rw [if_neg Bool.false_ne_true] at h ⊢
    exact l2.run d L σ _ _ (le.sl hs) h fun d2 v2 x2 le2 re2 h => q d2 v2 x2 (le.trans le2) re2 h
theorem ja_nil : JA X [] aNil := ⟨_, pa_nil, ⟨fun c L σ Post Q hs h q => q c [] [] (.refl c) .nil h⟩⟩
theorem lift_cons {t1 : TE} {t2 : TA} (l1 : LiftE X.K t1 te) (l2 : LiftA X.K t2 tr) : LiftA X.K (tCons t1 t2) (aCons te tr) := by
  refine ⟨fun c L σ Post Q hs h q => ?_⟩
  refine l1.run c L σ _ _ hs h fun d v x le re h => ?_
  refine l2.run d L σ _ _ (le.sl hs) h fun d2 vs as le2 re2 h => ?_
  exact q d2 (v :: vs) (x :: as) (le.trans le2) (.cons (le2.re re) re2) h
theorem ja_cons (ha : JE X e te) (hr : JA X es tr) (hs : starEach (e :: es) X.env = (false, eval e X.env) :: starEach es X.env := by rfl) : JA X (e :: es) (aCons te tr) := by
  obtain ⟨t1, p1, l1⟩ := ha
  obtain ⟨t2, p2, l2⟩ := hr
  exact ⟨_, pa_cons p1 p2 hs, lift_cons l1 l2⟩
theorem lift_call {r : List V → Hp → VK → Prop} {ra : AC} {t1 : TA} (hr : LiftC X.K r ra) (l1 : LiftA X.K t1 tr) : LiftE X.K (tCB r t1) (aCall ra tr) := by
  refine ⟨fun c L σ Post Q hs h q => ?_⟩
  refine l1.run c L σ _ _ hs h fun d vs as le re h => ?_
  exact hr.run d vs as Post Q re h fun d2 v x le2 re2 h => q d2 v x (le.trans le2) re2 h
/-- a call of a built-in, of a built-in class -/
theorem je_callB {x : Str} {id : String} {p : Pos} {r : List V → Hp → VK → Prop} {ra : AC} (hc : CallR X (.builtin id) r) (hr : LiftC X.K r ra) (hg : Gl X x) (hm : X.mg x = none) (hv : bootBuiltins x = some (.builtin id)) (ha : JA X (e :: es) tr)
    (hn : x ≠ "__name__" := by decide) (hdb : (x == ("__debug__" : Str)) = false := by decide) (he : starEach (e :: es) X.env = (false, eval e X.env) :: starEach es X.env := by rfl) (hpl : (backTo pos (starEach es X.env)).any (·.1) = false := by rfl) :
    JE X (.Call (.Name x p) (e :: es) [] pos) (aCall ra tr) := by
  obtain ⟨t1, p1, l1⟩ := ha
  exact ⟨_, pe_callB hc hg hm hv p1 hn hdb he hpl, lift_call hr l1⟩
theorem je_callTy {x : Str} {T : String} {p : Pos} {r : List V → Hp → VK → Prop} {ra : AC} (hc : CallR X (.type T) r) (hr : LiftC X.K r ra) (hg : Gl X x) (hm : X.mg x = none) (hv : bootBuiltins x = some (.type T)) (ha : JA X (e :: es) tr)
    (hn : x ≠ "__name__" := by decide) (hdb : (x == ("__debug__" : Str)) = false := by decide) (he : starEach (e :: es) X.env = (false, eval e X.env) :: starEach es X.env := by rfl) (hpl : (backTo pos (starEach es X.env)).any (·.1) = false := by rfl) :
    JE X (.Call (.Name x p) (e :: es) [] pos) (aCall ra tr) := by
  obtain ⟨t1, p1, l1⟩ := ha
  exact ⟨_, pe_callTy hc hg hm hv p1 hn hdb he hpl, lift_call hr l1⟩
end
/-! ### a def's promise -/
/-- what a def does: its arguments, the store, what is wanted behind it -/
abbrev FT := AC
def spOf (K : PySem.W.Frag) (F : FT) : Sp := fun vs H Q _ => ∃ (c : Cf K) (as : List D) (Post : D → List O → Prop), c.H = H ∧ ReL K c.η c.Hk vs as ∧ F as c.S Post ∧ ∀ (d : Cf K) v a, c.Le d → d.re v a → Post a d.S → Q v d.H
/-- as FnOk, where no repr is under way -/
structure FnG (P : Program) (w : World) (K : PySem.W.Frag) (mg : Str → Option Value) (base : Heap) (CX : CXT) (k : Nat) (f : Addr) (fd : FuncData) (ps : List Str) (sp : Sp) : Prop where
  len : ∀ vs H Q E, sp vs H Q E → vs.length = ps.length
  go : ∀ (A : Around) (outer : List Env) (s : Shared) (H : Hp) (args : Args) (us : List Value) (vs : List V) (Q : VK) (E : XK), A.guards = some [] → Room k A → Env0 P w K mg base A outer s H → BindsTo s fd args (ps.zip us) → Vals vs us → sp vs H Q E →
    codeAny (model P w) A (.call (.ref f) args) (CR CX outer P w H s Q E) s
theorem FnG.of {P : Program} {w : World} {K : PySem.W.Frag} {mg : Str → Option Value} {base : Heap} {CX : CXT} {k : Nat} {f : Addr} {fd : FuncData} {ps : List Str} {sp : Sp} (F : FnOk P w K mg base CX k f fd ps sp) : FnG P w K mg base CX k f fd ps sp :=
  ⟨F.len, fun A outer s H args us vs Q E _ hr e b r h => F.run A outer s H args us vs Q E hr e b r h⟩
section
variable {X : Cx} {CX : CXT} {k : Nat} {f : Addr} {fd : FuncData} {ps : List Str} {sp : Sp} {E : XK}
/-- behind a callee's run -/
theorem after_call {τ : St} {G : Hp} {pp : List (Addr × Obj)} {s : Shared} {Q : VK} {args : Args} {us : List Value} {vs : List V} (F : FnG X.prog X.w X.K X.mg X.base CX k f fd ps sp) (hg : X.A.guards = some []) (hr : Room k X.A) (hx : Passes CX X E)
    (J : Inv X pp τ G s) (hb : BindsTo s fd args (ps.zip us)) (r : Vals vs us) (h : sp vs G Q E) : codeAny (model X.prog X.w) X.A (.call (.ref f) args) (fun r s' => match r with
      | .ok (.ret u) => EP X pp τ Q u s'
      | .error e => X.xe e s'
      | _ => False) s := by
  refine codeAny_mono (F.go X.A X.stack s G args us vs Q E hg hr J.env0 hb r h) fun r s' hq => ?_
  cases r with
  | error e => exact hx pp τ G s e s' J hq
  | ok fl =>
    cases fl with
    | ret u => exact J.after hq
    | _ => exact hq.elim
theorem run_g {pp : List (Addr × Obj)} {τ : St} {G : Hp} {s : Shared} {Q : VK} {us : List Value} {vs : List V} (F : FnG X.prog X.w X.K X.mg X.base CX k f fd ps sp) (hg : X.A.guards = some []) (hr : Room k X.A) (hb : Binds X.K fd ps []) (hx : Passes CX X E)
    (J : Inv X pp τ G s) (r : Vals vs us) (h : sp vs G Q E) : wpAny (model X.prog X.w) X.A (call (.ref f) us) (EP X pp τ Q) X.xe s := by
  have hl : (us ++ []).length = ps.length := by rw [List.append_nil, ← r.length]; exact F.len _ _ _ _ h
  have b := hb s us J.kIn hl
  rw [List.append_nil] at b
  refine wpAny_call (codeAny_mono (after_call F hg hr hx J b r h) fun r s' hq => ?_)
  cases r with
  | error e => exact hq
  | ok fl => cases fl <;> first | exact hq | exact hq.elim
/-- keywords alone -/
theorem run_gk {pp : List (Addr × Obj)} {τ : St} {G : Hp} {s : Shared} {Q : VK} {ks : List Str} {us ws xs : List Value} {vs : List V} (F : FnG X.prog X.w X.K X.mg X.base CX k f fd ps sp) (hg : X.A.guards = some []) (hr : Room k X.A) (hb : BindsTo s fd ⟨us, ks.zip ws⟩ (ps.zip xs)) (hx : Passes CX X E)
    (J : Inv X pp τ G s) (r : Vals vs xs) (h : sp vs G Q E) : wpAny (model X.prog X.w) X.A (call (.ref f) us (ks.zip ws)) (EP X pp τ Q) X.xe s := by
  refine wpAny_call (codeAny_mono (after_call F hg hr hx J hb r h) fun r s' hq => ?_)
  cases r with
  | error e => exact hq
  | ok fl => cases fl <;> first | exact hq | exact hq.elim
variable {e : Expr} {es : List Expr} {tr : AA} {pos p : Pos} {F : FT} {x : Str}
theorem lift_sp {t1 : TA} {tr : AA} (l1 : LiftA X.K t1 tr) : LiftE X.K (fun σ H Q => t1 σ H fun vs H1 => spOf X.K F vs H1 Q E) (aCall F tr) :=
  ⟨fun c L σ Post Q hs h q => l1.run c L σ _ _ hs h fun d vs as le re h => ⟨d, as, Post, rfl, re, h, fun d2 v a le2 re2 h => q d2 v a (le.trans le2) re2 h⟩⟩
theorem je_call (G : FnG X.prog X.w X.K X.mg X.base CX k f fd ps (spOf X.K F)) (hgd : X.A.guards = some []) (hr : Room k X.A) (hg : Gl X x) (hm : X.mg x = some (.ref f)) (hk : PySem.W.keepIn X.K (.ref f) = true) (hb : Binds X.K fd ps []) (hx : Passes CX X E)
    (ha : JA X (e :: es) tr) (hdb : (x == ("__debug__" : Str)) = false := by decide) (he : starEach (e :: es) X.env = (false, eval e X.env) :: starEach es X.env := by rfl) (hpl : (backTo pos (starEach es X.env)).any (·.1) = false := by rfl) :
    JE X (.Call (.Name x p) (e :: es) [] pos) (aCall F tr) := by
  obtain ⟨t1, p1, l1⟩ := ha
  refine ⟨_, ⟨fun pp s τ H Q J h => ?_⟩, lift_sp (E := E) l1⟩
  refine wpAny_Call_Name_kw (ld_glob J hg hm (PySem.W.callWith_K (h₀ := X.base) J.ok.mod.kin hk (thn (p1.run pos pp s τ H _ J h) fun us s1 ⟨vs, H1, J1, r, q⟩ => ⟨J1.kIn, ?_⟩) he hpl) hdb)
  exact run_g G hgd hr hb hx J1 r q
theorem je_call0 (G : FnG X.prog X.w X.K X.mg X.base CX k f fd ps (spOf X.K F)) (hgd : X.A.guards = some []) (hr : Room k X.A) (hg : Gl X x) (hm : X.mg x = some (.ref f)) (hk : PySem.W.keepIn X.K (.ref f) = true) (hb : Binds X.K fd ps []) (hx : Passes CX X E)
    (hdb : (x == ("__debug__" : Str)) = false := by decide) : JE X (.Call (.Name x p) [] [] pos) (aCall F aNil) := by
  refine ⟨_, ⟨fun pp s τ H Q J h => ?_⟩, lift_sp (E := E) (t1 := tNil) (tr := aNil) ⟨fun c L σ Post Q hs h q => q c [] [] (.refl c) .nil h⟩⟩
  exact wpAny_Call_Name_kw (ld_glob J hg hm (PySem.W.callWith_K0 J.kIn hk (run_g (us := []) G hgd hr hb hx J .nil h)) hdb)
/-- the keywords' values, from the left -/
structure JK (X : Cx) (kws : List Keyword) (t : AA) : Prop where
  ex : ∃ te, PK X kws te ∧ LiftA X.K te t
theorem jk_nil : JK X [] aNil := ⟨_, pk_nil, ⟨fun c L σ Post Q hs h q => q c [] [] (.refl c) .nil h⟩⟩
theorem jk_cons {kws : List Keyword} {nm : Option Str} {kpos : Pos} {te : AE} {t : AA} (ha : JE X e te) (hr : JK X kws t) : JK X (⟨nm, e, kpos⟩ :: kws) (aCons te t) := by
  obtain ⟨t1, p1, l1⟩ := ha
  obtain ⟨t2, p2, l2⟩ := hr
  exact ⟨_, pk_cons p1 p2, lift_cons l1 l2⟩
/-- f(k = v, ..): g puts the values into the parameters' order -/
theorem je_callK {kws : List Keyword} {ks : List Str} {g : ∀ {α : Type}, List α → List α} (G : FnG X.prog X.w X.K X.mg X.base CX k f fd ps (spOf X.K F)) (hgd : X.A.guards = some []) (hr : Room k X.A) (hg : Gl X x) (hm : X.mg x = some (.ref f)) (hk : PySem.W.keepIn X.K (.ref f) = true)
    (hb : ∀ (s : Shared) (ws : List Value), ws.length = kws.length → BindsTo s fd ⟨[], ks.zip ws⟩ (ps.zip (g ws))) (hgR : ∀ {vs : List V} {ws : List Value}, vs.length = kws.length → Vals vs ws → Vals (g vs) (g ws)) (hgD : ∀ (c : Cf X.K) {vs : List V} {as : List D}, vs.length = kws.length → ReL X.K c.η c.Hk vs as → ReL X.K c.η c.Hk (g vs) (g as)) (hx : Passes CX X E)
    (ha : JK X kws tr) (hall : (backToKw pos (keywordEach kws X.env)).all (·.1.isSome) = true := by rfl) (hks : (backToKw pos (keywordEach kws X.env)).filterMap (·.1) = ks := by rfl) (hdb : (x == ("__debug__" : Str)) = false := by decide)
    (hpl : ((backTo pos (starEach [] X.env)).any (·.1) || (backToKw pos (keywordEach kws X.env)).any (·.1.isNone)) = false := by rfl) :
    JE X (.Call (.Name x p) [] kws pos) (aCall (fun as S Post => as.length = kws.length ∧ F (g as) S Post) tr) := by
  obtain ⟨t1, p1, l1⟩ := ha
  refine ⟨fun σ H Q => t1 σ H fun vs H1 => vs.length = kws.length ∧ spOf X.K F (g vs) H1 Q E, ⟨fun pp s τ H Q J h => ?_⟩, ⟨fun c L σ Post Q hs h q => l1.run c L σ _ _ hs h fun d vs as le re h => ⟨by rw [re.length]; exact h.1, d, g as, Post, rfl, hgD d (by rw [re.length]; exact h.1) re, h.2, fun d2 v a le2 re2 h => q d2 v a (le.trans le2) re2 h⟩⟩⟩
  refine wpAny_Call_Name_kw (ld_glob J hg hm (PySem.W.callWith_KW0 (h₀ := X.base) J.ok.mod.kin hk hall (thn (p1.run pos pp s τ H _ J h) fun ws s1 ⟨vs, H1, J1, r, hl, q⟩ => ⟨J1.kIn, ?_⟩) hpl) hdb)
  rw [hks]
  exact run_gk (us := []) G hgd hr (hb s1 ws (by rw [← r.length]; exact hl)) hx J1 (hgR hl r) q
end
end Am
/-! Am: statements, targets, loops, comprehensions, the body of a def. -/
namespace Am
open PySem L2
structure En where
  nx : Ls → List O → Prop
  rt : D → List O → Prop
  bk : Ls → List O → Prop := fun _ _ => False
  ct : Ls → List O → Prop := fun _ _ => False
abbrev AS := En → Ls → List O → Prop
abbrev AG := D → Ls → List O → (Ls → List O → Prop) → Prop
abbrev AGs := List D → Ls → List O → (Ls → List O → Prop) → Prop
structure LiftS (K : PySem.W.Frag) (ts : TS) (t : AS) : Prop where
  run : ∀ (c : Cf K) (L : Ls) (σ : St) (E : En) (D : Ends), c.sl σ L → t E L c.S →
    (∀ (d : Cf K) σ' L', c.Le d → d.sl σ' L' → E.nx L' d.S → D.nx σ' d.H) → (∀ (d : Cf K) v a, c.Le d → d.re v a → E.rt a d.S → D.rt v d.H) →
    (∀ (d : Cf K) σ' L', c.Le d → d.sl σ' L' → E.bk L' d.S → D.bk σ' d.H) → (∀ (d : Cf K) σ' L', c.Le d → d.sl σ' L' → E.ct L' d.S → D.ct σ' d.H) → ts D σ c.H
structure LiftG (K : PySem.W.Frag) (tg : TG) (t : AG) : Prop where
  run : ∀ (c : Cf K) (L : Ls) (σ : St) (v : V) (a : D) (Post : Ls → List O → Prop) (Q : St → Hp → Prop), c.sl σ L → c.re v a → t a L c.S Post → (∀ (d : Cf K) σ' L', c.Le d → d.sl σ' L' → Post L' d.S → Q σ' d.H) → tg v σ c.H Q
structure LiftGs (K : PySem.W.Frag) (tg : TGs) (t : AGs) : Prop where
  run : ∀ (c : Cf K) (L : Ls) (σ : St) (vs : List V) (as : List D) (Post : Ls → List O → Prop) (Q : St → Hp → Prop), c.sl σ L → ReL K c.η c.Hk vs as → t as L c.S Post → (∀ (d : Cf K) σ' L', c.Le d → d.sl σ' L' → Post L' d.S → Q σ' d.H) → tg vs σ c.H Q
structure JS (X : Cx) (st : Stmt) (t : AS) : Prop where
  ex : ∃ ts, PS X st ts ∧ LiftS X.K ts t
structure JB (X : Cx) (st : List Stmt) (t : AS) : Prop where
  ex : ∃ ts, PSs X st ts ∧ LiftS X.K ts t
structure JG (X : Cx) (tg : Expr) (t : AG) : Prop where
  ex : ∃ ts, PG X tg ts ∧ LiftG X.K ts t
structure JGs (X : Cx) (tg : List Expr) (t : AGs) : Prop where
  ex : ∃ ts, PGs X tg ts ∧ LiftGs X.K ts t
def sNext : AS := fun E L S => E.nx L S
/-- one after the other; sealed, so that nothing runs through it by itself -/
def seqI (t u : AS) : AS := fun E L S => t { E with nx := u E } L S
theorem seq_ex : ∃ f : AS → AS → AS, f = seqI := ⟨_, rfl⟩
noncomputable def sSeq : AS → AS → AS := Classical.choose seq_ex
theorem sSeq_run (t u : AS) (E : En) (L : Ls) (S : List O) : sSeq t u E L S = t { E with nx := u E } L S := by
  have e : sSeq = seqI := Classical.choose_spec seq_ex
  rw [e]; rfl
def sBreak : AS := fun E L S => E.bk L S
def sCont : AS := fun E L S => E.ct L S
def sDrop (t : AE) : AS := fun E L S => t L S fun _ S1 => E.nx L S1
def sRet (t : AE) : AS := fun E L S => t L S E.rt
def sRetN : AS := fun E _ S => E.rt (.p .non) S
def sIf (t : AT) (u w : AS) : AS := fun E L S => t L S fun b S1 => if b = true then u E L S1 else w E L S1
def sNever : AS := fun _ _ _ => False
def sAsg (t : AE) (g : AG) : AS := fun E L S => t L S fun a S1 => g a L S1 E.nx
def agName (i : Nat) : AG := fun a L S Post => Post (L.set i (some a)) S
def agNil : AGs := fun as L S Post => match as with | [] => Post L S | _ => False
def agCons (g : AG) (r : AGs) : AGs := fun as L S Post => match as with | a :: as => g a L S fun L1 S1 => r as L1 S1 Post | [] => False
/-- a, b = a tuple -/
def agTup (n : Nat) (g : AGs) : AG := fun a L S Post => match a with | .p (.tup xs) => xs.length = n ∧ g (xs.map .p) L S Post | _ => False
section
variable {X : Cx} {st : Stmt} {rest : List Stmt} {t u : AS} {e : Expr} {te : AE} {pos : Pos}
theorem jb_nil : JB X [] sNext := ⟨_, pss_nil, ⟨fun c L σ E D hs h k1 k2 k3 k4 => k1 c σ L (.refl c) hs h⟩⟩
theorem jb_cons (h1 : JS X st t) (h2 : JB X rest u) : JB X (st :: rest) (sSeq t u) := by
  obtain ⟨t1, p1, l1⟩ := h1
  obtain ⟨t2, p2, l2⟩ := h2
  refine ⟨_, pss_cons p1 p2, ⟨fun c L σ E D hs h k1 k2 k3 k4 => ?_⟩⟩
  rw [sSeq_run] at h
  refine l1.run c L σ _ { D with nx := t2 D } hs h (fun d σ' L' le hs' h => ?_) k2 k3 k4
  exact l2.run d L' σ' E D hs' h (fun d2 σ2 L2 le2 => k1 d2 σ2 L2 (le.trans le2)) (fun d2 v a le2 => k2 d2 v a (le.trans le2)) (fun d2 σ2 L2 le2 => k3 d2 σ2 L2 (le.trans le2)) (fun d2 σ2 L2 le2 => k4 d2 σ2 L2 (le.trans le2))
theorem jb_one (h1 : JS X st t) : JB X [st] t := let ⟨t1, p1, l1⟩ := h1; ⟨_, pss_one p1, l1⟩
theorem js_pass : JS X (.Pass pos) sNext := ⟨_, ps_pass, ⟨fun c L σ E D hs h k1 k2 k3 k4 => k1 c σ L (.refl c) hs h⟩⟩
theorem js_break : JS X (.Break pos) sBreak := ⟨_, ps_break, ⟨fun c L σ E D hs h k1 k2 k3 k4 => k3 c σ L (.refl c) hs h⟩⟩
theorem js_cont : JS X (.Continue pos) sCont := ⟨_, ps_continue, ⟨fun c L σ E D hs h k1 k2 k3 k4 => k4 c σ L (.refl c) hs h⟩⟩
theorem js_expr (he : JE X e te) (hs : swapsWith e none pos.line X.env = pure false := by rfl) : JS X (.Expr e pos) (sDrop te) := by
  obtain ⟨t1, p1, l1⟩ := he
  exact ⟨_, ps_expr p1 hs, ⟨fun c L σ E D hs h k1 k2 k3 k4 => l1.run c L σ _ _ hs h fun d v a le re h => k1 d σ L le (le.sl hs) h⟩⟩
theorem js_ret (he : JE X e te) : JS X (.Return (some e) pos) (sRet te) := by
  obtain ⟨t1, p1, l1⟩ := he
  exact ⟨_, ps_ret p1, ⟨fun c L σ E D hs h k1 k2 k3 k4 => l1.run c L σ _ _ hs h fun d v a le re h => k2 d v a le re h⟩⟩
theorem js_retN : JS X (.Return none pos) sRetN := ⟨_, ps_retN, ⟨fun c L σ E D hs h k1 k2 k3 k4 => k2 c .non (.p .non) (.refl c) .non h⟩⟩
theorem js_if {c : Expr} {a b : List Stmt} {tc : AT} (hc : JT X c tc) (ha : JB X a t) (hb : JB X b u) : JS X (.If c a b pos) (sIf tc t u) := by
  obtain ⟨t0, p0, l0⟩ := hc
  obtain ⟨t1, p1, l1⟩ := ha
  obtain ⟨t2, p2, l2⟩ := hb
  refine ⟨_, ps_if p0 p1 p2, ⟨fun c L σ E D hs h k1 k2 k3 k4 => ?_⟩⟩
  refine l0.run c L σ _ _ hs h fun d k le h => ?_
  cases k with
  | true =>
    rw [if_pos rfl] at h ⊢
    exact l1.run d L σ E D (le.sl hs) h (fun d2 σ2 L2 le2 => k1 d2 σ2 L2 (le.trans le2)) (fun d2 v a le2 => k2 d2 v a (le.trans le2)) (fun d2 σ2 L2 le2 => k3 d2 σ2 L2 (le.trans le2)) (fun d2 σ2 L2 le2 => k4 d2 σ2 L2 (le.trans le2))
  | false =>
    rw [if_neg Bool.false_ne_true] at h ⊢
    exact l2.run d L σ E D (le.sl hs) h (fun d2 σ2 L2 le2 => k1 d2 σ2 L2 (le.trans le2)) (fun d2 v a le2 => k2 d2 v a (le.trans le2)) (fun d2 σ2 L2 le2 => k3 d2 σ2 L2 (le.trans le2)) (fun d2 σ2 L2 le2 => k4 d2 σ2 L2 (le.trans le2))
theorem js_never : JS X st sNever := ⟨_, ps_never, ⟨fun c L σ E D hs h => h.elim⟩⟩
theorem jb_never {sts : List Stmt} : JB X sts sNever := ⟨_, pss_never, ⟨fun c L σ E D hs h => h.elim⟩⟩
/-! ### targets -/
theorem jg_name (i : Nat) {x : Str} (hN : X.N.Nodup) (hi : X.N[i]? = some x := by rfl) (hx : Loc X.env.scope x := by first | exact Or.inl rfl | exact Or.inr rfl) (hf : X.fn x = true ∨ X.env.scope.names.lookup x = some .local := by first | exact .inl rfl | exact .inr rfl | assumption) : JG X (.Name x pos) (agName i) :=
  ⟨_, pg_name hN hi hx hf, ⟨fun c L σ v a Post Q hs re h q => q c _ _ (.refl c) (hs.set re) h⟩⟩
theorem jgs_nil : JGs X [] agNil := by
  refine ⟨_, pgs_nil, ⟨fun c L σ vs as Post Q hs re h q => ?_⟩⟩
  unfold agNil at h
  split at h
  · cases re
    exact ⟨rfl, q c σ L (.refl c) hs h⟩
  · exact h.elim
theorem jgs_cons {es : List Expr} {g : AG} {r : AGs} (h1 : JG X e g) (h2 : JGs X es r) (hs : (assignEach (e :: es) X.env).map (·.2) = assign e X.env :: (assignEach es X.env).map (·.2) := by rfl) : JGs X (e :: es) (agCons g r) := by
  obtain ⟨t1, p1, l1⟩ := h1
  obtain ⟨t2, p2, l2⟩ := h2
  refine ⟨_, pgs_cons p1 p2 hs, ⟨fun c L σ vs as Post Q hs re h q => ?_⟩⟩
  unfold agCons at h
  split at h
  · cases re with
    | cons r1 rr =>
      refine ⟨_, _, rfl, ?_⟩
      refine l1.run c L σ _ _ _ _ hs r1 h fun d σ' L' le hs' h => ?_
      exact l2.run d L' σ' _ _ _ _ hs' (le.reL rr) h fun d2 σ2 L2 le2 hs2 h => q d2 σ2 L2 (le.trans le2) hs2 h
  · exact h.elim
theorem jg_tup {es : List Expr} {k n : Nat} {g : AGs} (hc : X.calm = true) (h : JGs X es g) (hn : (assignEach es X.env).length = n := by rfl) (hst : (assignEach es X.env).findIdx? (·.1) = none := by rfl) : JG X (.Tuple es k pos) (agTup n g) := by
  obtain ⟨t1, p1, l1⟩ := h
  refine ⟨_, pg_tup hc p1 hn hst, ⟨fun c L σ v a Post Q hs re h q => ?_⟩⟩
  unfold agTup at h
  split at h
  · rename_i xs
    cases (show Rp X.K c.Hk v (.tup xs) from re) with
    | tup s z l =>
      obtain ⟨hl, h⟩ := h
      exact ⟨_, _, rfl, c.ok.ex.sqT s, by rw [l.length]; exact hl, l1.run c L σ _ _ _ _ hs (ReL.pure l) h q⟩
  · exact h.elim
/-- target = value -/
theorem js_asg {tg : Expr} {g : AG} (he : JE X e te) (hg : JG X tg g) (hs : swapsWithSole [tg] e pos.line X.env = pure false := by rfl) (hw : swappedStores [tg] e X.env = pure none := by rfl)
    (h1 : (assignEach [tg] X.env).map (·.2) = [assign tg X.env] := by rfl) : JS X (.Assign [tg] e pos) (sAsg te g) := by
  obtain ⟨t1, p1, l1⟩ := he
  obtain ⟨t2, p2, l2⟩ := hg
  refine ⟨_, ps_asg p1 p2 hs hw h1, ⟨fun c L σ E D hs h k1 k2 k3 k4 => ?_⟩⟩
  refine l1.run c L σ _ _ hs h fun d v a le re h => ?_
  exact l2.run d L σ v a _ _ (le.sl hs) re h fun d2 σ2 L2 le2 hs2 h => k1 d2 σ2 L2 (le.trans le2) hs2 h
theorem js_set (i : Nat) {x : Str} {pos' : Pos} (hN : X.N.Nodup) (he : JE X e te) (hi : X.N[i]? = some x := by rfl) (hx : Loc X.env.scope x := by first | exact Or.inl rfl | exact Or.inr rfl) (hs : swapsWith e (some (.Name x pos')) pos.line X.env = pure false := by rfl) (hf : X.fn x = true ∨ X.env.scope.names.lookup x = some .local := by first | exact .inl rfl | exact .inr rfl | assumption) :
    JS X (.Assign [.Name x pos'] e pos) (sAsg te (agName i)) := by
  obtain ⟨t1, p1, l1⟩ := he
  refine ⟨_, ps_set hN hi hx p1 hs hf, ⟨fun c L σ E D hs h k1 k2 k3 k4 => ?_⟩⟩
  refine l1.run c L σ _ _ hs h fun d v a le re h => ?_
  exact k1 d _ _ le ((le.sl hs).set re) h
/-- x, y = a, b: names, stored from the right -/
def sPar (i j : Nat) (t : AA) : AS := fun E L S => t L S fun as S1 => match as with | [a, b] => E.nx ((L.set i (some a)).set j (some b)) S1 | _ => False
theorem js_par (i j : Nat) {x y : Str} {a b : Expr} {ta : AA} {px py pt : Pos} {kt k2 pt2} (hc : X.calm = true) (hN : X.N.Nodup) (ha : JA X [a, b] ta) (hw : swappedStores [.Tuple [.Name x px, .Name y py] kt pt] (.Tuple [a, b] k2 pt2) X.env = pure (some [x, y]) := by rfl)
    (hi : X.N[i]? = some x := by rfl) (hj : X.N[j]? = some y := by rfl) (hij : i ≠ j := by decide)
    (hx : X.env.scope.names.lookup x = some .local := by rfl) (hy : X.env.scope.names.lookup y = some .local := by rfl)
    (hs : swapsWithSole [.Tuple [.Name x px, .Name y py] kt pt] (.Tuple [a, b] k2 pt2) pos.line X.env = pure false := by rfl) :
    JS X (.Assign [.Tuple [.Name x px, .Name y py] kt pt] (.Tuple [a, b] k2 pt2) pos) (sPar i j ta) := by
  obtain ⟨t1, p1, l1⟩ := ha
  refine ⟨_, ps_par hc hN hi hj hij hx hy p1 hw hs, ⟨fun c L σ E D hs h k1 k2 k3 k4 => ?_⟩⟩
  refine l1.run c L σ _ _ hs h fun d vs as le re h => ?_
  unfold sPar at h
  split at h
  · cases re with
    | cons r1 re =>
      cases re with
      | cons r2 re =>
        cases re
        exact ⟨_, _, rfl, k1 d _ _ le (((le.sl hs).set r1).set r2) h⟩
  · exact h.elim
end
/-! ### what is walked -/
/-- J yields these items as long as the store keeps -/
structure Wk (K : PySem.W.Frag) (c₀ : Cf K) (J : It) (items : List D) (keep : List O → Prop) : Prop where
  size : items.length ≤ sizeLine
  go : ∀ (c : Cf K) (i : Nat), c₀.Le c → keep c.S → i < items.length → J.go i c.H
  yld : ∀ (c : Cf K) (i : Nat) (x : V) (H' : Hp), c₀.Le c → keep c.S → i < items.length → J.yld i c.H x H' → ∃ d : Cf K, d.H = H' ∧ d.S = c.S ∧ c.Le d ∧ ∃ a, items[i]? = some a ∧ d.re x a
  stop : ∀ (c : Cf K) (i : Nat), c₀.Le c → keep c.S → items.length ≤ i → J.stop i c.H
abbrev AI := Ls → List O → (List D → (List O → Prop) → List O → Prop) → Prop
structure LiftI (K : PySem.W.Frag) (wi : TI) (t : AI) : Prop where
  run : ∀ (c : Cf K) (L : Ls) (σ : St) (Post : List D → (List O → Prop) → List O → Prop) (R : It → Hp → Prop), c.sl σ L → t L c.S Post →
    (∀ (d : Cf K) J items keep, c.Le d → Wk K d J items keep → Post items keep d.S → R J d.H) → wi σ c.H R
structure JI (X : Cx) (tg it : Expr) (t : AI) : Prop where
  ex : ∃ wi, PI X tg it wi ∧ LiftI X.K wi t
/-- the turns of a for loop -/
def forRun (keep : List O → Prop) (g : AG) (b : AS) (E : En) : List D → Ls → List O → Prop
  | [], L, S => keep S ∧ E.nx L S
  | x :: xs, L, S => keep S ∧ g x L S fun L1 S1 => b { E with nx := forRun keep g b E xs, ct := forRun keep g b E xs, bk := E.nx } L1 S1
def sFor (ti : AI) (g : AG) (b : AS) : AS := fun E L S => ti L S fun items keep S1 => forRun keep g b E items L S1
theorem forRun_keep {keep : List O → Prop} {g : AG} {b : AS} {E : En} {L : Ls} {S : List O} : ∀ {xs : List D}, forRun keep g b E xs L S → keep S
  | [], h => h.1
  | _ :: _, h => h.1
section
variable {X : Cx} {iter tg : Expr} {body : List Stmt} {ti : AI} {g : AG} {b : AS} {pos : Pos}
theorem js_for (hp : PassesOwn (model X.prog X.w) X.A X.env X.xe) (hc : X.calm = true) (hi : JI X tg iter ti) (hg : JG X tg g) (hb : JB X body b) (hs : ∀ x, foldedSetIterable iter X.env x = pure x := by intro _; rfl) : JS X (.For tg iter body [] pos) (sFor ti g b) := by
  obtain ⟨wi, p1, l1⟩ := hi
  obtain ⟨tg', p2, l2⟩ := hg
  obtain ⟨tb, p3, l3⟩ := hb
  refine ⟨_, ps_for hp hc p1 p2 p3 hs, ⟨fun c L σ E D hs h k1 k2 k3 k4 => ?_⟩⟩
  refine l1.run c L σ _ _ hs h fun d J items keep le wk h => ?_
  refine ⟨fun i m σ' H' => ∃ (d' : Cf X.K) (L' : Ls), d'.H = H' ∧ m = items.length - i ∧ i ≤ items.length ∧ d.Le d' ∧ d'.sl σ' L' ∧ forRun keep g b E (items.drop i) L' d'.S,
    ⟨items.length, d, L, rfl, by simp, Nat.zero_le _, .refl d, le.sl hs, h⟩, ?_⟩
  rintro i m σ' H' ⟨d', L', rfl, rfl, hi, le', hs', h'⟩
  have hk := forRun_keep h'
  by_cases hlt : i < items.length
  · rw [List.drop_eq_getElem_cons hlt] at h'
    obtain ⟨_, h'⟩ := h'
    refine .inr ⟨wk.go d' i le' hk hlt, fun σ2 H2 => ∃ (d2 : Cf X.K) (L2 : Ls), d2.H = H2 ∧ d.Le d2 ∧ d2.sl σ2 L2 ∧ forRun keep g b E (items.drop (i + 1)) L2 d2.S, fun σ2 H2 ⟨d2, L2, e, le2, hs2, h2⟩ => ⟨items.length - (i + 1), by omega, d2, L2, e, rfl, hlt, le2, hs2, h2⟩, fun x H'' y => ?_⟩
    obtain ⟨d1, rfl, hS, le1, a, ea, ra⟩ := wk.yld d' i x H'' le' hk hlt y
    have ea' : a = items[i] := by rw [List.getElem?_eq_getElem hlt] at ea; exact (Option.some.inj ea).symm
    subst ea'
    rw [← hS] at h'
    refine l2.run d1 L' σ' x _ _ _ (le1.sl hs') ra h' fun d2 σ2 L2 le2 hs2 h2 => ?_
    refine l3.run d2 L2 σ2 _ _ hs2 h2 (fun d3 σ3 L3 le3 hs3 h3 => ?_) (fun d3 v a le3 r3 h3 => ?_) (fun d3 σ3 L3 le3 hs3 h3 => ?_) (fun d3 σ3 L3 le3 hs3 h3 => ?_)
    · exact ⟨d3, L3, rfl, le'.trans (le1.trans (le2.trans le3)), hs3, h3⟩
    · exact k2 d3 v a (le.trans (le'.trans (le1.trans (le2.trans le3)))) r3 h3
    · exact k1 d3 σ3 L3 (le.trans (le'.trans (le1.trans (le2.trans le3)))) hs3 h3
    · exact ⟨d3, L3, rfl, le'.trans (le1.trans (le2.trans le3)), hs3, h3⟩
  · rw [List.drop_eq_nil_of_le (by omega)] at h'
    exact .inl ⟨wk.stop d' i le' hk (by omega), k1 d' σ' L' (le.trans le') hs' h'.2⟩
end
/-! ### while -/
/-- at most n turns -/
def whileRun (t : AT) (b : AS) (E : En) : Nat → Ls → List O → Prop
  | 0, _, _ => False
  | n + 1, L, S => t L S fun k S1 => if k = true then b { E with nx := whileRun t b E n, ct := whileRun t b E n, bk := E.nx } L S1 else E.nx L S1
def sWhile (t : AT) (b : AS) : AS := fun E L S => ∃ n, whileRun t b E n L S
section
variable {X : Cx} {c : Expr} {body : List Stmt} {t : AT} {b : AS} {pos : Pos}
theorem js_while (hp : PassesOwn (model X.prog X.w) X.A X.env X.xe) (hc : JT X c t) (hb : JB X body b) : JS X (.While c body [] pos) (sWhile t b) := by
  obtain ⟨t1, p1, l1⟩ := hc
  obtain ⟨t2, p2, l2⟩ := hb
  refine ⟨_, ps_while hp p1 p2, ⟨fun c L σ E D hs h k1 k2 k3 k4 => ?_⟩⟩
  obtain ⟨n, h⟩ := h
  refine ⟨fun m σ' H' => ∃ (d : Cf X.K) (L' : Ls), d.H = H' ∧ c.Le d ∧ d.sl σ' L' ∧ whileRun t b E m L' d.S, ⟨n, c, L, rfl, .refl c, hs, h⟩, ?_⟩
  rintro m σ' H' ⟨d, L', rfl, le, hs', h'⟩
  cases m with
  | zero => exact h'.elim
  | succ m =>
    refine l1.run d L' σ' _ _ hs' h' fun d1 k le1 h1 => ?_
    cases k with
    | true =>
      rw [if_pos rfl] at h1 ⊢
      refine ⟨fun σ2 H2 => ∃ (d2 : Cf X.K) (L2 : Ls), d2.H = H2 ∧ c.Le d2 ∧ d2.sl σ2 L2 ∧ whileRun t b E m L2 d2.S, fun σ2 H2 h2 => ⟨m, Nat.lt_succ_self _, h2⟩, ?_⟩
      refine l2.run d1 L' σ' _ _ (le1.sl hs') h1 (fun d3 σ3 L3 le3 hs3 h3 => ?_) (fun d3 v a le3 r3 h3 => ?_) (fun d3 σ3 L3 le3 hs3 h3 => ?_) (fun d3 σ3 L3 le3 hs3 h3 => ?_)
      · exact ⟨d3, L3, rfl, le.trans (le1.trans le3), hs3, h3⟩
      · exact k2 d3 v a (le.trans (le1.trans le3)) r3 h3
      · exact k1 d3 σ3 L3 (le.trans (le1.trans le3)) hs3 h3
      · exact ⟨d3, L3, rfl, le.trans (le1.trans le3), hs3, h3⟩
    | false =>
      rw [if_neg Bool.false_ne_true] at h1 ⊢
      exact k1 d1 σ' L' (le.trans le1) (le1.sl hs') h1
end
/-! ### comprehensions -/
def wipeL (L : Ls) : List Nat → Ls
  | [] => L
  | v :: vs => (wipeL L vs).set v none
theorem Cf.sl.wipe {K : PySem.W.Frag} {c : Cf K} {σ : St} {L : Ls} (h : c.sl σ L) : ∀ vs : List Nat, c.sl (L2.wipe σ vs) (wipeL L vs)
  | [] => h
  | v :: vs => by
    have ih := Cf.sl.wipe h vs
    refine ⟨by simp [wipeL, L2.wipe, ih.1], fun i a e => ?_⟩
    have e : ((wipeL L vs).set v none)[i]? = some (some a) := e
    by_cases hv : v = i
    · subst hv
      rw [List.getElem?_set_self (by have := (List.getElem?_eq_some_iff.mp e).1; simpa using this)] at e
      cases e
    · rw [List.getElem?_set_ne hv] at e
      obtain ⟨w, q, r⟩ := ih.2 i a e
      refine ⟨w, ?_, r⟩
      show ((L2.wipe σ vs).set v none)[i]? = _
      rw [List.getElem?_set_ne hv]
      exact q
structure JTs (X : Cx) (ifs : List Expr) (t : AT) : Prop where
  ex : ∃ te, PTs X ifs te ∧ LiftT X.K te t
def aYes : AT := fun _ S Post => Post true S
theorem jts_nil {X : Cx} : JTs X [] aYes := ⟨_, pts_nil, ⟨fun c L σ Post Q hs h q => q c true (.refl c) h⟩⟩
theorem jts_one {X : Cx} {c : Expr} {t : AT} (h : JT X c t) : JTs X [c] t := let ⟨_, p, l⟩ := h; ⟨_, pts_one p, l⟩
/-- a target that stores its names in the block's own slots alone -/
structure JGo (X : Cx) (vs : List Nat) (tg : Expr) (t : AG) : Prop where
  ex : ∃ ts, PG X tg ts ∧ ∀ (c : Cf X.K) (L : Ls) (σ : St) (v : V) (a : D) (Post : Ls → List O → Prop) (Q : St → Hp → Prop), c.sl (wipe σ vs) L → c.re v a → t a L c.S Post →
    (∀ (d : Cf X.K) σ' L', c.Le d → d.sl σ' L' → wipe σ' vs = wipe σ vs → Post L' d.S → Q σ' d.H) → ts v (wipe σ vs) c.H Q
theorem wipe_set {σ : St} {i : Nat} {v : Option V} : ∀ {vs : List Nat}, i ∈ vs → wipe (σ.set i v) vs = wipe σ vs
  | w :: vs, h => by
    show (wipe (σ.set i v) vs).set w none = (wipe σ vs).set w none
    by_cases hi : i ∈ vs
    · rw [wipe_set hi]
    · have hw : i = w := by
        rcases List.mem_cons.mp h with z | z
        · exact z
        · exact absurd z hi
      subst hw
      have key : ∀ us : List Nat, i ∉ us → wipe (σ.set i v) us = (wipe σ us).set i v := by
        intro us
        induction us with
        | nil => intro _; rfl
        | cons u us ih =>
          intro hu
          rw [List.mem_cons, not_or] at hu
          show (wipe (σ.set i v) us).set u none = ((wipe σ us).set u none).set i v
          rw [ih hu.2, List.set_comm _ _ hu.1]
      rw [key vs hi, List.set_set]
theorem wipe_wipe {σ : St} : ∀ {vs : List Nat}, wipe (wipe σ vs) vs = wipe σ vs := by
  intro vs
  have key : ∀ us : List Nat, (∀ u ∈ us, u ∈ vs) → wipe (wipe σ us) vs = wipe σ vs := by
    intro us
    induction us with
    | nil => intro _; rfl
    | cons u us ih =>
      intro hu
      show wipe ((wipe σ us).set u none) vs = _
      rw [wipe_set (hu u (by simp)), ih fun x hx => hu x (List.mem_cons_of_mem _ hx)]
  exact key vs fun _ h => h
theorem jgo_name {X : Cx} {vs : List Nat} {pos : Pos} (i : Nat) {x : Str} (hN : X.N.Nodup) (hv : i ∈ vs := by decide) (hi : X.N[i]? = some x := by rfl) (hx : Loc X.env.scope x := by first | exact Or.inl rfl | exact Or.inr rfl) (hf : X.fn x = true ∨ X.env.scope.names.lookup x = some .local := by first | exact .inl rfl | exact .inr rfl | assumption) : JGo X vs (.Name x pos) (agName i) :=
  ⟨_, pg_name hN hi hx hf, fun c L σ v a Post Q hs re h q => q c _ _ (.refl c) (hs.set re) (by rw [wipe_set hv, wipe_wipe]) h⟩
structure JGos (X : Cx) (vs : List Nat) (tg : List Expr) (t : AGs) : Prop where
  ex : ∃ ts, PGs X tg ts ∧ ∀ (c : Cf X.K) (L : Ls) (σ σ0 : St) (ws : List V) (as : List D) (Post : Ls → List O → Prop) (Q : St → Hp → Prop), c.sl σ L → wipe σ vs = wipe σ0 vs → ReL X.K c.η c.Hk ws as → t as L c.S Post →
    (∀ (d : Cf X.K) σ' L', c.Le d → d.sl σ' L' → wipe σ' vs = wipe σ0 vs → Post L' d.S → Q σ' d.H) → ts ws σ c.H Q
theorem jgos_nil {X : Cx} {vs : List Nat} : JGos X vs [] agNil := by
  refine ⟨_, pgs_nil, fun c L σ σ0 ws as Post Q hs hw re h q => ?_⟩
  unfold agNil at h
  split at h
  · cases re
    exact ⟨rfl, q c σ L (.refl c) hs hw h⟩
  · exact h.elim
theorem jgos_name {X : Cx} {vs : List Nat} {pos : Pos} {es : List Expr} {r : AGs} (i : Nat) {x : Str} (hN : X.N.Nodup) (h2 : JGos X vs es r) (hv : i ∈ vs := by decide) (hi : X.N[i]? = some x := by rfl) (hx : Loc X.env.scope x := by first | exact Or.inl rfl | exact Or.inr rfl)
    (hf : X.fn x = true ∨ X.env.scope.names.lookup x = some .local := by first | exact .inl rfl | exact .inr rfl | assumption)
    (hs : (assignEach ((Expr.Name x pos) :: es) X.env).map (·.2) = assign (Expr.Name x pos) X.env :: (assignEach es X.env).map (·.2) := by rfl) : JGos X vs (.Name x pos :: es) (agCons (agName i) r) := by
  obtain ⟨t2, p2, l2⟩ := h2
  refine ⟨_, pgs_cons (pg_name hN hi hx hf) p2 hs, fun c L σ σ0 ws as Post Q hs hw re h q => ?_⟩
  unfold agCons at h
  split at h
  · cases re with
    | cons r1 rr =>
      exact ⟨_, _, rfl, l2 c _ _ σ0 _ _ _ _ (hs.set r1) (by rw [wipe_set hv]; exact hw) rr h q⟩
  · exact h.elim
theorem jgo_tup {X : Cx} {vs : List Nat} {pos : Pos} {es : List Expr} {k n : Nat} {g : AGs} (hc : X.calm = true) (h : JGos X vs es g) (hn : (assignEach es X.env).length = n := by rfl) (hst : (assignEach es X.env).findIdx? (·.1) = none := by rfl) : JGo X vs (.Tuple es k pos) (agTup n g) := by
  obtain ⟨t1, p1, l1⟩ := h
  refine ⟨_, pg_tup hc p1 hn hst, fun c L σ v a Post Q hs re h q => ?_⟩
  unfold agTup at h
  split at h
  · rename_i xs
    cases (show Rp X.K c.Hk v (.tup xs) from re) with
    | tup s z l =>
      obtain ⟨hl, h⟩ := h
      exact ⟨_, _, rfl, c.ok.ex.sqT s, by rw [l.length]; exact hl, l1 c L _ σ _ _ _ _ hs wipe_wipe (ReL.pure l) h q⟩
  · exact h.elim
/-- the turns of a list comprehension; acc: what is made so far -/
def lcRun (keep : List O → Prop) (g : AG) (t : AT) (e : AE) (L : Ls) (Post : List D → List O → Prop) : List D → List D → List O → Prop
  | [], acc, S => keep S ∧ Post acc S
  | x :: xs, acc, S => keep S ∧ g x L S fun L1 S1 => t L1 S1 fun b S2 => if b = true then e L1 S2 fun y S3 => lcRun keep g t e L Post xs (acc ++ [y]) S3 else lcRun keep g t e L Post xs acc S2
theorem lcRun_keep {keep : List O → Prop} {g : AG} {t : AT} {e : AE} {L : Ls} {Post : List D → List O → Prop} {acc : List D} {S : List O} : ∀ {xs : List D}, lcRun keep g t e L Post xs acc S → keep S
  | [], h => h.1
  | _ :: _, h => h.1
/-- a frozen list; an owned one -/
def aLc (ti : AI) (g : AG) (t : AT) (e : AE) (vs : List Nat) : AE := fun L S Post => ti L S fun items keep S1 => lcRun keep g t e (wipeL L vs) (fun acc S2 => ∃ xs : List P, acc = xs.map .p ∧ Post (.p (.lst xs)) S2) items [] S1
def aLcO (ti : AI) (g : AG) (t : AT) (e : AE) (vs : List Nat) : AE := fun L S Post => ti L S fun items keep S1 => lcRun keep g t e (wipeL L vs) (fun acc S2 => Post (.own S2.length) (S2 ++ [.lst acc])) items [] S1
section
variable {K : PySem.W.Frag}
/-- a configuration with one more foreign object at D -/
def Cf.with (c : Cf K) (D : Addr) (u : HO) (h1 : D ∉ c.η) (h2 : c.Hk D = none) : Cf K := ⟨c.η, c.Hk, upd c.H D u, c.S, c.ok.foreign h1 h2 u⟩
theorem lift_lc {wi : TI} {tg : TG} {tt : TT} {te : TE} {ti : AI} {g : AG} {t : AT} {e : AE} {vs : List Nat} (l1 : LiftI K wi ti)
    (l2 : ∀ (c : Cf K) (L : Ls) (σ : St) (v : V) (a : Am.D) (Post : Ls → List O → Prop) (Q : St → Hp → Prop), c.sl (wipe σ vs) L → c.re v a → g a L c.S Post →
      (∀ (d : Cf K) σ' L', c.Le d → d.sl σ' L' → wipe σ' vs = wipe σ vs → Post L' d.S → Q σ' d.H) → tg v (wipe σ vs) c.H Q) (l3 : LiftT K tt t) (l4 : LiftE K te e)
    (c : Cf K) (L : Ls) (σ : St) (Post : List Am.D → List O → Prop) (Q : VK) (hs : c.sl σ L) (h : ti L c.S fun items keep S1 => lcRun keep g t e (wipeL L vs) Post items [] S1)
    (q : ∀ (d : Cf K) (D : Addr) (xs : List V) (acc : List Am.D), c.Le d → D ∉ d.η → d.Hk D = none → c.H D = none → d.H D = some (.lst xs) → acc.length ≤ sizeLine → ReL K d.η d.Hk xs acc → Post acc d.S → Q (.ref D) d.H) : tLc wi tg tt te vs σ c.H Q := by
  refine l1.run c L σ _ _ hs h fun d J items keep le wk h => ?_
  intro D hD
  have dη := d.ok.not_mem hD
  have dk := d.ok.knone hD
  have cD : c.H D = none := by
    cases z : c.H D with
    | none => rfl
    | some o => exact absurd hD (le.kept D (by rw [z]; simp))
  refine ⟨fun i m H' => ∃ (d' : Cf K) (xs : List V) (acc : List Am.D), d'.H = H' ∧ m = items.length - i ∧ i ≤ items.length ∧ d.Le d' ∧ D ∉ d'.η ∧ d'.Hk D = none ∧ H' D = some (.lst xs) ∧ acc.length ≤ i ∧ ReL K d'.η d'.Hk xs acc ∧ lcRun keep g t e (wipeL L vs) Post (items.drop i) acc d'.S,
    ⟨items.length, d.with D (.lst []) dη dk, [], [], rfl, by simp, Nat.zero_le _, ?_, dη, dk, upd_same, Nat.le_refl _, .nil, h⟩, ?_⟩
  · exact ⟨.refl _, ⟨[], by simp [Cf.with]⟩, fun b o e hb => by show upd d.H D _ b = _; rw [upd_ne (ne_of_none e hD)]; exact e, fun b hb => .inl hb, fun b hb => .inr (.inl hb), fun b hb => by
      show upd d.H D _ b ≠ none
      by_cases e : b = D
      · subst e; rw [upd_same]; simp
      · rw [upd_ne e]; exact hb⟩
  rintro i m H' ⟨d', xs, acc, rfl, rfl, hi, le', nD, kD, hH, ha, rl, h'⟩
  have hk := lcRun_keep h'
  by_cases hlt : i < items.length
  · rw [List.drop_eq_getElem_cons hlt] at h'
    obtain ⟨_, h'⟩ := h'
    -- through any step the list at D stays
    have stay : ∀ {f f' : Cf K} {ys : List V}, f.Le f' → D ∉ f.η → f.Hk D = none → f.H D = some (.lst ys) → D ∉ f'.η ∧ f'.Hk D = none ∧ f'.H D = some (.lst ys) := fun {f f' ys} l n1 n2 n3 => by
      refine ⟨fun z => ?_, ?_, l.fr D _ n3 n1⟩
      · rcases l.newE D z with z | z
        · exact n1 z
        · rw [n3] at z; cases z
      · cases z : f'.Hk D with
        | none => rfl
        | some o =>
          rcases l.newK D (by rw [z]; simp) with y | y | y
          · exact absurd y n1
          · exact absurd n2 y
          · rw [n3] at y; cases y
    refine .inr ⟨wk.go d' i le' hk hlt, fun H2 => ∃ (d2 : Cf K) (xs : List V) (acc : List Am.D), d2.H = H2 ∧ d.Le d2 ∧ D ∉ d2.η ∧ d2.Hk D = none ∧ H2 D = some (.lst xs) ∧ acc.length ≤ i + 1 ∧ ReL K d2.η d2.Hk xs acc ∧ lcRun keep g t e (wipeL L vs) Post (items.drop (i + 1)) acc d2.S,
      fun H2 ⟨d2, xs, acc, e, le2, n1, n2, n3, n4, n5, n6⟩ => ⟨items.length - (i + 1), by omega, d2, xs, acc, e, rfl, hlt, le2, n1, n2, n3, n4, n5, n6⟩, fun x H'' y => ?_⟩
    obtain ⟨d1, rfl, hS, le1, a, ea, ra⟩ := wk.yld d' i x H'' le' hk hlt y
    have ea' : a = items[i] := by rw [List.getElem?_eq_getElem hlt] at ea; exact (Option.some.inj ea).symm
    subst ea'
    rw [← hS] at h'
    obtain ⟨n1, k1, hH1⟩ := stay le1 nD kD hH
    refine l2 d1 (wipeL L vs) σ x _ _ _ (((le.trans (le'.trans le1)).sl hs).wipe vs) ra h' fun d2 σ2 L2 le2 hs2 hw2 h2 => ?_
    obtain ⟨n2, k2, hH2⟩ := stay le2 n1 k1 hH1
    refine ⟨hw2, ?_⟩
    refine l3.run d2 L2 σ2 _ _ hs2 h2 fun d3 b le3 h3 => ?_
    obtain ⟨n3, k3, hH3⟩ := stay le3 n2 k2 hH2
    have le03 : d'.Le d3 := le1.trans (le2.trans le3)
    cases b with
    | true =>
      rw [if_pos rfl] at h3 ⊢
      refine l4.run d3 L2 σ2 _ _ (le3.sl hs2) h3 fun d4 v a4 le4 r4 h4 => ?_
      obtain ⟨n4, k4, hH4⟩ := stay le4 n3 k3 hH3
      have le04 : d'.Le d4 := le03.trans le4
      have hlen : acc.length < sizeLine := by have := wk.size; omega
      refine ⟨xs, hH4, by rw [rl.length]; exact hlen, ?_⟩
      refine ⟨d4.with D (.lst (xs ++ [v])) n4 k4, xs ++ [v], acc ++ [a4], rfl, ?_, n4, k4, upd_same, by simp; omega, (le04.reL rl).append (.cons r4 .nil), h4⟩
      have l5 := le'.trans le04
      refine ⟨l5.ex, l5.pre, fun b o e hb => ?_, l5.newE, l5.newK, fun b hb => ?_⟩
      · show upd d4.H D _ b = _
        rw [upd_ne (ne_of_none e hD)]
        exact l5.fr b o e hb
      · show upd d4.H D _ b ≠ none
        by_cases e : b = D
        · subst e; rw [upd_same]; simp
        · rw [upd_ne e]; exact l5.kept b hb
    | false =>
      rw [if_neg Bool.false_ne_true] at h3 ⊢
      exact ⟨d3, xs, acc, rfl, le'.trans le03, n3, k3, hH3, by omega, le03.reL rl, h3⟩
  · rw [List.drop_eq_nil_of_le (by omega)] at h'
    refine .inl ⟨wk.stop d' i le' hk (by omega), ?_⟩
    exact q d' D xs acc (le.trans le') nD kD cD hH (by have := wk.size; omega) rl h'.2
/-- the new list is known, or owned, from now on -/
theorem Cf.Le.adopt {c d : Cf K} (le : c.Le d) {D : Addr} {u : HO} (nD : D ∉ d.η) (kD : d.Hk D = none) (cD : c.H D = none) (hD : d.H D = some u) : ∃ e : Cf K, e.H = d.H ∧ e.S = d.S ∧ e.η = d.η ∧ e.Hk = upd d.Hk D u ∧ c.Le e :=
  ⟨⟨d.η, upd d.Hk D u, d.H, d.S, d.ok.adopt nD kD hD⟩, rfl, rfl, rfl, rfl, ⟨le.ex.trans (.new kD), le.pre, le.fr, le.newE, fun b hb => by
    by_cases e : b = D
    · subst e; exact .inr (.inr cD)
    · have hb : upd d.Hk D u b ≠ none := hb
      rw [upd_ne e] at hb; exact le.newK b hb, le.kept⟩⟩
theorem Cf.Le.adoptOwn {c d : Cf K} (le : c.Le d) {D : Addr} {o : O} (nD : D ∉ d.η) (kD : d.Hk D = none) (cD : c.H D = none) (hD : ∃ u, d.H D = some u) (hO : ObjR K (d.η ++ [D]) d.Hk d.H D o) : ∃ e : Cf K, e.H = d.H ∧ e.S = d.S ++ [o] ∧ e.η = d.η ++ [D] ∧ e.Hk = d.Hk ∧ c.Le e :=
  ⟨⟨d.η ++ [D], d.Hk, d.H, d.S ++ [o], d.ok.adoptOwn nD kD hD hO⟩, rfl, rfl, rfl, rfl, ⟨le.ex, let ⟨m, e⟩ := le.pre; ⟨m ++ [D], by show d.η ++ [D] = _; rw [e, List.append_assoc]⟩, le.fr, fun b hb => by
    rcases List.mem_append.mp hb with z | z
    · exact le.newE b z
    · rw [List.mem_singleton] at z; subst z; exact .inr cD, le.newK, le.kept⟩⟩
theorem lift_lcF {wi : TI} {tg : TG} {tt : TT} {te : TE} {ti : AI} {g : AG} {t : AT} {e : AE} {vs : List Nat} (l1 : LiftI K wi ti)
    (l2 : ∀ (c : Cf K) (L : Ls) (σ : St) (v : V) (a : Am.D) (Post : Ls → List O → Prop) (Q : St → Hp → Prop), c.sl (wipe σ vs) L → c.re v a → g a L c.S Post →
      (∀ (d : Cf K) σ' L', c.Le d → d.sl σ' L' → wipe σ' vs = wipe σ vs → Post L' d.S → Q σ' d.H) → tg v (wipe σ vs) c.H Q) (l3 : LiftT K tt t) (l4 : LiftE K te e) : LiftE K (tLc wi tg tt te vs) (aLc ti g t e vs) := by
  refine ⟨fun c L σ Post Q hs h q => lift_lc l1 l2 l3 l4 c L σ _ Q hs h fun d D xs acc le nD kD cD hH hz rl ⟨ps, ea, p⟩ => ?_⟩
  subst ea
  have rp := ReL.impure rl
  obtain ⟨f, e1, e2, e3, e4, lf⟩ := le.adopt nD kD cD hH
  rw [← e1]
  refine q f (.ref D) (.p (.lst ps)) lf ?_ (by rw [e2]; exact p)
  have hx : Ex d.Hk f.Hk := by rw [e4]; exact .new kD
  exact .lst (by rw [e4]; exact upd_same) (by simpa using hz) (RpL.mono hx ps xs rp)
theorem lift_lcO {wi : TI} {tg : TG} {tt : TT} {te : TE} {ti : AI} {g : AG} {t : AT} {e : AE} {vs : List Nat} (l1 : LiftI K wi ti)
    (l2 : ∀ (c : Cf K) (L : Ls) (σ : St) (v : V) (a : Am.D) (Post : Ls → List O → Prop) (Q : St → Hp → Prop), c.sl (wipe σ vs) L → c.re v a → g a L c.S Post →
      (∀ (d : Cf K) σ' L', c.Le d → d.sl σ' L' → wipe σ' vs = wipe σ vs → Post L' d.S → Q σ' d.H) → tg v (wipe σ vs) c.H Q) (l3 : LiftT K tt t) (l4 : LiftE K te e) : LiftE K (tLc wi tg tt te vs) (aLcO ti g t e vs) := by
  refine ⟨fun c L σ Post Q hs h q => lift_lc l1 l2 l3 l4 c L σ _ Q hs h fun d D xs acc le nD kD cD hH hz rl p => ?_⟩
  obtain ⟨f, e1, e2, e3, e4, lf⟩ := le.adoptOwn (o := .lst acc) nD kD cD ⟨_, hH⟩ ⟨hz, xs, hH, rl.mono' ⟨.refl _, ⟨[D], rfl⟩⟩⟩
  rw [← e1]
  refine q f (.ref D) (.own d.S.length) lf ⟨D, ?_, rfl⟩ (by rw [e2]; exact p)
  rw [e3, ← d.ok.len]
  simp
end
section
variable {X : Cx}
abbrev Blk (X : Cx) (scope : Scope) (J : Cx → Prop) : Prop := ∀ (s : Shared) (H : Hp) (C : Addr) (cl : List (Str × Addr)) (fp : List Addr), J (X.blk s H scope (compEnvC scope cl C X.env) fp)
end
end Am
/-! Am: comprehensions as expressions, what is walked, a def by its body. -/
namespace Am
open PySem L2
/-! ### the reading that a lifted one stands for -/
def conE (K : PySem.W.Frag) (t : AE) : TE := fun σ H Q => ∃ (c : Cf K) (L : Ls) (Post : D → List O → Prop), c.H = H ∧ c.sl σ L ∧ t L c.S Post ∧ ∀ (d : Cf K) v a, c.Le d → d.re v a → Post a d.S → Q v d.H
def conT (K : PySem.W.Frag) (t : AT) : TT := fun σ H Q => ∃ (c : Cf K) (L : Ls) (Post : Bool → List O → Prop), c.H = H ∧ c.sl σ L ∧ t L c.S Post ∧ ∀ (d : Cf K) b, c.Le d → Post b d.S → Q b d.H
def conG (K : PySem.W.Frag) (vs : List Nat) (t : AG) : TG := fun v σ0 H Q => ∃ (c : Cf K) (L : Ls) (σ : St) (a : D) (Post : Ls → List O → Prop), c.H = H ∧ σ0 = wipe σ vs ∧ c.sl σ0 L ∧ c.re v a ∧ t a L c.S Post ∧
  ∀ (d : Cf K) σ' L', c.Le d → d.sl σ' L' → wipe σ' vs = wipe σ vs → Post L' d.S → Q σ' d.H
theorem conE_lift {K : PySem.W.Frag} {t : AE} : LiftE K (conE K t) t := ⟨fun c L σ Post Q hs h q => ⟨c, L, Post, rfl, hs, h, q⟩⟩
theorem conT_lift {K : PySem.W.Frag} {t : AT} : LiftT K (conT K t) t := ⟨fun c L σ Post Q hs h q => ⟨c, L, Post, rfl, hs, h, q⟩⟩
section
variable {X : Cx}
theorem JE.can {e : Expr} {t : AE} (h : JE X e t) : PE X e (conE X.K t) := by
  obtain ⟨te, p, l⟩ := h
  refine ⟨fun pins s σ H Q I ⟨c, L, Post, e1, hs, h, q⟩ => ?_⟩
  subst e1
  exact p.run pins s σ _ Q I (l.run c L σ Post Q hs h q)
theorem JTs.can {e : List Expr} {t : AT} (h : JTs X e t) : PTs X e (conT X.K t) := by
  obtain ⟨te, p, l⟩ := h
  refine ⟨fun pins s σ H Q I ⟨c, L, Post, e1, hs, h, q⟩ => ?_⟩
  subst e1
  exact p.run pins s σ _ Q I (l.run c L σ Post Q hs h q)
theorem JGo.can {vs : List Nat} {e : Expr} {t : AG} (h : JGo X vs e t) : PG X e (conG X.K vs t) := by
  obtain ⟨te, p, l⟩ := h
  refine ⟨fun pins s σ H v u Q I r ⟨c, L, σ1, a, Post, e1, e2, hs, re, h, q⟩ => ?_⟩
  subst e1
  subst e2
  exact p.run pins s _ _ v u Q I r (l c L σ1 v a Post Q hs re h q)
theorem conG_lift {K : PySem.W.Frag} {vs : List Nat} {t : AG} (c : Cf K) (L : Ls) (σ : St) (v : V) (a : D) (Post : Ls → List O → Prop) (Q : St → Hp → Prop) (hs : c.sl (wipe σ vs) L) (re : c.re v a) (h : t a L c.S Post)
    (q : ∀ (d : Cf K) σ' L', c.Le d → d.sl σ' L' → wipe σ' vs = wipe σ vs → Post L' d.S → Q σ' d.H) : conG K vs t v (wipe σ vs) c.H Q := ⟨c, L, σ, a, Post, rfl, rfl, hs, re, h, q⟩
section
variable {elt tg iter : Expr} {ifs : List Expr} {scope : Scope} {own : List (Str × Nat)} {pos : Pos} {ti : AI} {g : AG} {t : AT} {e : AE}
theorem je_lc (hc : X.calm = true) (hN : X.N.Nodup) (hi : JI X tg iter ti) (ok : BlkOk X.N X.env.scope scope own) (hg : Blk X scope fun Y => JGo Y (own.map (·.2)) tg g) (ht : Blk X scope fun Y => JTs Y ifs t) (he : Blk X scope fun Y => JE Y elt e)
    (hs : ∀ x, foldedSetIterable iter X.env x = pure x := by intro _; rfl) : JE X (.ListComp elt [⟨tg, iter, ifs, 0⟩] scope pos) (aLc ti g t e (own.map (·.2))) := by
  obtain ⟨wi, p1, l1⟩ := hi
  exact ⟨_, pe_lc hc hN p1 ok (fun s H C cl fp => (hg s H C cl fp).can) (fun s H C cl fp => (ht s H C cl fp).can) (fun s H C cl fp => (he s H C cl fp).can) hs, lift_lcF l1 conG_lift conT_lift conE_lift⟩
theorem je_lcO (hc : X.calm = true) (hN : X.N.Nodup) (hi : JI X tg iter ti) (ok : BlkOk X.N X.env.scope scope own) (hg : Blk X scope fun Y => JGo Y (own.map (·.2)) tg g) (ht : Blk X scope fun Y => JTs Y ifs t) (he : Blk X scope fun Y => JE Y elt e)
    (hs : ∀ x, foldedSetIterable iter X.env x = pure x := by intro _; rfl) : JE X (.ListComp elt [⟨tg, iter, ifs, 0⟩] scope pos) (aLcO ti g t e (own.map (·.2))) := by
  obtain ⟨wi, p1, l1⟩ := hi
  exact ⟨_, pe_lc hc hN p1 ok (fun s H C cl fp => (hg s H C cl fp).can) (fun s H C cl fp => (ht s H C cl fp).can) (fun s H C cl fp => (he s H C cl fp).can) hs, lift_lcO l1 conG_lift conT_lift conE_lift⟩
theorem lift_setLc {te : TE} {ta : AE} {i : Nat} (l : LiftE X.K te ta) : LiftS X.K (tAsg te (gName i)) (sAsg ta (agName i)) :=
  ⟨fun c L σ E D hs h k1 k2 k3 k4 => l.run c L σ _ _ hs h fun d v a le re h => k1 d _ _ le ((le.sl hs).set re) h⟩
theorem js_setLc (i : Nat) {y : Str} {py spos : Pos} (hc : X.calm = true) (hN : X.N.Nodup) (hsw : swapsWith (.ListComp elt [⟨tg, iter, ifs, 0⟩] scope pos) (some (.Name y py)) spos.line X.env = pure true) (hi : JI X tg iter ti) (ok : BlkOk X.N X.env.scope scope own) (hg : Blk X scope fun Y => JGo Y (own.map (·.2)) tg g) (ht : Blk X scope fun Y => JTs Y ifs t) (he : Blk X scope fun Y => JE Y elt e)
    (hy : X.N[i]? = some y := by rfl) (hyl : X.env.scope.names.lookup y = some .local := by rfl) (hs : ∀ x, foldedSetIterable iter X.env x = pure x := by intro _; rfl) :
    JS X (.Assign [.Name y py] (.ListComp elt [⟨tg, iter, ifs, 0⟩] scope pos) spos) (sAsg (aLc ti g t e (own.map (·.2))) (agName i)) := by
  obtain ⟨wi, p1, l1⟩ := hi
  exact ⟨_, ps_setLc hc hN hy hyl hsw p1 ok (fun s H C cl fp => (hg s H C cl fp).can) (fun s H C cl fp => (ht s H C cl fp).can) (fun s H C cl fp => (he s H C cl fp).can) hs, lift_setLc (lift_lcF l1 conG_lift conT_lift conE_lift)⟩
theorem js_setLcO (i : Nat) {y : Str} {py spos : Pos} (hc : X.calm = true) (hN : X.N.Nodup) (hsw : swapsWith (.ListComp elt [⟨tg, iter, ifs, 0⟩] scope pos) (some (.Name y py)) spos.line X.env = pure true) (hi : JI X tg iter ti) (ok : BlkOk X.N X.env.scope scope own) (hg : Blk X scope fun Y => JGo Y (own.map (·.2)) tg g) (ht : Blk X scope fun Y => JTs Y ifs t) (he : Blk X scope fun Y => JE Y elt e)
    (hy : X.N[i]? = some y := by rfl) (hyl : X.env.scope.names.lookup y = some .local := by rfl) (hs : ∀ x, foldedSetIterable iter X.env x = pure x := by intro _; rfl) :
    JS X (.Assign [.Name y py] (.ListComp elt [⟨tg, iter, ifs, 0⟩] scope pos) spos) (sAsg (aLcO ti g t e (own.map (·.2))) (agName i)) := by
  obtain ⟨wi, p1, l1⟩ := hi
  exact ⟨_, ps_setLc hc hN hy hyl hsw p1 ok (fun s H C cl fp => (hg s H C cl fp).can) (fun s H C cl fp => (ht s H C cl fp).can) (fun s H C cl fp => (he s H C cl fp).can) hs, lift_setLc (lift_lcO l1 conG_lift conT_lift conE_lift)⟩
end
end
/-! ### what is walked -/
section
variable {K : PySem.W.Frag}
/-- a list to be read -/
theorem Cf.list_own (c : Cf K) {v : V} {n : Nat} {ds : List D} (h : c.re v (.own n)) (e : c.S[n]? = some (.lst ds)) : ∃ a vs, v = .ref a ∧ c.η[n]? = some a ∧ c.H a = some (.lst vs) ∧ ReL K c.η c.Hk vs ds ∧ ds.length ≤ sizeLine := by
  obtain ⟨a, ea, rfl⟩ := h
  obtain ⟨z, vs, h1, h2⟩ := c.ok.obj n a _ ea e
  exact ⟨a, vs, rfl, ea, h1, h2, z⟩
/-- as Itl, Itt: yield by the walked list, whichever reading of it -/
theorem Wk.of_list {c : Cf K} {a : Addr} {ds : List D} (z : ds.length ≤ sizeLine) (keep : List O → Prop) (st : ∀ d : Cf K, c.Le d → keep d.S → ∃ vs, SqL K d.H a vs ∧ ReL K d.η d.Hk vs ds) : Wk K c (Itl K a) ds keep := by
  refine ⟨z, fun d i le hk hi => ?_, fun d i x H' le hk hi y => ?_, fun d i le hk hi => ?_⟩
  · obtain ⟨vs, s, l⟩ := st d le hk
    have hlt : i < vs.length := by rw [l.length]; exact hi
    exact ⟨vs, vs[i], s, List.getElem?_eq_getElem hlt⟩
  · obtain ⟨vs, s, l⟩ := st d le hk
    obtain ⟨rfl, y⟩ := y
    obtain ⟨b, e, r⟩ := l.get (y vs s)
    exact ⟨d, rfl, rfl, .refl d, b, e, r⟩
  · obtain ⟨vs, s, l⟩ := st d le hk
    exact ⟨vs, s, by rw [l.length]; exact hi⟩
theorem Wk.of_tup {c : Cf K} {a : Addr} {ds : List D} (z : ds.length ≤ sizeLine) (keep : List O → Prop) (st : ∀ d : Cf K, c.Le d → keep d.S → ∃ vs, SqT K d.H a vs ∧ ReL K d.η d.Hk vs ds) : Wk K c (Itt K a) ds keep := by
  refine ⟨z, fun d i le hk hi => ?_, fun d i x H' le hk hi y => ?_, fun d i le hk hi => ?_⟩
  · obtain ⟨vs, s, l⟩ := st d le hk
    have hlt : i < vs.length := by rw [l.length]; exact hi
    exact ⟨vs, vs[i], s, List.getElem?_eq_getElem hlt⟩
  · obtain ⟨vs, s, l⟩ := st d le hk
    obtain ⟨rfl, y⟩ := y
    obtain ⟨b, e, r⟩ := l.get (y vs s)
    exact ⟨d, rfl, rfl, .refl d, b, e, r⟩
  · obtain ⟨vs, s, l⟩ := st d le hk
    exact ⟨vs, s, by rw [l.length]; exact hi⟩
def iSeq (K : PySem.W.Frag) (tl : TE) : TI := fun σ H R => tl σ H fun x H1 => ∃ a, x = .ref a ∧ (((∃ xs, SqL K H1 a xs) ∧ R (Itl K a) H1) ∨ ((∃ xs, SqT K H1 a xs) ∧ R (Itt K a) H1))
theorem pi_seq {X : Cx} {tg l : Expr} {tl : TE} (hl : PE X l tl) : PI X tg l (iSeq X.K tl) := by
  refine ⟨fun pp s0 τ G R J w0 => thn (hl.run pp s0 τ G _ J w0) fun v s1 ⟨x, G1, J1, rr, a, ea, w1⟩ => ?_⟩
  subst ea
  obtain rfl : v = Value.ref a := rr
  have fr : ∀ b ∈ [s1.heap.objs.size], FpOk X pp G1 b := fun b hb => by
    rw [List.mem_singleton] at hb
    subst hb
    exact J1.fpOk (Nat.le_refl _) (J1.hok.fresh (Nat.le_refl _))
  rcases w1 with ⟨⟨xs, sq⟩, w2⟩ | ⟨⟨xs, sq⟩, w2⟩
  · obtain ⟨its, -, pl, -⟩ := J1.list sq
    refine wpAny_pyIter_list pl.isList ⟨s1.heap.objs.size, [s1.heap.objs.size], _, Itl X.K a, G1, rfl, ?_, turn_list a _, ⟨_, Heap.get?_push_size _ rfl, rfl, rfl⟩, fr, w2⟩
    exact J1.kept (t' := s1.toks) fun b o e => Heap.get?_push_of_some _ e
  · obtain ⟨its, -, pl, -⟩ := J1.tuple sq
    refine wpAny_pyIter_tuple (show s1.heap.IsTuple a its.toArray from pl) ⟨s1.heap.objs.size, [s1.heap.objs.size], _, Itt X.K a, G1, rfl, ?_, turn_tuple a _, ⟨_, Heap.get?_push_size _ rfl, rfl, rfl⟩, fr, w2⟩
    exact J1.kept (t' := s1.toks) fun b o e => Heap.get?_push_of_some _ e
def aiSeq (te : AE) : AI := fun L S Post => te L S fun a S1 => match a with
  | .p (.lst xs) => Post (xs.map .p) (fun _ => True) S1
  | .p (.tup xs) => Post (xs.map .p) (fun _ => True) S1
  | .p (.fz xs) => Post (xs.map .p) (fun _ => True) S1
  | .own n => ∃ ds, S1[n]? = some (.lst ds) ∧ Post ds (fun S => S[n]? = some (.lst ds)) S1
  | _ => False
theorem Cf.Le.sqL {c d : Cf K} (le : c.Le d) {a : Addr} {vs : List V} (h : SqL K c.Hk a vs) : SqL K d.H a vs := d.ok.ex.sqL (le.ex.sqL h)
theorem Cf.Le.sqT {c d : Cf K} (le : c.Le d) {a : Addr} {vs : List V} (h : SqT K c.Hk a vs) : SqT K d.H a vs := d.ok.ex.sqT (le.ex.sqT h)
theorem Cf.Le.ix {c d : Cf K} (le : c.Le d) {n : Nat} {a : Addr} (h : c.η[n]? = some a) : d.η[n]? = some a := by
  obtain ⟨m, e⟩ := le.pre
  rw [e, List.getElem?_append_left (List.getElem?_eq_some_iff.mp h).1]
  exact h
theorem ji_seq {X : Cx} {tg e : Expr} {te : AE} (h : JE X e te) : JI X tg e (aiSeq te) := by
  obtain ⟨t1, p1, l1⟩ := h
  refine ⟨_, pi_seq p1, ⟨fun c L σ Post R hs h q => l1.run c L σ _ _ hs h fun d v a le re h => ?_⟩⟩
  have pure : ∀ {a : Addr} {vs : List V} {xs : List P}, RpL X.K d.Hk vs xs → ∀ f : Cf X.K, d.Le f → ReL X.K f.η f.Hk vs (xs.map .p) := fun {a vs xs} l f lf => lf.reL (ReL.pure l)
  split at h
  · cases (show Rp X.K d.Hk v (.lst _) from re) with
    | lst s z l => exact ⟨_, rfl, .inl ⟨⟨_, d.ok.ex.sqL (SqL.of s)⟩, q d _ _ _ le (Wk.of_list (by simpa using z) _ fun f lf _ => ⟨_, lf.sqL (SqL.of s), pure (a := 0) l f lf⟩) h⟩⟩
  · cases (show Rp X.K d.Hk v (.tup _) from re) with
    | tup s z l => exact ⟨_, rfl, .inr ⟨⟨_, d.ok.ex.sqT s⟩, q d _ _ _ le (Wk.of_tup (by simpa using z) _ fun f lf _ => ⟨_, lf.sqT s, pure (a := 0) l f lf⟩) h⟩⟩
  · cases (show Rp X.K d.Hk v (.fz _) from re) with
    | fz s z l => exact ⟨_, rfl, .inl ⟨⟨_, d.ok.ex.sqL s⟩, q d _ _ _ le (Wk.of_list (by simpa using z) _ fun f lf _ => ⟨_, lf.sqL s, pure (a := 0) l f lf⟩) h⟩⟩
  · obtain ⟨ds, e1, h⟩ := h
    obtain ⟨b, vs, rfl, e2, e3, l, z⟩ := d.list_own re e1
    refine ⟨_, rfl, .inl ⟨⟨_, SqL.of e3⟩, q d _ ds _ le (Wk.of_list z _ fun f lf hk => ?_) h⟩⟩
    obtain ⟨z', vs', h1, h2⟩ := f.ok.obj _ b _ (lf.ix e2) hk
    exact ⟨vs', SqL.of h1, h2⟩
  · exact h.elim
/-- range(n), range(i, j) -/
def aiRng1 (t : AA) : AI := fun L S Post => t L S fun as S1 => match as with
  | [.p (.int j)] => -1000000 ≤ j ∧ j ≤ 16777216 ∧ Post ((List.range j.toNat).map fun k => .p (.int (k : Nat))) (fun _ => True) S1
  | _ => False
def aiRng2 (t : AA) : AI := fun L S Post => t L S fun as S1 => match as with
  | [.p (.int i), .p (.int j)] => (-1000000 ≤ i ∧ i ≤ 16777216 ∧ -1000000 ≤ j ∧ j ≤ 16777216 ∧ j - i ≤ 16777216) ∧ Post ((List.range (j - i).toNat).map fun k => .p (.int (i + (k : Nat)))) (fun _ => True) S1
  | _ => False
theorem Wk.range {c : Cf K} {lo : Int} {n : Nat} (z : n ≤ sizeLine) {f : Nat → D} (hf : ∀ k, f k = .p (.int (lo + (k : Nat)))) : Wk K c (Itr lo n) ((List.range n).map f) (fun _ => True) := by
  refine ⟨by simpa using z, fun d i le hk hi => (by simpa using hi : i < n), fun d i x H' le hk hi y => ?_, fun d i le hk hi => (by simpa using hi : n ≤ i)⟩
  obtain ⟨rfl, rfl⟩ := y
  have hi : i < n := by simpa using hi
  refine ⟨d, rfl, rfl, .refl d, .p (.int (lo + (i : Nat))), ?_, .int _⟩
  rw [List.getElem?_map, List.getElem?_range hi]
  exact congrArg some (hf i)
theorem ji_range1 {X : Cx} {tg e : Expr} {ta : AA} {p pos : Pos} (hg : Gl X "range") (hm : X.mg "range" = none) (ha : JA X [e] ta) (hs : starEach [e] X.env = [(false, eval e X.env)] := by rfl) : JI X tg (.Call (.Name "range" p) [e] [] pos) (aiRng1 ta) := by
  obtain ⟨t1, p1, l1⟩ := ha
  refine ⟨_, pi_range1 hg hm p1 hs, ⟨fun c L σ Post R hs h q => l1.run c L σ _ _ hs h fun d vs as le re h => ?_⟩⟩
  split at h
  · rename_i j
    obtain ⟨h1, h2, h⟩ := h
    cases re with
    | cons r rr =>
      cases rr
      cases (show Rp X.K d.Hk _ (.int j) from r)
      refine ⟨j, rfl, by omega, by omega, q d _ _ _ le (Wk.range (by rw [sizeLine_eq]; omega) fun k => ?_) h⟩
      rw [Int.zero_add]
  · exact h.elim
theorem ji_range2 {X : Cx} {tg e e2 : Expr} {ta : AA} {p pos : Pos} (hg : Gl X "range") (hm : X.mg "range" = none) (ha : JA X [e, e2] ta) (hs : starEach [e, e2] X.env = [(false, eval e X.env), (false, eval e2 X.env)] := by rfl) (hs2 : starEach [e2] X.env = [(false, eval e2 X.env)] := by rfl) :
    JI X tg (.Call (.Name "range" p) [e, e2] [] pos) (aiRng2 ta) := by
  obtain ⟨t1, p1, l1⟩ := ha
  refine ⟨_, pi_range2 hg hm p1 hs hs2, ⟨fun c L σ Post R hs h q => l1.run c L σ _ _ hs h fun d vs as le re h => ?_⟩⟩
  split at h
  · rename_i i j
    obtain ⟨⟨h1, h2, h3, h4, h5⟩, h⟩ := h
    cases re with
    | cons r rr =>
      cases rr with
      | cons r' rr =>
        cases rr
        cases (show Rp X.K d.Hk _ (.int i) from r)
        cases (show Rp X.K d.Hk _ (.int j) from r')
        exact ⟨i, j, rfl, ⟨by omega, by omega, by omega, by omega⟩, q d _ _ _ le (Wk.range (by rw [sizeLine_eq]; omega) fun k => rfl) h⟩
  · exact h.elim
end
/-! ### a def by its body -/
def startL (N : List Str) (as : List D) : Ls := as.map some ++ List.replicate (N.length - as.length) none
section
variable {P : Program} {w : World} {K : PySem.W.Frag} {mg : Str → Option Value} {base : Heap}
theorem start_sl (c : Cf K) {N : List Str} {vs : List V} {as : List D} (r : ReL K c.η c.Hk vs as) : c.sl (L2.start N vs) (startL N as) := by
  have hl := r.length
  refine ⟨by simp [L2.start, startL, hl], fun i d e => ?_⟩
  unfold startL at e
  unfold L2.start
  by_cases hi : i < as.length
  · rw [List.getElem?_append_left (by simpa using hi), List.getElem?_map] at e
    have e' : as[i]? = some d := by
      cases q : as[i]? with
      | none => rw [q] at e; cases e
      | some x => rw [q] at e; simpa using e
    obtain ⟨v, e2, r2⟩ := r.get' e'
    exact ⟨v, by rw [List.getElem?_append_left (by simpa [hl] using hi), List.getElem?_map, e2]; rfl, r2⟩
  · rw [List.getElem?_append_right (by simp; omega)] at e
    have := List.mem_of_getElem? e
    rw [List.mem_replicate] at this
    cases this.2
/-- names owned objects below n alone -/
def _root_.Am.D.bel (n : Nat) : D → Prop
  | .p _ => True
  | .own m => m < n
def _root_.Am.O.bel (n : Nat) : O → Prop
  | .lst xs => ∀ x ∈ xs, x.bel n
  | .dk kvs => ∀ x ∈ kvs, x.2.bel n
  | .dt kvs => ∀ x ∈ kvs, x.2.bel n
  | .ins _ fs => ∀ x ∈ fs, x.2.bel n
  | .dead => True
def Bel (n : Nat) (S : List O) : Prop := ∀ o ∈ S, o.bel n
section
variable {η : List Addr} {Hk H : Hp} {S : List O}
theorem Re.bel {v : V} {d : D} (h : Re K η Hk v d) : d.bel η.length := by
  cases d with
  | p x => trivial
  | own m => obtain ⟨a, e, _⟩ := h; exact (List.getElem?_eq_some_iff.mp e).1
theorem ReL.bel : ∀ {vs : List V} {ds : List D}, ReL K η Hk vs ds → ∀ d ∈ ds, d.bel η.length
  | _, _, .nil => fun _ h => nomatch h
  | _, _, .cons r l => fun d h => by
    rcases List.mem_cons.mp h with rfl | h
    · exact r.bel
    · exact ReL.bel l d h
theorem ReE.bel {κ : Type} : ∀ {vs : List (κ × V)} {ds : List (κ × D)}, ReE K η Hk vs ds → ∀ d ∈ ds, d.2.bel η.length
  | _, _, .nil => fun _ h => nomatch h
  | _, _, .cons r l => fun d h => by
    rcases List.mem_cons.mp h with rfl | h
    · exact r.bel
    · exact ReE.bel l d h
theorem Ok.bel (k : Ok K η Hk H S) : Bel S.length S := fun o ho => by
  obtain ⟨i, hi⟩ := List.mem_iff_getElem?.mp ho
  have hl : i < η.length := by rw [k.len]; exact (List.getElem?_eq_some_iff.mp hi).1
  have h := k.obj i η[i] o (List.getElem?_eq_getElem hl) hi
  rw [← k.len]
  cases o with
  | lst xs => obtain ⟨_, vs, _, l⟩ := h; exact l.bel
  | dk xs => obtain ⟨_, vs, _, l⟩ := h; exact l.bel
  | dt xs => obtain ⟨_, vs, _, l⟩ := h; exact l.bel
  | ins C xs => obtain ⟨_, _, vs, _, l⟩ := h; exact l.bel
  | dead => trivial
theorem Re.cut {n : Nat} {v : V} {d : D} (h : Re K η Hk v d) (b : d.bel n) : Re K (η.take n) Hk v d := by
  cases d with
  | p x => exact h
  | own m =>
    obtain ⟨a, e, r⟩ := h
    exact ⟨a, by rw [List.getElem?_take_of_lt b]; exact e, r⟩
theorem ReL.cut {n : Nat} : ∀ {vs : List V} {ds : List D}, ReL K η Hk vs ds → (∀ d ∈ ds, d.bel n) → ReL K (η.take n) Hk vs ds
  | _, _, .nil, _ => .nil
  | _, _, .cons r l, h => .cons (r.cut (h _ (by simp))) (ReL.cut l fun d hd => h d (List.mem_cons_of_mem _ hd))
theorem ReE.cut {κ : Type} {n : Nat} : ∀ {vs : List (κ × V)} {ds : List (κ × D)}, ReE K η Hk vs ds → (∀ d ∈ ds, d.2.bel n) → ReE K (η.take n) Hk vs ds
  | _, _, .nil, _ => .nil
  | _, _, .cons r l, h => .cons (r.cut (h _ List.mem_cons_self)) (ReE.cut l fun d hd => h d (List.mem_cons_of_mem _ hd))
theorem Ok.cut (k : Ok K η Hk H S) {n : Nat} (hb : Bel n (S.take n)) : Ok K (η.take n) Hk H (S.take n) := by
  have lt : ∀ {α : Type} {l : List α} {i : Nat} {x : α}, (l.take n)[i]? = some x → l[i]? = some x := fun {α l i x} h => by
    rw [List.getElem?_take] at h
    split at h
    · exact h
    · cases h
  refine ⟨k.ex, by simp [k.len], k.nd.sublist (List.take_sublist _ _), fun i a o e1 e2 nd => k.hid i a o (lt e1) (lt e2) nd, fun a ha => k.there a (List.mem_of_mem_take ha), fun i a o e1 e2 => ?_⟩
  have b := hb o (List.mem_of_getElem? e2)
  have h := k.obj i a o (lt e1) (lt e2)
  cases o with
  | lst xs => obtain ⟨z, vs, q, l⟩ := h; exact ⟨z, vs, q, l.cut b⟩
  | dk xs => obtain ⟨z, vs, q, l⟩ := h; exact ⟨z, vs, q, l.cut b⟩
  | dt xs => obtain ⟨z, vs, q, l⟩ := h; exact ⟨z, vs, q, l.cut b⟩
  | ins C xs => obtain ⟨z, dx, vs, q, l⟩ := h; exact ⟨z, dx, vs, q, l.cut b⟩
  | dead => trivial
theorem Cf.Le.cut {c d : Cf K} (le : c.Le d) {n : Nat} (hn : c.S.length ≤ n) (hb : Bel n (d.S.take n)) : ∃ e : Cf K, e.H = d.H ∧ e.S = d.S.take n ∧ e.η = d.η.take n ∧ e.Hk = d.Hk ∧ c.Le e := by
  refine ⟨⟨d.η.take n, d.Hk, d.H, d.S.take n, d.ok.cut hb⟩, rfl, rfl, rfl, rfl, ⟨le.ex, ?_, le.fr, fun b hb => le.newE b (List.mem_of_mem_take hb), le.newK, le.kept⟩⟩
  obtain ⟨m, e⟩ := le.pre
  refine ⟨m.take (n - c.η.length), ?_⟩
  show d.η.take n = _
  rw [e, List.take_append]
  congr 1
  exact List.take_of_length_le (by rw [c.ok.len]; exact hn)
end
/-- behind a def: what it made beyond the first n objects may be forgotten -/
def Cut (m : Nat) (Post : D → List O → Prop) (d : D) (S : List O) : Prop := Post d S ∨ ∃ n, m ≤ n ∧ Bel n (S.take n) ∧ d.bel n ∧ Post d (S.take n)
/-- the commonest: the store as it stood, and pure data -/
theorem Cut.pure {S : List O} {Post : D → List O → Prop} {x : Am.P} (hb : Bel S.length S) {junk : List O} (h : Post (.p x) S) : Cut S.length Post (.p x) (S ++ junk) :=
  .inr ⟨S.length, Nat.le_refl _, by rw [List.take_left']; exact hb; rfl, trivial, by rw [List.take_left']; exact h; rfl⟩
theorem Cut.id {m : Nat} {S : List O} {Post : D → List O → Prop} {d : D} (h : Post d S) : Cut m Post d S := .inl h
/-- the body of a def, where no repr is under way -/
theorem fn_g {CX : CXT} {k : Nat} {f : Addr} {name qual : Str} {params : Arguments} {body : List Stmt} {scope : Scope} {dV kV doc pm cdv ct oc : Value} {an od : Option Addr} {osl : Array (Option Value)} {N ps : List Str} {sp : Sp}
    (at_ : K.lookup f = some ⟨oc, od, .func (PySem.W.fnOf name qual params body scope dV kV doc pm an cdv ct), osl⟩) (code : PySem.W.codeIn K cdv qual = true) (S : FnScope N ps scope) (len : ∀ vs H Q E, sp vs H Q E → vs.length = ps.length)
    (inner : ∀ (A : Around) (outer : List Env) (s : Shared) (H : Hp) (vs : List V) (Q : VK) (E : XK), A.guards = some [] → Room k (A.deeper (PyProof.Rows.envOfC qual scope s.heap.objs.size f cdv)) → sp vs H Q E →
      ∃ t, PSs (cxOf CX P w K mg base N qual scope f cdv A outer s H E) body t ∧ t { nx := fun _ H' => Q .non H', rt := Q } (L2.start N vs) H) :
    FnG P w K mg base CX (k + 1) f (PySem.W.fnOf name qual params body scope dV kV doc pm an cdv ct) ps sp := by
  refine ⟨len, fun A outer s H args us vs Q E gd room e0 bnd rel want => ?_⟩
  have stay : ∀ b o, base.get? b = some o → s.heap.get? b = some o := fun b o e => (e0.bs b o e).1
  have kin : K.In s.heap := e0.mod.kin.keeps stay
  have kinds : ∀ y ∈ ps.zip us, scope.names.lookup y.1 = some .local ∨ (scope.names.lookup y.1 = some .cell ∧ ((cellsFrom (s.heap.objs.size + 1) scope.names []).lookup y.1).isSome = true) := by
    rintro ⟨n, v⟩ hy
    exact (S.par n (List.of_mem_zip hy).1).imp id fun q => ⟨q, PySem.W.cellsFrom_some _ _ _ (.inl q)⟩
  refine codeAny_call_function room.depth (kin _ _ at_) rfl S.co S.gen rfl (PySem.W.codeRec_of kin code) (bnd _ _ _ _ ?_)
  refine wpAny_newFunctionEnv_cells S.kind kinds fun env he s1 x => ?_
  subst he
  refine ⟨(e0.mod.nolimit.keeps stay).keeps x.toInCall.keep, codeAny_func ?_⟩
  obtain ⟨t, ht, hq⟩ := inner A outer s H vs Q E gd (room.deeper _) want
  refine wpAny_mono (ht.run [] s1 (L2.start N vs) H _ (inv_start S room.hd e0 (len _ _ _ _ want) rel x) hq) (fun fl s' hs => ?_) fun e s' hs => hs
  cases fl with
  | ret u =>
    obtain ⟨v, σ', H', J, rv, q⟩ := hs
    exact ⟨v, H', J.os, J.bare, J.base, J.hok, rv, q⟩
  | next =>
    obtain ⟨σ', H', J, q⟩ := hs
    exact ⟨.non, H', J.os, J.bare, J.base, J.hok, rfl, q⟩
  | brk => exact let ⟨_, _, _, q⟩ := hs; q.elim
  | cont => exact let ⟨_, _, _, q⟩ := hs; q.elim
/-- THE RULE for a def that lets nothing out -/
theorem fun_ok {x qual : Str} {st : Stmt} {f : Addr} {fd : FuncData} {N ps : List Str} {k : Nat} {G : FT} {t : AS} (F : Fun K x qual st f fd) (S : FnScope N ps (defScope st)) (len : ∀ as S Post, G as S Post → as.length = ps.length)
    (hb : ∀ (cdv : Value) (A : Around) (outer : List Env) (s : Shared) (H : Hp) (E : XK), A.guards = some [] → Room k (A.deeper (PyProof.Rows.envOfC qual (defScope st) s.heap.objs.size f cdv)) →
      JB (cxOf CX0 P w K mg base N qual (defScope st) f cdv A outer s H E).nox (defBody st) t)
    (hf : ∀ as S Post, Bel S.length S → G as S Post → t { nx := fun _ S' => Cut S.length Post (.p .non) S', rt := Cut S.length Post } (startL N as) S) : FnG P w K mg base CX0 (k + 1) f fd ps (spOf K G) := by
  obtain ⟨oc, od, kV, doc, pm, an, cdv, ct, osl, rfl, lk, hcd⟩ := F.ex
  refine fn_g lk hcd S (fun vs H Q E h => ?_) (fun A outer s H vs Q E gd hr h => ?_)
  · obtain ⟨c, as, Post, _, r, g, _⟩ := h
    rw [r.length]
    exact len _ _ _ g
  · obtain ⟨c, as, Post, e, r, g, q⟩ := h
    subst e
    obtain ⟨ts, p, l⟩ := hb cdv A outer s c.H E gd hr
    refine ⟨ts, p.nox, ?_⟩
    have fin : ∀ (d : Cf K) v a, c.Le d → d.re v a → Cut c.S.length Post a d.S → Q v d.H := fun d v a le r h => by
      rcases h with h | ⟨n, hn, hB, hd, h⟩
      · exact q d v a le r h
      · obtain ⟨e, e1, e2, e3, e4, le'⟩ := le.cut hn hB
        rw [← e1]
        refine q e v a le' ?_ (by rw [e2]; exact h)
        show Re K e.η e.Hk v a
        rw [e3, e4]
        exact Re.cut r hd
    exact l.run c (startL N as) (L2.start N vs) _ _ (start_sl c r) (hf as c.S Post c.ok.bel g) (fun d σ' L' le hs h => fin d .non (.p .non) le .non h) (fun d v a le r h => fin d v a le r h) (fun _ _ _ _ _ h => h.elim) (fun _ _ _ _ _ h => h.elim)
end
end Am
/-! Am: operations on deep data. -/
namespace Am
open PySem L2
/-! ### data as the library's data -/
mutual
def P.py : P → PyData
  | .non => .none
  | .bl b => .bool b
  | .int i => .int i
  | .str x => .str x
  | .tup xs => .tuple (P.pys xs)
  | .lst xs => .list (P.pys xs)
  | .fz xs => .list (P.pys xs)
  | .dk _ => .none
  | .dt _ => .none
  | .ins _ _ => .none
  | .vv _ => .none
def P.pys : List P → List PyData
  | [] => []
  | x :: xs => P.py x :: P.pys xs
end
theorem pys_map : ∀ xs : List P, P.pys xs = xs.map P.py
  | [] => rfl
  | x :: xs => by rw [P.pys, pys_map xs]; rfl
/-- plain data, at most n deep -/
def Dat : Nat → P → Prop
  | _, .non => True
  | _, .bl _ => True
  | _, .int _ => True
  | _, .str s => PyData.canLay0 (.str s) = true
  | n + 1, .tup xs => ∀ x ∈ xs, Dat n x
  | n + 1, .lst xs => ∀ x ∈ xs, Dat n x
  | n + 1, .fz xs => ∀ x ∈ xs, Dat n x
  | _, _ => False
section
variable {K : PySem.W.Frag} {H : Hp}
theorem Rp.dp_all {n : Nat} (ih : ∀ x v, Dat n x → Rp K H v x → Dp K H v x.py) : ∀ (xs : List P) (vs : List V), (∀ x ∈ xs, Dat n x) → RpL K H vs xs → DpAll K H vs (P.pys xs)
  | [], _, _, h => by cases h; exact .nil
  | x :: xs, _, d, h => by
    cases h with
    | cons r l => exact .cons (ih x _ (d x (by simp)) r) (Rp.dp_all ih xs _ (fun y hy => d y (List.mem_cons_of_mem _ hy)) l)
theorem Rp.dp : ∀ (n : Nat) (x : P) (v : V), Dat n x → Rp K H v x → Dp K H v x.py := by
  intro n
  induction n with
  | zero =>
    intro x v d h
    cases h with
    | non => exact .non
    | bl b => exact .bl b
    | int i => exact .int i
    | str s => exact .str s
    | _ => exact absurd d (by simp [Dat])
  | succ n ih =>
    intro x v d h
    cases h with
    | non => exact .non
    | bl b => exact .bl b
    | int i => exact .int i
    | str s => exact .str s
    | tup s z l => rw [P.py]; exact .tup s (Rp.dp_all ih _ _ d l)
    | lst s z l => rw [P.py]; exact .lst (SqL.of s) (Rp.dp_all ih _ _ d l)
    | fz s z l => rw [P.py]; exact .lst s (Rp.dp_all ih _ _ d l)
    | _ => exact absurd d (by simp [Dat])
end
theorem lay_all {n : Nat} (ih : ∀ x, Dat n x → x.py.canLay0 = true ∧ x.py.depth ≤ n) : ∀ xs : List P, (∀ x ∈ xs, Dat n x) → PyData.canLayAll0 (P.pys xs) = true ∧ PyData.depthAll (P.pys xs) ≤ n
  | [], _ => ⟨rfl, Nat.zero_le _⟩
  | x :: xs, d => by
    obtain ⟨h1, h2⟩ := ih x (d x (by simp))
    obtain ⟨g1, g2⟩ := lay_all ih xs fun y hy => d y (List.mem_cons_of_mem _ hy)
    refine ⟨?_, ?_⟩
    · rw [P.pys]; simp only [PyData.canLayAll0, h1, g1]; rfl
    · rw [P.pys]; simp only [PyData.depthAll]; omega
theorem Dat.lay : ∀ (n : Nat) (x : P), Dat n x → x.py.canLay0 = true ∧ x.py.depth ≤ n := by
  intro n
  induction n with
  | zero =>
    intro x d
    cases x with
    | str s => exact ⟨d, Nat.zero_le _⟩
    | non => exact ⟨rfl, Nat.zero_le _⟩
    | bl _ => exact ⟨rfl, Nat.zero_le _⟩
    | int _ => exact ⟨rfl, Nat.zero_le _⟩
    | tup xs => exact absurd d (by simp [Dat])
    | lst xs => exact absurd d (by simp [Dat])
    | fz xs => exact absurd d (by simp [Dat])
    | dk _ => exact absurd d (by simp [Dat])
    | dt _ => exact absurd d (by simp [Dat])
    | ins _ _ => exact absurd d (by simp [Dat])
    | vv _ => exact absurd d (by simp [Dat])
  | succ n ih =>
    intro x d
    cases x with
    | tup xs => have h := lay_all ih xs d; rw [P.py]; simp only [PyData.canLay0, PyData.depth]; exact ⟨h.1, by omega⟩
    | lst xs => have h := lay_all ih xs d; rw [P.py]; simp only [PyData.canLay0, PyData.depth]; exact ⟨h.1, by omega⟩
    | fz xs => have h := lay_all ih xs d; rw [P.py]; simp only [PyData.canLay0, PyData.depth]; exact ⟨h.1, by omega⟩
    | dk _ => exact absurd d (by simp [Dat])
    | dt _ => exact absurd d (by simp [Dat])
    | ins _ _ => exact absurd d (by simp [Dat])
    | vv _ => exact absurd d (by simp [Dat])
    | str s => exact ⟨d, Nat.zero_le _⟩
    | non => exact ⟨rfl, Nat.zero_le _⟩
    | bl _ => exact ⟨rfl, Nat.zero_le _⟩
    | int _ => exact ⟨rfl, Nat.zero_le _⟩
theorem Dat.shaped {n : Nat} {x : P} (d : Dat n x) (h : n ≤ 64) : SeqAt.shaped x.py = true := by
  obtain ⟨h1, h2⟩ := d.lay
  unfold SeqAt.shaped
  rw [h1, decide_eq_true (by omega)]; rfl
theorem Dat.le : ∀ {n m : Nat} {x : P}, Dat n x → n ≤ m → Dat m x := by
  intro n
  induction n with
  | zero =>
    intro m x d h
    cases x with
    | tup xs => exact absurd d (by simp [Dat])
    | lst xs => exact absurd d (by simp [Dat])
    | fz xs => exact absurd d (by simp [Dat])
    | dk _ => exact absurd d (by simp [Dat])
    | dt _ => exact absurd d (by simp [Dat])
    | ins _ _ => exact absurd d (by simp [Dat])
    | vv _ => exact absurd d (by simp [Dat])
    | str s => cases m <;> exact d
    | _ => cases m <;> trivial
  | succ n ih =>
    intro m x d h
    obtain ⟨m, rfl⟩ : ∃ k, m = k + 1 := ⟨m - 1, by omega⟩
    cases x with
    | tup xs => exact fun y hy => ih (d y hy) (by omega)
    | lst xs => exact fun y hy => ih (d y hy) (by omega)
    | fz xs => exact fun y hy => ih (d y hy) (by omega)
    | dk _ => exact absurd d (by simp [Dat])
    | dt _ => exact absurd d (by simp [Dat])
    | ins _ _ => exact absurd d (by simp [Dat])
    | vv _ => exact absurd d (by simp [Dat])
    | str s => exact d
    | _ => trivial
/-- == of plain data -/
def P.eqb (a b : P) : Bool := PyData.eqv a.py b.py
theorem reB {K : PySem.W.Frag} (c : Cf K) (b : Bool) : c.re (.bl b) (.p (.bl b)) := .bl b
theorem reI {K : PySem.W.Frag} (c : Cf K) (i : Int) : c.re (.int i) (.p (.int i)) := .int i
theorem reS {K : PySem.W.Frag} (c : Cf K) (x : Str) : c.re (.str x) (.p (.str x)) := .str x
theorem reN {K : PySem.W.Frag} (c : Cf K) : c.re .non (.p .non) := .non
/-! ### lists and tuples of a configuration -/
/-- the items of a list (known, or owned and of pure data) -/
def lsAt (S : List O) : D → List P → Prop
  | .p (.lst xs), ps => xs = ps
  | .own n, ps => S[n]? = some (.lst (ps.map .p))
  | _, _ => False
section
variable {K : PySem.W.Frag}
theorem Cf.ls (c : Cf K) {v : V} {d : D} {ps : List P} (h : c.re v d) (l : lsAt c.S d ps) : ∃ a vs, v = .ref a ∧ c.H a = some (.lst vs) ∧ RpL K c.Hk vs ps ∧ ps.length ≤ sizeLine := by
  cases d with
  | p x =>
    cases x with
    | lst ys =>
      obtain rfl : ys = ps := l
      cases (show Rp K c.Hk v (.lst ys) from h) with
      | lst s z r => exact ⟨_, _, rfl, c.ok.ex _ _ s, r, z⟩
    | _ => exact l.elim
  | own n =>
    obtain ⟨a, vs, rfl, _, e, r, z⟩ := c.list_own h l
    exact ⟨a, vs, rfl, e, r.impure, by simpa using z⟩
/-- a new object of pure data -/
theorem Cf.new (c : Cf K) {p : Addr} {o : HO} (hp : c.H p = none) : ∃ e : Cf K, e.H = upd c.H p o ∧ e.S = c.S ∧ e.Hk = upd c.Hk p o ∧ e.η = c.η ∧ c.Le e :=
  let ⟨k, s⟩ := c.ok.alloc hp o
  ⟨⟨c.η, upd c.Hk p o, upd c.H p o, c.S, k⟩, rfl, rfl, rfl, rfl, s⟩
theorem Cf.newLst (c : Cf K) {p : Addr} {vs : List V} {ps : List P} (hp : c.H p = none) (l : RpL K c.Hk vs ps) (z : ps.length ≤ sizeLine) : ∃ e : Cf K, e.H = upd c.H p (.lst vs) ∧ e.S = c.S ∧ c.Le e ∧ e.re (.ref p) (.p (.lst ps)) := by
  obtain ⟨e, e1, e2, e3, e4, le⟩ := c.new (o := .lst vs) hp
  exact ⟨e, e1, e2, le, .lst (by rw [e3]; exact upd_same) z (RpL.mono le.ex ps vs l)⟩
theorem Cf.newTup (c : Cf K) {p : Addr} {vs : List V} {ps : List P} (hp : c.H p = none) (l : RpL K c.Hk vs ps) (z : ps.length ≤ sizeLine) : ∃ e : Cf K, e.H = upd c.H p (.tup vs) ∧ e.S = c.S ∧ c.Le e ∧ e.re (.ref p) (.p (.tup ps)) := by
  obtain ⟨e, e1, e2, e3, e4, le⟩ := c.new (o := .tup vs) hp
  exact ⟨e, e1, e2, le, .tup (SqT.of (by rw [e3]; exact upd_same)) z (RpL.mono le.ex ps vs l)⟩
theorem Cf.newOwn (c : Cf K) {p : Addr} {vs : List V} {ds : List D} (hp : c.H p = none) (l : ReL K c.η c.Hk vs ds) (z : ds.length ≤ sizeLine) : ∃ e : Cf K, e.H = upd c.H p (.lst vs) ∧ e.S = c.S ++ [.lst ds] ∧ c.Le e ∧ e.re (.ref p) (.own c.S.length) := by
  obtain ⟨k, s⟩ := c.ok.allocOwn (u := .lst vs) (o := .lst ds) hp ⟨z, vs, upd_same, l.mono' ⟨.refl _, ⟨[p], rfl⟩⟩⟩
  exact ⟨⟨_, _, _, _, k⟩, rfl, rfl, s, p, by show (c.η ++ [p])[c.S.length]? = some p; rw [← c.ok.len]; simp, rfl⟩
/-- an owned list is changed -/
theorem Cf.setLst (c : Cf K) {n : Nat} {a : Addr} {ds ds' : List D} {vs' : List V} (e1 : c.η[n]? = some a) (e2 : c.S[n]? = some (.lst ds)) (l : ReL K c.η c.Hk vs' ds') (z : ds'.length ≤ sizeLine) :
    ∃ e : Cf K, e.H = upd c.H a (.lst vs') ∧ e.S = c.S.set n (.lst ds') ∧ c.Le e := by
  obtain ⟨k, s⟩ := c.ok.write (o := .lst ds') (u := .lst vs') e1 e2 (by intro h; cases h) ⟨z, vs', upd_same, l⟩
  exact ⟨⟨_, _, _, _, k⟩, rfl, rfl, s⟩
end
/-! ### arithmetic, joining -/
def okBig (i j : Int) : Prop := i.natAbs < 2 ^ 4000 ∧ j.natAbs < 2 ^ 4000
def rAddU (K : PySem.W.Frag) : R2 := fun x y H Q => rI0 (fun i j => .int (i + j)) x y H Q ∨ (∃ i j, x = .str i ∧ y = .str j ∧ i.length + j.length ≤ sizeLine ∧ Q (.str (i ++ j)) H) ∨ rCatA K x y H Q ∨ rCat x y H Q
theorem OpR.or {X : Cx} {f : Value → Value → Sem Value} {r r' : R2} (h : OpR X f r) (h' : OpR X f r') : OpR X f (fun x y H Q => r x y H Q ∨ r' x y H Q) :=
  fun a b c d e g v u w J r1 r2 q => q.elim (h a b c d e g v u w J r1 r2) (h' a b c d e g v u w J r1 r2)
theorem op_addU {X : Cx} : OpR X (binaryOp .Add) (rAddU X.K) := OpR.or op_add (OpR.or op_add_str (OpR.or op_catA op_cat))
/-- + -/
def aAdd : A2 := fun a b S Post => match a, b with
  | .p (.int i), .p (.int j) => Post (.p (.int (i + j))) S
  | .p (.str x), .p (.str y) => x.length + y.length ≤ sizeLine ∧ Post (.p (.str (x ++ y))) S
  | .p (.tup x), .p (.tup y) => x.length + y.length ≤ sizeLine ∧ Post (.p (.tup (x ++ y))) S
  | .p (.lst x), .p (.lst y) => x.length + y.length ≤ sizeLine ∧ Post (.p (.lst (x ++ y))) S
  | a, b => ∃ x y, lsAt S a x ∧ lsAt S b y ∧ x.length + y.length ≤ sizeLine ∧ Post (.p (.lst (x ++ y))) S
theorem l2_lists {K : PySem.W.Frag} {c : Cf K} {x y : V} {a b : D} {Post : D → List O → Prop} {Q : VK} (ra : c.re x a) (rb : c.re y b) {ps qs : List P} (la : lsAt c.S a ps) (lb : lsAt c.S b qs) (z : ps.length + qs.length ≤ sizeLine)
    (h : Post (.p (.lst (ps ++ qs))) c.S) (q : ∀ (d : Cf K) v a, c.Le d → d.re v a → Post a d.S → Q v d.H) : rCat x y c.H Q := by
  obtain ⟨p, vs, rfl, e1, l1, z1⟩ := c.ls ra la
  obtain ⟨p2, ws, rfl, e2, l2, z2⟩ := c.ls rb lb
  refine ⟨p, p2, vs, ws, rfl, rfl, e1, e2, by rw [l1.length, l2.length]; exact z, fun p3 hp => ?_⟩
  obtain ⟨e, eh, es, le, re⟩ := c.newLst hp (l1.append l2) (by simpa using z)
  rw [← eh]
  exact q e _ _ le re (by rw [es]; exact h)
theorem lift_add {K : PySem.W.Frag} : Lift2 K (rAddU K) aAdd := by
  refine ⟨fun c x y a b Post Q ra rb h q => ?_⟩
  unfold aAdd at h
  split at h
  · rename_i i j
    cases (show Rp K c.Hk x (.int i) from ra)
    cases (show Rp K c.Hk y (.int j) from rb)
    exact .inl ⟨i, j, rfl, rfl, q c _ _ (.refl c) (reI c _) h⟩
  · rename_i s t
    cases (show Rp K c.Hk x (.str s) from ra)
    cases (show Rp K c.Hk y (.str t) from rb)
    exact .inr (.inl ⟨s, t, rfl, rfl, h.1, q c _ _ (.refl c) (reS c _) h.2⟩)
  · rename_i ps qs
    cases (show Rp K c.Hk x (.tup ps) from ra) with
    | tup s1 z1 l1 =>
      cases (show Rp K c.Hk y (.tup qs) from rb) with
      | tup s2 z2 l2 =>
        have n1 := l1.length
        have n2 := l2.length
        refine .inr (.inr (.inl ⟨_, _, _, _, rfl, rfl, c.ok.ex.sqT s1, c.ok.ex.sqT s2, by rw [n1, n2]; exact h.1, fun e => ?_, fun e e' => ?_, fun e e' p hp => ?_⟩))
        · subst e
          cases l1
          exact q c _ _ (.refl c) rb h.2
        · subst e'
          cases l2
          rw [List.append_nil] at h
          exact q c _ _ (.refl c) ra h.2
        · obtain ⟨e, eh, es, le, re⟩ := c.newTup hp (l1.append l2) (by simpa using h.1)
          rw [← eh]
          exact q e _ _ le re (by rw [es]; exact h.2)
  · exact .inr (.inr (.inr (l2_lists (ps := _) (qs := _) ra rb rfl rfl h.1 h.2 q)))
  · obtain ⟨ps, qs, la, lb, z, h⟩ := h
    exact .inr (.inr (.inr (l2_lists ra rb la lb z h q)))
/-- ints alone -/
def aI (C : Int → Int → Prop) (g : Int → Int → P) : A2 := fun a b S Post => match a, b with
  | .p (.int i), .p (.int j) => C i j ∧ Post (.p (g i j)) S
  | _, _ => False
def aI0 (g : Int → Int → P) : A2 := fun a b S Post => match a, b with
  | .p (.int i), .p (.int j) => Post (.p (g i j)) S
  | _, _ => False
theorem lift_I {K : PySem.W.Frag} {C : Int → Int → Prop} {g : Int → Int → V} {g' : Int → Int → P} (hg : ∀ (c : Cf K) i j, c.re (g i j) (.p (g' i j))) : Lift2 K (rI C g) (aI C g') := by
  refine ⟨fun c x y a b Post Q ra rb h q => ?_⟩
  unfold aI at h
  split at h
  · rename_i i j
    cases (show Rp K c.Hk x (.int i) from ra)
    cases (show Rp K c.Hk y (.int j) from rb)
    exact ⟨i, j, rfl, rfl, h.1, q c _ _ (.refl c) (hg c i j) h.2⟩
  · exact h.elim
theorem lift_I0 {K : PySem.W.Frag} {g : Int → Int → V} {g' : Int → Int → P} (hg : ∀ (c : Cf K) i j, c.re (g i j) (.p (g' i j))) : Lift2 K (rI0 g) (aI0 g') := by
  refine ⟨fun c x y a b Post Q ra rb h q => ?_⟩
  unfold aI0 at h
  split at h
  · rename_i i j
    cases (show Rp K c.Hk x (.int i) from ra)
    cases (show Rp K c.Hk y (.int j) from rb)
    exact ⟨i, j, rfl, rfl, q c _ _ (.refl c) (hg c i j) h⟩
  · exact h.elim
def CPowW (i j : Int) : Prop := 0 ≤ j ∧ (Builtin.Int.intBits i : Int) * j ≤ 2 ^ 27
theorem op_powW {X : Cx} : OpR X (binaryOp .Pow) (rI CPowW fun i j => .int (i ^ j.toNat)) := opI fun _ _ _ _ _ _ _ hc q => PyProof.Rows.pow_int hc.1 hc.2 q
section
variable {X : Cx} {a b : Expr} {ta tb : AE} {pos : Pos}
abbrev aSub : A2 := aI0 fun i j => .int (i - j)
abbrev aMul : A2 := aI CMulW fun i j => .int (i * j)
abbrev aDiv : A2 := aI CDivW fun i j => .int (i / j)
abbrev aMod : A2 := aI (fun _ j => 0 < j) fun i j => .int (i % j)
abbrev aPow : A2 := aI CPowW fun i j => .int (i ^ j.toNat)
abbrev aShl : A2 := aI CPow fun i j => .int (i * 2 ^ j.toNat)
abbrev aShr : A2 := aI (fun _ j => 0 ≤ j) fun i j => .int (i / 2 ^ j.toNat)
theorem je_add (ha : JE X a ta) (hb : JE X b tb) : JE X (.BinOp a .Add b pos) (aOp aAdd ta tb) := je_op op_addU lift_add ha hb
theorem je_sub (ha : JE X a ta) (hb : JE X b tb) : JE X (.BinOp a .Sub b pos) (aOp aSub ta tb) := je_op op_sub (lift_I0 fun c _ _ => reI c _) ha hb
theorem je_mul (ha : JE X a ta) (hb : JE X b tb) : JE X (.BinOp a .Mult b pos) (aOp aMul ta tb) := je_op op_mulW (lift_I fun c _ _ => reI c _) ha hb
theorem je_div (ha : JE X a ta) (hb : JE X b tb) : JE X (.BinOp a .FloorDiv b pos) (aOp aDiv ta tb) := je_op op_fdivW (lift_I fun c _ _ => reI c _) ha hb
theorem je_mod (ha : JE X a ta) (hb : JE X b tb) : JE X (.BinOp a .Mod b pos) (aOp aMod ta tb) := je_op op_mod (lift_I fun c _ _ => reI c _) ha hb
theorem je_pow (ha : JE X a ta) (hb : JE X b tb) : JE X (.BinOp a .Pow b pos) (aOp aPow ta tb) := je_op op_powW (lift_I fun c _ _ => reI c _) ha hb
theorem je_shl (ha : JE X a ta) (hb : JE X b tb) : JE X (.BinOp a .LShift b pos) (aOp aShl ta tb) := je_op op_shl (lift_I fun c _ _ => reI c _) ha hb
theorem je_shr (ha : JE X a ta) (hb : JE X b tb) : JE X (.BinOp a .RShift b pos) (aOp aShr ta tb) := je_op op_shr (lift_I fun c _ _ => reI c _) ha hb
def aNeg : A1 := fun a S Post => match a with | .p (.int i) => Post (.p (.int (-i))) S | _ => False
theorem je_neg (ha : JE X a ta) : JE X (.UnaryOp .USub a pos) (aUn aNeg ta) := je_un un_neg ⟨fun c x a Post Q ra h q => by
  unfold aNeg at h
  split at h
  · rename_i i
    cases (show Rp X.K c.Hk x (.int i) from ra)
    exact ⟨i, rfl, q c _ _ (.refl c) (reI c _) h⟩
  · exact h.elim⟩ ha
/-! ### comparisons -/
abbrev aLt : A2 := aI0 fun i j => .bl (decide (i < j))
abbrev aLe : A2 := aI0 fun i j => .bl (decide (i ≤ j))
abbrev aGt : A2 := aI0 fun i j => .bl (decide (j < i))
abbrev aGe : A2 := aI0 fun i j => .bl (decide (j ≤ i))
theorem je_lt (ha : JE X a ta) (hb : JE X b tb) : JE X (.Compare a [.Lt] [b] pos) (aOp aLt ta tb) := je_cmp op_lt (lift_I0 fun c _ _ => reB c _) ha hb (nomark _)
theorem je_le (ha : JE X a ta) (hb : JE X b tb) : JE X (.Compare a [.LtE] [b] pos) (aOp aLe ta tb) := je_cmp op_le (lift_I0 fun c _ _ => reB c _) ha hb (nomark _)
theorem je_gt (ha : JE X a ta) (hb : JE X b tb) : JE X (.Compare a [.Gt] [b] pos) (aOp aGt ta tb) := je_cmp op_gt (lift_I0 fun c _ _ => reB c _) ha hb (nomark _)
theorem je_ge (ha : JE X a ta) (hb : JE X b tb) : JE X (.Compare a [.GtE] [b] pos) (aOp aGe ta tb) := je_cmp op_ge (lift_I0 fun c _ _ => reB c _) ha hb (nomark _)
theorem jt_lt (ha : JE X a ta) (hb : JE X b tb) : JT X (.Compare a [.Lt] [b] pos) (aTest (aOp aLt ta tb)) := jt_cmp op_lt (lift_I0 fun c _ _ => reB c _) ha hb (nomark _)
theorem jt_le (ha : JE X a ta) (hb : JE X b tb) : JT X (.Compare a [.LtE] [b] pos) (aTest (aOp aLe ta tb)) := jt_cmp op_le (lift_I0 fun c _ _ => reB c _) ha hb (nomark _)
theorem jt_gt (ha : JE X a ta) (hb : JE X b tb) : JT X (.Compare a [.Gt] [b] pos) (aTest (aOp aGt ta tb)) := jt_cmp op_gt (lift_I0 fun c _ _ => reB c _) ha hb (nomark _)
theorem jt_ge (ha : JE X a ta) (hb : JE X b tb) : JT X (.Compare a [.GtE] [b] pos) (aTest (aOp aGe ta tb)) := jt_cmp op_ge (lift_I0 fun c _ _ => reB c _) ha hb (nomark _)
end
def rEqU (K : PySem.W.Frag) : R2 := fun x y H Q => rEq x y H Q ∨ rEqD K x y H Q
def rNeU (K : PySem.W.Frag) : R2 := fun x y H Q => rNe x y H Q ∨ rNeD K x y H Q
/-- an owned list of pure data read as data -/
def asP (S : List O) : D → P → Prop
  | .p x, y => x = y
  | .own n, y => ∃ ps, S[n]? = some (.lst (ps.map .p)) ∧ y = .lst ps
def aEq (neg : Bool) : A2 := fun a b S Post => match a, b with
  | .p (.int i), .p (.int j) => Post (.p (.bl (xor neg (i == j)))) S
  | .p (.str i), .p (.str j) => Post (.p (.bl (xor neg (i == j)))) S
  | .p (.bl i), .p (.bl j) => Post (.p (.bl (xor neg (i == j)))) S
  | a, b => ∃ x y, asP S a x ∧ asP S b y ∧ Dat 60 x ∧ Dat 60 y ∧ Post (.p (.bl (xor neg (P.eqb x y)))) S
theorem Cf.asP {K : PySem.W.Frag} (c : Cf K) {v : V} {d : D} {x : P} (h : c.re v d) (l : Am.asP c.S d x) (dx : Dat 60 x) : Dp K c.H v x.py := by
  cases d with
  | p y =>
    obtain rfl : y = x := l
    exact Rp.dp 60 y v dx (Rp.mono c.ok.ex _ _ h)
  | own n =>
    obtain ⟨ps, e, rfl⟩ := l
    obtain ⟨a, vs, rfl, e1, r, z⟩ := c.ls (d := .own n) (ps := ps) h e
    exact Rp.dp 60 _ _ dx (.lst e1 z (RpL.mono c.ok.ex _ _ r))
theorem lift_eq {K : PySem.W.Frag} : Lift2 K (rEqU K) (aEq false) := by
  refine ⟨fun c x y a b Post Q ra rb h q => ?_⟩
  unfold aEq at h
  split at h
  · rename_i i j
    cases (show Rp K c.Hk x (.int i) from ra)
    cases (show Rp K c.Hk y (.int j) from rb)
    exact .inl ⟨rfl, by rw [dec_int]; exact q c _ _ (.refl c) (reB c _) (by simpa using h)⟩
  · rename_i i j
    cases (show Rp K c.Hk x (.str i) from ra)
    cases (show Rp K c.Hk y (.str j) from rb)
    exact .inl ⟨rfl, by rw [dec_str]; exact q c _ _ (.refl c) (reB c _) (by simpa using h)⟩
  · rename_i i j
    cases (show Rp K c.Hk x (.bl i) from ra)
    cases (show Rp K c.Hk y (.bl j) from rb)
    exact .inl ⟨rfl, by rw [dec_bl]; exact q c _ _ (.refl c) (reB c _) (by simpa using h)⟩
  · obtain ⟨u, w, au, aw, du, dw, h⟩ := h
    exact .inr ⟨_, _, c.asP ra au du, c.asP rb aw dw, du.shaped (by decide), dw.shaped (by decide), q c _ _ (.refl c) (reB c _) (by simpa [P.eqb] using h)⟩
theorem lift_ne {K : PySem.W.Frag} : Lift2 K (rNeU K) (aEq true) := by
  refine ⟨fun c x y a b Post Q ra rb h q => ?_⟩
  unfold aEq at h
  split at h
  · rename_i i j
    cases (show Rp K c.Hk x (.int i) from ra)
    cases (show Rp K c.Hk y (.int j) from rb)
    exact .inl ⟨rfl, by rw [dec_int]; exact q c _ _ (.refl c) (reB c _) (by simpa using h)⟩
  · rename_i i j
    cases (show Rp K c.Hk x (.str i) from ra)
    cases (show Rp K c.Hk y (.str j) from rb)
    exact .inl ⟨rfl, by rw [dec_str]; exact q c _ _ (.refl c) (reB c _) (by simpa using h)⟩
  · rename_i i j
    cases (show Rp K c.Hk x (.bl i) from ra)
    cases (show Rp K c.Hk y (.bl j) from rb)
    exact .inl ⟨rfl, by rw [dec_bl]; exact q c _ _ (.refl c) (reB c _) (by simpa using h)⟩
  · obtain ⟨u, w, au, aw, du, dw, h⟩ := h
    exact .inr ⟨_, _, c.asP ra au du, c.asP rb aw dw, du.shaped (by decide), dw.shaped (by decide), q c _ _ (.refl c) (reB c _) (by simpa [P.eqb] using h)⟩
section
variable {X : Cx} {a b : Expr} {ta tb : AE} {pos : Pos} {k : Nat}
theorem je_eq (hr : Room k X.A) (ha : JE X a ta) (hb : JE X b tb) : JE X (.Compare a [.Eq] [b] pos) (aOp (aEq false) ta tb) := je_cmp (OpR.or op_eq (op_eqD hr.units)) lift_eq ha hb (nomark _)
theorem je_ne (hr : Room k X.A) (ha : JE X a ta) (hb : JE X b tb) : JE X (.Compare a [.NotEq] [b] pos) (aOp (aEq true) ta tb) := je_cmp (OpR.or op_ne (op_neD hr.units)) lift_ne ha hb (nomark _)
theorem jt_eq (hr : Room k X.A) (ha : JE X a ta) (hb : JE X b tb) : JT X (.Compare a [.Eq] [b] pos) (aTest (aOp (aEq false) ta tb)) := jt_cmp (OpR.or op_eq (op_eqD hr.units)) lift_eq ha hb (nomark _)
theorem jt_ne (hr : Room k X.A) (ha : JE X a ta) (hb : JE X b tb) : JT X (.Compare a [.NotEq] [b] pos) (aTest (aOp (aEq true) ta tb)) := jt_cmp (OpR.or op_ne (op_neD hr.units)) lift_ne ha hb (nomark _)
end
/-- is None -/
def isNone : D → Bool
  | .p .non => true
  | .p (.vv v) => decide (v = .non)
  | _ => false
def aIsN (neg : Bool) (ta : AE) : AE := fun L S Post => ta L S fun a S1 => Post (.p (.bl (xor neg (isNone a)))) S1
theorem isNone_re {K : PySem.W.Frag} {c : Cf K} {v : V} {a : D} (h : c.re v a) : decide (v = .non) = isNone a := by
  cases a with
  | p x =>
    cases (show Rp K c.Hk v x from h) <;> simp [isNone]
  | own n =>
    obtain ⟨b, _, rfl⟩ := h
    simp [isNone]
section
variable {X : Cx} {a : Expr} {ta : AE} {pos pos' : Pos} {j : Nat}
theorem je_isN {j} (ha : JE X a ta) : JE X (.Compare a [.Is] [.Constant .none j pos'] pos) (aIsN false ta) := by
  obtain ⟨t1, p1, l1⟩ := ha
  refine ⟨_, pe_cmp (pc_isN p1) rfl, ⟨fun c L σ Post Q hs h q => l1.run c L σ _ _ hs h fun d v x le re h => ?_⟩⟩
  rw [isNone_re re]
  exact q d _ _ le (reB d _) (by simpa using h)
theorem je_notN {j} (ha : JE X a ta) : JE X (.Compare a [.IsNot] [.Constant .none j pos'] pos) (aIsN true ta) := by
  obtain ⟨t1, p1, l1⟩ := ha
  refine ⟨_, pe_cmp (pc_notN p1) rfl, ⟨fun c L σ Post Q hs h q => l1.run c L σ _ _ hs h fun d v x le re h => ?_⟩⟩
  rw [isNone_re re]
  exact q d _ _ le (reB d _) (by simpa using h)
end
end Am
/-! Am: displays, places, parts, built-ins, texts. -/
namespace Am
open PySem L2
/-! ### displays -/
def purs : List D → Option (List P)
  | [] => some []
  | .p x :: r => match purs r with | some xs => some (x :: xs) | none => none
  | .own _ :: _ => none
theorem purs_eq : ∀ {ds : List D} {xs : List P}, purs ds = some xs → ds = xs.map .p
  | [], xs, h => by cases h; rfl
  | .p x :: r, xs, h => by
    unfold purs at h
    split at h
    · rename_i ys e
      cases h
      rw [List.map_cons, purs_eq e]
    · cases h
  | .own _ :: _, xs, h => by cases h
def aTup (t : AA) : AE := fun L S Post => t L S fun as S1 => match purs as with
  | some xs => (match Nat.ble xs.length 1000 with | true => Post (.p (.tup xs)) S1 | false => False)
  | none => False
def aLst (t : AA) : AE := fun L S Post => t L S fun as S1 => match purs as with
  | some xs => (match Nat.ble xs.length 1000 with | true => Post (.p (.lst xs)) S1 | false => False)
  | none => False
def aLstO (t : AA) : AE := fun L S Post => t L S fun as S1 => match Nat.ble as.length 1000 with
  | true => Post (.own S1.length) (S1 ++ [.lst as])
  | false => False
theorem small_of {n : Nat} (h : Nat.ble n 1000 = true) : n ≤ sizeLine := by
  have := Nat.le_of_ble_eq_true h
  rw [sizeLine_eq]; omega
section
variable {X : Cx} {es : List Expr} {t : AA} {pos : Pos}
theorem je_tup {x1} (ha : JA X es t) : JE X (.Tuple es x1 pos) (aTup t) := by
  obtain ⟨t1, p1, l1⟩ := ha
  refine ⟨_, pe_tup p1, ⟨fun c L σ Post Q hs h q => l1.run c L σ _ _ hs h fun d vs as le re h => ?_⟩⟩
  split at h
  · rename_i xs e
    split at h
    · rename_i z
      rw [purs_eq e] at re
      have z := small_of z
      have rl := re.impure
      refine ⟨by rw [rl.length]; exact z, fun p hp => ?_⟩
      obtain ⟨f, eh, es', le2, rf⟩ := d.newTup hp rl z
      rw [← eh]
      exact q f _ _ (le.trans le2) rf (by rw [es']; exact h)
    · exact h.elim
  · exact h.elim
theorem je_lst (ha : JA X es t) : JE X (.List es pos) (aLst t) := by
  obtain ⟨t1, p1, l1⟩ := ha
  refine ⟨_, pe_lst p1, ⟨fun c L σ Post Q hs h q => l1.run c L σ _ _ hs h fun d vs as le re h => ?_⟩⟩
  split at h
  · rename_i xs e
    split at h
    · rename_i z
      rw [purs_eq e] at re
      have z := small_of z
      have rl := re.impure
      refine ⟨by rw [rl.length]; exact z, fun p hp => ?_⟩
      obtain ⟨f, eh, es', le2, rf⟩ := d.newLst hp rl z
      rw [← eh]
      exact q f _ _ (le.trans le2) rf (by rw [es']; exact h)
    · exact h.elim
  · exact h.elim
theorem je_lstO (ha : JA X es t) : JE X (.List es pos) (aLstO t) := by
  obtain ⟨t1, p1, l1⟩ := ha
  refine ⟨_, pe_lst p1, ⟨fun c L σ Post Q hs h q => l1.run c L σ _ _ hs h fun d vs as le re h => ?_⟩⟩
  split at h
  · rename_i z
    have z := small_of z
    refine ⟨by rw [re.length]; exact z, fun p hp => ?_⟩
    obtain ⟨f, eh, es', le2, rf⟩ := d.newOwn hp re z
    rw [← eh]
    exact q f _ _ (le.trans le2) rf (by rw [es']; exact h)
  · exact h.elim
end
/-! ### places -/
/-- the item at a place of any sign -/
def gi {α : Type} (xs : List α) : Int → Option α
  | .ofNat n => xs[n]?
  | .negSucc n => xs.reverse[n]?
theorem gi_atI {α : Type} {xs : List α} {i : Int} {x : α} (h : gi xs i = some x) : atI xs i = some x := by
  cases i with
  | ofNat n => exact atI_nat h
  | negSucc n =>
    have h : xs.reverse[n]? = some x := h
    have hn : n < xs.length := by simpa using (List.getElem?_eq_some_iff.mp h).1
    rw [List.getElem?_reverse hn] at h
    unfold atI ixN
    rw [if_neg (by omega), if_pos (by omega)]
    show xs[(Int.negSucc n + (xs.length : Int)).toNat]? = some x
    rw [← h]
    congr 1
    omega
theorem atI_map {α β : Type} {f : α → β} {xs : List α} {i : Int} : atI (xs.map f) i = (atI xs i).map f := by
  unfold atI
  rw [List.length_map]
  cases ixN xs.length i with
  | none => rfl
  | some j => simp
theorem atI_re {K : PySem.W.Frag} {η : List Addr} {Hk : Hp} {vs : List V} {ds : List D} {i : Int} {x : D} (l : ReL K η Hk vs ds) (h : atI ds i = some x) : ∃ v, atI vs i = some v ∧ Re K η Hk v x := by
  unfold atI at h ⊢
  rw [l.length]
  cases e : ixN ds.length i with
  | none => rw [e] at h; cases h
  | some j =>
    rw [e] at h
    exact l.get' h
def rIxU (K : PySem.W.Frag) : R2 := fun x y H Q => rIxL K x y H Q ∨ (rIxT K x y H Q ∨ rIxS x y H Q)
def aIx : A2 := fun a b S Post => match a, b with
  | .p (.tup xs), .p (.int i) => (match gi xs i with | some x => Post (.p x) S | none => False)
  | .p (.lst xs), .p (.int i) => (match gi xs i with | some x => Post (.p x) S | none => False)
  | .p (.fz xs), .p (.int i) => (match gi xs i with | some x => Post (.p x) S | none => False)
  | .p (.str z), .p (.int i) => z.length ≤ sizeLine ∧ (match gi z.cps.toList i with | some x => Post (.p (.str ⟨#[x]⟩)) S | none => False)
  | .own n, .p (.int i) => (match S[n]? with | some (.lst ds) => (match gi ds i with | some x => Post x S | none => False) | _ => False)
  | _, _ => False
theorem lift_ix {K : PySem.W.Frag} : Lift2 K (rIxU K) aIx := by
  refine ⟨fun c x y a b Post Q ra rb h q => ?_⟩
  unfold aIx at h
  have pick : ∀ {vs : List V} {xs : List P} {i : Int} {u : P}, RpL K c.Hk vs xs → gi xs i = some u → ∃ v, atI vs i = some v ∧ c.re v (.p u) := fun {vs xs i u} l e => atI_re (ReL.pure (η := c.η) l) (by rw [atI_map, gi_atI e]; rfl)
  split at h
  · rename_i xs i
    cases (show Rp K c.Hk y (.int i) from rb)
    split at h
    · rename_i u e
      cases (show Rp K c.Hk x (.tup xs) from ra) with
      | tup s z l =>
        obtain ⟨v, e1, r1⟩ := pick l e
        exact .inr (.inl ⟨_, _, i, v, rfl, rfl, c.ok.ex.sqT s, e1, q c v _ (.refl c) r1 h⟩)
    · exact h.elim
  · rename_i xs i
    cases (show Rp K c.Hk y (.int i) from rb)
    split at h
    · rename_i u e
      cases (show Rp K c.Hk x (.lst xs) from ra) with
      | lst s z l =>
        obtain ⟨v, e1, r1⟩ := pick l e
        exact .inl ⟨_, _, i, v, rfl, rfl, SqL.of (c.ok.ex _ _ s), e1, q c v _ (.refl c) r1 h⟩
    · exact h.elim
  · rename_i xs i
    cases (show Rp K c.Hk y (.int i) from rb)
    split at h
    · rename_i u e
      cases (show Rp K c.Hk x (.fz xs) from ra) with
      | fz s z l =>
        obtain ⟨v, e1, r1⟩ := pick l e
        exact .inl ⟨_, _, i, v, rfl, rfl, c.ok.ex.sqL s, e1, q c v _ (.refl c) r1 h⟩
    · exact h.elim
  · rename_i t i
    cases (show Rp K c.Hk y (.int i) from rb)
    obtain ⟨z, h⟩ := h
    split at h
    · rename_i u e
      cases (show Rp K c.Hk x (.str t) from ra)
      exact .inr (.inr ⟨t, i, u, rfl, rfl, z, gi_atI e, q c _ _ (.refl c) (reS c _) h⟩)
    · exact h.elim
  · rename_i n i
    cases (show Rp K c.Hk y (.int i) from rb)
    split at h
    · rename_i ds e0
      split at h
      · rename_i u e
        obtain ⟨p, vs, rfl, e2, e3, l, z⟩ := c.list_own ra e0
        obtain ⟨v, e1, r1⟩ := atI_re l (gi_atI e)
        exact .inl ⟨_, _, i, v, rfl, rfl, SqL.of e3, e1, q c v _ (.refl c) r1 h⟩
      · exact h.elim
    · exact h.elim
  · exact h.elim
theorem je_ix {X : Cx} {a b : Expr} {ta tb : AE} {pos : Pos} (ha : JE X a ta) (hb : JE X b tb) (hs : PlainIx b := by exact fun _ _ => rfl) : JE X (.Subscript a b pos) (aOp aIx ta tb) := by
  obtain ⟨t1, p1, l1⟩ := ha
  obtain ⟨t2, p2, l2⟩ := hb
  exact ⟨_, pe_ix (IxR.or ix_list (IxR.or ix_tup ix_str)) p1 p2 hs, lift_op lift_ix l1 l2⟩
/-! ### parts -/
abbrev APt := Ls → List O → (Option Int → List O → Prop) → Prop
structure LiftP (K : PySem.W.Frag) (te : TO) (t : APt) : Prop where
  run : ∀ (c : Cf K) (L : Ls) (σ : St) (Post : Option Int → List O → Prop) (Q : Option Int → Hp → Prop), c.sl σ L → t L c.S Post → (∀ (d : Cf K) o, c.Le d → Post o d.S → Q o d.H) → te σ c.H Q
structure JP (X : Cx) (e : Option Expr) (t : APt) : Prop where
  ex : ∃ te, PO X e te ∧ LiftP X.K te t
def aNoPt : APt := fun _ S Post => Post none S
def aPt (t : AE) : APt := fun L S Post => t L S fun a S1 => match a with | .p (.int i) => Post (some i) S1 | _ => False
section
variable {X : Cx} {e : Expr} {te : AE}
theorem jp_none : JP X none aNoPt := ⟨_, po_none, ⟨fun c L σ Post Q hs h q => q c none (.refl c) h⟩⟩
theorem jp_some (h : JE X e te) : JP X (some e) (aPt te) := by
  obtain ⟨t1, p1, l1⟩ := h
  refine ⟨_, po_some p1, ⟨fun c L σ Post Q hs h q => l1.run c L σ _ _ hs h fun d v a le re h => ?_⟩⟩
  split at h
  · rename_i i
    cases (show Rp X.K d.Hk v (.int i) from re)
    exact ⟨i, rfl, q d _ le h⟩
  · exact h.elim
end
/-- the items of xs[lo:hi] -/
def cutL {α : Type} (xs : List α) (lo hi : Option Int) : List α := (xs.drop (HT.sIx xs.length 0 lo)).take (HT.sIx xs.length xs.length hi - HT.sIx xs.length 0 lo)
theorem cutL_to {α : Type} (xs : List α) (k : Nat) : cutL xs none (some (k : Int)) = xs.take k := by
  unfold cutL
  rw [HT.sIx_none, HT.sIx_nat, List.drop_zero, Nat.sub_zero]
  by_cases h : k ≤ xs.length
  · rw [Nat.min_eq_left h]
  · rw [Nat.min_eq_right (by omega), List.take_length, List.take_of_length_le (by omega)]
theorem cutL_from {α : Type} (xs : List α) (k : Nat) : cutL xs (some (k : Int)) none = xs.drop k := by
  unfold cutL
  rw [HT.sIx_none, HT.sIx_nat]
  by_cases h : k ≤ xs.length
  · rw [Nat.min_eq_left h, List.take_of_length_le (by rw [List.length_drop]; omega)]
  · rw [Nat.min_eq_right (by omega), List.drop_of_length_le (Nat.le_refl _), List.drop_of_length_le (by omega)]
    simp
theorem cutL_length {α : Type} (xs : List α) (lo hi : Option Int) : (cutL xs lo hi).length ≤ xs.length := by
  unfold cutL
  rw [List.length_take, List.length_drop]; omega
theorem cutL_map {α β : Type} (f : α → β) (xs : List α) (lo hi : Option Int) : cutL (xs.map f) lo hi = (cutL xs lo hi).map f := by
  unfold cutL
  simp
theorem RpL.cutL {K : PySem.W.Frag} {H : Hp} {vs : List V} {xs : List P} (l : RpL K H vs xs) (lo hi : Option Int) : RpL K H (cutV vs lo hi) (Am.cutL xs lo hi) := by
  unfold cutV Am.cutL
  rw [l.length]
  exact (l.drop _).take _
def rSlU (K : PySem.W.Frag) : V → Option Int → Option Int → Hp → VK → Prop := fun x lo hi H Q => rSlA K x lo hi H Q ∨ (rSlL K x lo hi H Q ∨ rSlS x lo hi H Q)
def aSl (te : AE) (tl th : APt) : AE := fun L S Post => te L S fun a S1 => tl L S1 fun lo S2 => th L S2 fun hi S3 => match a with
  | .p (.tup xs) => Post (.p (.tup (cutL xs lo hi))) S3
  | .p (.str z) => z.length ≤ sizeLine ∧ Post (.p (.str (cutS z lo hi))) S3
  | a => ∃ ps, lsAt S3 a ps ∧ Post (.p (.lst (cutL ps lo hi))) S3
theorem je_sl {X : Cx} {e : Expr} {te : AE} {tl th : APt} {lo hi : Option Expr} {p2 pos : Pos} (he : JE X e te) (hl : JP X lo tl) (hh : JP X hi th) : JE X (.Subscript e (.Slice lo hi none p2) pos) (aSl te tl th) := by
  obtain ⟨t1, p1, l1⟩ := he
  obtain ⟨t2, p2', l2⟩ := hl
  obtain ⟨t3, p3, l3⟩ := hh
  refine ⟨_, pe_slice (SlR.or sl_tupA (SlR.or sl_list sl_str)) p1 p2' p3, ⟨fun c L σ Post Q hs h q => ?_⟩⟩
  refine l1.run c L σ _ _ hs h fun d v a le re h1 => ?_
  refine l2.run d L σ _ _ (le.sl hs) h1 fun d2 lo le2 h2 => ?_
  refine l3.run d2 L σ _ _ ((le.trans le2).sl hs) h2 fun d3 hi le3 h => ?_
  clear h1 h2
  have le' := le.trans (le2.trans le3)
  have re' := (le2.trans le3).re re
  split at h
  · rename_i xs
    cases (show Rp X.K d3.Hk v (.tup xs) from re') with
    | tup s z l =>
      refine .inl ⟨_, _, rfl, d3.ok.ex.sqT s, fun w => ?_, fun w p hp => ?_⟩
      · have e : cutL xs lo hi = xs := by
          rw [l.length] at w
          unfold cutL
          rw [w.1, w.2]
          simp
        rw [e] at h
        exact q d3 _ _ le' re' h
      · obtain ⟨f, eh, es, lf, rf⟩ := d3.newTup hp (l.cutL lo hi) (Nat.le_trans (cutL_length _ _ _) z)
        rw [← eh]
        exact q f _ _ (le'.trans lf) rf (by rw [es]; exact h)
  · rename_i z
    cases (show Rp X.K d3.Hk v (.str z) from re')
    exact .inr (.inr ⟨z, rfl, h.1, q d3 _ _ le' (reS d3 _) h.2⟩)
  · obtain ⟨ps, la, h⟩ := h
    obtain ⟨p, vs, rfl, e1, l, z⟩ := d3.ls re' la
    refine .inr (.inl ⟨p, vs, rfl, SqL.of e1, fun p hp => ?_⟩)
    obtain ⟨f, eh, es, lf, rf⟩ := d3.newLst hp (l.cutL lo hi) (Nat.le_trans (cutL_length _ _ _) z)
    rw [← eh]
    exact q f _ _ (le'.trans lf) rf (by rw [es]; exact h)
/-! ### built-ins -/
section
variable {K : PySem.W.Frag}
/-- the items of a list or tuple -/
def seAt (S : List O) : D → List P → Prop
  | .p (.lst xs), ps => xs = ps
  | .p (.fz xs), ps => xs = ps
  | .p (.tup xs), ps => xs = ps
  | .own n, ps => S[n]? = some (.lst (ps.map .p))
  | _, _ => False
theorem Cf.se (c : Cf K) {v : V} {d : D} {ps : List P} (h : c.re v d) (l : seAt c.S d ps) : ∃ a vs, v = .ref a ∧ (SqL K c.H a vs ∨ (SqT K c.H a vs ∧ d = .p (.tup ps))) ∧ RpL K c.Hk vs ps ∧ ps.length ≤ sizeLine := by
  cases d with
  | p x =>
    cases x with
    | lst ys =>
      obtain rfl : ys = ps := l
      cases (show Rp K c.Hk v (.lst ys) from h) with
      | lst s z r => exact ⟨_, _, rfl, .inl (SqL.of (c.ok.ex _ _ s)), r, z⟩
    | fz ys =>
      obtain rfl : ys = ps := l
      cases (show Rp K c.Hk v (.fz ys) from h) with
      | fz s z r => exact ⟨_, _, rfl, .inl (c.ok.ex.sqL s), r, z⟩
    | tup ys =>
      obtain rfl : ys = ps := l
      cases (show Rp K c.Hk v (.tup ys) from h) with
      | tup s z r => exact ⟨_, _, rfl, .inr ⟨c.ok.ex.sqT s, rfl⟩, r, z⟩
    | _ => exact l.elim
  | own n =>
    obtain ⟨a, vs, rfl, _, e, r, z⟩ := c.list_own h l
    exact ⟨a, vs, rfl, .inl (SqL.of e), r.impure, by simpa using z⟩
end
/-- one argument -/
def a1 (r : A1) : AC := fun as S Post => match as with | [a] => r a S Post | _ => False
theorem lift_1 {K : PySem.W.Frag} {r : List V → Hp → VK → Prop} {t : A1} (h : Lift1 K (fun x => r [x]) t) : LiftC K r (a1 t) := by
  refine ⟨fun c vs as Post Q re h' q => ?_⟩
  unfold a1 at h'
  split at h'
  · cases re with
    | cons r1 rr =>
      cases rr
      exact h.run c _ _ Post Q r1 h' q
  · exact h'.elim
def aLen : A1 := fun a S Post => match a with
  | .p (.str z) => z.length ≤ sizeLine ∧ Post (.p (.int (z.length : Nat))) S
  | .p (.tup xs) => Post (.p (.int (xs.length : Nat))) S
  | .p (.lst xs) => Post (.p (.int (xs.length : Nat))) S
  | .p (.fz xs) => Post (.p (.int (xs.length : Nat))) S
  | .own n => (match S[n]? with | some (.lst ds) => Post (.p (.int (ds.length : Nat))) S | _ => False)
  | _ => False
theorem je_len {X : Cx} {e : Expr} {te : AE} {p pos : Pos} (hg : Gl X "len") (hm : X.mg "len" = none) (he : JE X e te) (h1 : starEach [e] X.env = (false, eval e X.env) :: starEach [] X.env := by rfl) (hpl : (backTo pos (starEach [] X.env)).any (·.1) = false := by rfl) : JE X (.Call (.Name "len" p) [e] [] pos) (aCall (a1 aLen) (aCons te aNil)) :=
  je_callB call_len (lift_1 ⟨fun c x a Post Q ra h q => by
    unfold aLen at h
    split at h
    · rename_i z
      cases (show Rp X.K c.Hk x (.str z) from ra)
      exact ⟨_, _, rfl, ⟨h.1, rfl⟩, q c _ _ (.refl c) (reI c _) h.2⟩
    · rename_i xs
      obtain ⟨p, vs, rfl, s, l, z⟩ := c.se (ps := xs) ra rfl
      refine ⟨_, xs.length, rfl, ?_, q c _ _ (.refl c) (reI c _) h⟩
      rcases s with s | s
      · exact .inl ⟨vs, s, l.length.symm⟩
      · exact .inr ⟨vs, s.1, l.length.symm⟩
    · rename_i xs
      obtain ⟨p, vs, rfl, s, l, z⟩ := c.se (ps := xs) ra rfl
      refine ⟨_, xs.length, rfl, ?_, q c _ _ (.refl c) (reI c _) h⟩
      rcases s with s | s
      · exact .inl ⟨vs, s, l.length.symm⟩
      · exact .inr ⟨vs, s.1, l.length.symm⟩
    · rename_i xs
      obtain ⟨p, vs, rfl, s, l, z⟩ := c.se (ps := xs) ra rfl
      refine ⟨_, xs.length, rfl, ?_, q c _ _ (.refl c) (reI c _) h⟩
      rcases s with s | s
      · exact .inl ⟨vs, s, l.length.symm⟩
      · exact .inr ⟨vs, s.1, l.length.symm⟩
    · rename_i n
      split at h
      · rename_i ds e0
        obtain ⟨p, vs, rfl, e2, e3, l, z⟩ := c.list_own ra e0
        exact ⟨_, ds.length, rfl, .inl ⟨vs, SqL.of e3, l.length.symm⟩, q c _ _ (.refl c) (reI c _) h⟩
      · exact h.elim
    · exact h.elim⟩) hg hm PySem.boot_len (ja_cons he ja_nil h1) (he := h1) (hpl := hpl)
/-- tuple(x) -/
def aTuple : A1 := fun a S Post => ∃ ps, seAt S a ps ∧ Post (.p (.tup ps)) S
theorem je_tuple {X : Cx} {e : Expr} {te : AE} {p pos : Pos} (hg : Gl X "tuple") (hm : X.mg "tuple" = none) (he : JE X e te) (h1 : starEach [e] X.env = (false, eval e X.env) :: starEach [] X.env := by rfl) (hpl : (backTo pos (starEach [] X.env)).any (·.1) = false := by rfl) : JE X (.Call (.Name "tuple" p) [e] [] pos) (aCall (a1 aTuple) (aCons te aNil)) :=
  je_callTy call_tuple_of (lift_1 ⟨fun c x a Post Q ra h q => by
    obtain ⟨ps, sa, h⟩ := h
    obtain ⟨p, vs, rfl, s, l, z⟩ := c.se ra sa
    refine ⟨p, vs, rfl, ?_⟩
    rcases s with s | s
    · refine .inl ⟨s, fun b hb => ?_⟩
      obtain ⟨f, eh, es, lf, rf⟩ := c.newTup hb l z
      rw [← eh]
      exact q f _ _ lf rf (by rw [es]; exact h)
    · exact .inr ⟨s.1, q c _ (.p (.tup ps)) (.refl c) (by rw [← s.2]; exact ra) h⟩⟩) hg hm (by decide +kernel) (ja_cons he ja_nil h1) (he := h1) (hpl := hpl)
end Am
/-! Am: more built-ins, methods, sorting, repr. -/
namespace Am
open PySem L2
section
variable {X : Cx} {e e2 : Expr} {te te2 : AE} {p pos : Pos}
theorem RpL.bls {K : PySem.W.Frag} {H : Hp} : ∀ {bs : List Bool} {vs : List V}, RpL K H vs (bs.map .bl) → vs = bs.map V.bl
  | [], _, h => by cases h; rfl
  | b :: bs, _, h => by
    cases h with
    | cons r l =>
      cases r
      rw [RpL.bls l]; rfl
theorem RpL.strs {K : PySem.W.Frag} {H : Hp} : ∀ {bs : List Str} {vs : List V}, RpL K H vs (bs.map .str) → vs = bs.map V.str
  | [], _, h => by cases h; rfl
  | b :: bs, _, h => by
    cases h with
    | cons r l =>
      cases r
      rw [RpL.strs l]; rfl
theorem RpL.of_strs {K : PySem.W.Frag} {H : Hp} : ∀ {bs : List Str}, RpL K H (bs.map V.str) (bs.map .str)
  | [] => .nil
  | b :: bs => .cons (.str b) RpL.of_strs
theorem RpL.ints {K : PySem.W.Frag} {H : Hp} : ∀ {bs : List Int} {vs : List V}, RpL K H vs (bs.map .int) → vs = bs.map V.int
  | [], _, h => by cases h; rfl
  | b :: bs, _, h => by
    cases h with
    | cons r l =>
      cases r
      rw [RpL.ints l]; rfl
theorem RpL.of_ints {K : PySem.W.Frag} {H : Hp} : ∀ {bs : List Int}, RpL K H (bs.map V.int) (bs.map .int)
  | [] => .nil
  | b :: bs => .cons (.int b) RpL.of_ints
def aAll : A1 := fun a S Post => ∃ bs : List Bool, lsAt S a (bs.map .bl) ∧ Post (.p (.bl (bs.all id))) S
def aAny : A1 := fun a S Post => ∃ bs : List Bool, lsAt S a (bs.map .bl) ∧ Post (.p (.bl (bs.any id))) S
theorem je_all (hc : X.calm = true) (hg : Gl X "all") (hm : X.mg "all" = none) (he : JE X e te) (h1 : starEach [e] X.env = (false, eval e X.env) :: starEach [] X.env := by rfl) (hpl : (backTo pos (starEach [] X.env)).any (·.1) = false := by rfl) : JE X (.Call (.Name "all" p) [e] [] pos) (aCall (a1 aAll) (aCons te aNil)) :=
  je_callB (cr_all hc) (lift_1 ⟨fun c x a Post Q ra h q => by
    obtain ⟨bs, la, h⟩ := h
    obtain ⟨b, vs, rfl, s, l, z⟩ := c.ls ra la
    exact ⟨b, bs, rfl, by rw [← l.bls]; exact SqL.of s, q c _ _ (.refl c) (reB c _) h⟩⟩) hg hm (by decide +kernel) (ja_cons he ja_nil h1) (he := h1) (hpl := hpl)
theorem je_any (hc : X.calm = true) (hg : Gl X "any") (hm : X.mg "any" = none) (he : JE X e te) (h1 : starEach [e] X.env = (false, eval e X.env) :: starEach [] X.env := by rfl) (hpl : (backTo pos (starEach [] X.env)).any (·.1) = false := by rfl) : JE X (.Call (.Name "any" p) [e] [] pos) (aCall (a1 aAny) (aCons te aNil)) :=
  je_callB (cr_any hc) (lift_1 ⟨fun c x a Post Q ra h q => by
    obtain ⟨bs, la, h⟩ := h
    obtain ⟨b, vs, rfl, s, l, z⟩ := c.ls ra la
    exact ⟨b, bs, rfl, by rw [← l.bls]; exact SqL.of s, q c _ _ (.refl c) (reB c _) h⟩⟩) hg hm (by decide +kernel) (ja_cons he ja_nil h1) (he := h1) (hpl := hpl)
def aAbs : A1 := fun a S Post => match a with | .p (.int i) => Post (.p (.int (i.natAbs : Nat))) S | _ => False
theorem je_abs (hg : Gl X "abs") (hm : X.mg "abs" = none) (he : JE X e te) (h1 : starEach [e] X.env = (false, eval e X.env) :: starEach [] X.env := by rfl) (hpl : (backTo pos (starEach [] X.env)).any (·.1) = false := by rfl) : JE X (.Call (.Name "abs" p) [e] [] pos) (aCall (a1 aAbs) (aCons te aNil)) :=
  je_callB call_abs (lift_1 ⟨fun c x a Post Q ra h q => by
    unfold aAbs at h
    split at h
    · rename_i i
      cases (show Rp X.K c.Hk x (.int i) from ra)
      refine ⟨i, rfl, ?_⟩
      have e : (if i < 0 then -i else i) = ((i.natAbs : Nat) : Int) := by split <;> omega
      rw [e]
      exact q c _ _ (.refl c) (reI c _) h
    · exact h.elim⟩) hg hm (by decide +kernel) (ja_cons he ja_nil h1) (he := h1) (hpl := hpl)
/-- int(flag), int(n), int(text) -/
def aInt : A1 := fun a S Post => match a with
  | .p (.int i) => Post (.p (.int i)) S
  | .p (.bl b) => Post (.p (.int (if b = true then 1 else 0))) S
  | .p (.str z) => ∃ n, PySem.intText? z = some n ∧ z.length ≤ 640 ∧ Post (.p (.int n)) S
  | _ => False
theorem je_intC (hg : Gl X "int") (hm : X.mg "int" = none) (he : JE X e te) (h1 : starEach [e] X.env = (false, eval e X.env) :: starEach [] X.env := by rfl) (hpl : (backTo pos (starEach [] X.env)).any (·.1) = false := by rfl) : JE X (.Call (.Name "int" p) [e] [] pos) (aCall (a1 aInt) (aCons te aNil)) :=
  je_callTy (CallR.or call_int1 call_int_str) (lift_1 ⟨fun c x a Post Q ra h q => by
    unfold aInt at h
    split at h
    · rename_i i
      cases (show Rp X.K c.Hk x (.int i) from ra)
      exact .inl (.inl ⟨i, rfl, q c _ _ (.refl c) (reI c _) h⟩)
    · rename_i b
      cases (show Rp X.K c.Hk x (.bl b) from ra)
      exact .inl (.inr ⟨b, rfl, q c _ _ (.refl c) (reI c _) h⟩)
    · rename_i z
      cases (show Rp X.K c.Hk x (.str z) from ra)
      obtain ⟨n, h1, h2, h3⟩ := h
      exact .inr ⟨z, n, rfl, h1, h2, q c _ _ (.refl c) (reI c _) h3⟩
    · exact h.elim⟩) hg hm (by decide +kernel) (ja_cons he ja_nil h1) (he := h1) (hpl := hpl)
/-- str(n) -/
def aStr : A1 := fun a S Post => match a with | .p (.int i) => i.natAbs.log2 < 1920 ∧ Post (.p (.str (toString i))) S | _ => False
theorem je_strC (hg : Gl X "str") (hm : X.mg "str" = none) (he : JE X e te) (h1 : starEach [e] X.env = (false, eval e X.env) :: starEach [] X.env := by rfl) (hpl : (backTo pos (starEach [] X.env)).any (·.1) = false := by rfl) : JE X (.Call (.Name "str" p) [e] [] pos) (aCall (a1 aStr) (aCons te aNil)) :=
  je_callTy call_str_int (lift_1 ⟨fun c x a Post Q ra h q => by
    unfold aStr at h
    split at h
    · rename_i i
      cases (show Rp X.K c.Hk x (.int i) from ra)
      exact ⟨i, rfl, h.1, q c _ _ (.refl c) (reS c _) h.2⟩
    · exact h.elim⟩) hg hm (by decide +kernel) (ja_cons he ja_nil h1) (he := h1) (hpl := hpl)
/-! ### isinstance of built-in types -/
inductive BT where
  | int | bool | str | tuple | list | dict | none
  deriving DecidableEq
def BT.nm : BT → String
  | .int => "int" | .bool => "bool" | .str => "str" | .tuple => "tuple" | .list => "list" | .dict => "dict" | .none => "NoneType"
def BT.isB : BT → BT → Bool
  | .int, .int => true | .bool, .bool => true | .bool, .int => true | .str, .str => true | .tuple, .tuple => true | .list, .list => true | .dict, .dict => true | .none, .none => true
  | _, _ => false
def btOf : P → Option BT
  | .non => some .none | .bl _ => some .bool | .int _ => some .int | .str _ => some .str | .tup _ => some .tuple | .lst _ => some .list | .fz _ => some .list | .dk _ => some .dict
  | _ => none
theorem kit_bt (a b : BT) : kitB a.nm b.nm = some (a.isB b) := by
  cases a <;> cases b <;> decide +kernel
theorem Cf.ty {K : PySem.W.Frag} (c : Cf K) {v : V} {x : P} {t : BT} (h : c.re v (.p x)) (e : btOf x = some t) : TyX K c.H v (.type t.nm) := by
  have h : Rp K c.Hk v x := h
  cases h with
  | non => cases e; exact .base .non
  | bl b => cases e; exact .base (.bl b)
  | int i => cases e; exact .base (.int i)
  | str s => cases e; exact .base (.str s)
  | tup s z l =>
    cases e
    rcases c.ok.ex.sqT s with (s | ⟨o, s⟩) | ⟨o, its, n, h1, h2, _⟩
    · exact .base (.tup s)
    · exact .fTuple s
    · exact .kTuple h1 h2
  | lst s z l => cases e; exact .base (.lst (c.ok.ex _ _ s))
  | fz s z l =>
    cases e
    rcases c.ok.ex.sqL s with (s | ⟨o, s⟩) | ⟨o, its, n, h1, h2, _⟩
    · exact .base (.lst s)
    · exact .base (.frz s)
    · exact .kList h1 h2
  | dk s z l =>
    cases e
    rcases c.ok.ex.rd s with s | ⟨o, s⟩
    · exact .base (.dK s)
    · exact .fDict s
  | dt s z l => cases e
  | ins s l => cases e
  | vv v => cases e
def aIsi (T : BT) (te : AE) : AE := fun L S Post => te L S fun a S1 => match a with
  | .p x => (match btOf x with | some t => Post (.p (.bl (t.isB T))) S1 | none => False)
  | .own n => (match S1[n]? with | some (.lst _) => Post (.p (.bl (BT.list.isB T))) S1 | _ => False)
theorem je_isi (T : BT) {p2 : Pos} {y : Str} (hv : bootBuiltins y = some (.type T.nm)) (hn : y ≠ "__name__") (hd : (y == ("__debug__" : Str)) = false) (hg : Gl X "isinstance") (hm : X.mg "isinstance" = none) (hgT : Gl X y) (hmT : X.mg y = none) (he : JE X e te)
    (h1 : starEach [e, .Name y p2] X.env = (false, eval e X.env) :: starEach [.Name y p2] X.env := by rfl) (h2 : starEach [.Name y p2] X.env = (false, eval (.Name y p2) X.env) :: starEach [] X.env := by rfl) (hpl : (backTo pos (starEach [.Name y p2] X.env)).any (·.1) = false := by rfl) :
    JE X (.Call (.Name "isinstance" p) [e, .Name y p2] [] pos) (aIsi T te) := by
  obtain ⟨t1, p1, l1⟩ := he
  refine ⟨_, pe_callB call_isi hg hm (by decide +kernel) (pa_cons p1 (pa_cons (pe_bltn hgT hmT hv (v := .ty T.nm) rfl hn hd) pa_nil h2) h1) (he := h1) (hpl := hpl), ⟨fun c L σ Post Q hs h q => ?_⟩⟩
  refine l1.run c L σ _ _ hs h fun d v a le re h => ?_
  split at h
  · rename_i x
    split at h
    · rename_i t e0
      exact ⟨v, .ty T.nm, _, _, t.isB T, rfl, .ty _, d.ty re e0, kit_ty (kit_bt t T), q d _ _ le (reB d _) h⟩
    · exact h.elim
  · rename_i n
    split at h
    · rename_i ds e0
      obtain ⟨b, vs, rfl, e2, e3, l, z⟩ := d.list_own re e0
      exact ⟨_, .ty T.nm, _, _, BT.list.isB T, rfl, .ty _, .base (.lst e3), kit_ty (kit_bt .list T), q d _ _ le (reB d _) h⟩
    · exact h.elim
/-! ### texts -/
theorem isStr {K : PySem.W.Frag} {c : Cf K} {v : V} {z : Str} (h : c.re v (.p (.str z))) : v = .str z := by
  cases (show Rp K c.Hk v (.str z) from h); rfl
end
section
variable {X : Cx} {a b : Expr} {ta tb : AE} {apos pos : Pos}
/-- the receiver is a text -/
def isT : D → Bool | .p (.str _) => true | _ => false
def aJoin' (ta tb : AE) : AE := fun L S Post => ta L S fun a S1 => match a with
  | .p (.str z) => tb L S1 fun b S2 => ∃ ys : List Str, seAt S2 b (ys.map .str) ∧ (ys.map (·.length)).sum + ys.length * z.length ≤ 16777216 ∧ Post (.p (.str (Txt.join z ys))) S2
  | _ => False
theorem je_join (ha : JE X a ta) (hb : JE X b tb) (hs : starEach [b] X.env = [(false, eval b X.env)] := by rfl) (hbase : attributeBase a "join" X.env (eval a X.env) = eval a X.env := by rfl) (hline : (apos.endLine == pos.line) = true := by rfl) :
    JE X (.Call (.Attribute a "join" apos) [b] [] pos) (aJoin' ta tb) := by
  obtain ⟨t1, p1, l1⟩ := ha
  obtain ⟨t2, p2, l2⟩ := hb
  refine ⟨_, pe_join p1 p2 hs hbase hline, ⟨fun c L σ Post Q hs h q => ?_⟩⟩
  refine l1.run c L σ _ _ hs h fun d v x le re h1 => ?_
  split at h1
  · rename_i z
    obtain rfl := isStr re
    refine ⟨⟨z, rfl⟩, ?_⟩
    refine l2.run d L σ _ _ (le.sl hs) h1 fun d2 v2 x2 le2 re2 h2 => ?_
    obtain ⟨ys, sa, hz, h3⟩ := h2
    obtain ⟨b, vs, rfl, s, l, _⟩ := d2.se re2 sa
    rw [l.strs] at s
    exact ⟨z, b, ys, rfl, rfl, s.imp id (·.1), hz, q d2 _ _ (le.trans le2) (reS d2 _) h3⟩
  · exact h1.elim
def aSplit (ta tb : AE) : AE := fun L S Post => ta L S fun a S1 => match a with
  | .p (.str z) => tb L S1 fun b S2 => (match b with
    | .p (.str y) => (y.length == 0) = false ∧ z.length + 2 ≤ sizeLine ∧ (Txt.split z y).length ≤ sizeLine ∧ Post (.p (.lst ((Txt.split z y).map .str))) S2
    | _ => False)
  | _ => False
theorem je_split (ha : JE X a ta) (hb : JE X b tb) (hs : starEach [b] X.env = [(false, eval b X.env)] := by rfl) (hbase : attributeBase a "split" X.env (eval a X.env) = eval a X.env := by rfl) (hline : (apos.endLine == pos.line) = true := by rfl) :
    JE X (.Call (.Attribute a "split" apos) [b] [] pos) (aSplit ta tb) := by
  obtain ⟨t1, p1, l1⟩ := ha
  obtain ⟨t2, p2, l2⟩ := hb
  refine ⟨_, pe_split p1 p2 hs hbase hline, ⟨fun c L σ Post Q hs h q => ?_⟩⟩
  refine l1.run c L σ _ _ hs h fun d v x le re h1 => ?_
  split at h1
  · rename_i z
    obtain rfl := isStr re
    refine ⟨⟨z, rfl⟩, ?_⟩
    refine l2.run d L σ _ _ (le.sl hs) h1 fun d2 v2 x2 le2 re2 h2 => ?_
    split at h2
    · rename_i y
      obtain rfl := isStr re2
      obtain ⟨h3, h4, h5, h6⟩ := h2
      refine ⟨z, y, rfl, rfl, h3, h4, fun p hp => ?_⟩
      obtain ⟨f, eh, es, lf, rf⟩ := d2.newLst (vs := (Txt.split z y).map V.str) (ps := (Txt.split z y).map .str) hp RpL.of_strs (by simpa using h5)
      rw [← eh]
      exact q f _ _ (le.trans (le2.trans lf)) rf (by rw [es]; exact h6)
    · exact h2.elim
  · exact h1.elim
end
/-! ### methods of lists -/
def isLs (S : List O) : D → Bool
  | .own n => (match S[n]? with | some (.lst _) => true | _ => false)
  | .p (.lst _) => true
  | _ => false
structure LiftM (K : PySem.W.Frag) (r : V → List V → Hp → VK → Prop) (t : AM) : Prop where
  run : ∀ (c : Cf K) (x : V) (a : D) (vs : List V) (as : List D) (Post : D → List O → Prop) (Q : VK), c.re x a → ReL K c.η c.Hk vs as → t a as c.S Post → (∀ (d : Cf K) v a, c.Le d → d.re v a → Post a d.S → Q v d.H) → r x vs c.H Q
def aMt (chk : List O → D → Bool) (r : AM) (te : AE) (t : AA) : AE := fun L S Post => te L S fun a S1 => match chk S1 a with
  | true => t L S1 fun as S2 => r a as S2 Post
  | false => False
def aAppend : AM := fun a as S Post => match a, as with
  | .own n, [x] => (match S[n]? with | some (.lst ds) => ds.length < sizeLine ∧ Post (.p .non) (S.set n (.lst (ds ++ [x]))) | _ => False)
  | _, _ => False
def aExtend : AM := fun a as S Post => match a, as with
  | .own n, [.p (.lst ps)] => (match S[n]? with | some (.lst ds) => ds.length + ps.length ≤ sizeLine ∧ Post (.p .non) (S.set n (.lst (ds ++ ps.map .p))) | _ => False)
  | _, _ => False
theorem lift_append {K : PySem.W.Frag} : LiftM K rAppend aAppend := by
  refine ⟨fun c x a vs as Post Q ra rs h q => ?_⟩
  unfold aAppend at h
  split at h
  · rename_i n y
    split at h
    · rename_i ds e0
      obtain ⟨b, ws, rfl, e1, e2, l, z⟩ := c.list_own ra e0
      cases rs with
      | cons r1 rs =>
        cases rs
        obtain ⟨f, eh, es, lf⟩ := c.setLst (vs' := ws ++ [_]) (ds' := ds ++ [y]) e1 e0 (l.append (.cons r1 .nil)) (by rw [List.length_append, List.length_singleton]; omega)
        refine ⟨b, ws, _, rfl, rfl, e2, by rw [l.length]; exact h.1, ?_⟩
        rw [← eh]
        exact q f _ _ lf (reN f) (by rw [es]; exact h.2)
    · exact h.elim
  · exact h.elim
theorem lift_extend {K : PySem.W.Frag} : LiftM K rExtend aExtend := by
  refine ⟨fun c x a vs as Post Q ra rs h q => ?_⟩
  unfold aExtend at h
  split at h
  · rename_i n ps
    split at h
    · rename_i ds e0
      obtain ⟨b, ws, rfl, e1, e2, l, z⟩ := c.list_own ra e0
      cases rs with
      | cons r1 rs =>
        cases rs
        obtain ⟨b2, ws2, rfl, e3, l2, z2⟩ := c.ls (ps := ps) r1 rfl
        obtain ⟨f, eh, es, lf⟩ := c.setLst (vs' := ws ++ ws2) (ds' := ds ++ ps.map .p) e1 e0 (l.append (ReL.pure l2)) (by simpa using h.1)
        refine ⟨b, b2, ws, ws2, rfl, rfl, e2, e3, by rw [l.length, l2.length]; exact h.1, ?_⟩
        rw [← eh]
        exact q f _ _ lf (reN f) (by rw [es]; exact h.2)
    · exact h.elim
  · exact h.elim
theorem Cf.isLs {K : PySem.W.Frag} (c : Cf K) {v : V} {a : D} (h : c.re v a) (e : Am.isLs c.S a = true) : tyV K "list" v c.H := by
  cases a with
  | own n =>
    have e : (match c.S[n]? with | some (O.lst _) => true | _ => false) = true := e
    split at e
    · rename_i ds e0
      obtain ⟨b, vs, rfl, e2, e3, l, z⟩ := c.list_own h e0
      exact .inl ⟨rfl, vs, SqL.of e3⟩
    · cases e
  | p x =>
    cases x with
    | lst ys =>
      obtain ⟨b, vs, rfl, e1, _, _⟩ := c.ls (ps := ys) h rfl
      exact .inl ⟨rfl, vs, SqL.of e1⟩
    | _ => cases e
section
variable {X : Cx} {o e : Expr} {es : List Expr} {te : AE} {t : AA} {apos cpos : Pos} {name : Str} {id : String} {r : V → List V → Hp → VK → Prop} {ra : AM}
theorem je_mtL (slot : Slot "list" name id) (hty : typeOf (.builtin id) = pure (.type "method_descriptor")) (hm : MtR X id r) (hr : LiftM X.K r ra) (ho : JE X o te) (ha : JA X (e :: es) t)
    (hbase : attributeBase o name X.env (eval o X.env) = eval o X.env := by rfl)
    (hfew : ((backTo cpos (starEach (e :: es) X.env)).all (fun x => !x.1) && (backToKw cpos (keywordEach [] X.env)).all (fun x => x.1.isSome)
      && decide ((e :: es).length + ([] : List Keyword).length + (if ([] : List Keyword).isEmpty then 0 else 1) < 30)) = true := by rfl)
    (hline : (apos.endLine == cpos.line) = true := by rfl) (hs : starEach (e :: es) X.env = (false, eval e X.env) :: starEach es X.env := by rfl) (hplain : (backTo cpos (starEach es X.env)).any (·.1) = false := by rfl) :
    JE X (.Call (.Attribute o name apos) (e :: es) [] cpos) (aMt isLs ra te t) := by
  obtain ⟨t1, p1, l1⟩ := ho
  obtain ⟨t2, p2, l2⟩ := ha
  refine ⟨_, pe_bm PySem.F.plainAttrs_list slot hty hm p1 p2 hbase hfew hline hs hplain, ⟨fun c L σ Post Q hs h q => ?_⟩⟩
  refine l1.run c L σ _ _ hs h fun d v x le re h1 => ?_
  split at h1
  · rename_i e0
    refine ⟨d.isLs re e0, ?_⟩
    refine l2.run d L σ _ _ (le.sl hs) h1 fun d2 vs as le2 re2 h2 => ?_
    exact hr.run d2 v x vs as Post Q (le2.re re) re2 h2 fun d3 v3 x3 le3 re3 h3 => q d3 v3 x3 (le.trans (le2.trans le3)) re3 h3
  · exact h1.elim
end
end Am
/-! Am: membership, chained comparison, zip, sorted, repr, list * int. -/
namespace Am
open PySem L2
/-! ### repr of data -/
def rReprD (K : PySem.W.Frag) : List V → Hp → VK → Prop := fun vs H Q => ∃ (a : Addr) (d : PyData), vs = [V.ref a] ∧ Dp K H (V.ref a) d ∧ SeqAt.shaped d = true ∧ d.showable = true ∧ d.shown.length ≤ sizeLine ∧ Q (.str d.shown) H
theorem cr_reprD {X : Cx} (hu : X.A.units + 65 < cLine) (hg : X.A.guards = some []) : CallR X (.builtin "repr") (rReprD X.K) := by
  intro pins s σ H vs us Q I r h
  obtain ⟨a, d, rfl, hd, sd, hs, hz, q⟩ := h
  obtain ⟨as, r1⟩ := Dp.reads I d (.ref a) (.ref a) hd rfl
  rw [Vals.ref1 r]
  have hl := SeqAt.canLay_of_shaped sd
  have hdp : d.depth ≤ 64 := by
    unfold SeqAt.shaped at sd
    simp only [Bool.and_eq_true, decide_eq_true_eq] at sd
    omega
  exact repr_of_reads' r1 hs (PyData.noDict_hsm (PyData.hasDict_of_canLay d hl)) hg (by omega) (fun _ _ e => e) (fun h' u tk hk => ⟨.str _, H, I.kept hk, ⟨u, rfl⟩, q⟩) hz
def isSeqP : P → Bool | .tup _ => true | .lst _ => true | .fz _ => true | _ => false
def aRepr : A1 := fun a S Post => ∃ x, asP S a x ∧ isSeqP x = true ∧ Dat 60 x ∧ x.py.showable = true ∧ x.py.shown.length ≤ sizeLine ∧ Post (.p (.str x.py.shown)) S
theorem lift_repr {K : PySem.W.Frag} : Lift1 K (fun x => rReprD K [x]) aRepr := by
  refine ⟨fun c x a Post Q ra h q => ?_⟩
  obtain ⟨y, ay, sy, dy, h1, h2, h3⟩ := h
  have hd := c.asP ra ay dy
  have hx : ∃ b, x = .ref b := by
    cases a with
    | own n => obtain ⟨b, _, rfl⟩ := ra; exact ⟨b, rfl⟩
    | p z =>
      obtain rfl : z = y := ay
      cases (show Rp K c.Hk x z from ra) <;> first | exact ⟨_, rfl⟩ | (exact absurd sy (by simp [isSeqP]))
  obtain ⟨b, rfl⟩ := hx
  exact ⟨b, _, rfl, hd, dy.shaped (by decide), h1, h2, q c _ _ (.refl c) (reS c _) h3⟩
section
variable {X : Cx} {e e2 : Expr} {te te2 : AE} {p pos : Pos} {k : Nat}
theorem je_repr (hr : Room k X.A) (hgd : X.A.guards = some []) (hu : X.A.units + 65 < cLine) (hg : Gl X "repr") (hm : X.mg "repr" = none) (he : JE X e te) (h1 : starEach [e] X.env = (false, eval e X.env) :: starEach [] X.env := by rfl) (hpl : (backTo pos (starEach [] X.env)).any (·.1) = false := by rfl) : JE X (.Call (.Name "repr" p) [e] [] pos) (aCall (a1 aRepr) (aCons te aNil)) :=
  je_callB (cr_reprD hu hgd) (lift_1 lift_repr) hg hm (by decide +kernel) (ja_cons he ja_nil h1) (he := h1) (hpl := hpl)
/-! ### in -/
def rInTD (K : PySem.W.Frag) : R2 := fun x y H Q => ∃ d ds, Dp K H x d ∧ Dp K H y (.tuple ds) ∧ SeqAt.shaped d = true ∧ SeqAt.shaped (.tuple ds) = true ∧ Q (.bl (ds.any fun z => PyData.eqv z d)) H
def rNInTD (K : PySem.W.Frag) : R2 := fun x y H Q => ∃ d ds, Dp K H x d ∧ Dp K H y (.tuple ds) ∧ SeqAt.shaped d = true ∧ SeqAt.shaped (.tuple ds) = true ∧ Q (.bl (!ds.any fun z => PyData.eqv z d)) H
theorem op_inTD (hu : X.A.units + 65 < cLine) : OpR X (compareOp .In) (rInTD X.K) := by
  intro pins s σ H x y v u Q I rx ry h
  obtain ⟨d, ds, hd, he, sd, se, q⟩ := h
  obtain ⟨as, r1⟩ := Dp.reads I d x v hd rx
  obtain ⟨bs, r2⟩ := Dp.reads I (.tuple ds) y u he ry
  exact SeqAt.in_tuple_reads r2 r1 (SeqAt.canLay_of_shaped se) (SeqAt.canLay_of_shaped sd) (PyProof.Rows.room_in_shaped sd hu) ⟨.bl _, H, I, rfl, q⟩
theorem op_nInTD (hu : X.A.units + 65 < cLine) : OpR X (compareOp .NotIn) (rNInTD X.K) := by
  intro pins s σ H x y v u Q I rx ry h
  obtain ⟨d, ds, hd, he, sd, se, q⟩ := h
  obtain ⟨as, r1⟩ := Dp.reads I d x v hd rx
  obtain ⟨bs, r2⟩ := Dp.reads I (.tuple ds) y u he ry
  exact SeqAt.notIn_tuple_reads r2 r1 (SeqAt.canLay_of_shaped se) (SeqAt.canLay_of_shaped sd) (PyProof.Rows.room_in_shaped sd hu) ⟨.bl _, H, I, rfl, q⟩
def rSgn (neg : Bool) : R2 := fun x y H Q => ∃ (c : Nat) (z : Str), x = .str ⟨#[c]⟩ ∧ y = .str z ∧ Q (.bl (xor neg (decide (c ∈ z.cps.toList)))) H
theorem op_sgn0 : OpR X (compareOp .In) (rSgn false) := fun pins s σ H x y v u Q I rx ry ⟨c, z, e1, e2, q⟩ => op_in_sign pins s σ H x y v u Q I rx ry ⟨c, z, e1, e2, by simpa using q⟩
theorem op_sgn1 : OpR X (compareOp .NotIn) (rSgn true) := fun pins s σ H x y v u Q I rx ry ⟨c, z, e1, e2, q⟩ => op_notIn_sign pins s σ H x y v u Q I rx ry ⟨c, z, e1, e2, by simpa using q⟩
def rInU (K : PySem.W.Frag) : R2 := fun x y H Q => rSgn false x y H Q ∨ (rInD K x y H Q ∨ rInTD K x y H Q)
def rNInU (K : PySem.W.Frag) : R2 := fun x y H Q => rSgn true x y H Q ∨ (rNotInD K x y H Q ∨ rNInTD K x y H Q)
def seP (S : List O) : D → List P → Prop
  | .p (.lst xs), ps => xs = ps
  | .p (.tup xs), ps => xs = ps
  | .own n, ps => S[n]? = some (.lst (ps.map .p))
  | _, _ => False
def aIn (neg : Bool) : A2 := fun a b S Post => match a, b with
  | .p (.str y), .p (.str z) => ∃ c, y = ⟨#[c]⟩ ∧ Post (.p (.bl (xor neg (decide (c ∈ z.cps.toList))))) S
  | a, b => ∃ x ps, asP S a x ∧ seP S b ps ∧ Dat 60 x ∧ (∀ y ∈ ps, Dat 59 y) ∧ Post (.p (.bl (xor neg (ps.any fun z => P.eqb z x)))) S
theorem any_py (x : P) : ∀ ps : List P, (P.pys ps).any (fun z => PyData.eqv z x.py) = ps.any fun z => P.eqb z x
  | [] => rfl
  | y :: ys => by rw [P.pys, List.any_cons, List.any_cons, any_py x ys]; rfl
theorem Cf.seP {K : PySem.W.Frag} (c : Cf K) {v : V} {d : D} {ps : List P} (h : c.re v d) (l : Am.seP c.S d ps) (dp : ∀ y ∈ ps, Dat 59 y) : (Dp K c.H v (.list (P.pys ps)) ∧ SeqAt.shaped (.list (P.pys ps)) = true) ∨ (Dp K c.H v (.tuple (P.pys ps)) ∧ SeqAt.shaped (.tuple (P.pys ps)) = true) := by
  have dL : Dat 60 (.lst ps) := dp
  have dT : Dat 60 (.tup ps) := dp
  cases d with
  | p x =>
    cases x with
    | lst ys =>
      obtain rfl : ys = ps := l
      have h1 := c.asP (x := .lst ys) h rfl dL
      have h2 := dL.shaped (by decide)
      rw [P.py] at h1 h2
      exact .inl ⟨h1, h2⟩
    | tup ys =>
      obtain rfl : ys = ps := l
      have h1 := c.asP (x := .tup ys) h rfl dT
      have h2 := dT.shaped (by decide)
      rw [P.py] at h1 h2
      exact .inr ⟨h1, h2⟩
    | _ => exact l.elim
  | own n =>
    have h1 := c.asP (x := .lst ps) h ⟨ps, l, rfl⟩ dL
    have h2 := dL.shaped (by decide)
    rw [P.py] at h1 h2
    exact .inl ⟨h1, h2⟩
theorem lift_in0 {K : PySem.W.Frag} : Lift2 K (rInU K) (aIn false) := by
  refine ⟨fun c x y a b Post Q ra rb h q => ?_⟩
  unfold aIn at h
  split at h
  · rename_i y z
    obtain ⟨k, rfl, h⟩ := h
    cases (show Rp K c.Hk x (.str ⟨#[k]⟩) from ra)
    cases (show Rp K c.Hk _ (.str z) from rb)
    exact .inl ⟨k, z, rfl, rfl, q c _ _ (.refl c) (reB c _) h⟩
  · obtain ⟨u, ps, au, sp, du, dp, h⟩ := h
    have h1 := c.asP ra au du
    have h2 := du.shaped (by decide)
    rcases c.seP rb sp dp with ⟨g1, g2⟩ | ⟨g1, g2⟩
    · exact .inr (.inl ⟨_, _, h1, g1, h2, g2, by rw [any_py]; exact q c _ _ (.refl c) (reB c _) (by simpa using h)⟩)
    · exact .inr (.inr ⟨_, _, h1, g1, h2, g2, by rw [any_py]; exact q c _ _ (.refl c) (reB c _) (by simpa using h)⟩)
theorem lift_in1 {K : PySem.W.Frag} : Lift2 K (rNInU K) (aIn true) := by
  refine ⟨fun c x y a b Post Q ra rb h q => ?_⟩
  unfold aIn at h
  split at h
  · rename_i y z
    obtain ⟨k, rfl, h⟩ := h
    cases (show Rp K c.Hk x (.str ⟨#[k]⟩) from ra)
    cases (show Rp K c.Hk _ (.str z) from rb)
    exact .inl ⟨k, z, rfl, rfl, q c _ _ (.refl c) (reB c _) h⟩
  · obtain ⟨u, ps, au, sp, du, dp, h⟩ := h
    have h1 := c.asP ra au du
    have h2 := du.shaped (by decide)
    rcases c.seP rb sp dp with ⟨g1, g2⟩ | ⟨g1, g2⟩
    · exact .inr (.inl ⟨_, _, h1, g1, h2, g2, by rw [any_py]; exact q c _ _ (.refl c) (reB c _) (by simpa using h)⟩)
    · exact .inr (.inr ⟨_, _, h1, g1, h2, g2, by rw [any_py]; exact q c _ _ (.refl c) (reB c _) (by simpa using h)⟩)
variable {a b c : Expr} {ta tb tc : AE}
theorem je_in (hu : X.A.units + 65 < cLine) (ha : JE X a ta) (hb : JE X b tb) (hm : behindInMarks .In b = false := by with_unfolding_all rfl) : JE X (.Compare a [.In] [b] pos) (aOp (aIn false) ta tb) := je_cmp (OpR.or op_sgn0 (OpR.or (op_inD hu) (op_inTD hu))) lift_in0 ha hb hm
theorem je_nin (hu : X.A.units + 65 < cLine) (ha : JE X a ta) (hb : JE X b tb) (hm : behindInMarks .NotIn b = false := by with_unfolding_all rfl) : JE X (.Compare a [.NotIn] [b] pos) (aOp (aIn true) ta tb) := je_cmp (OpR.or op_sgn1 (OpR.or (op_notInD hu) (op_nInTD hu))) lift_in1 ha hb hm
theorem jt_in (hu : X.A.units + 65 < cLine) (ha : JE X a ta) (hb : JE X b tb) (hm : behindInMarks .In b = false := by with_unfolding_all rfl) : JT X (.Compare a [.In] [b] pos) (aTest (aOp (aIn false) ta tb)) := jt_cmp (OpR.or op_sgn0 (OpR.or (op_inD hu) (op_inTD hu))) lift_in0 ha hb hm
theorem jt_nin (hu : X.A.units + 65 < cLine) (ha : JE X a ta) (hb : JE X b tb) (hm : behindInMarks .NotIn b = false := by with_unfolding_all rfl) : JT X (.Compare a [.NotIn] [b] pos) (aTest (aOp (aIn true) ta tb)) := jt_cmp (OpR.or op_sgn1 (OpR.or (op_notInD hu) (op_nInTD hu))) lift_in1 ha hb hm
/-! ### a < b < c -/
def aChain (r r' : A2) (ta tb tc : AE) : AE := fun L S Post => ta L S fun a S1 => tb L S1 fun b S2 => r a b S2 fun z S3 => match z with
  | .p (.bl true) => tc L S3 fun w S4 => r' b w S4 Post
  | .p (.bl false) => Post (.p (.bl false)) S3
  | _ => False
theorem je_chain {op op' : CmpOp} {r r' : R2} {s s' : A2} (ho : OpR X (compareOp op) r) (ho' : OpR X (compareOp op') r') (hl : Lift2 X.K r s) (hl' : Lift2 X.K r' s') (ha : JE X a ta) (hb : JE X b tb) (hc : JE X c tc)
    (hm : lastMarks [op, op'] [b, c] = false := by with_unfolding_all rfl) : JE X (.Compare a [op, op'] [b, c] pos) (aChain s s' ta tb tc) := by
  obtain ⟨t1, p1, l1⟩ := ha
  obtain ⟨t2, p2, l2⟩ := hb
  obtain ⟨t3, p3, l3⟩ := hc
  refine ⟨_, pe_chain ho ho' p1 p2 p3 hm, ⟨fun c L σ Post Q hs h q => ?_⟩⟩
  refine l1.run c L σ _ _ hs h fun d v x le re h1 => ?_
  refine l2.run d L σ _ _ (le.sl hs) h1 fun d2 v2 x2 le2 re2 h2 => ?_
  refine hl.run d2 _ _ _ _ _ _ (le2.re re) re2 h2 fun d3 v3 x3 le3 re3 h3 => ?_
  have le' := le.trans (le2.trans le3)
  split at h3
  · cases (show Rp X.K d3.Hk v3 (.bl true) from re3)
    refine ⟨true, rfl, ?_⟩
    rw [if_pos rfl]
    refine l3.run d3 L σ _ _ (le'.sl hs) h3 fun d4 v4 x4 le4 re4 h4 => ?_
    exact hl'.run d4 _ _ _ _ _ _ ((le3.trans le4).re re2) re4 h4 fun d5 v5 x5 le5 re5 h5 => q d5 _ _ (le'.trans (le4.trans le5)) re5 h5
  · cases (show Rp X.K d3.Hk v3 (.bl false) from re3)
    refine ⟨false, rfl, ?_⟩
    rw [if_neg Bool.false_ne_true]
    exact q d3 _ _ le' (reB d3 _) h3
  · exact h3.elim
theorem je_le_lt (ha : JE X a ta) (hb : JE X b tb) (hc : JE X c tc) : JE X (.Compare a [.LtE, .Lt] [b, c] pos) (aChain aLe aLt ta tb tc) := je_chain op_le op_lt (lift_I0 fun c _ _ => reB c _) (lift_I0 fun c _ _ => reB c _) ha hb hc (nomark c)
theorem je_le_le (ha : JE X a ta) (hb : JE X b tb) (hc : JE X c tc) : JE X (.Compare a [.LtE, .LtE] [b, c] pos) (aChain aLe aLe ta tb tc) := je_chain op_le op_le (lift_I0 fun c _ _ => reB c _) (lift_I0 fun c _ _ => reB c _) ha hb hc (nomark c)
theorem je_lt_lt (ha : JE X a ta) (hb : JE X b tb) (hc : JE X c tc) : JE X (.Compare a [.Lt, .Lt] [b, c] pos) (aChain aLt aLt ta tb tc) := je_chain op_lt op_lt (lift_I0 fun c _ _ => reB c _) (lift_I0 fun c _ _ => reB c _) ha hb hc (nomark c)
theorem je_lt_le (ha : JE X a ta) (hb : JE X b tb) (hc : JE X c tc) : JE X (.Compare a [.Lt, .LtE] [b, c] pos) (aChain aLt aLe ta tb tc) := je_chain op_lt op_le (lift_I0 fun c _ _ => reB c _) (lift_I0 fun c _ _ => reB c _) ha hb hc (nomark c)
/-! ### list * int -/
def aRep : A2 := fun a b S Post => match b with
  | .p (.int k) => ∃ ps, lsAt S a ps ∧ -(2 ^ 62) ≤ k ∧ k < 2 ^ 62 ∧ ps.length * k.toNat ≤ sizeLine ∧ Post (.p (.lst (List.replicate k.toNat ps).flatten)) S
  | _ => False
theorem RpL.rep {K : PySem.W.Frag} {H : Hp} {vs : List V} {ps : List P} (l : RpL K H vs ps) : ∀ n : Nat, RpL K H (List.replicate n vs).flatten (List.replicate n ps).flatten
  | 0 => .nil
  | n + 1 => by
    rw [List.replicate_succ, List.replicate_succ, List.flatten_cons, List.flatten_cons]
    exact l.append (RpL.rep l n)
theorem len_rep {α : Type} (xs : List α) : ∀ n : Nat, (List.replicate n xs).flatten.length = xs.length * n
  | 0 => rfl
  | n + 1 => by rw [List.replicate_succ, List.flatten_cons, List.length_append, len_rep xs n, Nat.mul_succ, Nat.add_comm]
theorem je_rep (ha : JE X a ta) (hb : JE X b tb) : JE X (.BinOp a .Mult b pos) (aOp aRep ta tb) := je_op op_rep ⟨fun c x y a b Post Q ra rb h q => by
  unfold aRep at h
  split at h
  · rename_i k
    obtain ⟨ps, la, h1, h2, h3, h4⟩ := h
    obtain ⟨p, vs, rfl, e1, l, z⟩ := c.ls ra la
    cases (show Rp X.K c.Hk y (.int k) from rb)
    refine ⟨p, k, vs, rfl, rfl, e1, by omega, by omega, by rw [l.length]; exact h3, fun b hb => ?_⟩
    obtain ⟨f, eh, es, lf, rf⟩ := c.newLst hb (l.rep k.toNat) (by rw [len_rep]; exact h3)
    rw [← eh]
    exact q f _ _ lf rf (by rw [es]; exact h4)
  · exact h.elim⟩ ha hb
/-! ### two ints -/
def a2i (g : Int → Int → Int) : AC := fun as S Post => match as with | [.p (.int i), .p (.int j)] => Post (.p (.int (g i j))) S | _ => False
theorem lift_2i {K : PySem.W.Frag} {g : Int → Int → Int} : LiftC K (fun xs H Q => ∃ i j, xs = [.int i, .int j] ∧ Q (.int (g i j)) H) (a2i g) := by
  refine ⟨fun c vs as Post Q re h q => ?_⟩
  unfold a2i at h
  split at h
  · rename_i i j
    cases re with
    | cons r1 rr =>
      cases rr with
      | cons r2 rr =>
        cases rr
        cases (show Rp K c.Hk _ (.int i) from r1)
        cases (show Rp K c.Hk _ (.int j) from r2)
        exact ⟨i, j, rfl, q c _ _ (.refl c) (reI c _) h⟩
  · exact h.elim
theorem je_max2 (hc : X.calm = true) (hg : Gl X "max") (hm : X.mg "max" = none) (he : JE X e te) (he2 : JE X e2 te2) (h1 : starEach [e, e2] X.env = (false, eval e X.env) :: starEach [e2] X.env := by rfl) (h2 : starEach [e2] X.env = (false, eval e2 X.env) :: starEach [] X.env := by rfl) (hpl : (backTo pos (starEach [e2] X.env)).any (·.1) = false := by rfl) : JE X (.Call (.Name "max" p) [e, e2] [] pos) (aCall (a2i fun i j => if j > i then j else i) (aCons te (aCons te2 aNil))) :=
  je_callB (call_max2 hc) lift_2i hg hm (by decide +kernel) (ja_cons he (ja_cons he2 ja_nil h2) h1) (he := h1) (hpl := hpl)
theorem je_min2 (hc : X.calm = true) (hg : Gl X "min") (hm : X.mg "min" = none) (he : JE X e te) (he2 : JE X e2 te2) (h1 : starEach [e, e2] X.env = (false, eval e X.env) :: starEach [e2] X.env := by rfl) (h2 : starEach [e2] X.env = (false, eval e2 X.env) :: starEach [] X.env := by rfl) (hpl : (backTo pos (starEach [e2] X.env)).any (·.1) = false := by rfl) : JE X (.Call (.Name "min" p) [e, e2] [] pos) (aCall (a2i fun i j => if j < i then j else i) (aCons te (aCons te2 aNil))) :=
  je_callB (call_min2 hc) lift_2i hg hm (by decide +kernel) (ja_cons he (ja_cons he2 ja_nil h2) h1) (he := h1) (hpl := hpl)
end
/-! ### zip -/
def pairs (xs ys : List P) : List D := List.zipWith (fun x y => .p (.tup [x, y])) xs ys
theorem Wk.zipL {K : PySem.W.Frag} {c : Cf K} {a b : Addr} {vs ws : List V} {xs ys : List P} (s1 : SqL K c.Hk a vs) (s2 : SqL K c.Hk b ws) (l1 : RpL K c.Hk vs xs) (l2 : RpL K c.Hk ws ys) (z : xs.length ≤ sizeLine) : Wk K c (Itz K a b) (pairs xs ys) (fun _ => True) := by
  have n1 := l1.length
  have n2 := l2.length
  have hl : (pairs xs ys).length = min xs.length ys.length := by unfold pairs; rw [List.length_zipWith]
  refine ⟨by rw [hl]; omega, fun d i le hk hi => ?_, fun d i x H' le hk hi y => ?_, fun d i le hk hi => ?_⟩
  · rw [hl] at hi
    exact ⟨vs, ws, vs[i], ws[i], le.sqL s1, le.sqL s2, List.getElem?_eq_getElem _, List.getElem?_eq_getElem _⟩
  · rw [hl] at hi
    obtain ⟨T, v, w, rfl, hT, rfl, f1, f2⟩ := y
    obtain ⟨x, ex, rx⟩ := l1.get (f1 vs (le.sqL s1))
    obtain ⟨y, ey, ry⟩ := l2.get (f2 ws (le.sqL s2))
    obtain ⟨f, eh, es, lf, rf⟩ := d.newTup (vs := [v, w]) (ps := [x, y]) hT (.cons (Rp.mono le.ex _ _ rx) (.cons (Rp.mono le.ex _ _ ry) .nil)) (by show 2 ≤ sizeLine; decide)
    refine ⟨f, eh, es, lf, .p (.tup [x, y]), ?_, rf⟩
    unfold pairs
    rw [List.getElem?_zipWith, ex, ey]
  · rw [hl] at hi
    exact ⟨vs, ws, le.sqL s1, le.sqL s2, by omega⟩
theorem Wk.zipT {K : PySem.W.Frag} {c : Cf K} {a b : Addr} {vs ws : List V} {xs ys : List P} (s1 : SqT K c.Hk a vs) (s2 : SqT K c.Hk b ws) (l1 : RpL K c.Hk vs xs) (l2 : RpL K c.Hk ws ys) (z : xs.length ≤ sizeLine) : Wk K c (RZ.ItzT K a b) (pairs xs ys) (fun _ => True) := by
  have n1 := l1.length
  have n2 := l2.length
  have hl : (pairs xs ys).length = min xs.length ys.length := by unfold pairs; rw [List.length_zipWith]
  refine ⟨by rw [hl]; omega, fun d i le hk hi => ?_, fun d i x H' le hk hi y => ?_, fun d i le hk hi => ?_⟩
  · rw [hl] at hi
    exact ⟨vs, ws, vs[i], ws[i], le.sqT s1, le.sqT s2, List.getElem?_eq_getElem _, List.getElem?_eq_getElem _⟩
  · rw [hl] at hi
    obtain ⟨T, v, w, rfl, hT, rfl, f1, f2⟩ := y
    obtain ⟨x, ex, rx⟩ := l1.get (f1 vs (le.sqT s1))
    obtain ⟨y, ey, ry⟩ := l2.get (f2 ws (le.sqT s2))
    obtain ⟨f, eh, es, lf, rf⟩ := d.newTup (vs := [v, w]) (ps := [x, y]) hT (.cons (Rp.mono le.ex _ _ rx) (.cons (Rp.mono le.ex _ _ ry) .nil)) (by show 2 ≤ sizeLine; decide)
    refine ⟨f, eh, es, lf, .p (.tup [x, y]), ?_, rf⟩
    unfold pairs
    rw [List.getElem?_zipWith, ex, ey]
  · rw [hl] at hi
    exact ⟨vs, ws, le.sqT s1, le.sqT s2, by omega⟩
def aiZip (t : AA) : AI := fun L S Post => t L S fun as S1 => match as with
  | [.p (.tup xs), .p (.tup ys)] => Post (pairs xs ys) (fun _ => True) S1
  | [.p (.lst xs), .p (.lst ys)] => Post (pairs xs ys) (fun _ => True) S1
  | _ => False
theorem ji_zip {X : Cx} {e e2 : Expr} {ta : AA} {p pos tpos : Pos} {elts : List Expr} {kk : Nat} (hg : Gl X "zip") (hm : X.mg "zip" = none) (ha : JA X [e, e2] ta)
    (hs : starEach [e, e2] X.env = (false, eval e X.env) :: starEach [e2] X.env := by rfl) (hpl : (backTo pos (starEach [e2] X.env)).any (·.1) = false := by rfl) :
    JI X (.Tuple elts kk tpos) (.Call (.Name "zip" p) [e, e2] [] pos) (aiZip ta) := by
  obtain ⟨t1, p1, l1⟩ := ha
  refine ⟨_, RZ.pi_zipA hg hm p1 hs hpl, ⟨fun c L σ Post R hs h q => l1.run c L σ _ _ hs h fun d vs as le re h => ?_⟩⟩
  split at h
  · rename_i xs ys
    cases re with
    | cons r rr =>
      cases rr with
      | cons r' rr =>
        cases rr
        cases (show Rp X.K d.Hk _ (.tup xs) from r) with
        | tup s1 z1 l1 =>
          cases (show Rp X.K d.Hk _ (.tup ys) from r') with
          | tup s2 z2 l2 => exact ⟨_, _, _, _, rfl, .inr ⟨d.ok.ex.sqT s1, d.ok.ex.sqT s2, q d _ _ _ le (Wk.zipT s1 s2 l1 l2 z1) h⟩⟩
  · rename_i xs ys
    cases re with
    | cons r rr =>
      cases rr with
      | cons r' rr =>
        cases rr
        cases (show Rp X.K d.Hk _ (.lst xs) from r) with
        | lst s1 z1 l1 =>
          cases (show Rp X.K d.Hk _ (.lst ys) from r') with
          | lst s2 z2 l2 => exact ⟨_, _, _, _, rfl, .inl ⟨SqL.of (d.ok.ex _ _ s1), SqL.of (d.ok.ex _ _ s2), q d _ _ _ le (Wk.zipL (SqL.of s1) (SqL.of s2) l1 l2 z1) h⟩⟩
  · exact h.elim
/-! ### sorted -/
def rSortedP (K : PySem.W.Frag) : List V → Hp → VK → Prop := fun vs H Q => ∃ (a : Addr) (xs : List V) (ps : List P) (Hk : Hp), vs = [V.ref a] ∧ SqL K H a xs ∧ (∀ v x, Rp K Hk v x → Rp K H v x) ∧ RpL K Hk xs ps ∧ (∀ x ∈ ps, Dat 50 x) ∧ PySem.W.AllAlike (ps.map P.py) ∧ PySem.W.Sortable (ps.map P.py) ∧
  ∀ (ys : List V) (p : Addr), RpL K Hk ys (ps.mergeSort (PySem.W.dataLe false P.py)) → H p = none → Q (.ref p) (upd H p (.lst ys))
theorem cr_sortedP {X : Cx} (hu : X.A.units + 65 < cLine) : CallR X (.builtin "sorted") (rSortedP X.K) := by
  intro pins s σ H vs us Q I r h
  obtain ⟨a, xs, ps, Hk, rfl, hs, hH, hp, hd, hal, hk, q⟩ := h
  obtain ⟨its, rv, hl, hz⟩ := I.list hs
  rw [Vals.ref1 r]
  -- the items with what they stand for
  let β := V × P
  have mk : ∀ (vs : List V) (us : List Value) (ps : List P), Vals vs us → RpL X.K Hk vs ps → (∀ x ∈ ps, Dat 50 x) → ∃ bs : List (V × P), bs.map (·.2) = ps ∧ PySem.W.EachIs (fun (u : Value) (b : V × P) => RelV b.1 u ∧ Rp X.K Hk b.1 b.2) us bs ∧ PySem.W.EachIs (fun (u : Value) (b : V × P) => ∃ as, Reads s.heap u b.2.py as) us bs := by
    intro vs
    induction vs with
    | nil =>
      intro us ps r h hd
      cases r
      cases h
      exact ⟨[], rfl, .nil, .nil⟩
    | cons v vs ih =>
      intro us ps r h hd
      cases r with
      | cons r1 r2 =>
        cases h with
        | cons h1 h2 =>
          obtain ⟨bs, e1, e2, e3⟩ := ih _ _ r2 h2 fun x hx => hd x (List.mem_cons_of_mem _ hx)
          refine ⟨(v, _) :: bs, by rw [List.map_cons, e1], .cons ⟨r1, h1⟩ e2, .cons (Dp.reads I _ _ _ (Rp.dp 50 _ _ (hd _ (by simp)) (hH _ _ h1)) r1) e3⟩
  obtain ⟨bs, e1, e2, e3⟩ := mk xs its ps rv hp hd
  have em : bs.map (fun b => b.2.py) = ps.map P.py := by rw [← e1, List.map_map]; rfl
  have hlen := e2.length
  refine PySem.W.sorted_data (enc := fun b : V × P => b.2.py) (hl.isList) e2 e3 (by rw [em]; exact hal) (by rw [em]; exact hk) (by rw [← hlen, ← rv.length]; exact hz) (fun b hb => ?_) fun out ho eo => ?_
  · have hb' : b.2 ∈ ps := by rw [← e1]; exact List.mem_map_of_mem hb
    have := (hd _ hb').lay.2
    omega
  · have un : ∀ (us : List Value) (bs : List (V × P)), PySem.W.EachIs (fun (u : Value) (b : V × P) => RelV b.1 u ∧ Rp X.K Hk b.1 b.2) us bs → Vals (bs.map (·.1)) us ∧ RpL X.K Hk (bs.map (·.1)) (bs.map (·.2)) := by
      intro us bs h
      induction h with
      | nil => exact ⟨.nil, .nil⟩
      | cons h1 h2 ih => exact ⟨.cons h1.1 ih.1, .cons h1.2 ih.2⟩
    obtain ⟨u1, u2⟩ := un _ _ eo
    have es : (bs.mergeSort (PySem.W.dataLe false fun b => b.2.py)).map (·.2) = ps.mergeSort (PySem.W.dataLe false P.py) := by
      rw [← e1]
      exact List.map_mergeSort fun a _ b _ => rfl
    rw [es] at u2
    obtain ⟨ep, he'⟩ := PyProof.Rows.sortedAll_at s.heap its (List.toArray out)
    refine ⟨.ref _, upd H (s.heap.objs.size + 1) (.lst _), I.laid (t' := s.toks) (fun _ _ => PyProof.Rows.sortedAll_old) (Nat.le_succ _) ⟨?_, out, ep, u1, he'⟩, rfl, q _ _ u2 (I.hok.fresh (Nat.le_succ _))⟩
    rw [u1.length, ho, ← hlen, ← rv.length]
    exact hz
def aSorted : A1 := fun a S Post => ∃ ps, (lsAt S a ps ∨ a = .p (.fz ps)) ∧ (∀ x ∈ ps, Dat 50 x) ∧ PySem.W.AllAlike (ps.map P.py) ∧ PySem.W.Sortable (ps.map P.py) ∧ Post (.p (.lst (ps.mergeSort (PySem.W.dataLe false P.py)))) S
theorem je_sorted {X : Cx} {e : Expr} {te : AE} {p pos : Pos} (hu : X.A.units + 65 < cLine) (hg : Gl X "sorted") (hm : X.mg "sorted" = none) (he : JE X e te) (h1 : starEach [e] X.env = (false, eval e X.env) :: starEach [] X.env := by rfl) (hpl : (backTo pos (starEach [] X.env)).any (·.1) = false := by rfl) : JE X (.Call (.Name "sorted" p) [e] [] pos) (aCall (a1 aSorted) (aCons te aNil)) :=
  je_callB (cr_sortedP hu) (lift_1 ⟨fun c x a Post Q ra h q => by
    obtain ⟨ps, la, h1, h2, h3, h4⟩ := h
    have hs : ∃ b vs, x = .ref b ∧ SqL X.K c.H b vs ∧ RpL X.K c.Hk vs ps ∧ ps.length ≤ sizeLine := by
      rcases la with la | rfl
      · obtain ⟨b, vs, e1, e2, l, z⟩ := c.ls ra la
        exact ⟨b, vs, e1, SqL.of e2, l, z⟩
      · obtain ⟨b, vs, e1, s, l, z⟩ := c.se (ps := ps) ra rfl
        rcases s with s | s
        · exact ⟨b, vs, e1, s, l, z⟩
        · cases s.2
    obtain ⟨b, vs, rfl, s, l, z⟩ := hs
    refine ⟨b, vs, ps, c.Hk, rfl, s, fun v x r => Rp.mono c.ok.ex _ _ r, l, h1, h2, h3, fun ys p2 ly hp => ?_⟩
    obtain ⟨f, eh, es, lf, rf⟩ := c.newLst hp ly (by rw [List.length_mergeSort]; exact z)
    rw [← eh]
    exact q f _ _ lf rf (by rw [es]; exact h4)⟩) hg hm (by decide +kernel) (ja_cons he ja_nil h1) (he := h1) (hpl := hpl)
end Am
/-! Am: the end of a proof (a law's own promise, with no repr under way). -/
namespace Am
open PySem PySem.Spec L2
theorem callerA_g : callerA.guards = some [] := rfl
section
variable {P : Program} {w : World} {K : PySem.W.Frag}
/-- the abstract heap at the law's entry: nothing, or the script alone -/
structure Entry (P : Program) (w : World) (K : PySem.W.Frag) (s : Shared) (a : Addr) (ns : List Int) (H : Hp) : Prop where
  only : Only H
  sq : SqL K H a (ns.map V.int)
  ok : HOk P w H s.heap
  at_ : ∀ b, H b ≠ none → b = a
  new : H a ≠ none → K.lookup a = none
theorem entry_ex {s : Shared} {a : Addr} {vs : List Value} {ns : List Int} (KX : K.In s.heap) (ha : s.heap.get? a = some { cls := .type "list", data := .seq vs.toArray }) (hi : PyProof.Rows.IntsAre vs ns) (hl : ns.length ≤ sizeLine) : ∃ H, Entry P w K s a ns H := by
  have rv := vals_ints hi
  have lenV := hi.length
  by_cases hk : ∃ o, K.lookup a = some o
  · obtain ⟨o, hk⟩ := hk
    have e := (KX a o hk).symm.trans ha
    cases e
    exact ⟨fun _ => none, ⟨fun _ => .inl rfl, .inr ⟨_, vs.toArray, _, hk, rfl, rfl, rfl, by rw [List.size_toArray, lenV]; exact hl, by simpa using rv⟩, fun b u z => (by cases (show (none : Option HO) = some u from z)), fun b z => absurd rfl z, fun z => absurd rfl z⟩⟩
  · have hk : K.lookup a = none := by
      cases q : K.lookup a with
      | none => rfl
      | some o => exact absurd ⟨o, q⟩ hk
    let H : Hp := upd (fun _ => none) a (.frz { cls := .type "list", data := .seq vs.toArray } (.lst (ns.map V.int)))
    have eA : H a = some (.frz { cls := .type "list", data := .seq vs.toArray } (.lst (ns.map V.int))) := upd_same
    have eB : ∀ b, b ≠ a → H b = none := fun b hb => upd_ne hb
    refine ⟨H, ⟨fun b => ?_, .inl (.inr ⟨_, eA⟩), fun b u z => ?_, fun b z => ?_, fun _ => hk⟩⟩
    · by_cases hb : b = a
      · rw [hb]; exact .inr ⟨_, _, eA⟩
      · exact .inl (eB b hb)
    · by_cases hb : b = a
      · subst hb
        rw [eA] at z
        cases z
        exact ⟨ha, by rw [List.length_map]; exact hl, vs, _, rv, ha⟩
      · rw [eB b hb] at z
        cases z
    · by_cases hb : b = a
      · exact hb
      · exact absurd (eB b hb) z
theorem law_g {mg mb : Str → Option Value} {k : Nat} {fa a : Addr} {fd : FuncData} {x : Str} {G : FT} {s : Shared} {vs : List Value} {ns : List Int} (KX : K.In s.heap) (hns : s.heap.Ns mainGlobals mg) (hb : s.heap.Ns builtinsNs mb) (hbb : ∀ x : Str, x ≠ "__name__" → mb x = bootBuiltins x)
    (hlim : s.heap.NoLimit) (hg : s.gens = #[]) (ha : s.heap.get? a = some { cls := .type "list", data := .seq vs.toArray }) (hi : PyProof.Rows.IntsAre vs ns) (hl : ns.length ≤ sizeLine) (hr : Room k callerA)
    (F : ∀ base : Heap, K.In base → base.Ns mainGlobals mg → FnG P w K mg base CX0 k fa fd [x] (spOf K G)) (hbind : ∀ (s : Shared) (u : Value), BindsTo s fd ⟨[u], []⟩ [(x, u)]) (hG : G [.p (.fz (ns.map .int))] [] fun a _ => a = .p (.bl true)) :
    codeAny (model P w) callerA (.call (.ref fa) ⟨[.ref a], []⟩) (fun r t => r = .ok (.ret (.bool true)) ∧ OldK s.heap t.heap ∧ t.os = s.os ∧ PyProof.Rows.AllBare t.gens) s := by
  obtain ⟨H, E⟩ := entry_ex (P := P) (w := w) KX ha hi hl
  have tr : ∀ {b : Addr} {o : Obj}, s.heap.get? b = some o → H b = none → (hidT s.heap H).get? b = some o := fun e n => hidT_get e n
  have un : ∀ {b : Addr} {o : Obj} {es : Array DictEntry} {ep : Nat}, s.heap.get? b = some o → o.data = .dict es ep → H b = none := by
    intro b o es ep e d
    by_cases q : H b = none
    · exact q
    · have := E.at_ b q
      subst this
      rw [ha] at e
      cases e
      cases (show Data.seq vs.toArray _ = Data.dict es ep from d)
  have ns' : ∀ {b : Addr} {m : Str → Option Value}, s.heap.Ns b m → (hidT s.heap H).Ns b m := by
    rintro b m ⟨o, es, ep, e, d, r⟩
    exact ⟨o, es, ep, tr e (un e d), d, r⟩
  have kin : K.In (hidT s.heap H) := by
    intro b o e
    refine tr (KX b o e) ?_
    by_cases q : H b = none
    · exact q
    · have := E.at_ b q
      subst this
      rw [E.new q] at e
      cases e
  obtain ⟨mc, c1, c2⟩ := hlim
  have e0 : Env0 P w K mg (hidT s.heap H) callerA [] s H :=
    ⟨rfl, ⟨kin, ns' hns, ⟨mb, ns' hb, hbb⟩, ⟨mc, ns' c1, c2⟩⟩, fun b o e => of_hidT e, Nat.le_of_eq (hidT_size _ _), trivial, fun b hb => absurd (show b ∈ ([] : List Addr) from hb) (by simp), E.ok, .of_eq hg⟩
  have okc : Ok K [] H H [] := ⟨fun _ _ e => e, rfl, .nil, fun i b o e1 _ => (by cases e1), fun b hb => (by cases hb), fun i b o e1 _ => (by cases e1)⟩
  let c : Cf K := ⟨[], H, H, [], okc⟩
  have rp : Rp K H (.ref a) (.fz (ns.map .int)) := .fz E.sq (by rw [List.length_map]; exact hl) RpL.of_ints
  have want : spOf K G [.ref a] H (fun v _ => v = .bl true) fun _ _ _ => False := ⟨c, [.p (.fz (ns.map .int))], fun a _ => a = .p (.bl true), rfl, .cons rp .nil, hG, fun d v y le r e => by
    subst e
    cases (show Rp K d.Hk v (.bl true) from r)
    rfl⟩
  refine codeAny_mono ((F _ kin (ns' hns)).go callerA [] s H ⟨[.ref a], []⟩ [.ref a] [.ref a] _ _ callerA_g hr e0 (hbind s (.ref a)) (.cons rfl .nil) want) fun r t h => ?_
  match r, h with
  | .error e, h => exact False.elim h
  | .ok .next, h => exact False.elim h
  | .ok .brk, h => exact False.elim h
  | .ok .cont, h => exact False.elim h
  | .ok (.ret u), ⟨v, H', os, bare, un', ok', r', q⟩ =>
    obtain rfl : v = .bl true := q
    obtain rfl : u = Value.bool true := r'
    refine ⟨rfl, OldK.of_keep fun b o e => ?_, os, bare⟩
    by_cases z : H b = none
    · exact un'.keep b o e z (fun z => absurd (show b ∈ ([] : List Addr) from z) (by simp)) (by simp)
    · rcases E.only b with y | ⟨ob, xs, y⟩
      · exact absurd y z
      · have e1 := (E.ok b _ y).1
        have e2 := (ok' b _ (un'.frzs b ob _ y)).1
        rw [e] at e1
        cases e1
        exact e2
end
/-- what the head leaves, from the law's promise -/
theorem walk_g {l : PySem.W.OpenLaw} {n k : Nat} {q : Program} {loose : List Str} {XP : (Str → Option Value) → Heap → Prop} {YP : World → Heap → Prop} {d : DefRec} {K : Params → PySem.W.Frag} {G : FT} {x : Str} (hn : l.most = some n) (hn2 : n ≤ sizeLine) (hdf : d.params.defaults = []) (hr : Room k callerA)
    (hY : ∀ (w : World) (h : Heap), YP w h → (K w.params).In h)
    (F : ∀ (w : World) (mg : Str → Option Value) (fa : Addr) (h : Heap), (K w.params).In h → h.Ns mainGlobals mg → mg d.name = some (.ref fa) → ∃ fd : FuncData, (∀ (s : Shared) (u : Value), BindsTo s fd ⟨[u], []⟩ [(x, u)]) ∧ ∀ base : Heap, (K w.params).In base → base.Ns mainGlobals mg → FnG l.prog w (K w.params) mg base CX0 k fa fd [x] (spOf (K w.params) G))
    (hG : ∀ ns : List Int, ns.length ≤ n → G [.p (.fz (ns.map .int))] [] fun a _ => a = .p (.bl true)) : PySem.W.WalkO q loose XP YP l.row.toRowW d [] (fun f vs => PySem.call f vs) := by
  refine Att.attach_call hn hdf fun w s₀ s₁ mg mb fa o pm cd doc a vs ns V Y ho hd hcd hmg hobj hints hlen hg => ?_
  obtain ⟨fd, hb, hF⟩ := F w mg fa _ (hY w _ Y) V.T.g hmg
  exact law_g (hY w _ Y) V.T.g V.T.b V.T.builtins V.T.nolimit hg hobj hints (Nat.le_trans hlen hn2) hr hF hb (hG ns hlen)
end Am
/-! Am: calls of own functions by one word, runs of loops and comprehensions by an invariant. -/
namespace Am
open PySem PySem.Spec L2
section
variable {P : Program} {w : World} {K : PySem.W.Frag} {mg : Str → Option Value} {base : Heap}
/-- a def that stands in the module -/
structure Pre (K : PySem.W.Frag) (mg : Str → Option Value) (x : Str) (st : Stmt) : Prop where
  ex : ∃ f fd, Fun K x x st f fd ∧ mg x = some (.ref f)
/-- what it does is known -/
structure Cl (P : Program) (w : World) (K : PySem.W.Frag) (mg : Str → Option Value) (base : Heap) (k : Nat) (x : Str) (st : Stmt) (ps : List Str) (F : FT) : Prop where
  ex : ∃ f fd, Fun K x x st f fd ∧ mg x = some (.ref f) ∧ Binds K fd ps [] ∧ FnG P w K mg base CX0 k f fd ps (spOf K F)
theorem Pre.cl {x : Str} {st : Stmt} {k : Nat} {ps : List Str} {F : FT} (p : Pre K mg x st) (hb : ∀ (kV doc pm : Value) (an : Option Addr) (cdv ct : Value) (us : List Value), us.length = ps.length → bindArgs (PySem.W.fnOf x x (defArgs st) (defBody st) (defScope st) .none kV doc pm an cdv ct) ⟨us, []⟩ = pure (ps.zip us))
    (h : ∀ f fd, Fun K x x st f fd → FnG P w K mg base CX0 k f fd ps (spOf K F)) : Cl P w K mg base k x st ps F :=
  let ⟨f, fd, F, m⟩ := p.ex
  ⟨f, fd, F, m, F.binds hb, h f fd F⟩
theorem Cl.imp {x : Str} {st : Stmt} {k : Nat} {ps : List Str} {F F' : FT} (c : Cl P w K mg base k x st ps F) (h : ∀ as S Post, F' as S Post → F as S Post) : Cl P w K mg base k x st ps F' := by
  obtain ⟨f, fd, F1, m, b, G⟩ := c.ex
  have key : ∀ vs H Q E, spOf K F' vs H Q E → spOf K F vs H Q E := fun vs H Q E ⟨c, as, Post, e, r, h', q⟩ => ⟨c, as, Post, e, r, h _ _ _ h', q⟩
  exact ⟨f, fd, F1, m, b, ⟨fun vs H Q E h' => G.len vs H Q E (key _ _ _ _ h'), fun A outer s H args us vs Q E gd hr e0 hb r h' => G.go A outer s H args us vs Q E gd hr e0 hb r (key _ _ _ _ h')⟩⟩
end
section
variable {X : Cx} {k k' : Nat} {st : Stmt} {ps : List Str} {F : FT} {e : Expr} {es : List Expr} {tr : AA} {pos p : Pos} {x : Str}
theorem FnG.mono {P : Program} {w : World} {K : PySem.W.Frag} {mg : Str → Option Value} {base : Heap} {CX : CXT} {j k : Nat} {f : Addr} {fd : FuncData} {ps : List Str} {sp : Sp} (F : FnG P w K mg base CX j f fd ps sp) (h : j ≤ k) : FnG P w K mg base CX k f fd ps sp :=
  ⟨F.len, fun A outer s H args us vs Q E gd hr => F.go A outer s H args us vs Q E gd (hr.mono h)⟩
theorem pass0' {X : Cx} : Passes CX0 X fun _ _ _ => False := fun _ _ _ _ _ _ _ h => h.elim
theorem je_own (c : Cl X.prog X.w X.K X.mg X.base k x st ps F) (hgd : X.A.guards = some []) (hr : Room k' X.A) (ha : JA X (e :: es) tr) (hk : k ≤ k' := by decide) (hg : Gl X x := by rfl)
    (hdb : (x == ("__debug__" : Str)) = false := by decide) (he : starEach (e :: es) X.env = (false, eval e X.env) :: starEach es X.env := by rfl) (hpl : (backTo pos (starEach es X.env)).any (·.1) = false := by rfl) : JE X (.Call (.Name x p) (e :: es) [] pos) (aCall F tr) := by
  obtain ⟨f, fd, F1, m, b, G⟩ := c.ex
  exact je_call (G.mono hk) hgd hr hg m F1.kp b pass0' ha hdb he hpl
theorem je_own0 (c : Cl X.prog X.w X.K X.mg X.base k x st ps F) (hgd : X.A.guards = some []) (hr : Room k' X.A) (hk : k ≤ k' := by decide) (hg : Gl X x := by rfl) (hdb : (x == ("__debug__" : Str)) = false := by decide) : JE X (.Call (.Name x p) [] [] pos) (aCall F aNil) := by
  obtain ⟨f, fd, F1, m, b, G⟩ := c.ex
  exact je_call0 (G.mono hk) hgd hr hg m F1.kp b pass0' hdb
/-- another order -/
structure Ord (n : Nat) where
  g : ∀ {α : Type}, List α → List α
  rel : ∀ {vs : List V} {ws : List Value}, vs.length = n → Vals vs ws → Vals (g vs) (g ws)
  rel2 : ∀ {K : PySem.W.Frag} {η : List Addr} {Hk : Hp} {vs : List V} {as : List D}, vs.length = n → ReL K η Hk vs as → ReL K η Hk (g vs) (g as)
def ordI (n : Nat) : Ord n := ⟨fun xs => xs, fun _ h => h, fun _ h => h⟩
def sw2 {α : Type} : List α → List α
  | [a, b] => [b, a]
  | xs => xs
def ordS : Ord 2 := ⟨sw2, fun {vs ws} hl h => by
    match vs, ws, h with
    | [a, b], [c, d], .cons h1 (.cons h2 .nil) => exact .cons h2 (.cons h1 .nil), fun {K η Hk vs as} hl h => by
    match vs, as, h with
    | [a, b], [c, d], .cons h1 (.cons h2 .nil) => exact .cons h2 (.cons h1 .nil)⟩
theorem je_ownK {kws : List Keyword} (ks : List Str) {n : Nat} (o : Ord n) (hn : kws.length = n) (c : Cl X.prog X.w X.K X.mg X.base k x st ps F) (hgd : X.A.guards = some []) (hr : Room k' X.A)
    (hb : ∀ (kV doc pm : Value) (an : Option Addr) (cdv ct : Value) (ws : List Value), ws.length = n → bindArgs (PySem.W.fnOf x x (defArgs st) (defBody st) (defScope st) .none kV doc pm an cdv ct) ⟨[], ks.zip ws⟩ = pure (ps.zip (o.g ws)))
    (ha : JK X kws tr) (hk : k ≤ k' := by decide) (hg : Gl X x := by rfl) (hall : (backToKw pos (keywordEach kws X.env)).all (·.1.isSome) = true := by rfl) (hks : (backToKw pos (keywordEach kws X.env)).filterMap (·.1) = ks := by rfl) (hdb : (x == ("__debug__" : Str)) = false := by decide)
    (hpl : ((backTo pos (starEach [] X.env)).any (·.1) || (backToKw pos (keywordEach kws X.env)).any (·.1.isNone)) = false := by rfl) :
    JE X (.Call (.Name x p) [] kws pos) (aCall (fun as S Post => as.length = kws.length ∧ F (o.g as) S Post) tr) := by
  subst hn
  obtain ⟨f, fd, F1, m, b, G⟩ := c.ex
  refine je_callK (g := o.g) (G.mono hk) hgd hr hg m F1.kp (fun s ws hl => ?_) (fun hl h => o.rel hl h) (fun c _ _ hl h => o.rel2 hl h) pass0' ha hall hks hdb hpl
  obtain ⟨oc, od, kV, doc, pm, an, cdv, ct, osl, rfl, lk, hcd⟩ := F1.ex
  exact .of_eq (hb kV doc pm an cdv ct ws hl)
end
/-! ### runs -/
theorem for_go {keep : List O → Prop} {g : AG} {b : AS} {E : En} {items : List D} (I : Nat → Ls → List O → Prop) (hk : ∀ i L S, I i L S → keep S)
    (step : ∀ (i : Nat) (x : D) (L : Ls) (S : List O) (N : Ls → List O → Prop), items[i]? = some x → I i L S → (∀ L' S', I (i + 1) L' S' → N L' S') → g x L S fun L1 S1 => b { E with nx := N, ct := N, bk := E.nx } L1 S1)
    (done : ∀ L S, I items.length L S → E.nx L S) : ∀ {L : Ls} {S : List O}, I 0 L S → forRun keep g b E items L S := by
  have key : ∀ (n i : Nat) (L : Ls) (S : List O), items.length - i = n → i ≤ items.length → I i L S → forRun keep g b E (items.drop i) L S := by
    intro n
    induction n with
    | zero =>
      intro i L S hn hi h
      have e : i = items.length := by omega
      subst e
      rw [List.drop_length]
      exact ⟨hk _ _ _ h, done _ _ h⟩
    | succ n ih =>
      intro i L S hn hi h
      have hlt : i < items.length := by omega
      rw [List.drop_eq_getElem_cons hlt]
      exact ⟨hk _ _ _ h, step i _ L S _ (List.getElem?_eq_getElem hlt) h fun L' S' h' => ih (i + 1) L' S' (by omega) hlt h'⟩
  intro L S h
  have := key items.length 0 L S rfl (Nat.zero_le _) h
  simpa using this
/-- a comprehension, its state threaded: what stands in the store behind i turns, and what was made -/
theorem lc_go {keep : List O → Prop} {g : AG} {t : AT} {e : AE} {L : Ls} {Post : List D → List O → Prop} {items : List D} (I : Nat → List D → List O → Prop) (hk : ∀ i acc S, I i acc S → keep S)
    (step : ∀ (i : Nat) (x : D) (acc : List D) (S : List O) (N : List D → List O → Prop), items[i]? = some x → I i acc S → (∀ acc' S', I (i + 1) acc' S' → N acc' S') → g x L S fun L1 S1 => t L1 S1 fun b S2 => if b = true then e L1 S2 fun y S3 => N (acc ++ [y]) S3 else N acc S2)
    (done : ∀ acc S, I items.length acc S → Post acc S) : ∀ {S : List O}, I 0 [] S → lcRun keep g t e L Post items [] S := by
  have key : ∀ (n i : Nat) (acc : List D) (S : List O), items.length - i = n → i ≤ items.length → I i acc S → lcRun keep g t e L Post (items.drop i) acc S := by
    intro n
    induction n with
    | zero =>
      intro i acc S hn hi h
      have e : i = items.length := by omega
      subst e
      rw [List.drop_length]
      exact ⟨hk _ _ _ h, done _ _ h⟩
    | succ n ih =>
      intro i acc S hn hi h
      have hlt : i < items.length := by omega
      rw [List.drop_eq_getElem_cons hlt]
      exact ⟨hk _ _ _ h, step i _ acc S (fun acc S => lcRun keep g t e L Post (items.drop (i + 1)) acc S) (List.getElem?_eq_getElem hlt) h fun acc' S' h' => ih (i + 1) acc' S' (by omega) hlt h'⟩
  intro S h
  have := key items.length 0 [] S rfl (Nat.zero_le _) h
  simpa using this
/-- a comprehension of pure data that leaves the store -/
theorem lc_map {α : Type} {keep : List O → Prop} {g : AG} {t : AT} {e : AE} {L : Ls} {Fin : List D → List O → Prop} {S : List O} (xs : List α) (en : α → D) (p : α → Bool) (f : α → P)
    (h : ∀ x ∈ xs, ∀ (Q : D → List O → Prop) (R : List O → Prop), (if p x = true then Q (.p (f x)) S else R S) → g (en x) L S fun L1 S1 => t L1 S1 fun b S2 => if b = true then e L1 S2 Q else R S2)
    (q : Fin (((xs.filter p).map f).map .p) S) (hk : keep S := by trivial) : lcRun keep g t e L Fin (xs.map en) [] S := by
  refine lc_go (fun i acc S' => S' = S ∧ acc = (((xs.take i).filter p).map f).map .p) (fun i acc S' h => h.1 ▸ hk) (fun i x acc S' N hx hI hN => ?_) (fun acc S' hI => ?_) ⟨rfl, rfl⟩
  · obtain ⟨rfl, rfl⟩ := hI
    rw [List.getElem?_map] at hx
    cases ex : xs[i]? with
    | none => rw [ex] at hx; cases hx
    | some y =>
      rw [ex] at hx
      cases hx
      refine h y (List.mem_of_getElem? ex) _ _ ?_
      have et : xs.take (i + 1) = xs.take i ++ [y] := by rw [List.take_add_one, ex]; rfl
      by_cases hp : p y = true
      · rw [if_pos hp]
        refine hN _ _ ⟨rfl, ?_⟩
        rw [et, List.filter_append, List.map_append, List.map_append, List.filter_cons_of_pos hp]
        rfl
      · rw [if_neg hp]
        refine hN _ _ ⟨rfl, ?_⟩
        rw [et, List.filter_append, List.map_append, List.map_append, List.filter_cons_of_neg hp]
        simp
  · obtain ⟨rfl, rfl⟩ := hI
    rw [List.length_map, List.take_length]
    exact q
/-- the same with no test -/
theorem lc_all {α : Type} {keep : List O → Prop} {g : AG} {e : AE} {L : Ls} {Fin : List D → List O → Prop} {S : List O} (xs : List α) (en : α → D) (f : α → P)
    (h : ∀ x ∈ xs, ∀ (Q : D → List O → Prop), Q (.p (f x)) S → g (en x) L S fun L1 S1 => e L1 S1 Q)
    (q : Fin ((xs.map f).map .p) S) (hk : keep S := by trivial) : lcRun keep g aYes e L Fin (xs.map en) [] S := by
  refine lc_go (fun i acc S' => S' = S ∧ acc = ((xs.take i).map f).map .p) (fun i acc S' h => h.1 ▸ hk) (fun i x acc S' N hx hI hN => ?_) (fun acc S' hI => ?_) ⟨rfl, rfl⟩
  · obtain ⟨rfl, rfl⟩ := hI
    rw [List.getElem?_map] at hx
    cases ex : xs[i]? with
    | none => rw [ex] at hx; cases hx
    | some y =>
      rw [ex] at hx
      cases hx
      have et : xs.take (i + 1) = xs.take i ++ [y] := by rw [List.take_add_one, ex]; rfl
      refine h y (List.mem_of_getElem? ex) (fun y S3 => _) ?_
      refine hN _ _ ⟨rfl, ?_⟩
      rw [et, List.map_append, List.map_append]
      rfl
  · obtain ⟨rfl, rfl⟩ := hI
    rw [List.length_map, List.take_length]
    exact q
theorem lc_allP {α : Type} {keep : List O → Prop} {g : AG} {e : AE} {L : Ls} {Fin : List D → List O → Prop} {S : List O} (xs : List α) (en : α → P) (f : α → P)
    (h : ∀ x ∈ xs, ∀ (Q : D → List O → Prop), Q (.p (f x)) S → g (.p (en x)) L S fun L1 S1 => e L1 S1 Q)
    (q : Fin ((xs.map f).map .p) S) (hk : keep S := by trivial) : lcRun keep g aYes e L Fin ((xs.map en).map .p) [] S := by
  rw [List.map_map]
  exact lc_all xs _ f h q hk
theorem lc_mapP {α : Type} {keep : List O → Prop} {g : AG} {t : AT} {e : AE} {L : Ls} {Fin : List D → List O → Prop} {S : List O} (xs : List α) (en : α → P) (p : α → Bool) (f : α → P)
    (h : ∀ x ∈ xs, ∀ (Q : D → List O → Prop) (R : List O → Prop), (if p x = true then Q (.p (f x)) S else R S) → g (.p (en x)) L S fun L1 S1 => t L1 S1 fun b S2 => if b = true then e L1 S2 Q else R S2)
    (q : Fin (((xs.filter p).map f).map .p) S) (hk : keep S := by trivial) : lcRun keep g t e L Fin ((xs.map en).map .p) [] S := by
  rw [List.map_map]
  exact lc_map xs _ p f h q hk
end Am
/-! Am: items stored. -/
namespace Am
open PySem PySem.Spec L2
/-- xs[k] = a, xs owned -/
def agSub (te ti : AE) : AG := fun a L S Post => te L S fun o S1 => ti L S1 fun i S2 => match o, i with
  | .own n, .p (.int k) => (match S2[n]? with
    | some (.lst ds) => (match ixN ds.length k with | some j => Post L (S2.set n (.lst (ds.set j a))) | none => False)
    | _ => False)
  | _, _ => False
theorem ReL.set {K : PySem.W.Frag} {η : List Addr} {Hk : Hp} : ∀ {vs : List V} {ds : List D} {j : Nat} {v : V} {d : D}, ReL K η Hk vs ds → Re K η Hk v d → ReL K η Hk (vs.set j v) (ds.set j d)
  | _, _, _, _, _, .nil, _ => .nil
  | _, _, 0, _, _, .cons _ l, r => .cons r l
  | _, _, j + 1, _, _, .cons r1 l, r => .cons r1 (ReL.set l r)
theorem jg_sub {X : Cx} {o i : Expr} {pos : Pos} {te ti : AE} (ho : JE X o te) (hi : JE X i ti)
    (ha : ∀ v, assign (.Subscript o i pos) X.env v = (do
      let ov ← holding [v] (eval o X.env)
      let iv ← holding [v, ov] (eval i X.env)
      standAt pos
      holding [v, ov, iv] (setItem ov iv v)
      release [v, ov, iv] []) := by intro _; rfl) : JG X (.Subscript o i pos) (agSub te ti) := by
  obtain ⟨t1, p1, l1⟩ := ho
  obtain ⟨t2, p2, l2⟩ := hi
  refine ⟨_, pg_sub p1 p2 set_list ha, ⟨fun c L σ v a Post Q hs re h q => ?_⟩⟩
  refine l1.run c L σ _ _ hs h fun d x y le r1 h1 => ?_
  refine l2.run d L σ _ _ (le.sl hs) h1 fun d2 x2 y2 le2 r2 h2 => ?_
  split at h2
  · rename_i n k
    split at h2
    · rename_i ds e0
      split at h2
      · rename_i j ej
        obtain ⟨b, vs, rfl, e1, e2, l, z⟩ := d2.list_own (le2.re r1) e0
        cases (show Rp X.K d2.Hk x2 (.int k) from r2)
        obtain ⟨f, eh, es, lf⟩ := d2.setLst (vs' := vs.set j v) (ds' := ds.set j a) e1 e0 (l.set ((le.trans le2).re re)) (by rw [List.length_set]; exact z)
        refine ⟨b, vs, k, j, rfl, rfl, e2, by rw [l.length]; exact ej, ?_⟩
        rw [← eh]
        exact q f σ L (le.trans (le2.trans lf)) (((le.trans (le2.trans lf))).sl hs) (by rw [es]; exact h2)
      · exact h2.elim
    · exact h2.elim
  · exact h2.elim
end Am
/-! Am: tests. -/
namespace Am
open PySem PySem.Spec L2
section
variable {X : Cx} {a b c : Expr} {ta tb tc : AE} {pos pos' : Pos}
theorem jt_isN {j} (ha : JE X a ta) : JT X (.Compare a [.Is] [.Constant .none j pos'] pos) (aTest (aIsN false ta)) := by
  obtain ⟨t1, p1, l1⟩ := ha
  refine ⟨_, pt_cmp (pc_isN p1) rfl, ⟨fun c L σ Post Q hs h q => l1.run c L σ _ _ hs h fun d v x le re h => ?_⟩⟩
  rw [isNone_re re]
  exact ⟨_, rfl, q d _ le (by simpa using h)⟩
theorem jt_notN {j} (ha : JE X a ta) : JT X (.Compare a [.IsNot] [.Constant .none j pos'] pos) (aTest (aIsN true ta)) := by
  obtain ⟨t1, p1, l1⟩ := ha
  refine ⟨_, pt_cmp (pc_notN p1) rfl, ⟨fun c L σ Post Q hs h q => l1.run c L σ _ _ hs h fun d v x le re h => ?_⟩⟩
  rw [isNone_re re]
  exact ⟨_, rfl, q d _ le (by simpa using h)⟩
theorem jt_chain {op op' : CmpOp} {r r' : R2} {s s' : A2} (ho : OpR X (compareOp op) r) (ho' : OpR X (compareOp op') r') (hl : Lift2 X.K r s) (hl' : Lift2 X.K r' s') (ha : JE X a ta) (hb : JE X b tb) (hc : JE X c tc)
    (hm : lastMarks [op, op'] [b, c] = false := by with_unfolding_all rfl) : JT X (.Compare a [op, op'] [b, c] pos) (aTest (aChain s s' ta tb tc)) := by
  obtain ⟨t1, p1, l1⟩ := ha
  obtain ⟨t2, p2, l2⟩ := hb
  obtain ⟨t3, p3, l3⟩ := hc
  refine ⟨_, pt_chain ho ho' p1 p2 p3 hm, lift_test ⟨fun c L σ Post Q hs h q => ?_⟩⟩
  refine l1.run c L σ _ _ hs h fun d v x le re h1 => ?_
  refine l2.run d L σ _ _ (le.sl hs) h1 fun d2 v2 x2 le2 re2 h2 => ?_
  refine hl.run d2 _ _ _ _ _ _ (le2.re re) re2 h2 fun d3 v3 x3 le3 re3 h3 => ?_
  have le' := le.trans (le2.trans le3)
  split at h3
  · cases (show Rp X.K d3.Hk v3 (.bl true) from re3)
    refine ⟨true, rfl, ?_⟩
    rw [if_pos rfl]
    refine l3.run d3 L σ _ _ (le'.sl hs) h3 fun d4 v4 x4 le4 re4 h4 => ?_
    exact hl'.run d4 _ _ _ _ _ _ ((le3.trans le4).re re2) re4 h4 fun d5 v5 x5 le5 re5 h5 => q d5 _ _ (le'.trans (le4.trans le5)) re5 h5
  · cases (show Rp X.K d3.Hk v3 (.bl false) from re3)
    refine ⟨false, rfl, ?_⟩
    rw [if_neg Bool.false_ne_true]
    exact q d3 _ _ le' (reB d3 _) h3
  · exact h3.elim
theorem jt_le_lt (ha : JE X a ta) (hb : JE X b tb) (hc : JE X c tc) : JT X (.Compare a [.LtE, .Lt] [b, c] pos) (aTest (aChain aLe aLt ta tb tc)) := jt_chain op_le op_lt (lift_I0 fun c _ _ => reB c _) (lift_I0 fun c _ _ => reB c _) ha hb hc (nomark c)
theorem jt_le_le (ha : JE X a ta) (hb : JE X b tb) (hc : JE X c tc) : JT X (.Compare a [.LtE, .LtE] [b, c] pos) (aTest (aChain aLe aLe ta tb tc)) := jt_chain op_le op_le (lift_I0 fun c _ _ => reB c _) (lift_I0 fun c _ _ => reB c _) ha hb hc (nomark c)
theorem jt_lt_lt (ha : JE X a ta) (hb : JE X b tb) (hc : JE X c tc) : JT X (.Compare a [.Lt, .Lt] [b, c] pos) (aTest (aChain aLt aLt ta tb tc)) := jt_chain op_lt op_lt (lift_I0 fun c _ _ => reB c _) (lift_I0 fun c _ _ => reB c _) ha hb hc (nomark c)
theorem jt_lt_le (ha : JE X a ta) (hb : JE X b tb) (hc : JE X c tc) : JT X (.Compare a [.Lt, .LtE] [b, c] pos) (aTest (aChain aLt aLe ta tb tc)) := jt_chain op_lt op_le (lift_I0 fun c _ _ => reB c _) (lift_I0 fun c _ _ => reB c _) ha hb hc (nomark c)
/-- xs * n, the new list owned -/
def aRepO : A2 := fun a b S Post => match b with
  | .p (.int k) => ∃ ps, lsAt S a ps ∧ -(2 ^ 62) ≤ k ∧ k < 2 ^ 62 ∧ ps.length * k.toNat ≤ sizeLine ∧ Post (.own S.length) (S ++ [.lst ((List.replicate k.toNat ps).flatten.map .p)])
  | _ => False
theorem je_repO (ha : JE X a ta) (hb : JE X b tb) : JE X (.BinOp a .Mult b pos) (aOp aRepO ta tb) := je_op op_rep ⟨fun c x y a b Post Q ra rb h q => by
  unfold aRepO at h
  split at h
  · rename_i k
    obtain ⟨ps, la, h1, h2, h3, h4⟩ := h
    obtain ⟨p, vs, rfl, e1, l, z⟩ := c.ls ra la
    cases (show Rp X.K c.Hk y (.int k) from rb)
    refine ⟨p, k, vs, rfl, rfl, e1, by omega, by omega, by rw [l.length]; exact h3, fun b hb => ?_⟩
    obtain ⟨f, eh, es, lf, rf⟩ := c.newOwn hb (ReL.pure (l.rep k.toNat)) (by rw [List.length_map, len_rep]; exact h3)
    rw [← eh]
    exact q f _ _ lf rf (by rw [es]; exact h4)
  · exact h.elim⟩ ha hb
/-- the signs of a text -/
def aiStr (te : AE) : AI := fun L S Post => te L S fun a S1 => match a with
  | .p (.str z) => z.length ≤ sizeLine ∧ Post (z.cps.toList.map fun c => .p (.str ⟨#[c]⟩)) (fun _ => True) S1
  | _ => False
theorem ji_str {tg e : Expr} {te : AE} (h : JE X e te) : JI X tg e (aiStr te) := by
  obtain ⟨t1, p1, l1⟩ := h
  refine ⟨_, pi_str p1, ⟨fun c L σ Post R hs h q => l1.run c L σ _ _ hs h fun d v a le re h => ?_⟩⟩
  split at h
  · rename_i z
    cases (show Rp X.K d.Hk v (.str z) from re)
    refine ⟨z, rfl, q d _ _ _ le ⟨by rw [List.length_map]; exact h.1, fun f i _ _ hi => (by simpa using hi : i < z.cps.size), fun f i x H' _ _ hi y => ?_, fun f i _ _ hi => (by simpa using hi : z.cps.size ≤ i)⟩ h.2⟩
    obtain ⟨rfl, c, hc, rfl⟩ := y
    refine ⟨f, rfl, rfl, .refl f, .p (.str ⟨#[c]⟩), ?_, .str _⟩
    rw [List.getElem?_map, Array.getElem?_toList, hc]
    rfl
  · exact h.elim
end
end Am
/-! Am: data that may be shown and compared; sizes. -/
namespace Am
open PySem PySem.Spec L2
/-- plain data at most n deep, of a weight of at most w, its ints short -/
structure Fine (n w : Nat) (x : P) : Prop where
  dat : Dat n x
  wt : x.py.weight ≤ w
  short : x.py.intsShort 13 = true
  shw : x.py.showable = true
theorem log2_lt_of {n k : Nat} (h : n < 2 ^ k) (hk : 0 < k) : n.log2 < k := by
  by_cases h0 : n = 0
  · subst h0; simpa using hk
  · exact (Nat.log2_lt h0).mpr h
theorem Fine.le {n w n' w' : Nat} {x : P} (h : Fine n w x) (hn : n ≤ n') (hw : w ≤ w') : Fine n' w' x := ⟨h.dat.le hn, Nat.le_trans h.wt hw, h.short, h.shw⟩
theorem fine_non {n w : Nat} : Fine n w .non := ⟨by cases n <;> trivial, Nat.zero_le _, by simp [P.py, PyData.intsShort], by simp [P.py, PyData.showable]⟩
theorem fine_bl {n w : Nat} {b : Bool} : Fine n w (.bl b) := ⟨by cases n <;> trivial, Nat.zero_le _, by simp [P.py, PyData.intsShort], by simp [P.py, PyData.showable]⟩
theorem fine_int {n w : Nat} {i : Int} (h : i.natAbs < 10 ^ 12) (hw : 40 ≤ w) : Fine n w (.int i) := by
  have h40 : i.natAbs < 2 ^ 40 := by omega
  have hl : i.natAbs.log2 < 40 := log2_lt_of h40 (by decide)
  refine ⟨by cases n <;> trivial, ?_, ?_, ?_⟩
  · simp only [P.py, PyData.weight]
    split <;> omega
  · simp only [P.py, PyData.intsShort, decide_eq_true_eq]
    exact PyData.shown_int_le h
  · simp only [P.py, PyData.showable, decide_eq_true_eq]
    omega
theorem fine_str {n w : Nat} {z : Str} (h : PyData.canLay0 (.str z) = true) (hw : z.length ≤ w) : Fine n w (.str z) := by
  refine ⟨by cases n <;> exact h, ?_, by simp [P.py, PyData.intsShort], by simp [P.py, PyData.showable]⟩
  simp only [P.py, PyData.weight]
  exact hw
theorem fine_all {n w : Nat} : ∀ {xs : List P}, (∀ x ∈ xs, Fine n w x) → PyData.weightAll (P.pys xs) ≤ xs.length * (w + 1) ∧ PyData.intsShortAll 13 (P.pys xs) = true ∧ PyData.showableAll (P.pys xs) = true
  | [], _ => ⟨by simp [P.pys, PyData.weightAll], by simp [P.pys, PyData.intsShortAll], by simp [P.pys, PyData.showableAll]⟩
  | x :: xs, h => by
    have hx := h x (by simp)
    obtain ⟨h1, h2, h3⟩ := fine_all fun y hy => h y (List.mem_cons_of_mem _ hy)
    refine ⟨?_, ?_, ?_⟩
    · simp only [P.pys, PyData.weightAll, List.length_cons]
      have := hx.wt
      rw [Nat.add_mul]
      omega
    · simp only [P.pys, PyData.intsShortAll, hx.short, h2]; rfl
    · simp only [P.pys, PyData.showableAll, hx.shw, h3]; rfl
theorem fine_tup {n w w' k : Nat} {xs : List P} (h : ∀ x ∈ xs, Fine n w x) (hl : xs.length ≤ k) (hw : k * (w + 1) ≤ w' := by decide) : Fine (n + 1) w' (.tup xs) := by
  obtain ⟨h1, h2, h3⟩ := fine_all h
  have := Nat.mul_le_mul_right (w + 1) hl
  refine ⟨fun x hx => (h x hx).dat, ?_, ?_, ?_⟩
  · simp only [P.py, PyData.weight]; omega
  · simp only [P.py, PyData.intsShort]; exact h2
  · simp only [P.py, PyData.showable]; exact h3
theorem fine_lst {n w w' k : Nat} {xs : List P} (h : ∀ x ∈ xs, Fine n w x) (hl : xs.length ≤ k) (hw : k * (w + 1) ≤ w' := by decide) : Fine (n + 1) w' (.lst xs) := by
  obtain ⟨h1, h2, h3⟩ := fine_all h
  have := Nat.mul_le_mul_right (w + 1) hl
  refine ⟨fun x hx => (h x hx).dat, ?_, ?_, ?_⟩
  · simp only [P.py, PyData.weight]; omega
  · simp only [P.py, PyData.intsShort]; exact h2
  · simp only [P.py, PyData.showable]; exact h3
theorem Fine.shown {n w : Nat} {x : P} (h : Fine n w x) (hn : n ≤ 60) (hw : w ≤ 2 ^ 20) : x.py.shown.length ≤ sizeLine := by
  refine PyData.shown_fits_of_layable0 (B := 13) (by decide) (by decide) ?_ h.short
  obtain ⟨h1, h2⟩ := h.dat.lay
  have := h.wt
  unfold PyData.layable0
  rw [h1, decide_eq_true (by omega), decide_eq_true (by omega)]
  rfl
/-- the reading of repr, of fine data -/
theorem Fine.repr {n w : Nat} {x : P} (h : Fine n w x) (hn : n ≤ 60) (hw : w ≤ 2 ^ 20) (hs : isSeqP x = true) {Post : D → List O → Prop} {S : List O} (q : Post (.p (.str x.py.shown)) S) : aRepr (.p x) S Post :=
  ⟨x, rfl, hs, h.dat.le hn, h.shw, h.shown hn hw, q⟩
theorem fine_two {n w w' : Nat} {x y : P} (hx : Fine n w x) (hy : Fine n w y) (hw : 2 * (w + 1) ≤ w' := by decide) : Fine (n + 1) w' (.lst [x, y]) :=
  fine_lst (k := 2) (fun z hz => by rcases List.mem_cons.mp hz with rfl | hz; exact hx; rcases List.mem_cons.mp hz with rfl | hz; exact hy; cases hz) (Nat.le_refl _) hw
theorem fine_twoT {n w w' : Nat} {x y : P} (hx : Fine n w x) (hy : Fine n w y) (hw : 2 * (w + 1) ≤ w' := by decide) : Fine (n + 1) w' (.tup [x, y]) :=
  fine_tup (k := 2) (fun z hz => by rcases List.mem_cons.mp hz with rfl | hz; exact hx; rcases List.mem_cons.mp hz with rfl | hz; exact hy; cases hz) (Nat.le_refl _) hw
theorem eqb_refl {n : Nat} {x : P} (h : Dat n x) : P.eqb x x = true := SeqAt.eqv_refl _ h.lay.1
theorem eqb_tup_nil (xs : List P) : P.eqb (.tup xs) (.tup []) = xs.isEmpty := by
  cases xs with
  | nil => simp [P.eqb, P.py, P.pys, PyData.eqv, PyData.eqvAll]
  | cons x xs => simp [P.eqb, P.py, P.pys, PyData.eqv, PyData.eqvAll]
theorem eqb_lst_nil (xs : List P) : P.eqb (.lst xs) (.lst []) = xs.isEmpty := by
  cases xs with
  | nil => simp [P.eqb, P.py, P.pys, PyData.eqv, PyData.eqvAll]
  | cons x xs => simp [P.eqb, P.py, P.pys, PyData.eqv, PyData.eqvAll]
theorem cmul_ok {i j : Int} (hi : i.natAbs < 2 ^ 2000) (hj : j.natAbs < 2 ^ 2000) : CMulW i j := by
  have h1 := log2_lt_of hi (by decide)
  have h2 := log2_lt_of hj (by decide)
  unfold CMulW
  omega
theorem p64 : (2 : Nat) ^ 64 ≤ 2 ^ 2000 := Nat.pow_le_pow_right (by decide) (by decide)
theorem cmul64 {i j : Int} (hi : i.natAbs < 2 ^ 64) (hj : j.natAbs < 2 ^ 64) : CMulW i j := cmul_ok (Nat.lt_of_lt_of_le hi p64) (Nat.lt_of_lt_of_le hj p64)
theorem cdiv64 {i j : Int} (h0 : 0 < j) (hj : j.natAbs < 2 ^ 64) : CDivW i j := ⟨h0, by have := log2_lt_of hj (by decide); omega⟩
theorem gi0 {α : Type} (x : α) (xs : List α) : gi (x :: xs) 0 = some x := rfl
theorem gi1 {α : Type} (x y : α) (xs : List α) : gi (x :: y :: xs) 1 = some y := rfl
theorem gi2 {α : Type} (x y z : α) (xs : List α) : gi (x :: y :: z :: xs) 2 = some z := rfl
theorem giN {α : Type} (xs : List α) (n : Nat) : gi xs (n : Int) = xs[n]? := rfl
theorem ix30 : ixN (0 + 1 + 1 + 1) 0 = some 0 := rfl
theorem ix31 : ixN (0 + 1 + 1 + 1) 1 = some 1 := rfl
theorem ix32 : ixN (0 + 1 + 1 + 1) 2 = some 2 := rfl
theorem sw_none {ts vs : List Expr} {kt k2 : Nat} {pt pt2 : Pos} {env : Env} (h : vs.all (foldedForSure 8) = true) : swappedStores [.Tuple ts kt pt] (.Tuple vs k2 pt2) env = pure none := by
  unfold swappedStores
  simp only [h, if_true]
  split
  · rfl
  · split
    · rfl
    · split
      · rfl
      · rfl
theorem getE (S : List O) (o : O) : (S ++ [o])[S.length]? = some o := by simp
theorem setE (S : List O) (o o' : O) : (S ++ [o]).set S.length o' = S ++ [o'] := by simp
/-- a statement, and what follows it -/
theorem sq {t u : AS} {E : En} {L : Ls} {S : List O} (h : t { E with nx := u E } L S) : sSeq t u E L S := (sSeq_run t u E L S).symm ▸ h
/-- between two statements -/
theorem seq_then {t u : AS} {E : En} {L : Ls} {S : List O} (M : Ls → List O → Prop) (h : ∀ L' S', M L' S' → u E L' S') (h1 : ∀ N : Ls → List O → Prop, (∀ L' S', M L' S' → N L' S') → t { E with nx := N } L S) : sSeq t u E L S := (sSeq_run t u E L S).symm ▸ h1 _ h
/-- after a def that changed an owned object of its caller -/
theorem Cut.set {S : List O} {Post : D → List O → Prop} {x : P} {n : Nat} {o : O} (hB : Bel S.length S) (ho : o.bel S.length) {junk : List O} (h : Post (.p x) (S.set n o)) : Cut S.length Post (.p x) (S.set n o ++ junk) := by
  have e : (S.set n o ++ junk).take S.length = S.set n o := List.take_left' (by simp)
  refine .inr ⟨S.length, Nat.le_refl _, ?_, trivial, ?_⟩
  · rw [e]
    intro y hy
    rcases List.mem_or_eq_of_mem_set hy with h' | rfl
    · exact hB y h'
    · exact ho
  · rw [e]; exact h
end Am
namespace Lw
open PySem PySem.Spec PyProof.Rows L2 Am
theorem hu65 {k : Nat} {A : Around} (hr : Room k A) : A.units + 65 < cLine := by have := hr.un; omega
def topS (i : Nat) : Stmt := PySem.Challenge.pw_everlater_k69_marks_rows_and_letters_wri.main.body.getD i (.Pass ⟨0, 0, 0, 0⟩)
abbrev st_show_mark : Stmt := topS 4
abbrev ns_show_mark : List Str := ["mark", "part"]
theorem sc_show_mark : FnScope ns_show_mark ["mark"] (defScope st_show_mark) := ⟨rfl, rfl, rfl, by decide +kernel, rfl, by decide +kernel, by decide +kernel⟩
abbrev st_show_row : Stmt := topS 5
abbrev ns_show_row : List Str := ["row", "mark"]
theorem sc_show_row : FnScope ns_show_row ["row"] (defScope st_show_row) := ⟨rfl, rfl, rfl, by decide +kernel, rfl, by decide +kernel, by decide +kernel⟩
abbrev st_show_held : Stmt := topS 6
abbrev ns_show_held : List Str := ["held", "mark"]
theorem sc_show_held : FnScope ns_show_held ["held"] (defScope st_show_held) := ⟨rfl, rfl, rfl, by decide +kernel, rfl, by decide +kernel, by decide +kernel⟩
abbrev st_show_letter : Stmt := topS 7
abbrev ns_show_letter : List Str := ["letter", "mark", "place"]
theorem sc_show_letter : FnScope ns_show_letter ["letter"] (defScope st_show_letter) := ⟨rfl, rfl, rfl, by decide +kernel, rfl, by decide +kernel, by decide +kernel⟩
abbrev st_is_digit : Stmt := topS 12
abbrev ns_is_digit : List Str := ["lot", "thing"]
theorem sc_is_digit : FnScope ns_is_digit ["lot", "thing"] (defScope st_is_digit) := ⟨rfl, rfl, rfl, by decide +kernel, rfl, by decide +kernel, by decide +kernel⟩
abbrev st_is_mark : Stmt := topS 13
abbrev ns_is_mark : List Str := ["tower", "thing", "lot", "one"]
theorem sc_is_mark : FnScope ns_is_mark ["tower", "thing"] (defScope st_is_mark) := ⟨rfl, rfl, rfl, by decide +kernel, rfl, by decide +kernel, by decide +kernel⟩
abbrev st_number_in : Stmt := topS 16
abbrev ns_number_in : List Str := ["word", "sign"]
theorem sc_number_in : FnScope ns_number_in ["word"] (defScope st_number_in) := ⟨rfl, rfl, rfl, by decide +kernel, rfl, by decide +kernel, by decide +kernel⟩
abbrev st_numbers_in : Stmt := topS 17
abbrev ns_numbers_in : List Str := ["words", "found", "word"]
theorem sc_numbers_in : FnScope ns_numbers_in ["words"] (defScope st_numbers_in) := ⟨rfl, rfl, rfl, by decide +kernel, rfl, by decide +kernel, by decide +kernel⟩
abbrev st_mark_in : Stmt := topS 18
abbrev ns_mark_in : List Str := ["word", "found"]
theorem sc_mark_in : FnScope ns_mark_in ["word"] (defScope st_mark_in) := ⟨rfl, rfl, rfl, by decide +kernel, rfl, by decide +kernel, by decide +kernel⟩
abbrev st_read_row : Stmt := topS 19
abbrev ns_read_row : List Str := ["tower", "text", "found", "word", "mark"]
theorem sc_read_row : FnScope ns_read_row ["tower", "text"] (defScope st_read_row) := ⟨rfl, rfl, rfl, by decide +kernel, rfl, by decide +kernel, by decide +kernel⟩
abbrev st_law_pot : Stmt := topS 21
abbrev ns_law_pot : List Str := ["_law_script", "_law_nth", "_law_cell", "_law_great"]
theorem sc_law_pot : FnScope ns_law_pot ["_law_script", "_law_nth"] (defScope st_law_pot) := ⟨rfl, rfl, rfl, by decide +kernel, rfl, by decide +kernel, by decide +kernel⟩
abbrev st_law_take : Stmt := topS 22
abbrev ns_law_take : List Str := ["_law_pot_here", "_law_upto", "_law_digit", "_law_primes", "_law_prime", "_law_drawn"]
theorem sc_law_take : FnScope ns_law_take ["_law_pot_here", "_law_upto"] (defScope st_law_take) := ⟨rfl, rfl, rfl, by decide +kernel, rfl, by decide +kernel, by decide +kernel⟩
abbrev st_law_of : Stmt := topS 23
abbrev ns_law_of : List Str := ["_law_pot_here", "_law_some"]
theorem sc_law_of : FnScope ns_law_of ["_law_pot_here", "_law_some"] (defScope st_law_of) := ⟨rfl, rfl, rfl, by decide +kernel, rfl, by decide +kernel, by decide +kernel⟩
abbrev st_law_seven : Stmt := topS 24
abbrev ns_law_seven : List Str := ["_law_found", "_law_x", "_law_y"]
theorem sc_law_seven : FnScope ns_law_seven [] (defScope st_law_seven) := ⟨rfl, rfl, rfl, by decide +kernel, rfl, by decide +kernel, by decide +kernel⟩
abbrev st_law_two_rings : Stmt := topS 25
abbrev ns_law_two_rings : List Str := ["_law_found", "_law_x", "_law_y"]
theorem sc_law_two_rings : FnScope ns_law_two_rings [] (defScope st_law_two_rings) := ⟨rfl, rfl, rfl, by decide +kernel, rfl, by decide +kernel, by decide +kernel⟩
abbrev st_law_known : Stmt := topS 26
abbrev ns_law_known : List Str := ["_law_three", "_law_back_three", "_law_some"]
theorem sc_law_known : FnScope ns_law_known [] (defScope st_law_known) := ⟨rfl, rfl, rfl, by decide +kernel, rfl, by decide +kernel, by decide +kernel⟩
abbrev st_law_tower : Stmt := topS 27
abbrev ns_law_tower : List Str := ["_law_pot_here", "_law_most", "_law_found", "_law_far", "_law_turn", "_law_one", "_law_more"]
theorem sc_law_tower : FnScope ns_law_tower ["_law_pot_here", "_law_most"] (defScope st_law_tower) := ⟨rfl, rfl, rfl, by decide +kernel, rfl, by decide +kernel, by decide +kernel⟩
abbrev st_law_mark_text : Stmt := topS 28
abbrev ns_law_mark_text : List Str := ["_law_mark", "_law_piece"]
theorem sc_law_mark_text : FnScope ns_law_mark_text ["_law_mark"] (defScope st_law_mark_text) := ⟨rfl, rfl, rfl, by decide +kernel, rfl, by decide +kernel, by decide +kernel⟩
abbrev st_law_held_text : Stmt := topS 29
abbrev ns_law_held_text : List Str := ["_law_holding", "_law_mark"]
theorem sc_law_held_text : FnScope ns_law_held_text ["_law_holding"] (defScope st_law_held_text) := ⟨rfl, rfl, rfl, by decide +kernel, rfl, by decide +kernel, by decide +kernel⟩
abbrev st_law_right : Stmt := topS 30
abbrev ns_law_right : List Str := ["_law_some", "_law_marks_of", "_law_slots_of", "_law_place", "_law_page", "_law_mark"]
theorem sc_law_right : FnScope ns_law_right ["_law_some", "_law_marks_of", "_law_slots_of", "_law_place"] (defScope st_law_right) := ⟨rfl, rfl, rfl, by decide +kernel, rfl, by decide +kernel, by decide +kernel⟩
abbrev st_law : Stmt := topS 31
abbrev ns_law : List Str := ["_law_script", "_law_nth", "_law_pot_here", "_law_turn", "_law_some", "_law_far", "_law_found", "_law_at", "_law_size", "_law_pairs", "_law_slots_of", "_law_mark", "_law_place"]
theorem sc_law : FnScope ns_law ["_law_script"] (defScope st_law) := ⟨rfl, rfl, rfl, by decide +kernel, rfl, by decide +kernel, by decide +kernel⟩
/-! ### texts of digits -/
def dg (n : Nat) : Str := Str.ofString (toString ((n : Nat) : Int))
theorem tl_dg (n : Nat) : TL.tl (dg n) = TL.numL n := TL.tl_num n
theorem dg_len {n : Nat} (h : n < 10) : (dg n).length = 1 := by rw [TL.len_tl, tl_dg, TL.numL_lt h]; rfl
def wd (m : List Nat) : Str := Txt.join "." (m.map dg)
theorem tl_dot : TL.tl ("." : Str) = [46] := by decide +kernel
theorem tl_sp : TL.tl (" " : Str) = [32] := by decide +kernel
theorem tl_join' (y : Str) (parts : List Str) : TL.tl (Txt.join y parts) = TL.joinL (TL.tl y) (parts.map TL.tl) := by rw [TL.join_eq, TL.tl_join]
theorem joinL_mem {s : List Nat} {c : Nat} : ∀ {ps : List (List Nat)}, c ∈ TL.joinL s ps → c ∈ s ∨ ∃ p ∈ ps, c ∈ p
  | [], h => by simp [TL.joinL] at h
  | [p], h => .inr ⟨p, by simp, by simpa [TL.joinL] using h⟩
  | p :: q :: r, h => by
    simp only [TL.joinL, List.mem_append] at h
    rcases h with h | h | h
    · exact .inr ⟨p, by simp, h⟩
    · exact .inl h
    · rcases joinL_mem h with h | ⟨x, hx, h⟩
      · exact .inl h
      · exact .inr ⟨x, List.mem_cons_of_mem _ hx, h⟩
theorem joinL_len {s : List Nat} {b : Nat} : ∀ {ps : List (List Nat)}, (∀ p ∈ ps, p.length ≤ b) → (TL.joinL s ps).length ≤ ps.length * (b + s.length)
  | [], h => by simp [TL.joinL]
  | [p], h => by
    have := h p (by simp)
    simp only [TL.joinL, List.length_cons, List.length_nil]
    omega
  | p :: q :: r, h => by
    have h1 := h p (by simp)
    have h2 := joinL_len (s := s) (ps := q :: r) fun x hx => h x (List.mem_cons_of_mem _ hx)
    simp only [TL.joinL, List.length_append]
    rw [List.length_cons, Nat.add_mul]
    omega
theorem join_len {y : Str} {b : Nat} {ps : List Str} (h : ∀ p ∈ ps, p.length ≤ b) : (Txt.join y ps).length ≤ ps.length * (b + y.length) := by
  rw [TL.len_tl, tl_join', TL.len_tl y, ← List.length_map (f := TL.tl) (as := ps)]
  refine joinL_len fun p hp => ?_
  obtain ⟨x, hx, rfl⟩ := List.mem_map.mp hp
  rw [← TL.len_tl]
  exact h x hx
theorem sum_le {b : Nat} : ∀ {ps : List Str}, (∀ p ∈ ps, p.length ≤ b) → (ps.map (·.length)).sum ≤ ps.length * b
  | [], _ => by simp
  | p :: ps, h => by
    have h1 := h p (by simp)
    have h2 := sum_le (ps := ps) fun x hx => h x (List.mem_cons_of_mem _ hx)
    simp only [List.map_cons, List.sum_cons, List.length_cons, Nat.add_mul]
    omega
/-- what a text is made of -/
def Ascii (z : Str) : Prop := ∀ c ∈ TL.tl z, c < 128
theorem Ascii.lay {z : Str} (h : Ascii z) : PyData.canLay0 (.str z) = true := by
  simp only [PyData.canLay0, PyData.strOk]
  rw [← Array.all_toList, List.all_eq_true]
  intro c hc
  have := h c hc
  simp only [decide_eq_true_eq]
  omega
theorem ascii_join {y : Str} {ps : List Str} (hy : Ascii y) (h : ∀ p ∈ ps, Ascii p) : Ascii (Txt.join y ps) := by
  intro c hc
  rw [tl_join'] at hc
  rcases joinL_mem hc with h' | ⟨p, hp, h'⟩
  · exact hy c h'
  · obtain ⟨x, hx, rfl⟩ := List.mem_map.mp hp
    exact h x hx c h'
theorem ascii_dg (n : Nat) : Ascii (dg n) := by
  intro c hc
  rw [tl_dg] at hc
  by_cases h : c < 48 ∨ 57 < c
  · exact absurd hc (TL.numL_free h)
  · omega
theorem ascii_app {x y : Str} (hx : Ascii x) (hy : Ascii y) : Ascii (x ++ y) := by
  intro c hc
  rw [TL.tl_append, List.mem_append] at hc
  exact hc.elim (hx c) (hy c)
theorem ascii_wd (m : List Nat) : Ascii (wd m) := ascii_join (by unfold Ascii; rw [tl_dot]; decide) fun p hp => by
  obtain ⟨n, _, rfl⟩ := List.mem_map.mp hp
  exact ascii_dg n
/-! ### marks, rows -/
def mkP (m : List Nat) : P := .tup (m.map fun n => .int (n : Nat))
def mkO : Option (List Nat) → P
  | none => .non
  | some m => mkP m
def showM : Option (List Nat) → Str
  | none => "-"
  | some m => wd m
def GoodM (m : List Nat) : Prop := m.length ≤ 50 ∧ ∀ n ∈ m, n < 10
def GoodO : Option (List Nat) → Prop
  | none => True
  | some m => GoodM m
def rowP (r : List (List Nat)) : P := .tup (r.map mkP)
def GoodR (r : List (List Nat)) : Prop := r.length ≤ 50 ∧ ∀ m ∈ r, GoodM m
def rowT (r : List (List Nat)) : Str := if r.isEmpty = true then "-" else Txt.join " " (r.map wd)
def heldP (h : List (Option (List Nat))) : P := .tup (h.map mkO)
def heldT (h : List (Option (List Nat))) : Str := Txt.join " " (h.map showM)
def GoodH (h : List (Option (List Nat))) : Prop := h.length ≤ 50 ∧ ∀ m ∈ h, GoodO m
theorem dg_le {m : List Nat} (h : GoodM m) : ∀ p ∈ m.map dg, p.length ≤ 1 := fun p hp => by
  obtain ⟨n, hn, rfl⟩ := List.mem_map.mp hp
  rw [dg_len (h.2 n hn)]
  exact Nat.le_refl _
theorem len_dot : ("." : Str).length = 1 := by decide +kernel
theorem len_sp : (" " : Str).length = 1 := by decide +kernel
theorem wd_len {m : List Nat} (h : GoodM m) : (wd m).length ≤ 100 := by
  have := join_len (y := ".") (dg_le h)
  rw [List.length_map, len_dot] at this
  have := h.1
  unfold wd
  omega
theorem showM_len {m : Option (List Nat)} (h : GoodO m) : (showM m).length ≤ 100 := by
  cases m with
  | none => show ("-" : Str).length ≤ 100; decide +kernel
  | some m => exact wd_len h
theorem ascii_dash : Ascii ("-" : Str) := by unfold Ascii; decide +kernel
theorem ascii_sp : Ascii (" " : Str) := by unfold Ascii; decide +kernel
theorem ascii_showM (m : Option (List Nat)) : Ascii (showM m) := by
  cases m with
  | none => exact ascii_dash
  | some m => exact ascii_wd m
theorem wd_fit {m : List Nat} (h : GoodM m) : ((m.map dg).map (·.length)).sum + (m.map dg).length * ("." : Str).length ≤ 16777216 := by
  have h1 := sum_le (dg_le h)
  rw [List.length_map] at h1 ⊢
  rw [len_dot]
  have := h.1
  omega
theorem show_fit {h : List (Option (List Nat))} (g : GoodH h) : ((h.map showM).map (·.length)).sum + (h.map showM).length * (" " : Str).length ≤ 16777216 := by
  have h1 := sum_le (b := 100) (ps := h.map showM) fun p hp => by
    obtain ⟨n, hn, rfl⟩ := List.mem_map.mp hp
    exact showM_len (g.2 n hn)
  rw [List.length_map] at h1 ⊢
  rw [len_sp]
  have := g.1
  omega
theorem row_fit {r : List (List Nat)} (g : GoodR r) : ((r.map wd).map (·.length)).sum + (r.map wd).length * (" " : Str).length ≤ 16777216 := by
  have h1 := sum_le (b := 100) (ps := r.map wd) fun p hp => by
    obtain ⟨n, hn, rfl⟩ := List.mem_map.mp hp
    exact wd_len (g.2 n hn)
  rw [List.length_map] at h1 ⊢
  rw [len_sp]
  have := g.1
  omega
theorem row_len {r : List (List Nat)} (g : GoodR r) : (rowT r).length ≤ 5050 := by
  unfold rowT
  split
  · decide +kernel
  · have h1 := join_len (y := " ") (b := 100) (ps := r.map wd) fun p hp => by
      obtain ⟨n, hn, rfl⟩ := List.mem_map.mp hp
      exact wd_len (g.2 n hn)
    rw [List.length_map, len_sp] at h1
    have := g.1
    omega
theorem held_len {h : List (Option (List Nat))} (g : GoodH h) : (heldT h).length ≤ 5050 := by
  have h1 := join_len (y := " ") (b := 100) (ps := h.map showM) fun p hp => by
    obtain ⟨n, hn, rfl⟩ := List.mem_map.mp hp
    exact showM_len (g.2 n hn)
  rw [List.length_map, len_sp] at h1
  have := g.1
  unfold heldT
  omega
theorem ascii_row (r : List (List Nat)) : Ascii (rowT r) := by
  unfold rowT
  split
  · exact ascii_dash
  · exact ascii_join ascii_sp fun p hp => by
      obtain ⟨n, _, rfl⟩ := List.mem_map.mp hp
      exact ascii_wd n
theorem ascii_held (h : List (Option (List Nat))) : Ascii (heldT h) := ascii_join ascii_sp fun p hp => by
  obtain ⟨n, _, rfl⟩ := List.mem_map.mp hp
  exact ascii_showM n
theorem fine_mk {m : List Nat} (h : GoodM m) : Fine 1 3000 (mkP m) := fine_tup (n := 0) (w := 40) (k := 50) (fun x hx => by
  obtain ⟨n, hn, rfl⟩ := List.mem_map.mp hx
  have := h.2 n hn
  exact fine_int (by omega) (Nat.le_refl _)) (by rw [List.length_map]; exact h.1)
theorem fine_row {r : List (List Nat)} (h : GoodR r) : Fine 2 200000 (rowP r) := fine_tup (n := 1) (w := 3000) (k := 50) (fun x hx => by
  obtain ⟨n, hn, rfl⟩ := List.mem_map.mp hx
  exact fine_mk (h.2 n hn)) (by rw [List.length_map]; exact h.1)
theorem fine_text {n : Nat} {z : Str} (h : Ascii z) (hl : z.length ≤ 6000) : Fine n 6000 (.str z) := fine_str h.lay hl
section
variable {Pg : Program} {w : World} {K : PySem.W.Frag} {mg : Str → Option Value} {base : Heap}
def F_show_mark : FT := fun as S Post => ∃ (m : Option (List Nat)), as = [.p (mkO m)] ∧ GoodO m ∧ Post (.p (.str (showM m))) S
theorem len_show_mark : ∀ as S Post, F_show_mark as S Post → as.length = ["mark"].length := by
  rintro _ S Post ⟨m, rfl, _⟩; rfl
theorem cl_show_mark (p : Pre K mg "show_mark" st_show_mark) (z_str : mg "str" = none) {t_NOTHING : Tok} (m_NOTHING : mg "NOTHING" = some (.str "-" t_NOTHING)) {t_POINT : Tok} (m_POINT : mg "POINT" = some (.str "." t_POINT)) : Cl Pg w K mg base 1 "show_mark" st_show_mark ["mark"] F_show_mark := by
  refine p.cl (fun _ _ _ _ _ _ us hl => match us, hl with | [_], _ => rfl) fun f fd F => ?_
  refine fun_ok F sc_show_mark len_show_mark (fun cdv A outer s H E gd hr => have hu := hu65 hr; (jb_one (js_ret (je_if (jt_isN (je_var 0)) (je_glob (fun _ => .str _) (by rfl) m_NOTHING ⟨_, rfl⟩) (je_join (je_glob (fun _ => .str _) (by rfl) m_POINT ⟨_, rfl⟩) (je_lc rfl sc_show_mark.nd (ji_seq (je_var 0)) (blkOk_by (N := ns_show_mark) (sc := defScope st_show_mark) (own := [("part", 1)]) (by decide +kernel)) (fun _ _ _ _ _ => (jgo_name 1 sc_show_mark.nd)) (fun _ _ _ _ _ => jts_nil) (fun _ _ _ _ _ => (je_strC (by rfl) z_str (je_var 1))))))))) ?_
  rintro as S Post hB ⟨m, rfl, hm, h⟩
  cases m with
  | none =>
    simp only [↓sNext, ↓sSeq_run, ↓sBreak, ↓sCont, ↓sDrop, ↓sRet, ↓sRetN, ↓sIf, ↓sAsg, ↓agName, ↓agNil, ↓agCons, ↓agTup, ↓sPar, ↓sFor, ↓aV, ↓lk, ↓aC, ↓aOp, ↓aUn, ↓aCall, ↓aNil, ↓aCons, ↓aIf, ↓aTest, ↓aAnd, ↓aOr, ↓aNot, ↓aAndV, ↓aOrV, ↓aNotV, ↓aI, ↓aI0, ↓aAdd, ↓aNeg, ↓aIsN, ↓isNone, ↓aTup, ↓purs, ↓aLst, ↓aLstO, ↓aIx, ↓gi0, ↓gi1, ↓gi2, ↓giN, ↓a1, ↓aLen, ↓aAbs, ↓aInt, ↓aStr, ↓aIsi, ↓btOf, ↓BT.isB, ↓aYes, ↓aiSeq, wipeL, ↓startL, List.map, List.set, List.replicate, List.length, List.append, List.cons_append, List.nil_append, ↓aMt, ↓isLs, ↓aLc, ↓aLcO, Bool.false_bne, Bool.true_bne, Bool.xor_false, Bool.false_xor, Bool.true_xor, Bool.not_true, Bool.not_false, decide_eq_true_eq, if_true, if_false, ite_true, ite_false, reduceIte, Bool.false_eq_true, List.getElem?_cons_zero, List.getElem?_cons_succ, ↓aLt, ↓aLe, ↓aGt, ↓aGe, ↓aSub, ↓aMul, ↓aDiv, ↓aMod, ↓aPow, true_and, and_true, mkO]
    exact .inl h
  | some m =>
    simp only [↓sNext, ↓sSeq_run, ↓sBreak, ↓sCont, ↓sDrop, ↓sRet, ↓sRetN, ↓sIf, ↓sAsg, ↓agName, ↓agNil, ↓agCons, ↓agTup, ↓sPar, ↓sFor, ↓aV, ↓lk, ↓aC, ↓aOp, ↓aUn, ↓aCall, ↓aNil, ↓aCons, ↓aIf, ↓aTest, ↓aAnd, ↓aOr, ↓aNot, ↓aAndV, ↓aOrV, ↓aNotV, ↓aI, ↓aI0, ↓aAdd, ↓aNeg, ↓aIsN, ↓isNone, ↓aTup, ↓purs, ↓aLst, ↓aLstO, ↓aIx, ↓gi0, ↓gi1, ↓gi2, ↓giN, ↓a1, ↓aLen, ↓aAbs, ↓aInt, ↓aStr, ↓aIsi, ↓btOf, ↓BT.isB, ↓aYes, ↓aiSeq, wipeL, ↓startL, List.map, List.set, List.replicate, List.length, List.append, List.cons_append, List.nil_append, ↓aMt, ↓isLs, ↓aLc, ↓aLcO, Bool.false_bne, Bool.true_bne, Bool.xor_false, Bool.false_xor, Bool.true_xor, Bool.not_true, Bool.not_false, decide_eq_true_eq, if_true, if_false, ite_true, ite_false, reduceIte, Bool.false_eq_true, List.getElem?_cons_zero, List.getElem?_cons_succ, ↓aLt, ↓aLe, ↓aGt, ↓aGe, ↓aSub, ↓aMul, ↓aDiv, ↓aMod, ↓aPow, true_and, and_true, mkO, mkP, aJoin']
    refine lc_allP m (fun n => .int (n : Nat)) (fun n => .str (dg n)) (fun n hn Q hq => ?_) ?_
    · have h10 := hm.2 n hn
      simp only [↓sNext, ↓sSeq_run, ↓sBreak, ↓sCont, ↓sDrop, ↓sRet, ↓sRetN, ↓sIf, ↓sAsg, ↓agName, ↓agNil, ↓agCons, ↓agTup, ↓sPar, ↓sFor, ↓aV, ↓lk, ↓aC, ↓aOp, ↓aUn, ↓aCall, ↓aNil, ↓aCons, ↓aIf, ↓aTest, ↓aAnd, ↓aOr, ↓aNot, ↓aAndV, ↓aOrV, ↓aNotV, ↓aI, ↓aI0, ↓aAdd, ↓aNeg, ↓aIsN, ↓isNone, ↓aTup, ↓purs, ↓aLst, ↓aLstO, ↓aIx, ↓gi0, ↓gi1, ↓gi2, ↓giN, ↓a1, ↓aLen, ↓aAbs, ↓aInt, ↓aStr, ↓aIsi, ↓btOf, ↓BT.isB, ↓aYes, ↓aiSeq, wipeL, ↓startL, List.map, List.set, List.replicate, List.length, List.append, List.cons_append, List.nil_append, ↓aMt, ↓isLs, ↓aLc, ↓aLcO, Bool.false_bne, Bool.true_bne, Bool.xor_false, Bool.false_xor, Bool.true_xor, Bool.not_true, Bool.not_false, decide_eq_true_eq, if_true, if_false, ite_true, ite_false, reduceIte, Bool.false_eq_true, List.getElem?_cons_zero, List.getElem?_cons_succ, ↓aLt, ↓aLe, ↓aGt, ↓aGe, ↓aSub, ↓aMul, ↓aDiv, ↓aMod, ↓aPow, true_and, and_true]
      exact ⟨log2_lt_of (k := 1920) (Nat.lt_of_lt_of_le (show ((n : Nat) : Int).natAbs < 2 ^ 4 by omega) (Nat.pow_le_pow_right (by decide) (by decide))) (by decide), hq⟩
    · exact ⟨_, rfl, m.map dg, by rw [List.map_map]; rfl, wd_fit hm, .inl h⟩
def F_show_row : FT := fun as S Post => ∃ r, as = [.p (rowP r)] ∧ GoodR r ∧ Post (.p (.str (rowT r))) S
theorem len_show_row : ∀ as S Post, F_show_row as S Post → as.length = ["row"].length := by
  rintro _ S Post ⟨m, rfl, _⟩; rfl
theorem eq_nil_row {r : List (List Nat)} (h : GoodR r) {neg : Bool} {S : List O} {Post : D → List O → Prop} (q : Post (.p (.bl (xor neg r.isEmpty))) S) : aEq neg (.p (rowP r)) (.p (.tup [])) S Post := by
  refine ⟨_, _, rfl, rfl, (fine_row h).dat.le (by decide), (fun x hx => nomatch hx), ?_⟩
  rw [show P.eqb (rowP r) (.tup []) = r.isEmpty by rw [rowP, eqb_tup_nil]; cases r <;> rfl]
  exact q
theorem cl_show_row (p : Pre K mg "show_row" st_show_row) {t_BLANK : Tok} (m_BLANK : mg "BLANK" = some (.str " " t_BLANK)) {t_NOTHING : Tok} (m_NOTHING : mg "NOTHING" = some (.str "-" t_NOTHING)) (c_show_mark : Cl Pg w K mg base 1 "show_mark" st_show_mark ["mark"] F_show_mark) : Cl Pg w K mg base 2 "show_row" st_show_row ["row"] F_show_row := by
  refine p.cl (fun _ _ _ _ _ _ us hl => match us, hl with | [_], _ => rfl) fun f fd F => ?_
  refine fun_ok F sc_show_row len_show_row (fun cdv A outer s H E gd hr => have hu := hu65 hr; (jb_one (js_ret (je_if (jt_ne hr (je_var 0) (je_tup ja_nil)) (je_join (je_glob (fun _ => .str _) (by rfl) m_BLANK ⟨_, rfl⟩) (je_lc rfl sc_show_row.nd (ji_seq (je_var 0)) (blkOk_by (N := ns_show_row) (sc := defScope st_show_row) (own := [("mark", 1)]) (by decide +kernel)) (fun _ _ _ _ _ => (jgo_name 1 sc_show_row.nd)) (fun _ _ _ _ _ => jts_nil) (fun _ _ _ _ _ => (je_own c_show_mark gd hr (ja_cons (je_var 1) ja_nil))))) (je_glob (fun _ => .str _) (by rfl) m_NOTHING ⟨_, rfl⟩))))) ?_
  rintro as S Post hB ⟨r, rfl, hr, h⟩
  simp only [↓sNext, ↓sSeq_run, ↓sBreak, ↓sCont, ↓sDrop, ↓sRet, ↓sRetN, ↓sIf, ↓sAsg, ↓agName, ↓agNil, ↓agCons, ↓agTup, ↓sPar, ↓sFor, ↓aV, ↓lk, ↓aC, ↓aOp, ↓aUn, ↓aCall, ↓aNil, ↓aCons, ↓aIf, ↓aTest, ↓aAnd, ↓aOr, ↓aNot, ↓aAndV, ↓aOrV, ↓aNotV, ↓aI, ↓aI0, ↓aAdd, ↓aNeg, ↓aIsN, ↓isNone, ↓aTup, ↓purs, ↓aLst, ↓aLstO, ↓aIx, ↓gi0, ↓gi1, ↓gi2, ↓giN, ↓a1, ↓aLen, ↓aAbs, ↓aInt, ↓aStr, ↓aIsi, ↓btOf, ↓BT.isB, ↓aYes, ↓aiSeq, wipeL, ↓startL, List.map, List.set, List.replicate, List.length, List.append, List.cons_append, List.nil_append, ↓aMt, ↓isLs, ↓aLc, ↓aLcO, Bool.false_bne, Bool.true_bne, Bool.xor_false, Bool.false_xor, Bool.true_xor, Bool.not_true, Bool.not_false, decide_eq_true_eq, if_true, if_false, ite_true, ite_false, reduceIte, Bool.false_eq_true, List.getElem?_cons_zero, List.getElem?_cons_succ, ↓aLt, ↓aLe, ↓aGt, ↓aGe, ↓aSub, ↓aMul, ↓aDiv, ↓aMod, ↓aPow, true_and, and_true]
  refine eq_nil_row hr ?_
  cases er : r.isEmpty with
  | true =>
    simp only [↓sNext, ↓sSeq_run, ↓sBreak, ↓sCont, ↓sDrop, ↓sRet, ↓sRetN, ↓sIf, ↓sAsg, ↓agName, ↓agNil, ↓agCons, ↓agTup, ↓sPar, ↓sFor, ↓aV, ↓lk, ↓aC, ↓aOp, ↓aUn, ↓aCall, ↓aNil, ↓aCons, ↓aIf, ↓aTest, ↓aAnd, ↓aOr, ↓aNot, ↓aAndV, ↓aOrV, ↓aNotV, ↓aI, ↓aI0, ↓aAdd, ↓aNeg, ↓aIsN, ↓isNone, ↓aTup, ↓purs, ↓aLst, ↓aLstO, ↓aIx, ↓gi0, ↓gi1, ↓gi2, ↓giN, ↓a1, ↓aLen, ↓aAbs, ↓aInt, ↓aStr, ↓aIsi, ↓btOf, ↓BT.isB, ↓aYes, ↓aiSeq, wipeL, ↓startL, List.map, List.set, List.replicate, List.length, List.append, List.cons_append, List.nil_append, ↓aMt, ↓isLs, ↓aLc, ↓aLcO, Bool.false_bne, Bool.true_bne, Bool.xor_false, Bool.false_xor, Bool.true_xor, Bool.not_true, Bool.not_false, decide_eq_true_eq, if_true, if_false, ite_true, ite_false, reduceIte, Bool.false_eq_true, List.getElem?_cons_zero, List.getElem?_cons_succ, ↓aLt, ↓aLe, ↓aGt, ↓aGe, ↓aSub, ↓aMul, ↓aDiv, ↓aMod, ↓aPow, true_and, and_true]
    rw [rowT, if_pos er] at h
    exact .inl h
  | false =>
    simp only [↓sNext, ↓sSeq_run, ↓sBreak, ↓sCont, ↓sDrop, ↓sRet, ↓sRetN, ↓sIf, ↓sAsg, ↓agName, ↓agNil, ↓agCons, ↓agTup, ↓sPar, ↓sFor, ↓aV, ↓lk, ↓aC, ↓aOp, ↓aUn, ↓aCall, ↓aNil, ↓aCons, ↓aIf, ↓aTest, ↓aAnd, ↓aOr, ↓aNot, ↓aAndV, ↓aOrV, ↓aNotV, ↓aI, ↓aI0, ↓aAdd, ↓aNeg, ↓aIsN, ↓isNone, ↓aTup, ↓purs, ↓aLst, ↓aLstO, ↓aIx, ↓gi0, ↓gi1, ↓gi2, ↓giN, ↓a1, ↓aLen, ↓aAbs, ↓aInt, ↓aStr, ↓aIsi, ↓btOf, ↓BT.isB, ↓aYes, ↓aiSeq, wipeL, ↓startL, List.map, List.set, List.replicate, List.length, List.append, List.cons_append, List.nil_append, ↓aMt, ↓isLs, ↓aLc, ↓aLcO, Bool.false_bne, Bool.true_bne, Bool.xor_false, Bool.false_xor, Bool.true_xor, Bool.not_true, Bool.not_false, decide_eq_true_eq, if_true, if_false, ite_true, ite_false, reduceIte, Bool.false_eq_true, List.getElem?_cons_zero, List.getElem?_cons_succ, ↓aLt, ↓aLe, ↓aGt, ↓aGe, ↓aSub, ↓aMul, ↓aDiv, ↓aMod, ↓aPow, true_and, and_true, aJoin', rowP]
    refine lc_allP r mkP (fun m => .str (wd m)) (fun m hm Q hq => ?_) ?_
    · simp only [↓sNext, ↓sSeq_run, ↓sBreak, ↓sCont, ↓sDrop, ↓sRet, ↓sRetN, ↓sIf, ↓sAsg, ↓agName, ↓agNil, ↓agCons, ↓agTup, ↓sPar, ↓sFor, ↓aV, ↓lk, ↓aC, ↓aOp, ↓aUn, ↓aCall, ↓aNil, ↓aCons, ↓aIf, ↓aTest, ↓aAnd, ↓aOr, ↓aNot, ↓aAndV, ↓aOrV, ↓aNotV, ↓aI, ↓aI0, ↓aAdd, ↓aNeg, ↓aIsN, ↓isNone, ↓aTup, ↓purs, ↓aLst, ↓aLstO, ↓aIx, ↓gi0, ↓gi1, ↓gi2, ↓giN, ↓a1, ↓aLen, ↓aAbs, ↓aInt, ↓aStr, ↓aIsi, ↓btOf, ↓BT.isB, ↓aYes, ↓aiSeq, wipeL, ↓startL, List.map, List.set, List.replicate, List.length, List.append, List.cons_append, List.nil_append, ↓aMt, ↓isLs, ↓aLc, ↓aLcO, Bool.false_bne, Bool.true_bne, Bool.xor_false, Bool.false_xor, Bool.true_xor, Bool.not_true, Bool.not_false, decide_eq_true_eq, if_true, if_false, ite_true, ite_false, reduceIte, Bool.false_eq_true, List.getElem?_cons_zero, List.getElem?_cons_succ, ↓aLt, ↓aLe, ↓aGt, ↓aGe, ↓aSub, ↓aMul, ↓aDiv, ↓aMod, ↓aPow, true_and, and_true]
      exact ⟨some m, rfl, hr.2 m hm, hq⟩
    · refine ⟨_, rfl, r.map wd, by rw [List.map_map]; rfl, row_fit hr, .inl ?_⟩
      rw [rowT, if_neg (by rw [er]; exact Bool.false_ne_true)] at h
      exact h
def F_show_held : FT := fun as S Post => ∃ r, as = [.p (heldP r)] ∧ GoodH r ∧ Post (.p (.str (heldT r))) S
theorem len_show_held : ∀ as S Post, F_show_held as S Post → as.length = ["held"].length := by
  rintro _ S Post ⟨m, rfl, _⟩; rfl
theorem cl_show_held (p : Pre K mg "show_held" st_show_held) {t_BLANK : Tok} (m_BLANK : mg "BLANK" = some (.str " " t_BLANK)) (c_show_mark : Cl Pg w K mg base 1 "show_mark" st_show_mark ["mark"] F_show_mark) : Cl Pg w K mg base 2 "show_held" st_show_held ["held"] F_show_held := by
  refine p.cl (fun _ _ _ _ _ _ us hl => match us, hl with | [_], _ => rfl) fun f fd F => ?_
  refine fun_ok F sc_show_held len_show_held (fun cdv A outer s H E gd hr => have hu := hu65 hr; (jb_one (js_ret (je_join (je_glob (fun _ => .str _) (by rfl) m_BLANK ⟨_, rfl⟩) (je_lc rfl sc_show_held.nd (ji_seq (je_var 0)) (blkOk_by (N := ns_show_held) (sc := defScope st_show_held) (own := [("mark", 1)]) (by decide +kernel)) (fun _ _ _ _ _ => (jgo_name 1 sc_show_held.nd)) (fun _ _ _ _ _ => jts_nil) (fun _ _ _ _ _ => (je_own c_show_mark gd hr (ja_cons (je_var 1) ja_nil)))))))) ?_
  rintro as S Post hB ⟨r, rfl, hr, h⟩
  simp only [↓sNext, ↓sSeq_run, ↓sBreak, ↓sCont, ↓sDrop, ↓sRet, ↓sRetN, ↓sIf, ↓sAsg, ↓agName, ↓agNil, ↓agCons, ↓agTup, ↓sPar, ↓sFor, ↓aV, ↓lk, ↓aC, ↓aOp, ↓aUn, ↓aCall, ↓aNil, ↓aCons, ↓aIf, ↓aTest, ↓aAnd, ↓aOr, ↓aNot, ↓aAndV, ↓aOrV, ↓aNotV, ↓aI, ↓aI0, ↓aAdd, ↓aNeg, ↓aIsN, ↓isNone, ↓aTup, ↓purs, ↓aLst, ↓aLstO, ↓aIx, ↓gi0, ↓gi1, ↓gi2, ↓giN, ↓a1, ↓aLen, ↓aAbs, ↓aInt, ↓aStr, ↓aIsi, ↓btOf, ↓BT.isB, ↓aYes, ↓aiSeq, wipeL, ↓startL, List.map, List.set, List.replicate, List.length, List.append, List.cons_append, List.nil_append, ↓aMt, ↓isLs, ↓aLc, ↓aLcO, Bool.false_bne, Bool.true_bne, Bool.xor_false, Bool.false_xor, Bool.true_xor, Bool.not_true, Bool.not_false, decide_eq_true_eq, if_true, if_false, ite_true, ite_false, reduceIte, Bool.false_eq_true, List.getElem?_cons_zero, List.getElem?_cons_succ, ↓aLt, ↓aLe, ↓aGt, ↓aGe, ↓aSub, ↓aMul, ↓aDiv, ↓aMod, ↓aPow, true_and, and_true, aJoin', heldP]
  refine lc_allP r mkO (fun m => .str (showM m)) (fun m hm Q hq => ?_) ?_
  · simp only [↓sNext, ↓sSeq_run, ↓sBreak, ↓sCont, ↓sDrop, ↓sRet, ↓sRetN, ↓sIf, ↓sAsg, ↓agName, ↓agNil, ↓agCons, ↓agTup, ↓sPar, ↓sFor, ↓aV, ↓lk, ↓aC, ↓aOp, ↓aUn, ↓aCall, ↓aNil, ↓aCons, ↓aIf, ↓aTest, ↓aAnd, ↓aOr, ↓aNot, ↓aAndV, ↓aOrV, ↓aNotV, ↓aI, ↓aI0, ↓aAdd, ↓aNeg, ↓aIsN, ↓isNone, ↓aTup, ↓purs, ↓aLst, ↓aLstO, ↓aIx, ↓gi0, ↓gi1, ↓gi2, ↓giN, ↓a1, ↓aLen, ↓aAbs, ↓aInt, ↓aStr, ↓aIsi, ↓btOf, ↓BT.isB, ↓aYes, ↓aiSeq, wipeL, ↓startL, List.map, List.set, List.replicate, List.length, List.append, List.cons_append, List.nil_append, ↓aMt, ↓isLs, ↓aLc, ↓aLcO, Bool.false_bne, Bool.true_bne, Bool.xor_false, Bool.false_xor, Bool.true_xor, Bool.not_true, Bool.not_false, decide_eq_true_eq, if_true, if_false, ite_true, ite_false, reduceIte, Bool.false_eq_true, List.getElem?_cons_zero, List.getElem?_cons_succ, ↓aLt, ↓aLe, ↓aGt, ↓aGe, ↓aSub, ↓aMul, ↓aDiv, ↓aMod, ↓aPow, true_and, and_true]
    exact ⟨m, rfl, hr.2 m hm, hq⟩
  · exact ⟨_, rfl, r.map showM, by rw [List.map_map]; rfl, show_fit hr, .inl h⟩
def plT (n : Nat) : Str := Str.ofString (toString ((n : Nat) : Int))
def F_show_letter : FT := fun as S Post => ∃ (m : Option (List Nat)) (pl : Nat), as = [.p (.tup [mkO m, .int (pl : Nat)])] ∧ GoodO m ∧ pl < 10 ^ 10 ∧ Post (.p (.str (showM m ++ ":" ++ dg pl))) S
theorem len_show_letter : ∀ as S Post, F_show_letter as S Post → as.length = ["letter"].length := by
  rintro _ S Post ⟨m, _, rfl, _⟩; rfl
theorem str_ok {n : Nat} (h : n < 10 ^ 10) : ((n : Nat) : Int).natAbs.log2 < 1920 := log2_lt_of (k := 1920) (Nat.lt_of_lt_of_le (show ((n : Nat) : Int).natAbs < 2 ^ 64 by omega) (Nat.pow_le_pow_right (by decide) (by decide))) (by decide)
theorem dg_len10 {n : Nat} (h : n < 10 ^ 10) : (dg n).length ≤ 10 := by rw [TL.len_tl, tl_dg]; exact TL.numL_len (by decide) h
theorem app_len (x y : Str) : (x ++ y).length = x.length + y.length := by rw [TL.len_tl, TL.tl_append, List.length_append, ← TL.len_tl, ← TL.len_tl]
theorem len_col : (":" : Str).length = 1 := by decide +kernel
theorem small_sl {n : Nat} (h : n ≤ 10000) : n ≤ sizeLine := Nat.le_trans h (by decide)
theorem cl_show_letter (p : Pre K mg "show_letter" st_show_letter) (z_str : mg "str" = none) (c_show_mark : Cl Pg w K mg base 1 "show_mark" st_show_mark ["mark"] F_show_mark) : Cl Pg w K mg base 2 "show_letter" st_show_letter ["letter"] F_show_letter := by
  refine p.cl (fun _ _ _ _ _ _ us hl => match us, hl with | [_], _ => rfl) fun f fd F => ?_
  refine fun_ok F sc_show_letter len_show_letter (fun cdv A outer s H E gd hr => have hu := hu65 hr; (jb_cons (js_asg (je_var 0) (jg_tup (n := 2) rfl (jgs_cons (jg_name 1 sc_show_letter.nd) (jgs_cons (jg_name 2 sc_show_letter.nd) jgs_nil))))
    (jb_one (js_ret (je_add (je_add (je_own c_show_mark gd hr (ja_cons (je_var 1) ja_nil)) je_str) (je_strC (by rfl) z_str (je_var 2))))))) ?_
  rintro as S Post hB ⟨m, pl, rfl, hm, hp, h⟩
  simp only [↓sNext, ↓sSeq_run, ↓sBreak, ↓sCont, ↓sDrop, ↓sRet, ↓sRetN, ↓sIf, ↓sAsg, ↓agName, ↓agNil, ↓agCons, ↓agTup, ↓sPar, ↓sFor, ↓aV, ↓lk, ↓aC, ↓aOp, ↓aUn, ↓aCall, ↓aNil, ↓aCons, ↓aIf, ↓aTest, ↓aAnd, ↓aOr, ↓aNot, ↓aAndV, ↓aOrV, ↓aNotV, ↓aI, ↓aI0, ↓aAdd, ↓aNeg, ↓aIsN, ↓isNone, ↓aTup, ↓purs, ↓aLst, ↓aLstO, ↓aIx, ↓gi0, ↓gi1, ↓gi2, ↓giN, ↓a1, ↓aLen, ↓aAbs, ↓aInt, ↓aStr, ↓aIsi, ↓btOf, ↓BT.isB, ↓aYes, ↓aiSeq, wipeL, ↓startL, List.map, List.set, List.replicate, List.length, List.append, List.cons_append, List.nil_append, ↓aMt, ↓isLs, ↓aLc, ↓aLcO, Bool.false_bne, Bool.true_bne, Bool.xor_false, Bool.false_xor, Bool.true_xor, Bool.not_true, Bool.not_false, decide_eq_true_eq, if_true, if_false, ite_true, ite_false, reduceIte, Bool.false_eq_true, List.getElem?_cons_zero, List.getElem?_cons_succ, ↓aLt, ↓aLe, ↓aGt, ↓aGe, ↓aSub, ↓aMul, ↓aDiv, ↓aMod, ↓aPow, true_and, and_true]
  refine ⟨m, rfl, hm, ?_⟩
  have h1 := showM_len hm
  have h2 := dg_len10 hp
  refine ⟨small_sl (by rw [len_col]; omega), str_ok hp, small_sl (by rw [app_len, len_col]; show _ + (dg pl).length ≤ _; omega), .inl h⟩
/-! ### reading -/
def lotP (l : Nat × P) : P := .tup [.int (l.1 : Nat), l.2]
def towP (T : List (Nat × P)) : P := .tup (T.map lotP)
def F_is_digit : FT := fun as S Post => ∃ (k : Nat) (p : P) (n : Nat), as = [.p (lotP (k, p)), .p (.int (n : Nat))] ∧ n < k ∧ Post (.p (.bl true)) S
theorem len_is_digit : ∀ as S Post, F_is_digit as S Post → as.length = ["lot", "thing"].length := by
  rintro _ S Post ⟨k, p, n, rfl, _⟩; rfl
theorem cl_is_digit (p : Pre K mg "is_digit" st_is_digit) (z_bool : mg "bool" = none) (z_int : mg "int" = none) (z_isinstance : mg "isinstance" = none) : Cl Pg w K mg base 1 "is_digit" st_is_digit ["lot", "thing"] F_is_digit := by
  refine p.cl (fun _ _ _ _ _ _ us hl => match us, hl with | [_, _], _ => rfl) fun f fd F => ?_
  refine fun_ok F sc_is_digit len_is_digit (fun cdv A outer s H E gd hr => have hu := hu65 hr; (jb_one (js_ret (je_and (je_isi .int (by decide +kernel) (by decide) (by decide) (by rfl) z_isinstance (by rfl) z_int (je_var 1)) (je_and (je_not (je_isi .bool (by decide +kernel) (by decide) (by decide) (by rfl) z_isinstance (by rfl) z_bool (je_var 1))) (je_one (je_le_lt je_int (je_var 1) (je_ix (je_var 0) je_int (fun _ _ => rfl))))))))) ?_
  rintro as S Post hB ⟨k, p, n, rfl, hn, h⟩
  simp only [↓sNext, ↓sSeq_run, ↓sBreak, ↓sCont, ↓sDrop, ↓sRet, ↓sRetN, ↓sIf, ↓sAsg, ↓agName, ↓agNil, ↓agCons, ↓agTup, ↓sPar, ↓sFor, ↓aV, ↓lk, ↓aC, ↓aOp, ↓aUn, ↓aCall, ↓aNil, ↓aCons, ↓aIf, ↓aTest, ↓aAnd, ↓aOr, ↓aNot, ↓aAndV, ↓aOrV, ↓aNotV, ↓aI, ↓aI0, ↓aAdd, ↓aNeg, ↓aIsN, ↓isNone, ↓aTup, ↓purs, ↓aLst, ↓aLstO, ↓aIx, ↓gi0, ↓gi1, ↓gi2, ↓giN, ↓a1, ↓aLen, ↓aAbs, ↓aInt, ↓aStr, ↓aIsi, ↓btOf, ↓BT.isB, ↓aYes, ↓aiSeq, wipeL, ↓startL, List.map, List.set, List.replicate, List.length, List.append, List.cons_append, List.nil_append, ↓aMt, ↓isLs, ↓aLc, ↓aLcO, Bool.false_bne, Bool.true_bne, Bool.xor_false, Bool.false_xor, Bool.true_xor, Bool.not_true, Bool.not_false, decide_eq_true_eq, if_true, if_false, ite_true, ite_false, reduceIte, Bool.false_eq_true, List.getElem?_cons_zero, List.getElem?_cons_succ, ↓aLt, ↓aLe, ↓aGt, ↓aGe, ↓aSub, ↓aMul, ↓aDiv, ↓aMod, ↓aPow, true_and, and_true, lotP, aChain]
  have e1 : decide ((0 : Int) ≤ (n : Nat)) = true := by simp
  have e2 : decide (((n : Nat) : Int) < (k : Nat)) = true := by simpa using hn
  rw [e1]
  simp only [↓sNext, ↓sSeq_run, ↓sBreak, ↓sCont, ↓sDrop, ↓sRet, ↓sRetN, ↓sIf, ↓sAsg, ↓agName, ↓agNil, ↓agCons, ↓agTup, ↓sPar, ↓sFor, ↓aV, ↓lk, ↓aC, ↓aOp, ↓aUn, ↓aCall, ↓aNil, ↓aCons, ↓aIf, ↓aTest, ↓aAnd, ↓aOr, ↓aNot, ↓aAndV, ↓aOrV, ↓aNotV, ↓aI, ↓aI0, ↓aAdd, ↓aNeg, ↓aIsN, ↓isNone, ↓aTup, ↓purs, ↓aLst, ↓aLstO, ↓aIx, ↓gi0, ↓gi1, ↓gi2, ↓giN, ↓a1, ↓aLen, ↓aAbs, ↓aInt, ↓aStr, ↓aIsi, ↓btOf, ↓BT.isB, ↓aYes, ↓aiSeq, wipeL, ↓startL, List.map, List.set, List.replicate, List.length, List.append, List.cons_append, List.nil_append, ↓aMt, ↓isLs, ↓aLc, ↓aLcO, Bool.false_bne, Bool.true_bne, Bool.xor_false, Bool.false_xor, Bool.true_xor, Bool.not_true, Bool.not_false, decide_eq_true_eq, if_true, if_false, ite_true, ite_false, reduceIte, Bool.false_eq_true, List.getElem?_cons_zero, List.getElem?_cons_succ, ↓aLt, ↓aLe, ↓aGt, ↓aGe, ↓aSub, ↓aMul, ↓aDiv, ↓aMod, ↓aPow, true_and, and_true]
  rw [e2]
  exact .inl h
def fits : List (Nat × P) → List Nat → Prop
  | [], [] => True
  | l :: T, n :: m => n < l.1 ∧ fits T m
  | _, _ => False
theorem fits.len : ∀ {T : List (Nat × P)} {m : List Nat}, fits T m → m.length = T.length
  | [], [], _ => rfl
  | [], _ :: _, h => h.elim
  | _ :: _, [], h => h.elim
  | l :: T, n :: m, h => by rw [List.length_cons, List.length_cons, fits.len h.2]
theorem fits.pairs : ∀ {T : List (Nat × P)} {m : List Nat}, fits T m → Am.pairs (T.map lotP) (m.map fun n => .int (n : Nat)) = (List.zip T m).map fun q => .p (.tup [lotP q.1, .int (q.2 : Nat)])
  | [], [], _ => rfl
  | [], _ :: _, h => h.elim
  | _ :: _, [], h => h.elim
  | l :: T, n :: m, h => by
    have := fits.pairs h.2
    unfold Am.pairs at this ⊢
    simp only [List.map_cons, List.zipWith_cons_cons, List.zip_cons_cons, this]
theorem fits.zip : ∀ {T : List (Nat × P)} {m : List Nat}, fits T m → ∀ q ∈ List.zip T m, q.2 < q.1.1
  | [], [], _, q, hq => by simp at hq
  | [], _ :: _, h, _, _ => h.elim
  | _ :: _, [], h, _, _ => h.elim
  | l :: T, n :: m, h, q, hq => by
    rw [List.zip_cons_cons] at hq
    rcases List.mem_cons.mp hq with rfl | hq
    · exact h.1
    · exact fits.zip h.2 q hq
def F_is_mark : FT := fun as S Post => ∃ (T : List (Nat × P)) (m : List Nat), as = [.p (towP T), .p (mkP m)] ∧ fits T m ∧ Post (.p (.bl true)) S
theorem len_is_mark : ∀ as S Post, F_is_mark as S Post → as.length = ["tower", "thing"].length := by
  rintro _ S Post ⟨T, m, rfl, _⟩; rfl
theorem all_true {α : Type} (xs : List α) : ((xs.map fun _ => true).all id) = true := by
  induction xs with
  | nil => rfl
  | cons x xs ih => simpa using ih
theorem cl_is_mark (p : Pre K mg "is_mark" st_is_mark) (z_all : mg "all" = none) (z_isinstance : mg "isinstance" = none) (z_len : mg "len" = none) (z_tuple : mg "tuple" = none) (z_zip : mg "zip" = none) (c_is_digit : Cl Pg w K mg base 1 "is_digit" st_is_digit ["lot", "thing"] F_is_digit) : Cl Pg w K mg base 2 "is_mark" st_is_mark ["tower", "thing"] F_is_mark := by
  refine p.cl (fun _ _ _ _ _ _ us hl => match us, hl with | [_, _], _ => rfl) fun f fd F => ?_
  refine fun_ok F sc_is_mark len_is_mark (fun cdv A outer s H E gd hr => have hu := hu65 hr; (jb_cons (js_if (JW.jt (jw_or (jt_not (jt_val (je_isi .tuple (by decide +kernel) (by decide) (by decide) (by rfl) z_isinstance (by rfl) z_tuple (je_var 1)))) (jw_or1 (jt_ne hr (je_len (by rfl) z_len (je_var 1)) (je_len (by rfl) z_len (je_var 0)))))) (jb_one (js_ret je_bl)) jb_nil)
    (jb_one (js_ret (je_all (by rfl) (by rfl) z_all (je_lc rfl sc_is_mark.nd (ji_zip (by rfl) z_zip (ja_cons (je_var 0) (ja_cons (je_var 1) ja_nil))) (blkOk_by (N := ns_is_mark) (sc := defScope st_is_mark) (own := [("lot", 2), ("one", 3)]) (by decide +kernel)) (fun _ _ _ _ _ => (jgo_tup (n := 2) rfl (jgos_name 2 sc_is_mark.nd (jgos_name 3 sc_is_mark.nd jgos_nil)))) (fun _ _ _ _ _ => jts_nil) (fun _ _ _ _ _ => (je_own c_is_digit gd hr (ja_cons (je_var 2) (ja_cons (je_var 3) ja_nil)))))))))) ?_
  rintro as S Post hB ⟨T, m, rfl, hf, h⟩
  simp only [↓sNext, ↓sSeq_run, ↓sBreak, ↓sCont, ↓sDrop, ↓sRet, ↓sRetN, ↓sIf, ↓sAsg, ↓agName, ↓agNil, ↓agCons, ↓agTup, ↓sPar, ↓sFor, ↓aV, ↓lk, ↓aC, ↓aOp, ↓aUn, ↓aCall, ↓aNil, ↓aCons, ↓aIf, ↓aTest, ↓aAnd, ↓aOr, ↓aNot, ↓aAndV, ↓aOrV, ↓aNotV, ↓aI, ↓aI0, ↓aAdd, ↓aNeg, ↓aIsN, ↓isNone, ↓aTup, ↓purs, ↓aLst, ↓aLstO, ↓aIx, ↓gi0, ↓gi1, ↓gi2, ↓giN, ↓a1, ↓aLen, ↓aAbs, ↓aInt, ↓aStr, ↓aIsi, ↓btOf, ↓BT.isB, ↓aYes, ↓aiSeq, wipeL, ↓startL, List.map, List.set, List.replicate, List.length, List.append, List.cons_append, List.nil_append, ↓aMt, ↓isLs, ↓aLc, ↓aLcO, Bool.false_bne, Bool.true_bne, Bool.xor_false, Bool.false_xor, Bool.true_xor, Bool.not_true, Bool.not_false, decide_eq_true_eq, if_true, if_false, ite_true, ite_false, reduceIte, Bool.false_eq_true, List.getElem?_cons_zero, List.getElem?_cons_succ, ↓aLt, ↓aLe, ↓aGt, ↓aGe, ↓aSub, ↓aMul, ↓aDiv, ↓aMod, ↓aPow, true_and, and_true, mkP, towP, aAll, aEq, aiZip]
  have e1 : (((m.map fun n => P.int (n : Nat)).length : Int) == ((T.map lotP).length : Int)) = true := by
    rw [List.length_map, List.length_map, hf.len]
    exact beq_self_eq_true _
  simp only [List.length_map, hf.len, beq_self_eq_true, Bool.not_true, if_neg Bool.false_ne_true]
  rw [hf.pairs]
  refine lc_all (List.zip T m) (fun q => .p (.tup [lotP q.1, .int (q.2 : Nat)])) (fun _ => .bl true) (fun q hq Q hQ => ?_) ?_
  · simp only [↓sNext, ↓sSeq_run, ↓sBreak, ↓sCont, ↓sDrop, ↓sRet, ↓sRetN, ↓sIf, ↓sAsg, ↓agName, ↓agNil, ↓agCons, ↓agTup, ↓sPar, ↓sFor, ↓aV, ↓lk, ↓aC, ↓aOp, ↓aUn, ↓aCall, ↓aNil, ↓aCons, ↓aIf, ↓aTest, ↓aAnd, ↓aOr, ↓aNot, ↓aAndV, ↓aOrV, ↓aNotV, ↓aI, ↓aI0, ↓aAdd, ↓aNeg, ↓aIsN, ↓isNone, ↓aTup, ↓purs, ↓aLst, ↓aLstO, ↓aIx, ↓gi0, ↓gi1, ↓gi2, ↓giN, ↓a1, ↓aLen, ↓aAbs, ↓aInt, ↓aStr, ↓aIsi, ↓btOf, ↓BT.isB, ↓aYes, ↓aiSeq, wipeL, ↓startL, List.map, List.set, List.replicate, List.length, List.append, List.cons_append, List.nil_append, ↓aMt, ↓isLs, ↓aLc, ↓aLcO, Bool.false_bne, Bool.true_bne, Bool.xor_false, Bool.false_xor, Bool.true_xor, Bool.not_true, Bool.not_false, decide_eq_true_eq, if_true, if_false, ite_true, ite_false, reduceIte, Bool.false_eq_true, List.getElem?_cons_zero, List.getElem?_cons_succ, ↓aLt, ↓aLe, ↓aGt, ↓aGe, ↓aSub, ↓aMul, ↓aDiv, ↓aMod, ↓aPow, true_and, and_true]
    exact ⟨q.1.1, q.1.2, q.2, rfl, hf.zip q hq, hQ⟩
  · refine ⟨_, rfl, (List.zip T m).map fun _ => true, by show List.map _ _ = _; rw [List.map_map]; rfl, ?_⟩
    rw [all_true]
    exact .inl h
end
end Lw
namespace Lw
open PySem PySem.Spec PyProof.Rows L2 Am
section
variable {Pg : Program} {w : World} {K : PySem.W.Frag} {mg : Str → Option Value} {base : Heap}
theorem dg_S {n : Nat} (h : n < 10) : dg n = ⟨#[48 + n]⟩ := TL.ext_tl (by rw [tl_dg, TL.numL_lt h])
def F_number_in : FT := fun as S Post => ∃ n : Nat, as = [.p (.str (dg n))] ∧ n < 10 ∧ Post (.p (.int (n : Nat))) S
theorem len_number_in : ∀ as S Post, F_number_in as S Post → as.length = ["word"].length := by
  rintro _ S Post ⟨n, rfl, _⟩; rfl
theorem dg_facts {n : Nat} (h : n < 10) : ((⟨#[48 + n]⟩ : Str) == ("" : Str)) = false ∧ (48 + n ∈ ("0123456789" : Str).cps.toList) ∧ (((⟨#[48 + n]⟩ : Str) == ("0" : Str)) = true → n = 0) ∧ (((⟨#[48 + 0]⟩ : Str) == ("0" : Str)) = true) := by
  have : n = 0 ∨ n = 1 ∨ n = 2 ∨ n = 3 ∨ n = 4 ∨ n = 5 ∨ n = 6 ∨ n = 7 ∨ n = 8 ∨ n = 9 := by omega
  rcases this with rfl | rfl | rfl | rfl | rfl | rfl | rfl | rfl | rfl | rfl <;> refine ⟨by decide +kernel, by decide +kernel, fun h => ?_, by decide +kernel⟩ <;> first | rfl | (exact absurd h (by decide +kernel))
theorem cl_number_in (p : Pre K mg "number_in" st_number_in) (z_all : mg "all" = none) (z_int : mg "int" = none) {t_FIGURES : Tok} (m_FIGURES : mg "FIGURES" = some (.str "0123456789" t_FIGURES)) : Cl Pg w K mg base 1 "number_in" st_number_in ["word"] F_number_in := by
  refine p.cl (fun _ _ _ _ _ _ us hl => match us, hl with | [_], _ => rfl) fun f fd F => ?_
  refine fun_ok F sc_number_in len_number_in (fun cdv A outer s H E gd hr => have hu := hu65 hr; (jb_cons (js_if (JW.jt (jw_or (jt_eq hr (je_var 0) je_str) (jw_or (jt_not (jt_val (je_all (by rfl) (by rfl) z_all (je_lc rfl sc_number_in.nd (ji_str (je_var 0)) (blkOk_by (N := ns_number_in) (sc := defScope st_number_in) (own := [("sign", 1)]) (by decide +kernel)) (fun _ _ _ _ _ => (jgo_name 1 sc_number_in.nd)) (fun _ _ _ _ _ => jts_nil) (fun _ _ _ _ _ => (je_in hu (je_var 1) (je_glob (fun _ => .str _) (by rfl) m_FIGURES ⟨_, rfl⟩))))))) (jw_or1 (JW.jt (jw_and (jt_eq hr (je_ix (je_var 0) je_int (fun _ _ => rfl)) je_str) (jw_and1 (jt_ne hr (je_var 0) je_str)))))))) (jb_one (js_ret je_non)) jb_nil)
    (jb_one (js_ret (je_intC (by rfl) z_int (je_var 0)))))) ?_
  rintro as S Post hB ⟨n, rfl, hn, h⟩
  obtain ⟨f1, f2, f3, f4⟩ := dg_facts hn
  have hi : intText? (dg n) = some (n : Int) := TL.int_num (by rw [TL.numL_lt hn]; show 1 ≤ 4300; decide)
  have hl : (dg n).length ≤ 640 := by rw [dg_len hn]; decide
  rw [dg_S hn] at hi hl ⊢
  simp only [↓sNext, ↓sSeq_run, ↓sBreak, ↓sCont, ↓sDrop, ↓sRet, ↓sRetN, ↓sIf, ↓sAsg, ↓agName, ↓agNil, ↓agCons, ↓agTup, ↓sPar, ↓sFor, ↓aV, ↓lk, ↓aC, ↓aOp, ↓aUn, ↓aCall, ↓aNil, ↓aCons, ↓aIf, ↓aTest, ↓aAnd, ↓aOr, ↓aNot, ↓aAndV, ↓aOrV, ↓aNotV, ↓aI, ↓aI0, ↓aAdd, ↓aNeg, ↓aIsN, ↓isNone, ↓aTup, ↓purs, ↓aLst, ↓aLstO, ↓aIx, ↓gi0, ↓gi1, ↓gi2, ↓giN, ↓a1, ↓aLen, ↓aAbs, ↓aInt, ↓aStr, ↓aIsi, ↓btOf, ↓BT.isB, ↓aYes, ↓aiSeq, wipeL, ↓startL, List.map, List.set, List.replicate, List.length, List.append, List.cons_append, List.nil_append, ↓aMt, ↓isLs, ↓aLc, ↓aLcO, Bool.false_bne, Bool.true_bne, Bool.xor_false, Bool.false_xor, Bool.true_xor, Bool.not_true, Bool.not_false, decide_eq_true_eq, if_true, if_false, ite_true, ite_false, reduceIte, Bool.false_eq_true, List.getElem?_cons_zero, List.getElem?_cons_succ, ↓aLt, ↓aLe, ↓aGt, ↓aGe, ↓aSub, ↓aMul, ↓aDiv, ↓aMod, ↓aPow, true_and, and_true, aEq, f1, aAll, aiStr]
  refine ⟨small_sl (Nat.le_trans hl (by decide)), ?_⟩
  refine lc_all [48 + n] (fun c => .p (.str ⟨#[c]⟩)) (fun _ => .bl true) (fun c hc Q hQ => ?_) ?_
  · rw [List.mem_singleton] at hc
    subst hc
    simp only [↓sNext, ↓sSeq_run, ↓sBreak, ↓sCont, ↓sDrop, ↓sRet, ↓sRetN, ↓sIf, ↓sAsg, ↓agName, ↓agNil, ↓agCons, ↓agTup, ↓sPar, ↓sFor, ↓aV, ↓lk, ↓aC, ↓aOp, ↓aUn, ↓aCall, ↓aNil, ↓aCons, ↓aIf, ↓aTest, ↓aAnd, ↓aOr, ↓aNot, ↓aAndV, ↓aOrV, ↓aNotV, ↓aI, ↓aI0, ↓aAdd, ↓aNeg, ↓aIsN, ↓isNone, ↓aTup, ↓purs, ↓aLst, ↓aLstO, ↓aIx, ↓gi0, ↓gi1, ↓gi2, ↓giN, ↓a1, ↓aLen, ↓aAbs, ↓aInt, ↓aStr, ↓aIsi, ↓btOf, ↓BT.isB, ↓aYes, ↓aiSeq, wipeL, ↓startL, List.map, List.set, List.replicate, List.length, List.append, List.cons_append, List.nil_append, ↓aMt, ↓isLs, ↓aLc, ↓aLcO, Bool.false_bne, Bool.true_bne, Bool.xor_false, Bool.false_xor, Bool.true_xor, Bool.not_true, Bool.not_false, decide_eq_true_eq, if_true, if_false, ite_true, ite_false, reduceIte, Bool.false_eq_true, List.getElem?_cons_zero, List.getElem?_cons_succ, ↓aLt, ↓aLe, ↓aGt, ↓aGe, ↓aSub, ↓aMul, ↓aDiv, ↓aMod, ↓aPow, true_and, and_true, aIn]
    exact ⟨_, rfl, by rw [decide_eq_true f2]; exact hQ⟩
  · refine ⟨_, rfl, [true], rfl, ?_⟩
    simp only [List.all_cons, List.all_nil, id, Bool.and_self, Bool.not_true, if_neg Bool.false_ne_true, if_pos]
    refine ⟨small_sl (Nat.le_trans hl (by decide)), ?_⟩
    have fin : (aCall (a1 aInt) (aCons (aV 0) aNil)) [some (D.p (P.str { cps := #[48 + n] })), none] S (Cut S.length Post) := by
      simp only [↓sNext, ↓sSeq_run, ↓sBreak, ↓sCont, ↓sDrop, ↓sRet, ↓sRetN, ↓sIf, ↓sAsg, ↓agName, ↓agNil, ↓agCons, ↓agTup, ↓sPar, ↓sFor, ↓aV, ↓lk, ↓aC, ↓aOp, ↓aUn, ↓aCall, ↓aNil, ↓aCons, ↓aIf, ↓aTest, ↓aAnd, ↓aOr, ↓aNot, ↓aAndV, ↓aOrV, ↓aNotV, ↓aI, ↓aI0, ↓aAdd, ↓aNeg, ↓aIsN, ↓isNone, ↓aTup, ↓purs, ↓aLst, ↓aLstO, ↓aIx, ↓gi0, ↓gi1, ↓gi2, ↓giN, ↓a1, ↓aLen, ↓aAbs, ↓aInt, ↓aStr, ↓aIsi, ↓btOf, ↓BT.isB, ↓aYes, ↓aiSeq, wipeL, ↓startL, List.map, List.set, List.replicate, List.length, List.append, List.cons_append, List.nil_append, ↓aMt, ↓isLs, ↓aLc, ↓aLcO, Bool.false_bne, Bool.true_bne, Bool.xor_false, Bool.false_xor, Bool.true_xor, Bool.not_true, Bool.not_false, decide_eq_true_eq, if_true, if_false, ite_true, ite_false, reduceIte, Bool.false_eq_true, List.getElem?_cons_zero, List.getElem?_cons_succ, ↓aLt, ↓aLe, ↓aGt, ↓aGe, ↓aSub, ↓aMul, ↓aDiv, ↓aMod, ↓aPow, true_and, and_true]
      exact ⟨_, hi, hl, .inl h⟩
    by_cases e0 : ((⟨#[48 + n]⟩ : Str) == ("0" : Str)) = true
    · have := f3 e0
      subst this
      simp only [e0, ↓sNext, ↓sSeq_run, ↓sBreak, ↓sCont, ↓sDrop, ↓sRet, ↓sRetN, ↓sIf, ↓sAsg, ↓agName, ↓agNil, ↓agCons, ↓agTup, ↓sPar, ↓sFor, ↓aV, ↓lk, ↓aC, ↓aOp, ↓aUn, ↓aCall, ↓aNil, ↓aCons, ↓aIf, ↓aTest, ↓aAnd, ↓aOr, ↓aNot, ↓aAndV, ↓aOrV, ↓aNotV, ↓aI, ↓aI0, ↓aAdd, ↓aNeg, ↓aIsN, ↓isNone, ↓aTup, ↓purs, ↓aLst, ↓aLstO, ↓aIx, ↓gi0, ↓gi1, ↓gi2, ↓giN, ↓a1, ↓aLen, ↓aAbs, ↓aInt, ↓aStr, ↓aIsi, ↓btOf, ↓BT.isB, ↓aYes, ↓aiSeq, wipeL, ↓startL, List.map, List.set, List.replicate, List.length, List.append, List.cons_append, List.nil_append, ↓aMt, ↓isLs, ↓aLc, ↓aLcO, Bool.false_bne, Bool.true_bne, Bool.xor_false, Bool.false_xor, Bool.true_xor, Bool.not_true, Bool.not_false, decide_eq_true_eq, if_true, if_false, ite_true, ite_false, reduceIte, Bool.false_eq_true, List.getElem?_cons_zero, List.getElem?_cons_succ, ↓aLt, ↓aLe, ↓aGt, ↓aGe, ↓aSub, ↓aMul, ↓aDiv, ↓aMod, ↓aPow, true_and, and_true]
      simpa only [↓sNext, ↓sSeq_run, ↓sBreak, ↓sCont, ↓sDrop, ↓sRet, ↓sRetN, ↓sIf, ↓sAsg, ↓agName, ↓agNil, ↓agCons, ↓agTup, ↓sPar, ↓sFor, ↓aV, ↓lk, ↓aC, ↓aOp, ↓aUn, ↓aCall, ↓aNil, ↓aCons, ↓aIf, ↓aTest, ↓aAnd, ↓aOr, ↓aNot, ↓aAndV, ↓aOrV, ↓aNotV, ↓aI, ↓aI0, ↓aAdd, ↓aNeg, ↓aIsN, ↓isNone, ↓aTup, ↓purs, ↓aLst, ↓aLstO, ↓aIx, ↓gi0, ↓gi1, ↓gi2, ↓giN, ↓a1, ↓aLen, ↓aAbs, ↓aInt, ↓aStr, ↓aIsi, ↓btOf, ↓BT.isB, ↓aYes, ↓aiSeq, wipeL, ↓startL, List.map, List.set, List.replicate, List.length, List.append, List.cons_append, List.nil_append, ↓aMt, ↓isLs, ↓aLc, ↓aLcO, Bool.false_bne, Bool.true_bne, Bool.xor_false, Bool.false_xor, Bool.true_xor, Bool.not_true, Bool.not_false, decide_eq_true_eq, if_true, if_false, ite_true, ite_false, reduceIte, Bool.false_eq_true, List.getElem?_cons_zero, List.getElem?_cons_succ, ↓aLt, ↓aLe, ↓aGt, ↓aGe, ↓aSub, ↓aMul, ↓aDiv, ↓aMod, ↓aPow, true_and, and_true] using fin
    · rw [Bool.not_eq_true] at e0
      simp only [e0, ↓sNext, ↓sSeq_run, ↓sBreak, ↓sCont, ↓sDrop, ↓sRet, ↓sRetN, ↓sIf, ↓sAsg, ↓agName, ↓agNil, ↓agCons, ↓agTup, ↓sPar, ↓sFor, ↓aV, ↓lk, ↓aC, ↓aOp, ↓aUn, ↓aCall, ↓aNil, ↓aCons, ↓aIf, ↓aTest, ↓aAnd, ↓aOr, ↓aNot, ↓aAndV, ↓aOrV, ↓aNotV, ↓aI, ↓aI0, ↓aAdd, ↓aNeg, ↓aIsN, ↓isNone, ↓aTup, ↓purs, ↓aLst, ↓aLstO, ↓aIx, ↓gi0, ↓gi1, ↓gi2, ↓giN, ↓a1, ↓aLen, ↓aAbs, ↓aInt, ↓aStr, ↓aIsi, ↓btOf, ↓BT.isB, ↓aYes, ↓aiSeq, wipeL, ↓startL, List.map, List.set, List.replicate, List.length, List.append, List.cons_append, List.nil_append, ↓aMt, ↓isLs, ↓aLc, ↓aLcO, Bool.false_bne, Bool.true_bne, Bool.xor_false, Bool.false_xor, Bool.true_xor, Bool.not_true, Bool.not_false, decide_eq_true_eq, if_true, if_false, ite_true, ite_false, reduceIte, Bool.false_eq_true, List.getElem?_cons_zero, List.getElem?_cons_succ, ↓aLt, ↓aLe, ↓aGt, ↓aGe, ↓aSub, ↓aMul, ↓aDiv, ↓aMod, ↓aPow, true_and, and_true]
      simpa only [↓sNext, ↓sSeq_run, ↓sBreak, ↓sCont, ↓sDrop, ↓sRet, ↓sRetN, ↓sIf, ↓sAsg, ↓agName, ↓agNil, ↓agCons, ↓agTup, ↓sPar, ↓sFor, ↓aV, ↓lk, ↓aC, ↓aOp, ↓aUn, ↓aCall, ↓aNil, ↓aCons, ↓aIf, ↓aTest, ↓aAnd, ↓aOr, ↓aNot, ↓aAndV, ↓aOrV, ↓aNotV, ↓aI, ↓aI0, ↓aAdd, ↓aNeg, ↓aIsN, ↓isNone, ↓aTup, ↓purs, ↓aLst, ↓aLstO, ↓aIx, ↓gi0, ↓gi1, ↓gi2, ↓giN, ↓a1, ↓aLen, ↓aAbs, ↓aInt, ↓aStr, ↓aIsi, ↓btOf, ↓BT.isB, ↓aYes, ↓aiSeq, wipeL, ↓startL, List.map, List.set, List.replicate, List.length, List.append, List.cons_append, List.nil_append, ↓aMt, ↓isLs, ↓aLc, ↓aLcO, Bool.false_bne, Bool.true_bne, Bool.xor_false, Bool.false_xor, Bool.true_xor, Bool.not_true, Bool.not_false, decide_eq_true_eq, if_true, if_false, ite_true, ite_false, reduceIte, Bool.false_eq_true, List.getElem?_cons_zero, List.getElem?_cons_succ, ↓aLt, ↓aLe, ↓aGt, ↓aGe, ↓aSub, ↓aMul, ↓aDiv, ↓aMod, ↓aPow, true_and, and_true] using fin
def F_numbers_in : FT := fun as S Post => ∃ m : List Nat, as = [.p (.lst (m.map fun n => .str (dg n)))] ∧ GoodM m ∧ Post (.p (.lst (m.map fun n => .int (n : Nat)))) S
theorem len_numbers_in : ∀ as S Post, F_numbers_in as S Post → as.length = ["words"].length := by
  rintro _ S Post ⟨n, rfl, _⟩; rfl
theorem dat_int {n : Nat} {i : Int} : Dat n (.int i) := by cases n <;> trivial
theorem none_not_in (m : List Nat) : ((m.map fun n => P.int (n : Nat)).any fun z => P.eqb z .non) = false := by
  rw [List.any_eq_false]
  intro x hx
  obtain ⟨n, _, rfl⟩ := List.mem_map.mp hx
  simp [P.eqb, P.py, PyData.eqv]
theorem cl_numbers_in (p : Pre K mg "numbers_in" st_numbers_in) (c_number_in : Cl Pg w K mg base 1 "number_in" st_number_in ["word"] F_number_in) : Cl Pg w K mg base 2 "numbers_in" st_numbers_in ["words"] F_numbers_in := by
  refine p.cl (fun _ _ _ _ _ _ us hl => match us, hl with | [_], _ => rfl) fun f fd F => ?_
  refine fun_ok F sc_numbers_in len_numbers_in (fun cdv A outer s H E gd hr => have hu := hu65 hr; (jb_cons (js_setLc 1 rfl sc_numbers_in.nd (sw_true rfl rfl rfl (by decide +kernel)) (ji_seq (je_var 0)) (blkOk_by (N := ns_numbers_in) (sc := defScope st_numbers_in) (own := [("word", 2)]) (by decide +kernel)) (fun _ _ _ _ _ => (jgo_name 2 sc_numbers_in.nd)) (fun _ _ _ _ _ => jts_nil) (fun _ _ _ _ _ => (je_own c_number_in gd hr (ja_cons (je_var 2) ja_nil))))
    (jb_one (js_ret (je_if (jt_in hu je_non (je_var 1)) je_non (je_var 1)))))) ?_
  rintro as S Post hB ⟨m, rfl, hm, h⟩
  simp only [↓sNext, ↓sSeq_run, ↓sBreak, ↓sCont, ↓sDrop, ↓sRet, ↓sRetN, ↓sIf, ↓sAsg, ↓agName, ↓agNil, ↓agCons, ↓agTup, ↓sPar, ↓sFor, ↓aV, ↓lk, ↓aC, ↓aOp, ↓aUn, ↓aCall, ↓aNil, ↓aCons, ↓aIf, ↓aTest, ↓aAnd, ↓aOr, ↓aNot, ↓aAndV, ↓aOrV, ↓aNotV, ↓aI, ↓aI0, ↓aAdd, ↓aNeg, ↓aIsN, ↓isNone, ↓aTup, ↓purs, ↓aLst, ↓aLstO, ↓aIx, ↓gi0, ↓gi1, ↓gi2, ↓giN, ↓a1, ↓aLen, ↓aAbs, ↓aInt, ↓aStr, ↓aIsi, ↓btOf, ↓BT.isB, ↓aYes, ↓aiSeq, wipeL, ↓startL, List.map, List.set, List.replicate, List.length, List.append, List.cons_append, List.nil_append, ↓aMt, ↓isLs, ↓aLc, ↓aLcO, Bool.false_bne, Bool.true_bne, Bool.xor_false, Bool.false_xor, Bool.true_xor, Bool.not_true, Bool.not_false, decide_eq_true_eq, if_true, if_false, ite_true, ite_false, reduceIte, Bool.false_eq_true, List.getElem?_cons_zero, List.getElem?_cons_succ, ↓aLt, ↓aLe, ↓aGt, ↓aGe, ↓aSub, ↓aMul, ↓aDiv, ↓aMod, ↓aPow, true_and, and_true]
  refine lc_allP m (fun n => .str (dg n)) (fun n => .int (n : Nat)) (fun n hn Q hQ => ?_) ?_
  · simp only [↓sNext, ↓sSeq_run, ↓sBreak, ↓sCont, ↓sDrop, ↓sRet, ↓sRetN, ↓sIf, ↓sAsg, ↓agName, ↓agNil, ↓agCons, ↓agTup, ↓sPar, ↓sFor, ↓aV, ↓lk, ↓aC, ↓aOp, ↓aUn, ↓aCall, ↓aNil, ↓aCons, ↓aIf, ↓aTest, ↓aAnd, ↓aOr, ↓aNot, ↓aAndV, ↓aOrV, ↓aNotV, ↓aI, ↓aI0, ↓aAdd, ↓aNeg, ↓aIsN, ↓isNone, ↓aTup, ↓purs, ↓aLst, ↓aLstO, ↓aIx, ↓gi0, ↓gi1, ↓gi2, ↓giN, ↓a1, ↓aLen, ↓aAbs, ↓aInt, ↓aStr, ↓aIsi, ↓btOf, ↓BT.isB, ↓aYes, ↓aiSeq, wipeL, ↓startL, List.map, List.set, List.replicate, List.length, List.append, List.cons_append, List.nil_append, ↓aMt, ↓isLs, ↓aLc, ↓aLcO, Bool.false_bne, Bool.true_bne, Bool.xor_false, Bool.false_xor, Bool.true_xor, Bool.not_true, Bool.not_false, decide_eq_true_eq, if_true, if_false, ite_true, ite_false, reduceIte, Bool.false_eq_true, List.getElem?_cons_zero, List.getElem?_cons_succ, ↓aLt, ↓aLe, ↓aGt, ↓aGe, ↓aSub, ↓aMul, ↓aDiv, ↓aMod, ↓aPow, true_and, and_true]
    exact ⟨n, rfl, hm.2 n hn, hQ⟩
  · refine ⟨_, rfl, ?_⟩
    simp only [aIn]
    refine ⟨_, _, rfl, rfl, trivial, fun y hy => ?_, ?_⟩
    · obtain ⟨n, _, rfl⟩ := List.mem_map.mp hy
      exact dat_int
    · rw [none_not_in]
      simp only [↓sNext, ↓sSeq_run, ↓sBreak, ↓sCont, ↓sDrop, ↓sRet, ↓sRetN, ↓sIf, ↓sAsg, ↓agName, ↓agNil, ↓agCons, ↓agTup, ↓sPar, ↓sFor, ↓aV, ↓lk, ↓aC, ↓aOp, ↓aUn, ↓aCall, ↓aNil, ↓aCons, ↓aIf, ↓aTest, ↓aAnd, ↓aOr, ↓aNot, ↓aAndV, ↓aOrV, ↓aNotV, ↓aI, ↓aI0, ↓aAdd, ↓aNeg, ↓aIsN, ↓isNone, ↓aTup, ↓purs, ↓aLst, ↓aLstO, ↓aIx, ↓gi0, ↓gi1, ↓gi2, ↓giN, ↓a1, ↓aLen, ↓aAbs, ↓aInt, ↓aStr, ↓aIsi, ↓btOf, ↓BT.isB, ↓aYes, ↓aiSeq, wipeL, ↓startL, List.map, List.set, List.replicate, List.length, List.append, List.cons_append, List.nil_append, ↓aMt, ↓isLs, ↓aLc, ↓aLcO, Bool.false_bne, Bool.true_bne, Bool.xor_false, Bool.false_xor, Bool.true_xor, Bool.not_true, Bool.not_false, decide_eq_true_eq, if_true, if_false, ite_true, ite_false, reduceIte, Bool.false_eq_true, List.getElem?_cons_zero, List.getElem?_cons_succ, ↓aLt, ↓aLe, ↓aGt, ↓aGe, ↓aSub, ↓aMul, ↓aDiv, ↓aMod, ↓aPow, true_and, and_true]
      exact .inl h
theorem split_wd {m : List Nat} (hm : m ≠ []) : Txt.split (wd m) "." = m.map dg := by
  unfold wd
  refine TL.split_join tl_dot (by decide +kernel) (fun e => hm (List.map_eq_nil_iff.mp e)) fun p hp => ?_
  obtain ⟨n, _, rfl⟩ := List.mem_map.mp hp
  rw [tl_dg]
  exact TL.numL_free (by decide)
def F_mark_in : FT := fun as S Post => ∃ m : List Nat, as = [.p (.str (wd m))] ∧ GoodM m ∧ m ≠ [] ∧ Post (.p (mkP m)) S
theorem len_mark_in : ∀ as S Post, F_mark_in as S Post → as.length = ["word"].length := by
  rintro _ S Post ⟨n, rfl, _⟩; rfl
theorem cl_mark_in (p : Pre K mg "mark_in" st_mark_in) (z_tuple : mg "tuple" = none) {t_POINT : Tok} (m_POINT : mg "POINT" = some (.str "." t_POINT)) (c_numbers_in : Cl Pg w K mg base 2 "numbers_in" st_numbers_in ["words"] F_numbers_in) : Cl Pg w K mg base 3 "mark_in" st_mark_in ["word"] F_mark_in := by
  refine p.cl (fun _ _ _ _ _ _ us hl => match us, hl with | [_], _ => rfl) fun f fd F => ?_
  refine fun_ok F sc_mark_in len_mark_in (fun cdv A outer s H E gd hr => have hu := hu65 hr; (jb_cons (js_set 1 sc_mark_in.nd (je_own c_numbers_in gd hr (ja_cons (je_split (je_var 0) (je_glob (fun _ => .str _) (by rfl) m_POINT ⟨_, rfl⟩)) ja_nil)))
    (jb_one (js_ret (je_if (jt_isN (je_var 1)) je_non (je_tuple (by rfl) z_tuple (je_var 1))))))) ?_
  rintro as S Post hB ⟨m, rfl, hm, hne, h⟩
  simp only [↓sNext, ↓sSeq_run, ↓sBreak, ↓sCont, ↓sDrop, ↓sRet, ↓sRetN, ↓sIf, ↓sAsg, ↓agName, ↓agNil, ↓agCons, ↓agTup, ↓sPar, ↓sFor, ↓aV, ↓lk, ↓aC, ↓aOp, ↓aUn, ↓aCall, ↓aNil, ↓aCons, ↓aIf, ↓aTest, ↓aAnd, ↓aOr, ↓aNot, ↓aAndV, ↓aOrV, ↓aNotV, ↓aI, ↓aI0, ↓aAdd, ↓aNeg, ↓aIsN, ↓isNone, ↓aTup, ↓purs, ↓aLst, ↓aLstO, ↓aIx, ↓gi0, ↓gi1, ↓gi2, ↓giN, ↓a1, ↓aLen, ↓aAbs, ↓aInt, ↓aStr, ↓aIsi, ↓btOf, ↓BT.isB, ↓aYes, ↓aiSeq, wipeL, ↓startL, List.map, List.set, List.replicate, List.length, List.append, List.cons_append, List.nil_append, ↓aMt, ↓isLs, ↓aLc, ↓aLcO, Bool.false_bne, Bool.true_bne, Bool.xor_false, Bool.false_xor, Bool.true_xor, Bool.not_true, Bool.not_false, decide_eq_true_eq, if_true, if_false, ite_true, ite_false, reduceIte, Bool.false_eq_true, List.getElem?_cons_zero, List.getElem?_cons_succ, ↓aLt, ↓aLe, ↓aGt, ↓aGe, ↓aSub, ↓aMul, ↓aDiv, ↓aMod, ↓aPow, true_and, and_true, aSplit]
  have h1 := wd_len hm
  rw [split_wd hne]
  refine ⟨by rw [len_dot]; rfl, small_sl (by omega), by rw [List.length_map]; exact small_sl (by have := hm.1; omega), m, by rw [List.map_map]; rfl, hm, ?_⟩
  exact ⟨_, rfl, .inl h⟩
theorem split_row {r : List (List Nat)} (hr : r ≠ []) : Txt.split (Txt.join " " (r.map wd)) " " = r.map wd := by
  refine TL.split_join tl_sp (by decide +kernel) (fun e => hr (List.map_eq_nil_iff.mp e)) fun p hp => ?_
  obtain ⟨m, _, rfl⟩ := List.mem_map.mp hp
  intro hc
  unfold wd at hc
  rw [tl_join', tl_dot] at hc
  rcases joinL_mem hc with h | ⟨q, hq, h⟩
  · simp at h
  · obtain ⟨x, hx, rfl⟩ := List.mem_map.mp hq
    obtain ⟨n, _, rfl⟩ := List.mem_map.mp hx
    rw [tl_dg] at h
    exact TL.numL_free (n := n) (s := 32) (by decide) h
theorem head_num (n : Nat) : ∃ c r, TL.numL n = c :: r ∧ c ≠ 45 := by
  cases e : TL.numL n with
  | nil => exact absurd e (TL.numL_ne n)
  | cons c r => exact ⟨c, r, rfl, fun h => TL.numL_free (n := n) (s := 45) (by decide) (by rw [e, h]; simp)⟩
theorem joinL_head {s : List Nat} {c : Nat} {r : List Nat} : ∀ {ps : List (List Nat)}, ∃ z, TL.joinL s ((c :: r) :: ps) = c :: z
  | [] => ⟨r, rfl⟩
  | p :: ps => ⟨_, rfl⟩
theorem row_not_dash {r : List (List Nat)} (hr : r ≠ []) (hm : ∀ m ∈ r, m ≠ []) : (Txt.join " " (r.map wd) == ("-" : Str)) = false := by
  rw [beq_eq_false_iff_ne]
  intro e
  have e := congrArg TL.tl e
  rw [tl_join', show TL.tl ("-" : Str) = [45] by decide +kernel] at e
  cases r with
  | nil => exact hr rfl
  | cons m r =>
    have hm0 := hm m (by simp)
    cases m with
    | nil => exact hm0 rfl
    | cons n m =>
      obtain ⟨c, q, e1, hc⟩ := head_num n
      have e2 : ∃ z, TL.tl (wd (n :: m)) = c :: z := by
        unfold wd
        rw [tl_join', List.map_cons, List.map_cons, tl_dg, e1]
        exact joinL_head
      obtain ⟨z, e2⟩ := e2
      rw [List.map_cons, List.map_cons, e2] at e
      obtain ⟨y, e3⟩ := joinL_head (s := TL.tl (" " : Str)) (c := c) (r := z) (ps := (r.map wd).map TL.tl)
      rw [e3] at e
      injection e with e4
      exact hc e4
def F_read_row : FT := fun as S Post => ∃ (T : List (Nat × P)) (r : List (List Nat)), as = [.p (towP T), .p (.str (rowT r))] ∧ GoodR r ∧ T ≠ [] ∧ (∀ m ∈ r, fits T m) ∧ Post (.p (rowP r)) S
theorem len_read_row : ∀ as S Post, F_read_row as S Post → as.length = ["tower", "text"].length := by
  rintro _ S Post ⟨_, n, rfl, _⟩; rfl
theorem fits.ne {T : List (Nat × P)} {m : List Nat} (h : fits T m) (hT : T ≠ []) : m ≠ [] := fun e => by
  have := h.len
  rw [e] at this
  cases T with
  | nil => exact hT rfl
  | cons _ _ => cases this
theorem cl_read_row (p : Pre K mg "read_row" st_read_row) (z_all : mg "all" = none) (z_isinstance : mg "isinstance" = none) (z_str : mg "str" = none) (z_tuple : mg "tuple" = none) {t_BLANK : Tok} (m_BLANK : mg "BLANK" = some (.str " " t_BLANK)) {t_NOTHING : Tok} (m_NOTHING : mg "NOTHING" = some (.str "-" t_NOTHING)) (c_is_mark : Cl Pg w K mg base 2 "is_mark" st_is_mark ["tower", "thing"] F_is_mark) (c_mark_in : Cl Pg w K mg base 3 "mark_in" st_mark_in ["word"] F_mark_in) : Cl Pg w K mg base 4 "read_row" st_read_row ["tower", "text"] F_read_row := by
  refine p.cl (fun _ _ _ _ _ _ us hl => match us, hl with | [_, _], _ => rfl) fun f fd F => ?_
  refine fun_ok F sc_read_row len_read_row (fun cdv A outer s H E gd hr => have hu := hu65 hr; (jb_cons (js_if (jt_not (jt_val (je_isi .str (by decide +kernel) (by decide) (by decide) (by rfl) z_isinstance (by rfl) z_str (je_var 1)))) jb_never jb_nil)
    (jb_cons (js_if (jt_eq hr (je_var 1) (je_glob (fun _ => .str _) (by rfl) m_NOTHING ⟨_, rfl⟩)) (jb_one (js_ret (je_tup ja_nil))) jb_nil)
    (jb_cons (js_setLc 2 rfl sc_read_row.nd (sw_true rfl rfl rfl (by decide +kernel)) (ji_seq (je_split (je_var 1) (je_glob (fun _ => .str _) (by rfl) m_BLANK ⟨_, rfl⟩))) (blkOk_by (N := ns_read_row) (sc := defScope st_read_row) (own := [("word", 3)]) (by decide +kernel)) (fun _ _ _ _ _ => (jgo_name 3 sc_read_row.nd)) (fun _ _ _ _ _ => jts_nil) (fun _ _ _ _ _ => (je_own c_mark_in gd hr (ja_cons (je_var 3) ja_nil))))
    (jb_cons (js_if (jt_not (jt_val (je_all (by rfl) (by rfl) z_all (je_lc rfl sc_read_row.nd (ji_seq (je_var 2)) (blkOk_by (N := ns_read_row) (sc := defScope st_read_row) (own := [("mark", 4)]) (by decide +kernel)) (fun _ _ _ _ _ => (jgo_name 4 sc_read_row.nd)) (fun _ _ _ _ _ => jts_nil) (fun _ _ _ _ _ => (je_own c_is_mark gd hr (ja_cons (je_var 0) (ja_cons (je_var 4) ja_nil)))))))) jb_never jb_nil)
    (jb_one (js_ret (je_tuple (by rfl) z_tuple (je_var 2))))))))) ?_
  rintro as S Post hB ⟨T, r, rfl, hr, hT, hf, h⟩
  simp only [↓sNext, ↓sSeq_run, ↓sBreak, ↓sCont, ↓sDrop, ↓sRet, ↓sRetN, ↓sIf, ↓sAsg, ↓agName, ↓agNil, ↓agCons, ↓agTup, ↓sPar, ↓sFor, ↓aV, ↓lk, ↓aC, ↓aOp, ↓aUn, ↓aCall, ↓aNil, ↓aCons, ↓aIf, ↓aTest, ↓aAnd, ↓aOr, ↓aNot, ↓aAndV, ↓aOrV, ↓aNotV, ↓aI, ↓aI0, ↓aAdd, ↓aNeg, ↓aIsN, ↓isNone, ↓aTup, ↓purs, ↓aLst, ↓aLstO, ↓aIx, ↓gi0, ↓gi1, ↓gi2, ↓giN, ↓a1, ↓aLen, ↓aAbs, ↓aInt, ↓aStr, ↓aIsi, ↓btOf, ↓BT.isB, ↓aYes, ↓aiSeq, wipeL, ↓startL, List.map, List.set, List.replicate, List.length, List.append, List.cons_append, List.nil_append, ↓aMt, ↓isLs, ↓aLc, ↓aLcO, Bool.false_bne, Bool.true_bne, Bool.xor_false, Bool.false_xor, Bool.true_xor, Bool.not_true, Bool.not_false, decide_eq_true_eq, if_true, if_false, ite_true, ite_false, reduceIte, Bool.false_eq_true, List.getElem?_cons_zero, List.getElem?_cons_succ, ↓aLt, ↓aLe, ↓aGt, ↓aGe, ↓aSub, ↓aMul, ↓aDiv, ↓aMod, ↓aPow, true_and, and_true, aEq, aSplit]
  cases er : r with
  | nil =>
    subst er
    have e : (rowT [] == ("-" : Str)) = true := by decide +kernel
    simp only [e, ↓sNext, ↓sSeq_run, ↓sBreak, ↓sCont, ↓sDrop, ↓sRet, ↓sRetN, ↓sIf, ↓sAsg, ↓agName, ↓agNil, ↓agCons, ↓agTup, ↓sPar, ↓sFor, ↓aV, ↓lk, ↓aC, ↓aOp, ↓aUn, ↓aCall, ↓aNil, ↓aCons, ↓aIf, ↓aTest, ↓aAnd, ↓aOr, ↓aNot, ↓aAndV, ↓aOrV, ↓aNotV, ↓aI, ↓aI0, ↓aAdd, ↓aNeg, ↓aIsN, ↓isNone, ↓aTup, ↓purs, ↓aLst, ↓aLstO, ↓aIx, ↓gi0, ↓gi1, ↓gi2, ↓giN, ↓a1, ↓aLen, ↓aAbs, ↓aInt, ↓aStr, ↓aIsi, ↓btOf, ↓BT.isB, ↓aYes, ↓aiSeq, wipeL, ↓startL, List.map, List.set, List.replicate, List.length, List.append, List.cons_append, List.nil_append, ↓aMt, ↓isLs, ↓aLc, ↓aLcO, Bool.false_bne, Bool.true_bne, Bool.xor_false, Bool.false_xor, Bool.true_xor, Bool.not_true, Bool.not_false, decide_eq_true_eq, if_true, if_false, ite_true, ite_false, reduceIte, Bool.false_eq_true, List.getElem?_cons_zero, List.getElem?_cons_succ, ↓aLt, ↓aLe, ↓aGt, ↓aGe, ↓aSub, ↓aMul, ↓aDiv, ↓aMod, ↓aPow, true_and, and_true, sNever]
    exact .inl h
  | cons m0 r0 =>
    have hne : r ≠ [] := by rw [er]; exact List.cons_ne_nil _ _
    rw [← er]
    have e0 : rowT r = Txt.join " " (r.map wd) := by unfold rowT; rw [if_neg (by rw [er]; exact Bool.false_ne_true)]
    have e : (rowT r == ("-" : Str)) = false := by rw [e0]; exact row_not_dash hne fun m hm => (hf m hm).ne hT
    simp only [e, ↓sNext, ↓sSeq_run, ↓sBreak, ↓sCont, ↓sDrop, ↓sRet, ↓sRetN, ↓sIf, ↓sAsg, ↓agName, ↓agNil, ↓agCons, ↓agTup, ↓sPar, ↓sFor, ↓aV, ↓lk, ↓aC, ↓aOp, ↓aUn, ↓aCall, ↓aNil, ↓aCons, ↓aIf, ↓aTest, ↓aAnd, ↓aOr, ↓aNot, ↓aAndV, ↓aOrV, ↓aNotV, ↓aI, ↓aI0, ↓aAdd, ↓aNeg, ↓aIsN, ↓isNone, ↓aTup, ↓purs, ↓aLst, ↓aLstO, ↓aIx, ↓gi0, ↓gi1, ↓gi2, ↓giN, ↓a1, ↓aLen, ↓aAbs, ↓aInt, ↓aStr, ↓aIsi, ↓btOf, ↓BT.isB, ↓aYes, ↓aiSeq, wipeL, ↓startL, List.map, List.set, List.replicate, List.length, List.append, List.cons_append, List.nil_append, ↓aMt, ↓isLs, ↓aLc, ↓aLcO, Bool.false_bne, Bool.true_bne, Bool.xor_false, Bool.false_xor, Bool.true_xor, Bool.not_true, Bool.not_false, decide_eq_true_eq, if_true, if_false, ite_true, ite_false, reduceIte, Bool.false_eq_true, List.getElem?_cons_zero, List.getElem?_cons_succ, ↓aLt, ↓aLe, ↓aGt, ↓aGe, ↓aSub, ↓aMul, ↓aDiv, ↓aMod, ↓aPow, true_and, and_true, sNever]
    have hl := row_len hr
    rw [e0] at hl ⊢
    rw [split_row hne]
    refine ⟨by rw [len_sp]; rfl, small_sl (by omega), by rw [List.length_map]; exact small_sl (by have := hr.1; omega), ?_⟩
    rw [show (r.map wd).map P.str = r.map (P.str ∘ wd) from List.map_map]
    refine lc_allP r (P.str ∘ wd) mkP (fun m hm Q hQ => ?_) ?_
    · simp only [↓sNext, ↓sSeq_run, ↓sBreak, ↓sCont, ↓sDrop, ↓sRet, ↓sRetN, ↓sIf, ↓sAsg, ↓agName, ↓agNil, ↓agCons, ↓agTup, ↓sPar, ↓sFor, ↓aV, ↓lk, ↓aC, ↓aOp, ↓aUn, ↓aCall, ↓aNil, ↓aCons, ↓aIf, ↓aTest, ↓aAnd, ↓aOr, ↓aNot, ↓aAndV, ↓aOrV, ↓aNotV, ↓aI, ↓aI0, ↓aAdd, ↓aNeg, ↓aIsN, ↓isNone, ↓aTup, ↓purs, ↓aLst, ↓aLstO, ↓aIx, ↓gi0, ↓gi1, ↓gi2, ↓giN, ↓a1, ↓aLen, ↓aAbs, ↓aInt, ↓aStr, ↓aIsi, ↓btOf, ↓BT.isB, ↓aYes, ↓aiSeq, wipeL, ↓startL, List.map, List.set, List.replicate, List.length, List.append, List.cons_append, List.nil_append, ↓aMt, ↓isLs, ↓aLc, ↓aLcO, Bool.false_bne, Bool.true_bne, Bool.xor_false, Bool.false_xor, Bool.true_xor, Bool.not_true, Bool.not_false, decide_eq_true_eq, if_true, if_false, ite_true, ite_false, reduceIte, Bool.false_eq_true, List.getElem?_cons_zero, List.getElem?_cons_succ, ↓aLt, ↓aLe, ↓aGt, ↓aGe, ↓aSub, ↓aMul, ↓aDiv, ↓aMod, ↓aPow, true_and, and_true]
      exact ⟨m, rfl, hr.2 m hm, (hf m hm).ne hT, hQ⟩
    · refine ⟨_, rfl, ?_⟩
      refine lc_allP r mkP (fun _ => .bl true) (fun m hm Q hQ => ?_) ?_
      · simp only [↓sNext, ↓sSeq_run, ↓sBreak, ↓sCont, ↓sDrop, ↓sRet, ↓sRetN, ↓sIf, ↓sAsg, ↓agName, ↓agNil, ↓agCons, ↓agTup, ↓sPar, ↓sFor, ↓aV, ↓lk, ↓aC, ↓aOp, ↓aUn, ↓aCall, ↓aNil, ↓aCons, ↓aIf, ↓aTest, ↓aAnd, ↓aOr, ↓aNot, ↓aAndV, ↓aOrV, ↓aNotV, ↓aI, ↓aI0, ↓aAdd, ↓aNeg, ↓aIsN, ↓isNone, ↓aTup, ↓purs, ↓aLst, ↓aLstO, ↓aIx, ↓gi0, ↓gi1, ↓gi2, ↓giN, ↓a1, ↓aLen, ↓aAbs, ↓aInt, ↓aStr, ↓aIsi, ↓btOf, ↓BT.isB, ↓aYes, ↓aiSeq, wipeL, ↓startL, List.map, List.set, List.replicate, List.length, List.append, List.cons_append, List.nil_append, ↓aMt, ↓isLs, ↓aLc, ↓aLcO, Bool.false_bne, Bool.true_bne, Bool.xor_false, Bool.false_xor, Bool.true_xor, Bool.not_true, Bool.not_false, decide_eq_true_eq, if_true, if_false, ite_true, ite_false, reduceIte, Bool.false_eq_true, List.getElem?_cons_zero, List.getElem?_cons_succ, ↓aLt, ↓aLe, ↓aGt, ↓aGe, ↓aSub, ↓aMul, ↓aDiv, ↓aMod, ↓aPow, true_and, and_true]
        exact ⟨T, m, rfl, hf m hm, hQ⟩
      · refine ⟨_, rfl, r.map fun _ => true, by show List.map _ _ = _; rw [List.map_map]; rfl, ?_⟩
        rw [all_true]
        simp only [↓sNext, ↓sSeq_run, ↓sBreak, ↓sCont, ↓sDrop, ↓sRet, ↓sRetN, ↓sIf, ↓sAsg, ↓agName, ↓agNil, ↓agCons, ↓agTup, ↓sPar, ↓sFor, ↓aV, ↓lk, ↓aC, ↓aOp, ↓aUn, ↓aCall, ↓aNil, ↓aCons, ↓aIf, ↓aTest, ↓aAnd, ↓aOr, ↓aNot, ↓aAndV, ↓aOrV, ↓aNotV, ↓aI, ↓aI0, ↓aAdd, ↓aNeg, ↓aIsN, ↓isNone, ↓aTup, ↓purs, ↓aLst, ↓aLstO, ↓aIx, ↓gi0, ↓gi1, ↓gi2, ↓giN, ↓a1, ↓aLen, ↓aAbs, ↓aInt, ↓aStr, ↓aIsi, ↓btOf, ↓BT.isB, ↓aYes, ↓aiSeq, wipeL, ↓startL, List.map, List.set, List.replicate, List.length, List.append, List.cons_append, List.nil_append, ↓aMt, ↓isLs, ↓aLc, ↓aLcO, Bool.false_bne, Bool.true_bne, Bool.xor_false, Bool.false_xor, Bool.true_xor, Bool.not_true, Bool.not_false, decide_eq_true_eq, if_true, if_false, ite_true, ite_false, reduceIte, Bool.false_eq_true, List.getElem?_cons_zero, List.getElem?_cons_succ, ↓aLt, ↓aLe, ↓aGt, ↓aGe, ↓aSub, ↓aMul, ↓aDiv, ↓aMod, ↓aPow, true_and, and_true]
        exact ⟨_, rfl, .inl h⟩
end
end Lw
namespace Lw
open PySem PySem.Spec PyProof.Rows L2 Am
section
variable {Pg : Program} {w : World} {K : PySem.W.Frag} {mg : Str → Option Value} {base : Heap}
/-! ### the pot -/
def PotO (o : O) (c : Int) : Prop := ∃ a s : Int, o = .lst [.p (.int a), .p (.int s), .p (.int c)] ∧ 0 ≤ a ∧ a < 10 ^ 300 ∧ 0 ≤ s ∧ s < 2 ^ 62 ∧ 0 ≤ c
theorem PotO.bel {o : O} {c : Int} (h : PotO o c) (n : Nat) : o.bel n := by
  obtain ⟨a, s, rfl, _⟩ := h
  intro x hx
  have hx : x = .p (.int a) ∨ x = .p (.int s) ∨ x = .p (.int c) := by simpa using hx
  rcases hx with rfl | rfl | rfl <;> trivial
theorem pow300 : (10 : Int) ^ 300 < 2 ^ 1000 := by decide +kernel
theorem powW1 : CPowW 10 60 := ⟨by decide, by decide +kernel⟩
theorem powW2 : CPowW ((10 : Int) ^ (60 : Int).toNat) 5 := ⟨by decide, by decide +kernel⟩
theorem powW3 : CPowW 10 18 := ⟨by decide, by decide +kernel⟩
theorem pow_eq : ((10 : Int) ^ (60 : Int).toNat) ^ (5 : Int).toNat = 10 ^ 300 := by decide +kernel
theorem pow18_eq : (10 : Int) ^ (18 : Int).toNat = 1000000000000000000 := by decide +kernel
theorem pow300_pos : (0 : Int) < 10 ^ 300 := by decide +kernel
theorem p1000 : (2 : Int) ^ 1000 = ((2 ^ 1000 : Nat) : Int) := by decide +kernel
theorem n1000 : (2 : Nat) ^ 1000 ≤ 2 ^ 2000 := Nat.pow_le_pow_right (by decide) (by decide)
theorem big_ok {x : Int} (h0 : 0 ≤ x) (h : x < 10 ^ 300) : x.natAbs < 2 ^ 2000 := by
  refine Nat.lt_of_lt_of_le ?_ n1000
  have h1 := Int.lt_trans h pow300
  rw [p1000] at h1
  generalize (2 : Nat) ^ 1000 = q at h1 ⊢
  omega
def F_law_pot : FT := fun as S Post => ∃ (ns : List Int) (i : Nat), as = [.p (.fz (ns.map .int)), .p (.int (i : Nat))] ∧ i < 1000000 ∧ ∀ o, PotO o 0 → Post (.own S.length) (S ++ [o])
theorem len_law_pot : ∀ as S Post, F_law_pot as S Post → as.length = ["_law_script", "_law_nth"].length := by
  rintro _ S Post ⟨_, n, rfl, _⟩; rfl
theorem pot_ok {x : Int} {i : Nat} {b : Prop} [Decidable b] (hi : i < 1000000) : PotO (.lst [.p (.int ((x.natAbs : Nat) % (10 ^ 300) * (if b then 1 else 0))), .p (.int (x % 2305843009213693951 + 104729 * (i : Nat) + 7)), .p (.int 0)]) 0 := by
  have h1 := Int.emod_nonneg (x.natAbs : Int) (Int.ne_of_gt pow300_pos)
  have h2 := Int.emod_lt_of_pos (x.natAbs : Int) pow300_pos
  have h3 := Int.emod_nonneg x (b := 2305843009213693951) (by decide)
  have h4 := Int.emod_lt_of_pos x (b := 2305843009213693951) (by decide)
  refine ⟨_, _, rfl, ?_, ?_, by omega, by omega, Int.le_refl _⟩
  · split
    · rw [Int.mul_one]; exact h1
    · rw [Int.mul_zero]; exact Int.le_refl _
  · split
    · rw [Int.mul_one]; exact h2
    · rw [Int.mul_zero]; exact pow300_pos
theorem cl_law_pot (p : Pre K mg "_law_pot" st_law_pot) (z_abs : mg "abs" = none) (z_int : mg "int" = none) (z_len : mg "len" = none) : Cl Pg w K mg base 1 "_law_pot" st_law_pot ["_law_script", "_law_nth"] F_law_pot := by
  refine p.cl (fun _ _ _ _ _ _ us hl => match us, hl with | [_, _], _ => rfl) fun f fd F => ?_
  refine fun_ok F sc_law_pot len_law_pot (fun cdv A outer s H E gd hr => have hu := hu65 hr; (jb_cons (js_set 2 sc_law_pot.nd (je_if (jt_lt (je_var 1) (je_len (by rfl) z_len (je_var 0))) (je_ix (je_var 0) (je_var 1) (fun _ _ => rfl)) je_int))
    (jb_cons (js_set 3 sc_law_pot.nd (je_mul (je_mod (je_abs (by rfl) z_abs (je_var 2)) (je_pow (je_pow je_int je_int) je_int)) (je_intC (by rfl) z_int (je_ge (je_abs (by rfl) z_abs (je_var 2)) (je_pow je_int je_int)))))
    (jb_one (js_ret (je_lstO (ja_cons (je_var 3) (ja_cons (je_add (je_add (je_mod (je_var 2) je_int) (je_mul je_int (je_var 1))) je_int) (ja_cons je_int ja_nil))))))))) ?_
  rintro as S Post hB ⟨ns, i, rfl, hi, h⟩
  refine seq_then (fun L' S' => S' = S ∧ ∃ x : Int, L' = [some (.p (.fz (ns.map .int))), some (.p (.int (i : Nat))), some (.p (.int x)), none]) (fun L' S' ⟨e1, x, e2⟩ => ?_) (fun N hN => ?_)
  · subst e1 e2
    simp only [↓sNext, ↓sSeq_run, ↓sBreak, ↓sCont, ↓sDrop, ↓sRet, ↓sRetN, ↓sIf, ↓sAsg, ↓agName, ↓agNil, ↓agCons, ↓agTup, ↓sPar, ↓sFor, ↓aV, ↓lk, ↓aC, ↓aOp, ↓aUn, ↓aCall, ↓aNil, ↓aCons, ↓aIf, ↓aTest, ↓aAnd, ↓aOr, ↓aNot, ↓aAndV, ↓aOrV, ↓aNotV, ↓aI, ↓aI0, ↓aAdd, ↓aNeg, ↓aIsN, ↓isNone, ↓aTup, ↓purs, ↓aLst, ↓aLstO, ↓aIx, ↓gi0, ↓gi1, ↓gi2, ↓giN, ↓a1, ↓aLen, ↓aAbs, ↓aInt, ↓aStr, ↓aIsi, ↓btOf, ↓BT.isB, ↓aYes, ↓aiSeq, wipeL, ↓startL, List.map, List.set, List.replicate, List.length, List.append, List.cons_append, List.nil_append, ↓aMt, ↓isLs, ↓aLc, ↓aLcO, Bool.false_bne, Bool.true_bne, Bool.xor_false, Bool.false_xor, Bool.true_xor, Bool.not_true, Bool.not_false, decide_eq_true_eq, if_true, if_false, ite_true, ite_false, reduceIte, Bool.false_eq_true, List.getElem?_cons_zero, List.getElem?_cons_succ, ↓aLt, ↓aLe, ↓aGt, ↓aGe, ↓aSub, ↓aMul, ↓aDiv, ↓aMod, ↓aPow, true_and, and_true, pow_eq, pow18_eq]
    have h1 := Int.emod_nonneg (x.natAbs : Int) (Int.ne_of_gt pow300_pos)
    have h2 := Int.emod_lt_of_pos (x.natAbs : Int) pow300_pos
    refine ⟨powW1, powW2, pow300_pos, powW3, cmul_ok (big_ok h1 h2) ?_, by decide, cmul64 (by decide) (by omega), .inl (h _ (pot_ok hi))⟩
    split
    · exact Nat.lt_of_lt_of_le (by decide) p64
    · exact Nat.lt_of_lt_of_le (by decide) p64
  · simp only [↓sNext, ↓sSeq_run, ↓sBreak, ↓sCont, ↓sDrop, ↓sRet, ↓sRetN, ↓sIf, ↓sAsg, ↓agName, ↓agNil, ↓agCons, ↓agTup, ↓sPar, ↓sFor, ↓aV, ↓lk, ↓aC, ↓aOp, ↓aUn, ↓aCall, ↓aNil, ↓aCons, ↓aIf, ↓aTest, ↓aAnd, ↓aOr, ↓aNot, ↓aAndV, ↓aOrV, ↓aNotV, ↓aI, ↓aI0, ↓aAdd, ↓aNeg, ↓aIsN, ↓isNone, ↓aTup, ↓purs, ↓aLst, ↓aLstO, ↓aIx, ↓gi0, ↓gi1, ↓gi2, ↓giN, ↓a1, ↓aLen, ↓aAbs, ↓aInt, ↓aStr, ↓aIsi, ↓btOf, ↓BT.isB, ↓aYes, ↓aiSeq, wipeL, ↓startL, List.map, List.set, List.replicate, List.length, List.append, List.cons_append, List.nil_append, ↓aMt, ↓isLs, ↓aLc, ↓aLcO, Bool.false_bne, Bool.true_bne, Bool.xor_false, Bool.false_xor, Bool.true_xor, Bool.not_true, Bool.not_false, decide_eq_true_eq, if_true, if_false, ite_true, ite_false, reduceIte, Bool.false_eq_true, List.getElem?_cons_zero, List.getElem?_cons_succ, ↓aLt, ↓aLe, ↓aGt, ↓aGe, ↓aSub, ↓aMul, ↓aDiv, ↓aMod, ↓aPow, true_and, and_true]
    by_cases hl : i < ns.length
    · have e1 : ((i : Nat) : Int) < (ns.map P.int).length := by rw [List.length_map]; omega
      simp only [if_pos e1, List.getElem?_map, List.getElem?_eq_getElem hl, Option.map_some]
      exact hN _ _ ⟨rfl, _, rfl⟩
    · have e1 : ¬ ((i : Nat) : Int) < (ns.map P.int).length := by rw [List.length_map]; omega
      simp only [if_neg e1]
      exact hN _ _ ⟨rfl, _, rfl⟩
def F_law_take : FT := fun as S Post => ∃ (n : Nat) (up c : Int) (o : O), as = [.own n, .p (.int up)] ∧ S[n]? = some o ∧ PotO o c ∧ c < 1000000 ∧ 1 ≤ up ∧ up ≤ 1000000000 ∧ ∀ (v : Nat) (o' : O) (c' : Int), (v : Int) < up → PotO o' c' → c' ≤ c + 1 → Post (.p (.int (v : Nat))) (S.set n o')
theorem len_law_take : ∀ as S Post, F_law_take as S Post → as.length = ["_law_pot_here", "_law_upto"].length := by
  rintro _ S Post ⟨_, _, _, _, rfl, _⟩; rfl
def primes : List P := [.int 2147483647, .int 2147483629, .int 2147483587, .int 2147483579, .int 2147483563, .int 2147483549, .int 2147483543, .int 2147483497]
theorem prime_at {i : Int} (h0 : 0 ≤ i) (h8 : i < 8) : ∃ q : Int, gi primes i = some (.int q) ∧ 2147483000 < q ∧ q < 2147483648 := by
  have : i = 0 ∨ i = 1 ∨ i = 2 ∨ i = 3 ∨ i = 4 ∨ i = 5 ∨ i = 6 ∨ i = 7 := by omega
  rcases this with rfl | rfl | rfl | rfl | rfl | rfl | rfl | rfl <;> exact ⟨_, rfl, by decide, by decide⟩
theorem nat_cast {v up : Int} (h0 : 0 ≤ v) (h : v < up) : ∃ k : Nat, v = (k : Nat) ∧ ((k : Nat) : Int) < up := ⟨v.toNat, (Int.toNat_of_nonneg h0).symm, by rw [Int.toNat_of_nonneg h0]; exact h⟩
theorem cl_law_take (p : Pre K mg "_law_take" st_law_take) : Cl Pg w K mg base 1 "_law_take" st_law_take ["_law_pot_here", "_law_upto"] F_law_take := by
  refine p.cl (fun _ _ _ _ _ _ us hl => match us, hl with | [_, _], _ => rfl) fun f fd F => ?_
  refine fun_ok F sc_law_take len_law_take (fun cdv A outer s H E gd hr => have hu := hu65 hr; (jb_cons (js_if (jt_gt (je_ix (je_var 0) je_int (fun _ _ => rfl)) je_int) (jb_cons (js_set 2 sc_law_take.nd (je_mod (je_ix (je_var 0) je_int (fun _ _ => rfl)) (je_var 1)))
    (jb_cons (js_asg (je_div (je_ix (je_var 0) je_int (fun _ _ => rfl)) (je_var 1)) (jg_sub (je_var 0) je_int))
    (jb_one (js_ret (je_var 2))))) jb_nil)
    (jb_cons (js_asg (je_add (je_ix (je_var 0) je_int (fun _ _ => rfl)) je_int) (jg_sub (je_var 0) je_int))
    (jb_cons (js_set 3 sc_law_take.nd (je_lst (ja_cons je_int (ja_cons je_int (ja_cons je_int (ja_cons je_int (ja_cons je_int (ja_cons je_int (ja_cons je_int (ja_cons je_int ja_nil))))))))))
    (jb_cons (js_set 4 sc_law_take.nd (je_ix (je_var 3) (je_mod (je_ix (je_var 0) je_int (fun _ _ => rfl)) je_int) (fun _ _ => rfl)))
    (jb_cons (js_set 5 sc_law_take.nd (je_add (je_mod (je_mod (je_add (je_ix (je_var 0) je_int (fun _ _ => rfl)) (je_mul (je_mul je_int (je_ix (je_var 0) je_int (fun _ _ => rfl))) (je_ix (je_var 0) je_int (fun _ _ => rfl)))) (je_pow (je_var 4) je_int)) (je_var 4)) je_int))
    (jb_one (js_ret (je_mod (je_div (je_mod (je_mul (je_var 5) (je_add (je_mod (je_var 5) je_int) (je_ix (je_var 0) je_int (fun _ _ => rfl)))) (je_var 4)) je_int) (je_var 1)))))))))) ?_
  rintro as S Post hB ⟨n, up, c, o, rfl, hS, ⟨a, s, rfl, ha0, ha1, hs0, hs1, hc0⟩, hc, hu1, hu2, h⟩
  have hn : n < S.length := (List.getElem?_eq_some_iff.mp hS).1
  have hset : ∀ o, (S.set n o)[n]? = some o := fun o => List.getElem?_set_self hn
  have hup : 0 < up := by omega
  simp only [↓sNext, ↓sSeq_run, ↓sBreak, ↓sCont, ↓sDrop, ↓sRet, ↓sRetN, ↓sIf, ↓sAsg, ↓agName, ↓agNil, ↓agCons, ↓agTup, ↓sPar, ↓sFor, ↓aV, ↓lk, ↓aC, ↓aOp, ↓aUn, ↓aCall, ↓aNil, ↓aCons, ↓aIf, ↓aTest, ↓aAnd, ↓aOr, ↓aNot, ↓aAndV, ↓aOrV, ↓aNotV, ↓aI, ↓aI0, ↓aAdd, ↓aNeg, ↓aIsN, ↓isNone, ↓aTup, ↓purs, ↓aLst, ↓aLstO, ↓aIx, ↓gi0, ↓gi1, ↓gi2, ↓giN, ↓a1, ↓aLen, ↓aAbs, ↓aInt, ↓aStr, ↓aIsi, ↓btOf, ↓BT.isB, ↓aYes, ↓aiSeq, wipeL, ↓startL, List.map, List.set, List.replicate, List.length, List.append, List.cons_append, List.nil_append, ↓aMt, ↓isLs, ↓aLc, ↓aLcO, Bool.false_bne, Bool.true_bne, Bool.xor_false, Bool.false_xor, Bool.true_xor, Bool.not_true, Bool.not_false, decide_eq_true_eq, if_true, if_false, ite_true, ite_false, reduceIte, Bool.false_eq_true, List.getElem?_cons_zero, List.getElem?_cons_succ, ↓aLt, ↓aLe, ↓aGt, ↓aGe, ↓aSub, ↓aMul, ↓aDiv, ↓aMod, ↓aPow, true_and, and_true, agSub, hS, hset, ix30, ix32, List.set_set]
  by_cases hg : 0 < a
  · simp only [if_pos hg]
    refine ⟨hup, cdiv64 hup (by omega), ?_⟩
    obtain ⟨k, e, hk⟩ := nat_cast (Int.emod_nonneg a (Int.ne_of_gt hup)) (Int.emod_lt_of_pos a hup)
    rw [e]
    refine .inl (h k _ c hk ⟨_, s, rfl, Int.ediv_nonneg ha0 (Int.le_of_lt hup), ?_, hs0, hs1, hc0⟩ (by omega))
    exact Int.lt_of_le_of_lt (Int.ediv_le_self _ ha0) ha1
  · simp only [if_neg hg]
    obtain ⟨q, e1, hq1, hq2⟩ := prime_at (i := (c + 1) % 8) (by omega) (by omega)
    have e2 : q ^ (2 : Int).toNat = q * q := by rw [show (2 : Int).toNat = 2 from rfl, Int.pow_succ, Int.pow_succ, Int.pow_zero, Int.one_mul]
    have hqq : 0 < q * q := Int.mul_pos (by omega) (by omega)
    have hx : ∀ x : Int, 0 ≤ x % q ∧ x % q < q := fun x => ⟨Int.emod_nonneg x (by omega), Int.emod_lt_of_pos x (by omega)⟩
    unfold primes at e1
    obtain ⟨d0, d1⟩ := hx ((s + 69621 * (c + 1) * (c + 1)) % (q * q))
    generalize hd : (s + 69621 * (c + 1) * (c + 1)) % (q * q) % q = d at d0 d1
    obtain ⟨k, e, hk⟩ := nat_cast (Int.emod_nonneg ((d + 1) * ((d + 1) % 1009 + (c + 1)) % q / 7) (Int.ne_of_gt hup)) (Int.emod_lt_of_pos ((d + 1) * ((d + 1) % 1009 + (c + 1)) % q / 7) hup)
    simp only [↓sNext, ↓sSeq_run, ↓sBreak, ↓sCont, ↓sDrop, ↓sRet, ↓sRetN, ↓sIf, ↓sAsg, ↓agName, ↓agNil, ↓agCons, ↓agTup, ↓sPar, ↓sFor, ↓aV, ↓lk, ↓aC, ↓aOp, ↓aUn, ↓aCall, ↓aNil, ↓aCons, ↓aIf, ↓aTest, ↓aAnd, ↓aOr, ↓aNot, ↓aAndV, ↓aOrV, ↓aNotV, ↓aI, ↓aI0, ↓aAdd, ↓aNeg, ↓aIsN, ↓isNone, ↓aTup, ↓purs, ↓aLst, ↓aLstO, ↓aIx, ↓gi0, ↓gi1, ↓gi2, ↓giN, ↓a1, ↓aLen, ↓aAbs, ↓aInt, ↓aStr, ↓aIsi, ↓btOf, ↓BT.isB, ↓aYes, ↓aiSeq, wipeL, ↓startL, List.map, List.set, List.replicate, List.length, List.append, List.cons_append, List.nil_append, ↓aMt, ↓isLs, ↓aLc, ↓aLcO, Bool.false_bne, Bool.true_bne, Bool.xor_false, Bool.false_xor, Bool.true_xor, Bool.not_true, Bool.not_false, decide_eq_true_eq, if_true, if_false, ite_true, ite_false, reduceIte, Bool.false_eq_true, List.getElem?_cons_zero, List.getElem?_cons_succ, ↓aLt, ↓aLe, ↓aGt, ↓aGe, ↓aSub, ↓aMul, ↓aDiv, ↓aMod, ↓aPow, true_and, and_true, e1, e2, hd, e]
    have m1 : 0 ≤ (d + 1) % 1009 := Int.emod_nonneg _ (by decide)
    have m2 : (d + 1) % 1009 < 1009 := Int.emod_lt_of_pos _ (by decide)
    refine ⟨by decide, cmul64 (by decide) (by omega), cmul64 (by omega) (by omega), ⟨by decide, ?_⟩, hqq, by omega, by decide, cmul64 (by omega) (by omega), by omega, cdiv64 (by decide) (by decide), hup, .inl (h k _ (c + 1) hk ⟨a, s, rfl, ha0, ha1, hs0, hs1, by omega⟩ (by omega))⟩
    have hb : Builtin.Int.intBits q ≤ 32 := by
      unfold Builtin.Int.intBits
      split
      · decide
      · have := log2_lt_of (n := q.natAbs) (k := 31) (by omega) (by decide)
        omega
    omega
end
end Lw
namespace Lw
open PySem PySem.Spec PyProof.Rows L2 Am
section
variable {Pg : Program} {w : World} {K : PySem.W.Frag} {mg : Str → Option Value} {base : Heap}
def F_law_of : FT := fun as S Post => ∃ (n : Nat) (xs : List P) (c : Int) (o : O), as = [.own n, .p (.lst xs)] ∧ S[n]? = some o ∧ PotO o c ∧ c < 1000000 ∧ xs ≠ [] ∧ xs.length ≤ 1000 ∧ ∀ (i : Nat) (x : P) (o' : O) (c' : Int), xs[i]? = some x → PotO o' c' → c' ≤ c + 1 → Post (.p x) (S.set n o')
theorem len_law_of : ∀ as S Post, F_law_of as S Post → as.length = ["_law_pot_here", "_law_some"].length := by
  rintro _ S Post ⟨_, _, _, _, rfl, _⟩; rfl
theorem cl_law_of (p : Pre K mg "_law_of" st_law_of) (z_len : mg "len" = none) (c_law_take : Cl Pg w K mg base 1 "_law_take" st_law_take ["_law_pot_here", "_law_upto"] F_law_take) : Cl Pg w K mg base 2 "_law_of" st_law_of ["_law_pot_here", "_law_some"] F_law_of := by
  refine p.cl (fun _ _ _ _ _ _ us hl => match us, hl with | [_, _], _ => rfl) fun f fd F => ?_
  refine fun_ok F sc_law_of len_law_of (fun cdv A outer s H E gd hr => have hu := hu65 hr; (jb_one (js_ret (je_ix (je_var 1) (je_own c_law_take gd hr (ja_cons (je_var 0) (ja_cons (je_len (by rfl) z_len (je_var 1)) ja_nil))) (fun _ _ => rfl))))) ?_
  rintro as S Post hB ⟨n, xs, c, o, rfl, hS, hp, hc, hx, hl, h⟩
  have h1 : 1 ≤ xs.length := by cases xs with | nil => exact absurd rfl hx | cons _ _ => simp
  simp only [↓sNext, ↓sSeq_run, ↓sBreak, ↓sCont, ↓sDrop, ↓sRet, ↓sRetN, ↓sIf, ↓sAsg, ↓agName, ↓agNil, ↓agCons, ↓agTup, ↓sPar, ↓sFor, ↓aV, ↓lk, ↓aC, ↓aOp, ↓aUn, ↓aCall, ↓aNil, ↓aCons, ↓aIf, ↓aTest, ↓aAnd, ↓aOr, ↓aNot, ↓aAndV, ↓aOrV, ↓aNotV, ↓aI, ↓aI0, ↓aAdd, ↓aNeg, ↓aIsN, ↓isNone, ↓aTup, ↓purs, ↓aLst, ↓aLstO, ↓aIx, ↓gi0, ↓gi1, ↓gi2, ↓giN, ↓a1, ↓aLen, ↓aAbs, ↓aInt, ↓aStr, ↓aIsi, ↓btOf, ↓BT.isB, ↓aYes, ↓aiSeq, wipeL, ↓startL, List.map, List.set, List.replicate, List.length, List.append, List.cons_append, List.nil_append, ↓aMt, ↓isLs, ↓aLc, ↓aLcO, Bool.false_bne, Bool.true_bne, Bool.xor_false, Bool.false_xor, Bool.true_xor, Bool.not_true, Bool.not_false, decide_eq_true_eq, if_true, if_false, ite_true, ite_false, reduceIte, Bool.false_eq_true, List.getElem?_cons_zero, List.getElem?_cons_succ, ↓aLt, ↓aLe, ↓aGt, ↓aGe, ↓aSub, ↓aMul, ↓aDiv, ↓aMod, ↓aPow, true_and, and_true]
  refine ⟨n, _, c, o, rfl, hS, hp, hc, by omega, by omega, fun v o' c' hv hp' hc' => ?_⟩
  have hv' : v < xs.length := by omega
  simp only [giN, List.getElem?_eq_getElem hv']
  exact .inl (h v _ o' c' (List.getElem?_eq_getElem hv') hp' hc')
/-! ### lots -/
def prP (a b : Int) : P := .tup [.int a, .int b]
def sevIn (x y : Nat) : Bool := [P.int 1, .int 2, .int 4].any fun z => P.eqb z (.int ((((x : Nat) : Int) - (y : Nat)) % 7))
def sevRow (x : Nat) : List P := ((List.range 7).filter (sevIn x)).map fun y => prP (x : Nat) (y : Nat)
def sevP : List P := (List.range 7).flatMap sevRow
def F_law_seven : FT := fun as S Post => as = [] ∧ Post (.p (.tup [.int 7, .tup sevP])) S
theorem len_law_seven : ∀ as S Post, F_law_seven as S Post → as.length = ([] : List Str).length := by
  rintro _ S Post ⟨rfl, _⟩; rfl
theorem row_le (x : Nat) : (sevRow x).length ≤ 7 := by
  unfold sevRow
  rw [List.length_map]
  exact Nat.le_trans (List.length_filter_le _ _) (by simp)
theorem flat_le {α : Type} (f : α → List P) (h : ∀ x, (f x).length ≤ 7) : ∀ xs : List α, (xs.flatMap f).length ≤ xs.length * 7
  | [] => by simp
  | x :: xs => by
    rw [List.flatMap_cons, List.length_append, List.length_cons, Nat.add_mul]
    have := flat_le f h xs
    have := h x
    omega
theorem cl_law_seven (p : Pre K mg "_law_seven" st_law_seven) (z_range : mg "range" = none) (z_tuple : mg "tuple" = none) : Cl Pg w K mg base 1 "_law_seven" st_law_seven [] F_law_seven := by
  refine p.cl (fun _ _ _ _ _ _ us hl => match us, hl with | [], _ => rfl) fun f fd F => ?_
  refine fun_ok F sc_law_seven len_law_seven (fun cdv A outer s H E gd hr => have hu := hu65 hr; (jb_cons (js_set 0 sc_law_seven.nd (je_lstO ja_nil))
    (jb_cons (js_for PassesOwn.never rfl (ji_range1 (by rfl) z_range (ja_cons je_int ja_nil)) (jg_name 1 sc_law_seven.nd) (jb_one (js_expr (je_mtL PySem.F.slot_list_extend PySem.F.type_list_extend mt_extend lift_extend (je_var 0) (ja_cons (je_lc rfl sc_law_seven.nd (ji_range1 (by rfl) z_range (ja_cons je_int ja_nil)) (blkOk_by (N := ns_law_seven) (sc := defScope st_law_seven) (own := [("_law_y", 2)]) (by decide +kernel)) (fun _ _ _ _ _ => (jgo_name 2 sc_law_seven.nd)) (fun _ _ _ _ _ => jts_one (jt_in hu (je_mod (je_sub (je_var 1) (je_var 2)) je_int) (je_tup (ja_cons je_int (ja_cons je_int (ja_cons je_int ja_nil)))))) (fun _ _ _ _ _ => (je_tup (ja_cons (je_var 1) (ja_cons (je_var 2) ja_nil))))) ja_nil)))))
    (jb_one (js_ret (je_tup (ja_cons je_int (ja_cons (je_tuple (by rfl) z_tuple (je_var 0)) ja_nil)))))))) ?_
  rintro as S Post hB ⟨rfl, h⟩
  simp only [↓sNext, ↓sSeq_run, ↓sBreak, ↓sCont, ↓sDrop, ↓sRet, ↓sRetN, ↓sIf, ↓sAsg, ↓agName, ↓agNil, ↓agCons, ↓agTup, ↓sPar, ↓sFor, ↓aV, ↓lk, ↓aC, ↓aOp, ↓aUn, ↓aCall, ↓aNil, ↓aCons, ↓aIf, ↓aTest, ↓aAnd, ↓aOr, ↓aNot, ↓aAndV, ↓aOrV, ↓aNotV, ↓aI, ↓aI0, ↓aAdd, ↓aNeg, ↓aIsN, ↓isNone, ↓aTup, ↓purs, ↓aLst, ↓aLstO, ↓aIx, ↓gi0, ↓gi1, ↓gi2, ↓giN, ↓a1, ↓aLen, ↓aAbs, ↓aInt, ↓aStr, ↓aIsi, ↓btOf, ↓BT.isB, ↓aYes, ↓aiSeq, wipeL, ↓startL, List.map, List.set, List.replicate, List.length, List.append, List.cons_append, List.nil_append, ↓aMt, ↓isLs, ↓aLc, ↓aLcO, Bool.false_bne, Bool.true_bne, Bool.xor_false, Bool.false_xor, Bool.true_xor, Bool.not_true, Bool.not_false, decide_eq_true_eq, if_true, if_false, ite_true, ite_false, reduceIte, Bool.false_eq_true, List.getElem?_cons_zero, List.getElem?_cons_succ, ↓aLt, ↓aLe, ↓aGt, ↓aGe, ↓aSub, ↓aMul, ↓aDiv, ↓aMod, ↓aPow, true_and, and_true, aiRng1]
  refine ⟨by decide, by decide, ?_⟩
  refine for_go (fun i L S' => ∃ l1 l2, L = [some (.own S.length), l1, l2] ∧ S' = S ++ [.lst ((((List.range 7).take i).flatMap sevRow).map .p)]) (fun _ _ _ _ => trivial) (fun i x L S' N hx hI hN => ?_) (fun L S' hI => ?_) ⟨_, _, rfl, rfl⟩
  · obtain ⟨l1, l2, rfl, rfl⟩ := hI
    rw [List.getElem?_map] at hx
    cases ex : (List.range (7 : Int).toNat)[i]? with
    | none => rw [ex] at hx; cases hx
    | some y =>
      rw [ex] at hx
      cases hx
      have ex : (List.range 7)[i]? = some y := ex
      simp only [↓sNext, ↓sSeq_run, ↓sBreak, ↓sCont, ↓sDrop, ↓sRet, ↓sRetN, ↓sIf, ↓sAsg, ↓agName, ↓agNil, ↓agCons, ↓agTup, ↓sPar, ↓sFor, ↓aV, ↓lk, ↓aC, ↓aOp, ↓aUn, ↓aCall, ↓aNil, ↓aCons, ↓aIf, ↓aTest, ↓aAnd, ↓aOr, ↓aNot, ↓aAndV, ↓aOrV, ↓aNotV, ↓aI, ↓aI0, ↓aAdd, ↓aNeg, ↓aIsN, ↓isNone, ↓aTup, ↓purs, ↓aLst, ↓aLstO, ↓aIx, ↓gi0, ↓gi1, ↓gi2, ↓giN, ↓a1, ↓aLen, ↓aAbs, ↓aInt, ↓aStr, ↓aIsi, ↓btOf, ↓BT.isB, ↓aYes, ↓aiSeq, wipeL, ↓startL, List.map, List.set, List.replicate, List.length, List.append, List.cons_append, List.nil_append, ↓aMt, ↓isLs, ↓aLc, ↓aLcO, Bool.false_bne, Bool.true_bne, Bool.xor_false, Bool.false_xor, Bool.true_xor, Bool.not_true, Bool.not_false, decide_eq_true_eq, if_true, if_false, ite_true, ite_false, reduceIte, Bool.false_eq_true, List.getElem?_cons_zero, List.getElem?_cons_succ, ↓aLt, ↓aLe, ↓aGt, ↓aGe, ↓aSub, ↓aMul, ↓aDiv, ↓aMod, ↓aPow, true_and, and_true, getE, setE]
      refine ⟨by decide, by decide, ?_⟩
      refine lc_map (List.range 7) (fun k => .p (.int (k : Nat))) (sevIn y) (fun k => prP (y : Nat) (k : Nat)) (fun k hk Q R hQ => ?_) ?_
      · simp only [↓sNext, ↓sSeq_run, ↓sBreak, ↓sCont, ↓sDrop, ↓sRet, ↓sRetN, ↓sIf, ↓sAsg, ↓agName, ↓agNil, ↓agCons, ↓agTup, ↓sPar, ↓sFor, ↓aV, ↓lk, ↓aC, ↓aOp, ↓aUn, ↓aCall, ↓aNil, ↓aCons, ↓aIf, ↓aTest, ↓aAnd, ↓aOr, ↓aNot, ↓aAndV, ↓aOrV, ↓aNotV, ↓aI, ↓aI0, ↓aAdd, ↓aNeg, ↓aIsN, ↓isNone, ↓aTup, ↓purs, ↓aLst, ↓aLstO, ↓aIx, ↓gi0, ↓gi1, ↓gi2, ↓giN, ↓a1, ↓aLen, ↓aAbs, ↓aInt, ↓aStr, ↓aIsi, ↓btOf, ↓BT.isB, ↓aYes, ↓aiSeq, wipeL, ↓startL, List.map, List.set, List.replicate, List.length, List.append, List.cons_append, List.nil_append, ↓aMt, ↓isLs, ↓aLc, ↓aLcO, Bool.false_bne, Bool.true_bne, Bool.xor_false, Bool.false_xor, Bool.true_xor, Bool.not_true, Bool.not_false, decide_eq_true_eq, if_true, if_false, ite_true, ite_false, reduceIte, Bool.false_eq_true, List.getElem?_cons_zero, List.getElem?_cons_succ, ↓aLt, ↓aLe, ↓aGt, ↓aGe, ↓aSub, ↓aMul, ↓aDiv, ↓aMod, ↓aPow, true_and, and_true, aIn]
        refine ⟨by decide, _, _, rfl, rfl, dat_int, fun z hz => ?_, hQ⟩
        have hz : z = .int 1 ∨ z = .int 2 ∨ z = .int 4 := by simpa using hz
        rcases hz with rfl | rfl | rfl <;> exact dat_int
      · refine ⟨_, rfl, ?_⟩
        simp only [aExtend, getE, setE]
        refine ⟨?_, hN _ _ ⟨_, _, rfl, ?_⟩⟩
        · have h1 := flat_le sevRow row_le ((List.range 7).take i)
          have h2 : ((List.range 7).take i).length ≤ 7 := by simp; omega
          have h3 := row_le y
          unfold sevRow at h3
          rw [List.length_map]
          exact small_sl (by omega)
        · rw [List.take_add_one, ex, List.flatMap_append, List.map_append]
          congr 4
          simp [sevRow]
  · obtain ⟨l1, l2, rfl, rfl⟩ := hI
    simp only [↓sNext, ↓sSeq_run, ↓sBreak, ↓sCont, ↓sDrop, ↓sRet, ↓sRetN, ↓sIf, ↓sAsg, ↓agName, ↓agNil, ↓agCons, ↓agTup, ↓sPar, ↓sFor, ↓aV, ↓lk, ↓aC, ↓aOp, ↓aUn, ↓aCall, ↓aNil, ↓aCons, ↓aIf, ↓aTest, ↓aAnd, ↓aOr, ↓aNot, ↓aAndV, ↓aOrV, ↓aNotV, ↓aI, ↓aI0, ↓aAdd, ↓aNeg, ↓aIsN, ↓isNone, ↓aTup, ↓purs, ↓aLst, ↓aLstO, ↓aIx, ↓gi0, ↓gi1, ↓gi2, ↓giN, ↓a1, ↓aLen, ↓aAbs, ↓aInt, ↓aStr, ↓aIsi, ↓btOf, ↓BT.isB, ↓aYes, ↓aiSeq, wipeL, ↓startL, List.map, List.set, List.replicate, List.length, List.append, List.cons_append, List.nil_append, ↓aMt, ↓isLs, ↓aLc, ↓aLcO, Bool.false_bne, Bool.true_bne, Bool.xor_false, Bool.false_xor, Bool.true_xor, Bool.not_true, Bool.not_false, decide_eq_true_eq, if_true, if_false, ite_true, ite_false, reduceIte, Bool.false_eq_true, List.getElem?_cons_zero, List.getElem?_cons_succ, ↓aLt, ↓aLe, ↓aGt, ↓aGe, ↓aSub, ↓aMul, ↓aDiv, ↓aMod, ↓aPow, true_and, and_true, aTuple]
    refine ⟨sevP, ?_, Cut.pure hB h⟩
    exact getE _ _
def ringL : List P := [prP 0 2, prP 1 0, prP 2 1, prP 3 5, prP 4 3, prP 5 4, prP 3 0, prP 3 1, prP 3 2, prP 4 0, prP 4 1, prP 4 2, prP 5 0, prP 5 1, prP 5 2]
def ringP : List P := ringL.mergeSort (PySem.W.dataLe false P.py)
theorem ring_pr : ∀ x ∈ ringL, ∃ a b, x = prP a b := by
  intro x hx
  simp only [ringL, List.mem_cons, List.not_mem_nil, or_false] at hx
  rcases hx with rfl | rfl | rfl | rfl | rfl | rfl | rfl | rfl | rfl | rfl | rfl | rfl | rfl | rfl | rfl <;> exact ⟨_, _, rfl⟩
theorem pr_py (a b : Int) : (prP a b).py = .tuple [.int a, .int b] := by simp [prP, P.py, P.pys]
theorem pairs_alike {xs : List P} (h : ∀ x ∈ xs, ∃ a b, x = prP a b) : PySem.W.AllAlike (xs.map P.py) := by
  intro d hd e he
  obtain ⟨x, hx, rfl⟩ := List.mem_map.mp hd
  obtain ⟨y, hy, rfl⟩ := List.mem_map.mp he
  obtain ⟨a, b, rfl⟩ := h x hx
  obtain ⟨a', b', rfl⟩ := h y hy
  rw [pr_py, pr_py]
  simp [PySem.W.alike, PySem.W.alikeAll]
theorem pairs_sortable {xs : List P} (h : ∀ x ∈ xs, ∃ a b, x = prP a b) : PySem.W.Sortable (xs.map P.py) := by
  refine .inl fun d hd => ?_
  obtain ⟨x, hx, rfl⟩ := List.mem_map.mp hd
  obtain ⟨a, b, rfl⟩ := h x hx
  exact ⟨_, _, pr_py a b⟩
theorem pr_dat (a b : Int) : Dat 50 (prP a b) := by
  intro z hz
  have hz : z = .int a ∨ z = .int b := by simpa using hz
  rcases hz with rfl | rfl <;> exact dat_int
def F_law_two_rings : FT := fun as S Post => as = [] ∧ Post (.p (.tup [.int 6, .tup ringP])) S
theorem len_law_two_rings : ∀ as S Post, F_law_two_rings as S Post → as.length = ([] : List Str).length := by
  rintro _ S Post ⟨rfl, _⟩; rfl
theorem cl_law_two_rings (p : Pre K mg "_law_two_rings" st_law_two_rings) (z_sorted : mg "sorted" = none) (z_tuple : mg "tuple" = none) : Cl Pg w K mg base 1 "_law_two_rings" st_law_two_rings [] F_law_two_rings := by
  refine p.cl (fun _ _ _ _ _ _ us hl => match us, hl with | [], _ => rfl) fun f fd F => ?_
  refine fun_ok F sc_law_two_rings len_law_two_rings (fun cdv A outer s H E gd hr => have hu := hu65 hr; (jb_cons (js_set 0 sc_law_two_rings.nd (je_lstO (ja_cons (je_tup (ja_cons je_int (ja_cons je_int ja_nil))) (ja_cons (je_tup (ja_cons je_int (ja_cons je_int ja_nil))) (ja_cons (je_tup (ja_cons je_int (ja_cons je_int ja_nil))) (ja_cons (je_tup (ja_cons je_int (ja_cons je_int ja_nil))) (ja_cons (je_tup (ja_cons je_int (ja_cons je_int ja_nil))) (ja_cons (je_tup (ja_cons je_int (ja_cons je_int ja_nil))) ja_nil))))))))
    (jb_cons (js_for PassesOwn.never rfl (ji_seq (je_tup (ja_cons je_int (ja_cons je_int (ja_cons je_int ja_nil))))) (jg_name 1 sc_law_two_rings.nd) (jb_one (js_expr (je_mtL PySem.F.slot_list_extend PySem.F.type_list_extend mt_extend lift_extend (je_var 0) (ja_cons (je_lc rfl sc_law_two_rings.nd (ji_seq (je_tup (ja_cons je_int (ja_cons je_int (ja_cons je_int ja_nil))))) (blkOk_by (N := ns_law_two_rings) (sc := defScope st_law_two_rings) (own := [("_law_y", 2)]) (by decide +kernel)) (fun _ _ _ _ _ => (jgo_name 2 sc_law_two_rings.nd)) (fun _ _ _ _ _ => jts_nil) (fun _ _ _ _ _ => (je_tup (ja_cons (je_var 1) (ja_cons (je_var 2) ja_nil))))) ja_nil)))))
    (jb_one (js_ret (je_tup (ja_cons je_int (ja_cons (je_tuple (by rfl) z_tuple (je_sorted hu (by rfl) z_sorted (je_var 0))) ja_nil)))))))) ?_
  rintro as S Post hB ⟨rfl, h⟩
  simp only [↓sNext, ↓sSeq_run, ↓sBreak, ↓sCont, ↓sDrop, ↓sRet, ↓sRetN, ↓sIf, ↓sAsg, ↓agName, ↓agNil, ↓agCons, ↓agTup, ↓sPar, ↓sFor, ↓aV, ↓lk, ↓aC, ↓aOp, ↓aUn, ↓aCall, ↓aNil, ↓aCons, ↓aIf, ↓aTest, ↓aAnd, ↓aOr, ↓aNot, ↓aAndV, ↓aOrV, ↓aNotV, ↓aI, ↓aI0, ↓aAdd, ↓aNeg, ↓aIsN, ↓isNone, ↓aTup, ↓purs, ↓aLst, ↓aLstO, ↓aIx, ↓gi0, ↓gi1, ↓gi2, ↓giN, ↓a1, ↓aLen, ↓aAbs, ↓aInt, ↓aStr, ↓aIsi, ↓btOf, ↓BT.isB, ↓aYes, ↓aiSeq, wipeL, ↓startL, List.map, List.set, List.replicate, List.length, List.append, List.cons_append, List.nil_append, ↓aMt, ↓isLs, ↓aLc, ↓aLcO, Bool.false_bne, Bool.true_bne, Bool.xor_false, Bool.false_xor, Bool.true_xor, Bool.not_true, Bool.not_false, decide_eq_true_eq, if_true, if_false, ite_true, ite_false, reduceIte, Bool.false_eq_true, List.getElem?_cons_zero, List.getElem?_cons_succ, ↓aLt, ↓aLe, ↓aGt, ↓aGe, ↓aSub, ↓aMul, ↓aDiv, ↓aMod, ↓aPow, true_and, and_true, forRun, lcRun, getE, setE, aExtend, List.map_eq_nil_iff]
  refine ⟨[prP 3 0, prP 3 1, prP 3 2], rfl, small_sl (by decide), [prP 4 0, prP 4 1, prP 4 2], rfl, small_sl (by decide), [prP 5 0, prP 5 1, prP 5 2], rfl, small_sl (by decide), ringL, .inl (getE _ _), fun x hx => ?_, pairs_alike ring_pr, pairs_sortable ring_pr, ringP, rfl, ?_⟩
  · obtain ⟨a, b, rfl⟩ := ring_pr x hx
    exact pr_dat a b
  · exact Cut.pure hB h
def threeP : P := .tup [prP 0 2, prP 1 0, prP 2 1]
def backP : P := .tup [prP 0 1, prP 1 2, prP 2 0]
def KN : List ((Nat × P) × Int) := [((3, threeP), 2), ((3, threeP), 2), ((3, backP), 2), ((1, .tup []), 1), ((4, .tup []), 1), ((3, .tup [prP 1 0, prP 2 0, prP 2 1]), 1), ((7, .tup sevP), 3), ((6, .tup ringP), 2)]
def knP (q : (Nat × P) × Int) : P := .tup [lotP q.1, .int q.2]
theorem kn_size : ∀ q ∈ KN, 1 ≤ q.1.1 ∧ q.1.1 ≤ 7 := by
  intro q hq
  simp only [KN, List.mem_cons, List.not_mem_nil, or_false] at hq
  rcases hq with rfl | rfl | rfl | rfl | rfl | rfl | rfl | rfl <;> decide
def F_law_known : FT := fun as S Post => as = [] ∧ Post (.p (.lst (KN.map knP))) S
theorem len_law_known : ∀ as S Post, F_law_known as S Post → as.length = ([] : List Str).length := by
  rintro _ S Post ⟨rfl, _⟩; rfl
theorem cl_law_known (p : Pre K mg "_law_known" st_law_known) (c_law_seven : Cl Pg w K mg base 1 "_law_seven" st_law_seven [] F_law_seven) (c_law_two_rings : Cl Pg w K mg base 1 "_law_two_rings" st_law_two_rings [] F_law_two_rings) : Cl Pg w K mg base 2 "_law_known" st_law_known [] F_law_known := by
  refine p.cl (fun _ _ _ _ _ _ us hl => match us, hl with | [], _ => rfl) fun f fd F => ?_
  refine fun_ok F sc_law_known len_law_known (fun cdv A outer s H E gd hr => have hu := hu65 hr; (jb_cons (js_asg (hw := sw_none (by decide +kernel)) (je_tup (ja_cons (je_tup (ja_cons je_int (ja_cons (je_tup (ja_cons (je_tup (ja_cons je_int (ja_cons je_int ja_nil))) (ja_cons (je_tup (ja_cons je_int (ja_cons je_int ja_nil))) (ja_cons (je_tup (ja_cons je_int (ja_cons je_int ja_nil))) ja_nil)))) ja_nil))) (ja_cons (je_tup (ja_cons je_int (ja_cons (je_tup (ja_cons (je_tup (ja_cons je_int (ja_cons je_int ja_nil))) (ja_cons (je_tup (ja_cons je_int (ja_cons je_int ja_nil))) (ja_cons (je_tup (ja_cons je_int (ja_cons je_int ja_nil))) ja_nil)))) ja_nil))) ja_nil))) (jg_tup (n := 2) rfl (jgs_cons (jg_name 0 sc_law_known.nd) (jgs_cons (jg_name 1 sc_law_known.nd) jgs_nil))))
    (jb_cons (js_set 2 sc_law_known.nd (je_lst (ja_cons (je_tup (ja_cons (je_var 0) (ja_cons je_int ja_nil))) (ja_cons (je_tup (ja_cons (je_var 0) (ja_cons je_int ja_nil))) (ja_cons (je_tup (ja_cons (je_var 1) (ja_cons je_int ja_nil))) (ja_cons (je_tup (ja_cons (je_tup (ja_cons je_int (ja_cons (je_tup ja_nil) ja_nil))) (ja_cons je_int ja_nil))) (ja_cons (je_tup (ja_cons (je_tup (ja_cons je_int (ja_cons (je_tup ja_nil) ja_nil))) (ja_cons je_int ja_nil))) (ja_cons (je_tup (ja_cons (je_tup (ja_cons je_int (ja_cons (je_tup (ja_cons (je_tup (ja_cons je_int (ja_cons je_int ja_nil))) (ja_cons (je_tup (ja_cons je_int (ja_cons je_int ja_nil))) (ja_cons (je_tup (ja_cons je_int (ja_cons je_int ja_nil))) ja_nil)))) ja_nil))) (ja_cons je_int ja_nil))) ja_nil))))))))
    (jb_one (js_ret (je_add (je_var 2) (je_lst (ja_cons (je_tup (ja_cons (je_own0 c_law_seven gd hr) (ja_cons je_int ja_nil))) (ja_cons (je_tup (ja_cons (je_own0 c_law_two_rings gd hr) (ja_cons je_int ja_nil))) ja_nil))))))))) ?_
  rintro as S Post hB ⟨rfl, h⟩
  refine sq ?_; simp only [↓sNext, ↓sBreak, ↓sCont, ↓sDrop, ↓sRet, ↓sRetN, ↓sIf, ↓sAsg, ↓agName, ↓agNil, ↓agCons, ↓agTup, ↓sPar, ↓sFor, ↓aV, ↓lk, ↓aC, ↓aOp, ↓aUn, ↓aCall, ↓aNil, ↓aCons, ↓aIf, ↓aTest, ↓aAnd, ↓aOr, ↓aNot, ↓aAndV, ↓aOrV, ↓aNotV, ↓aI, ↓aI0, ↓aAdd, ↓aNeg, ↓aIsN, ↓isNone, ↓aTup, ↓purs, ↓aLst, ↓aLstO, ↓aIx, ↓gi0, ↓gi1, ↓gi2, ↓giN, ↓a1, ↓aLen, ↓aAbs, ↓aInt, ↓aStr, ↓aIsi, ↓btOf, ↓BT.isB, ↓aYes, ↓aiSeq, wipeL, ↓startL, List.map, List.set, List.replicate, List.length, List.append, List.cons_append, List.nil_append, ↓aMt, ↓isLs, ↓aLc, ↓aLcO, Bool.false_bne, Bool.true_bne, Bool.xor_false, Bool.false_xor, Bool.true_xor, Bool.not_true, Bool.not_false, decide_eq_true_eq, if_true, if_false, ite_true, ite_false, reduceIte, Bool.false_eq_true, List.getElem?_cons_zero, List.getElem?_cons_succ, ↓aLt, ↓aLe, ↓aGt, ↓aGe, ↓aSub, ↓aMul, ↓aDiv, ↓aMod, ↓aPow, true_and, and_true]
  refine sq ?_; simp only [↓sNext, ↓sBreak, ↓sCont, ↓sDrop, ↓sRet, ↓sRetN, ↓sIf, ↓sAsg, ↓agName, ↓agNil, ↓agCons, ↓agTup, ↓sPar, ↓sFor, ↓aV, ↓lk, ↓aC, ↓aOp, ↓aUn, ↓aCall, ↓aNil, ↓aCons, ↓aIf, ↓aTest, ↓aAnd, ↓aOr, ↓aNot, ↓aAndV, ↓aOrV, ↓aNotV, ↓aI, ↓aI0, ↓aAdd, ↓aNeg, ↓aIsN, ↓isNone, ↓aTup, ↓purs, ↓aLst, ↓aLstO, ↓aIx, ↓gi0, ↓gi1, ↓gi2, ↓giN, ↓a1, ↓aLen, ↓aAbs, ↓aInt, ↓aStr, ↓aIsi, ↓btOf, ↓BT.isB, ↓aYes, ↓aiSeq, wipeL, ↓startL, List.map, List.set, List.replicate, List.length, List.append, List.cons_append, List.nil_append, ↓aMt, ↓isLs, ↓aLc, ↓aLcO, Bool.false_bne, Bool.true_bne, Bool.xor_false, Bool.false_xor, Bool.true_xor, Bool.not_true, Bool.not_false, decide_eq_true_eq, if_true, if_false, ite_true, ite_false, reduceIte, Bool.false_eq_true, List.getElem?_cons_zero, List.getElem?_cons_succ, ↓aLt, ↓aLe, ↓aGt, ↓aGe, ↓aSub, ↓aMul, ↓aDiv, ↓aMod, ↓aPow, true_and, and_true]
  refine ⟨rfl, ?_⟩
  simp only [↓sNext, ↓sSeq_run, ↓sBreak, ↓sCont, ↓sDrop, ↓sRet, ↓sRetN, ↓sIf, ↓sAsg, ↓agName, ↓agNil, ↓agCons, ↓agTup, ↓sPar, ↓sFor, ↓aV, ↓lk, ↓aC, ↓aOp, ↓aUn, ↓aCall, ↓aNil, ↓aCons, ↓aIf, ↓aTest, ↓aAnd, ↓aOr, ↓aNot, ↓aAndV, ↓aOrV, ↓aNotV, ↓aI, ↓aI0, ↓aAdd, ↓aNeg, ↓aIsN, ↓isNone, ↓aTup, ↓purs, ↓aLst, ↓aLstO, ↓aIx, ↓gi0, ↓gi1, ↓gi2, ↓giN, ↓a1, ↓aLen, ↓aAbs, ↓aInt, ↓aStr, ↓aIsi, ↓btOf, ↓BT.isB, ↓aYes, ↓aiSeq, wipeL, ↓startL, List.map, List.set, List.replicate, List.length, List.append, List.cons_append, List.nil_append, ↓aMt, ↓isLs, ↓aLc, ↓aLcO, Bool.false_bne, Bool.true_bne, Bool.xor_false, Bool.false_xor, Bool.true_xor, Bool.not_true, Bool.not_false, decide_eq_true_eq, if_true, if_false, ite_true, ite_false, reduceIte, Bool.false_eq_true, List.getElem?_cons_zero, List.getElem?_cons_succ, ↓aLt, ↓aLe, ↓aGt, ↓aGe, ↓aSub, ↓aMul, ↓aDiv, ↓aMod, ↓aPow, true_and, and_true]
  refine ⟨rfl, ?_⟩
  simp only [↓sNext, ↓sSeq_run, ↓sBreak, ↓sCont, ↓sDrop, ↓sRet, ↓sRetN, ↓sIf, ↓sAsg, ↓agName, ↓agNil, ↓agCons, ↓agTup, ↓sPar, ↓sFor, ↓aV, ↓lk, ↓aC, ↓aOp, ↓aUn, ↓aCall, ↓aNil, ↓aCons, ↓aIf, ↓aTest, ↓aAnd, ↓aOr, ↓aNot, ↓aAndV, ↓aOrV, ↓aNotV, ↓aI, ↓aI0, ↓aAdd, ↓aNeg, ↓aIsN, ↓isNone, ↓aTup, ↓purs, ↓aLst, ↓aLstO, ↓aIx, ↓gi0, ↓gi1, ↓gi2, ↓giN, ↓a1, ↓aLen, ↓aAbs, ↓aInt, ↓aStr, ↓aIsi, ↓btOf, ↓BT.isB, ↓aYes, ↓aiSeq, wipeL, ↓startL, List.map, List.set, List.replicate, List.length, List.append, List.cons_append, List.nil_append, ↓aMt, ↓isLs, ↓aLc, ↓aLcO, Bool.false_bne, Bool.true_bne, Bool.xor_false, Bool.false_xor, Bool.true_xor, Bool.not_true, Bool.not_false, decide_eq_true_eq, if_true, if_false, ite_true, ite_false, reduceIte, Bool.false_eq_true, List.getElem?_cons_zero, List.getElem?_cons_succ, ↓aLt, ↓aLe, ↓aGt, ↓aGe, ↓aSub, ↓aMul, ↓aDiv, ↓aMod, ↓aPow, true_and, and_true]
  refine ⟨small_sl (by decide), .inl ?_⟩
  simp only [KN, knP, lotP, List.map, threeP, backP, prP] at h
  exact h
end
end Lw
namespace Lw
open PySem PySem.Spec PyProof.Rows L2 Am
section
variable {Pg : Program} {w : World} {K : PySem.W.Frag} {mg : Str → Option Value} {base : Heap}
theorem towP_tup (T : List (Nat × P)) : towP T = .tup (T.map lotP) := rfl
def TGood (T : List (Nat × P)) : Prop := T ≠ [] ∧ T.length ≤ 50 ∧ ∀ l ∈ T, 1 ≤ l.1 ∧ l.1 ≤ 7
def F_law_tower : FT := fun as S Post => ∃ (n most : Nat) (c : Int) (o : O), as = [.own n, .p (.int (most : Nat))] ∧ S[n]? = some o ∧ PotO o c ∧ c < 100000 ∧ 1 ≤ most ∧ most ≤ 40 ∧ ∀ (T : List (Nat × P)) (far : Int) (o' : O) (c' : Int), TGood T → PotO o' c' → c' ≤ c + 50 → Post (.p (.tup [towP T, .int far])) (S.set n o')
theorem len_law_tower : ∀ as S Post, F_law_tower as S Post → as.length = ["_law_pot_here", "_law_most"].length := by
  rintro _ S Post ⟨_, _, _, _, rfl, _⟩; rfl
theorem setA {S : List O} {n : Nat} (h : n < S.length) (o o' : O) : (S ++ [o]).set n o' = S.set n o' ++ [o] := by
  rw [List.set_append_left _ _ h]
theorem getA {S : List O} {n : Nat} (h : n < S.length) (o : O) : (S ++ [o])[n]? = S[n]? := by
  rw [List.getElem?_append_left h]
theorem getE2 (S : List O) (n : Nat) (o' o : O) : (S.set n o' ++ [o])[S.length]? = some o := by
  have := getE (S.set n o') o
  rwa [List.length_set] at this
theorem setE2 (S : List O) (n : Nat) (o' o o2 : O) : (S.set n o' ++ [o]).set S.length o2 = S.set n o' ++ [o2] := by
  have := setE (S.set n o') o o2
  rwa [List.length_set] at this
theorem cl_law_tower (p : Pre K mg "_law_tower" st_law_tower) (z_range : mg "range" = none) (z_tuple : mg "tuple" = none) (c_law_take : Cl Pg w K mg base 1 "_law_take" st_law_take ["_law_pot_here", "_law_upto"] F_law_take) (c_law_of : Cl Pg w K mg base 2 "_law_of" st_law_of ["_law_pot_here", "_law_some"] F_law_of) (c_law_known : Cl Pg w K mg base 2 "_law_known" st_law_known [] F_law_known) : Cl Pg w K mg base 3 "_law_tower" st_law_tower ["_law_pot_here", "_law_most"] F_law_tower := by
  refine p.cl (fun _ _ _ _ _ _ us hl => match us, hl with | [_, _], _ => rfl) fun f fd F => ?_
  refine fun_ok F sc_law_tower len_law_tower (fun cdv A outer s H E gd hr => have hu := hu65 hr; (jb_cons (js_par 2 3 rfl sc_law_tower.nd (ja_cons (je_lstO ja_nil) (ja_cons je_int ja_nil)))
    (jb_cons (js_for PassesOwn.never rfl (ji_range1 (by rfl) z_range (ja_cons (je_add je_int (je_own c_law_take gd hr (ja_cons (je_var 0) (ja_cons (je_var 1) ja_nil)))) ja_nil)) (jg_name 4 sc_law_tower.nd) (jb_cons (js_asg (je_own c_law_of gd hr (ja_cons (je_var 0) (ja_cons (je_own0 c_law_known gd hr) ja_nil))) (jg_tup (n := 2) rfl (jgs_cons (jg_name 5 sc_law_tower.nd) (jgs_cons (jg_name 6 sc_law_tower.nd) jgs_nil))))
    (jb_cons (js_expr (je_mtL PySem.F.slot_list_append PySem.F.type_list_append mt_append lift_append (je_var 2) (ja_cons (je_var 5) ja_nil)))
    (jb_one (js_set 3 sc_law_tower.nd (je_sub (je_add (je_var 3) (je_var 6)) je_int))))))
    (jb_one (js_ret (je_tup (ja_cons (je_tuple (by rfl) z_tuple (je_var 2)) (ja_cons (je_var 3) ja_nil)))))))) ?_
  rintro as S Post hB ⟨n, most, c, o, rfl, hS, hp, hc, hm1, hm2, h⟩
  have hn : n < S.length := (List.getElem?_eq_some_iff.mp hS).1
  refine sq ?_; simp only [↓sNext, ↓sBreak, ↓sCont, ↓sDrop, ↓sRet, ↓sRetN, ↓sIf, ↓sAsg, ↓agName, ↓agNil, ↓agCons, ↓agTup, ↓sPar, ↓sFor, ↓aV, ↓lk, ↓aC, ↓aOp, ↓aUn, ↓aCall, ↓aNil, ↓aCons, ↓aIf, ↓aTest, ↓aAnd, ↓aOr, ↓aNot, ↓aAndV, ↓aOrV, ↓aNotV, ↓aI, ↓aI0, ↓aAdd, ↓aNeg, ↓aIsN, ↓isNone, ↓aTup, ↓purs, ↓aLst, ↓aLstO, ↓aIx, ↓gi0, ↓gi1, ↓gi2, ↓giN, ↓a1, ↓aLen, ↓aAbs, ↓aInt, ↓aStr, ↓aIsi, ↓btOf, ↓BT.isB, ↓aYes, ↓aiSeq, wipeL, ↓startL, List.map, List.set, List.replicate, List.length, List.append, List.cons_append, List.nil_append, ↓aMt, ↓isLs, ↓aLc, ↓aLcO, Bool.false_bne, Bool.true_bne, Bool.xor_false, Bool.false_xor, Bool.true_xor, Bool.not_true, Bool.not_false, decide_eq_true_eq, if_true, if_false, ite_true, ite_false, reduceIte, Bool.false_eq_true, List.getElem?_cons_zero, List.getElem?_cons_succ, ↓aLt, ↓aLe, ↓aGt, ↓aGe, ↓aSub, ↓aMul, ↓aDiv, ↓aMod, ↓aPow, true_and, and_true]
  refine sq ?_
  simp only [↓sNext, ↓sBreak, ↓sCont, ↓sDrop, ↓sRet, ↓sRetN, ↓sIf, ↓sAsg, ↓agName, ↓agNil, ↓agCons, ↓agTup, ↓sPar, ↓sFor, ↓aV, ↓lk, ↓aC, ↓aOp, ↓aUn, ↓aCall, ↓aNil, ↓aCons, ↓aIf, ↓aTest, ↓aAnd, ↓aOr, ↓aNot, ↓aAndV, ↓aOrV, ↓aNotV, ↓aI, ↓aI0, ↓aAdd, ↓aNeg, ↓aIsN, ↓isNone, ↓aTup, ↓purs, ↓aLst, ↓aLstO, ↓aIx, ↓gi0, ↓gi1, ↓gi2, ↓giN, ↓a1, ↓aLen, ↓aAbs, ↓aInt, ↓aStr, ↓aIsi, ↓btOf, ↓BT.isB, ↓aYes, ↓aiSeq, wipeL, ↓startL, List.map, List.set, List.replicate, List.length, List.append, List.cons_append, List.nil_append, ↓aMt, ↓isLs, ↓aLc, ↓aLcO, Bool.false_bne, Bool.true_bne, Bool.xor_false, Bool.false_xor, Bool.true_xor, Bool.not_true, Bool.not_false, decide_eq_true_eq, if_true, if_false, ite_true, ite_false, reduceIte, Bool.false_eq_true, List.getElem?_cons_zero, List.getElem?_cons_succ, ↓aLt, ↓aLe, ↓aGt, ↓aGe, ↓aSub, ↓aMul, ↓aDiv, ↓aMod, ↓aPow, true_and, and_true, aiRng1]
  refine ⟨n, (most : Nat), c, o, rfl, by rw [getA hn]; exact hS, hp, by omega, by omega, by omega, fun v o1 c1 hv hp1 hc1 => ?_⟩
  rw [setA hn]
  simp only [↓sNext, ↓sBreak, ↓sCont, ↓sDrop, ↓sRet, ↓sRetN, ↓sIf, ↓sAsg, ↓agName, ↓agNil, ↓agCons, ↓agTup, ↓sPar, ↓sFor, ↓aV, ↓lk, ↓aC, ↓aOp, ↓aUn, ↓aCall, ↓aNil, ↓aCons, ↓aIf, ↓aTest, ↓aAnd, ↓aOr, ↓aNot, ↓aAndV, ↓aOrV, ↓aNotV, ↓aI, ↓aI0, ↓aAdd, ↓aNeg, ↓aIsN, ↓isNone, ↓aTup, ↓purs, ↓aLst, ↓aLstO, ↓aIx, ↓gi0, ↓gi1, ↓gi2, ↓giN, ↓a1, ↓aLen, ↓aAbs, ↓aInt, ↓aStr, ↓aIsi, ↓btOf, ↓BT.isB, ↓aYes, ↓aiSeq, wipeL, ↓startL, List.map, List.set, List.replicate, List.length, List.append, List.cons_append, List.nil_append, ↓aMt, ↓isLs, ↓aLc, ↓aLcO, Bool.false_bne, Bool.true_bne, Bool.xor_false, Bool.false_xor, Bool.true_xor, Bool.not_true, Bool.not_false, decide_eq_true_eq, if_true, if_false, ite_true, ite_false, reduceIte, Bool.false_eq_true, List.getElem?_cons_zero, List.getElem?_cons_succ, ↓aLt, ↓aLe, ↓aGt, ↓aGe, ↓aSub, ↓aMul, ↓aDiv, ↓aMod, ↓aPow, true_and, and_true]
  refine ⟨by omega, by omega, ?_⟩
  have hv' : v < most := by omega
  refine for_go (fun i L S' => ∃ (T : List (Nat × P)) (far c2 : Int) (o2 : O) (l4 l5 l6 : Option D), L = [some (.own n), some (.p (.int (most : Nat))), some (.own S.length), some (.p (.int far)), l4, l5, l6] ∧ S' = S.set n o2 ++ [.lst ((T.map lotP).map .p)] ∧ PotO o2 c2 ∧ c2 ≤ c + 1 + i ∧ T.length = i ∧ ∀ l ∈ T, 1 ≤ l.1 ∧ l.1 ≤ 7) (fun _ _ _ _ => trivial) (fun i x L S' N hx hI hN => ?_) (fun L S' hI => ?_) ⟨[], 1, c1, o1, none, none, none, rfl, rfl, hp1, by omega, rfl, fun _ h => nomatch h⟩
  · have hi : i < v + 1 := by
      have := (List.getElem?_eq_some_iff.mp hx).1
      rw [List.length_map, List.length_range] at this
      omega
    obtain ⟨T, far, c2, o2, l4, l5, l6, rfl, rfl, hp2, hc2, hT, hTs⟩ := hI
    have hn2 : n < (S.set n o2).length := by rw [List.length_set]; exact hn
    simp only [↓sNext, ↓sBreak, ↓sCont, ↓sDrop, ↓sRet, ↓sRetN, ↓sIf, ↓sAsg, ↓agName, ↓agNil, ↓agCons, ↓agTup, ↓sPar, ↓sFor, ↓aV, ↓lk, ↓aC, ↓aOp, ↓aUn, ↓aCall, ↓aNil, ↓aCons, ↓aIf, ↓aTest, ↓aAnd, ↓aOr, ↓aNot, ↓aAndV, ↓aOrV, ↓aNotV, ↓aI, ↓aI0, ↓aAdd, ↓aNeg, ↓aIsN, ↓isNone, ↓aTup, ↓purs, ↓aLst, ↓aLstO, ↓aIx, ↓gi0, ↓gi1, ↓gi2, ↓giN, ↓a1, ↓aLen, ↓aAbs, ↓aInt, ↓aStr, ↓aIsi, ↓btOf, ↓BT.isB, ↓aYes, ↓aiSeq, wipeL, ↓startL, List.map, List.set, List.replicate, List.length, List.append, List.cons_append, List.nil_append, ↓aMt, ↓isLs, ↓aLc, ↓aLcO, Bool.false_bne, Bool.true_bne, Bool.xor_false, Bool.false_xor, Bool.true_xor, Bool.not_true, Bool.not_false, decide_eq_true_eq, if_true, if_false, ite_true, ite_false, reduceIte, Bool.false_eq_true, List.getElem?_cons_zero, List.getElem?_cons_succ, ↓aLt, ↓aLe, ↓aGt, ↓aGe, ↓aSub, ↓aMul, ↓aDiv, ↓aMod, ↓aPow, true_and, and_true]
    refine sq ?_
    simp only [↓sNext, ↓sBreak, ↓sCont, ↓sDrop, ↓sRet, ↓sRetN, ↓sIf, ↓sAsg, ↓agName, ↓agNil, ↓agCons, ↓agTup, ↓sPar, ↓sFor, ↓aV, ↓lk, ↓aC, ↓aOp, ↓aUn, ↓aCall, ↓aNil, ↓aCons, ↓aIf, ↓aTest, ↓aAnd, ↓aOr, ↓aNot, ↓aAndV, ↓aOrV, ↓aNotV, ↓aI, ↓aI0, ↓aAdd, ↓aNeg, ↓aIsN, ↓isNone, ↓aTup, ↓purs, ↓aLst, ↓aLstO, ↓aIx, ↓gi0, ↓gi1, ↓gi2, ↓giN, ↓a1, ↓aLen, ↓aAbs, ↓aInt, ↓aStr, ↓aIsi, ↓btOf, ↓BT.isB, ↓aYes, ↓aiSeq, wipeL, ↓startL, List.map, List.set, List.replicate, List.length, List.append, List.cons_append, List.nil_append, ↓aMt, ↓isLs, ↓aLc, ↓aLcO, Bool.false_bne, Bool.true_bne, Bool.xor_false, Bool.false_xor, Bool.true_xor, Bool.not_true, Bool.not_false, decide_eq_true_eq, if_true, if_false, ite_true, ite_false, reduceIte, Bool.false_eq_true, List.getElem?_cons_zero, List.getElem?_cons_succ, ↓aLt, ↓aLe, ↓aGt, ↓aGe, ↓aSub, ↓aMul, ↓aDiv, ↓aMod, ↓aPow, true_and, and_true]
    refine ⟨rfl, ⟨n, KN.map knP, c2, o2, rfl, by rw [getA hn2]; exact List.getElem?_set_self hn, hp2, by omega, by simp [KN], by simp [KN], fun k x o3 c3 hx3 hp3 hc3 => ?_⟩⟩
    rw [setA hn2, List.set_set]
    rw [List.getElem?_map] at hx3
    cases ek : KN[k]? with
    | none => rw [ek] at hx3; cases hx3
    | some q =>
      rw [ek] at hx3
      have hq := kn_size q (List.mem_of_getElem? ek)
      obtain rfl : knP q = x := Option.some.inj hx3
      simp only [↓sNext, ↓sBreak, ↓sCont, ↓sDrop, ↓sRet, ↓sRetN, ↓sIf, ↓sAsg, ↓agName, ↓agNil, ↓agCons, ↓agTup, ↓sPar, ↓sFor, ↓aV, ↓lk, ↓aC, ↓aOp, ↓aUn, ↓aCall, ↓aNil, ↓aCons, ↓aIf, ↓aTest, ↓aAnd, ↓aOr, ↓aNot, ↓aAndV, ↓aOrV, ↓aNotV, ↓aI, ↓aI0, ↓aAdd, ↓aNeg, ↓aIsN, ↓isNone, ↓aTup, ↓purs, ↓aLst, ↓aLstO, ↓aIx, ↓gi0, ↓gi1, ↓gi2, ↓giN, ↓a1, ↓aLen, ↓aAbs, ↓aInt, ↓aStr, ↓aIsi, ↓btOf, ↓BT.isB, ↓aYes, ↓aiSeq, wipeL, ↓startL, List.map, List.set, List.replicate, List.length, List.append, List.cons_append, List.nil_append, ↓aMt, ↓isLs, ↓aLc, ↓aLcO, Bool.false_bne, Bool.true_bne, Bool.xor_false, Bool.false_xor, Bool.true_xor, Bool.not_true, Bool.not_false, decide_eq_true_eq, if_true, if_false, ite_true, ite_false, reduceIte, Bool.false_eq_true, List.getElem?_cons_zero, List.getElem?_cons_succ, ↓aLt, ↓aLe, ↓aGt, ↓aGe, ↓aSub, ↓aMul, ↓aDiv, ↓aMod, ↓aPow, true_and, and_true, knP]
      refine sq ?_
      simp only [↓sNext, ↓sBreak, ↓sCont, ↓sDrop, ↓sRet, ↓sRetN, ↓sIf, ↓sAsg, ↓agName, ↓agNil, ↓agCons, ↓agTup, ↓sPar, ↓sFor, ↓aV, ↓lk, ↓aC, ↓aOp, ↓aUn, ↓aCall, ↓aNil, ↓aCons, ↓aIf, ↓aTest, ↓aAnd, ↓aOr, ↓aNot, ↓aAndV, ↓aOrV, ↓aNotV, ↓aI, ↓aI0, ↓aAdd, ↓aNeg, ↓aIsN, ↓isNone, ↓aTup, ↓purs, ↓aLst, ↓aLstO, ↓aIx, ↓gi0, ↓gi1, ↓gi2, ↓giN, ↓a1, ↓aLen, ↓aAbs, ↓aInt, ↓aStr, ↓aIsi, ↓btOf, ↓BT.isB, ↓aYes, ↓aiSeq, wipeL, ↓startL, List.map, List.set, List.replicate, List.length, List.append, List.cons_append, List.nil_append, ↓aMt, ↓isLs, ↓aLc, ↓aLcO, Bool.false_bne, Bool.true_bne, Bool.xor_false, Bool.false_xor, Bool.true_xor, Bool.not_true, Bool.not_false, decide_eq_true_eq, if_true, if_false, ite_true, ite_false, reduceIte, Bool.false_eq_true, List.getElem?_cons_zero, List.getElem?_cons_succ, ↓aLt, ↓aLe, ↓aGt, ↓aGe, ↓aSub, ↓aMul, ↓aDiv, ↓aMod, ↓aPow, true_and, and_true, aAppend, getE2, setE2]
      refine ⟨?_, ?_⟩
      · rw [List.length_map, List.length_map, hT]
        exact Nat.lt_of_lt_of_le (show i < 100 by omega) (by decide)
      · refine hN _ _ ⟨T ++ [q.1], _, c3, o3, _, _, _, rfl, ?_, hp3, by omega, by simp [hT], fun l hl => ?_⟩
        · rw [List.map_append, List.map_append]
          rfl
        · rcases List.mem_append.mp hl with hl | hl
          · exact hTs l hl
          · rw [List.mem_singleton] at hl
            subst hl
            exact hq
  · obtain ⟨T, far, c2, o2, l4, l5, l6, rfl, rfl, hp2, hc2, hT, hTs⟩ := hI
    have e : T.length = v + 1 := by
      rw [hT, List.length_map, List.length_range]
      omega
    simp only [↓sNext, ↓sBreak, ↓sCont, ↓sDrop, ↓sRet, ↓sRetN, ↓sIf, ↓sAsg, ↓agName, ↓agNil, ↓agCons, ↓agTup, ↓sPar, ↓sFor, ↓aV, ↓lk, ↓aC, ↓aOp, ↓aUn, ↓aCall, ↓aNil, ↓aCons, ↓aIf, ↓aTest, ↓aAnd, ↓aOr, ↓aNot, ↓aAndV, ↓aOrV, ↓aNotV, ↓aI, ↓aI0, ↓aAdd, ↓aNeg, ↓aIsN, ↓isNone, ↓aTup, ↓purs, ↓aLst, ↓aLstO, ↓aIx, ↓gi0, ↓gi1, ↓gi2, ↓giN, ↓a1, ↓aLen, ↓aAbs, ↓aInt, ↓aStr, ↓aIsi, ↓btOf, ↓BT.isB, ↓aYes, ↓aiSeq, wipeL, ↓startL, List.map, List.set, List.replicate, List.length, List.append, List.cons_append, List.nil_append, ↓aMt, ↓isLs, ↓aLc, ↓aLcO, Bool.false_bne, Bool.true_bne, Bool.xor_false, Bool.false_xor, Bool.true_xor, Bool.not_true, Bool.not_false, decide_eq_true_eq, if_true, if_false, ite_true, ite_false, reduceIte, Bool.false_eq_true, List.getElem?_cons_zero, List.getElem?_cons_succ, ↓aLt, ↓aLe, ↓aGt, ↓aGe, ↓aSub, ↓aMul, ↓aDiv, ↓aMod, ↓aPow, true_and, and_true, aTuple]
    refine ⟨T.map lotP, getE2 _ _ _ _, ?_⟩
    refine Cut.set hB (hp2.bel _) (h T far o2 c2 ⟨fun e0 => ?_, by omega, hTs⟩ hp2 ?_)
    · rw [e0] at e; cases e
    · rw [hT] at e
      rw [hT] at *
      omega
end
end Lw
namespace Lw
open PySem PySem.Spec PyProof.Rows L2 Am
section
variable {Pg : Program} {w : World} {K : PySem.W.Frag} {mg : Str → Option Value} {base : Heap}
abbrev F_law_mark_text : FT := F_show_mark
abbrev F_law_held_text : FT := F_show_held
theorem len_law_mark_text : ∀ as S Post, F_law_mark_text as S Post → as.length = ["_law_mark"].length := len_show_mark
theorem len_law_held_text : ∀ as S Post, F_law_held_text as S Post → as.length = ["_law_holding"].length := len_show_held
theorem cl_law_mark_text (p : Pre K mg "_law_mark_text" st_law_mark_text) (z_str : mg "str" = none) : Cl Pg w K mg base 1 "_law_mark_text" st_law_mark_text ["_law_mark"] F_law_mark_text := by
  refine p.cl (fun _ _ _ _ _ _ us hl => match us, hl with | [_], _ => rfl) fun f fd F => ?_
  refine fun_ok F sc_law_mark_text len_law_mark_text (fun cdv A outer s H E gd hr => have hu := hu65 hr; (jb_one (js_ret (je_if (jt_isN (je_var 0)) je_str (je_join je_str (je_lc rfl sc_law_mark_text.nd (ji_seq (je_var 0)) (blkOk_by (N := ns_law_mark_text) (sc := defScope st_law_mark_text) (own := [("_law_piece", 1)]) (by decide +kernel)) (fun _ _ _ _ _ => (jgo_name 1 sc_law_mark_text.nd)) (fun _ _ _ _ _ => jts_nil) (fun _ _ _ _ _ => (je_strC (by rfl) z_str (je_var 1))))))))) ?_
  rintro as S Post hB ⟨m, rfl, hm, h⟩
  cases m with
  | none =>
    simp only [↓sNext, ↓sSeq_run, ↓sBreak, ↓sCont, ↓sDrop, ↓sRet, ↓sRetN, ↓sIf, ↓sAsg, ↓agName, ↓agNil, ↓agCons, ↓agTup, ↓sPar, ↓sFor, ↓aV, ↓lk, ↓aC, ↓aOp, ↓aUn, ↓aCall, ↓aNil, ↓aCons, ↓aIf, ↓aTest, ↓aAnd, ↓aOr, ↓aNot, ↓aAndV, ↓aOrV, ↓aNotV, ↓aI, ↓aI0, ↓aAdd, ↓aNeg, ↓aIsN, ↓isNone, ↓aTup, ↓purs, ↓aLst, ↓aLstO, ↓aIx, ↓gi0, ↓gi1, ↓gi2, ↓giN, ↓a1, ↓aLen, ↓aAbs, ↓aInt, ↓aStr, ↓aIsi, ↓btOf, ↓BT.isB, ↓aYes, ↓aiSeq, wipeL, ↓startL, List.map, List.set, List.replicate, List.length, List.append, List.cons_append, List.nil_append, ↓aMt, ↓isLs, ↓aLc, ↓aLcO, Bool.false_bne, Bool.true_bne, Bool.xor_false, Bool.false_xor, Bool.true_xor, Bool.not_true, Bool.not_false, decide_eq_true_eq, if_true, if_false, ite_true, ite_false, reduceIte, Bool.false_eq_true, List.getElem?_cons_zero, List.getElem?_cons_succ, ↓aLt, ↓aLe, ↓aGt, ↓aGe, ↓aSub, ↓aMul, ↓aDiv, ↓aMod, ↓aPow, true_and, and_true, mkO]
    exact .inl h
  | some m =>
    simp only [↓sNext, ↓sSeq_run, ↓sBreak, ↓sCont, ↓sDrop, ↓sRet, ↓sRetN, ↓sIf, ↓sAsg, ↓agName, ↓agNil, ↓agCons, ↓agTup, ↓sPar, ↓sFor, ↓aV, ↓lk, ↓aC, ↓aOp, ↓aUn, ↓aCall, ↓aNil, ↓aCons, ↓aIf, ↓aTest, ↓aAnd, ↓aOr, ↓aNot, ↓aAndV, ↓aOrV, ↓aNotV, ↓aI, ↓aI0, ↓aAdd, ↓aNeg, ↓aIsN, ↓isNone, ↓aTup, ↓purs, ↓aLst, ↓aLstO, ↓aIx, ↓gi0, ↓gi1, ↓gi2, ↓giN, ↓a1, ↓aLen, ↓aAbs, ↓aInt, ↓aStr, ↓aIsi, ↓btOf, ↓BT.isB, ↓aYes, ↓aiSeq, wipeL, ↓startL, List.map, List.set, List.replicate, List.length, List.append, List.cons_append, List.nil_append, ↓aMt, ↓isLs, ↓aLc, ↓aLcO, Bool.false_bne, Bool.true_bne, Bool.xor_false, Bool.false_xor, Bool.true_xor, Bool.not_true, Bool.not_false, decide_eq_true_eq, if_true, if_false, ite_true, ite_false, reduceIte, Bool.false_eq_true, List.getElem?_cons_zero, List.getElem?_cons_succ, ↓aLt, ↓aLe, ↓aGt, ↓aGe, ↓aSub, ↓aMul, ↓aDiv, ↓aMod, ↓aPow, true_and, and_true, mkO, mkP, aJoin']
    refine lc_allP m (fun n => .int (n : Nat)) (fun n => .str (dg n)) (fun n hn Q hq => ?_) ?_
    · have h10 := hm.2 n hn
      simp only [↓sNext, ↓sSeq_run, ↓sBreak, ↓sCont, ↓sDrop, ↓sRet, ↓sRetN, ↓sIf, ↓sAsg, ↓agName, ↓agNil, ↓agCons, ↓agTup, ↓sPar, ↓sFor, ↓aV, ↓lk, ↓aC, ↓aOp, ↓aUn, ↓aCall, ↓aNil, ↓aCons, ↓aIf, ↓aTest, ↓aAnd, ↓aOr, ↓aNot, ↓aAndV, ↓aOrV, ↓aNotV, ↓aI, ↓aI0, ↓aAdd, ↓aNeg, ↓aIsN, ↓isNone, ↓aTup, ↓purs, ↓aLst, ↓aLstO, ↓aIx, ↓gi0, ↓gi1, ↓gi2, ↓giN, ↓a1, ↓aLen, ↓aAbs, ↓aInt, ↓aStr, ↓aIsi, ↓btOf, ↓BT.isB, ↓aYes, ↓aiSeq, wipeL, ↓startL, List.map, List.set, List.replicate, List.length, List.append, List.cons_append, List.nil_append, ↓aMt, ↓isLs, ↓aLc, ↓aLcO, Bool.false_bne, Bool.true_bne, Bool.xor_false, Bool.false_xor, Bool.true_xor, Bool.not_true, Bool.not_false, decide_eq_true_eq, if_true, if_false, ite_true, ite_false, reduceIte, Bool.false_eq_true, List.getElem?_cons_zero, List.getElem?_cons_succ, ↓aLt, ↓aLe, ↓aGt, ↓aGe, ↓aSub, ↓aMul, ↓aDiv, ↓aMod, ↓aPow, true_and, and_true]
      exact ⟨log2_lt_of (k := 1920) (Nat.lt_of_lt_of_le (show ((n : Nat) : Int).natAbs < 2 ^ 4 by omega) (Nat.pow_le_pow_right (by decide) (by decide))) (by decide), hq⟩
    · exact ⟨_, rfl, m.map dg, by rw [List.map_map]; rfl, wd_fit hm, .inl h⟩
theorem cl_law_held_text (p : Pre K mg "_law_held_text" st_law_held_text) (c_law_mark_text : Cl Pg w K mg base 1 "_law_mark_text" st_law_mark_text ["_law_mark"] F_law_mark_text) : Cl Pg w K mg base 2 "_law_held_text" st_law_held_text ["_law_holding"] F_law_held_text := by
  refine p.cl (fun _ _ _ _ _ _ us hl => match us, hl with | [_], _ => rfl) fun f fd F => ?_
  refine fun_ok F sc_law_held_text len_law_held_text (fun cdv A outer s H E gd hr => have hu := hu65 hr; (jb_one (js_ret (je_join je_str (je_lc rfl sc_law_held_text.nd (ji_seq (je_var 0)) (blkOk_by (N := ns_law_held_text) (sc := defScope st_law_held_text) (own := [("_law_mark", 1)]) (by decide +kernel)) (fun _ _ _ _ _ => (jgo_name 1 sc_law_held_text.nd)) (fun _ _ _ _ _ => jts_nil) (fun _ _ _ _ _ => (je_own c_law_mark_text gd hr (ja_cons (je_var 1) ja_nil)))))))) ?_
  rintro as S Post hB ⟨r, rfl, hr, h⟩
  simp only [↓sNext, ↓sSeq_run, ↓sBreak, ↓sCont, ↓sDrop, ↓sRet, ↓sRetN, ↓sIf, ↓sAsg, ↓agName, ↓agNil, ↓agCons, ↓agTup, ↓sPar, ↓sFor, ↓aV, ↓lk, ↓aC, ↓aOp, ↓aUn, ↓aCall, ↓aNil, ↓aCons, ↓aIf, ↓aTest, ↓aAnd, ↓aOr, ↓aNot, ↓aAndV, ↓aOrV, ↓aNotV, ↓aI, ↓aI0, ↓aAdd, ↓aNeg, ↓aIsN, ↓isNone, ↓aTup, ↓purs, ↓aLst, ↓aLstO, ↓aIx, ↓gi0, ↓gi1, ↓gi2, ↓giN, ↓a1, ↓aLen, ↓aAbs, ↓aInt, ↓aStr, ↓aIsi, ↓btOf, ↓BT.isB, ↓aYes, ↓aiSeq, wipeL, ↓startL, List.map, List.set, List.replicate, List.length, List.append, List.cons_append, List.nil_append, ↓aMt, ↓isLs, ↓aLc, ↓aLcO, Bool.false_bne, Bool.true_bne, Bool.xor_false, Bool.false_xor, Bool.true_xor, Bool.not_true, Bool.not_false, decide_eq_true_eq, if_true, if_false, ite_true, ite_false, reduceIte, Bool.false_eq_true, List.getElem?_cons_zero, List.getElem?_cons_succ, ↓aLt, ↓aLe, ↓aGt, ↓aGe, ↓aSub, ↓aMul, ↓aDiv, ↓aMod, ↓aPow, true_and, and_true, aJoin', heldP]
  refine lc_allP r mkO (fun m => .str (showM m)) (fun m hm Q hq => ?_) ?_
  · simp only [↓sNext, ↓sSeq_run, ↓sBreak, ↓sCont, ↓sDrop, ↓sRet, ↓sRetN, ↓sIf, ↓sAsg, ↓agName, ↓agNil, ↓agCons, ↓agTup, ↓sPar, ↓sFor, ↓aV, ↓lk, ↓aC, ↓aOp, ↓aUn, ↓aCall, ↓aNil, ↓aCons, ↓aIf, ↓aTest, ↓aAnd, ↓aOr, ↓aNot, ↓aAndV, ↓aOrV, ↓aNotV, ↓aI, ↓aI0, ↓aAdd, ↓aNeg, ↓aIsN, ↓isNone, ↓aTup, ↓purs, ↓aLst, ↓aLstO, ↓aIx, ↓gi0, ↓gi1, ↓gi2, ↓giN, ↓a1, ↓aLen, ↓aAbs, ↓aInt, ↓aStr, ↓aIsi, ↓btOf, ↓BT.isB, ↓aYes, ↓aiSeq, wipeL, ↓startL, List.map, List.set, List.replicate, List.length, List.append, List.cons_append, List.nil_append, ↓aMt, ↓isLs, ↓aLc, ↓aLcO, Bool.false_bne, Bool.true_bne, Bool.xor_false, Bool.false_xor, Bool.true_xor, Bool.not_true, Bool.not_false, decide_eq_true_eq, if_true, if_false, ite_true, ite_false, reduceIte, Bool.false_eq_true, List.getElem?_cons_zero, List.getElem?_cons_succ, ↓aLt, ↓aLe, ↓aGt, ↓aGe, ↓aSub, ↓aMul, ↓aDiv, ↓aMod, ↓aPow, true_and, and_true]
    exact ⟨m, rfl, hr.2 m hm, hq⟩
  · exact ⟨_, rfl, r.map showM, by rw [List.map_map]; rfl, show_fit hr, .inl h⟩
def F_law_right : FT := fun as S Post => ∃ (T : List (Nat × P)) (r : List (List Nat)) (h : List (Option (List Nat))) (pl : Nat), as = [.p (towP T), .p (rowP r), .p (heldP h), .p (.int (pl : Nat))] ∧ T ≠ [] ∧ GoodR r ∧ (∀ m ∈ r, fits T m) ∧ GoodH h ∧ pl < 10 ^ 10 ∧ Post (.p (.bl true)) S
theorem len_law_right : ∀ as S Post, F_law_right as S Post → as.length = ["_law_some", "_law_marks_of", "_law_slots_of", "_law_place"].length := by
  rintro _ S Post ⟨_, _, _, _, rfl, _⟩; rfl
theorem repr_two {x : P} {n w : Nat} (hx : Fine n w x) (hn : n + 1 ≤ 60) (hw : 2 * (w + 1) ≤ 2 ^ 20) {Post : D → List O → Prop} {S : List O} (q : Post (.p (.str (P.lst [x, x]).py.shown)) S) : aRepr (.p (.lst [x, x])) S Post :=
  Fine.repr (fine_two hx hx hw) hn (Nat.le_refl _) rfl q
theorem ne_self (z : Str) : (z == z) = true := beq_self_eq_true z
theorem letter_len {m : List Nat} {pl : Nat} (hm : GoodM m) (hp : pl < 10 ^ 10) : (wd m ++ (":" : Str) ++ dg pl).length ≤ 6000 := by
  have h1 := wd_len hm
  have h2 := dg_len10 hp
  rw [app_len, app_len, len_col]
  omega
theorem ascii_letter (m : List Nat) (pl : Nat) : Ascii (wd m ++ (":" : Str) ++ dg pl) := ascii_app (ascii_app (ascii_wd m) (by unfold Ascii; decide +kernel)) (ascii_dg pl)
theorem cl_law_right (p : Pre K mg "_law_right" st_law_right) (z_repr : mg "repr" = none) (z_str : mg "str" = none) (c_show_row : Cl Pg w K mg base 2 "show_row" st_show_row ["row"] F_show_row) (c_show_held : Cl Pg w K mg base 2 "show_held" st_show_held ["held"] F_show_held) (c_show_letter : Cl Pg w K mg base 2 "show_letter" st_show_letter ["letter"] F_show_letter) (c_read_row : Cl Pg w K mg base 4 "read_row" st_read_row ["tower", "text"] F_read_row) (c_law_mark_text : Cl Pg w K mg base 1 "_law_mark_text" st_law_mark_text ["_law_mark"] F_law_mark_text) (c_law_held_text : Cl Pg w K mg base 2 "_law_held_text" st_law_held_text ["_law_holding"] F_law_held_text) : Cl Pg w K mg base 5 "_law_right" st_law_right ["_law_some", "_law_marks_of", "_law_slots_of", "_law_place"] F_law_right := by
  refine p.cl (fun _ _ _ _ _ _ us hl => match us, hl with | [_, _, _, _], _ => rfl) fun f fd F => ?_
  refine fun_ok F sc_law_right len_law_right (fun cdv A outer s H E gd hr => have hu := hu65 hr; (jb_cons (js_set 4 sc_law_right.nd (je_if (jt_ne hr (je_var 1) (je_tup ja_nil)) (je_join je_str (je_lc rfl sc_law_right.nd (ji_seq (je_var 1)) (blkOk_by (N := ns_law_right) (sc := defScope st_law_right) (own := [("_law_mark", 5)]) (by decide +kernel)) (fun _ _ _ _ _ => (jgo_name 5 sc_law_right.nd)) (fun _ _ _ _ _ => jts_nil) (fun _ _ _ _ _ => (je_own c_law_mark_text gd hr (ja_cons (je_var 5) ja_nil))))) je_str))
    (jb_cons (js_if (jt_ne hr (je_repr hr gd hu (by rfl) z_repr (je_lst (ja_cons (je_own c_show_row gd hr (ja_cons (je_var 1) ja_nil)) (ja_cons (je_ownK ["row"] (ordI 1) rfl c_show_row gd hr (fun _ _ _ _ _ _ ws hl => match ws, hl with | [_], _ => rfl) (jk_cons (je_var 1) jk_nil)) ja_nil)))) (je_repr hr gd hu (by rfl) z_repr (je_lst (ja_cons (je_var 4) (ja_cons (je_var 4) ja_nil))))) (jb_one (js_ret je_bl)) jb_nil)
    (jb_cons (js_if (jt_ne hr (je_repr hr gd hu (by rfl) z_repr (je_lst (ja_cons (je_own c_read_row gd hr (ja_cons (je_var 0) (ja_cons (je_var 4) ja_nil))) (ja_cons (je_ownK ["text", "tower"] ordS rfl c_read_row gd hr (fun _ _ _ _ _ _ ws hl => match ws, hl with | [_, _], _ => rfl) (jk_cons (je_var 4) (jk_cons (je_var 0) jk_nil))) ja_nil)))) (je_repr hr gd hu (by rfl) z_repr (je_lst (ja_cons (je_var 1) (ja_cons (je_var 1) ja_nil))))) (jb_one (js_ret je_bl)) jb_nil)
    (jb_cons (js_set 4 sc_law_right.nd (je_own c_law_held_text gd hr (ja_cons (je_var 2) ja_nil)))
    (jb_cons (js_if (jt_ne hr (je_repr hr gd hu (by rfl) z_repr (je_lst (ja_cons (je_own c_show_held gd hr (ja_cons (je_var 2) ja_nil)) (ja_cons (je_ownK ["held"] (ordI 1) rfl c_show_held gd hr (fun _ _ _ _ _ _ ws hl => match ws, hl with | [_], _ => rfl) (jk_cons (je_var 2) jk_nil)) ja_nil)))) (je_repr hr gd hu (by rfl) z_repr (je_lst (ja_cons (je_var 4) (ja_cons (je_var 4) ja_nil))))) (jb_one (js_ret je_bl)) jb_nil)
    (jb_cons (js_for PassesOwn.never rfl (ji_seq (je_var 1)) (jg_name 5 sc_law_right.nd) (jb_cons (js_set 4 sc_law_right.nd (je_add (je_add (je_own c_law_mark_text gd hr (ja_cons (je_var 5) ja_nil)) je_str) (je_strC (by rfl) z_str (je_var 3))))
    (jb_one (js_if (jt_ne hr (je_repr hr gd hu (by rfl) z_repr (je_lst (ja_cons (je_own c_show_letter gd hr (ja_cons (je_tup (ja_cons (je_var 5) (ja_cons (je_var 3) ja_nil))) ja_nil)) (ja_cons (je_ownK ["letter"] (ordI 1) rfl c_show_letter gd hr (fun _ _ _ _ _ _ ws hl => match ws, hl with | [_], _ => rfl) (jk_cons (je_tup (ja_cons (je_var 5) (ja_cons (je_var 3) ja_nil))) jk_nil)) ja_nil)))) (je_repr hr gd hu (by rfl) z_repr (je_lst (ja_cons (je_var 4) (ja_cons (je_var 4) ja_nil))))) (jb_one (js_ret je_bl)) jb_nil))))
    (jb_one (js_ret je_bl))))))))) ?_
  rintro as S Post hB ⟨T, r, h, pl, rfl, hT, hr, hf, hh, hp, hq⟩
  have fr : Fine 1 6000 (.str (rowT r)) := fine_text (ascii_row r) (by have := row_len hr; omega)
  have fh : Fine 1 6000 (.str (heldT h)) := fine_text (ascii_held h) (by have := held_len hh; omega)
  -- the page of the row
  refine seq_then (fun L' S' => S = S' ∧ ∃ l5, L' = [some (.p (towP T)), some (.p (rowP r)), some (.p (heldP h)), some (.p (.int (pl : Nat))), some (.p (.str (rowT r))), l5]) (fun L' S' hM => ?_) (fun N hN => ?_)
  case refine_2 =>
    simp only [↓sNext, ↓sBreak, ↓sCont, ↓sDrop, ↓sRet, ↓sRetN, ↓sIf, ↓sAsg, ↓agName, ↓agNil, ↓agCons, ↓agTup, ↓sPar, ↓sFor, ↓aV, ↓lk, ↓aC, ↓aOp, ↓aUn, ↓aCall, ↓aNil, ↓aCons, ↓aIf, ↓aTest, ↓aAnd, ↓aOr, ↓aNot, ↓aAndV, ↓aOrV, ↓aNotV, ↓aI, ↓aI0, ↓aAdd, ↓aNeg, ↓aIsN, ↓isNone, ↓aTup, ↓purs, ↓aLst, ↓aLstO, ↓aIx, ↓gi0, ↓gi1, ↓gi2, ↓giN, ↓a1, ↓aLen, ↓aAbs, ↓aInt, ↓aStr, ↓aIsi, ↓btOf, ↓BT.isB, ↓aYes, ↓aiSeq, wipeL, ↓startL, List.map, List.set, List.replicate, List.length, List.append, List.cons_append, List.nil_append, ↓aMt, ↓isLs, ↓aLc, ↓aLcO, Bool.false_bne, Bool.true_bne, Bool.xor_false, Bool.false_xor, Bool.true_xor, Bool.not_true, Bool.not_false, decide_eq_true_eq, if_true, if_false, ite_true, ite_false, reduceIte, Bool.false_eq_true, List.getElem?_cons_zero, List.getElem?_cons_succ, ↓aLt, ↓aLe, ↓aGt, ↓aGe, ↓aSub, ↓aMul, ↓aDiv, ↓aMod, ↓aPow, true_and, and_true]
    refine eq_nil_row hr ?_
    cases er : r.isEmpty with
    | true =>
      simp only [↓sNext, ↓sBreak, ↓sCont, ↓sDrop, ↓sRet, ↓sRetN, ↓sIf, ↓sAsg, ↓agName, ↓agNil, ↓agCons, ↓agTup, ↓sPar, ↓sFor, ↓aV, ↓lk, ↓aC, ↓aOp, ↓aUn, ↓aCall, ↓aNil, ↓aCons, ↓aIf, ↓aTest, ↓aAnd, ↓aOr, ↓aNot, ↓aAndV, ↓aOrV, ↓aNotV, ↓aI, ↓aI0, ↓aAdd, ↓aNeg, ↓aIsN, ↓isNone, ↓aTup, ↓purs, ↓aLst, ↓aLstO, ↓aIx, ↓gi0, ↓gi1, ↓gi2, ↓giN, ↓a1, ↓aLen, ↓aAbs, ↓aInt, ↓aStr, ↓aIsi, ↓btOf, ↓BT.isB, ↓aYes, ↓aiSeq, wipeL, ↓startL, List.map, List.set, List.replicate, List.length, List.append, List.cons_append, List.nil_append, ↓aMt, ↓isLs, ↓aLc, ↓aLcO, Bool.false_bne, Bool.true_bne, Bool.xor_false, Bool.false_xor, Bool.true_xor, Bool.not_true, Bool.not_false, decide_eq_true_eq, if_true, if_false, ite_true, ite_false, reduceIte, Bool.false_eq_true, List.getElem?_cons_zero, List.getElem?_cons_succ, ↓aLt, ↓aLe, ↓aGt, ↓aGe, ↓aSub, ↓aMul, ↓aDiv, ↓aMod, ↓aPow, true_and, and_true]
      refine hN _ _ ⟨rfl, none, ?_⟩
      rw [rowT, if_pos er]
    | false =>
      simp only [↓sNext, ↓sBreak, ↓sCont, ↓sDrop, ↓sRet, ↓sRetN, ↓sIf, ↓sAsg, ↓agName, ↓agNil, ↓agCons, ↓agTup, ↓sPar, ↓sFor, ↓aV, ↓lk, ↓aC, ↓aOp, ↓aUn, ↓aCall, ↓aNil, ↓aCons, ↓aIf, ↓aTest, ↓aAnd, ↓aOr, ↓aNot, ↓aAndV, ↓aOrV, ↓aNotV, ↓aI, ↓aI0, ↓aAdd, ↓aNeg, ↓aIsN, ↓isNone, ↓aTup, ↓purs, ↓aLst, ↓aLstO, ↓aIx, ↓gi0, ↓gi1, ↓gi2, ↓giN, ↓a1, ↓aLen, ↓aAbs, ↓aInt, ↓aStr, ↓aIsi, ↓btOf, ↓BT.isB, ↓aYes, ↓aiSeq, wipeL, ↓startL, List.map, List.set, List.replicate, List.length, List.append, List.cons_append, List.nil_append, ↓aMt, ↓isLs, ↓aLc, ↓aLcO, Bool.false_bne, Bool.true_bne, Bool.xor_false, Bool.false_xor, Bool.true_xor, Bool.not_true, Bool.not_false, decide_eq_true_eq, if_true, if_false, ite_true, ite_false, reduceIte, Bool.false_eq_true, List.getElem?_cons_zero, List.getElem?_cons_succ, ↓aLt, ↓aLe, ↓aGt, ↓aGe, ↓aSub, ↓aMul, ↓aDiv, ↓aMod, ↓aPow, true_and, and_true, aJoin', rowP]
      refine lc_allP r mkP (fun m => .str (wd m)) (fun m hm Q hQ => ?_) ?_
      · simp only [↓sNext, ↓sBreak, ↓sCont, ↓sDrop, ↓sRet, ↓sRetN, ↓sIf, ↓sAsg, ↓agName, ↓agNil, ↓agCons, ↓agTup, ↓sPar, ↓sFor, ↓aV, ↓lk, ↓aC, ↓aOp, ↓aUn, ↓aCall, ↓aNil, ↓aCons, ↓aIf, ↓aTest, ↓aAnd, ↓aOr, ↓aNot, ↓aAndV, ↓aOrV, ↓aNotV, ↓aI, ↓aI0, ↓aAdd, ↓aNeg, ↓aIsN, ↓isNone, ↓aTup, ↓purs, ↓aLst, ↓aLstO, ↓aIx, ↓gi0, ↓gi1, ↓gi2, ↓giN, ↓a1, ↓aLen, ↓aAbs, ↓aInt, ↓aStr, ↓aIsi, ↓btOf, ↓BT.isB, ↓aYes, ↓aiSeq, wipeL, ↓startL, List.map, List.set, List.replicate, List.length, List.append, List.cons_append, List.nil_append, ↓aMt, ↓isLs, ↓aLc, ↓aLcO, Bool.false_bne, Bool.true_bne, Bool.xor_false, Bool.false_xor, Bool.true_xor, Bool.not_true, Bool.not_false, decide_eq_true_eq, if_true, if_false, ite_true, ite_false, reduceIte, Bool.false_eq_true, List.getElem?_cons_zero, List.getElem?_cons_succ, ↓aLt, ↓aLe, ↓aGt, ↓aGe, ↓aSub, ↓aMul, ↓aDiv, ↓aMod, ↓aPow, true_and, and_true]
        exact ⟨some m, rfl, hr.2 m hm, hQ⟩
      · refine ⟨_, rfl, r.map wd, by rw [List.map_map]; rfl, row_fit hr, hN _ _ ⟨rfl, none, ?_⟩⟩
        rw [rowT, if_neg (by rw [er]; exact Bool.false_ne_true)]
        rfl
  obtain ⟨rfl, l5, rfl⟩ := hM
  -- show_row
  refine sq ?_
  simp only [↓sNext, ↓sBreak, ↓sCont, ↓sDrop, ↓sRet, ↓sRetN, ↓sIf, ↓sAsg, ↓agName, ↓agNil, ↓agCons, ↓agTup, ↓sPar, ↓sFor, ↓aV, ↓lk, ↓aC, ↓aOp, ↓aUn, ↓aCall, ↓aNil, ↓aCons, ↓aIf, ↓aTest, ↓aAnd, ↓aOr, ↓aNot, ↓aAndV, ↓aOrV, ↓aNotV, ↓aI, ↓aI0, ↓aAdd, ↓aNeg, ↓aIsN, ↓isNone, ↓aTup, ↓purs, ↓aLst, ↓aLstO, ↓aIx, ↓gi0, ↓gi1, ↓gi2, ↓giN, ↓a1, ↓aLen, ↓aAbs, ↓aInt, ↓aStr, ↓aIsi, ↓btOf, ↓BT.isB, ↓aYes, ↓aiSeq, wipeL, ↓startL, List.map, List.set, List.replicate, List.length, List.append, List.cons_append, List.nil_append, ↓aMt, ↓isLs, ↓aLc, ↓aLcO, Bool.false_bne, Bool.true_bne, Bool.xor_false, Bool.false_xor, Bool.true_xor, Bool.not_true, Bool.not_false, decide_eq_true_eq, if_true, if_false, ite_true, ite_false, reduceIte, Bool.false_eq_true, List.getElem?_cons_zero, List.getElem?_cons_succ, ↓aLt, ↓aLe, ↓aGt, ↓aGe, ↓aSub, ↓aMul, ↓aDiv, ↓aMod, ↓aPow, true_and, and_true, ordI, aEq]
  refine ⟨r, rfl, hr, ?_⟩
  simp only [↓sNext, ↓sBreak, ↓sCont, ↓sDrop, ↓sRet, ↓sRetN, ↓sIf, ↓sAsg, ↓agName, ↓agNil, ↓agCons, ↓agTup, ↓sPar, ↓sFor, ↓aV, ↓lk, ↓aC, ↓aOp, ↓aUn, ↓aCall, ↓aNil, ↓aCons, ↓aIf, ↓aTest, ↓aAnd, ↓aOr, ↓aNot, ↓aAndV, ↓aOrV, ↓aNotV, ↓aI, ↓aI0, ↓aAdd, ↓aNeg, ↓aIsN, ↓isNone, ↓aTup, ↓purs, ↓aLst, ↓aLstO, ↓aIx, ↓gi0, ↓gi1, ↓gi2, ↓giN, ↓a1, ↓aLen, ↓aAbs, ↓aInt, ↓aStr, ↓aIsi, ↓btOf, ↓BT.isB, ↓aYes, ↓aiSeq, wipeL, ↓startL, List.map, List.set, List.replicate, List.length, List.append, List.cons_append, List.nil_append, ↓aMt, ↓isLs, ↓aLc, ↓aLcO, Bool.false_bne, Bool.true_bne, Bool.xor_false, Bool.false_xor, Bool.true_xor, Bool.not_true, Bool.not_false, decide_eq_true_eq, if_true, if_false, ite_true, ite_false, reduceIte, Bool.false_eq_true, List.getElem?_cons_zero, List.getElem?_cons_succ, ↓aLt, ↓aLe, ↓aGt, ↓aGe, ↓aSub, ↓aMul, ↓aDiv, ↓aMod, ↓aPow, true_and, and_true]
  refine ⟨r, rfl, hr, ?_⟩
  simp only [↓sNext, ↓sBreak, ↓sCont, ↓sDrop, ↓sRet, ↓sRetN, ↓sIf, ↓sAsg, ↓agName, ↓agNil, ↓agCons, ↓agTup, ↓sPar, ↓sFor, ↓aV, ↓lk, ↓aC, ↓aOp, ↓aUn, ↓aCall, ↓aNil, ↓aCons, ↓aIf, ↓aTest, ↓aAnd, ↓aOr, ↓aNot, ↓aAndV, ↓aOrV, ↓aNotV, ↓aI, ↓aI0, ↓aAdd, ↓aNeg, ↓aIsN, ↓isNone, ↓aTup, ↓purs, ↓aLst, ↓aLstO, ↓aIx, ↓gi0, ↓gi1, ↓gi2, ↓giN, ↓a1, ↓aLen, ↓aAbs, ↓aInt, ↓aStr, ↓aIsi, ↓btOf, ↓BT.isB, ↓aYes, ↓aiSeq, wipeL, ↓startL, List.map, List.set, List.replicate, List.length, List.append, List.cons_append, List.nil_append, ↓aMt, ↓isLs, ↓aLc, ↓aLcO, Bool.false_bne, Bool.true_bne, Bool.xor_false, Bool.false_xor, Bool.true_xor, Bool.not_true, Bool.not_false, decide_eq_true_eq, if_true, if_false, ite_true, ite_false, reduceIte, Bool.false_eq_true, List.getElem?_cons_zero, List.getElem?_cons_succ, ↓aLt, ↓aLe, ↓aGt, ↓aGe, ↓aSub, ↓aMul, ↓aDiv, ↓aMod, ↓aPow, true_and, and_true]
  refine repr_two fr (by decide) (by decide) ?_
  refine repr_two fr (by decide) (by decide) ?_
  simp only [ne_self, ↓sNext, ↓sBreak, ↓sCont, ↓sDrop, ↓sRet, ↓sRetN, ↓sIf, ↓sAsg, ↓agName, ↓agNil, ↓agCons, ↓agTup, ↓sPar, ↓sFor, ↓aV, ↓lk, ↓aC, ↓aOp, ↓aUn, ↓aCall, ↓aNil, ↓aCons, ↓aIf, ↓aTest, ↓aAnd, ↓aOr, ↓aNot, ↓aAndV, ↓aOrV, ↓aNotV, ↓aI, ↓aI0, ↓aAdd, ↓aNeg, ↓aIsN, ↓isNone, ↓aTup, ↓purs, ↓aLst, ↓aLstO, ↓aIx, ↓gi0, ↓gi1, ↓gi2, ↓giN, ↓a1, ↓aLen, ↓aAbs, ↓aInt, ↓aStr, ↓aIsi, ↓btOf, ↓BT.isB, ↓aYes, ↓aiSeq, wipeL, ↓startL, List.map, List.set, List.replicate, List.length, List.append, List.cons_append, List.nil_append, ↓aMt, ↓isLs, ↓aLc, ↓aLcO, Bool.false_bne, Bool.true_bne, Bool.xor_false, Bool.false_xor, Bool.true_xor, Bool.not_true, Bool.not_false, decide_eq_true_eq, if_true, if_false, ite_true, ite_false, reduceIte, Bool.false_eq_true, List.getElem?_cons_zero, List.getElem?_cons_succ, ↓aLt, ↓aLe, ↓aGt, ↓aGe, ↓aSub, ↓aMul, ↓aDiv, ↓aMod, ↓aPow, true_and, and_true]
  -- read_row
  refine sq ?_
  simp only [↓sNext, ↓sBreak, ↓sCont, ↓sDrop, ↓sRet, ↓sRetN, ↓sIf, ↓sAsg, ↓agName, ↓agNil, ↓agCons, ↓agTup, ↓sPar, ↓sFor, ↓aV, ↓lk, ↓aC, ↓aOp, ↓aUn, ↓aCall, ↓aNil, ↓aCons, ↓aIf, ↓aTest, ↓aAnd, ↓aOr, ↓aNot, ↓aAndV, ↓aOrV, ↓aNotV, ↓aI, ↓aI0, ↓aAdd, ↓aNeg, ↓aIsN, ↓isNone, ↓aTup, ↓purs, ↓aLst, ↓aLstO, ↓aIx, ↓gi0, ↓gi1, ↓gi2, ↓giN, ↓a1, ↓aLen, ↓aAbs, ↓aInt, ↓aStr, ↓aIsi, ↓btOf, ↓BT.isB, ↓aYes, ↓aiSeq, wipeL, ↓startL, List.map, List.set, List.replicate, List.length, List.append, List.cons_append, List.nil_append, ↓aMt, ↓isLs, ↓aLc, ↓aLcO, Bool.false_bne, Bool.true_bne, Bool.xor_false, Bool.false_xor, Bool.true_xor, Bool.not_true, Bool.not_false, decide_eq_true_eq, if_true, if_false, ite_true, ite_false, reduceIte, Bool.false_eq_true, List.getElem?_cons_zero, List.getElem?_cons_succ, ↓aLt, ↓aLe, ↓aGt, ↓aGe, ↓aSub, ↓aMul, ↓aDiv, ↓aMod, ↓aPow, true_and, and_true, ordS, sw2, aEq]
  refine ⟨T, r, rfl, hr, hT, hf, ?_⟩
  simp only [↓sNext, ↓sBreak, ↓sCont, ↓sDrop, ↓sRet, ↓sRetN, ↓sIf, ↓sAsg, ↓agName, ↓agNil, ↓agCons, ↓agTup, ↓sPar, ↓sFor, ↓aV, ↓lk, ↓aC, ↓aOp, ↓aUn, ↓aCall, ↓aNil, ↓aCons, ↓aIf, ↓aTest, ↓aAnd, ↓aOr, ↓aNot, ↓aAndV, ↓aOrV, ↓aNotV, ↓aI, ↓aI0, ↓aAdd, ↓aNeg, ↓aIsN, ↓isNone, ↓aTup, ↓purs, ↓aLst, ↓aLstO, ↓aIx, ↓gi0, ↓gi1, ↓gi2, ↓giN, ↓a1, ↓aLen, ↓aAbs, ↓aInt, ↓aStr, ↓aIsi, ↓btOf, ↓BT.isB, ↓aYes, ↓aiSeq, wipeL, ↓startL, List.map, List.set, List.replicate, List.length, List.append, List.cons_append, List.nil_append, ↓aMt, ↓isLs, ↓aLc, ↓aLcO, Bool.false_bne, Bool.true_bne, Bool.xor_false, Bool.false_xor, Bool.true_xor, Bool.not_true, Bool.not_false, decide_eq_true_eq, if_true, if_false, ite_true, ite_false, reduceIte, Bool.false_eq_true, List.getElem?_cons_zero, List.getElem?_cons_succ, ↓aLt, ↓aLe, ↓aGt, ↓aGe, ↓aSub, ↓aMul, ↓aDiv, ↓aMod, ↓aPow, true_and, and_true, sw2]
  refine ⟨T, r, rfl, hr, hT, hf, ?_⟩
  simp only [↓sNext, ↓sBreak, ↓sCont, ↓sDrop, ↓sRet, ↓sRetN, ↓sIf, ↓sAsg, ↓agName, ↓agNil, ↓agCons, ↓agTup, ↓sPar, ↓sFor, ↓aV, ↓lk, ↓aC, ↓aOp, ↓aUn, ↓aCall, ↓aNil, ↓aCons, ↓aIf, ↓aTest, ↓aAnd, ↓aOr, ↓aNot, ↓aAndV, ↓aOrV, ↓aNotV, ↓aI, ↓aI0, ↓aAdd, ↓aNeg, ↓aIsN, ↓isNone, ↓aTup, ↓purs, ↓aLst, ↓aLstO, ↓aIx, ↓gi0, ↓gi1, ↓gi2, ↓giN, ↓a1, ↓aLen, ↓aAbs, ↓aInt, ↓aStr, ↓aIsi, ↓btOf, ↓BT.isB, ↓aYes, ↓aiSeq, wipeL, ↓startL, List.map, List.set, List.replicate, List.length, List.append, List.cons_append, List.nil_append, ↓aMt, ↓isLs, ↓aLc, ↓aLcO, Bool.false_bne, Bool.true_bne, Bool.xor_false, Bool.false_xor, Bool.true_xor, Bool.not_true, Bool.not_false, decide_eq_true_eq, if_true, if_false, ite_true, ite_false, reduceIte, Bool.false_eq_true, List.getElem?_cons_zero, List.getElem?_cons_succ, ↓aLt, ↓aLe, ↓aGt, ↓aGe, ↓aSub, ↓aMul, ↓aDiv, ↓aMod, ↓aPow, true_and, and_true]
  refine repr_two (fine_row hr) (by decide) (by decide) ?_
  refine repr_two (fine_row hr) (by decide) (by decide) ?_
  simp only [ne_self, ↓sNext, ↓sBreak, ↓sCont, ↓sDrop, ↓sRet, ↓sRetN, ↓sIf, ↓sAsg, ↓agName, ↓agNil, ↓agCons, ↓agTup, ↓sPar, ↓sFor, ↓aV, ↓lk, ↓aC, ↓aOp, ↓aUn, ↓aCall, ↓aNil, ↓aCons, ↓aIf, ↓aTest, ↓aAnd, ↓aOr, ↓aNot, ↓aAndV, ↓aOrV, ↓aNotV, ↓aI, ↓aI0, ↓aAdd, ↓aNeg, ↓aIsN, ↓isNone, ↓aTup, ↓purs, ↓aLst, ↓aLstO, ↓aIx, ↓gi0, ↓gi1, ↓gi2, ↓giN, ↓a1, ↓aLen, ↓aAbs, ↓aInt, ↓aStr, ↓aIsi, ↓btOf, ↓BT.isB, ↓aYes, ↓aiSeq, wipeL, ↓startL, List.map, List.set, List.replicate, List.length, List.append, List.cons_append, List.nil_append, ↓aMt, ↓isLs, ↓aLc, ↓aLcO, Bool.false_bne, Bool.true_bne, Bool.xor_false, Bool.false_xor, Bool.true_xor, Bool.not_true, Bool.not_false, decide_eq_true_eq, if_true, if_false, ite_true, ite_false, reduceIte, Bool.false_eq_true, List.getElem?_cons_zero, List.getElem?_cons_succ, ↓aLt, ↓aLe, ↓aGt, ↓aGe, ↓aSub, ↓aMul, ↓aDiv, ↓aMod, ↓aPow, true_and, and_true]
  -- the page of the holding
  refine sq ?_
  simp only [↓sNext, ↓sBreak, ↓sCont, ↓sDrop, ↓sRet, ↓sRetN, ↓sIf, ↓sAsg, ↓agName, ↓agNil, ↓agCons, ↓agTup, ↓sPar, ↓sFor, ↓aV, ↓lk, ↓aC, ↓aOp, ↓aUn, ↓aCall, ↓aNil, ↓aCons, ↓aIf, ↓aTest, ↓aAnd, ↓aOr, ↓aNot, ↓aAndV, ↓aOrV, ↓aNotV, ↓aI, ↓aI0, ↓aAdd, ↓aNeg, ↓aIsN, ↓isNone, ↓aTup, ↓purs, ↓aLst, ↓aLstO, ↓aIx, ↓gi0, ↓gi1, ↓gi2, ↓giN, ↓a1, ↓aLen, ↓aAbs, ↓aInt, ↓aStr, ↓aIsi, ↓btOf, ↓BT.isB, ↓aYes, ↓aiSeq, wipeL, ↓startL, List.map, List.set, List.replicate, List.length, List.append, List.cons_append, List.nil_append, ↓aMt, ↓isLs, ↓aLc, ↓aLcO, Bool.false_bne, Bool.true_bne, Bool.xor_false, Bool.false_xor, Bool.true_xor, Bool.not_true, Bool.not_false, decide_eq_true_eq, if_true, if_false, ite_true, ite_false, reduceIte, Bool.false_eq_true, List.getElem?_cons_zero, List.getElem?_cons_succ, ↓aLt, ↓aLe, ↓aGt, ↓aGe, ↓aSub, ↓aMul, ↓aDiv, ↓aMod, ↓aPow, true_and, and_true]
  refine ⟨h, rfl, hh, ?_⟩
  refine sq ?_
  simp only [↓sNext, ↓sBreak, ↓sCont, ↓sDrop, ↓sRet, ↓sRetN, ↓sIf, ↓sAsg, ↓agName, ↓agNil, ↓agCons, ↓agTup, ↓sPar, ↓sFor, ↓aV, ↓lk, ↓aC, ↓aOp, ↓aUn, ↓aCall, ↓aNil, ↓aCons, ↓aIf, ↓aTest, ↓aAnd, ↓aOr, ↓aNot, ↓aAndV, ↓aOrV, ↓aNotV, ↓aI, ↓aI0, ↓aAdd, ↓aNeg, ↓aIsN, ↓isNone, ↓aTup, ↓purs, ↓aLst, ↓aLstO, ↓aIx, ↓gi0, ↓gi1, ↓gi2, ↓giN, ↓a1, ↓aLen, ↓aAbs, ↓aInt, ↓aStr, ↓aIsi, ↓btOf, ↓BT.isB, ↓aYes, ↓aiSeq, wipeL, ↓startL, List.map, List.set, List.replicate, List.length, List.append, List.cons_append, List.nil_append, ↓aMt, ↓isLs, ↓aLc, ↓aLcO, Bool.false_bne, Bool.true_bne, Bool.xor_false, Bool.false_xor, Bool.true_xor, Bool.not_true, Bool.not_false, decide_eq_true_eq, if_true, if_false, ite_true, ite_false, reduceIte, Bool.false_eq_true, List.getElem?_cons_zero, List.getElem?_cons_succ, ↓aLt, ↓aLe, ↓aGt, ↓aGe, ↓aSub, ↓aMul, ↓aDiv, ↓aMod, ↓aPow, true_and, and_true, ordI, aEq]
  refine ⟨h, rfl, hh, ?_⟩
  simp only [↓sNext, ↓sBreak, ↓sCont, ↓sDrop, ↓sRet, ↓sRetN, ↓sIf, ↓sAsg, ↓agName, ↓agNil, ↓agCons, ↓agTup, ↓sPar, ↓sFor, ↓aV, ↓lk, ↓aC, ↓aOp, ↓aUn, ↓aCall, ↓aNil, ↓aCons, ↓aIf, ↓aTest, ↓aAnd, ↓aOr, ↓aNot, ↓aAndV, ↓aOrV, ↓aNotV, ↓aI, ↓aI0, ↓aAdd, ↓aNeg, ↓aIsN, ↓isNone, ↓aTup, ↓purs, ↓aLst, ↓aLstO, ↓aIx, ↓gi0, ↓gi1, ↓gi2, ↓giN, ↓a1, ↓aLen, ↓aAbs, ↓aInt, ↓aStr, ↓aIsi, ↓btOf, ↓BT.isB, ↓aYes, ↓aiSeq, wipeL, ↓startL, List.map, List.set, List.replicate, List.length, List.append, List.cons_append, List.nil_append, ↓aMt, ↓isLs, ↓aLc, ↓aLcO, Bool.false_bne, Bool.true_bne, Bool.xor_false, Bool.false_xor, Bool.true_xor, Bool.not_true, Bool.not_false, decide_eq_true_eq, if_true, if_false, ite_true, ite_false, reduceIte, Bool.false_eq_true, List.getElem?_cons_zero, List.getElem?_cons_succ, ↓aLt, ↓aLe, ↓aGt, ↓aGe, ↓aSub, ↓aMul, ↓aDiv, ↓aMod, ↓aPow, true_and, and_true]
  refine ⟨h, rfl, hh, ?_⟩
  simp only [↓sNext, ↓sBreak, ↓sCont, ↓sDrop, ↓sRet, ↓sRetN, ↓sIf, ↓sAsg, ↓agName, ↓agNil, ↓agCons, ↓agTup, ↓sPar, ↓sFor, ↓aV, ↓lk, ↓aC, ↓aOp, ↓aUn, ↓aCall, ↓aNil, ↓aCons, ↓aIf, ↓aTest, ↓aAnd, ↓aOr, ↓aNot, ↓aAndV, ↓aOrV, ↓aNotV, ↓aI, ↓aI0, ↓aAdd, ↓aNeg, ↓aIsN, ↓isNone, ↓aTup, ↓purs, ↓aLst, ↓aLstO, ↓aIx, ↓gi0, ↓gi1, ↓gi2, ↓giN, ↓a1, ↓aLen, ↓aAbs, ↓aInt, ↓aStr, ↓aIsi, ↓btOf, ↓BT.isB, ↓aYes, ↓aiSeq, wipeL, ↓startL, List.map, List.set, List.replicate, List.length, List.append, List.cons_append, List.nil_append, ↓aMt, ↓isLs, ↓aLc, ↓aLcO, Bool.false_bne, Bool.true_bne, Bool.xor_false, Bool.false_xor, Bool.true_xor, Bool.not_true, Bool.not_false, decide_eq_true_eq, if_true, if_false, ite_true, ite_false, reduceIte, Bool.false_eq_true, List.getElem?_cons_zero, List.getElem?_cons_succ, ↓aLt, ↓aLe, ↓aGt, ↓aGe, ↓aSub, ↓aMul, ↓aDiv, ↓aMod, ↓aPow, true_and, and_true]
  refine repr_two fh (by decide) (by decide) ?_
  refine repr_two fh (by decide) (by decide) ?_
  simp only [ne_self, ↓sNext, ↓sBreak, ↓sCont, ↓sDrop, ↓sRet, ↓sRetN, ↓sIf, ↓sAsg, ↓agName, ↓agNil, ↓agCons, ↓agTup, ↓sPar, ↓sFor, ↓aV, ↓lk, ↓aC, ↓aOp, ↓aUn, ↓aCall, ↓aNil, ↓aCons, ↓aIf, ↓aTest, ↓aAnd, ↓aOr, ↓aNot, ↓aAndV, ↓aOrV, ↓aNotV, ↓aI, ↓aI0, ↓aAdd, ↓aNeg, ↓aIsN, ↓isNone, ↓aTup, ↓purs, ↓aLst, ↓aLstO, ↓aIx, ↓gi0, ↓gi1, ↓gi2, ↓giN, ↓a1, ↓aLen, ↓aAbs, ↓aInt, ↓aStr, ↓aIsi, ↓btOf, ↓BT.isB, ↓aYes, ↓aiSeq, wipeL, ↓startL, List.map, List.set, List.replicate, List.length, List.append, List.cons_append, List.nil_append, ↓aMt, ↓isLs, ↓aLc, ↓aLcO, Bool.false_bne, Bool.true_bne, Bool.xor_false, Bool.false_xor, Bool.true_xor, Bool.not_true, Bool.not_false, decide_eq_true_eq, if_true, if_false, ite_true, ite_false, reduceIte, Bool.false_eq_true, List.getElem?_cons_zero, List.getElem?_cons_succ, ↓aLt, ↓aLe, ↓aGt, ↓aGe, ↓aSub, ↓aMul, ↓aDiv, ↓aMod, ↓aPow, true_and, and_true]
  -- the letters
  refine sq ?_
  simp only [↓sNext, ↓sBreak, ↓sCont, ↓sDrop, ↓sRet, ↓sRetN, ↓sIf, ↓sAsg, ↓agName, ↓agNil, ↓agCons, ↓agTup, ↓sPar, ↓sFor, ↓aV, ↓lk, ↓aC, ↓aOp, ↓aUn, ↓aCall, ↓aNil, ↓aCons, ↓aIf, ↓aTest, ↓aAnd, ↓aOr, ↓aNot, ↓aAndV, ↓aOrV, ↓aNotV, ↓aI, ↓aI0, ↓aAdd, ↓aNeg, ↓aIsN, ↓isNone, ↓aTup, ↓purs, ↓aLst, ↓aLstO, ↓aIx, ↓gi0, ↓gi1, ↓gi2, ↓giN, ↓a1, ↓aLen, ↓aAbs, ↓aInt, ↓aStr, ↓aIsi, ↓btOf, ↓BT.isB, ↓aYes, ↓aiSeq, wipeL, ↓startL, List.map, List.set, List.replicate, List.length, List.append, List.cons_append, List.nil_append, ↓aMt, ↓isLs, ↓aLc, ↓aLcO, Bool.false_bne, Bool.true_bne, Bool.xor_false, Bool.false_xor, Bool.true_xor, Bool.not_true, Bool.not_false, decide_eq_true_eq, if_true, if_false, ite_true, ite_false, reduceIte, Bool.false_eq_true, List.getElem?_cons_zero, List.getElem?_cons_succ, ↓aLt, ↓aLe, ↓aGt, ↓aGe, ↓aSub, ↓aMul, ↓aDiv, ↓aMod, ↓aPow, true_and, and_true, rowP]
  refine for_go (fun i L S' => S' = S ∧ ∃ l4 l5, L = [some (.p (towP T)), some (.p (rowP r)), some (.p (heldP h)), some (.p (.int (pl : Nat))), l4, l5]) (fun _ _ _ _ => trivial) (fun i x L S' N hx hI hN => ?_) (fun L S' hI => ?_) ⟨rfl, _, _, rfl⟩
  · obtain ⟨rfl, l4, l5, rfl⟩ := hI
    rw [List.map_map, List.getElem?_map] at hx
    cases em : r[i]? with
    | none => rw [em] at hx; cases hx
    | some m =>
      rw [em] at hx
      obtain rfl : D.p (mkP m) = x := Option.some.inj hx
      have hm := hr.2 m (List.mem_of_getElem? em)
      have fl : Fine 1 6000 (.str (wd m ++ (":" : Str) ++ dg pl)) := fine_text (ascii_letter m pl) (letter_len hm hp)
      have h1 := wd_len hm
      have h2 := dg_len10 hp
      simp only [↓sNext, ↓sBreak, ↓sCont, ↓sDrop, ↓sRet, ↓sRetN, ↓sIf, ↓sAsg, ↓agName, ↓agNil, ↓agCons, ↓agTup, ↓sPar, ↓sFor, ↓aV, ↓lk, ↓aC, ↓aOp, ↓aUn, ↓aCall, ↓aNil, ↓aCons, ↓aIf, ↓aTest, ↓aAnd, ↓aOr, ↓aNot, ↓aAndV, ↓aOrV, ↓aNotV, ↓aI, ↓aI0, ↓aAdd, ↓aNeg, ↓aIsN, ↓isNone, ↓aTup, ↓purs, ↓aLst, ↓aLstO, ↓aIx, ↓gi0, ↓gi1, ↓gi2, ↓giN, ↓a1, ↓aLen, ↓aAbs, ↓aInt, ↓aStr, ↓aIsi, ↓btOf, ↓BT.isB, ↓aYes, ↓aiSeq, wipeL, ↓startL, List.map, List.set, List.replicate, List.length, List.append, List.cons_append, List.nil_append, ↓aMt, ↓isLs, ↓aLc, ↓aLcO, Bool.false_bne, Bool.true_bne, Bool.xor_false, Bool.false_xor, Bool.true_xor, Bool.not_true, Bool.not_false, decide_eq_true_eq, if_true, if_false, ite_true, ite_false, reduceIte, Bool.false_eq_true, List.getElem?_cons_zero, List.getElem?_cons_succ, ↓aLt, ↓aLe, ↓aGt, ↓aGe, ↓aSub, ↓aMul, ↓aDiv, ↓aMod, ↓aPow, true_and, and_true]
      refine sq ?_
      simp only [↓sNext, ↓sBreak, ↓sCont, ↓sDrop, ↓sRet, ↓sRetN, ↓sIf, ↓sAsg, ↓agName, ↓agNil, ↓agCons, ↓agTup, ↓sPar, ↓sFor, ↓aV, ↓lk, ↓aC, ↓aOp, ↓aUn, ↓aCall, ↓aNil, ↓aCons, ↓aIf, ↓aTest, ↓aAnd, ↓aOr, ↓aNot, ↓aAndV, ↓aOrV, ↓aNotV, ↓aI, ↓aI0, ↓aAdd, ↓aNeg, ↓aIsN, ↓isNone, ↓aTup, ↓purs, ↓aLst, ↓aLstO, ↓aIx, ↓gi0, ↓gi1, ↓gi2, ↓giN, ↓a1, ↓aLen, ↓aAbs, ↓aInt, ↓aStr, ↓aIsi, ↓btOf, ↓BT.isB, ↓aYes, ↓aiSeq, wipeL, ↓startL, List.map, List.set, List.replicate, List.length, List.append, List.cons_append, List.nil_append, ↓aMt, ↓isLs, ↓aLc, ↓aLcO, Bool.false_bne, Bool.true_bne, Bool.xor_false, Bool.false_xor, Bool.true_xor, Bool.not_true, Bool.not_false, decide_eq_true_eq, if_true, if_false, ite_true, ite_false, reduceIte, Bool.false_eq_true, List.getElem?_cons_zero, List.getElem?_cons_succ, ↓aLt, ↓aLe, ↓aGt, ↓aGe, ↓aSub, ↓aMul, ↓aDiv, ↓aMod, ↓aPow, true_and, and_true]
      refine ⟨some m, rfl, hm, ?_⟩
      simp only [↓sNext, ↓sBreak, ↓sCont, ↓sDrop, ↓sRet, ↓sRetN, ↓sIf, ↓sAsg, ↓agName, ↓agNil, ↓agCons, ↓agTup, ↓sPar, ↓sFor, ↓aV, ↓lk, ↓aC, ↓aOp, ↓aUn, ↓aCall, ↓aNil, ↓aCons, ↓aIf, ↓aTest, ↓aAnd, ↓aOr, ↓aNot, ↓aAndV, ↓aOrV, ↓aNotV, ↓aI, ↓aI0, ↓aAdd, ↓aNeg, ↓aIsN, ↓isNone, ↓aTup, ↓purs, ↓aLst, ↓aLstO, ↓aIx, ↓gi0, ↓gi1, ↓gi2, ↓giN, ↓a1, ↓aLen, ↓aAbs, ↓aInt, ↓aStr, ↓aIsi, ↓btOf, ↓BT.isB, ↓aYes, ↓aiSeq, wipeL, ↓startL, List.map, List.set, List.replicate, List.length, List.append, List.cons_append, List.nil_append, ↓aMt, ↓isLs, ↓aLc, ↓aLcO, Bool.false_bne, Bool.true_bne, Bool.xor_false, Bool.false_xor, Bool.true_xor, Bool.not_true, Bool.not_false, decide_eq_true_eq, if_true, if_false, ite_true, ite_false, reduceIte, Bool.false_eq_true, List.getElem?_cons_zero, List.getElem?_cons_succ, ↓aLt, ↓aLe, ↓aGt, ↓aGe, ↓aSub, ↓aMul, ↓aDiv, ↓aMod, ↓aPow, true_and, and_true, showM]
      refine ⟨small_sl (by rw [len_col]; omega), str_ok hp, small_sl (by rw [app_len, len_col]; show _ + (dg pl).length ≤ _; omega), ?_⟩
      simp only [↓sNext, ↓sBreak, ↓sCont, ↓sDrop, ↓sRet, ↓sRetN, ↓sIf, ↓sAsg, ↓agName, ↓agNil, ↓agCons, ↓agTup, ↓sPar, ↓sFor, ↓aV, ↓lk, ↓aC, ↓aOp, ↓aUn, ↓aCall, ↓aNil, ↓aCons, ↓aIf, ↓aTest, ↓aAnd, ↓aOr, ↓aNot, ↓aAndV, ↓aOrV, ↓aNotV, ↓aI, ↓aI0, ↓aAdd, ↓aNeg, ↓aIsN, ↓isNone, ↓aTup, ↓purs, ↓aLst, ↓aLstO, ↓aIx, ↓gi0, ↓gi1, ↓gi2, ↓giN, ↓a1, ↓aLen, ↓aAbs, ↓aInt, ↓aStr, ↓aIsi, ↓btOf, ↓BT.isB, ↓aYes, ↓aiSeq, wipeL, ↓startL, List.map, List.set, List.replicate, List.length, List.append, List.cons_append, List.nil_append, ↓aMt, ↓isLs, ↓aLc, ↓aLcO, Bool.false_bne, Bool.true_bne, Bool.xor_false, Bool.false_xor, Bool.true_xor, Bool.not_true, Bool.not_false, decide_eq_true_eq, if_true, if_false, ite_true, ite_false, reduceIte, Bool.false_eq_true, List.getElem?_cons_zero, List.getElem?_cons_succ, ↓aLt, ↓aLe, ↓aGt, ↓aGe, ↓aSub, ↓aMul, ↓aDiv, ↓aMod, ↓aPow, true_and, and_true, ordI, aEq]
      refine ⟨some m, pl, rfl, hm, hp, ?_⟩
      simp only [↓sNext, ↓sBreak, ↓sCont, ↓sDrop, ↓sRet, ↓sRetN, ↓sIf, ↓sAsg, ↓agName, ↓agNil, ↓agCons, ↓agTup, ↓sPar, ↓sFor, ↓aV, ↓lk, ↓aC, ↓aOp, ↓aUn, ↓aCall, ↓aNil, ↓aCons, ↓aIf, ↓aTest, ↓aAnd, ↓aOr, ↓aNot, ↓aAndV, ↓aOrV, ↓aNotV, ↓aI, ↓aI0, ↓aAdd, ↓aNeg, ↓aIsN, ↓isNone, ↓aTup, ↓purs, ↓aLst, ↓aLstO, ↓aIx, ↓gi0, ↓gi1, ↓gi2, ↓giN, ↓a1, ↓aLen, ↓aAbs, ↓aInt, ↓aStr, ↓aIsi, ↓btOf, ↓BT.isB, ↓aYes, ↓aiSeq, wipeL, ↓startL, List.map, List.set, List.replicate, List.length, List.append, List.cons_append, List.nil_append, ↓aMt, ↓isLs, ↓aLc, ↓aLcO, Bool.false_bne, Bool.true_bne, Bool.xor_false, Bool.false_xor, Bool.true_xor, Bool.not_true, Bool.not_false, decide_eq_true_eq, if_true, if_false, ite_true, ite_false, reduceIte, Bool.false_eq_true, List.getElem?_cons_zero, List.getElem?_cons_succ, ↓aLt, ↓aLe, ↓aGt, ↓aGe, ↓aSub, ↓aMul, ↓aDiv, ↓aMod, ↓aPow, true_and, and_true]
      refine ⟨some m, pl, rfl, hm, hp, ?_⟩
      simp only [↓sNext, ↓sBreak, ↓sCont, ↓sDrop, ↓sRet, ↓sRetN, ↓sIf, ↓sAsg, ↓agName, ↓agNil, ↓agCons, ↓agTup, ↓sPar, ↓sFor, ↓aV, ↓lk, ↓aC, ↓aOp, ↓aUn, ↓aCall, ↓aNil, ↓aCons, ↓aIf, ↓aTest, ↓aAnd, ↓aOr, ↓aNot, ↓aAndV, ↓aOrV, ↓aNotV, ↓aI, ↓aI0, ↓aAdd, ↓aNeg, ↓aIsN, ↓isNone, ↓aTup, ↓purs, ↓aLst, ↓aLstO, ↓aIx, ↓gi0, ↓gi1, ↓gi2, ↓giN, ↓a1, ↓aLen, ↓aAbs, ↓aInt, ↓aStr, ↓aIsi, ↓btOf, ↓BT.isB, ↓aYes, ↓aiSeq, wipeL, ↓startL, List.map, List.set, List.replicate, List.length, List.append, List.cons_append, List.nil_append, ↓aMt, ↓isLs, ↓aLc, ↓aLcO, Bool.false_bne, Bool.true_bne, Bool.xor_false, Bool.false_xor, Bool.true_xor, Bool.not_true, Bool.not_false, decide_eq_true_eq, if_true, if_false, ite_true, ite_false, reduceIte, Bool.false_eq_true, List.getElem?_cons_zero, List.getElem?_cons_succ, ↓aLt, ↓aLe, ↓aGt, ↓aGe, ↓aSub, ↓aMul, ↓aDiv, ↓aMod, ↓aPow, true_and, and_true, showM]
      refine repr_two fl (by decide) (by decide) ?_
      refine repr_two fl (by decide) (by decide) ?_
      simp only [ne_self, ↓sNext, ↓sBreak, ↓sCont, ↓sDrop, ↓sRet, ↓sRetN, ↓sIf, ↓sAsg, ↓agName, ↓agNil, ↓agCons, ↓agTup, ↓sPar, ↓sFor, ↓aV, ↓lk, ↓aC, ↓aOp, ↓aUn, ↓aCall, ↓aNil, ↓aCons, ↓aIf, ↓aTest, ↓aAnd, ↓aOr, ↓aNot, ↓aAndV, ↓aOrV, ↓aNotV, ↓aI, ↓aI0, ↓aAdd, ↓aNeg, ↓aIsN, ↓isNone, ↓aTup, ↓purs, ↓aLst, ↓aLstO, ↓aIx, ↓gi0, ↓gi1, ↓gi2, ↓giN, ↓a1, ↓aLen, ↓aAbs, ↓aInt, ↓aStr, ↓aIsi, ↓btOf, ↓BT.isB, ↓aYes, ↓aiSeq, wipeL, ↓startL, List.map, List.set, List.replicate, List.length, List.append, List.cons_append, List.nil_append, ↓aMt, ↓isLs, ↓aLc, ↓aLcO, Bool.false_bne, Bool.true_bne, Bool.xor_false, Bool.false_xor, Bool.true_xor, Bool.not_true, Bool.not_false, decide_eq_true_eq, if_true, if_false, ite_true, ite_false, reduceIte, Bool.false_eq_true, List.getElem?_cons_zero, List.getElem?_cons_succ, ↓aLt, ↓aLe, ↓aGt, ↓aGe, ↓aSub, ↓aMul, ↓aDiv, ↓aMod, ↓aPow, true_and, and_true]
      exact hN _ _ ⟨rfl, _, _, rfl⟩
  · obtain ⟨rfl, l4, l5, rfl⟩ := hI
    simp only [↓sNext, ↓sBreak, ↓sCont, ↓sDrop, ↓sRet, ↓sRetN, ↓sIf, ↓sAsg, ↓agName, ↓agNil, ↓agCons, ↓agTup, ↓sPar, ↓sFor, ↓aV, ↓lk, ↓aC, ↓aOp, ↓aUn, ↓aCall, ↓aNil, ↓aCons, ↓aIf, ↓aTest, ↓aAnd, ↓aOr, ↓aNot, ↓aAndV, ↓aOrV, ↓aNotV, ↓aI, ↓aI0, ↓aAdd, ↓aNeg, ↓aIsN, ↓isNone, ↓aTup, ↓purs, ↓aLst, ↓aLstO, ↓aIx, ↓gi0, ↓gi1, ↓gi2, ↓giN, ↓a1, ↓aLen, ↓aAbs, ↓aInt, ↓aStr, ↓aIsi, ↓btOf, ↓BT.isB, ↓aYes, ↓aiSeq, wipeL, ↓startL, List.map, List.set, List.replicate, List.length, List.append, List.cons_append, List.nil_append, ↓aMt, ↓isLs, ↓aLc, ↓aLcO, Bool.false_bne, Bool.true_bne, Bool.xor_false, Bool.false_xor, Bool.true_xor, Bool.not_true, Bool.not_false, decide_eq_true_eq, if_true, if_false, ite_true, ite_false, reduceIte, Bool.false_eq_true, List.getElem?_cons_zero, List.getElem?_cons_succ, ↓aLt, ↓aLe, ↓aGt, ↓aGe, ↓aSub, ↓aMul, ↓aDiv, ↓aMod, ↓aPow, true_and, and_true]
    exact .inl hq
end
end Lw
namespace Lw
open PySem PySem.Spec PyProof.Rows L2 Am
section
variable {Pg : Program} {w : World} {K : PySem.W.Frag} {mg : Str → Option Value} {base : Heap}
/-! ### the law's own store: what stood there, with the pot at p, the marks and the slots behind -/
section
variable {B : List O} {p : Nat} {o o' F G G' : O}
theorem st_get1 (h : p < B.length) : (B.set p o ++ [F])[p]? = some o := by rw [getA (by rw [List.length_set]; exact h)]; exact List.getElem?_set_self h
theorem st_set1 (h : p < B.length) : (B.set p o ++ [F]).set p o' = B.set p o' ++ [F] := by rw [setA (by rw [List.length_set]; exact h), List.set_set]
theorem st_get2 (h : p < B.length) : (B.set p o ++ [F, G])[p]? = some o := by
  rw [List.getElem?_append_left (by rw [List.length_set]; exact h)]; exact List.getElem?_set_self h
theorem st_set2 (h : p < B.length) : (B.set p o ++ [F, G]).set p o' = B.set p o' ++ [F, G] := by
  rw [List.set_append_left _ _ (by rw [List.length_set]; exact h), List.set_set]
theorem st_F : (B.set p o ++ [F, G])[B.length]? = some F := by rw [List.getElem?_append_right (by simp)]; simp
theorem st_G : (B.set p o ++ [F, G])[B.length + 1]? = some G := by rw [List.getElem?_append_right (by simp)]; simp
theorem st_setG : (B.set p o ++ [F, G]).set (B.length + 1) G' = B.set p o ++ [F, G'] := by rw [List.set_append_right _ _ (by simp)]; simp
theorem st_two : (B.set p o ++ [F]) ++ [G] = B.set p o ++ [F, G] := by rw [List.append_assoc]; rfl
theorem st_len : (B.set p o ++ [F]).length = B.length + 1 := by simp
end
theorem three_at {v : Nat} (h : v < 3) : ∃ m : Nat, [P.int 4, .int 4, .int 40][v]? = some (.int (m : Nat)) ∧ 1 ≤ m ∧ m ≤ 40 := by
  have : v = 0 ∨ v = 1 ∨ v = 2 := by omega
  rcases this with rfl | rfl | rfl
  · exact ⟨4, rfl, by decide, by decide⟩
  · exact ⟨4, rfl, by decide, by decide⟩
  · exact ⟨40, rfl, by decide, by decide⟩
theorem fits_of : ∀ {T : List (Nat × P)} {m : List Nat}, m.length = T.length → (∀ (k d : Nat), m[k]? = some d → ∃ l : Nat × P, T[k]? = some l ∧ d < l.1) → fits T m
  | [], [], _, _ => trivial
  | [], _ :: _, h, _ => nomatch h
  | _ :: _, [], h, _ => nomatch h
  | l :: T, d :: m, h, q => by
    refine ⟨?_, fits_of (by simpa using h) fun k e hk => q (k + 1) e (by simpa using hk)⟩
    obtain ⟨l', e, hd⟩ := q 0 d rfl
    obtain rfl : l = l' := Option.some.inj e
    exact hd
theorem good_of {T : List (Nat × P)} {m : List Nat} (hT : TGood T) (h : fits T m) : GoodM m := by
  refine ⟨by rw [h.len]; exact hT.2.1, fun n hn => ?_⟩
  obtain ⟨k, hk, rfl⟩ := List.getElem_of_mem hn
  have hk' : k < T.length := by rw [← h.len]; exact hk
  have hm : (T[k], m[k]) ∈ List.zip T m := by
    rw [List.mem_iff_getElem]
    exact ⟨k, by rw [List.length_zip]; omega, by rw [List.getElem_zip]⟩
  have h1 := h.zip _ hm
  have h2 := hT.2.2 _ (List.getElem_mem hk')
  have h1 : m[k] < T[k].1 := h1
  omega
def h0 (r : List (List Nat)) : List (Option (List Nat)) := if r.isEmpty = true then [none] else []
theorem h0_rep (r : List (List Nat)) : (List.replicate (if r.isEmpty = true then (1 : Int) else 0).toNat [P.non]).flatten = (h0 r).map mkO := by
  unfold h0
  cases r <;> rfl
theorem none_rep (k : Nat) : (List.replicate k [P.non]).flatten = (List.replicate k (none : Option (List Nat))).map mkO := by
  induction k with
  | zero => rfl
  | succ k ih => rw [List.replicate_succ, List.flatten_cons, ih]; rfl
theorem lst_dat {r : List (List Nat)} (h : ∀ m ∈ r, GoodM m) : Dat 60 (.lst (r.map mkP)) := fun x hx => by
  obtain ⟨m, hm, rfl⟩ := List.mem_map.mp hx
  exact (fine_mk (h m hm)).dat.le (by decide)
theorem powW9 : CPowW 10 9 := ⟨by decide, by decide +kernel⟩
theorem pow9_eq : (10 : Int) ^ (9 : Int).toNat = 1000000000 := by decide +kernel
theorem four_at {i : Nat} {x : P} {v : Nat} (hv : v < 1000000000) (h : [P.int 0, .int 1, .int (1000000000 - 1), .int (v : Nat)][i]? = some x) : ∃ pl : Nat, x = .int (pl : Nat) ∧ pl < 10 ^ 10 := by
  match i, h with
  | 0, h => obtain rfl := Option.some.inj h; exact ⟨0, rfl, by decide⟩
  | 1, h => obtain rfl := Option.some.inj h; exact ⟨1, rfl, by decide⟩
  | 2, h => obtain rfl := Option.some.inj h; exact ⟨999999999, rfl, by decide⟩
  | 3, h => obtain rfl := Option.some.inj h; exact ⟨v, rfl, by omega⟩
  | n + 4, h => cases h
theorem rng_at {n i : Nat} {x : D} (h : ((List.range n).map fun k => D.p (.int (k : Nat)))[i]? = some x) : x = .p (.int (i : Nat)) ∧ i < n := by
  rw [List.getElem?_map] at h
  have hi : i < n := by
    cases e : (List.range n)[i]? with
    | none => rw [e] at h; cases h
    | some k => simpa using (List.getElem?_eq_some_iff.mp e).1
  rw [List.getElem?_range hi] at h
  exact ⟨(Option.some.inj h).symm, hi⟩
theorem map_at {α β : Type} {f : α → β} {xs : List α} {i : Nat} {x : β} (h : (xs.map f)[i]? = some x) : ∃ y, xs[i]? = some y ∧ x = f y := by
  rw [List.getElem?_map] at h
  cases e : xs[i]? with
  | none => rw [e] at h; cases h
  | some y => rw [e] at h; exact ⟨y, rfl, (Option.some.inj h).symm⟩
theorem small_lt {n : Nat} (h : n ≤ 1000) : n < sizeLine := Nat.lt_of_le_of_lt h (by decide)
def F_law : FT := fun as S Post => ∃ ns : List Int, as = [.p (.fz (ns.map .int))] ∧ ∀ S', Post (.p (.bl true)) S'
theorem len_law : ∀ as S Post, F_law as S Post → as.length = ["_law_script"].length := by
  rintro _ S Post ⟨_, rfl, _⟩; rfl
theorem cl_law (p : Pre K mg "law" st_law) (z_int : mg "int" = none) (z_len : mg "len" = none) (z_max : mg "max" = none) (z_min : mg "min" = none) (z_range : mg "range" = none) (z_tuple : mg "tuple" = none) (c_law_pot : Cl Pg w K mg base 1 "_law_pot" st_law_pot ["_law_script", "_law_nth"] F_law_pot) (c_law_take : Cl Pg w K mg base 1 "_law_take" st_law_take ["_law_pot_here", "_law_upto"] F_law_take) (c_law_of : Cl Pg w K mg base 2 "_law_of" st_law_of ["_law_pot_here", "_law_some"] F_law_of) (c_law_tower : Cl Pg w K mg base 3 "_law_tower" st_law_tower ["_law_pot_here", "_law_most"] F_law_tower) (c_law_right : Cl Pg w K mg base 5 "_law_right" st_law_right ["_law_some", "_law_marks_of", "_law_slots_of", "_law_place"] F_law_right) : Cl Pg w K mg base 6 "law" st_law ["_law_script"] F_law := by
  refine p.cl (fun _ _ _ _ _ _ us hl => match us, hl with | [_], _ => rfl) fun f fd F => ?_
  refine fun_ok F sc_law len_law (fun cdv A outer s H E gd hr => have hu := hu65 hr; (jb_cons (js_for PassesOwn.never rfl (ji_range1 (by rfl) z_range (ja_cons (je_max2 (by rfl) (by rfl) z_max je_int (je_min2 (by rfl) (by rfl) z_min je_int (je_len (by rfl) z_len (je_var 0)))) ja_nil)) (jg_name 1 sc_law.nd) (jb_cons (js_set 2 sc_law.nd (je_own c_law_pot gd hr (ja_cons (je_var 0) (ja_cons (je_var 1) ja_nil))))
    (jb_one (js_for PassesOwn.never rfl (ji_range1 (by rfl) z_range (ja_cons je_int ja_nil)) (jg_name 3 sc_law.nd) (jb_cons (js_asg (je_own c_law_tower gd hr (ja_cons (je_var 2) (ja_cons (je_ix (je_lst (ja_cons je_int (ja_cons je_int (ja_cons je_int ja_nil)))) (je_own c_law_take gd hr (ja_cons (je_var 2) (ja_cons je_int ja_nil))) (fun _ _ => rfl)) ja_nil))) (jg_tup (n := 2) rfl (jgs_cons (jg_name 4 sc_law.nd) (jgs_cons (jg_name 5 sc_law.nd) jgs_nil))))
    (jb_cons (js_set 6 sc_law.nd (je_lstO ja_nil))
    (jb_cons (js_for PassesOwn.never rfl (ji_range1 (by rfl) z_range (ja_cons (je_own c_law_take gd hr (ja_cons (je_var 2) (ja_cons je_int ja_nil))) ja_nil)) (jg_name 7 sc_law.nd) (jb_one (js_expr (je_mtL PySem.F.slot_list_append PySem.F.type_list_append mt_append lift_append (je_var 6) (ja_cons (je_tuple (by rfl) z_tuple (je_lc rfl sc_law.nd (ji_seq (je_var 4)) (blkOk_by (N := ns_law) (sc := defScope st_law) (own := [("_law_size", 8), ("_law_pairs", 9)]) (by decide +kernel)) (fun _ _ _ _ _ => (jgo_tup (n := 2) rfl (jgos_name 8 sc_law.nd (jgos_name 9 sc_law.nd jgos_nil)))) (fun _ _ _ _ _ => jts_nil) (fun _ _ _ _ _ => (je_own c_law_take gd hr (ja_cons (je_var 2) (ja_cons (je_var 8) ja_nil)))))) ja_nil)))))
    (jb_cons (js_set 10 sc_law.nd (je_repO (je_lst (ja_cons je_non ja_nil)) (je_intC (by rfl) z_int (je_eq hr (je_var 6) (je_lst ja_nil)))))
    (jb_cons (js_for PassesOwn.never rfl (ji_seq (je_var 6)) (jg_name 11 sc_law.nd) (jb_one (js_expr (je_mtL PySem.F.slot_list_extend PySem.F.type_list_extend mt_extend lift_extend (je_var 10) (ja_cons (je_add (je_lst (ja_cons (je_var 11) ja_nil)) (je_rep (je_lst (ja_cons je_non ja_nil)) (je_own c_law_take gd hr (ja_cons (je_var 2) (ja_cons je_int ja_nil))))) ja_nil)))))
    (jb_cons (js_set 12 sc_law.nd (je_own c_law_of gd hr (ja_cons (je_var 2) (ja_cons (je_lst (ja_cons je_int (ja_cons je_int (ja_cons (je_sub (je_pow je_int je_int) je_int) (ja_cons (je_own c_law_take gd hr (ja_cons (je_var 2) (ja_cons (je_pow je_int je_int) ja_nil))) ja_nil))))) ja_nil))))
    (jb_one (js_if (jt_not (jt_val (je_own c_law_right gd hr (ja_cons (je_var 4) (ja_cons (je_tuple (by rfl) z_tuple (je_var 6)) (ja_cons (je_tuple (by rfl) z_tuple (je_var 10)) (ja_cons (je_var 12) ja_nil))))))) (jb_one (js_ret je_bl)) jb_nil))))))))))))
    (jb_one (js_ret je_bl)))) ?_
  rintro as S Post hB ⟨ns, rfl, h⟩
  refine sq ?_
  simp only [↓sNext, ↓sBreak, ↓sCont, ↓sDrop, ↓sRet, ↓sRetN, ↓sIf, ↓sAsg, ↓agName, ↓agNil, ↓agCons, ↓agTup, ↓sPar, ↓sFor, ↓aV, ↓lk, ↓aC, ↓aOp, ↓aUn, ↓aCall, ↓aNil, ↓aCons, ↓aIf, ↓aTest, ↓aAnd, ↓aOr, ↓aNot, ↓aAndV, ↓aOrV, ↓aNotV, ↓aI, ↓aI0, ↓aAdd, ↓aNeg, ↓aIsN, ↓isNone, ↓aTup, ↓purs, ↓aLst, ↓aLstO, ↓aIx, ↓gi0, ↓gi1, ↓gi2, ↓giN, ↓a1, ↓aLen, ↓aAbs, ↓aInt, ↓aStr, ↓aIsi, ↓btOf, ↓BT.isB, ↓aYes, ↓aiSeq, wipeL, ↓startL, List.map, List.set, List.replicate, List.length, List.append, List.cons_append, List.nil_append, ↓aMt, ↓isLs, ↓aLc, ↓aLcO, Bool.false_bne, Bool.true_bne, Bool.xor_false, Bool.false_xor, Bool.true_xor, Bool.not_true, Bool.not_false, decide_eq_true_eq, if_true, if_false, ite_true, ite_false, reduceIte, Bool.false_eq_true, List.getElem?_cons_zero, List.getElem?_cons_succ, ↓aLt, ↓aLe, ↓aGt, ↓aGe, ↓aSub, ↓aMul, ↓aDiv, ↓aMod, ↓aPow, true_and, and_true, aiRng1, a2i]
  refine ⟨?_, ?_, ?_⟩
  · split <;> split <;> omega
  · split <;> split <;> omega
  have hturns : (if (if ((ns.map P.int).length : Int) < 3 then ((ns.map P.int).length : Int) else 3) > 1 then (if ((ns.map P.int).length : Int) < 3 then ((ns.map P.int).length : Int) else 3) else 1).toNat ≤ 3 := by
    split <;> split <;> omega
  refine for_go (fun i L S' => ∃ l1 l2 l3 l4 l5 l6 l7 l8 l9 l10 l11 l12, L = [some (.p (.fz (ns.map .int))), l1, l2, l3, l4, l5, l6, l7, l8, l9, l10, l11, l12]) (fun _ _ _ _ => trivial) (fun i x L S1 N hx hI hN => ?_) (fun L S' hI => ?_) ⟨_, _, _, _, _, _, _, _, _, _, _, _, rfl⟩
  case refine_2 =>
    obtain ⟨l1, l2, l3, l4, l5, l6, l7, l8, l9, l10, l11, l12, rfl⟩ := hI
    simp only [↓sNext, ↓sBreak, ↓sCont, ↓sDrop, ↓sRet, ↓sRetN, ↓sIf, ↓sAsg, ↓agName, ↓agNil, ↓agCons, ↓agTup, ↓sPar, ↓sFor, ↓aV, ↓lk, ↓aC, ↓aOp, ↓aUn, ↓aCall, ↓aNil, ↓aCons, ↓aIf, ↓aTest, ↓aAnd, ↓aOr, ↓aNot, ↓aAndV, ↓aOrV, ↓aNotV, ↓aI, ↓aI0, ↓aAdd, ↓aNeg, ↓aIsN, ↓isNone, ↓aTup, ↓purs, ↓aLst, ↓aLstO, ↓aIx, ↓gi0, ↓gi1, ↓gi2, ↓giN, ↓a1, ↓aLen, ↓aAbs, ↓aInt, ↓aStr, ↓aIsi, ↓btOf, ↓BT.isB, ↓aYes, ↓aiSeq, wipeL, ↓startL, List.map, List.set, List.replicate, List.length, List.append, List.cons_append, List.nil_append, ↓aMt, ↓isLs, ↓aLc, ↓aLcO, Bool.false_bne, Bool.true_bne, Bool.xor_false, Bool.false_xor, Bool.true_xor, Bool.not_true, Bool.not_false, decide_eq_true_eq, if_true, if_false, ite_true, ite_false, reduceIte, Bool.false_eq_true, List.getElem?_cons_zero, List.getElem?_cons_succ, ↓aLt, ↓aLe, ↓aGt, ↓aGe, ↓aSub, ↓aMul, ↓aDiv, ↓aMod, ↓aPow, true_and, and_true]
    exact .inl (h _)
  obtain ⟨l1, l2, l3, l4, l5, l6, l7, l8, l9, l10, l11, l12, rfl⟩ := hI
  obtain ⟨rfl, hi⟩ := rng_at hx
  have hk : i < 3 := Nat.lt_of_lt_of_le hi hturns
  simp only [↓sNext, ↓sBreak, ↓sCont, ↓sDrop, ↓sRet, ↓sRetN, ↓sIf, ↓sAsg, ↓agName, ↓agNil, ↓agCons, ↓agTup, ↓sPar, ↓sFor, ↓aV, ↓lk, ↓aC, ↓aOp, ↓aUn, ↓aCall, ↓aNil, ↓aCons, ↓aIf, ↓aTest, ↓aAnd, ↓aOr, ↓aNot, ↓aAndV, ↓aOrV, ↓aNotV, ↓aI, ↓aI0, ↓aAdd, ↓aNeg, ↓aIsN, ↓isNone, ↓aTup, ↓purs, ↓aLst, ↓aLstO, ↓aIx, ↓gi0, ↓gi1, ↓gi2, ↓giN, ↓a1, ↓aLen, ↓aAbs, ↓aInt, ↓aStr, ↓aIsi, ↓btOf, ↓BT.isB, ↓aYes, ↓aiSeq, wipeL, ↓startL, List.map, List.set, List.replicate, List.length, List.append, List.cons_append, List.nil_append, ↓aMt, ↓isLs, ↓aLc, ↓aLcO, Bool.false_bne, Bool.true_bne, Bool.xor_false, Bool.false_xor, Bool.true_xor, Bool.not_true, Bool.not_false, decide_eq_true_eq, if_true, if_false, ite_true, ite_false, reduceIte, Bool.false_eq_true, List.getElem?_cons_zero, List.getElem?_cons_succ, ↓aLt, ↓aLe, ↓aGt, ↓aGe, ↓aSub, ↓aMul, ↓aDiv, ↓aMod, ↓aPow, true_and, and_true]
  refine sq ?_
  simp only [↓sNext, ↓sBreak, ↓sCont, ↓sDrop, ↓sRet, ↓sRetN, ↓sIf, ↓sAsg, ↓agName, ↓agNil, ↓agCons, ↓agTup, ↓sPar, ↓sFor, ↓aV, ↓lk, ↓aC, ↓aOp, ↓aUn, ↓aCall, ↓aNil, ↓aCons, ↓aIf, ↓aTest, ↓aAnd, ↓aOr, ↓aNot, ↓aAndV, ↓aOrV, ↓aNotV, ↓aI, ↓aI0, ↓aAdd, ↓aNeg, ↓aIsN, ↓isNone, ↓aTup, ↓purs, ↓aLst, ↓aLstO, ↓aIx, ↓gi0, ↓gi1, ↓gi2, ↓giN, ↓a1, ↓aLen, ↓aAbs, ↓aInt, ↓aStr, ↓aIsi, ↓btOf, ↓BT.isB, ↓aYes, ↓aiSeq, wipeL, ↓startL, List.map, List.set, List.replicate, List.length, List.append, List.cons_append, List.nil_append, ↓aMt, ↓isLs, ↓aLc, ↓aLcO, Bool.false_bne, Bool.true_bne, Bool.xor_false, Bool.false_xor, Bool.true_xor, Bool.not_true, Bool.not_false, decide_eq_true_eq, if_true, if_false, ite_true, ite_false, reduceIte, Bool.false_eq_true, List.getElem?_cons_zero, List.getElem?_cons_succ, ↓aLt, ↓aLe, ↓aGt, ↓aGe, ↓aSub, ↓aMul, ↓aDiv, ↓aMod, ↓aPow, true_and, and_true]
  refine ⟨ns, i, rfl, by omega, fun o hp => ?_⟩
  simp only [↓sNext, ↓sBreak, ↓sCont, ↓sDrop, ↓sRet, ↓sRetN, ↓sIf, ↓sAsg, ↓agName, ↓agNil, ↓agCons, ↓agTup, ↓sPar, ↓sFor, ↓aV, ↓lk, ↓aC, ↓aOp, ↓aUn, ↓aCall, ↓aNil, ↓aCons, ↓aIf, ↓aTest, ↓aAnd, ↓aOr, ↓aNot, ↓aAndV, ↓aOrV, ↓aNotV, ↓aI, ↓aI0, ↓aAdd, ↓aNeg, ↓aIsN, ↓isNone, ↓aTup, ↓purs, ↓aLst, ↓aLstO, ↓aIx, ↓gi0, ↓gi1, ↓gi2, ↓giN, ↓a1, ↓aLen, ↓aAbs, ↓aInt, ↓aStr, ↓aIsi, ↓btOf, ↓BT.isB, ↓aYes, ↓aiSeq, wipeL, ↓startL, List.map, List.set, List.replicate, List.length, List.append, List.cons_append, List.nil_append, ↓aMt, ↓isLs, ↓aLc, ↓aLcO, Bool.false_bne, Bool.true_bne, Bool.xor_false, Bool.false_xor, Bool.true_xor, Bool.not_true, Bool.not_false, decide_eq_true_eq, if_true, if_false, ite_true, ite_false, reduceIte, Bool.false_eq_true, List.getElem?_cons_zero, List.getElem?_cons_succ, ↓aLt, ↓aLe, ↓aGt, ↓aGe, ↓aSub, ↓aMul, ↓aDiv, ↓aMod, ↓aPow, true_and, and_true, aiRng1]
  refine ⟨by decide, by decide, ?_⟩
  generalize hpp : S1.length = p
  refine for_go (fun i L S' => ∃ l1 l3 l4 l5 l6 l7 l8 l9 l10 l11 l12, L = [some (.p (.fz (ns.map .int))), l1, some (.own p), l3, l4, l5, l6, l7, l8, l9, l10, l11, l12] ∧ ∃ o c, S'[p]? = some o ∧ PotO o c ∧ c ≤ 1000 * i) (fun _ _ _ _ => trivial) (fun i x L B N hx hI hN => ?_) (fun L S' hI => ?_) ⟨_, _, _, _, _, _, _, _, _, _, _, rfl, o, 0, by rw [← hpp]; exact getE _ _, hp, by omega⟩
  case refine_2 =>
    obtain ⟨l1, l3, l4, l5, l6, l7, l8, l9, l10, l11, l12, rfl, _⟩ := hI
    exact hN _ _ ⟨_, _, _, _, _, _, _, _, _, _, _, _, rfl⟩
  obtain ⟨rfl, hi4⟩ := rng_at hx
  have hi4 : i < 4 := hi4
  clear hx hp o
  obtain ⟨l1, l3, l4, l5, l6, l7, l8, l9, l10, l11, l12, rfl, o, c, hS, hp, hc⟩ := hI
  have hpl : p < B.length := (List.getElem?_eq_some_iff.mp hS).1
  -- the tower
  simp only [↓sNext, ↓sBreak, ↓sCont, ↓sDrop, ↓sRet, ↓sRetN, ↓sIf, ↓sAsg, ↓agName, ↓agNil, ↓agCons, ↓agTup, ↓sPar, ↓sFor, ↓aV, ↓lk, ↓aC, ↓aOp, ↓aUn, ↓aCall, ↓aNil, ↓aCons, ↓aIf, ↓aTest, ↓aAnd, ↓aOr, ↓aNot, ↓aAndV, ↓aOrV, ↓aNotV, ↓aI, ↓aI0, ↓aAdd, ↓aNeg, ↓aIsN, ↓isNone, ↓aTup, ↓purs, ↓aLst, ↓aLstO, ↓aIx, ↓gi0, ↓gi1, ↓gi2, ↓giN, ↓a1, ↓aLen, ↓aAbs, ↓aInt, ↓aStr, ↓aIsi, ↓btOf, ↓BT.isB, ↓aYes, ↓aiSeq, wipeL, ↓startL, List.map, List.set, List.replicate, List.length, List.append, List.cons_append, List.nil_append, ↓aMt, ↓isLs, ↓aLc, ↓aLcO, Bool.false_bne, Bool.true_bne, Bool.xor_false, Bool.false_xor, Bool.true_xor, Bool.not_true, Bool.not_false, decide_eq_true_eq, if_true, if_false, ite_true, ite_false, reduceIte, Bool.false_eq_true, List.getElem?_cons_zero, List.getElem?_cons_succ, ↓aLt, ↓aLe, ↓aGt, ↓aGe, ↓aSub, ↓aMul, ↓aDiv, ↓aMod, ↓aPow, true_and, and_true]
  refine sq ?_
  simp only [↓sNext, ↓sBreak, ↓sCont, ↓sDrop, ↓sRet, ↓sRetN, ↓sIf, ↓sAsg, ↓agName, ↓agNil, ↓agCons, ↓agTup, ↓sPar, ↓sFor, ↓aV, ↓lk, ↓aC, ↓aOp, ↓aUn, ↓aCall, ↓aNil, ↓aCons, ↓aIf, ↓aTest, ↓aAnd, ↓aOr, ↓aNot, ↓aAndV, ↓aOrV, ↓aNotV, ↓aI, ↓aI0, ↓aAdd, ↓aNeg, ↓aIsN, ↓isNone, ↓aTup, ↓purs, ↓aLst, ↓aLstO, ↓aIx, ↓gi0, ↓gi1, ↓gi2, ↓giN, ↓a1, ↓aLen, ↓aAbs, ↓aInt, ↓aStr, ↓aIsi, ↓btOf, ↓BT.isB, ↓aYes, ↓aiSeq, wipeL, ↓startL, List.map, List.set, List.replicate, List.length, List.append, List.cons_append, List.nil_append, ↓aMt, ↓isLs, ↓aLc, ↓aLcO, Bool.false_bne, Bool.true_bne, Bool.xor_false, Bool.false_xor, Bool.true_xor, Bool.not_true, Bool.not_false, decide_eq_true_eq, if_true, if_false, ite_true, ite_false, reduceIte, Bool.false_eq_true, List.getElem?_cons_zero, List.getElem?_cons_succ, ↓aLt, ↓aLe, ↓aGt, ↓aGe, ↓aSub, ↓aMul, ↓aDiv, ↓aMod, ↓aPow, true_and, and_true]
  refine ⟨p, 3, c, o, rfl, hS, hp, by omega, by decide, by decide, fun v o1 c1 hv hp1 hc1 => ?_⟩
  obtain ⟨most, em, hm1, hm2⟩ := three_at (v := v) (by omega)
  simp only [↓sNext, ↓sBreak, ↓sCont, ↓sDrop, ↓sRet, ↓sRetN, ↓sIf, ↓sAsg, ↓agName, ↓agNil, ↓agCons, ↓agTup, ↓sPar, ↓sFor, ↓aV, ↓lk, ↓aC, ↓aOp, ↓aUn, ↓aCall, ↓aNil, ↓aCons, ↓aIf, ↓aTest, ↓aAnd, ↓aOr, ↓aNot, ↓aAndV, ↓aOrV, ↓aNotV, ↓aI, ↓aI0, ↓aAdd, ↓aNeg, ↓aIsN, ↓isNone, ↓aTup, ↓purs, ↓aLst, ↓aLstO, ↓aIx, ↓gi0, ↓gi1, ↓gi2, ↓giN, ↓a1, ↓aLen, ↓aAbs, ↓aInt, ↓aStr, ↓aIsi, ↓btOf, ↓BT.isB, ↓aYes, ↓aiSeq, wipeL, ↓startL, List.map, List.set, List.replicate, List.length, List.append, List.cons_append, List.nil_append, ↓aMt, ↓isLs, ↓aLc, ↓aLcO, Bool.false_bne, Bool.true_bne, Bool.xor_false, Bool.false_xor, Bool.true_xor, Bool.not_true, Bool.not_false, decide_eq_true_eq, if_true, if_false, ite_true, ite_false, reduceIte, Bool.false_eq_true, List.getElem?_cons_zero, List.getElem?_cons_succ, ↓aLt, ↓aLe, ↓aGt, ↓aGe, ↓aSub, ↓aMul, ↓aDiv, ↓aMod, ↓aPow, true_and, and_true, em]
  refine ⟨p, most, c1, o1, rfl, List.getElem?_set_self hpl, hp1, by omega, by omega, by omega, fun T far o2 c2 hT hp2 hc2 => ?_⟩
  rw [List.set_set]
  simp only [↓sNext, ↓sBreak, ↓sCont, ↓sDrop, ↓sRet, ↓sRetN, ↓sIf, ↓sAsg, ↓agName, ↓agNil, ↓agCons, ↓agTup, ↓sPar, ↓sFor, ↓aV, ↓lk, ↓aC, ↓aOp, ↓aUn, ↓aCall, ↓aNil, ↓aCons, ↓aIf, ↓aTest, ↓aAnd, ↓aOr, ↓aNot, ↓aAndV, ↓aOrV, ↓aNotV, ↓aI, ↓aI0, ↓aAdd, ↓aNeg, ↓aIsN, ↓isNone, ↓aTup, ↓purs, ↓aLst, ↓aLstO, ↓aIx, ↓gi0, ↓gi1, ↓gi2, ↓giN, ↓a1, ↓aLen, ↓aAbs, ↓aInt, ↓aStr, ↓aIsi, ↓btOf, ↓BT.isB, ↓aYes, ↓aiSeq, wipeL, ↓startL, List.map, List.set, List.replicate, List.length, List.append, List.cons_append, List.nil_append, ↓aMt, ↓isLs, ↓aLc, ↓aLcO, Bool.false_bne, Bool.true_bne, Bool.xor_false, Bool.false_xor, Bool.true_xor, Bool.not_true, Bool.not_false, decide_eq_true_eq, if_true, if_false, ite_true, ite_false, reduceIte, Bool.false_eq_true, List.getElem?_cons_zero, List.getElem?_cons_succ, ↓aLt, ↓aLe, ↓aGt, ↓aGe, ↓aSub, ↓aMul, ↓aDiv, ↓aMod, ↓aPow, true_and, and_true]
  -- the marks
  refine sq ?_
  simp only [↓sNext, ↓sBreak, ↓sCont, ↓sDrop, ↓sRet, ↓sRetN, ↓sIf, ↓sAsg, ↓agName, ↓agNil, ↓agCons, ↓agTup, ↓sPar, ↓sFor, ↓aV, ↓lk, ↓aC, ↓aOp, ↓aUn, ↓aCall, ↓aNil, ↓aCons, ↓aIf, ↓aTest, ↓aAnd, ↓aOr, ↓aNot, ↓aAndV, ↓aOrV, ↓aNotV, ↓aI, ↓aI0, ↓aAdd, ↓aNeg, ↓aIsN, ↓isNone, ↓aTup, ↓purs, ↓aLst, ↓aLstO, ↓aIx, ↓gi0, ↓gi1, ↓gi2, ↓giN, ↓a1, ↓aLen, ↓aAbs, ↓aInt, ↓aStr, ↓aIsi, ↓btOf, ↓BT.isB, ↓aYes, ↓aiSeq, wipeL, ↓startL, List.map, List.set, List.replicate, List.length, List.append, List.cons_append, List.nil_append, ↓aMt, ↓isLs, ↓aLc, ↓aLcO, Bool.false_bne, Bool.true_bne, Bool.xor_false, Bool.false_xor, Bool.true_xor, Bool.not_true, Bool.not_false, decide_eq_true_eq, if_true, if_false, ite_true, ite_false, reduceIte, Bool.false_eq_true, List.getElem?_cons_zero, List.getElem?_cons_succ, ↓aLt, ↓aLe, ↓aGt, ↓aGe, ↓aSub, ↓aMul, ↓aDiv, ↓aMod, ↓aPow, true_and, and_true]
  refine sq ?_
  simp only [↓sNext, ↓sBreak, ↓sCont, ↓sDrop, ↓sRet, ↓sRetN, ↓sIf, ↓sAsg, ↓agName, ↓agNil, ↓agCons, ↓agTup, ↓sPar, ↓sFor, ↓aV, ↓lk, ↓aC, ↓aOp, ↓aUn, ↓aCall, ↓aNil, ↓aCons, ↓aIf, ↓aTest, ↓aAnd, ↓aOr, ↓aNot, ↓aAndV, ↓aOrV, ↓aNotV, ↓aI, ↓aI0, ↓aAdd, ↓aNeg, ↓aIsN, ↓isNone, ↓aTup, ↓purs, ↓aLst, ↓aLstO, ↓aIx, ↓gi0, ↓gi1, ↓gi2, ↓giN, ↓a1, ↓aLen, ↓aAbs, ↓aInt, ↓aStr, ↓aIsi, ↓btOf, ↓BT.isB, ↓aYes, ↓aiSeq, wipeL, ↓startL, List.map, List.set, List.replicate, List.length, List.append, List.cons_append, List.nil_append, ↓aMt, ↓isLs, ↓aLc, ↓aLcO, Bool.false_bne, Bool.true_bne, Bool.xor_false, Bool.false_xor, Bool.true_xor, Bool.not_true, Bool.not_false, decide_eq_true_eq, if_true, if_false, ite_true, ite_false, reduceIte, Bool.false_eq_true, List.getElem?_cons_zero, List.getElem?_cons_succ, ↓aLt, ↓aLe, ↓aGt, ↓aGe, ↓aSub, ↓aMul, ↓aDiv, ↓aMod, ↓aPow, true_and, and_true, aiRng1, List.length_set]
  refine ⟨p, 8, c2, o2, rfl, st_get1 hpl, hp2, by omega, by decide, by decide, fun v o3 c3 hv3 hp3 hc3 => ?_⟩
  rw [st_set1 hpl]
  simp only [↓sNext, ↓sBreak, ↓sCont, ↓sDrop, ↓sRet, ↓sRetN, ↓sIf, ↓sAsg, ↓agName, ↓agNil, ↓agCons, ↓agTup, ↓sPar, ↓sFor, ↓aV, ↓lk, ↓aC, ↓aOp, ↓aUn, ↓aCall, ↓aNil, ↓aCons, ↓aIf, ↓aTest, ↓aAnd, ↓aOr, ↓aNot, ↓aAndV, ↓aOrV, ↓aNotV, ↓aI, ↓aI0, ↓aAdd, ↓aNeg, ↓aIsN, ↓isNone, ↓aTup, ↓purs, ↓aLst, ↓aLstO, ↓aIx, ↓gi0, ↓gi1, ↓gi2, ↓giN, ↓a1, ↓aLen, ↓aAbs, ↓aInt, ↓aStr, ↓aIsi, ↓btOf, ↓BT.isB, ↓aYes, ↓aiSeq, wipeL, ↓startL, List.map, List.set, List.replicate, List.length, List.append, List.cons_append, List.nil_append, ↓aMt, ↓isLs, ↓aLc, ↓aLcO, Bool.false_bne, Bool.true_bne, Bool.xor_false, Bool.false_xor, Bool.true_xor, Bool.not_true, Bool.not_false, decide_eq_true_eq, if_true, if_false, ite_true, ite_false, reduceIte, Bool.false_eq_true, List.getElem?_cons_zero, List.getElem?_cons_succ, ↓aLt, ↓aLe, ↓aGt, ↓aGe, ↓aSub, ↓aMul, ↓aDiv, ↓aMod, ↓aPow, true_and, and_true]
  refine ⟨by omega, by omega, ?_⟩
  have hv3' : v < 8 := by omega
  refine for_go (fun t L S' => ∃ (r : List (List Nat)) (o : O) (c : Int) (l7 l8 l9 l10 l11 l12 : Option D), L = [some (.p (.fz (ns.map .int))), l1, some (.own p), some (.p (.int (i : Nat))), some (.p (towP T)), some (.p (.int far)), some (.own B.length), l7, l8, l9, l10, l11, l12] ∧ S' = B.set p o ++ [.lst ((r.map mkP).map .p)] ∧ PotO o c ∧ c ≤ c3 + 50 * t ∧ r.length = t ∧ ∀ m ∈ r, fits T m) (fun _ _ _ _ => trivial) (fun t x L S' N hx hI hN => ?_) (fun L S' hI => ?_) ⟨[], o3, c3, _, _, _, _, _, _, rfl, rfl, hp3, by omega, rfl, fun _ h => nomatch h⟩
  · obtain ⟨rfl, hi⟩ := rng_at hx
    have hi : t < 8 := by omega
    obtain ⟨r, o4, c4, m7, m8, m9, m10, m11, m12, rfl, rfl, hp4, hc4, hr, hf⟩ := hI
    simp only [↓sNext, ↓sBreak, ↓sCont, ↓sDrop, ↓sRet, ↓sRetN, ↓sIf, ↓sAsg, ↓agName, ↓agNil, ↓agCons, ↓agTup, ↓sPar, ↓sFor, ↓aV, ↓lk, ↓aC, ↓aOp, ↓aUn, ↓aCall, ↓aNil, ↓aCons, ↓aIf, ↓aTest, ↓aAnd, ↓aOr, ↓aNot, ↓aAndV, ↓aOrV, ↓aNotV, ↓aI, ↓aI0, ↓aAdd, ↓aNeg, ↓aIsN, ↓isNone, ↓aTup, ↓purs, ↓aLst, ↓aLstO, ↓aIx, ↓gi0, ↓gi1, ↓gi2, ↓giN, ↓a1, ↓aLen, ↓aAbs, ↓aInt, ↓aStr, ↓aIsi, ↓btOf, ↓BT.isB, ↓aYes, ↓aiSeq, wipeL, ↓startL, List.map, List.set, List.replicate, List.length, List.append, List.cons_append, List.nil_append, ↓aMt, ↓isLs, ↓aLc, ↓aLcO, Bool.false_bne, Bool.true_bne, Bool.xor_false, Bool.false_xor, Bool.true_xor, Bool.not_true, Bool.not_false, decide_eq_true_eq, if_true, if_false, ite_true, ite_false, reduceIte, Bool.false_eq_true, List.getElem?_cons_zero, List.getElem?_cons_succ, ↓aLt, ↓aLe, ↓aGt, ↓aGe, ↓aSub, ↓aMul, ↓aDiv, ↓aMod, ↓aPow, true_and, and_true, towP, getE2]
    refine lc_go (fun j acc S' => ∃ (ds : List Nat) (o : O) (c : Int), acc = (ds.map fun n => P.int (n : Nat)).map .p ∧ S' = B.set p o ++ [.lst ((r.map mkP).map .p)] ∧ PotO o c ∧ c ≤ c4 + j ∧ ds.length = j ∧ ∀ (k d : Nat), ds[k]? = some d → ∃ l : Nat × P, T[k]? = some l ∧ d < l.1) (fun _ _ _ _ => trivial) (fun j x acc S' N2 hx2 hI hN2 => ?_) (fun acc S' hI => ?_) ⟨[], o4, c4, rfl, rfl, hp4, by omega, rfl, fun k d hk => by simp at hk⟩
    · obtain ⟨y, hy, rfl⟩ := map_at hx2
      obtain ⟨l, hl, rfl⟩ := map_at hy
      obtain ⟨ds, o5, c5, rfl, rfl, hp5, hc5, hds, hdT⟩ := hI
      have hj : j < T.length := (List.getElem?_eq_some_iff.mp hl).1
      have hls := hT.2.2 l (List.mem_of_getElem? hl)
      have hTl := hT.2.1
      simp only [↓sNext, ↓sBreak, ↓sCont, ↓sDrop, ↓sRet, ↓sRetN, ↓sIf, ↓sAsg, ↓agName, ↓agNil, ↓agCons, ↓agTup, ↓sPar, ↓sFor, ↓aV, ↓lk, ↓aC, ↓aOp, ↓aUn, ↓aCall, ↓aNil, ↓aCons, ↓aIf, ↓aTest, ↓aAnd, ↓aOr, ↓aNot, ↓aAndV, ↓aOrV, ↓aNotV, ↓aI, ↓aI0, ↓aAdd, ↓aNeg, ↓aIsN, ↓isNone, ↓aTup, ↓purs, ↓aLst, ↓aLstO, ↓aIx, ↓gi0, ↓gi1, ↓gi2, ↓giN, ↓a1, ↓aLen, ↓aAbs, ↓aInt, ↓aStr, ↓aIsi, ↓btOf, ↓BT.isB, ↓aYes, ↓aiSeq, wipeL, ↓startL, List.map, List.set, List.replicate, List.length, List.append, List.cons_append, List.nil_append, ↓aMt, ↓isLs, ↓aLc, ↓aLcO, Bool.false_bne, Bool.true_bne, Bool.xor_false, Bool.false_xor, Bool.true_xor, Bool.not_true, Bool.not_false, decide_eq_true_eq, if_true, if_false, ite_true, ite_false, reduceIte, Bool.false_eq_true, List.getElem?_cons_zero, List.getElem?_cons_succ, ↓aLt, ↓aLe, ↓aGt, ↓aGe, ↓aSub, ↓aMul, ↓aDiv, ↓aMod, ↓aPow, true_and, and_true, lotP]
      refine ⟨p, (l.1 : Nat), c5, o5, rfl, st_get1 hpl, hp5, by omega, by omega, by omega, fun d o6 c6 hd hp6 hc6 => ?_⟩
      rw [st_set1 hpl]
      refine hN2 _ _ ⟨ds ++ [d], o6, c6, by simp, rfl, hp6, by omega, by simp [hds], fun k e hk => ?_⟩
      by_cases hkj : k < ds.length
      · rw [List.getElem?_append_left hkj] at hk
        exact hdT k e hk
      · rw [List.getElem?_append_right (by omega)] at hk
        have hk0 : k - ds.length = 0 := by
          have := (List.getElem?_eq_some_iff.mp hk).1
          simpa using this
        rw [hk0] at hk
        obtain rfl : d = e := Option.some.inj hk
        exact ⟨l, by rw [show k = j by omega]; exact hl, by omega⟩
    · obtain ⟨ds, o5, c5, rfl, rfl, hp5, hc5, hds, hdT⟩ := hI
      rw [List.length_map, List.length_map] at hc5 hds
      have hTl := hT.2.1
      refine ⟨_, rfl, ?_⟩
      simp only [↓sNext, ↓sBreak, ↓sCont, ↓sDrop, ↓sRet, ↓sRetN, ↓sIf, ↓sAsg, ↓agName, ↓agNil, ↓agCons, ↓agTup, ↓sPar, ↓sFor, ↓aV, ↓lk, ↓aC, ↓aOp, ↓aUn, ↓aCall, ↓aNil, ↓aCons, ↓aIf, ↓aTest, ↓aAnd, ↓aOr, ↓aNot, ↓aAndV, ↓aOrV, ↓aNotV, ↓aI, ↓aI0, ↓aAdd, ↓aNeg, ↓aIsN, ↓isNone, ↓aTup, ↓purs, ↓aLst, ↓aLstO, ↓aIx, ↓gi0, ↓gi1, ↓gi2, ↓giN, ↓a1, ↓aLen, ↓aAbs, ↓aInt, ↓aStr, ↓aIsi, ↓btOf, ↓BT.isB, ↓aYes, ↓aiSeq, wipeL, ↓startL, List.map, List.set, List.replicate, List.length, List.append, List.cons_append, List.nil_append, ↓aMt, ↓isLs, ↓aLc, ↓aLcO, Bool.false_bne, Bool.true_bne, Bool.xor_false, Bool.false_xor, Bool.true_xor, Bool.not_true, Bool.not_false, decide_eq_true_eq, if_true, if_false, ite_true, ite_false, reduceIte, Bool.false_eq_true, List.getElem?_cons_zero, List.getElem?_cons_succ, ↓aLt, ↓aLe, ↓aGt, ↓aGe, ↓aSub, ↓aMul, ↓aDiv, ↓aMod, ↓aPow, true_and, and_true, aTuple]
      refine ⟨_, rfl, ?_⟩
      simp only [↓sNext, ↓sBreak, ↓sCont, ↓sDrop, ↓sRet, ↓sRetN, ↓sIf, ↓sAsg, ↓agName, ↓agNil, ↓agCons, ↓agTup, ↓sPar, ↓sFor, ↓aV, ↓lk, ↓aC, ↓aOp, ↓aUn, ↓aCall, ↓aNil, ↓aCons, ↓aIf, ↓aTest, ↓aAnd, ↓aOr, ↓aNot, ↓aAndV, ↓aOrV, ↓aNotV, ↓aI, ↓aI0, ↓aAdd, ↓aNeg, ↓aIsN, ↓isNone, ↓aTup, ↓purs, ↓aLst, ↓aLstO, ↓aIx, ↓gi0, ↓gi1, ↓gi2, ↓giN, ↓a1, ↓aLen, ↓aAbs, ↓aInt, ↓aStr, ↓aIsi, ↓btOf, ↓BT.isB, ↓aYes, ↓aiSeq, wipeL, ↓startL, List.map, List.set, List.replicate, List.length, List.append, List.cons_append, List.nil_append, ↓aMt, ↓isLs, ↓aLc, ↓aLcO, Bool.false_bne, Bool.true_bne, Bool.xor_false, Bool.false_xor, Bool.true_xor, Bool.not_true, Bool.not_false, decide_eq_true_eq, if_true, if_false, ite_true, ite_false, reduceIte, Bool.false_eq_true, List.getElem?_cons_zero, List.getElem?_cons_succ, ↓aLt, ↓aLe, ↓aGt, ↓aGe, ↓aSub, ↓aMul, ↓aDiv, ↓aMod, ↓aPow, true_and, and_true, aAppend, getE2, setE2]
      refine ⟨small_lt (by rw [List.length_map, List.length_map]; omega), hN _ _ ⟨r ++ [ds], o5, c5, _, _, _, _, _, _, rfl, ?_, hp5, by omega, by simp [hr], fun m hm => ?_⟩⟩
      · rw [List.map_append, List.map_append]
        rfl
      · rcases List.mem_append.mp hm with hm | hm
        · exact hf m hm
        · rw [List.mem_singleton] at hm
          subst hm
          exact fits_of hds hdT
  obtain ⟨r, o4, c4, m7, m8, m9, m10, m11, m12, rfl, rfl, hp4, hc4, hr, hf⟩ := hI
  rw [List.length_map, List.length_range] at hc4 hr
  have hgr : GoodR r := ⟨by omega, fun m hm => good_of hT (hf m hm)⟩
  -- the slots
  have hrv : r.length ≤ 8 := by omega
  simp only [↓sNext, ↓sBreak, ↓sCont, ↓sDrop, ↓sRet, ↓sRetN, ↓sIf, ↓sAsg, ↓agName, ↓agNil, ↓agCons, ↓agTup, ↓sPar, ↓sFor, ↓aV, ↓lk, ↓aC, ↓aOp, ↓aUn, ↓aCall, ↓aNil, ↓aCons, ↓aIf, ↓aTest, ↓aAnd, ↓aOr, ↓aNot, ↓aAndV, ↓aOrV, ↓aNotV, ↓aI, ↓aI0, ↓aAdd, ↓aNeg, ↓aIsN, ↓isNone, ↓aTup, ↓purs, ↓aLst, ↓aLstO, ↓aIx, ↓gi0, ↓gi1, ↓gi2, ↓giN, ↓a1, ↓aLen, ↓aAbs, ↓aInt, ↓aStr, ↓aIsi, ↓btOf, ↓BT.isB, ↓aYes, ↓aiSeq, wipeL, ↓startL, List.map, List.set, List.replicate, List.length, List.append, List.cons_append, List.nil_append, ↓aMt, ↓isLs, ↓aLc, ↓aLcO, Bool.false_bne, Bool.true_bne, Bool.xor_false, Bool.false_xor, Bool.true_xor, Bool.not_true, Bool.not_false, decide_eq_true_eq, if_true, if_false, ite_true, ite_false, reduceIte, Bool.false_eq_true, List.getElem?_cons_zero, List.getElem?_cons_succ, ↓aLt, ↓aLe, ↓aGt, ↓aGe, ↓aSub, ↓aMul, ↓aDiv, ↓aMod, ↓aPow, true_and, and_true]
  refine sq ?_
  simp only [↓sNext, ↓sBreak, ↓sCont, ↓sDrop, ↓sRet, ↓sRetN, ↓sIf, ↓sAsg, ↓agName, ↓agNil, ↓agCons, ↓agTup, ↓sPar, ↓sFor, ↓aV, ↓lk, ↓aC, ↓aOp, ↓aUn, ↓aCall, ↓aNil, ↓aCons, ↓aIf, ↓aTest, ↓aAnd, ↓aOr, ↓aNot, ↓aAndV, ↓aOrV, ↓aNotV, ↓aI, ↓aI0, ↓aAdd, ↓aNeg, ↓aIsN, ↓isNone, ↓aTup, ↓purs, ↓aLst, ↓aLstO, ↓aIx, ↓gi0, ↓gi1, ↓gi2, ↓giN, ↓a1, ↓aLen, ↓aAbs, ↓aInt, ↓aStr, ↓aIsi, ↓btOf, ↓BT.isB, ↓aYes, ↓aiSeq, wipeL, ↓startL, List.map, List.set, List.replicate, List.length, List.append, List.cons_append, List.nil_append, ↓aMt, ↓isLs, ↓aLc, ↓aLcO, Bool.false_bne, Bool.true_bne, Bool.xor_false, Bool.false_xor, Bool.true_xor, Bool.not_true, Bool.not_false, decide_eq_true_eq, if_true, if_false, ite_true, ite_false, reduceIte, Bool.false_eq_true, List.getElem?_cons_zero, List.getElem?_cons_succ, ↓aLt, ↓aLe, ↓aGt, ↓aGe, ↓aSub, ↓aMul, ↓aDiv, ↓aMod, ↓aPow, true_and, and_true, aEq, aRepO, st_len, st_two]
  refine ⟨.lst (r.map mkP), _, ⟨_, getE2 _ _ _ _, rfl⟩, rfl, lst_dat hgr.2, (fun x hx => nomatch hx), ?_⟩
  rw [eqb_lst_nil]
  have hemp : (r.map mkP).isEmpty = r.isEmpty := by cases r <;> rfl
  refine ⟨_, rfl, by split <;> decide, by split <;> decide, by split <;> decide, ?_⟩
  rw [hemp, h0_rep]
  refine sq ?_
  simp only [↓sNext, ↓sBreak, ↓sCont, ↓sDrop, ↓sRet, ↓sRetN, ↓sIf, ↓sAsg, ↓agName, ↓agNil, ↓agCons, ↓agTup, ↓sPar, ↓sFor, ↓aV, ↓lk, ↓aC, ↓aOp, ↓aUn, ↓aCall, ↓aNil, ↓aCons, ↓aIf, ↓aTest, ↓aAnd, ↓aOr, ↓aNot, ↓aAndV, ↓aOrV, ↓aNotV, ↓aI, ↓aI0, ↓aAdd, ↓aNeg, ↓aIsN, ↓isNone, ↓aTup, ↓purs, ↓aLst, ↓aLstO, ↓aIx, ↓gi0, ↓gi1, ↓gi2, ↓giN, ↓a1, ↓aLen, ↓aAbs, ↓aInt, ↓aStr, ↓aIsi, ↓btOf, ↓BT.isB, ↓aYes, ↓aiSeq, wipeL, ↓startL, List.map, List.set, List.replicate, List.length, List.append, List.cons_append, List.nil_append, ↓aMt, ↓isLs, ↓aLc, ↓aLcO, Bool.false_bne, Bool.true_bne, Bool.xor_false, Bool.false_xor, Bool.true_xor, Bool.not_true, Bool.not_false, decide_eq_true_eq, if_true, if_false, ite_true, ite_false, reduceIte, Bool.false_eq_true, List.getElem?_cons_zero, List.getElem?_cons_succ, ↓aLt, ↓aLe, ↓aGt, ↓aGe, ↓aSub, ↓aMul, ↓aDiv, ↓aMod, ↓aPow, true_and, and_true]
  refine ⟨_, st_F, ?_⟩
  refine for_go (fun t L S' => ∃ (h : List (Option (List Nat))) (o : O) (c : Int) (l11 l12 : Option D), L = [some (.p (.fz (ns.map .int))), l1, some (.own p), some (.p (.int (i : Nat))), some (.p (towP T)), some (.p (.int far)), some (.own B.length), m7, m8, m9, some (.own (B.length + 1)), l11, l12] ∧ S' = B.set p o ++ [.lst ((r.map mkP).map .p), .lst ((h.map mkO).map .p)] ∧ PotO o c ∧ c ≤ c4 + t ∧ h.length ≤ 1 + 3 * t ∧ ∀ m ∈ h, GoodO m) (fun t L S' hI => ?_) (fun t x L S' N hx hI hN => ?_) (fun L S' hI => ?_) ⟨h0 r, o4, c4, _, _, rfl, rfl, hp4, by omega, by unfold h0; split <;> decide, fun m hm => ?_⟩
  case refine_4 =>
    unfold h0 at hm
    split at hm
    · rw [List.mem_singleton] at hm; subst hm; trivial
    · cases hm
  · obtain ⟨h, o5, c5, m11', m12', rfl, rfl, _⟩ := hI
    exact st_F
  · obtain ⟨y, hy, rfl⟩ := map_at hx
    obtain ⟨m, hm, rfl⟩ := map_at hy
    have ht : t < r.length := (List.getElem?_eq_some_iff.mp hm).1
    have hgm := hgr.2 m (List.mem_of_getElem? hm)
    obtain ⟨h, o5, c5, m11', m12', rfl, rfl, hp5, hc5, hhl, hhg⟩ := hI
    simp only [↓sNext, ↓sBreak, ↓sCont, ↓sDrop, ↓sRet, ↓sRetN, ↓sIf, ↓sAsg, ↓agName, ↓agNil, ↓agCons, ↓agTup, ↓sPar, ↓sFor, ↓aV, ↓lk, ↓aC, ↓aOp, ↓aUn, ↓aCall, ↓aNil, ↓aCons, ↓aIf, ↓aTest, ↓aAnd, ↓aOr, ↓aNot, ↓aAndV, ↓aOrV, ↓aNotV, ↓aI, ↓aI0, ↓aAdd, ↓aNeg, ↓aIsN, ↓isNone, ↓aTup, ↓purs, ↓aLst, ↓aLstO, ↓aIx, ↓gi0, ↓gi1, ↓gi2, ↓giN, ↓a1, ↓aLen, ↓aAbs, ↓aInt, ↓aStr, ↓aIsi, ↓btOf, ↓BT.isB, ↓aYes, ↓aiSeq, wipeL, ↓startL, List.map, List.set, List.replicate, List.length, List.append, List.cons_append, List.nil_append, ↓aMt, ↓isLs, ↓aLc, ↓aLcO, Bool.false_bne, Bool.true_bne, Bool.xor_false, Bool.false_xor, Bool.true_xor, Bool.not_true, Bool.not_false, decide_eq_true_eq, if_true, if_false, ite_true, ite_false, reduceIte, Bool.false_eq_true, List.getElem?_cons_zero, List.getElem?_cons_succ, ↓aLt, ↓aLe, ↓aGt, ↓aGe, ↓aSub, ↓aMul, ↓aDiv, ↓aMod, ↓aPow, true_and, and_true, aRep, aExtend, st_G]
    refine ⟨p, 2, c5, o5, rfl, st_get2 hpl, hp5, by omega, by decide, by decide, fun d o6 c6 hd hp6 hc6 => ?_⟩
    rw [st_set2 hpl]
    simp only [↓sNext, ↓sBreak, ↓sCont, ↓sDrop, ↓sRet, ↓sRetN, ↓sIf, ↓sAsg, ↓agName, ↓agNil, ↓agCons, ↓agTup, ↓sPar, ↓sFor, ↓aV, ↓lk, ↓aC, ↓aOp, ↓aUn, ↓aCall, ↓aNil, ↓aCons, ↓aIf, ↓aTest, ↓aAnd, ↓aOr, ↓aNot, ↓aAndV, ↓aOrV, ↓aNotV, ↓aI, ↓aI0, ↓aAdd, ↓aNeg, ↓aIsN, ↓isNone, ↓aTup, ↓purs, ↓aLst, ↓aLstO, ↓aIx, ↓gi0, ↓gi1, ↓gi2, ↓giN, ↓a1, ↓aLen, ↓aAbs, ↓aInt, ↓aStr, ↓aIsi, ↓btOf, ↓BT.isB, ↓aYes, ↓aiSeq, wipeL, ↓startL, List.map, List.set, List.replicate, List.length, List.append, List.cons_append, List.nil_append, ↓aMt, ↓isLs, ↓aLc, ↓aLcO, Bool.false_bne, Bool.true_bne, Bool.xor_false, Bool.false_xor, Bool.true_xor, Bool.not_true, Bool.not_false, decide_eq_true_eq, if_true, if_false, ite_true, ite_false, reduceIte, Bool.false_eq_true, List.getElem?_cons_zero, List.getElem?_cons_succ, ↓aLt, ↓aLe, ↓aGt, ↓aGe, ↓aSub, ↓aMul, ↓aDiv, ↓aMod, ↓aPow, true_and, and_true, aRep, aExtend, st_G]
    have hd2 : d < 2 := by omega
    refine ⟨_, rfl, by omega, by omega, ?_, ?_⟩
    · show 1 * ((d : Nat) : Int).toNat ≤ sizeLine
      exact small_sl (by omega)
    · rw [show ((d : Nat) : Int).toNat = d from rfl, none_rep]
      refine ⟨?_, ?_, ?_⟩
      · rw [List.length_map, List.length_replicate]
        exact small_sl (by omega)
      · rw [List.length_map, List.length_map]
        refine small_sl ?_
        show h.length + ((List.map mkO (List.replicate d none)).length + 1) ≤ 10000
        rw [List.length_map, List.length_replicate]
        omega
      · rw [st_setG]
        refine hN _ _ ⟨h ++ (some m :: List.replicate d none), o6, c6, _, _, rfl, ?_, hp6, by omega, ?_, fun m' hm' => ?_⟩
        · rw [List.map_append, List.map_append]
          rfl
        · rw [List.length_append, List.length_cons, List.length_replicate]
          omega
        · rcases List.mem_append.mp hm' with hm' | hm'
          · exact hhg m' hm'
          · rcases List.mem_cons.mp hm' with rfl | hm'
            · exact hgm
            · rw [List.mem_replicate] at hm'
              rw [hm'.2]; trivial
  obtain ⟨h', o5, c5, m11', m12', rfl, rfl, hp5, hc5, hhl, hhg⟩ := hI
  rw [List.length_map, List.length_map] at hc5 hhl
  -- the place
  simp only [↓sNext, ↓sBreak, ↓sCont, ↓sDrop, ↓sRet, ↓sRetN, ↓sIf, ↓sAsg, ↓agName, ↓agNil, ↓agCons, ↓agTup, ↓sPar, ↓sFor, ↓aV, ↓lk, ↓aC, ↓aOp, ↓aUn, ↓aCall, ↓aNil, ↓aCons, ↓aIf, ↓aTest, ↓aAnd, ↓aOr, ↓aNot, ↓aAndV, ↓aOrV, ↓aNotV, ↓aI, ↓aI0, ↓aAdd, ↓aNeg, ↓aIsN, ↓isNone, ↓aTup, ↓purs, ↓aLst, ↓aLstO, ↓aIx, ↓gi0, ↓gi1, ↓gi2, ↓giN, ↓a1, ↓aLen, ↓aAbs, ↓aInt, ↓aStr, ↓aIsi, ↓btOf, ↓BT.isB, ↓aYes, ↓aiSeq, wipeL, ↓startL, List.map, List.set, List.replicate, List.length, List.append, List.cons_append, List.nil_append, ↓aMt, ↓isLs, ↓aLc, ↓aLcO, Bool.false_bne, Bool.true_bne, Bool.xor_false, Bool.false_xor, Bool.true_xor, Bool.not_true, Bool.not_false, decide_eq_true_eq, if_true, if_false, ite_true, ite_false, reduceIte, Bool.false_eq_true, List.getElem?_cons_zero, List.getElem?_cons_succ, ↓aLt, ↓aLe, ↓aGt, ↓aGe, ↓aSub, ↓aMul, ↓aDiv, ↓aMod, ↓aPow, true_and, and_true]
  refine sq ?_
  simp only [↓sNext, ↓sBreak, ↓sCont, ↓sDrop, ↓sRet, ↓sRetN, ↓sIf, ↓sAsg, ↓agName, ↓agNil, ↓agCons, ↓agTup, ↓sPar, ↓sFor, ↓aV, ↓lk, ↓aC, ↓aOp, ↓aUn, ↓aCall, ↓aNil, ↓aCons, ↓aIf, ↓aTest, ↓aAnd, ↓aOr, ↓aNot, ↓aAndV, ↓aOrV, ↓aNotV, ↓aI, ↓aI0, ↓aAdd, ↓aNeg, ↓aIsN, ↓isNone, ↓aTup, ↓purs, ↓aLst, ↓aLstO, ↓aIx, ↓gi0, ↓gi1, ↓gi2, ↓giN, ↓a1, ↓aLen, ↓aAbs, ↓aInt, ↓aStr, ↓aIsi, ↓btOf, ↓BT.isB, ↓aYes, ↓aiSeq, wipeL, ↓startL, List.map, List.set, List.replicate, List.length, List.append, List.cons_append, List.nil_append, ↓aMt, ↓isLs, ↓aLc, ↓aLcO, Bool.false_bne, Bool.true_bne, Bool.xor_false, Bool.false_xor, Bool.true_xor, Bool.not_true, Bool.not_false, decide_eq_true_eq, if_true, if_false, ite_true, ite_false, reduceIte, Bool.false_eq_true, List.getElem?_cons_zero, List.getElem?_cons_succ, ↓aLt, ↓aLe, ↓aGt, ↓aGe, ↓aSub, ↓aMul, ↓aDiv, ↓aMod, ↓aPow, true_and, and_true, pow9_eq]
  refine ⟨powW9, powW9, p, 1000000000, c5, o5, rfl, st_get2 hpl, hp5, by omega, by decide, by decide, fun d o6 c6 hd hp6 hc6 => ?_⟩
  rw [st_set2 hpl]
  simp only [↓sNext, ↓sBreak, ↓sCont, ↓sDrop, ↓sRet, ↓sRetN, ↓sIf, ↓sAsg, ↓agName, ↓agNil, ↓agCons, ↓agTup, ↓sPar, ↓sFor, ↓aV, ↓lk, ↓aC, ↓aOp, ↓aUn, ↓aCall, ↓aNil, ↓aCons, ↓aIf, ↓aTest, ↓aAnd, ↓aOr, ↓aNot, ↓aAndV, ↓aOrV, ↓aNotV, ↓aI, ↓aI0, ↓aAdd, ↓aNeg, ↓aIsN, ↓isNone, ↓aTup, ↓purs, ↓aLst, ↓aLstO, ↓aIx, ↓gi0, ↓gi1, ↓gi2, ↓giN, ↓a1, ↓aLen, ↓aAbs, ↓aInt, ↓aStr, ↓aIsi, ↓btOf, ↓BT.isB, ↓aYes, ↓aiSeq, wipeL, ↓startL, List.map, List.set, List.replicate, List.length, List.append, List.cons_append, List.nil_append, ↓aMt, ↓isLs, ↓aLc, ↓aLcO, Bool.false_bne, Bool.true_bne, Bool.xor_false, Bool.false_xor, Bool.true_xor, Bool.not_true, Bool.not_false, decide_eq_true_eq, if_true, if_false, ite_true, ite_false, reduceIte, Bool.false_eq_true, List.getElem?_cons_zero, List.getElem?_cons_succ, ↓aLt, ↓aLe, ↓aGt, ↓aGe, ↓aSub, ↓aMul, ↓aDiv, ↓aMod, ↓aPow, true_and, and_true]
  refine ⟨p, _, c6, o6, rfl, st_get2 hpl, hp6, by omega, by simp, (by show 4 ≤ 1000; decide), fun k x o7 c7 hx7 hp7 hc7 => ?_⟩
  rw [st_set2 hpl]
  obtain ⟨pl, rfl, hplc⟩ := four_at (v := d) (by omega) hx7
  refine ⟨_, st_F, _, st_G, T, r, h', pl, rfl, hT.1, hgr, hf, ⟨by omega, hhg⟩, hplc, ?_⟩
  simp only [↓sNext, ↓sBreak, ↓sCont, ↓sDrop, ↓sRet, ↓sRetN, ↓sIf, ↓sAsg, ↓agName, ↓agNil, ↓agCons, ↓agTup, ↓sPar, ↓sFor, ↓aV, ↓lk, ↓aC, ↓aOp, ↓aUn, ↓aCall, ↓aNil, ↓aCons, ↓aIf, ↓aTest, ↓aAnd, ↓aOr, ↓aNot, ↓aAndV, ↓aOrV, ↓aNotV, ↓aI, ↓aI0, ↓aAdd, ↓aNeg, ↓aIsN, ↓isNone, ↓aTup, ↓purs, ↓aLst, ↓aLstO, ↓aIx, ↓gi0, ↓gi1, ↓gi2, ↓giN, ↓a1, ↓aLen, ↓aAbs, ↓aInt, ↓aStr, ↓aIsi, ↓btOf, ↓BT.isB, ↓aYes, ↓aiSeq, wipeL, ↓startL, List.map, List.set, List.replicate, List.length, List.append, List.cons_append, List.nil_append, ↓aMt, ↓isLs, ↓aLc, ↓aLcO, Bool.false_bne, Bool.true_bne, Bool.xor_false, Bool.false_xor, Bool.true_xor, Bool.not_true, Bool.not_false, decide_eq_true_eq, if_true, if_false, ite_true, ite_false, reduceIte, Bool.false_eq_true, List.getElem?_cons_zero, List.getElem?_cons_succ, ↓aLt, ↓aLe, ↓aGt, ↓aGe, ↓aSub, ↓aMul, ↓aDiv, ↓aMod, ↓aPow, true_and, and_true]
  exact hN _ _ ⟨_, _, _, _, _, _, _, _, _, _, _, rfl, o7, c7, st_get2 hpl, hp7, by omega⟩
end
end Lw
namespace Lw
open PySem PySem.Spec PyProof.Rows L2 Am
theorem all_mk {l : PySem.W.OpenLaw} {w : World} {K : PySem.W.Frag} {h : Heap} {mg : Str → Option Value} {fa : Addr} (X : K.In h) (G : h.Ns mainGlobals mg) (hfa : mg "law" = some (.ref fa))
    {od0 an0 : Option Addr} {sl0 : Array (Option Value)} {oc0 kV0 dc0 pm0 cd0 ct0 : Value} {f0 : Addr}
    (a0 : PySem.W.nsIn K mainGlobals "show_mark" = some (some (.ref f0)))
    (l0 : K.lookup f0 = some ⟨oc0, od0, .func (PySem.W.fnOf "show_mark" "show_mark" (defArgs st_show_mark) (defBody st_show_mark) (defScope st_show_mark) .none kV0 dc0 pm0 an0 cd0 ct0), sl0⟩)
    (c0 : PySem.W.codeIn K cd0 "show_mark" = true)
    (k0 : PySem.W.keepIn K (.ref f0) = true)
    {od1 an1 : Option Addr} {sl1 : Array (Option Value)} {oc1 kV1 dc1 pm1 cd1 ct1 : Value} {f1 : Addr}
    (a1 : PySem.W.nsIn K mainGlobals "show_row" = some (some (.ref f1)))
    (l1 : K.lookup f1 = some ⟨oc1, od1, .func (PySem.W.fnOf "show_row" "show_row" (defArgs st_show_row) (defBody st_show_row) (defScope st_show_row) .none kV1 dc1 pm1 an1 cd1 ct1), sl1⟩)
    (c1 : PySem.W.codeIn K cd1 "show_row" = true)
    (k1 : PySem.W.keepIn K (.ref f1) = true)
    {od2 an2 : Option Addr} {sl2 : Array (Option Value)} {oc2 kV2 dc2 pm2 cd2 ct2 : Value} {f2 : Addr}
    (a2 : PySem.W.nsIn K mainGlobals "show_held" = some (some (.ref f2)))
    (l2 : K.lookup f2 = some ⟨oc2, od2, .func (PySem.W.fnOf "show_held" "show_held" (defArgs st_show_held) (defBody st_show_held) (defScope st_show_held) .none kV2 dc2 pm2 an2 cd2 ct2), sl2⟩)
    (c2 : PySem.W.codeIn K cd2 "show_held" = true)
    (k2 : PySem.W.keepIn K (.ref f2) = true)
    {od3 an3 : Option Addr} {sl3 : Array (Option Value)} {oc3 kV3 dc3 pm3 cd3 ct3 : Value} {f3 : Addr}
    (a3 : PySem.W.nsIn K mainGlobals "show_letter" = some (some (.ref f3)))
    (l3 : K.lookup f3 = some ⟨oc3, od3, .func (PySem.W.fnOf "show_letter" "show_letter" (defArgs st_show_letter) (defBody st_show_letter) (defScope st_show_letter) .none kV3 dc3 pm3 an3 cd3 ct3), sl3⟩)
    (c3 : PySem.W.codeIn K cd3 "show_letter" = true)
    (k3 : PySem.W.keepIn K (.ref f3) = true)
    {od4 an4 : Option Addr} {sl4 : Array (Option Value)} {oc4 kV4 dc4 pm4 cd4 ct4 : Value} {f4 : Addr}
    (a4 : PySem.W.nsIn K mainGlobals "is_digit" = some (some (.ref f4)))
    (l4 : K.lookup f4 = some ⟨oc4, od4, .func (PySem.W.fnOf "is_digit" "is_digit" (defArgs st_is_digit) (defBody st_is_digit) (defScope st_is_digit) .none kV4 dc4 pm4 an4 cd4 ct4), sl4⟩)
    (c4 : PySem.W.codeIn K cd4 "is_digit" = true)
    (k4 : PySem.W.keepIn K (.ref f4) = true)
    {od5 an5 : Option Addr} {sl5 : Array (Option Value)} {oc5 kV5 dc5 pm5 cd5 ct5 : Value} {f5 : Addr}
    (a5 : PySem.W.nsIn K mainGlobals "is_mark" = some (some (.ref f5)))
    (l5 : K.lookup f5 = some ⟨oc5, od5, .func (PySem.W.fnOf "is_mark" "is_mark" (defArgs st_is_mark) (defBody st_is_mark) (defScope st_is_mark) .none kV5 dc5 pm5 an5 cd5 ct5), sl5⟩)
    (c5 : PySem.W.codeIn K cd5 "is_mark" = true)
    (k5 : PySem.W.keepIn K (.ref f5) = true)
    {od6 an6 : Option Addr} {sl6 : Array (Option Value)} {oc6 kV6 dc6 pm6 cd6 ct6 : Value} {f6 : Addr}
    (a6 : PySem.W.nsIn K mainGlobals "number_in" = some (some (.ref f6)))
    (l6 : K.lookup f6 = some ⟨oc6, od6, .func (PySem.W.fnOf "number_in" "number_in" (defArgs st_number_in) (defBody st_number_in) (defScope st_number_in) .none kV6 dc6 pm6 an6 cd6 ct6), sl6⟩)
    (c6 : PySem.W.codeIn K cd6 "number_in" = true)
    (k6 : PySem.W.keepIn K (.ref f6) = true)
    {od7 an7 : Option Addr} {sl7 : Array (Option Value)} {oc7 kV7 dc7 pm7 cd7 ct7 : Value} {f7 : Addr}
    (a7 : PySem.W.nsIn K mainGlobals "numbers_in" = some (some (.ref f7)))
    (l7 : K.lookup f7 = some ⟨oc7, od7, .func (PySem.W.fnOf "numbers_in" "numbers_in" (defArgs st_numbers_in) (defBody st_numbers_in) (defScope st_numbers_in) .none kV7 dc7 pm7 an7 cd7 ct7), sl7⟩)
    (c7 : PySem.W.codeIn K cd7 "numbers_in" = true)
    (k7 : PySem.W.keepIn K (.ref f7) = true)
    {od8 an8 : Option Addr} {sl8 : Array (Option Value)} {oc8 kV8 dc8 pm8 cd8 ct8 : Value} {f8 : Addr}
    (a8 : PySem.W.nsIn K mainGlobals "mark_in" = some (some (.ref f8)))
    (l8 : K.lookup f8 = some ⟨oc8, od8, .func (PySem.W.fnOf "mark_in" "mark_in" (defArgs st_mark_in) (defBody st_mark_in) (defScope st_mark_in) .none kV8 dc8 pm8 an8 cd8 ct8), sl8⟩)
    (c8 : PySem.W.codeIn K cd8 "mark_in" = true)
    (k8 : PySem.W.keepIn K (.ref f8) = true)
    {od9 an9 : Option Addr} {sl9 : Array (Option Value)} {oc9 kV9 dc9 pm9 cd9 ct9 : Value} {f9 : Addr}
    (a9 : PySem.W.nsIn K mainGlobals "read_row" = some (some (.ref f9)))
    (l9 : K.lookup f9 = some ⟨oc9, od9, .func (PySem.W.fnOf "read_row" "read_row" (defArgs st_read_row) (defBody st_read_row) (defScope st_read_row) .none kV9 dc9 pm9 an9 cd9 ct9), sl9⟩)
    (c9 : PySem.W.codeIn K cd9 "read_row" = true)
    (k9 : PySem.W.keepIn K (.ref f9) = true)
    {od10 an10 : Option Addr} {sl10 : Array (Option Value)} {oc10 kV10 dc10 pm10 cd10 ct10 : Value} {f10 : Addr}
    (a10 : PySem.W.nsIn K mainGlobals "_law_pot" = some (some (.ref f10)))
    (l10 : K.lookup f10 = some ⟨oc10, od10, .func (PySem.W.fnOf "_law_pot" "_law_pot" (defArgs st_law_pot) (defBody st_law_pot) (defScope st_law_pot) .none kV10 dc10 pm10 an10 cd10 ct10), sl10⟩)
    (c10 : PySem.W.codeIn K cd10 "_law_pot" = true)
    (k10 : PySem.W.keepIn K (.ref f10) = true)
    {od11 an11 : Option Addr} {sl11 : Array (Option Value)} {oc11 kV11 dc11 pm11 cd11 ct11 : Value} {f11 : Addr}
    (a11 : PySem.W.nsIn K mainGlobals "_law_take" = some (some (.ref f11)))
    (l11 : K.lookup f11 = some ⟨oc11, od11, .func (PySem.W.fnOf "_law_take" "_law_take" (defArgs st_law_take) (defBody st_law_take) (defScope st_law_take) .none kV11 dc11 pm11 an11 cd11 ct11), sl11⟩)
    (c11 : PySem.W.codeIn K cd11 "_law_take" = true)
    (k11 : PySem.W.keepIn K (.ref f11) = true)
    {od12 an12 : Option Addr} {sl12 : Array (Option Value)} {oc12 kV12 dc12 pm12 cd12 ct12 : Value} {f12 : Addr}
    (a12 : PySem.W.nsIn K mainGlobals "_law_of" = some (some (.ref f12)))
    (l12 : K.lookup f12 = some ⟨oc12, od12, .func (PySem.W.fnOf "_law_of" "_law_of" (defArgs st_law_of) (defBody st_law_of) (defScope st_law_of) .none kV12 dc12 pm12 an12 cd12 ct12), sl12⟩)
    (c12 : PySem.W.codeIn K cd12 "_law_of" = true)
    (k12 : PySem.W.keepIn K (.ref f12) = true)
    {od13 an13 : Option Addr} {sl13 : Array (Option Value)} {oc13 kV13 dc13 pm13 cd13 ct13 : Value} {f13 : Addr}
    (a13 : PySem.W.nsIn K mainGlobals "_law_seven" = some (some (.ref f13)))
    (l13 : K.lookup f13 = some ⟨oc13, od13, .func (PySem.W.fnOf "_law_seven" "_law_seven" (defArgs st_law_seven) (defBody st_law_seven) (defScope st_law_seven) .none kV13 dc13 pm13 an13 cd13 ct13), sl13⟩)
    (c13 : PySem.W.codeIn K cd13 "_law_seven" = true)
    (k13 : PySem.W.keepIn K (.ref f13) = true)
    {od14 an14 : Option Addr} {sl14 : Array (Option Value)} {oc14 kV14 dc14 pm14 cd14 ct14 : Value} {f14 : Addr}
    (a14 : PySem.W.nsIn K mainGlobals "_law_two_rings" = some (some (.ref f14)))
    (l14 : K.lookup f14 = some ⟨oc14, od14, .func (PySem.W.fnOf "_law_two_rings" "_law_two_rings" (defArgs st_law_two_rings) (defBody st_law_two_rings) (defScope st_law_two_rings) .none kV14 dc14 pm14 an14 cd14 ct14), sl14⟩)
    (c14 : PySem.W.codeIn K cd14 "_law_two_rings" = true)
    (k14 : PySem.W.keepIn K (.ref f14) = true)
    {od15 an15 : Option Addr} {sl15 : Array (Option Value)} {oc15 kV15 dc15 pm15 cd15 ct15 : Value} {f15 : Addr}
    (a15 : PySem.W.nsIn K mainGlobals "_law_known" = some (some (.ref f15)))
    (l15 : K.lookup f15 = some ⟨oc15, od15, .func (PySem.W.fnOf "_law_known" "_law_known" (defArgs st_law_known) (defBody st_law_known) (defScope st_law_known) .none kV15 dc15 pm15 an15 cd15 ct15), sl15⟩)
    (c15 : PySem.W.codeIn K cd15 "_law_known" = true)
    (k15 : PySem.W.keepIn K (.ref f15) = true)
    {od16 an16 : Option Addr} {sl16 : Array (Option Value)} {oc16 kV16 dc16 pm16 cd16 ct16 : Value} {f16 : Addr}
    (a16 : PySem.W.nsIn K mainGlobals "_law_tower" = some (some (.ref f16)))
    (l16 : K.lookup f16 = some ⟨oc16, od16, .func (PySem.W.fnOf "_law_tower" "_law_tower" (defArgs st_law_tower) (defBody st_law_tower) (defScope st_law_tower) .none kV16 dc16 pm16 an16 cd16 ct16), sl16⟩)
    (c16 : PySem.W.codeIn K cd16 "_law_tower" = true)
    (k16 : PySem.W.keepIn K (.ref f16) = true)
    {od17 an17 : Option Addr} {sl17 : Array (Option Value)} {oc17 kV17 dc17 pm17 cd17 ct17 : Value} {f17 : Addr}
    (a17 : PySem.W.nsIn K mainGlobals "_law_mark_text" = some (some (.ref f17)))
    (l17 : K.lookup f17 = some ⟨oc17, od17, .func (PySem.W.fnOf "_law_mark_text" "_law_mark_text" (defArgs st_law_mark_text) (defBody st_law_mark_text) (defScope st_law_mark_text) .none kV17 dc17 pm17 an17 cd17 ct17), sl17⟩)
    (c17 : PySem.W.codeIn K cd17 "_law_mark_text" = true)
    (k17 : PySem.W.keepIn K (.ref f17) = true)
    {od18 an18 : Option Addr} {sl18 : Array (Option Value)} {oc18 kV18 dc18 pm18 cd18 ct18 : Value} {f18 : Addr}
    (a18 : PySem.W.nsIn K mainGlobals "_law_held_text" = some (some (.ref f18)))
    (l18 : K.lookup f18 = some ⟨oc18, od18, .func (PySem.W.fnOf "_law_held_text" "_law_held_text" (defArgs st_law_held_text) (defBody st_law_held_text) (defScope st_law_held_text) .none kV18 dc18 pm18 an18 cd18 ct18), sl18⟩)
    (c18 : PySem.W.codeIn K cd18 "_law_held_text" = true)
    (k18 : PySem.W.keepIn K (.ref f18) = true)
    {od19 an19 : Option Addr} {sl19 : Array (Option Value)} {oc19 kV19 dc19 pm19 cd19 ct19 : Value} {f19 : Addr}
    (a19 : PySem.W.nsIn K mainGlobals "_law_right" = some (some (.ref f19)))
    (l19 : K.lookup f19 = some ⟨oc19, od19, .func (PySem.W.fnOf "_law_right" "_law_right" (defArgs st_law_right) (defBody st_law_right) (defScope st_law_right) .none kV19 dc19 pm19 an19 cd19 ct19), sl19⟩)
    (c19 : PySem.W.codeIn K cd19 "_law_right" = true)
    (k19 : PySem.W.keepIn K (.ref f19) = true)
    {od20 an20 : Option Addr} {sl20 : Array (Option Value)} {oc20 kV20 dc20 pm20 cd20 ct20 : Value} {f20 : Addr}
    (a20 : PySem.W.nsIn K mainGlobals "law" = some (some (.ref f20)))
    (l20 : K.lookup f20 = some ⟨oc20, od20, .func (PySem.W.fnOf "law" "law" (defArgs st_law) (defBody st_law) (defScope st_law) .none kV20 dc20 pm20 an20 cd20 ct20), sl20⟩)
    (c20 : PySem.W.codeIn K cd20 "law" = true)
    (k20 : PySem.W.keepIn K (.ref f20) = true)
    {t_BLANK : Tok} (g_BLANK : PySem.W.nsIn K mainGlobals "BLANK" = some (some (.str " " t_BLANK)))
    {t_FIGURES : Tok} (g_FIGURES : PySem.W.nsIn K mainGlobals "FIGURES" = some (some (.str "0123456789" t_FIGURES)))
    {t_NOTHING : Tok} (g_NOTHING : PySem.W.nsIn K mainGlobals "NOTHING" = some (some (.str "-" t_NOTHING)))
    {t_POINT : Tok} (g_POINT : PySem.W.nsIn K mainGlobals "POINT" = some (some (.str "." t_POINT)))
    (y_abs : PySem.W.nsIn K mainGlobals "abs" = some none)
    (y_all : PySem.W.nsIn K mainGlobals "all" = some none)
    (y_bool : PySem.W.nsIn K mainGlobals "bool" = some none)
    (y_int : PySem.W.nsIn K mainGlobals "int" = some none)
    (y_isinstance : PySem.W.nsIn K mainGlobals "isinstance" = some none)
    (y_len : PySem.W.nsIn K mainGlobals "len" = some none)
    (y_max : PySem.W.nsIn K mainGlobals "max" = some none)
    (y_min : PySem.W.nsIn K mainGlobals "min" = some none)
    (y_range : PySem.W.nsIn K mainGlobals "range" = some none)
    (y_repr : PySem.W.nsIn K mainGlobals "repr" = some none)
    (y_sorted : PySem.W.nsIn K mainGlobals "sorted" = some none)
    (y_str : PySem.W.nsIn K mainGlobals "str" = some none)
    (y_tuple : PySem.W.nsIn K mainGlobals "tuple" = some none)
    (y_zip : PySem.W.nsIn K mainGlobals "zip" = some none) :
    ∃ fd : FuncData, (∀ (s : Shared) (v : Value), BindsTo s fd ⟨[v], []⟩ [("_law_script", v)]) ∧ ∀ base : Heap, K.In base → base.Ns mainGlobals mg → FnG l.prog w K mg base CX0 6 fa fd ["_law_script"] (spOf K F_law) := by
  have m_BLANK := PySem.W.mg_of X G g_BLANK
  have m_FIGURES := PySem.W.mg_of X G g_FIGURES
  have m_NOTHING := PySem.W.mg_of X G g_NOTHING
  have m_POINT := PySem.W.mg_of X G g_POINT
  have z_abs := PySem.W.mg_none_of X G y_abs
  have z_all := PySem.W.mg_none_of X G y_all
  have z_bool := PySem.W.mg_none_of X G y_bool
  have z_int := PySem.W.mg_none_of X G y_int
  have z_isinstance := PySem.W.mg_none_of X G y_isinstance
  have z_len := PySem.W.mg_none_of X G y_len
  have z_max := PySem.W.mg_none_of X G y_max
  have z_min := PySem.W.mg_none_of X G y_min
  have z_range := PySem.W.mg_none_of X G y_range
  have z_repr := PySem.W.mg_none_of X G y_repr
  have z_sorted := PySem.W.mg_none_of X G y_sorted
  have z_str := PySem.W.mg_none_of X G y_str
  have z_tuple := PySem.W.mg_none_of X G y_tuple
  have z_zip := PySem.W.mg_none_of X G y_zip
  have p_show_mark : Pre K mg "show_mark" st_show_mark := ⟨_, _, fun_mk l0 c0 k0, PySem.W.mg_of X G a0⟩
  have p_show_row : Pre K mg "show_row" st_show_row := ⟨_, _, fun_mk l1 c1 k1, PySem.W.mg_of X G a1⟩
  have p_show_held : Pre K mg "show_held" st_show_held := ⟨_, _, fun_mk l2 c2 k2, PySem.W.mg_of X G a2⟩
  have p_show_letter : Pre K mg "show_letter" st_show_letter := ⟨_, _, fun_mk l3 c3 k3, PySem.W.mg_of X G a3⟩
  have p_is_digit : Pre K mg "is_digit" st_is_digit := ⟨_, _, fun_mk l4 c4 k4, PySem.W.mg_of X G a4⟩
  have p_is_mark : Pre K mg "is_mark" st_is_mark := ⟨_, _, fun_mk l5 c5 k5, PySem.W.mg_of X G a5⟩
  have p_number_in : Pre K mg "number_in" st_number_in := ⟨_, _, fun_mk l6 c6 k6, PySem.W.mg_of X G a6⟩
  have p_numbers_in : Pre K mg "numbers_in" st_numbers_in := ⟨_, _, fun_mk l7 c7 k7, PySem.W.mg_of X G a7⟩
  have p_mark_in : Pre K mg "mark_in" st_mark_in := ⟨_, _, fun_mk l8 c8 k8, PySem.W.mg_of X G a8⟩
  have p_read_row : Pre K mg "read_row" st_read_row := ⟨_, _, fun_mk l9 c9 k9, PySem.W.mg_of X G a9⟩
  have p_law_pot : Pre K mg "_law_pot" st_law_pot := ⟨_, _, fun_mk l10 c10 k10, PySem.W.mg_of X G a10⟩
  have p_law_take : Pre K mg "_law_take" st_law_take := ⟨_, _, fun_mk l11 c11 k11, PySem.W.mg_of X G a11⟩
  have p_law_of : Pre K mg "_law_of" st_law_of := ⟨_, _, fun_mk l12 c12 k12, PySem.W.mg_of X G a12⟩
  have p_law_seven : Pre K mg "_law_seven" st_law_seven := ⟨_, _, fun_mk l13 c13 k13, PySem.W.mg_of X G a13⟩
  have p_law_two_rings : Pre K mg "_law_two_rings" st_law_two_rings := ⟨_, _, fun_mk l14 c14 k14, PySem.W.mg_of X G a14⟩
  have p_law_known : Pre K mg "_law_known" st_law_known := ⟨_, _, fun_mk l15 c15 k15, PySem.W.mg_of X G a15⟩
  have p_law_tower : Pre K mg "_law_tower" st_law_tower := ⟨_, _, fun_mk l16 c16 k16, PySem.W.mg_of X G a16⟩
  have p_law_mark_text : Pre K mg "_law_mark_text" st_law_mark_text := ⟨_, _, fun_mk l17 c17 k17, PySem.W.mg_of X G a17⟩
  have p_law_held_text : Pre K mg "_law_held_text" st_law_held_text := ⟨_, _, fun_mk l18 c18 k18, PySem.W.mg_of X G a18⟩
  have p_law_right : Pre K mg "_law_right" st_law_right := ⟨_, _, fun_mk l19 c19 k19, PySem.W.mg_of X G a19⟩
  have p_law : Pre K mg "law" st_law := ⟨_, _, fun_mk l20 c20 k20, PySem.W.mg_of X G a20⟩
  have e := hfa.symm.trans (PySem.W.mg_of X G a20)
  cases e
  refine ⟨PySem.W.fnOf "law" "law" (defArgs st_law) (defBody st_law) (defScope st_law) .none kV20 dc20 pm20 an20 cd20 ct20, fun s v => .of_eq rfl, fun base _ _ => ?_⟩
  have c_show_mark := cl_show_mark (Pg := l.prog) (w := w) (base := base) p_show_mark z_str m_NOTHING m_POINT
  have c_show_row := cl_show_row (Pg := l.prog) (w := w) (base := base) p_show_row m_BLANK m_NOTHING c_show_mark
  have c_show_held := cl_show_held (Pg := l.prog) (w := w) (base := base) p_show_held m_BLANK c_show_mark
  have c_show_letter := cl_show_letter (Pg := l.prog) (w := w) (base := base) p_show_letter z_str c_show_mark
  have c_is_digit := cl_is_digit (Pg := l.prog) (w := w) (base := base) p_is_digit z_bool z_int z_isinstance
  have c_is_mark := cl_is_mark (Pg := l.prog) (w := w) (base := base) p_is_mark z_all z_isinstance z_len z_tuple z_zip c_is_digit
  have c_number_in := cl_number_in (Pg := l.prog) (w := w) (base := base) p_number_in z_all z_int m_FIGURES
  have c_numbers_in := cl_numbers_in (Pg := l.prog) (w := w) (base := base) p_numbers_in c_number_in
  have c_mark_in := cl_mark_in (Pg := l.prog) (w := w) (base := base) p_mark_in z_tuple m_POINT c_numbers_in
  have c_read_row := cl_read_row (Pg := l.prog) (w := w) (base := base) p_read_row z_all z_isinstance z_str z_tuple m_BLANK m_NOTHING c_is_mark c_mark_in
  have c_law_pot := cl_law_pot (Pg := l.prog) (w := w) (base := base) p_law_pot z_abs z_int z_len
  have c_law_take := cl_law_take (Pg := l.prog) (w := w) (base := base) p_law_take
  have c_law_of := cl_law_of (Pg := l.prog) (w := w) (base := base) p_law_of z_len c_law_take
  have c_law_seven := cl_law_seven (Pg := l.prog) (w := w) (base := base) p_law_seven z_range z_tuple
  have c_law_two_rings := cl_law_two_rings (Pg := l.prog) (w := w) (base := base) p_law_two_rings z_sorted z_tuple
  have c_law_known := cl_law_known (Pg := l.prog) (w := w) (base := base) p_law_known c_law_seven c_law_two_rings
  have c_law_tower := cl_law_tower (Pg := l.prog) (w := w) (base := base) p_law_tower z_range z_tuple c_law_take c_law_of c_law_known
  have c_law_mark_text := cl_law_mark_text (Pg := l.prog) (w := w) (base := base) p_law_mark_text z_str
  have c_law_held_text := cl_law_held_text (Pg := l.prog) (w := w) (base := base) p_law_held_text c_law_mark_text
  have c_law_right := cl_law_right (Pg := l.prog) (w := w) (base := base) p_law_right z_repr z_str c_show_row c_show_held c_show_letter c_read_row c_law_mark_text c_law_held_text
  have c_law := cl_law (Pg := l.prog) (w := w) (base := base) p_law z_int z_len z_max z_min z_range z_tuple c_law_pot c_law_take c_law_of c_law_tower c_law_right
  obtain ⟨f', fd', F', m', b', G'⟩ := c_law.ex
  have e := m'.symm.trans (PySem.W.mg_of X G a20)
  cases e
  obtain ⟨oc', od', kV', dc', pm', an', cd', ct', sl', e1, e2, _⟩ := F'.ex
  have e3 := e2.symm.trans l20
  cases e3
  exact G'
end Lw
open PySem PySem.W PyProof.Rows
set_option maxHeartbeats 0 in
theorem PySem.Challenge.cw_everlater_k69_marks_rows_and_letters_wri_holds : PySem.Challenge.rw_everlater_k69_marks_rows_and_letters_wri.Holds := by
  w_on; o_law; k_head; (case hw => w_witness2)
  k_fill
  refine Am.walk_g (l := PySem.Challenge.rw_everlater_k69_marks_rows_and_letters_wri) (n := 63) (k := 6) (x := "_law_script") (G := Lw.F_law) rfl (by decide) rfl ⟨rfl, by decide, by decide⟩ (fun w h Y => PySem.W.kIn_of Y) ?F (fun ns hl => ⟨ns, rfl, fun _ => rfl⟩)
  case F =>
    intro w mg fa h KX G hmg
    refine' Lw.all_mk KX G hmg ?a0 ?l0 ?c0 ?k0 ?a1 ?l1 ?c1 ?k1 ?a2 ?l2 ?c2 ?k2 ?a3 ?l3 ?c3 ?k3 ?a4 ?l4 ?c4 ?k4 ?a5 ?l5 ?c5 ?k5 ?a6 ?l6 ?c6 ?k6 ?a7 ?l7 ?c7 ?k7 ?a8 ?l8 ?c8 ?k8 ?a9 ?l9 ?c9 ?k9 ?a10 ?l10 ?c10 ?k10 ?a11 ?l11 ?c11 ?k11 ?a12 ?l12 ?c12 ?k12 ?a13 ?l13 ?c13 ?k13 ?a14 ?l14 ?c14 ?k14 ?a15 ?l15 ?c15 ?k15 ?a16 ?l16 ?c16 ?k16 ?a17 ?l17 ?c17 ?k17 ?a18 ?l18 ?c18 ?k18 ?a19 ?l19 ?c19 ?k19 ?a20 ?l20 ?c20 ?k20 ?g_BLANK ?g_FIGURES ?g_NOTHING ?g_POINT ?y_abs ?y_all ?y_bool ?y_int ?y_isinstance ?y_len ?y_max ?y_min ?y_range ?y_repr ?y_sorted ?y_str ?y_tuple ?y_zip
    (case a0 => k_is); (case l0 => k_is); (case c0 => k_is); (case k0 => k_is); (case a1 => k_is); (case l1 => k_is); (case c1 => k_is); (case k1 => k_is); (case a2 => k_is); (case l2 => k_is); (case c2 => k_is); (case k2 => k_is); (case a3 => k_is); (case l3 => k_is); (case c3 => k_is); (case k3 => k_is); (case a4 => k_is); (case l4 => k_is); (case c4 => k_is); (case k4 => k_is); (case a5 => k_is); (case l5 => k_is); (case c5 => k_is); (case k5 => k_is); (case a6 => k_is); (case l6 => k_is); (case c6 => k_is); (case k6 => k_is); (case a7 => k_is); (case l7 => k_is); (case c7 => k_is); (case k7 => k_is); (case a8 => k_is); (case l8 => k_is); (case c8 => k_is); (case k8 => k_is); (case a9 => k_is); (case l9 => k_is); (case c9 => k_is); (case k9 => k_is); (case a10 => k_is); (case l10 => k_is); (case c10 => k_is); (case k10 => k_is); (case a11 => k_is); (case l11 => k_is); (case c11 => k_is); (case k11 => k_is); (case a12 => k_is); (case l12 => k_is); (case c12 => k_is); (case k12 => k_is); (case a13 => k_is); (case l13 => k_is); (case c13 => k_is); (case k13 => k_is); (case a14 => k_is); (case l14 => k_is); (case c14 => k_is); (case k14 => k_is); (case a15 => k_is); (case l15 => k_is); (case c15 => k_is); (case k15 => k_is); (case a16 => k_is); (case l16 => k_is); (case c16 => k_is); (case k16 => k_is); (case a17 => k_is); (case l17 => k_is); (case c17 => k_is); (case k17 => k_is); (case a18 => k_is); (case l18 => k_is); (case c18 => k_is); (case k18 => k_is); (case a19 => k_is); (case l19 => k_is); (case c19 => k_is); (case k19 => k_is); (case a20 => k_is); (case l20 => k_is); (case c20 => k_is); (case k20 => k_is); (case g_BLANK => k_is); (case g_FIGURES => k_is); (case g_NOTHING => k_is); (case g_POINT => k_is); (case y_abs => k_is); (case y_all => k_is); (case y_bool => k_is); (case y_int => k_is); (case y_isinstance => k_is); (case y_len => k_is); (case y_max => k_is); (case y_min => k_is); (case y_range => k_is); (case y_repr => k_is); (case y_sorted => k_is); (case y_str => k_is); (case y_tuple => k_is); (case y_zip => k_is)

