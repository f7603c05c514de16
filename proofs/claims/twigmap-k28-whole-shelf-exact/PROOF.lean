import PyProof.Rows.All
import Wide.All
import OpenK.AllK
import Wide.FinOn
import HandS.ForMost
import KE.LtData
import KE.SortData
import HandS.Rev
import HandS.DictComp
import HandS.SortKw
import HandS.TupMul
import PyProof.ListMulRoad
import PyProof.FactsAll.tuple_2
import HandS.Deep
import HandS.SetFor
import HandS.TupSets
import HandS.Sort
import HandS.IsInst
import HandS.Exc
import HandS.EndBits
import HandS.Wide
import HandS.Walk
import PySem.Challenge.RW_twigmap_k28_whole_shelf_exact
import HandS.Evl
section
set_option autoImplicit false
/-! Twigs as plain data: labels, rows, who holds whom. -/
namespace Twg
/-- a label: height, the place of the least key, of the greatest key, how many rows -/
structure Lab where
  h : Nat
  lo : Nat
  hi : Nat
  ct : Nat
inductive Tg (X : Type) where
  | leaf (rows : List (Nat × X))
  | stem (ks : List Nat)
section
variable {X : Type}
def Tg.kids : Tg X → List Nat
  | .leaf _ => []
  | .stem ks => ks
/-- a shelf: the numbers (rising), what each has, its label, the stems above, the holds from without, the next number -/
structure Sh (X : Type) where
  ks : List Nat
  tw : Nat → Tg X
  lb : Nat → Lab
  ab : Nat → List Nat
  fr : Nat → Nat
  gv : Nat
def fset {α : Type} (f : Nat → α) (n : Nat) (v : α) : Nat → α := fun m => if m = n then v else f m
theorem fset_same {α : Type} (f : Nat → α) (n : Nat) (v : α) : fset f n v n = v := if_pos rfl
theorem fset_ne {α : Type} (f : Nat → α) {n m : Nat} (v : α) (h : m ≠ n) : fset f n v m = f m := if_neg h
def labRows (rows : List (Nat × X)) : Lab := ⟨0, (rows.head?.map (·.1)).getD 0, (rows.getLast?.map (·.1)).getD 0, rows.length⟩
def labOver (ls : List Lab) : Lab := ⟨(ls.head?.map (·.h)).getD 0 + 1, (ls.head?.map (·.lo)).getD 0, (ls.getLast?.map (·.hi)).getD 0, (ls.map (·.ct)).sum⟩
structure RowsOk (rows : List (Nat × X)) : Prop where
  ne : 1 ≤ rows.length
  le : rows.length ≤ 4
  up : rows.Pairwise (fun a b => a.1 < b.1)
  bd : ∀ r ∈ rows, r.1 < 64
structure OverOk (ls : List Lab) : Prop where
  ge : 2 ≤ ls.length
  le : ls.length ≤ 4
  eq : ∀ a ∈ ls, ∀ b ∈ ls, a.h = b.h
  up : ls.Pairwise (fun a b => a.hi < b.lo)
def LabOk (tw : Nat → Tg X) (lb : Nat → Lab) (n : Nat) : Prop :=
  match tw n with
  | .leaf rows => RowsOk rows ∧ lb n = labRows rows
  | .stem ks => OverOk (ks.map lb) ∧ lb n = labOver (ks.map lb)
theorem LabOk.leaf {tw : Nat → Tg X} {lb : Nat → Lab} {n : Nat} {rows : List (Nat × X)} (h : LabOk tw lb n) (e : tw n = .leaf rows) : RowsOk rows ∧ lb n = labRows rows := by
  unfold LabOk at h
  rw [e] at h
  exact h
theorem LabOk.stem {tw : Nat → Tg X} {lb : Nat → Lab} {n : Nat} {ks : List Nat} (h : LabOk tw lb n) (e : tw n = .stem ks) : OverOk (ks.map lb) ∧ lb n = labOver (ks.map lb) := by
  unfold LabOk at h
  rw [e] at h
  exact h
theorem LabOk.of_leaf {tw : Nat → Tg X} {lb : Nat → Lab} {n : Nat} {rows : List (Nat × X)} (e : tw n = .leaf rows) (h : RowsOk rows) (h2 : lb n = labRows rows) : LabOk tw lb n := by
  unfold LabOk
  rw [e]
  exact ⟨h, h2⟩
theorem LabOk.of_stem {tw : Nat → Tg X} {lb : Nat → Lab} {n : Nat} {ks : List Nat} (e : tw n = .stem ks) (h : OverOk (ks.map lb)) (h2 : lb n = labOver (ks.map lb)) : LabOk tw lb n := by
  unfold LabOk
  rw [e]
  exact ⟨h, h2⟩
/-- the labels hang together -/
structure Lok (ks : List Nat) (tw : Nat → Tg X) (lb : Nat → Lab) : Prop where
  cl : ∀ n ∈ ks, ∀ k ∈ (tw n).kids, k ∈ ks
  lo : ∀ n ∈ ks, LabOk tw lb n
structure Lab.Good (l : Lab) : Prop where
  a : l.lo ≤ l.hi
  b : l.hi < 64
  c : l.ct + l.lo ≤ l.hi + 1
  d : l.h + 1 ≤ l.ct

/-! ### lists -/
theorem pw_get {α : Type} {R : α → α → Prop} {l : List α} (h : l.Pairwise R) {i j : Nat} {a b : α} (hij : i < j) (ha : l[i]? = some a) (hb : l[j]? = some b) : R a b := by
  obtain ⟨h1, rfl⟩ := List.getElem?_eq_some_iff.mp ha
  obtain ⟨h2, rfl⟩ := List.getElem?_eq_some_iff.mp hb
  exact List.pairwise_iff_getElem.mp h i j h1 h2 hij
theorem up_len : ∀ {rows : List (Nat × X)} {m : Nat}, rows.Pairwise (fun a b => a.1 < b.1) → (∀ r ∈ rows, m ≤ r.1 ∧ r.1 < 64) → rows.length + m ≤ 64 ∨ rows = []
  | [], _, _, _ => Or.inr rfl
  | r :: rs, m, h, hb => by
    refine Or.inl ?_
    obtain ⟨h1, h2⟩ := List.pairwise_cons.mp h
    have h0 := hb r (List.mem_cons.mpr (Or.inl rfl))
    rcases up_len (m := r.1 + 1) h2 (fun q hq => ⟨h1 q hq, (hb q (List.mem_cons.mpr (Or.inr hq))).2⟩) with e | e
    · rw [List.length_cons]
      omega
    · subst e
      simp only [List.length_cons, List.length_nil]
      omega
/-- the last of rising rows, and how many there are -/
theorem rows_span : ∀ {rows : List (Nat × X)} {r : Nat × X}, (r :: rows).Pairwise (fun a b => a.1 < b.1) → ∃ z, (r :: rows).getLast? = some z ∧ r.1 ≤ z.1 ∧ rows.length + r.1 ≤ z.1
  | [], r, _ => ⟨r, rfl, Nat.le_refl _, by simp⟩
  | q :: rs, r, h => by
    obtain ⟨h1, h2⟩ := List.pairwise_cons.mp h
    obtain ⟨z, e, a, b⟩ := rows_span h2
    have h0 := h1 q (List.mem_cons.mpr (Or.inl rfl))
    refine ⟨z, ?_, by omega, by rw [List.length_cons]; omega⟩
    rw [List.getLast?_cons_cons]
    exact e
theorem labRows_good {rows : List (Nat × X)} (h : RowsOk rows) : (labRows rows).Good := by
  cases rows with
  | nil =>
    have := h.ne
    simp at this
  | cons r rs =>
    obtain ⟨z, e, a, b⟩ := rows_span h.up
    have hz : z ∈ r :: rs := List.mem_of_getLast? e
    have hb := h.bd z hz
    have e1 : (labRows (r :: rs)).lo = r.1 := rfl
    have e2 : (labRows (r :: rs)).hi = z.1 := by
      show (((r :: rs).getLast?.map (·.1)).getD 0) = z.1
      rw [e]
      rfl
    have e3 : (labRows (r :: rs)).ct = rs.length + 1 := rfl
    have e4 : (labRows (r :: rs)).h = 0 := rfl
    exact ⟨by omega, by omega, by omega, by omega⟩
theorem over_span : ∀ {ls : List Lab} {l : Lab}, (l :: ls).Pairwise (fun a b => a.hi < b.lo) → (∀ a ∈ l :: ls, a.Good) → ∃ z, (l :: ls).getLast? = some z ∧ z ∈ l :: ls ∧ l.lo ≤ z.hi ∧ ((l :: ls).map (·.ct)).sum + l.lo ≤ z.hi + 1 ∧ l.ct + ls.length ≤ ((l :: ls).map (·.ct)).sum
  | [], l, _, hg => ⟨l, rfl, List.mem_cons.mpr (Or.inl rfl), (hg l (List.mem_cons.mpr (Or.inl rfl))).a, by
      have := (hg l (List.mem_cons.mpr (Or.inl rfl))).c
      simp only [List.map_cons, List.map_nil, List.sum_cons, List.sum_nil]
      omega, by simp⟩
  | q :: ls, l, h, hg => by
    obtain ⟨h1, h2⟩ := List.pairwise_cons.mp h
    obtain ⟨z, e, m, a, b, c⟩ := over_span h2 (fun x hx => hg x (List.mem_cons.mpr (Or.inr hx)))
    have h0 := h1 q (List.mem_cons.mpr (Or.inl rfl))
    have g0 := hg l (List.mem_cons.mpr (Or.inl rfl))
    have g1 := hg q (List.mem_cons.mpr (Or.inr (List.mem_cons.mpr (Or.inl rfl))))
    have ga := g0.a
    have gc := g0.c
    have gd := g1.d
    refine ⟨z, ?_, List.mem_cons.mpr (Or.inr m), by omega, ?_, ?_⟩
    · rw [List.getLast?_cons_cons]
      exact e
    · rw [List.map_cons, List.sum_cons]
      omega
    · rw [List.map_cons, List.sum_cons, List.length_cons]
      omega
theorem labOver_good {ls : List Lab} (h : OverOk ls) (hg : ∀ a ∈ ls, a.Good) : (labOver ls).Good := by
  cases ls with
  | nil =>
    have := h.ge
    simp at this
  | cons l ls =>
    obtain ⟨z, e, m, a, b, c⟩ := over_span h.up hg
    have gz := (hg z m).b
    have gl := (hg l (List.mem_cons.mpr (Or.inl rfl))).d
    have hl := h.ge
    rw [List.length_cons] at hl
    have e1 : (labOver (l :: ls)).lo = l.lo := rfl
    have e2 : (labOver (l :: ls)).hi = z.hi := by
      show (((l :: ls).getLast?.map (·.hi)).getD 0) = z.hi
      rw [e]
      rfl
    have e3 : (labOver (l :: ls)).ct = ((l :: ls).map (·.ct)).sum := rfl
    have e4 : (labOver (l :: ls)).h = l.h + 1 := rfl
    exact ⟨by omega, by omega, by omega, by omega⟩
theorem labOver_h {ls : List Lab} (h : OverOk ls) {a : Lab} (ha : a ∈ ls) : (labOver ls).h = a.h + 1 := by
  cases ls with
  | nil => cases ha
  | cons l ls =>
    have e4 : (labOver (l :: ls)).h = l.h + 1 := rfl
    rw [e4, h.eq l (List.mem_cons.mpr (Or.inl rfl)) a ha]

/-! ### what the labels say -/
section
variable {ks : List Nat} {tw : Nat → Tg X} {lb : Nat → Lab}
theorem Lok.kid_h (L : Lok ks tw lb) {n k : Nat} (hn : n ∈ ks) (hk : k ∈ (tw n).kids) : (lb n).h = (lb k).h + 1 := by
  have h := L.lo n hn
  cases e : tw n with
  | leaf r =>
    rw [e] at hk
    cases hk
  | stem s =>
    rw [e] at hk
    obtain ⟨h1, h2⟩ := h.stem e
    rw [h2]
    exact labOver_h h1 (List.mem_map.mpr ⟨k, hk, rfl⟩)
theorem Lok.good_at (L : Lok ks tw lb) : ∀ (h n : Nat), n ∈ ks → (lb n).h ≤ h → (lb n).Good := by
  intro h
  induction h with
  | zero =>
    intro n hn e
    have o := L.lo n hn
    cases c : tw n with
    | leaf r =>
      obtain ⟨h1, h2⟩ := o.leaf c
      rw [h2]
      exact labRows_good h1
    | stem s =>
      obtain ⟨h1, h2⟩ := o.stem c
      have : (lb n).h ≠ 0 := by
        rw [h2]
        show (((s.map lb).head?.map (·.h)).getD 0) + 1 ≠ 0
        omega
      omega
  | succ h ih =>
    intro n hn e
    have o := L.lo n hn
    cases c : tw n with
    | leaf r =>
      obtain ⟨h1, h2⟩ := o.leaf c
      rw [h2]
      exact labRows_good h1
    | stem s =>
      obtain ⟨h1, h2⟩ := o.stem c
      rw [h2]
      refine labOver_good h1 fun a ha => ?_
      obtain ⟨k, hk, rfl⟩ := List.mem_map.mp ha
      have hk' : k ∈ (tw n).kids := by
        rw [c]
        exact hk
      have e2 := L.kid_h hn hk'
      exact ih k (L.cl n hn k hk') (by omega)
theorem Lok.good (L : Lok ks tw lb) {n : Nat} (hn : n ∈ ks) : (lb n).Good := L.good_at _ n hn (Nat.le_refl _)
theorem Lok.h64 (L : Lok ks tw lb) {n : Nat} (hn : n ∈ ks) : (lb n).h < 64 := by
  have g := L.good hn
  have := g.a
  have := g.b
  have := g.c
  have := g.d
  omega
theorem Lok.ct64 (L : Lok ks tw lb) {n : Nat} (hn : n ∈ ks) : 1 ≤ (lb n).ct ∧ (lb n).ct ≤ 64 := by
  have g := L.good hn
  have := g.a
  have := g.b
  have := g.c
  have := g.d
  omega
theorem Lok.h_leaf (L : Lok ks tw lb) {n : Nat} (hn : n ∈ ks) {r : List (Nat × X)} (e : tw n = .leaf r) : (lb n).h = 0 := by
  rw [((L.lo n hn).leaf e).2]
  rfl
theorem Lok.h_stem (L : Lok ks tw lb) {n : Nat} (hn : n ∈ ks) {s : List Nat} (e : tw n = .stem s) : (lb n).h ≠ 0 := by
  rw [((L.lo n hn).stem e).2]
  show (((s.map lb).head?.map (·.h)).getD 0) + 1 ≠ 0
  omega
/-- the branches of a stem stand apart -/
theorem up_nodup {s : List Nat} (hu : (s.map lb).Pairwise (fun a b => a.hi < b.lo)) (hg : ∀ k ∈ s, (lb k).Good) : s.Nodup := by
  induction s with
  | nil => exact List.nodup_nil
  | cons k s ih =>
    rw [List.map_cons] at hu
    obtain ⟨h1, h2⟩ := List.pairwise_cons.mp hu
    refine List.nodup_cons.mpr ⟨fun m => ?_, ih h2 fun j hj => hg j (List.mem_cons.mpr (Or.inr hj))⟩
    have := h1 (lb k) (List.mem_map.mpr ⟨k, m, rfl⟩)
    have := (hg k (List.mem_cons.mpr (Or.inl rfl))).a
    omega
theorem Lok.kids_nd (L : Lok ks tw lb) {n : Nat} (hn : n ∈ ks) : (tw n).kids.Nodup := by
  have o := L.lo n hn
  cases c : tw n with
  | leaf r => exact List.nodup_nil
  | stem s =>
    obtain ⟨h1, h2⟩ := o.stem c
    exact up_nodup h1.up fun k hk => L.good (L.cl n hn k (by rw [c]; exact hk))
theorem Lok.kids_le (L : Lok ks tw lb) {n : Nat} (hn : n ∈ ks) : (tw n).kids.length ≤ 4 := by
  have o := L.lo n hn
  cases c : tw n with
  | leaf r => exact Nat.zero_le _
  | stem s =>
    have := (o.stem c).1.le
    rw [List.length_map] at this
    exact this

/-! ### all rows -/
def rowsF (tw : Nat → Tg X) : Nat → Nat → List (Nat × X)
  | 0, n => match tw n with
    | .leaf r => r
    | .stem _ => []
  | h + 1, n => (tw n).kids.flatMap (rowsF tw h)
def rowsOf (tw : Nat → Tg X) (lb : Nat → Lab) (n : Nat) : List (Nat × X) := rowsF tw (lb n).h n
theorem flatMap_ext {α β : Type} {f g : α → List β} : ∀ {l : List α}, (∀ a ∈ l, f a = g a) → l.flatMap f = l.flatMap g
  | [], _ => rfl
  | a :: r, h => by
    rw [List.flatMap_cons, List.flatMap_cons, h a (List.mem_cons.mpr (Or.inl rfl)), flatMap_ext fun b hb => h b (List.mem_cons.mpr (Or.inr hb))]
theorem Lok.rows_leaf (L : Lok ks tw lb) {n : Nat} (hn : n ∈ ks) {r : List (Nat × X)} (e : tw n = .leaf r) : rowsOf tw lb n = r := by
  unfold rowsOf
  rw [L.h_leaf hn e]
  unfold rowsF
  rw [e]
theorem Lok.rows_stem (L : Lok ks tw lb) {n : Nat} (hn : n ∈ ks) {s : List Nat} (e : tw n = .stem s) : rowsOf tw lb n = s.flatMap (rowsOf tw lb) := by
  unfold rowsOf
  cases h : (lb n).h with
  | zero => exact absurd h (L.h_stem hn e)
  | succ m =>
    show (tw n).kids.flatMap (rowsF tw m) = _
    rw [e]
    refine flatMap_ext fun k hk => ?_
    have hk' : k ∈ (tw n).kids := by
      rw [e]
      exact hk
    have e2 := L.kid_h hn hk'
    have e3 : (lb k).h = m := by omega
    show rowsF tw m k = rowsF tw (lb k).h k
    rw [e3]
theorem head_flat {β : Type} {f : Nat → List β} {k : Nat} {s : List Nat} {b : β} (h : (f k).head? = some b) : ((k :: s).flatMap f).head? = some b := by
  rw [List.flatMap_cons, List.head?_append, h]
  rfl
theorem last_flat {β : Type} {f : Nat → List β} : ∀ {s : List Nat} {k : Nat} {b : β}, s.getLast? = some k → (f k).getLast? = some b → (s.flatMap f).getLast? = some b
  | [], _, _, h, _ => by cases h
  | [a], k, b, h, hb => by
    have e : a = k := Option.some.inj h
    subst e
    rw [List.flatMap_cons, List.flatMap_nil, List.append_nil]
    exact hb
  | a :: c :: s, k, b, h, hb => by
    rw [List.getLast?_cons_cons] at h
    rw [List.flatMap_cons, List.getLast?_append, last_flat h hb]
    rfl
/-- the rows of a twig: how many, the first key, the last key -/
theorem Lok.rows_at (L : Lok ks tw lb) : ∀ (h n : Nat), n ∈ ks → (lb n).h ≤ h → (rowsOf tw lb n).length = (lb n).ct ∧ (∃ r, (rowsOf tw lb n).head? = some r ∧ r.1 = (lb n).lo) ∧ ∃ r, (rowsOf tw lb n).getLast? = some r ∧ r.1 = (lb n).hi := by
  intro h
  induction h with
  | zero =>
    intro n hn e
    have o := L.lo n hn
    cases c : tw n with
    | leaf r =>
      obtain ⟨h1, h2⟩ := o.leaf c
      rw [L.rows_leaf hn c, h2]
      cases r with
      | nil =>
        have := h1.ne
        simp at this
      | cons a r =>
        obtain ⟨z, e, _, _⟩ := rows_span h1.up
        refine ⟨rfl, ⟨a, rfl, rfl⟩, z, e, ?_⟩
        show z.1 = (((a :: r).getLast?.map (·.1)).getD 0)
        rw [e]
        rfl
    | stem s => exact absurd (Nat.le_zero.mp e) (L.h_stem hn c)
  | succ h ih =>
    intro n hn e
    have o := L.lo n hn
    cases c : tw n with
    | leaf r => exact ih n hn (by rw [L.h_leaf hn c]; exact Nat.zero_le _)
    | stem s =>
      obtain ⟨h1, h2⟩ := o.stem c
      have ihk : ∀ k ∈ s, (rowsOf tw lb k).length = (lb k).ct ∧ (∃ r, (rowsOf tw lb k).head? = some r ∧ r.1 = (lb k).lo) ∧ ∃ r, (rowsOf tw lb k).getLast? = some r ∧ r.1 = (lb k).hi := fun k hk => by
        have hk' : k ∈ (tw n).kids := by
          rw [c]
          exact hk
        have e2 := L.kid_h hn hk'
        exact ih k (L.cl n hn k hk') (by omega)
      rw [L.rows_stem hn c, h2]
      refine ⟨?_, ?_, ?_⟩
      · show _ = ((s.map lb).map (·.ct)).sum
        have : ∀ t : List Nat, (∀ k ∈ t, (rowsOf tw lb k).length = (lb k).ct) → (t.flatMap (rowsOf tw lb)).length = ((t.map lb).map (·.ct)).sum := by
          intro t
          induction t with
          | nil => intro _; rfl
          | cons a t iht =>
            intro ht
            rw [List.flatMap_cons, List.length_append, iht fun k hk => ht k (List.mem_cons.mpr (Or.inr hk)), ht a (List.mem_cons.mpr (Or.inl rfl))]
            rfl
        exact this s fun k hk => (ihk k hk).1
      · cases s with
        | nil =>
          have := h1.ge
          simp at this
        | cons a s =>
          obtain ⟨r, e1, e2⟩ := (ihk a (List.mem_cons.mpr (Or.inl rfl))).2.1
          exact ⟨r, head_flat e1, e2⟩
      · have hne : s ≠ [] := fun z => by
          have := h1.ge
          rw [z] at this
          simp at this
        obtain ⟨k, hk⟩ : ∃ k, s.getLast? = some k := by
          cases q : s.getLast? with
          | none => exact absurd (List.getLast?_eq_none_iff.mp q) hne
          | some k => exact ⟨k, rfl⟩
        obtain ⟨r, e1, e2⟩ := (ihk k (List.mem_of_getLast? hk)).2.2
        refine ⟨r, last_flat hk e1, ?_⟩
        show r.1 = (((s.map lb).getLast?.map (·.hi)).getD 0)
        rw [List.getLast?_map, hk, e2]
        rfl
theorem Lok.rows (L : Lok ks tw lb) {n : Nat} (hn : n ∈ ks) : (rowsOf tw lb n).length = (lb n).ct ∧ (∃ r, (rowsOf tw lb n).head? = some r ∧ r.1 = (lb n).lo) ∧ ∃ r, (rowsOf tw lb n).getLast? = some r ∧ r.1 = (lb n).hi := L.rows_at _ n hn (Nat.le_refl _)
end
end
end Twg
end

section
set_option autoImplicit false
/-! Twigs as plain data: shelves that hold together, and what is done to them. -/
namespace Twg
section
variable {X : Type}
/-- all but that each is held -/
structure W0 (S : Sh X) : Prop where
  asc : S.ks.Pairwise (· < ·)
  lt : ∀ n ∈ S.ks, n < S.gv
  lk : Lok S.ks S.tw S.lb
  an : ∀ n ∈ S.ks, (S.ab n).Nodup
  ai : ∀ n ∈ S.ks, ∀ s, s ∈ S.ab n ↔ s ∈ S.ks ∧ n ∈ (S.tw s).kids
structure Wf (S : Sh X) : Prop extends W0 S where
  lv : ∀ n ∈ S.ks, S.fr n ≠ 0 ∨ S.ab n ≠ []
theorem asc_nd {l : List Nat} (h : l.Pairwise (· < ·)) : l.Nodup := h.imp fun {a b} (q : a < b) => Nat.ne_of_lt q
theorem asc_snoc {l : List Nat} {g : Nat} (h : l.Pairwise (· < ·)) (hl : ∀ n ∈ l, n < g) : (l ++ [g]).Pairwise (· < ·) :=
  List.pairwise_append.mpr ⟨h, List.pairwise_singleton _ _, fun a ha b hb => by
    rw [List.mem_singleton] at hb
    rw [hb]
    exact hl a ha⟩
theorem asc_len : ∀ {l : List Nat} {m g : Nat}, l.Pairwise (· < ·) → (∀ n ∈ l, m ≤ n ∧ n < g) → l.length + m ≤ g ∨ l = []
  | [], _, _, _, _ => Or.inr rfl
  | r :: rs, m, g, h, hb => by
    refine Or.inl ?_
    obtain ⟨h1, h2⟩ := List.pairwise_cons.mp h
    have h0 := hb r (List.mem_cons.mpr (Or.inl rfl))
    rcases asc_len (m := r + 1) h2 (fun q hq => ⟨h1 q hq, (hb q (List.mem_cons.mpr (Or.inr hq))).2⟩) with e | e
    · rw [List.length_cons]
      omega
    · subst e
      simp only [List.length_cons, List.length_nil]
      omega
theorem W0.len {S : Sh X} (w : W0 S) : S.ks.length ≤ S.gv := by
  rcases asc_len (m := 0) w.asc (fun n hn => ⟨Nat.zero_le _, w.lt n hn⟩) with e | e
  · omega
  · rw [e]
    exact Nat.zero_le _
theorem asc_ext : ∀ {l k : List Nat}, l.Pairwise (· < ·) → k.Pairwise (· < ·) → (∀ n, n ∈ l ↔ n ∈ k) → l = k
  | [], [], _, _, _ => rfl
  | [], b :: k, _, _, h => absurd ((h b).mpr (List.mem_cons.mpr (Or.inl rfl))) (by simp)
  | a :: l, [], _, _, h => absurd ((h a).mp (List.mem_cons.mpr (Or.inl rfl))) (by simp)
  | a :: l, b :: k, hl, hk, h => by
    obtain ⟨l1, l2⟩ := List.pairwise_cons.mp hl
    obtain ⟨k1, k2⟩ := List.pairwise_cons.mp hk
    have e : a = b := by
      rcases List.mem_cons.mp ((h a).mp (List.mem_cons.mpr (Or.inl rfl))) with q | q
      · exact q
      · rcases List.mem_cons.mp ((h b).mpr (List.mem_cons.mpr (Or.inl rfl))) with r | r
        · exact r.symm
        · have := k1 a q
          have := l1 b r
          omega
    subst e
    rw [asc_ext l2 k2 fun n => ?_]
    constructor
    · intro hn
      rcases List.mem_cons.mp ((h n).mp (List.mem_cons.mpr (Or.inr hn))) with q | q
      · have := l1 n hn
        omega
      · exact q
    · intro hn
      rcases List.mem_cons.mp ((h n).mpr (List.mem_cons.mpr (Or.inr hn))) with q | q
      · have := k1 n hn
        omega
      · exact q

/-! ### who is alone -/
inductive Al (ab : Nat → List Nat) (fr : Nat → Nat) : Nat → Prop
  | top {n : Nat} : ab n = [] → fr n = 1 → Al ab fr n
  | up {n s : Nat} : ab n = [s] → fr n = 0 → Al ab fr s → Al ab fr n
section
variable {ab : Nat → List Nat} {fr : Nat → Nat} {n s : Nat}
theorem Al.sum (h : Al ab fr n) : (ab n).length + fr n = 1 := by
  cases h with
  | top a b =>
    rw [a, b]
    rfl
  | up a b _ =>
    rw [a, b]
    rfl
theorem al_top (h : (ab n).length + fr n = 1) (e : ab n = []) : Al ab fr n := by
  refine .top e ?_
  rw [e] at h
  simp only [List.length_nil] at h
  omega
theorem al_cut {r : List Nat} (h : (ab n).length + fr n = 1) (e : ab n = s :: r) : ab n = [s] ∧ fr n = 0 := by
  rw [e, List.length_cons] at h
  have hr : r.length = 0 := by omega
  rw [List.length_eq_zero_iff.mp hr] at e
  exact ⟨e, by omega⟩
theorem al_step {r : List Nat} (h : (ab n).length + fr n = 1) (e : ab n = s :: r) : Al ab fr n ↔ Al ab fr s := by
  obtain ⟨e1, e2⟩ := al_cut h e
  constructor
  · intro q
    cases q with
    | top a b =>
      rw [a] at e1
      cases e1
    | up a b c =>
      rw [a] at e1
      injection e1 with e1
      rw [← e1]
      exact c
  · intro q
    exact .up e1 e2 q
end
def abv (ks : List Nat) (tw : Nat → Tg X) (n : Nat) : List Nat := ks.filter fun s => decide (n ∈ (tw s).kids)
theorem abv_mem {ks : List Nat} {tw : Nat → Tg X} {n s : Nat} : s ∈ abv ks tw n ↔ s ∈ ks ∧ n ∈ (tw s).kids := by
  unfold abv
  rw [List.mem_filter, decide_eq_true_eq]
theorem nd_len {l k : List Nat} (hl : l.Nodup) (h : ∀ n ∈ l, n ∈ k) : l.length ≤ k.length := by
  induction l generalizing k with
  | nil => exact Nat.zero_le _
  | cons a l ih =>
    obtain ⟨h1, h2⟩ := List.nodup_cons.mp hl
    have ha := h a (List.mem_cons.mpr (Or.inl rfl))
    have := ih (k := k.erase a) h2 fun n hn => (List.mem_erase_of_ne (fun (e : n = a) => h1 (e ▸ hn))).mpr (h n (List.mem_cons.mpr (Or.inr hn)))
    rw [List.length_erase_of_mem ha] at this
    have := List.length_pos_of_mem ha
    rw [List.length_cons]
    omega
theorem W0.abv_nd {S : Sh X} (w : W0 S) (n : Nat) : (abv S.ks S.tw n).Nodup := (asc_nd w.asc).sublist List.filter_sublist
theorem W0.abv_iff {S : Sh X} (w : W0 S) {n : Nat} (hn : n ∈ S.ks) (s : Nat) : s ∈ abv S.ks S.tw n ↔ s ∈ S.ab n := abv_mem.trans (w.ai n hn s).symm
theorem W0.abv_len {S : Sh X} (w : W0 S) {n : Nat} (hn : n ∈ S.ks) : (abv S.ks S.tw n).length = (S.ab n).length :=
  Nat.le_antisymm (nd_len (w.abv_nd n) fun s hs => (w.abv_iff hn s).mp hs) (nd_len (w.an n hn) fun s hs => (w.abv_iff hn s).mpr hs)
theorem W0.abv_one {S : Sh X} (w : W0 S) {n s : Nat} (hn : n ∈ S.ks) (e : S.ab n = [s]) : abv S.ks S.tw n = [s] := by
  have h := w.abv_len hn
  rw [e] at h
  match q : abv S.ks S.tw n with
  | [] =>
    rw [q] at h
    cases h
  | [x] =>
    have hx : x ∈ abv S.ks S.tw n := by
      rw [q]
      exact List.mem_singleton.mpr rfl
    have := (w.abv_iff hn x).mp hx
    rw [e, List.mem_singleton] at this
    rw [this]
  | x :: y :: r =>
    rw [q] at h
    simp at h
theorem W0.above_in {S : Sh X} (w : W0 S) {n s : Nat} (hn : n ∈ S.ks) (hs : s ∈ S.ab n) : s ∈ S.ks ∧ n ∈ (S.tw s).kids ∧ (S.lb s).h = (S.lb n).h + 1 := by
  obtain ⟨h1, h2⟩ := (w.ai n hn s).mp hs
  exact ⟨h1, h2, w.lk.kid_h h1 h2⟩

/-! ### a leaf put, a stem put, a hold -/
def Sh.addLeaf (S : Sh X) (rows : List (Nat × X)) : Sh X :=
  ⟨S.ks ++ [S.gv], fset S.tw S.gv (.leaf rows), fset S.lb S.gv (labRows rows), fset S.ab S.gv [], fset S.fr S.gv 1, S.gv + 1⟩
def Sh.addStem (S : Sh X) (ns : List Nat) : Sh X :=
  ⟨S.ks ++ [S.gv], fset S.tw S.gv (.stem ns), fset S.lb S.gv (labOver (ns.map S.lb)), fun m => if m = S.gv then [] else if m ∈ ns then S.ab m ++ [S.gv] else S.ab m, fun m => if m = S.gv then 1 else if m ∈ ns then S.fr m - 1 else S.fr m, S.gv + 1⟩
def Sh.setFr (S : Sh X) (n v : Nat) : Sh X := { S with fr := fset S.fr n v }
theorem LabOk.ext {tw tw' : Nat → Tg X} {lb lb' : Nat → Lab} {n : Nat} (h : LabOk tw lb n) (et : tw' n = tw n) (el : lb' n = lb n) (ek : ∀ k ∈ (tw n).kids, lb' k = lb k) : LabOk tw' lb' n := by
  cases c : tw n with
  | leaf r =>
    obtain ⟨h1, h2⟩ := h.leaf c
    exact .of_leaf (et.trans c) h1 (el.trans h2)
  | stem s =>
    obtain ⟨h1, h2⟩ := h.stem c
    rw [c] at ek
    have em : s.map lb' = s.map lb := List.map_congr_left ek
    exact .of_stem (et.trans c) (by rw [em]; exact h1) (by rw [em]; exact el.trans h2)
theorem W0.gv_out {S : Sh X} (w : W0 S) : S.gv ∉ S.ks := fun h => Nat.lt_irrefl _ (w.lt _ h)
theorem W0.ne_gv {S : Sh X} (w : W0 S) {n : Nat} (h : n ∈ S.ks) : n ≠ S.gv := fun e => w.gv_out (e ▸ h)
theorem W0.no_gv {S : Sh X} (w : W0 S) {n s : Nat} (hn : n ∈ S.ks) (hs : s ∈ S.ab n) : s ≠ S.gv := w.ne_gv (w.above_in hn hs).1
theorem Wf.addLeaf {S : Sh X} (w : Wf S) {rows : List (Nat × X)} (hr : RowsOk rows) : Wf (S.addLeaf rows) := by
  have t0 : ∀ {n : Nat}, n ∈ S.ks → (S.addLeaf rows).tw n = S.tw n := fun h => fset_ne _ _ (w.ne_gv h)
  have l0 : ∀ {n : Nat}, n ∈ S.ks → (S.addLeaf rows).lb n = S.lb n := fun h => fset_ne _ _ (w.ne_gv h)
  have t1 : (S.addLeaf rows).tw S.gv = .leaf rows := fset_same _ _ _
  have l1 : (S.addLeaf rows).lb S.gv = labRows rows := fset_same _ _ _
  have inn : ∀ {n : Nat}, n ∈ (S.addLeaf rows).ks → n ∈ S.ks ∨ n = S.gv := fun h => by
    rcases List.mem_append.mp h with q | q
    · exact .inl q
    · exact .inr (List.mem_singleton.mp q)
  have inl : ∀ {n : Nat}, n ∈ S.ks → n ∈ (S.addLeaf rows).ks := fun h => List.mem_append.mpr (.inl h)
  refine { asc := asc_snoc w.asc w.lt, lt := fun n h => ?_, lk := ⟨fun n h k hk => ?_, fun n h => ?_⟩, an := fun n h => ?_, ai := fun n h s => ?_, lv := fun n h => ?_ }
  · show n < S.gv + 1
    rcases inn h with h | h
    · have := w.lt n h
      omega
    · omega
  · rcases inn h with h | h
    · rw [t0 h] at hk
      exact inl (w.lk.cl n h k hk)
    · rw [h, t1] at hk
      cases hk
  · rcases inn h with h | h
    · exact (w.lk.lo n h).ext (t0 h) (l0 h) fun k hk => l0 (w.lk.cl n h k hk)
    · rw [h]
      exact .of_leaf t1 hr l1
  · show (fset S.ab S.gv [] n).Nodup
    rcases inn h with h | h
    · rw [fset_ne _ _ (w.ne_gv h)]
      exact w.an n h
    · rw [h, fset_same]
      exact List.nodup_nil
  · show s ∈ fset S.ab S.gv [] n ↔ _
    rcases inn h with h | h
    · rw [fset_ne _ _ (w.ne_gv h), w.ai n h s]
      constructor
      · rintro ⟨a, b⟩
        exact ⟨inl a, by rw [t0 a]; exact b⟩
      · rintro ⟨a, b⟩
        rcases inn a with a | a
        · rw [t0 a] at b
          exact ⟨a, b⟩
        · rw [a, t1] at b
          cases b
    · rw [h, fset_same]
      constructor
      · intro q
        cases q
      · rintro ⟨a, b⟩
        rcases inn a with a | a
        · rw [t0 a] at b
          exact absurd (w.lk.cl s a _ b) w.gv_out
        · rw [a, t1] at b
          cases b
  · show fset S.fr S.gv 1 n ≠ 0 ∨ fset S.ab S.gv [] n ≠ []
    rcases inn h with h | h
    · rw [fset_ne _ _ (w.ne_gv h), fset_ne _ _ (w.ne_gv h)]
      exact w.lv n h
    · rw [h, fset_same]
      exact .inl (by decide)
theorem Wf.addStem {S : Sh X} (w : Wf S) {ns : List Nat} (hin : ∀ b ∈ ns, b ∈ S.ks) (ho : OverOk (ns.map S.lb)) : Wf (S.addStem ns) := by
  have t0 : ∀ {n : Nat}, n ∈ S.ks → (S.addStem ns).tw n = S.tw n := fun h => fset_ne _ _ (w.ne_gv h)
  have l0 : ∀ {n : Nat}, n ∈ S.ks → (S.addStem ns).lb n = S.lb n := fun h => fset_ne _ _ (w.ne_gv h)
  have t1 : (S.addStem ns).tw S.gv = .stem ns := fset_same _ _ _
  have l1 : (S.addStem ns).lb S.gv = labOver (ns.map S.lb) := fset_same _ _ _
  have a0 : ∀ {n : Nat}, n ∈ S.ks → (S.addStem ns).ab n = if n ∈ ns then S.ab n ++ [S.gv] else S.ab n := fun h => if_neg (w.ne_gv h)
  have a1 : (S.addStem ns).ab S.gv = [] := if_pos rfl
  have f0 : ∀ {n : Nat}, n ∈ S.ks → (S.addStem ns).fr n = if n ∈ ns then S.fr n - 1 else S.fr n := fun h => if_neg (w.ne_gv h)
  have f1 : (S.addStem ns).fr S.gv = 1 := if_pos rfl
  have inn : ∀ {n : Nat}, n ∈ (S.addStem ns).ks → n ∈ S.ks ∨ n = S.gv := fun h => by
    rcases List.mem_append.mp h with q | q
    · exact .inl q
    · exact .inr (List.mem_singleton.mp q)
  have inl : ∀ {n : Nat}, n ∈ S.ks → n ∈ (S.addStem ns).ks := fun h => List.mem_append.mpr (.inl h)
  have ing : S.gv ∈ (S.addStem ns).ks := List.mem_append.mpr (.inr (List.mem_singleton.mpr rfl))
  refine { asc := asc_snoc w.asc w.lt, lt := fun n h => ?_, lk := ⟨fun n h k hk => ?_, fun n h => ?_⟩, an := fun n h => ?_, ai := fun n h s => ?_, lv := fun n h => ?_ }
  · show n < S.gv + 1
    rcases inn h with h | h
    · have := w.lt n h
      omega
    · omega
  · rcases inn h with h | h
    · rw [t0 h] at hk
      exact inl (w.lk.cl n h k hk)
    · rw [h, t1] at hk
      exact inl (hin k hk)
  · rcases inn h with h | h
    · exact (w.lk.lo n h).ext (t0 h) (l0 h) fun k hk => l0 (w.lk.cl n h k hk)
    · rw [h]
      have em : ns.map (S.addStem ns).lb = ns.map S.lb := List.map_congr_left fun k hk => l0 (hin k hk)
      exact .of_stem t1 (by rw [em]; exact ho) (by rw [em]; exact l1)
  · rcases inn h with h | h
    · rw [a0 h]
      split
      · refine List.nodup_append.mpr ⟨w.an n h, by simp, fun a ha b hb => ?_⟩
        rw [List.mem_singleton] at hb
        rw [hb]
        exact w.no_gv h ha
      · exact w.an n h
    · rw [h, a1]
      exact List.nodup_nil
  · rcases inn h with h | h
    · rw [a0 h]
      have key : s ∈ (if n ∈ ns then S.ab n ++ [S.gv] else S.ab n) ↔ s ∈ S.ab n ∨ (n ∈ ns ∧ s = S.gv) := by
        split
        · rename_i q
          rw [List.mem_append, List.mem_singleton]
          exact ⟨fun h => h.elim .inl fun e => .inr ⟨q, e⟩, fun h => h.elim .inl fun e => .inr e.2⟩
        · rename_i q
          exact ⟨.inl, fun h => h.elim id fun e => absurd e.1 q⟩
      rw [key, w.ai n h s]
      constructor
      · rintro (⟨a, b⟩ | ⟨a, rfl⟩)
        · exact ⟨inl a, by rw [t0 a]; exact b⟩
        · exact ⟨ing, by rw [t1]; exact a⟩
      · rintro ⟨a, b⟩
        rcases inn a with a | a
        · rw [t0 a] at b
          exact .inl ⟨a, b⟩
        · rw [a, t1] at b
          exact .inr ⟨b, a⟩
    · rw [h, a1]
      constructor
      · intro q
        cases q
      · rintro ⟨a, b⟩
        rcases inn a with a | a
        · rw [t0 a] at b
          exact absurd (w.lk.cl s a _ b) w.gv_out
        · rw [a, t1] at b
          exact absurd (hin _ b) w.gv_out
  · rcases inn h with h | h
    · rw [f0 h, a0 h]
      split
      · exact .inr (by simp)
      · exact w.lv n h
    · rw [h, f1]
      exact .inl (by decide)
theorem W0.setFr {S : Sh X} (w : W0 S) (n v : Nat) : W0 (S.setFr n v) := ⟨w.asc, w.lt, w.lk, w.an, w.ai⟩
theorem Wf.hold {S : Sh X} (w : Wf S) (n : Nat) : Wf (S.setFr n (S.fr n + 1)) := { w.toW0.setFr n _ with
  lv := fun m hm => by
    show fset S.fr n (S.fr n + 1) m ≠ 0 ∨ S.ab m ≠ []
    by_cases e : m = n
    · rw [e, fset_same]
      exact .inl (by omega)
    · rw [fset_ne _ _ e]
      exact w.lv m hm }

/-! ### a hold taken away -/
inductive Live (S : Sh X) : Nat → Prop
  | held {n : Nat} : n ∈ S.ks → S.fr n ≠ 0 → Live S n
  | kid {n s : Nat} : Live S s → n ∈ (S.tw s).kids → Live S n
theorem Live.in_ {S : Sh X} (w : W0 S) {n : Nat} (h : Live S n) : n ∈ S.ks := by
  induction h with
  | held a _ => exact a
  | kid _ b ih => exact w.lk.cl _ ih _ b
/-- the sweep on its way: ks are left, ab tells who holds, todo is to be looked at -/
structure Sw (S : Sh X) (ks : List Nat) (ab : Nat → List Nat) (todo : List Nat) : Prop where
  sub : ks.Sublist S.ks
  cl : ∀ n ∈ ks, ∀ k ∈ (S.tw n).kids, k ∈ ks
  an : ∀ n ∈ ks, (ab n).Nodup
  ai : ∀ n ∈ ks, ∀ s, s ∈ ab n ↔ s ∈ ks ∧ n ∈ (S.tw s).kids
  pd : ∀ n ∈ ks, S.fr n = 0 → ab n = [] → n ∈ todo
  lv : ∀ n, Live S n → n ∈ ks
  ti : ∀ n ∈ todo, n ∈ S.ks
def abDrop (ab : Nat → List Nat) (here : Nat) (kd : List Nat) : Nat → List Nat := fun m => if m ∈ kd then (ab m).erase here else ab m
theorem sw_start {S : Sh X} (w : Wf S) {n v : Nat} (hn : n ∈ S.ks) : Sw (S.setFr n v) S.ks S.ab [n] where
  sub := List.Sublist.refl _
  cl := w.lk.cl
  an := w.an
  ai := w.ai
  pd := fun m hm h0 h1 => by
    by_cases e : m = n
    · exact List.mem_singleton.mpr e
    · have h0 : fset S.fr n v m = 0 := h0
      rw [fset_ne _ _ e] at h0
      rcases w.lv m hm with q | q
      · exact absurd h0 q
      · exact absurd h1 q
  lv := fun m h => h.in_ (w.toW0.setFr n v)
  ti := fun m hm => by
    rw [List.mem_singleton] at hm
    rw [hm]
    exact hn
theorem Sw.skip {S : Sh X} {ks : List Nat} {ab : Nat → List Nat} {todo : List Nat} {here : Nat} (h : Sw S ks ab (todo ++ [here])) (c : ¬ (here ∈ ks ∧ S.fr here = 0 ∧ ab here = [])) : Sw S ks ab todo where
  sub := h.sub
  cl := h.cl
  an := h.an
  ai := h.ai
  pd := fun n hn h0 h1 => by
    rcases List.mem_append.mp (h.pd n hn h0 h1) with q | q
    · exact q
    · rw [List.mem_singleton] at q
      exact absurd ⟨q ▸ hn, q ▸ h0, q ▸ h1⟩ c
  lv := h.lv
  ti := fun n hn => h.ti n (List.mem_append.mpr (.inl hn))
theorem Sw.pop {S : Sh X} (w : W0 S) {ks : List Nat} {ab : Nat → List Nat} {todo : List Nat} {here : Nat} (h : Sw S ks ab (todo ++ [here])) (c1 : here ∈ ks) (c2 : S.fr here = 0) (c3 : ab here = []) :
    Sw S (ks.filter fun n => !decide (n = here)) (abDrop ab here (S.tw here).kids) (todo ++ (S.tw here).kids) := by
  have inn : ∀ {n : Nat}, n ∈ (ks.filter fun n => !decide (n = here)) ↔ n ∈ ks ∧ n ≠ here := fun {n} => by
    rw [List.mem_filter]
    simp
  have noh : ∀ n ∈ ks, here ∉ (S.tw n).kids := fun n hn q => by
    have := (h.ai here c1 n).mpr ⟨hn, q⟩
    rw [c3] at this
    cases this
  refine ⟨List.Sublist.trans List.filter_sublist h.sub, fun n hn k hk => ?_, fun n hn => ?_, fun n hn s => ?_, fun n hn h0 h1 => ?_, fun n q => ?_, fun n hn => ?_⟩
  · obtain ⟨a, b⟩ := inn.mp hn
    exact inn.mpr ⟨h.cl n a k hk, fun e => noh n a (e ▸ hk)⟩
  · obtain ⟨a, b⟩ := inn.mp hn
    show (if n ∈ _ then (ab n).erase here else ab n).Nodup
    split
    · exact (h.an n a).erase here
    · exact h.an n a
  · obtain ⟨a, b⟩ := inn.mp hn
    show s ∈ (if n ∈ (S.tw here).kids then (ab n).erase here else ab n) ↔ _
    rw [inn]
    split
    · rw [(h.an n a).mem_erase_iff, h.ai n a s]
      exact ⟨fun ⟨x, y, z⟩ => ⟨⟨y, x⟩, z⟩, fun ⟨⟨y, x⟩, z⟩ => ⟨x, y, z⟩⟩
    · rename_i q
      rw [h.ai n a s]
      exact ⟨fun ⟨y, z⟩ => ⟨⟨y, fun e => q (e ▸ z)⟩, z⟩, fun ⟨⟨y, x⟩, z⟩ => ⟨y, z⟩⟩
  · obtain ⟨a, b⟩ := inn.mp hn
    have h1 : (if n ∈ (S.tw here).kids then (ab n).erase here else ab n) = [] := h1
    by_cases q : n ∈ (S.tw here).kids
    · exact List.mem_append.mpr (.inr q)
    · rw [if_neg q] at h1
      rcases List.mem_append.mp (h.pd n a h0 h1) with z | z
      · exact List.mem_append.mpr (.inl z)
      · exact absurd (List.mem_singleton.mp z) b
  · refine inn.mpr ⟨h.lv n q, fun e => ?_⟩
    rw [e] at q
    cases q with
    | held _ z => exact z c2
    | kid y z => exact noh _ (h.lv _ y) z
  · rcases List.mem_append.mp hn with q | q
    · exact h.ti n (List.mem_append.mpr (.inl q))
    · exact w.lk.cl here (h.ti here (List.mem_append.mpr (.inr (List.mem_singleton.mpr rfl)))) n q
theorem Sw.done_live {S : Sh X} (w : W0 S) {ks : List Nat} {ab : Nat → List Nat} (h : Sw S ks ab []) : ∀ (d n : Nat), n ∈ ks → 64 - (S.lb n).h ≤ d → Live S n := by
  intro d
  induction d with
  | zero =>
    intro n hn e
    have := w.lk.h64 (h.sub.subset hn)
    omega
  | succ d ih =>
    intro n hn e
    by_cases h0 : S.fr n = 0
    · cases q : ab n with
      | nil =>
        have := h.pd n hn h0 q
        cases this
      | cons s r =>
        obtain ⟨a, b⟩ := (h.ai n hn s).mp (by rw [q]; exact List.mem_cons.mpr (.inl rfl))
        have e2 := w.lk.kid_h (h.sub.subset a) b
        have e3 := w.lk.h64 (h.sub.subset a)
        exact .kid (ih s a (by omega)) b
    · exact .held (h.sub.subset hn) h0
theorem Sw.done {S : Sh X} (w : W0 S) {ks : List Nat} {ab : Nat → List Nat} (h : Sw S ks ab []) : Wf { S with ks := ks, ab := ab } ∧ ∀ n, n ∈ ks ↔ Live S n :=
  ⟨{ asc := w.asc.sublist h.sub, lt := fun n hn => w.lt n (h.sub.subset hn), lk := ⟨h.cl, fun n hn => w.lk.lo n (h.sub.subset hn)⟩, an := h.an, ai := h.ai
     lv := fun n hn => by
      by_cases h0 : S.fr n = 0
      · refine .inr fun q => ?_
        have := h.pd n hn h0 q
        cases this
      · exact .inl h0 }, fun n => ⟨fun hn => h.done_live w _ n hn (Nat.le_refl _), h.lv n⟩⟩
/-- the law's own sweep: F is found, todo is to be looked at -/
structure Fd (S : Sh X) (F todo : List Nat) : Prop where
  fl : ∀ n ∈ F, Live S n
  tl : ∀ n ∈ todo, Live S n
  hd : ∀ n ∈ S.ks, S.fr n ≠ 0 → n ∈ F ∨ n ∈ todo
  cl : ∀ f ∈ F, ∀ k ∈ (S.tw f).kids, k ∈ F ∨ k ∈ todo
  nd : F.Nodup
theorem fd_start {S : Sh X} : Fd S [] (S.ks.filter fun n => !decide (S.fr n = 0)) where
  fl := fun _ h => by cases h
  tl := fun n h => by
    obtain ⟨a, b⟩ := List.mem_filter.mp h
    exact .held a (by simpa using b)
  hd := fun n h h0 => .inr (List.mem_filter.mpr ⟨h, by simpa using h0⟩)
  cl := fun _ h => by cases h
  nd := List.nodup_nil
theorem Fd.skip {S : Sh X} {F todo : List Nat} {n : Nat} (h : Fd S F (todo ++ [n])) (hn : n ∈ F) : Fd S F todo where
  fl := h.fl
  tl := fun m hm => h.tl m (List.mem_append.mpr (.inl hm))
  hd := fun m hm h0 => by
    rcases h.hd m hm h0 with q | q
    · exact .inl q
    · rcases List.mem_append.mp q with z | z
      · exact .inr z
      · exact .inl (List.mem_singleton.mp z ▸ hn)
  cl := fun f hf k hk => by
    rcases h.cl f hf k hk with q | q
    · exact .inl q
    · rcases List.mem_append.mp q with z | z
      · exact .inr z
      · exact .inl (List.mem_singleton.mp z ▸ hn)
  nd := h.nd
theorem Fd.pop {S : Sh X} {F todo : List Nat} {n : Nat} (h : Fd S F (todo ++ [n])) (hn : n ∉ F) : Fd S (F ++ [n]) (todo ++ (S.tw n).kids) := by
  have ln : Live S n := h.tl n (List.mem_append.mpr (.inr (List.mem_singleton.mpr rfl)))
  have mv : ∀ {m : Nat}, m ∈ F ∨ m ∈ todo ++ [n] → m ∈ F ++ [n] ∨ m ∈ todo ++ (S.tw n).kids := fun q => by
    rcases q with q | q
    · exact .inl (List.mem_append.mpr (.inl q))
    · rcases List.mem_append.mp q with z | z
      · exact .inr (List.mem_append.mpr (.inl z))
      · exact .inl (List.mem_append.mpr (.inr z))
  refine ⟨fun m hm => ?_, fun m hm => ?_, fun m hm h0 => mv (h.hd m hm h0), fun f hf k hk => ?_, ?_⟩
  · rcases List.mem_append.mp hm with q | q
    · exact h.fl m q
    · rw [List.mem_singleton.mp q]
      exact ln
  · rcases List.mem_append.mp hm with q | q
    · exact h.tl m (List.mem_append.mpr (.inl q))
    · exact .kid ln q
  · rcases List.mem_append.mp hf with q | q
    · exact mv (h.cl f q k hk)
    · rw [List.mem_singleton.mp q] at hk
      exact .inr (List.mem_append.mpr (.inr hk))
  · refine List.nodup_append.mpr ⟨h.nd, by simp, fun a ha b hb => ?_⟩
    rw [List.mem_singleton] at hb
    rw [hb]
    exact fun e => hn (e ▸ ha)
theorem Fd.done {S : Sh X} {F : List Nat} (h : Fd S F []) (n : Nat) : n ∈ F ↔ Live S n :=
  ⟨h.fl n, fun q => by
    induction q with
    | held a b => exact (h.hd _ a b).elim id fun z => by cases z
    | kid _ b ih => exact (h.cl _ ih _ b).elim id fun z => by cases z⟩
end
end Twg
end

section
set_option autoImplicit false
/-! Twigs as plain data: a leaf given other rows, a stem given other branches. -/
namespace Twg
section
variable {X : Type}
/-- the labels on their way up: all right but for the stems above here -/
structure Tb (ks : List Nat) (tw : Nat → Tg X) (ab : Nat → List Nat) (lb L : Nat → Lab) (n0 here : Nat) : Prop where
  hm : here ∈ ks
  cl : ∀ n ∈ ks, ∀ k ∈ (tw n).kids, k ∈ ks
  ht : ∀ n ∈ ks, ∀ k ∈ (tw n).kids, (lb n).h = (lb k).h + 1
  old : ∀ n ∈ ks, n ≠ n0 → LabOk tw lb n
  ai : ∀ c ∈ ks, (lb n0).h ≤ (lb c).h → ∀ n ∈ ks, c ∈ (tw n).kids ↔ n ∈ ab c
  up : (lb n0).h ≤ (lb here).h
  lo : ∀ n ∈ ks, n ∉ ab here → LabOk tw L n
  hh : (L here).h = (lb here).h
  ge : (lb here).lo ≤ (L here).lo
  le : (L here).hi ≤ (lb here).hi
  out : ∀ m ∈ ks, (lb here).h ≤ (lb m).h → m ≠ here → L m = lb m
theorem tb_start {S : Sh X} (w : W0 S) {n : Nat} (hn : n ∈ S.ks) {t : Tg X} {tag : Lab} (hk : ∀ k ∈ t.kids, k ∈ S.ks ∧ (S.lb n).h = (S.lb k).h + 1) (hl : LabOk (fset S.tw n t) (fset S.lb n tag) n)
    (hh : tag.h = (S.lb n).h) (ge : (S.lb n).lo ≤ tag.lo) (le : tag.hi ≤ (S.lb n).hi) : Tb S.ks (fset S.tw n t) S.ab S.lb (fset S.lb n tag) n n := by
  have ai : ∀ c ∈ S.ks, (S.lb n).h ≤ (S.lb c).h → ∀ m ∈ S.ks, c ∈ (fset S.tw n t m).kids ↔ m ∈ S.ab c := fun c hc hhc m hm => by
    rw [w.ai c hc m]
    by_cases e : m = n
    · subst e
      rw [fset_same]
      constructor
      · intro q
        have := (hk c q).2
        omega
      · intro q
        have := w.lk.kid_h hm q.2
        omega
    · rw [fset_ne _ _ e]
      exact ⟨fun q => ⟨hm, q⟩, fun q => q.2⟩
  refine ⟨hn, fun m hm k hq => ?_, fun m hm k hq => ?_, fun m hm e => ?_, ai, Nat.le_refl _, fun m hm hno => ?_, ?_, ?_, ?_, fun m _ _ e => fset_ne _ _ e⟩
  · by_cases e : m = n
    · rw [e, fset_same] at hq
      exact (hk k hq).1
    · rw [fset_ne _ _ e] at hq
      exact w.lk.cl m hm k hq
  · by_cases e : m = n
    · rw [e, fset_same] at hq
      rw [e]
      exact (hk k hq).2
    · rw [fset_ne _ _ e] at hq
      exact w.lk.kid_h hm hq
  · exact (w.lk.lo m hm).ext (fset_ne _ _ e) rfl fun _ _ => rfl
  · by_cases e : m = n
    · rw [e]
      exact hl
    · refine (w.lk.lo m hm).ext (fset_ne _ _ e) (fset_ne _ _ e) fun k hq => fset_ne _ _ fun z => ?_
      refine hno ((ai n hn (Nat.le_refl _) m hm).mp ?_)
      rw [fset_ne _ _ e, ← z]
      exact hq
  · rw [fset_same]
    exact hh
  · rw [fset_same]
    exact ge
  · rw [fset_same]
    exact le
/-- one of the labels under a stem narrower: the stem stands, and is no wider -/
theorem over_narrow : ∀ {ls ms : List Lab}, ls.length = ms.length → (∀ (i : Nat) a b, ls[i]? = some a → ms[i]? = some b → b.h = a.h ∧ a.lo ≤ b.lo ∧ b.hi ≤ a.hi) → ls.Pairwise (fun a b => a.hi < b.lo) → ms.Pairwise (fun a b => a.hi < b.lo)
  | [], [], _, _, _ => List.Pairwise.nil
  | [], _ :: _, h, _, _ => by simp at h
  | _ :: _, [], h, _, _ => by simp at h
  | a :: ls, b :: ms, h, hs, hp => by
    obtain ⟨h1, h2⟩ := List.pairwise_cons.mp hp
    simp only [List.length_cons] at h
    have hs' : ∀ (i : Nat) a b, ls[i]? = some a → ms[i]? = some b → b.h = a.h ∧ a.lo ≤ b.lo ∧ b.hi ≤ a.hi := fun i x y hx hy => hs (i + 1) x y (by simpa using hx) (by simpa using hy)
    refine List.pairwise_cons.mpr ⟨fun y hy => ?_, over_narrow (by omega) hs' h2⟩
    obtain ⟨i, hi⟩ := List.getElem?_of_mem hy
    have hil : i < ls.length := by
      have := (List.getElem?_eq_some_iff.mp hi).1
      omega
    have e := hs' i ls[i] y (List.getElem?_eq_getElem hil) hi
    have e0 := hs 0 a b rfl rfl
    have := h1 ls[i] (List.getElem_mem hil)
    omega
theorem map_get {f g : Nat → Lab} {kd : List Nat} (P : Lab → Lab → Prop) (h : ∀ k ∈ kd, P (f k) (g k)) : ∀ (i : Nat) a b, (kd.map f)[i]? = some a → (kd.map g)[i]? = some b → P a b := by
  intro i a b ha hb
  rw [List.getElem?_map] at ha hb
  cases e : kd[i]? with
  | none =>
    rw [e] at ha
    cases ha
  | some k =>
    rw [e] at ha hb
    have e1 : f k = a := Option.some.inj ha
    have e2 : g k = b := Option.some.inj hb
    rw [← e1, ← e2]
    exact h k (List.mem_of_getElem? e)
theorem over_map {f g : Nat → Lab} {kd : List Nat} (h : ∀ k ∈ kd, (g k).h = (f k).h ∧ (f k).lo ≤ (g k).lo ∧ (g k).hi ≤ (f k).hi) (o : OverOk (kd.map f)) :
    OverOk (kd.map g) ∧ (labOver (kd.map g)).h = (labOver (kd.map f)).h ∧ (labOver (kd.map f)).lo ≤ (labOver (kd.map g)).lo ∧ (labOver (kd.map g)).hi ≤ (labOver (kd.map f)).hi := by
  have hl : (kd.map f).length = (kd.map g).length := by rw [List.length_map, List.length_map]
  refine ⟨⟨?_, ?_, fun a ha b hb => ?_, ?_⟩, ?_, ?_, ?_⟩
  · rw [← hl]
    exact o.ge
  · rw [← hl]
    exact o.le
  · obtain ⟨i, hi, rfl⟩ := List.mem_map.mp ha
    obtain ⟨j, hj, rfl⟩ := List.mem_map.mp hb
    rw [(h i hi).1, (h j hj).1]
    exact o.eq _ (List.mem_map.mpr ⟨i, hi, rfl⟩) _ (List.mem_map.mpr ⟨j, hj, rfl⟩)
  · exact over_narrow hl (map_get (fun a b => b.h = a.h ∧ a.lo ≤ b.lo ∧ b.hi ≤ a.hi) h) o.up
  · cases kd with
    | nil => rfl
    | cons k kd =>
      show (g k).h + 1 = (f k).h + 1
      rw [(h k (List.mem_cons.mpr (.inl rfl))).1]
  · cases kd with
    | nil => exact Nat.le_refl _
    | cons k kd => exact (h k (List.mem_cons.mpr (.inl rfl))).2.1
  · show (((kd.map g).getLast?.map (·.hi)).getD 0) ≤ (((kd.map f).getLast?.map (·.hi)).getD 0)
    rw [List.getLast?_map, List.getLast?_map]
    cases e : kd.getLast? with
    | none => exact Nat.le_refl _
    | some k => exact (h k (List.mem_of_getLast? e)).2.2
section
variable {ks : List Nat} {tw : Nat → Tg X} {ab : Nat → List Nat} {lb L : Nat → Lab} {n0 here s : Nat}
/-- the stem above here -/
theorem Tb.above (b : Tb ks tw ab lb L n0 here) (hs : ∀ m ∈ ab here, m ∈ ks) (e : ab here = [s]) : s ∈ ks ∧ here ∈ (tw s).kids ∧ (lb s).h = (lb here).h + 1 ∧ ∃ kd, tw s = .stem kd := by
  have h1 : s ∈ ks := hs s (by rw [e]; exact List.mem_singleton.mpr rfl)
  have h2 : here ∈ (tw s).kids := (b.ai here b.hm b.up s h1).mpr (by rw [e]; exact List.mem_singleton.mpr rfl)
  refine ⟨h1, h2, b.ht s h1 here h2, ?_⟩
  cases c : tw s with
  | leaf r =>
    rw [c] at h2
    cases h2
  | stem kd => exact ⟨kd, rfl⟩
theorem Tb.narrow (b : Tb ks tw ab lb L n0 here) (hs : ∀ m ∈ ab here, m ∈ ks) (e : ab here = [s]) {kd : List Nat} (c : tw s = .stem kd) : ∀ k ∈ kd, (L k).h = (lb k).h ∧ (lb k).lo ≤ (L k).lo ∧ (L k).hi ≤ (lb k).hi := by
  obtain ⟨h1, h2, h3, _⟩ := b.above hs e
  intro k hk
  have hk' : k ∈ (tw s).kids := by
    rw [c]
    exact hk
  by_cases ek : k = here
  · rw [ek]
    exact ⟨b.hh, b.ge, b.le⟩
  · have := b.ht s h1 k hk'
    rw [b.out k (b.cl s h1 k hk') (by omega) ek]
    exact ⟨rfl, Nat.le_refl _, Nat.le_refl _⟩
theorem Tb.over (b : Tb ks tw ab lb L n0 here) (hs : ∀ m ∈ ab here, m ∈ ks) (e : ab here = [s]) {kd : List Nat} (c : tw s = .stem kd) : OverOk (kd.map L) := by
  obtain ⟨h1, h2, h3, _⟩ := b.above hs e
  have hne : s ≠ n0 := fun z => by
    have := b.up
    rw [z] at h3
    omega
  exact (over_map (b.narrow hs e c) ((b.old s h1 hne).stem c).1).1
theorem Tb.step (b : Tb ks tw ab lb L n0 here) (hs : ∀ m ∈ ab here, m ∈ ks) (e : ab here = [s]) {kd : List Nat} (c : tw s = .stem kd) : Tb ks tw ab lb (fset L s (labOver (kd.map L))) n0 s := by
  obtain ⟨h1, h2, h3, _⟩ := b.above hs e
  have hup := b.up
  have hne : s ≠ n0 := fun z => by
    rw [z] at h3
    omega
  have old := (b.old s h1 hne).stem c
  obtain ⟨o1, o2, o3, o4⟩ := over_map (b.narrow hs e c) old.1
  rw [← old.2] at o2 o3 o4
  have self : ∀ k ∈ (tw s).kids, k ≠ s := fun k hk z => by
    have := b.ht s h1 k hk
    rw [z] at this
    omega
  refine ⟨h1, b.cl, b.ht, b.old, b.ai, by omega, fun n hn hno => ?_, ?_, ?_, ?_, fun m hm hle hne2 => ?_⟩
  · by_cases en : n = s
    · rw [en]
      have em : kd.map (fset L s (labOver (kd.map L))) = kd.map L := List.map_congr_left fun k hk => fset_ne _ _ (self k (by rw [c]; exact hk))
      exact .of_stem c (by rw [em]; exact o1) (by rw [em]; exact fset_same _ _ _)
    · have hn2 : n ∉ ab here := by
        rw [e, List.mem_singleton]
        exact en
      refine (b.lo n hn hn2).ext rfl (fset_ne _ _ en) fun k hk => fset_ne _ _ fun z => ?_
      rw [z] at hk
      exact hno ((b.ai s h1 (by omega) n hn).mp hk)
  · rw [fset_same]
    exact o2
  · rw [fset_same]
    exact o3
  · rw [fset_same]
    exact o4
  · rw [fset_ne _ _ hne2]
    exact b.out m hm (by omega) fun z => by
      rw [z] at hle
      omega
theorem Tb.done (b : Tb ks tw ab lb L n0 here) (e : ab here = []) : Lok ks tw L := ⟨b.cl, fun n hn => b.lo n hn (by rw [e]; exact fun h => by cases h)⟩
end

/-! ### the shelf behind a change -/
def Sh.setLeaf (S : Sh X) (n : Nat) (rows : List (Nat × X)) (L : Nat → Lab) : Sh X := { S with tw := fset S.tw n (.leaf rows), lb := L }
def Sh.setStem (S : Sh X) (n : Nat) (old new : List Nat) (L : Nat → Lab) : Sh X :=
  { S with tw := fset S.tw n (.stem new), lb := L
           ab := fun m => if m ∈ new ∧ m ∉ old then S.ab m ++ [n] else if m ∈ old ∧ m ∉ new then (S.ab m).erase n else S.ab m
           fr := fun m => if m ∈ new ∧ m ∉ old then S.fr m - 1 else if m ∈ old ∧ m ∉ new then S.fr m + 1 else S.fr m }
theorem Wf.setLeaf {S : Sh X} (w : Wf S) {n : Nat} {r rows : List (Nat × X)} {L : Nat → Lab} (c : S.tw n = .leaf r) (hL : Lok S.ks (fset S.tw n (.leaf rows)) L) : Wf (S.setLeaf n rows L) where
  asc := w.asc
  lt := w.lt
  lk := hL
  an := w.an
  ai := fun m hm s => by
    show s ∈ S.ab m ↔ s ∈ S.ks ∧ m ∈ (fset S.tw n (.leaf rows) s).kids
    rw [w.ai m hm s]
    by_cases e : s = n
    · rw [e, fset_same, c]
      exact Iff.rfl
    · rw [fset_ne _ _ e]
  lv := w.lv
theorem Wf.setStem {S : Sh X} (w : Wf S) {n : Nat} (hn : n ∈ S.ks) {old new : List Nat} {L : Nat → Lab} (c : S.tw n = .stem old) (hL : Lok S.ks (fset S.tw n (.stem new)) L) : Wf (S.setStem n old new L) := by
  have inOld : ∀ m ∈ S.ks, (n ∈ S.ab m ↔ m ∈ old) := fun m hm => by
    rw [w.ai m hm n, c]
    exact ⟨fun q => q.2, fun q => ⟨hn, q⟩⟩
  refine { asc := w.asc, lt := w.lt, lk := hL, an := fun m hm => ?_, ai := fun m hm s => ?_, lv := fun m hm => ?_ }
  · show (if m ∈ new ∧ m ∉ old then S.ab m ++ [n] else if m ∈ old ∧ m ∉ new then (S.ab m).erase n else S.ab m).Nodup
    split
    · rename_i q
      refine List.nodup_append.mpr ⟨w.an m hm, by simp, fun a ha b hb => ?_⟩
      rw [List.mem_singleton] at hb
      rw [hb]
      intro z
      rw [z] at ha
      exact q.2 ((inOld m hm).mp ha)
    · split
      · exact (w.an m hm).erase n
      · exact w.an m hm
  · show s ∈ (if m ∈ new ∧ m ∉ old then S.ab m ++ [n] else if m ∈ old ∧ m ∉ new then (S.ab m).erase n else S.ab m) ↔ s ∈ S.ks ∧ m ∈ (fset S.tw n (.stem new) s).kids
    by_cases e : s = n
    · rw [e, fset_same]
      show _ ↔ n ∈ S.ks ∧ m ∈ new
      split
      · rename_i q
        exact ⟨fun _ => ⟨hn, q.1⟩, fun _ => List.mem_append.mpr (.inr (List.mem_singleton.mpr rfl))⟩
      · rename_i q
        split
        · rename_i q2
          rw [(w.an m hm).mem_erase_iff]
          exact ⟨fun z => absurd rfl z.1, fun z => absurd z.2 q2.2⟩
        · rename_i q2
          rw [inOld m hm]
          constructor
          · intro z
            exact ⟨hn, Classical.byContradiction fun y => q2 ⟨z, y⟩⟩
          · intro z
            exact Classical.byContradiction fun y => q ⟨z.2, y⟩
    · rw [fset_ne _ _ e, ← w.ai m hm s]
      split
      · rw [List.mem_append, List.mem_singleton]
        exact ⟨fun z => z.elim id fun y => absurd y e, .inl⟩
      · split
        · rw [(w.an m hm).mem_erase_iff]
          exact ⟨fun z => z.2, fun z => ⟨e, z⟩⟩
        · exact Iff.rfl
  · show (if m ∈ new ∧ m ∉ old then S.fr m - 1 else if m ∈ old ∧ m ∉ new then S.fr m + 1 else S.fr m) ≠ 0 ∨ (if m ∈ new ∧ m ∉ old then S.ab m ++ [n] else if m ∈ old ∧ m ∉ new then (S.ab m).erase n else S.ab m) ≠ []
    split
    · exact .inr (by simp)
    · split
      · exact .inl (by omega)
      · exact w.lv m hm

/-! ### the rows of a leaf, fewer of them -/
theorem rows_sub {r q : List (Nat × X)} (h : RowsOk r) (hk : (q.map (·.1)).Sublist (r.map (·.1))) (hq : q ≠ []) : RowsOk q ∧ (labRows q).h = (labRows r).h ∧ (labRows r).lo ≤ (labRows q).lo ∧ (labRows q).hi ≤ (labRows r).hi := by
  have upr : (r.map (·.1)).Pairwise (· < ·) := List.pairwise_map.mpr h.up
  have upq : (q.map (·.1)).Pairwise (· < ·) := upr.sublist hk
  have ok : RowsOk q := ⟨by
    cases q with
    | nil => exact absurd rfl hq
    | cons a q => simp, by
    have := hk.length_le
    rw [List.length_map, List.length_map] at this
    exact Nat.le_trans this h.le, List.pairwise_map.mp upq, fun x hx => by
    obtain ⟨y, hy, e⟩ := List.mem_map.mp (hk.subset (List.mem_map.mpr ⟨x, hx, rfl⟩))
    rw [← e]
    exact h.bd y hy⟩
  refine ⟨ok, rfl, ?_, ?_⟩
  · cases r with
    | nil =>
      have := h.ne
      simp at this
    | cons a r =>
      cases q with
      | nil => exact absurd rfl hq
      | cons b q =>
        show a.1 ≤ b.1
        have hb : b.1 ∈ (a :: r).map (·.1) := hk.subset (List.mem_map.mpr ⟨b, List.mem_cons.mpr (.inl rfl), rfl⟩)
        obtain ⟨y, hy, e⟩ := List.mem_map.mp hb
        rcases List.mem_cons.mp hy with z | z
        · rw [z] at e
          omega
        · have := (List.pairwise_cons.mp h.up).1 y z
          omega
  · cases r with
    | nil =>
      have := h.ne
      simp at this
    | cons a r =>
      cases q with
      | nil => exact absurd rfl hq
      | cons b q =>
        obtain ⟨z, e, _, _⟩ := rows_span ok.up
        obtain ⟨y, e2, _, _⟩ := rows_span h.up
        have e3 : (labRows (b :: q)).hi = z.1 := by
          show (((b :: q).getLast?.map (·.1)).getD 0) = z.1
          rw [e]
          rfl
        have e4 : (labRows (a :: r)).hi = y.1 := by
          show (((a :: r).getLast?.map (·.1)).getD 0) = y.1
          rw [e2]
          rfl
        rw [e3, e4]
        have hz : z.1 ∈ (a :: r).map (·.1) := hk.subset (List.mem_map.mpr ⟨z, List.mem_of_getLast? e, rfl⟩)
        obtain ⟨x, hx, e5⟩ := List.mem_map.mp hz
        rw [← e5]
        obtain ⟨i, hi⟩ := List.getElem?_of_mem hx
        rw [List.getLast?_eq_getElem?] at e2
        have hil := (List.getElem?_eq_some_iff.mp hi).1
        by_cases el : i = (a :: r).length - 1
        · rw [← el, hi] at e2
          rw [Option.some.inj e2]
          exact Nat.le_refl _
        · exact Nat.le_of_lt (pw_get h.up (by omega) hi e2)
end
end Twg
end

section
set_option Elab.async false
set_option maxRecDepth 100000
set_option maxHeartbeats 4000000
set_option autoImplicit false
namespace TwR
open PySem PySem.Spec PyProof.Rows L2
section
variable {X : Cx}
/-- x < y of data that can be compared place by place -/
def rLtD (K : PySem.W.Frag) : R2 := fun x y H Q => ∃ d e, Dp K H x d ∧ Dp K H y e ∧ PySem.W.alike d e = true ∧ d ≠ .none ∧ d.depth ≤ 64 ∧ Q (.bl (PySem.W.dataLt d e)) H
theorem op_ltD (hu : X.A.units + 64 < cLine) : OpR X (compareOp .Lt) (rLtD X.K) := by
  intro pins s σ H x y v u Q I rx ry h
  obtain ⟨d, e, hd, he, ha, hn, h64, q⟩ := h
  obtain ⟨as, r1⟩ := Dp.reads I d x v hd rx
  obtain ⟨bs, r2⟩ := Dp.reads I e y u he ry
  exact PySem.W.rcLt_alike d e X.A s v u as bs r1 r2 ha hn (by have := Nat.min_le_left d.depth e.depth; omega) X.prog X.w _ _ ⟨.bl _, H, I, rfl, q⟩
end
end TwR
end

section
set_option Elab.async false
set_option maxRecDepth 100000
set_option maxHeartbeats 4000000
set_option autoImplicit false
namespace TwR
open PySem PySem.Spec PyProof.Rows L2
/-! ### d == {} -/
section
variable {X : Cx}
def rEqE : R2 := fun x y H Q => ∃ a b ks, x = .ref a ∧ y = .ref b ∧ H a = some (.dK ks) ∧ H b = some (.dK []) ∧ Q (.bl ks.isEmpty) H
theorem op_eqE (hu : X.A.units < cLine) : OpR X (compareOp .Eq) rEqE := by
  intro pins s σ H x y v u Q I rx ry h
  obtain ⟨a, b, ks, rfl, rfl, ea, eb, q⟩ := h
  obtain rfl : v = Value.ref a := rx
  obtain rfl : u = Value.ref b := ry
  obtain ⟨_, ya, va, ra, da⟩ := (show ObjOk X.prog X.w H s.heap a (.dK ks) from I.hok a _ ea)
  obtain ⟨_, yb, vb, rb, db⟩ := (show ObjOk X.prog X.w H s.heap b (.dK []) from I.hok b _ eb)
  have lb : vb = [] := List.eq_nil_of_length_eq_zero rb.length.symm
  subst lb
  refine PySem.W.keq_eq (knd := mixKind X.prog X.w) (r := true) ya yb da db hu (fun e => ?_) (fin_bl I q ?_)
  · have : va = [] := List.eq_nil_of_length_eq_zero e
    subst this
    exact .nil
  · have := ra.length
    cases ks with
    | nil =>
      have : va = [] := List.eq_nil_of_length_eq_zero this.symm
      subst this
      rfl
    | cons p r =>
      cases va with
      | nil => simp at this
      | cons _ _ => rfl
/-! ### d.update(e) -/
def tDUpd (td ty : TE) : TE := fun σ H Q => td σ H fun x H1 => ∃ a, x = .ref a ∧ IsD H1 a ∧ ty σ H1 fun y H2 => ∃ b kvs more, y = .ref b ∧ H2 a = some (.dK kvs) ∧ H2 b = some (.dK more) ∧ a ≠ b ∧ kvs.length + more.length ≤ sizeLine ∧ Q .non (upd H2 a (.dK (mergeK kvs more)))
theorem pe_dupd {o e : Expr} {apos cpos : Pos} {td ty : TE} (ho : PE X o td) (he : PE X e ty) (m : M1 X o "update" apos e cpos) : PE X (.Call (.Attribute o "update" apos) [e] [] cpos) (tDUpd td ty) := by
  refine ⟨fun pins s σ H Q I h => ?_⟩
  refine wpAny_Call_method m.base m.few m.line PySem.F.plainAttrs_dict PySem.F.slot_dict_update PySem.F.type_dict_update (thn (ho.run pins s σ H _ I h) fun u s1 ⟨x, H1, I1, rx, a, ex, d, q1⟩ => ?_)
  subst ex
  obtain rfl : u = Value.ref a := rx
  obtain ⟨t1, t2, _⟩ := isD_at I1 d
  refine ⟨t1, t2, ?_⟩
  rw [m.trees]
  refine Calls.callWith_builtin rfl (Calls.evalArgs_plain (Calls.spliced_cons (thn (he.run pins s1 σ H1 _ I1 q1) fun iv s2 ⟨y, H2, I2, ry, b, kvs, more, ey, ea, eb, hne, hsz, q2⟩ => Calls.spliced_nil ?_)))
  subst ey
  obtain rfl : iv = Value.ref b := ry
  obtain ⟨z, hd, vs, rel, dd⟩ := dk_of I2.hok ea
  obtain ⟨z2, hd2, vs2, rel2, dd2⟩ := dk_of I2.hok eb
  refine call_meetsIn PySem.F.slot_dict_update dd.typeIs PySem.F.entry_dict_update (PySem.F.args_dict_update_2 _ _) (meets_dict_update (mixKind X.prog X.w) a b hne hd2)
    ⟨vs, vs2, dd, dd2, by rw [← rel.length, ← rel2.length]; exact hsz, fun h' dd' _ hs => ⟨.non, _, ?_, rfl, q2⟩⟩
  have he : ∃ q, h'.get? a = some q := let ⟨q, _, _, hq, _⟩ := dd'; ⟨q, hq⟩
  exact d_write I2 (by rw [ea]; exact True.intro) hs he (dk_new (Nat.le_trans (length_mergeK more kvs) hsz) hd (KV.merge rel2 rel) dd')
end
/-! ### list(reversed(list)) -/
section
variable {prog : Program} {w : World} {A : Around} {E : Value → Shared → Prop} {s : Shared}
theorem wpAny_extend_rev {R : Result → Shared → Prop} {it l : Addr} {items : Array Value} (hh : A.handled = none) (hit : s.heap.IsRevIter it l ((items.size : Int) - 1)) (hl : s.heap.IsList l items) (hne : l ≠ it) (hn : items.size ≤ sizeLine)
    (S : Addr) (res : Value) (c₀ : Nat) (hS : s.heap.get? S = some { cls := .type "list", data := .seq #[] c₀ }) (hSi : S ≠ it) (hSl : S ≠ l)
    (hR : ∀ h' tk acc' c', (∀ b o, b ≠ S → b ≠ it → s.heap.get? b = some o → h'.get? b = some o) → h'.get? S = some { cls := .type "list", dict := none, data := .seq acc' c', slots := #[] } →
      ItemsOf (fun i v => items[items.size - 1 - i]? = some v) acc' items.size → R (.ok (.ret res)) { s with heap := h', toks := tk }) :
    wpAny (model prog w) A.in1 (Builtin.List.listExtendWith (.ref S) (.ref it) res)
      (fun fin s' => match fin with | .done f => R (.ok f) s' | .again c' => c'.quiet = true ∧ codeAny (model prog w) A c' R s') (fun e s' => R (.error e) s') s := by
  have W := (Walks.listRev (prog := prog) (w := w) (A := A.in1) hh it l hne items).toS
  have hSf : S ∉ [it, l] := by simp only [List.mem_cons, List.not_mem_nil, or_false, not_or]; exact ⟨hSi, hSl⟩
  have hT : s.TypeIs (.ref it) "list_reverseiterator" := hit.typeIs
  have h1 : Builtin.List.listSameRef (.ref S) (.ref it) = false := by simp [Builtin.List.listSameRef, hSi]
  unfold Builtin.List.listExtendWith
  refine wpAny_bind (wpAny_typeOf hT ?_)
  rw [if_neg (by rw [h1]; decide)]
  refine wpAny_bind (wpAny_pyIter_revIter hit ?_)
  refine wpAny_bind (wpAny_holding ?_)
  unfold Builtin.List.listLengthHint
  refine wpAny_bind (wpAny_specialOf hT RT.nolen_lri ?_)
  show wpAny _ A.in1 (specialOf (Value.ref it) (Str.ofString "__length_hint__") >>= _) _ _ _
  refine wpAny_bind (wpAny_specialOf hT RT.hint_lri ?_)
  generalize hid : ("list_reverseiterator.__length_hint__" : String) = id0
  wp_delta
  rw [show splitId id0 = some ("list_reverseiterator", "__length_hint__") from by subst hid; decide +kernel]
  subst hid
  refine wpAny_bind (wpAny_isInstance (b := true) hT (by rw [isSubtype_type]; kernel_rfl) ?_)
  refine wpAny_pure ?_
  rw [if_neg (by decide)]
  have e0 : ((items.size : Nat) : Int) - 1 - ((0 : Nat) : Int) = (items.size : Int) - 1 := by omega
  refine wpAny_pure ⟨plainId_quiet F.plain_extend_loop _, codeAny_extend_loopS W hn S hSf _ items.size 0 _ #[] c₀ rfl (Nat.zero_le _) ⟨Nat.zero_le _, by rw [e0]; exact hit, hl⟩ hS (ItemsOf.nil _) fun s' acc' c' hm hS' hacc => ?_⟩
  rw [Moved.eq_with hm]
  refine hR s'.heap s'.toks acc' c' (fun b o hb hb2 e => hm.heap b o (fun hmem => ?_) e) hS' hacc
  rcases List.mem_cons.mp hmem with e' | hmem
  · exact hb e'
  · exact hb2 (List.mem_singleton.mp hmem)
theorem wpAny_list_init_rev {R : Result → Shared → Prop} {it l : Addr} {items : Array Value} (hh : A.handled = none) (hit : s.heap.IsRevIter it l ((items.size : Int) - 1)) (hl : s.heap.IsList l items) (hne : l ≠ it) (hn : items.size ≤ sizeLine)
    (S : Addr) (hS : s.heap.get? S = some { cls := .type "list", data := .seq #[] }) (hSi : S ≠ it) (hSl : S ≠ l)
    (hR : ∀ h' tk acc' c', (∀ b o, b ≠ S → b ≠ it → s.heap.get? b = some o → h'.get? b = some o) → h'.get? S = some { cls := .type "list", dict := none, data := .seq acc' c', slots := #[] } →
      ItemsOf (fun i v => items[items.size - 1 - i]? = some v) acc' items.size → R (.ok (.ret .none)) { s with heap := h', toks := tk }) :
    wpAny (model prog w) A.in1 (Builtin.«list.__init__» ⟨[.ref S, .ref it], []⟩)
      (fun fin s' => match fin with | .done f => R (.ok f) s' | .again c' => c'.quiet = true ∧ codeAny (model prog w) A c' R s') (fun e s' => R (.error e) s') s := by
  show wpAny _ _ (do let old ← Builtin.List.listItems (.ref S); Builtin.List.listUpdate (.ref S) (fun _ => #[]); letGo old.toList.reverse; Builtin.List.listExtendWith (.ref S) (.ref it) .none) _ _ s
  refine wpAny_bind ?_
  unfold Builtin.List.listItems
  refine wpAny_bind (wpAny_seqItems hS rfl (wpAny_pure ?_))
  show wpAny _ _ (updateSeq S (fun _ => #[]) >>= fun _ => letGo (#[] : Array Value).toList.reverse >>= fun _ => Builtin.List.listExtendWith (.ref S) (.ref it) .none) _ _ s
  refine wpAny_bind (wpAny_updateSeq hS rfl ?_)
  have hS₂ := Heap.get?_update_self (Obj.mapSeq (fun _ => (#[] : Array Value))) hS rfl
  have oth : ∀ b o, b ≠ S → s.heap.get? b = some o → (s.heap.update S (Obj.mapSeq (fun _ => (#[] : Array Value)))).get? b = some o :=
    fun b o hb e => (Heap.get?_update_other _ _ (Ne.symm hb)).trans e
  refine wpAny_bind (wpAny_letGo ?_)
  obtain ⟨oi, hoi, hoc⟩ := id hit
  obtain ⟨ol, hol, hlc⟩ := id hl
  refine wpAny_extend_rev (A := A) (items := items) (l := l) hh ⟨oi, oth it oi (Ne.symm hSi) hoi, hoc⟩ ⟨ol, oth l ol (Ne.symm hSl) hol, hlc⟩ hne hn S .none _ hS₂ hSi hSl fun h' tk acc' c' hk hS' hacc => ?_
  exact hR h' tk acc' c' (fun b o hb hb2 e => hk b o hb hb2 (oth b o hb e)) hS' hacc
theorem call_list_rev {Q : Value → Shared → Prop} {it l : Addr} {items : Array Value} (hh : A.handled = none) (hit : s.heap.IsRevIter it l ((items.size : Int) - 1)) (hl : s.heap.IsList l items) (hne : l ≠ it) (hn : items.size ≤ sizeLine)
    (hQ : ∀ h' tk acc' c', (∀ b o, b ≠ it → s.heap.get? b = some o → h'.get? b = some o) →
      h'.get? s.heap.objs.size = some { cls := .type "list", dict := none, data := .seq acc' c', slots := #[] } → ItemsOf (fun i v => items[items.size - 1 - i]? = some v) acc' items.size → Q (.ref s.heap.objs.size) { s with heap := h', toks := tk }) :
    wpAny (model prog w) A (call (.type "list") [.ref it]) Q E s := by
  refine callType_codes (Q₁ := fun obj s₁ => obj = .ref s.heap.objs.size ∧ s₁ = { s with heap := s.heap.push { cls := .type "list", data := .seq #[] } }) F.called_list (F.typeCall_list_1 _) F.entry_list_init
    (code_list_new _ ⟨rfl, rfl⟩) fun obj s₁ h₁ => ?_
  obtain ⟨rfl, rfl⟩ := h₁
  have hS : (s.heap.push { cls := .type "list", data := .seq #[] }).get? s.heap.objs.size = some { cls := .type "list", data := .seq #[] } := Heap.get?_push_size _ rfl
  obtain ⟨oi, hoi, hoc⟩ := id hit
  obtain ⟨ol, hol, hlc⟩ := id hl
  refine ⟨⟨_, hS, rfl⟩, F.args_list_init_2 _ _, wpAny_list_init_rev (A := A.in1) (items := items) (l := l) hh ⟨oi, Heap.get?_push_of_some _ hoi, hoc⟩ ⟨ol, Heap.get?_push_of_some _ hol, hlc⟩ hne hn _ hS (Nat.ne_of_gt (Heap.lt_size hoi)) (Nat.ne_of_gt (Heap.lt_size hol)) fun h' tk acc' c' hk hS' hacc => ?_⟩
  exact ⟨rfl, hQ h' tk acc' c' (fun b o hb e => hk b o (Nat.ne_of_lt (Heap.lt_size e)) hb (Heap.get?_push_of_some _ e)) hS' hacc⟩
end
section
variable {X : Cx}
def tListRev (K : PySem.W.Frag) (te : TE) : TE := fun σ H Q => te σ H fun v H1 => ∃ (a : Addr) (xs : List V), v = .ref a ∧ SqL K H1 a xs ∧ ∀ q, H1 q = none → Q (.ref q) (upd H1 q (.lst xs.reverse))
theorem pe_listRev {e : Expr} {te : TE} {p p2 pos pos2 : Pos} (hc : X.calm = true) (hg : Gl X "list") (hm : X.mg "list" = none) (hg2 : Gl X "reversed") (hm2 : X.mg "reversed" = none) (he : PE X e te)
    (hs : starEach [e] X.env = (false, eval e X.env) :: starEach [] X.env := by rfl)
    (hs2 : starEach [.Call (.Name "reversed" p2) [e] [] pos2] X.env = (false, eval (.Call (.Name "reversed" p2) [e] [] pos2) X.env) :: starEach [] X.env := by rfl) :
    PE X (.Call (.Name "list" p) [.Call (.Name "reversed" p2) [e] [] pos2] [] pos) (tListRev X.K te) := by
  refine ⟨fun pins s σ H Q I h => ?_⟩
  refine Call_ (ld_blt I hg hm PyProof.Rows.boot_list (PyProof.Rows.callWith_type1 (args_cons (Call_ (ld_blt I hg2 hm2 PyProof.Rows.boot_reversed (PyProof.Rows.callWith_type1 (args_cons (thn (he.run pins s σ H _ I h) fun u s1 ⟨v, H1, I1, r1, q1⟩ => args_nil ?_) hs) hs rfl))) hs2) hs2 rfl))
  obtain ⟨a, xs, ev, hq, q⟩ := q1
  subst ev
  obtain rfl : u = Value.ref a := r1
  obtain ⟨its, rv, p', hz⟩ := I1.list hq
  refine call_reversed_list p'.isList (args_nil ?_)
  have k0 : ∀ b o, s1.heap.get? b = some o → (s1.heap.push (revObj a ((its.toArray.size : Int) - 1))).get? b = some o := fun b o e => Heap.get?_push_of_some _ e
  have I2 : Inv X pins σ H1 { s1 with heap := s1.heap.push (revObj a ((its.toArray.size : Int) - 1)) } := I1.kept (t' := s1.toks) k0
  obtain ⟨f0, f1, f2, f3, f4, f5⟩ := I1.fpOk (H' := H1) (b := s1.heap.objs.size) (Nat.le_refl _) (I1.hok.fresh (Nat.le_refl _))
  have hl := p'.isList
  obtain ⟨ol, hol, _⟩ := id hl
  have hne : a ≠ s1.heap.objs.size := Nat.ne_of_lt (Heap.lt_size hol)
  have hn : its.toArray.size ≤ sizeLine := by rw [List.size_toArray, ← rv.length]; exact hz
  refine call_list_rev (s := { s1 with heap := s1.heap.push (revObj a ((its.toArray.size : Int) - 1)) }) (I1.ok.hd hc) ⟨_, Heap.get?_push_size _ rfl, rfl, rfl⟩ (hl.push _) hne hn fun h' tk acc c' hk hS' hi => ?_
  have hsz : (s1.heap.push (revObj a ((its.toArray.size : Int) - 1))).objs.size = s1.heap.objs.size + 1 := Heap.size_push _ _
  have kk : ∀ b o, s1.heap.get? b = some o → h'.get? b = some o := fun b o e => hk b o (Nat.ne_of_lt (Heap.lt_size e)) (Heap.get?_push_of_some _ e)
  have hnew : s1.heap.objs.size ≤ (s1.heap.push (revObj a ((its.toArray.size : Int) - 1))).objs.size := by rw [hsz]; exact Nat.le_succ _
  refine ⟨.ref _, upd H1 _ (.lst xs.reverse), I1.laid (t' := tk) kk hnew (show ObjOk X.prog X.w _ _ _ (.lst xs.reverse) from ⟨by rw [List.length_reverse]; exact hz, acc.toList, c', RT.vals_rev rv hi, ?_⟩), rfl, q _ (I1.hok.fresh hnew)⟩
  rw [Array.toArray_toList]
  exact hS'
end
end TwR
end

section
set_option Elab.async false
set_option maxRecDepth 100000
set_option maxHeartbeats 4000000
set_option autoImplicit false
namespace TwR
open PySem PySem.Spec PyProof.Rows L2
/-! ### max(list, default=d) -/
abbrev kwD (d : Value) : List (Str × Value) := [(Str.ofString "default", d)]
theorem args_maxD (a d : Value) : argsOk "max" ⟨[a], kwD d⟩ := by unfold argsOk; kernel_rfl
section
variable {prog : Program} {w : World} {A : Around} {R : Result → Shared → Prop} {I : Addr} {fp wr : List Addr} {n : Nat} {P : Nat → Value → Prop} {St : Nat → Heap → Prop} {d : Value}
theorem max_loopD (W : Walks prog w A.in1 I fp wr n P St) (bt : Nat → Nat → Bool) (hcmp : CmpOf prog w A.in1 .Gt P bt) (S : Addr) (hSf : S ∉ fp) :
    ∀ (k j : Nat) (s : Shared) (vb : Value) (c : Nat), n - (j + 1) = k → j + 1 ≤ n → St (j + 1) s.heap → P (argBest bt j) vb →
    s.heap.get? S = some { cls := .type "list", dict := none, data := .seq #[vb, vb] c, slots := #[] } →
    (∀ v h' tk, P (argBest bt (n - 1)) v → (∀ b o, b ∉ wr → b ≠ S → s.heap.get? b = some o → h'.get? b = some o) → R (.ok (.ret v)) { s with heap := h', toks := tk }) →
    codeAny (model prog w) A (.builtin "max.loop" ⟨[.ref I, .none, .ref S], kwD d⟩) R s := by
  have hSw : S ∉ wr := fun h => hSf (W.sub _ h)
  have hname : (toString "max" ++ toString ".loop" : String) = "max.loop" := by decide
  intro k
  induction k with
  | zero =>
    intro j s vb c hk hj hst hPb hS hR
    have hin : j + 1 = n := by omega
    refine codeAny_builtin F.entry_max_loop ?_
    rw [Around.under_plainId F.plain_max_loop _]
    show wpAny _ A.in1 (seqItems? (.ref S) >>= _) _ _ s
    refine wpAny_bind (wpAny_seqItems hS rfl ?_)
    show wpAny _ A.in1 (tryCatch (pyNext (.ref I)) _ >>= _) _ _ s
    refine wpAny_bind (wpAny_tryCatch (W.done s _ _ (hin ▸ hst) fun h' tk hk' => ?_))
    have hS' := hk' S _ hSw hS
    show wpAny _ A.in1 (updateSeq S (fun _ => #[]) >>= _) _ _ _
    refine wpAny_bind ?_
    refine wpAny_updateSeq hS' rfl (wpAny_bind (wpAny_letGo (wpAny_pure ?_)))
    refine hR vb _ tk (by rw [← hin]; exact hPb) fun b o hbw hbS e => (Heap.get?_update_other _ _ (Ne.symm hbS)).trans (hk' b o hbw e)
  | succ k ih =>
    intro j s vb c hk hj hst hPb hS hR
    have hlt : j + 1 < n := by omega
    refine codeAny_builtin F.entry_max_loop ?_
    rw [Around.under_plainId F.plain_max_loop _]
    show wpAny _ A.in1 (seqItems? (.ref S) >>= _) _ _ s
    refine wpAny_bind (wpAny_seqItems hS rfl ?_)
    show wpAny _ A.in1 (tryCatch (pyNext (.ref I)) _ >>= _) _ _ s
    refine wpAny_bind (wpAny_tryCatch (W.item (j + 1) s _ _ hlt hst fun v h' tk hP hst' hk' => ?_))
    have hS' := hk' S _ hSw hS
    show wpAny _ A.in1 (tryCatch (holding [v, v] (richCompare .Gt v vb >>= _)) _ >>= _) _ _ _
    refine wpAny_bind (wpAny_tryCatch (wpAny_holding (wpAny_bind (hcmp (j + 1) (argBest bt j) v vb _ _ _ hP hPb ?_))))
    refine wpAny_bind (wpAny_holding (wpAny_truthy_bool ?_))
    refine wpAny_bind (wpAny_letGo (wpAny_pure ?_))
    cases hb : bt (j + 1) (argBest bt j) with
    | true =>
      simp only [if_true]
      refine wpAny_bind ?_
      refine wpAny_updateSeq hS' rfl (wpAny_bind (wpAny_letGo ?_))
      rw [hname]
      refine wpAny_pure ⟨plainId_quiet F.plain_max_loop _, ih (j + 1) _ v _ (by omega) hlt (W.frame _ _ _ hst' fun b hbf o e => ?_) (by simp only [argBest, hb, if_true]; exact hP) (Heap.get?_update_self _ hS' rfl)
        fun v' h'' tk'' hP' hk'' => ?_⟩
      · exact (Heap.get?_update_other _ _ (fun h : S = b => hSf (by rw [h]; exact hbf))).trans e
      · exact hR v' h'' tk'' hP' fun b o hbw hbS e => hk'' b o hbw hbS ((Heap.get?_update_other _ _ (Ne.symm hbS)).trans (hk' b o hbw e))
    | false =>
      simp only [Bool.false_eq_true, if_false]
      refine wpAny_bind (wpAny_letGo ?_)
      rw [hname]
      refine wpAny_pure ⟨plainId_quiet F.plain_max_loop _, ih (j + 1) _ vb c (by omega) hlt hst' (by simp only [argBest, hb, Bool.false_eq_true, if_false]; exact hPb) hS' fun v' h'' tk'' hP' hk'' => ?_⟩
      exact hR v' h'' tk'' hP' fun b o hbw hbS e => hk'' b o hbw hbS (hk' b o hbw e)
theorem max_firstD (W : Walks prog w A.in1 I fp wr n P St) (bt : Nat → Nat → Bool) (hcmp : CmpOf prog w A.in1 .Gt P bt) (S : Addr) (hSf : S ∉ fp) (hn : 0 < n) {s : Shared} {c : Nat} (hst : St 0 s.heap)
    (hS : s.heap.get? S = some { cls := .type "list", dict := none, data := .seq #[] c, slots := #[] })
    (hR : ∀ v h' tk, P (argBest bt (n - 1)) v → (∀ b o, b ∉ wr → b ≠ S → s.heap.get? b = some o → h'.get? b = some o) → R (.ok (.ret v)) { s with heap := h', toks := tk }) :
    codeAny (model prog w) A (.builtin "max.loop" ⟨[.ref I, .none, .ref S], kwD d⟩) R s := by
  have hSw : S ∉ wr := fun h => hSf (W.sub _ h)
  have hname : (toString "max" ++ toString ".loop" : String) = "max.loop" := by decide
  refine codeAny_builtin F.entry_max_loop ?_
  rw [Around.under_plainId F.plain_max_loop _]
  show wpAny _ A.in1 (seqItems? (.ref S) >>= _) _ _ s
  refine wpAny_bind (wpAny_seqItems hS rfl ?_)
  show wpAny _ A.in1 (tryCatch (pyNext (.ref I)) _ >>= _) _ _ s
  refine wpAny_bind (wpAny_tryCatch (W.item 0 s _ _ hn hst fun v h' tk hP hst' hk' => ?_))
  have hS' := hk' S _ hSw hS
  show wpAny _ A.in1 (updateSeq S (fun _ => #[v, v]) >>= _) _ _ _
  refine wpAny_bind ?_
  refine wpAny_updateSeq hS' rfl ?_
  rw [hname]
  refine wpAny_pure ⟨plainId_quiet F.plain_max_loop _, max_loopD W bt hcmp S hSf _ 0 _ v _ rfl hn (W.frame _ _ _ hst' fun b hbf o e => ?_) hP (Heap.get?_update_self _ hS' rfl) fun v' h'' tk'' hP' hk'' => ?_⟩
  · exact (Heap.get?_update_other _ _ (fun h : S = b => hSf (by rw [h]; exact hbf))).trans e
  · exact hR v' h'' tk'' hP' fun b o hbw hbS e => hk'' b o hbw hbS ((Heap.get?_update_other _ _ (Ne.symm hbS)).trans (hk' b o hbw e))
/-- no item at all: the default -/
theorem max_noneD (W : Walks prog w A.in1 I fp wr 0 P St) (S : Addr) (hSf : S ∉ fp) {s : Shared} {c : Nat} (hst : St 0 s.heap)
    (hS : s.heap.get? S = some { cls := .type "list", dict := none, data := .seq #[] c, slots := #[] })
    (hR : ∀ h' tk, (∀ b o, b ∉ wr → b ≠ S → s.heap.get? b = some o → h'.get? b = some o) → R (.ok (.ret d)) { s with heap := h', toks := tk }) :
    codeAny (model prog w) A (.builtin "max.loop" ⟨[.ref I, .none, .ref S], kwD d⟩) R s := by
  have hSw : S ∉ wr := fun h => hSf (W.sub _ h)
  refine codeAny_builtin F.entry_max_loop ?_
  rw [Around.under_plainId F.plain_max_loop _]
  show wpAny _ A.in1 (seqItems? (.ref S) >>= _) _ _ s
  refine wpAny_bind (wpAny_seqItems hS rfl ?_)
  show wpAny _ A.in1 (tryCatch (pyNext (.ref I)) _ >>= _) _ _ s
  refine wpAny_bind (wpAny_tryCatch (W.done s _ _ hst fun h' tk hk' => ?_))
  show wpAny _ A.in1 (rule _ >>= _) _ _ _
  refine wpAny_bind (wpAny_rule ?_)
  refine wpAny_pure ?_
  exact hR h' tk fun b o hbw hbS e => hk' b o hbw e
end
section
variable {prog : Program} {w : World} {A : Around} {E : Value → Shared → Prop} {s : Shared} {d : Value}
theorem call_tree_kw {id : String} {b : Builtin} {args : List Value} {kw : List (Str × Value)} {Q : Value → Shared → Prop} (hk : builtinKind id = none) (hp : plainId id = true)
    (hb : entryFor table id = some b) (ha : argsOk id ⟨args, kw⟩)
    (hc : wpAny (model prog w) A.in1 (b ⟨args, kw⟩) (fun fin s' => match fin with
      | .done f => (match (Except.ok f : Result) with | .ok (.ret v) => Q v s' | .ok _ => False | .error e => E e s')
      | .again c' => c'.quiet = true ∧ codeAny (model prog w) A c' (fun r s' => match r with | .ok (.ret v) => Q v s' | .ok _ => False | .error e => E e s') s') E s) :
    wpAny (model prog w) A (call (.builtin id) args kw) Q E s := by
  refine wpAny_call (codeAny_call_builtin hp hb ?_)
  simp only [checkBuiltinCall, hk]
  cases hsig : Manifest.signature? id with
  | none => exact wpAny_pure hc
  | some sig =>
    have ha' : Bind.checkArgs id sig ⟨args, kw⟩ = pure () := by simpa only [argsOk, hsig] using ha
    simp only [ha']
    exact wpAny_pure hc
theorem max_walkD {x : Value} {Q : Value → Shared → Prop}
    (h : wpAny (model prog w) A.in1 (pyIter x) (fun it s₂ => ∃ I fp wr n P St bt, it = .ref I ∧ Walks prog w A.in1 I fp wr n P St ∧ St 0 s₂.heap ∧ (∀ b ∈ fp, b < s₂.heap.objs.size) ∧ CmpOf prog w A.in1 .Gt P bt ∧
      (0 < n → ∀ v h' tk, P (argBest bt (n - 1)) v → (∀ b o, b ∉ wr → s₂.heap.get? b = some o → h'.get? b = some o) → Q v { s₂ with heap := h', toks := tk }) ∧
      (n = 0 → ∀ h' tk, (∀ b o, b ∉ wr → s₂.heap.get? b = some o → h'.get? b = some o) → Q d { s₂ with heap := h', toks := tk })) E s) :
    wpAny (model prog w) A (call (.builtin "max") [x] (kwD d)) Q E s := by
  have hname : (toString "max" ++ toString ".loop" : String) = "max.loop" := by decide
  refine call_tree_kw F.kind_max F.plain_max F.entry_max (args_maxD _ _) ?_
  show wpAny _ A.in1 (Builtin.Builtins.bindParams "max" ["key", "default"] 0 ⟨[], kwD d⟩ >>= _) _ _ s
  refine wpAny_bind (wpAny_of_eq (show Builtin.Builtins.bindParams "max" ["key", "default"] 0 ⟨[], kwD d⟩ = pure [none, some d] from rfl) ?_)
  refine wpAny_bind (wpAny_pure ?_)
  refine wpAny_bind (wpAny_mono h (fun it s₂ h₂ => ?_) fun _ _ e => e)
  obtain ⟨I, fp, wr, n, P, St, bt, rfl, W, hst, hfp, hcmp, hQ, hQ0⟩ := h₂
  refine wpAny_bind (wpAny_newObj_type ?_)
  have hSf : s₂.heap.objs.size ∉ fp := fun hm => Nat.lt_irrefl _ (hfp _ hm)
  rw [hname]
  cases n with
  | zero =>
    refine wpAny_pure ⟨plainId_quiet F.plain_max_loop _, max_noneD W s₂.heap.objs.size hSf (W.frame _ _ _ hst fun b _ o e => Heap.get?_push_of_some _ e) (Heap.get?_push_size _ rfl) fun h' tk hk => ?_⟩
    exact hQ0 rfl h' tk fun b o hbw e => hk b o hbw (Nat.ne_of_lt (Heap.lt_size e)) (Heap.get?_push_of_some _ e)
  | succ m =>
    refine wpAny_pure ⟨plainId_quiet F.plain_max_loop _, max_firstD W bt hcmp s₂.heap.objs.size hSf (Nat.succ_pos m) (W.frame _ _ _ hst fun b _ o e => Heap.get?_push_of_some _ e) (Heap.get?_push_size _ rfl) fun v h' tk hP hk => ?_⟩
    exact hQ (Nat.succ_pos m) v h' tk hP fun b o hbw e => hk b o hbw (Nat.ne_of_lt (Heap.lt_size e)) (Heap.get?_push_of_some _ e)
theorem max_rawD {l : Addr} {its : List Value} {ns : List Int} {Q : Value → Shared → Prop} (hh : A.handled = none) (hl : s.heap.IsList l its.toArray) (hi : IntsAre its ns)
    (h : ∀ h' tk M t', (∀ b o, s.heap.get? b = some o → h'.get? b = some o) → M ∈ ns → (∀ a, a ∈ ns → a ≤ M) → Q (.int M t') { s with heap := h', toks := tk })
    (h0 : ns = [] → ∀ h' tk, (∀ b o, s.heap.get? b = some o → h'.get? b = some o) → Q d { s with heap := h', toks := tk }) : wpAny (model prog w) A (call (.builtin "max") [.ref l] (kwD d)) Q E s := by
  obtain ⟨xs, e⟩ := hi.allInts.items
  have hn : numsOf (intItems xs).toList = ns := by rw [← e]; exact hi.numsOf
  rw [nums_intItems] at hn
  subst hn
  rw [e] at hl
  refine max_walkD (iter_intList hl fun s₂ e st hfp hlI => ?_)
  subst e
  refine ⟨_, _, _, _, _, _, _, rfl, Walks.list (A := A.in1) hh _ l hlI (intItems xs), st, hfp, CmpOf.ints_gt (numAt xs) (fun _ _ => intItems_at), fun hne v h' tk hP hk => ?_, fun hz h' tk hk => ?_⟩
  · have hsz : 0 < xs.size := by simpa [intItems] using hne
    have hv : (intItems xs)[argBest (fun i j => decide (numAt xs i > numAt xs j)) (xs.size - 1)]? = some v := by simpa [intItems] using hP
    obtain ⟨t, rfl⟩ := intItems_at hv
    obtain ⟨h1, h2⟩ := argBest_gt (numAt xs) (xs.size - 1)
    refine h h' tk _ t (old_kept hk) ?_ fun a ha => ?_
    · rw [numAt_eq]; exact PySem.getD_mem (by rw [List.length_map, Array.length_toList]; omega)
    · obtain ⟨j, hj, rfl⟩ := mem_getD ha
      rw [List.length_map, Array.length_toList] at hj
      rw [← numAt_eq]; exact h2 j (by omega)
  · have hsz : xs.size = 0 := by simpa [intItems] using hz
    have hx : xs.toList = [] := by
      rw [← List.length_eq_zero_iff, Array.length_toList]
      exact hsz
    exact h0 (by rw [hx]; rfl) h' tk (old_kept hk)
end
section
variable {X : Cx}
def rMaxDf (K : PySem.W.Frag) : List V → List V → Hp → VK → Prop := fun vs zs H Q => ∃ (a : Addr) (ns : List Int) (d : Int), vs = [V.ref a] ∧ zs = [.int d] ∧ SqL K H a (ns.map V.int) ∧ ∀ m, (m ∈ ns ∨ (ns = [] ∧ m = d)) → (∀ y, y ∈ ns → y ≤ m) → Q (.int m) H
theorem cr_maxDf (hc : X.calm = true) : CallRK X (.builtin "max") [Str.ofString "default"] (rMaxDf X.K) := by
  intro pins s σ H vs zs us ws Q I r1 r2 h
  obtain ⟨a, ns, d, rfl, rfl, hs, q⟩ := h
  obtain ⟨its, rv, hl, _⟩ := I.list hs
  obtain ⟨dv, e, rd⟩ := vals1 r2
  subst e
  obtain ⟨t, rfl⟩ := rd
  rw [Vals.ref1 r1]
  refine max_rawD (d := .int d t) (I.ok.hd hc) hl.isList rv.ints (fun h' tk m t' hk h1 h2 => ⟨.int _, H, I.kept hk, ⟨_, rfl⟩, q m (.inl h1) h2⟩) fun e h' tk hk => ⟨.int _, H, I.kept hk, ⟨_, rfl⟩, q d (.inr ⟨e, rfl⟩) fun y hy => ?_⟩
  rw [e] at hy
  cases hy
/-! ### a text once or not at all -/
theorem op_strRep : OpR X (binaryOp .Mult) (fun x y H Q => ∃ z k, x = .str z ∧ y = .int k ∧ (k = 0 ∨ k = 1) ∧ Q (.str (if k = 0 then Str.empty else z)) H) := by
  intro pins s σ H x y v u Q I rx ry h
  obtain ⟨z, k, rfl, rfl, hk, q⟩ := h
  obtain ⟨t, rfl⟩ := rx
  obtain ⟨t', rfl⟩ := ry
  rcases hk with rfl | rfl
  · exact PySem.P.mul_str_none (by decide) (by decide) ⟨.str _, H, I.tok _, ⟨_, rfl⟩, q⟩
  · refine PySem.P.mul_str (by decide) (fun _ h2 => absurd h2 (by simp)) (fun _ h2 => absurd h2 (by simp)) ?_
    rw [if_neg (by decide), if_pos (by simp)]
    exact ⟨.str _, H, I, ⟨_, rfl⟩, q⟩
end
end TwR
end

section
set_option Elab.async false
set_option maxRecDepth 100000
set_option maxHeartbeats 4000000
set_option autoImplicit false
namespace TwR
open PySem PySem.Spec PyProof.Rows L2
/-! ### a tuple of some things once or not at all -/
theorem tuple_mul1 (l : Addr) (items : Array Value) (n : Nat) (dd : Option Addr) (sl : Array (Option Value)) (u : Tok) :
    Meets (Builtin.«tuple.__mul__» ⟨[.ref l, .int 1 u], []⟩) (fun _ R s => s.heap.get? l = some { cls := .type "tuple", dict := dd, data := .seq items n, slots := sl } ∧ R (.ok (.ret (Value.ref l))) s) :=
  .of_wp fun prog w A R s h => by
    obtain ⟨hp, g, d, tk, os⟩ := s
    obtain ⟨hl, h⟩ := h
    have f1 := AutoSeq1.idx_int
    wp_walk using wpAny_loadPart' hl
    exact ⟨_, rfl, h⟩
theorem tuple_mul0 (l : Addr) (items : Array Value) (n : Nat) (dd : Option Addr) (sl : Array (Option Value)) (u : Tok) (hi : items.isEmpty = false) :
    Meets (Builtin.«tuple.__mul__» ⟨[.ref l, .int 0 u], []⟩) (fun _ R s => s.heap.get? l = some { cls := .type "tuple", dict := dd, data := .seq items n, slots := sl } ∧
      R (.ok (.ret (Value.ref s.heap.objs.size))) { s with heap := s.heap.push { cls := Value.type "tuple", data := Data.seq #[] }, toks := s.toks }) :=
  .of_wp fun prog w A R s h => by
    obtain ⟨hp, g, d, tk, os⟩ := s
    obtain ⟨hl, h⟩ := h
    have f1 := AutoSeq1.idx_int
    wp_walk using wpAny_loadPart' hl
    exact ⟨_, rfl, h⟩
section
variable {X : Cx}
def rRep01 (K : PySem.W.Frag) : R2 := fun x y H Q => ∃ l k xs, x = .ref l ∧ y = .int k ∧ SqT K H l xs ∧ xs ≠ [] ∧ ((k = 1 ∧ Q (.ref l) H) ∨ (k = 0 ∧ ∀ p, H p = none → Q (.ref p) (upd H p (.tup []))))
theorem op_rep01 : OpR X (binaryOp .Mult) (rRep01 X.K) := by
  intro pins s σ H x y v u Q I rx ry h
  obtain ⟨l, k, xs, rfl, rfl, hT, hne, q⟩ := h
  cases rx
  obtain ⟨t, rfl⟩ := ry
  obtain ⟨its, r, ⟨⟨cls, dd, data, sl⟩, ho, hc, n, hd⟩, hs⟩ := I.tuple hT
  simp only at hc hd
  subst hc hd
  have hle : its.length = xs.length := r.length.symm
  have hi : its.toArray.isEmpty = false := by
    cases its with
    | nil =>
      cases xs with
      | nil => exact absurd rfl hne
      | cons _ _ => simp at hle
    | cons a b => rfl
  rcases q with ⟨rfl, q⟩ | ⟨rfl, q⟩
  · exact wpAny_binaryOp_repeat_ref (T := "tuple") (U := "int") (by decide) ⟨_, ho, rfl⟩ (fun s' => typeIs_int s' 1 t) noFill_tuple_mul F.fills_int_mul F.slot_int_rmul repeat_tuple F.slot_int_index.lookup
      (call_meets F.slot_int_rmul (typeIs_int s 1 t) F.entry_int_rmul (F.args_int_rmul_2 _ _) (int_rmul_tuple 1 t l its.toArray n dd sl)
        ⟨ho, rfl, ⟨_, ho, rfl⟩, call_meets F.slot_tuple_mul ⟨_, ho, rfl⟩ F.entry_tuple_mul (F.args_tuple_mul_2 _ _) (tuple_mul1 l its.toArray n dd sl t) ⟨ho, ⟨.ref l, H, I, rfl, q⟩⟩⟩)
  · refine wpAny_binaryOp_repeat_ref (T := "tuple") (U := "int") (by decide) ⟨_, ho, rfl⟩ (fun s' => typeIs_int s' 0 t) noFill_tuple_mul F.fills_int_mul F.slot_int_rmul repeat_tuple F.slot_int_index.lookup
      (call_meets F.slot_int_rmul (typeIs_int s 0 t) F.entry_int_rmul (F.args_int_rmul_2 _ _) (int_rmul_tuple 0 t l its.toArray n dd sl)
        ⟨ho, rfl, ⟨_, ho, rfl⟩, call_meets F.slot_tuple_mul ⟨_, ho, rfl⟩ F.entry_tuple_mul (F.args_tuple_mul_2 _ _) (tuple_mul0 l its.toArray n dd sl t hi) ⟨ho, ?_⟩⟩)
    refine ⟨.ref s.heap.objs.size, _, I.laid (t' := s.toks) (o := .tup []) (fun b ob q => Heap.get?_push_of_some _ q) (Nat.le_refl _) ?_, rfl, q _ (I.hok.fresh (Nat.le_refl _))⟩
    exact ⟨by decide, [], .nil, IsTup.new _ _⟩
end
end TwR
end

section
set_option Elab.async false
set_option maxRecDepth 100000
set_option maxHeartbeats 4000000
set_option autoImplicit false
/-! What the proofs of all defs share: the text by places, what stands behind the top, data on the heap. -/
namespace Tw
open PySem L2 Twg
def top (i : Nat) : Stmt := PySem.Challenge.pw_twigmap_k28_whole_shelf_exact.main.body.getD i (.Pass ⟨0, 0, 0, 0⟩)
/-! ### what stands behind the top -/
structure Bas (mg : Str → Option Value) : Prop where
  b_len : mg "len" = none
  b_isinstance : mg "isinstance" = none
  b_int : mg "int" = none
  b_bool : mg "bool" = none
  b_str : mg "str" = none
  b_tuple : mg "tuple" = none
  b_list : mg "list" = none
  b_all : mg "all" = none
  b_sum : mg "sum" = none
  b_range : mg "range" = none
  b_sorted : mg "sorted" = none
  b_max : mg "max" = none
  b_min : mg "min" = none
  b_abs : mg "abs" = none
  b_reversed : mg "reversed" = none
  c_SIGNS : ∃ t, mg "SIGNS" = some (.int 40 t)
  c_WIDE : ∃ t, mg "WIDE" = some (.int 4 t)
  c_DEEP : ∃ t, mg "DEEP" = some (.int 3 t)
  c_BOUND : ∃ t, mg "BOUND" = some (.int (10 ^ 60) t)
  c_MOST : ∃ t, mg "MOST" = some (.int 4 t)
  c_LEAF : ∃ t, mg "LEAF" = some (.str "leaf" t)
  c_STEM : ∃ t, mg "STEM" = some (.str "stem" t)
/-- a def of the text as it stands behind the top -/
def RawG (K : PySem.W.Frag) (mg : Str → Option Value) (x : Str) (st : Stmt) (ps : List Str) : Prop :=
  ∃ (f : Addr) (fd : FuncData), mg x = some (.ref f) ∧ PySem.W.keepIn K (.ref f) = true ∧ Binds K fd ps [] ∧ Fun K x x st f fd
/-- a method of the class at C -/
def RawM (K : PySem.W.Frag) (C : Addr) (m qual : Str) (st : Stmt) (ps : List Str) : Prop :=
  ∃ (f : Addr) (fd : FuncData), Meth K C m f ∧ Binds K fd ps [] ∧ Fun K m qual st f fd
section
variable (P : Program) (w : World) (K : PySem.W.Frag) (mg : Str → Option Value) (base : Heap)
/-- a def that keeps a promise -/
def DfG (k : Nat) (x : Str) (ps : List Str) (sp : Sp) : Prop :=
  ∃ (f : Addr) (fd : FuncData), mg x = some (.ref f) ∧ PySem.W.keepIn K (.ref f) = true ∧ Binds K fd ps [] ∧ FnOk P w K mg base CX0 k f fd ps sp
def DfM (C : Addr) (k : Nat) (m : Str) (ps : List Str) (sp : Sp) : Prop :=
  ∃ (f : Addr) (fd : FuncData), Meth K C m f ∧ Binds K fd ps [] ∧ FnOk P w K mg base CX0 k f fd ps sp
end
theorem DfG.imp {P : Program} {w : World} {K : PySem.W.Frag} {mg : Str → Option Value} {base : Heap} {k : Nat} {x : Str} {ps : List Str} {sp sp' : Sp} (h : DfG P w K mg base k x ps sp) (i : ∀ vs H Q E, sp' vs H Q E → sp vs H Q E) : DfG P w K mg base k x ps sp' := by
  obtain ⟨f, fd, a, b, c, F⟩ := h
  exact ⟨f, fd, a, b, c, F.imp i⟩

/-! ### heaps -/
/-- all but fp stands -/
def Keep (fp : List Addr) (H H' : Hp) : Prop := ∀ b o, H b = some o → b ∉ fp → H' b = some o
/-- all tuples stand -/
def TS (H H' : Hp) : Prop := ∀ p xs, H p = some (.tup xs) → H' p = some (.tup xs)
theorem TS.refl (H : Hp) : TS H H := fun _ _ h => h
theorem TS.trans {H H1 H2 : Hp} (a : TS H H1) (b : TS H1 H2) : TS H H2 := fun p xs h => b p xs (a p xs h)
theorem ts_same {H H' : Hp} (e : Same H H') : TS H H' := fun p xs h => e p _ h
theorem same_new {H : Hp} {p : Addr} {o : HO} (h : H p = none) : Same H (upd H p o) := fun a u e => by
  rw [upd_ne (ne_of_none e h)]
  exact e
/-- an object that H does not know may change -/
theorem same_mut {H H' : Hp} {p : Addr} {o : HO} (e : Same H H') (h : H p = none) : Same H (upd H' p o) := fun a u ha => by
  rw [upd_ne (ne_of_none ha h)]
  exact e a u ha
theorem ts_upd {H : Hp} {p : Addr} {o : HO} (h : ∀ xs, H p ≠ some (.tup xs)) : TS H (upd H p o) := fun q xs e => by
  rw [upd_ne (fun (z : q = p) => h xs (z ▸ e))]
  exact e
theorem Keep.refl (fp : List Addr) (H : Hp) : Keep fp H H := fun _ _ h _ => h
theorem Keep.of_same {fp : List Addr} {H H' : Hp} (e : Same H H') : Keep fp H H' := fun b o h _ => e b o h
theorem Keep.trans {fp : List Addr} {H H1 H2 : Hp} (a : Keep fp H H1) (b : Keep fp H1 H2) : Keep fp H H2 := fun c o h n => b c o (a c o h n) n
theorem Keep.mono {fp fq : List Addr} {H H' : Hp} (a : Keep fp H H') (h : ∀ b ∈ fp, b ∈ fq) : Keep fq H H' := fun c o e n => a c o e fun m => n (h c m)
theorem keep_upd {fp : List Addr} {H : Hp} {p : Addr} {o : HO} (h : p ∈ fp) : Keep fp H (upd H p o) := fun b u e n => by
  rw [upd_ne (fun (z : b = p) => n (z ▸ h))]
  exact e
theorem keep_nil {H H' : Hp} (a : Keep [] H H') : Same H H' := fun b o h => a b o h (by simp)
theorem Keep.ts {fp : List Addr} {H H' : Hp} (a : Keep fp H H') (h : ∀ b ∈ fp, ∀ xs, H b ≠ some (.tup xs)) : TS H H' := fun p xs e => a p _ e fun m => h p m xs e
/-- what was not there ahead, behind -/
theorem keep_free {fp : List Addr} {H H' : Hp} (a : Keep fp H H') {p : Addr} (h : H' p = none) (n : p ∉ fp) : H p = none := by
  cases e : H p with
  | none => rfl
  | some o =>
    rw [a p o e n] at h
    cases h

/-! ### keys and values: numbers, texts, tuples of these -/
inductive At where
  | i (n : Int)
  | s (x : Str)
inductive Kd where
  | at (a : At)
  | tp (as : List At)
def At.v : At → V
  | .i n => .int n
  | .s x => .str x
def At.d : At → PyData
  | .i n => .int n
  | .s x => .str x
def Kd.d : Kd → PyData
  | .at a => a.d
  | .tp as => .tuple (as.map At.d)
def At.rk : At → PyData
  | .i n => .tuple [.int 0, .int n, .str "", .tuple []]
  | .s x => .tuple [.int 1, .int 0, .str x, .tuple []]
def Kd.rk : Kd → PyData
  | .at a => a.rk
  | .tp as => .tuple [.int 2, .int 0, .str "", .tuple (as.map At.rk)]
def KdV (H : Hp) (v : V) : Kd → Prop
  | .at a => v = a.v
  | .tp as => ∃ p, v = .ref p ∧ H p = some (.tup (as.map At.v))
theorem KdV.ts {H H' : Hp} (e : TS H H') {v : V} {k : Kd} (h : KdV H v k) : KdV H' v k := by
  cases k with
  | «at» a => exact h
  | tp as =>
    obtain ⟨p, hv, hp⟩ := h
    exact ⟨p, hv, e p _ hp⟩
/-! data of numbers, texts and tuples alone -/
mutual
inductive Dt (H : Hp) : V → PyData → Prop
  | int (i : Int) : Dt H (.int i) (.int i)
  | str (x : Str) : Dt H (.str x) (.str x)
  | tup {a : Addr} {xs : List V} {ds : List PyData} : H a = some (.tup xs) → DtAll H xs ds → Dt H (.ref a) (.tuple ds)
inductive DtAll (H : Hp) : List V → List PyData → Prop
  | nil : DtAll H [] []
  | cons {v : V} {vs : List V} {d : PyData} {ds : List PyData} : Dt H v d → DtAll H vs ds → DtAll H (v :: vs) (d :: ds)
end
mutual
theorem Dt.ts {H H' : Hp} (e : TS H H') : ∀ (d : PyData) (v : V), Dt H v d → Dt H' v d
  | .none, _, h => by cases h
  | .bool b, _, h => by cases h
  | .int i, _, h => by
    cases h
    exact .int i
  | .str x, _, h => by
    cases h
    exact .str x
  | .list ds, _, h => by cases h
  | .tuple ds, _, h => by
    cases h with
    | tup hs ha => exact .tup (e _ _ hs) (DtAll.ts e ds _ ha)
  | .dict kvs, _, h => by cases h
theorem DtAll.ts {H H' : Hp} (e : TS H H') : ∀ (ds : List PyData) (vs : List V), DtAll H vs ds → DtAll H' vs ds
  | [], _, h => by
    cases h
    exact .nil
  | d :: ds, _, h => by
    cases h with
    | cons h1 h2 => exact .cons (Dt.ts e d _ h1) (DtAll.ts e ds _ h2)
end
mutual
theorem Dt.dp {K : PySem.W.Frag} {H : Hp} : ∀ (d : PyData) (v : V), Dt H v d → Dp K H v d
  | .none, _, h => by cases h
  | .bool b, _, h => by cases h
  | .int i, _, h => by
    cases h
    exact .int i
  | .str x, _, h => by
    cases h
    exact .str x
  | .list ds, _, h => by cases h
  | .tuple ds, _, h => by
    cases h with
    | tup hs ha => exact .tup (SqT.of hs) (DtAll.dp ds _ ha)
  | .dict kvs, _, h => by cases h
theorem DtAll.dp {K : PySem.W.Frag} {H : Hp} : ∀ (ds : List PyData) (vs : List V), DtAll H vs ds → DpAll K H vs ds
  | [], _, h => by
    cases h
    exact .nil
  | d :: ds, _, h => by
    cases h with
    | cons h1 h2 => exact .cons (Dt.dp d _ h1) (DtAll.dp ds _ h2)
end
theorem dtAll_app {H : Hp} : ∀ {vs ws : List V} {ds es : List PyData}, DtAll H vs ds → DtAll H ws es → DtAll H (vs ++ ws) (ds ++ es)
  | _, _, _, _, .nil, h => h
  | _, _, _, _, .cons r t, h => .cons r (dtAll_app t h)
theorem dtAll_get {H : Hp} : ∀ {vs : List V} {ds : List PyData}, DtAll H vs ds → ∀ (i : Nat) (v : V), vs[i]? = some v → ∃ d, ds[i]? = some d ∧ Dt H v d
  | _, _, .nil, i, a, h => by simp at h
  | _, _, .cons r t, 0, a, h => by
    simp only [List.getElem?_cons_zero, Option.some.injEq] at h
    subst h
    exact ⟨_, rfl, r⟩
  | _, _, .cons r t, i + 1, a, h => by
    simp only [List.getElem?_cons_succ] at h ⊢
    exact dtAll_get t i a h
theorem dtAll_len {H : Hp} : ∀ {vs : List V} {ds : List PyData}, DtAll H vs ds → vs.length = ds.length
  | _, _, .nil => rfl
  | _, _, .cons r t => by rw [List.length_cons, List.length_cons, dtAll_len t]
theorem At.dt {H : Hp} (a : At) : Dt H a.v a.d := by
  cases a with
  | i n => exact .int n
  | s x => exact .str x
theorem ats_dt {H : Hp} : ∀ as : List At, DtAll H (as.map At.v) (as.map At.d)
  | [] => .nil
  | a :: as => .cons a.dt (ats_dt as)
theorem KdV.dt {H : Hp} {v : V} {k : Kd} (h : KdV H v k) : Dt H v k.d := by
  cases k with
  | «at» a =>
    have h : v = a.v := h
    rw [h]
    exact a.dt
  | tp as =>
    obtain ⟨p, hv, hp⟩ := h
    rw [hv]
    exact .tup hp (ats_dt as)
/-! ### what is a key or value -/
def At.Ok : At → Prop
  | .i n => -(10 ^ 60 : Int) < n ∧ n < 10 ^ 60
  | .s x => x.length ≤ 40 ∧ ∀ c ∈ x.cps.toList, 32 ≤ c ∧ c ≤ 126
def Kd.Ok : Kd → Prop
  | .at a => a.Ok
  | .tp as => as.length ≤ 4 ∧ ∀ a ∈ as, a.Ok
/-! ### rows, labels, what a twig has -/
def gk (G : List Kd) (i : Nat) : Kd := (G[i]?).getD (.at (.i 0))
def RowV (G : List Kd) (H : Hp) (v : V) (r : Nat × Kd) : Prop := ∃ p a b, v = .ref p ∧ H p = some (.tup [a, b]) ∧ KdV H a (gk G r.1) ∧ KdV H b r.2 ∧ r.1 < 64 ∧ r.2.Ok
def RowsV (G : List Kd) (H : Hp) (vs : List V) (rs : List (Nat × Kd)) : Prop := Paired (RowV G H) vs rs
def LabV (G : List Kd) (H : Hp) (v : V) (l : Lab) : Prop := ∃ p a b, v = .ref p ∧ H p = some (.tup [.int l.h, a, b, .int l.ct]) ∧ KdV H a (gk G l.lo) ∧ KdV H b (gk G l.hi)
def nvs (ks : List Nat) : List V := ks.map fun (k : Nat) => V.int (k : Int)
abbrev Tk := Tg Kd
def KeptV (G : List Kd) (H : Hp) (v : V) : Tk → Prop
  | .leaf rows => ∃ p q vs, v = .ref p ∧ H p = some (.tup [.str "leaf", .ref q]) ∧ H q = some (.tup vs) ∧ RowsV G H vs rows
  | .stem ks => ∃ p q, v = .ref p ∧ H p = some (.tup [.str "stem", .ref q]) ∧ H q = some (.tup (nvs ks))
theorem RowV.ts {G : List Kd} {H H' : Hp} (e : TS H H') {v : V} {r : Nat × Kd} (h : RowV G H v r) : RowV G H' v r := by
  obtain ⟨p, a, b, h1, h2, h3, h4, h5⟩ := h
  exact ⟨p, a, b, h1, e _ _ h2, h3.ts e, h4.ts e, h5⟩
theorem RowsV.ts {G : List Kd} {H H' : Hp} (e : TS H H') {vs : List V} {rs : List (Nat × Kd)} (h : RowsV G H vs rs) : RowsV G H' vs rs := L2.Paired.mapP h fun _ _ x => x.ts e
theorem LabV.ts {G : List Kd} {H H' : Hp} (e : TS H H') {v : V} {l : Lab} (h : LabV G H v l) : LabV G H' v l := by
  obtain ⟨p, a, b, h1, h2, h3, h4⟩ := h
  exact ⟨p, a, b, h1, e _ _ h2, h3.ts e, h4.ts e⟩
theorem KeptV.ts {G : List Kd} {H H' : Hp} (e : TS H H') {v : V} {t : Tk} (h : KeptV G H v t) : KeptV G H' v t := by
  cases t with
  | leaf rows =>
    obtain ⟨p, q, vs, h1, h2, h3, h4⟩ := h
    exact ⟨p, q, vs, h1, e _ _ h2, e _ _ h3, h4.ts e⟩
  | stem ks =>
    obtain ⟨p, q, h1, h2, h3⟩ := h
    exact ⟨p, q, h1, e _ _ h2, e _ _ h3⟩
theorem paired_get {α β : Type} {F : α → β → Prop} : ∀ {l : List α} {m : List β}, Paired F l m → ∀ (i : Nat) (a : α), l[i]? = some a → ∃ b, m[i]? = some b ∧ F a b
  | _, _, .nil, i, a, h => by simp at h
  | _, _, .cons r t, 0, a, h => by
    simp only [List.getElem?_cons_zero, Option.some.injEq] at h
    subst h
    exact ⟨_, rfl, r⟩
  | _, _, .cons r t, i + 1, a, h => by
    simp only [List.getElem?_cons_succ] at h ⊢
    exact paired_get t i a h
theorem paired_get2 {α β : Type} {F : α → β → Prop} : ∀ {l : List α} {m : List β}, Paired F l m → ∀ (i : Nat) (b : β), m[i]? = some b → ∃ a, l[i]? = some a ∧ F a b
  | _, _, .nil, i, a, h => by simp at h
  | _, _, .cons r t, 0, a, h => by
    simp only [List.getElem?_cons_zero, Option.some.injEq] at h
    subst h
    exact ⟨_, rfl, r⟩
  | _, _, .cons r t, i + 1, a, h => by
    simp only [List.getElem?_cons_succ] at h ⊢
    exact paired_get2 t i a h
theorem paired_app {α β : Type} {F : α → β → Prop} : ∀ {l l' : List α} {m m' : List β}, Paired F l m → Paired F l' m' → Paired F (l ++ l') (m ++ m')
  | _, _, _, _, .nil, h => h
  | _, _, _, _, .cons r t, h => .cons r (paired_app t h)
theorem get_map {α β : Type} {f : α → β} {l : List α} {i : Nat} {y : β} (h : (l.map f)[i]? = some y) : ∃ x, l[i]? = some x ∧ y = f x := by
  rw [List.getElem?_map] at h
  cases e : l[i]? with
  | none =>
    rw [e] at h
    cases h
  | some x =>
    rw [e] at h
    exact ⟨x, rfl, (Option.some.inj h).symm⟩
theorem lt_of_get {α : Type} {l : List α} {i : Nat} {y : α} (h : l[i]? = some y) : i < l.length := (List.getElem?_eq_some_iff.mp h).1
theorem nvs_get {ks : List Nat} {i : Nat} {y : V} (h : (nvs ks)[i]? = some y) : ∃ k, ks[i]? = some k ∧ y = .int (k : Int) := get_map h
theorem nvs_len (ks : List Nat) : (nvs ks).length = ks.length := List.length_map _
/-! ### dicts by numbers -/
def dF (ks : List Nat) (f : Nat → V) : List (L2.Key × V) := ks.map fun (n : Nat) => ((Sum.inl (n : Int) : L2.Key), f n)
theorem dF_len (ks : List Nat) (f : Nat → V) : (dF ks f).length = ks.length := List.length_map _
theorem key_inj {n m : Nat} : ((Sum.inl (n : Int) : L2.Key) = Sum.inl (m : Int)) ↔ n = m := by
  constructor
  · intro h
    have := Sum.inl.inj h
    omega
  · intro h
    rw [h]
theorem dF_val (f : Nat → V) (n : Nat) : ∀ ks : List Nat, valV (dF ks f) (Sum.inl (n : Int)) = if n ∈ ks then some (f n) else none
  | [] => rfl
  | k :: ks => by
    show valV ((Sum.inl (k : Int), f k) :: dF ks f) _ = _
    by_cases h : k = n
    · rw [valV_pos (by rw [h]), if_pos (by rw [h]; exact List.mem_cons.mpr (.inl rfl))]
      rw [h]
    · rw [valV_neg (fun e => h (key_inj.mp e)), dF_val f n ks]
      by_cases hm : n ∈ ks
      · rw [if_pos hm, if_pos (List.mem_cons.mpr (.inr hm))]
      · rw [if_neg hm, if_neg (fun e => (List.mem_cons.mp e).elim (fun z => h z.symm) hm)]
theorem dF_in {f : Nat → V} {n : Nat} {ks : List Nat} (h : n ∈ ks) : valV (dF ks f) (Sum.inl (n : Int)) = some (f n) := by rw [dF_val, if_pos h]
theorem dF_out {f : Nat → V} {n : Nat} {ks : List Nat} (h : n ∉ ks) : valV (dF ks f) (Sum.inl (n : Int)) = none := by rw [dF_val, if_neg h]
theorem dF_put {f : Nat → V} {n : Nat} {ks : List Nat} (v : V) (h : n ∈ ks) : putK (dF ks f) (Sum.inl (n : Int)) v = dF ks (fset f n v) := by
  have ha : ((dF ks f).any fun kv => decide (kv.1 = (Sum.inl (n : Int) : L2.Key))) = true := by
    rw [valV_any, dF_in h]
    rfl
  unfold putK
  rw [if_pos ha]
  unfold dF
  rw [List.map_map]
  refine List.map_congr_left fun k _ => ?_
  show (if (Sum.inl (k : Int) : L2.Key) = Sum.inl (n : Int) then _ else _) = _
  by_cases e : k = n
  · rw [if_pos (key_inj.mpr e)]
    unfold fset
    rw [if_pos e]
  · rw [if_neg (fun z => e (key_inj.mp z))]
    unfold fset
    rw [if_neg e]
theorem dF_ext {f g : Nat → V} {ks : List Nat} (h : ∀ k ∈ ks, f k = g k) : dF ks f = dF ks g := List.map_congr_left fun k hk => by rw [h k hk]
theorem dF_new {f : Nat → V} {n : Nat} {ks : List Nat} (v : V) (h : n ∉ ks) : putK (dF ks f) (Sum.inl (n : Int)) v = dF (ks ++ [n]) (fset f n v) := by
  rw [putK_new v (dF_out h)]
  unfold dF
  rw [List.map_append]
  congr 1
  · refine List.map_congr_left fun k hk => ?_
    rw [fset_ne _ _ (fun (e : k = n) => h (e ▸ hk))]
  · show _ = [(_, fset f n v n)]
    rw [fset_same]
theorem dF_drop (f : Nat → V) (n : Nat) (ks : List Nat) : dropK (dF ks f) (Sum.inl (n : Int)) = dF (ks.filter fun k => !decide (k = n)) f := by
  unfold dropK dF
  rw [List.filter_map]
  congr 1
  refine List.filter_congr fun k _ => ?_
  show decide ((Sum.inl (k : Int) : L2.Key) ≠ Sum.inl (n : Int)) = (!decide (k = n))
  by_cases e : k = n
  · simp [e]
  · rw [decide_eq_true (show (Sum.inl (k : Int) : L2.Key) ≠ Sum.inl (n : Int) from fun z => e (key_inj.mp z)), decide_eq_false e]
    rfl
theorem dget {H : Hp} {a : Addr} {ks : List Nat} {f : Nat → V} {n : Nat} (h : H a = some (.dK (dF ks f))) (hn : n ∈ ks) : DGet H a (.int (n : Int)) (some (f n)) := by
  have := DGet.k (k := Sum.inl (n : Int)) h
  rw [dF_in hn] at this
  exact this
theorem dgetN {H : Hp} {a : Addr} {ks : List Nat} {f : Nat → V} {n : Nat} (h : H a = some (.dK (dF ks f))) (hn : n ∉ ks) : DGet H a (.int (n : Int)) none := by
  have := DGet.k (k := Sum.inl (n : Int)) h
  rw [dF_out hn] at this
  exact this
theorem dput {H : Hp} {a : Addr} {ks : List Nat} {f : Nat → V} {n : Nat} {v : V} (h : H a = some (.dK (dF ks f))) (hn : n ∈ ks) (hl : ks.length < 1000) : DPut H a (.int (n : Int)) v (upd H a (.dK (dF ks (fset f n v)))) := by
  have := DPut.k (k := Sum.inl (n : Int)) (v := v) h (by rw [dF_len]; exact small1000 (Nat.le_of_lt hl))
  rw [dF_put v hn] at this
  exact this
theorem dputN {H : Hp} {a : Addr} {ks : List Nat} {f : Nat → V} {n : Nat} {v : V} (h : H a = some (.dK (dF ks f))) (hn : n ∉ ks) (hl : ks.length < 1000) : DPut H a (.int (n : Int)) v (upd H a (.dK (dF (ks ++ [n]) (fset f n v)))) := by
  have := DPut.k (k := Sum.inl (n : Int)) (v := v) h (by rw [dF_len]; exact small1000 (Nat.le_of_lt hl))
  rw [dF_new v hn] at this
  exact this
theorem small_sz {n : Nat} (h : n ≤ 100000) : n ≤ sizeLine := Nat.le_trans h (by decide)
theorem szn (n : Nat) (h : n ≤ 100000 := by decide) : n ≤ sizeLine := small_sz h
theorem small_lt {n : Nat} (h : n < 100000) : n < sizeLine := Nat.lt_of_lt_of_le h (by decide)
/-! ### lists against [] -/
theorem eqv_nil (ds : List PyData) : PyData.eqv (.list ds) (.list []) = ds.isEmpty := by
  cases ds <;> simp [PyData.eqv, PyData.eqvAll]
theorem nvs_dp {K : PySem.W.Frag} {H : Hp} : ∀ ks : List Nat, DpAll K H (nvs ks) (ks.map fun k : Nat => PyData.int (k : Int))
  | [] => .nil
  | k :: ks => .cons (.int _) (nvs_dp ks)
theorem lay_nats : ∀ ks : List Nat, PyData.canLayAll0 (ks.map fun k : Nat => PyData.int (k : Int)) = true ∧ PyData.depthAll (ks.map fun k : Nat => PyData.int (k : Int)) = 0
  | [] => by simp [PyData.canLayAll0, PyData.depthAll]
  | k :: ks => by
    have := lay_nats ks
    simp [PyData.canLayAll0, PyData.depthAll, PyData.canLay0, PyData.depth, this]
theorem shaped_of {ds : List PyData} (h1 : PyData.canLayAll0 ds = true) (h2 : PyData.depthAll ds ≤ 63) : SeqAt.shaped (.list ds) = true := by
  unfold SeqAt.shaped
  rw [Bool.and_eq_true, decide_eq_true_eq]
  refine ⟨by simp [PyData.canLay0, h1], ?_⟩
  simp only [PyData.depth]
  omega
theorem shaped_nats (ks : List Nat) : SeqAt.shaped (.list (ks.map fun k : Nat => PyData.int (k : Int))) = true := shaped_of (lay_nats ks).1 (by rw [(lay_nats ks).2]; decide)
theorem shaped_nil : SeqAt.shaped (.list []) = true := shaped_of rfl (by decide)
theorem nats_dp {K : PySem.W.Frag} {H : Hp} {a : Addr} {ks : List Nat} (h : SqL K H a (nvs ks)) : Dp K H (.ref a) (.list (ks.map fun k : Nat => PyData.int (k : Int))) := .lst h (nvs_dp ks)
theorem nil_dp {K : PySem.W.Frag} {H : Hp} {a : Addr} (h : SqL K H a []) : Dp K H (.ref a) (.list []) := .lst h .nil
theorem nats_nil (ks : List Nat) : PyData.eqv (.list (ks.map fun k : Nat => PyData.int (k : Int))) (.list []) = ks.isEmpty := by
  rw [eqv_nil]
  cases ks <;> rfl
/-! ### rules that name the written part -/
section
variable {X : Cx} {K : PySem.W.Frag}
theorem ix_tupK (h : X.K = K := by rfl) : IxR X (rIxT K) := h ▸ ix_tup
theorem ix_listK (h : X.K = K := by rfl) : IxR X (rIxL K) := h ▸ ix_list
theorem op_inK (h : X.K = K := by rfl) : OpR X (compareOp .In) (rIn K false) := h ▸ op_in_seq
theorem op_notInK (h : X.K = K := by rfl) : OpR X (compareOp .NotIn) (rIn K true) := h ▸ op_notIn_seq
theorem pe_fldK {e : Expr} {ta : TE} {f : Str} {pos : Pos} (he : PE X e ta) (hb : attributeBase e f X.env (eval e X.env) = eval e X.env) (h : X.K = K := by rfl) : PE X (.Attribute e f pos) (tFld K ta f) := h ▸ pe_fld he hb
theorem mt_indexDK (hu : X.A.units + 65 < cLine) (h : X.K = K := by rfl) : MtR X "list.index" (rIndexD K) := h ▸ mt_indexD hu
theorem pe_bmK {T id : String} {name : Str} {o : Expr} {to : TE} {e : Expr} {es : List Expr} {t : TA} {apos cpos : Pos} {r : V → List V → Hp → VK → Prop} {te : TE} (hp : PE X (.Call (.Attribute o name apos) (e :: es) [] cpos) (tBM X.K T r to t)) (ht : te = tBM K T r to t) (h : X.K = K := by rfl) : PE X (.Call (.Attribute o name apos) (e :: es) [] cpos) te := by
  rw [ht, ← h]
  exact hp
end
/-! ### tests whose answer is known -/
theorem blT {c : Prop} [Decidable c] (h : c) : V.bl (decide c) = V.bl true := by rw [decide_eq_true h]
theorem blF {c : Prop} [Decidable c] (h : ¬ c) : V.bl (decide c) = V.bl false := by rw [decide_eq_false h]
theorem blNT {c : Prop} [Decidable c] (h : ¬ c) : V.bl (!decide c) = V.bl true := by rw [decide_eq_false h]; rfl
theorem blNF {c : Prop} [Decidable c] (h : c) : V.bl (!decide c) = V.bl false := by rw [decide_eq_true h]; rfl
theorem vint_ne {i j : Int} (h : i ≠ j) : V.int i ≠ V.int j := fun e => h (V.int.inj e)
/-! ### comprehensions that leave all that stood -/
section
variable {J : It} {n : Nat} {G : Hp → Prop} {Y0 : Nat → V → Prop} {g : TG} {tt : TT} {te : TE} {vs : List Nat} {σ : L2.St} {H1 : Hp} {D : Addr} {Qd : Hp → Prop}
theorem lc_rel (w : Walk J n G (fun i H x H' => H' = H ∧ Y0 i x)) (hD : H1 D = none) (R : Nat → List V → Hp → Prop) (hn : n ≤ 100000) (hG : ∀ H', Same H1 H' → G H')
    (mono : ∀ i acc H H', TS H H' → R i acc H → R i acc H') (h0 : R 0 [] H1)
    (hs : ∀ i x acc H', i < n → Y0 i x → Same H1 H' → R i acc H' → ∀ (Kx : VK) (Ky : Hp → Prop), (∀ y H4, Same H' H4 → R (i + 1) (acc ++ [y]) H4 → Kx y H4) → (∀ H3, Same H' H3 → R (i + 1) acc H3 → Ky H3) →
      g x (wipe σ vs) H' fun σ2 H2 => wipe σ2 vs = wipe σ vs ∧ tt σ2 H2 fun b H3 => if b = true then te σ2 H3 Kx else Ky H3)
    (hd : ∀ acc H', Same H1 H' → R n acc H' → acc.length ≤ n → H' D = some (.lst acc) → Qd H') :
    ∃ W : Nat → Nat → Hp → Prop, (∃ m, W 0 m (upd H1 D (.lst []))) ∧ ∀ i m H, W i m H →
      (J.stop i H ∧ Qd H) ∨ (J.go i H ∧ ∃ Nx : Hp → Prop, (∀ H', Nx H' → ∃ m', m' < m ∧ W (i + 1) m' H') ∧ ∀ x H', J.yld i H x H' → g x (wipe σ vs) H' fun σ2 H2 => wipe σ2 vs = wipe σ vs ∧ tt σ2 H2 fun b H3 =>
        if b = true then te σ2 H3 fun y H4 => ∃ acc, H4 D = some (.lst acc) ∧ acc.length < sizeLine ∧ Nx (upd H4 D (.lst (acc ++ [y]))) else Nx H3) := by
  refine lc_it w (fun i H' => Same H1 H' ∧ ∃ acc, acc.length ≤ i ∧ H' D = some (.lst acc) ∧ R i acc H') ⟨same_new hD, [], Nat.le_refl _, upd_same, mono 0 [] _ _ (ts_same (same_new hD)) h0⟩ (fun i H' _ p => hG H' p.1) ?_ ?_
  · rintro i x H H' hi ⟨e, acc, hl, hd, r⟩ ⟨rfl, y⟩
    refine hs i x acc H' hi y e r _ _ (fun y H4 e4 r4 => ⟨acc, e4 _ _ hd, small_lt (by omega), same_mut (e.trans e4) hD, acc ++ [y], by rw [List.length_append]; simp; omega, upd_same, mono _ _ _ _ (ts_upd fun xs z => ?_) r4⟩) fun H3 e3 r3 => ⟨e.trans e3, acc, by omega, e3 _ _ hd, r3⟩
    rw [e4 _ _ hd] at z
    cases z
  · rintro H' ⟨e, acc, hl, hd', r⟩
    exact hd acc H' e r hl hd'
end
end Tw
end

section
set_option Elab.async false
set_option maxRecDepth 100000
set_option maxHeartbeats 4000000
set_option autoImplicit false
/-! keys: is_number, is_text, is_within, is_key, checked; rank, ahead -/
namespace Tw
open PySem L2 Twg
abbrev s_is_number : Stmt := top 13
theorem sc_is_number : FnScope ["thing"] ["thing"] (defScope s_is_number) := ⟨rfl, rfl, rfl, by decide +kernel, rfl, by decide +kernel, by decide +kernel⟩
abbrev s_is_text : Stmt := top 14
theorem sc_is_text : FnScope ["thing", "sign"] ["thing"] (defScope s_is_text) := ⟨rfl, rfl, rfl, by decide +kernel, rfl, by decide +kernel, by decide +kernel⟩
abbrev s_is_within : Stmt := top 15
theorem sc_is_within : FnScope ["thing", "room", "part"] ["thing", "room"] (defScope s_is_within) := ⟨rfl, rfl, rfl, by decide +kernel, rfl, by decide +kernel, by decide +kernel⟩
abbrev s_is_key : Stmt := top 16
theorem sc_is_key : FnScope ["thing"] ["thing"] (defScope s_is_key) := ⟨rfl, rfl, rfl, by decide +kernel, rfl, by decide +kernel, by decide +kernel⟩
abbrev s_checked : Stmt := top 17
theorem sc_checked : FnScope ["thing"] ["thing"] (defScope s_checked) := ⟨rfl, rfl, rfl, by decide +kernel, rfl, by decide +kernel, by decide +kernel⟩
def Kd.isI : Kd → Bool
  | .at (.i _) => true
  | _ => false
def Kd.isS : Kd → Bool
  | .at (.s _) => true
  | _ => false
def Kd.isT : Kd → Bool
  | .tp _ => true
  | _ => false
section
variable {P : Program} {w : World} {K : PySem.W.Frag} {mg : Str → Option Value} {base : Heap}
theorem ty_of {H : Hp} {v : V} {k : Kd} (h : KdV H v k) : ∃ t : String, TyX K H v (.type t) ∧ PySem.W.kitOne K (.type t) (.type "int") = some k.isI ∧ PySem.W.kitOne K (.type t) (.type "bool") = some false ∧ PySem.W.kitOne K (.type t) (.type "str") = some k.isS ∧ PySem.W.kitOne K (.type t) (.type "tuple") = some k.isT := by
  cases k with
  | «at» a =>
    have h : v = a.v := h
    subst h
    cases a with
    | i n => exact ⟨"int", .base (.int n), kit_ty (r := true) (by decide +kernel), kit_ty (by decide +kernel), kit_ty (r := false) (by decide +kernel), kit_ty (r := false) (by decide +kernel)⟩
    | s x => exact ⟨"str", .base (.str x), kit_ty (r := false) (by decide +kernel), kit_ty (by decide +kernel), kit_ty (r := true) (by decide +kernel), kit_ty (r := false) (by decide +kernel)⟩
  | tp as =>
    obtain ⟨p, rfl, hp⟩ := h
    exact ⟨"tuple", .base (.tup hp), kit_ty (r := false) (by decide +kernel), kit_ty (by decide +kernel), kit_ty (r := false) (by decide +kernel), kit_ty (r := true) (by decide +kernel)⟩
/-- is_number: of what is a key or value -/
def spNum : Sp := fun vs H Q _ => ∃ (v : V) (k : Kd), vs = [v] ∧ KdV H v k ∧ k.Ok ∧ Q (.bl k.isI) H
theorem df_is_number (B : Bas mg) (R : RawG K mg "is_number" s_is_number ["thing"]) : DfG P w K mg base 1 "is_number" ["thing"] spNum := by
  obtain ⟨f, fd, hm, hk, hb, F⟩ := R
  refine ⟨f, fd, hm, hk, hb, F.ok sc_is_number (fun vs H Q E h => ?_) (fun cdv A outer s H vs Q E hr h => ?_)⟩
  · obtain ⟨v, k, rfl, _⟩ := h
    rfl
  · obtain ⟨v, k, rfl, hv, ok, q⟩ := h
    have nd := sc_is_number.nd
    obtain ⟨_, c_BOUND⟩ := B.c_BOUND
    refine ⟨_, (pss_one (ps_ret (pe_and (pe_callB call_isi (by rfl) B.b_isinstance (by decide +kernel) (pa_cons (pv 0) (pa_cons (pe_bltn (v := .ty "int") (by rfl) B.b_int (by decide +kernel) rfl) pa_nil))) (pe_and (pe_not (pe_callB call_isi (by rfl) B.b_isinstance (by decide +kernel) (pa_cons (pv 0) (pa_cons (pe_bltn (v := .ty "bool") (by rfl) B.b_bool (by decide +kernel) rfl) pa_nil)))) (pe_one (pe_chain op_lt op_lt (pe_un un_neg (pe_glob (v := .int (10 ^ 60)) rfl c_BOUND ⟨_, rfl⟩)) (pv 0) (pe_glob (v := .int (10 ^ 60)) rfl c_BOUND ⟨_, rfl⟩))))))), ?_⟩
    obtain ⟨t, ht, hi, hbo, hs, htu⟩ := ty_of (K := K) hv
    refine ⟨_, rfl, v, .ty "int", _, _, _, rfl, .ty _, ht, hi, _, rfl, ?_⟩
    cases k with
    | tp as => exact q
    | «at» a =>
      cases a with
      | s x => exact q
      | i n =>
        have hv : v = .int n := hv
        subst hv
        refine ⟨_, rfl, .int n, .ty "bool", _, _, _, rfl, .ty _, ht, hbo, _, rfl, _, rfl, ?_⟩
        have ok : -(10 ^ 60 : Int) < n ∧ n < 10 ^ 60 := ok
        refine ⟨_, rfl, _, rfl, _, _, rfl, rfl, _, rfl, ?_⟩
        rw [decide_eq_true ok.1]
        refine iteT ⟨_, _, rfl, rfl, ?_⟩
        show Q (.bl (decide (n < 10 ^ 60))) H
        rw [decide_eq_true ok.2]
        exact q
/-- is_text -/
def spTxt : Sp := fun vs H Q _ => ∃ (v : V) (k : Kd), vs = [v] ∧ KdV H v k ∧ k.Ok ∧ ∀ H', Same H H' → Q (.bl k.isS) H'
theorem one_lt {a c : Nat} : ([a] : List Nat) < [c] ↔ a < c := by
  rw [List.cons_lt_cons_iff]
  constructor
  · rintro (h | ⟨_, h⟩)
    · exact h
    · exact absurd h (List.lt_irrefl _)
  · exact Or.inl
theorem cps_blank : (Str.ofString " ").cps.toList = [32] := by decide +kernel
theorem cps_tilde : (Str.ofString "~").cps.toList = [126] := by decide +kernel
theorem all_rep (n : Nat) : (List.replicate n true).all id = true := by
  induction n with
  | zero => rfl
  | succ n ih =>
    rw [List.replicate_succ, List.all_cons, ih]
    rfl
theorem rep_snoc {α : Type} (n : Nat) (x : α) : List.replicate n x ++ [x] = List.replicate (n + 1) x := by
  rw [List.replicate_succ', ]
theorem df_is_text (B : Bas mg) (R : RawG K mg "is_text" s_is_text ["thing"]) : DfG P w K mg base 1 "is_text" ["thing"] spTxt := by
  obtain ⟨f, fd, hm, hk, hb, F⟩ := R
  refine ⟨f, fd, hm, hk, hb, F.ok sc_is_text (fun vs H Q E h => ?_) (fun cdv A outer s H vs Q E hr h => ?_)⟩
  · obtain ⟨v, k, rfl, _⟩ := h
    rfl
  · obtain ⟨v, k, rfl, hv, ok, q⟩ := h
    have nd := sc_is_text.nd
    obtain ⟨_, c_SIGNS⟩ := B.c_SIGNS
    refine ⟨_, (pss_cons (ps_if (PW.pt (pw_or (pt_not (pt_val (pe_callB call_isi (by rfl) B.b_isinstance (by decide +kernel) (pa_cons (pv 0) (pa_cons (pe_bltn (v := .ty "str") (by rfl) B.b_str (by decide +kernel) rfl) pa_nil))))) (pw_or1 (pt_cmpR op_gt (pe_callB call_len_str (by rfl) B.b_len PySem.boot_len (pa_cons (pv 0) pa_nil)) (pe_glob (v := .int 40) rfl c_SIGNS ⟨_, rfl⟩) (nomark _)))))
        (pss_one (ps_ret pe_bl))
        pss_nil)
      (pss_one (ps_ret (pe_callB (cr_all rfl) (by rfl) B.b_all (by decide +kernel) (pa_cons (pe_lc (own := [("sign", 1)]) (g := (gName 1)) (by rfl) nd (pi_str (pv 0)) (blkOk_by (N := ["thing", "sign"]) (sc := defScope s_is_text) (by decide +kernel)) (fun _ _ _ _ _ => (pg_name (i := 1) nd rfl (Or.inl rfl))) (fun _ _ _ _ _ => pts_nil) (fun _ _ _ _ _ => (pe_chain op_le_str op_le_str pe_str (pv 1) pe_str))) pa_nil))))), ?_⟩
    obtain ⟨t, ht, hi, hbo, hs, htu⟩ := ty_of (K := K) hv
    refine ⟨_, rfl, v, .ty "str", _, _, _, rfl, .ty _, ht, hs, _, rfl, ?_⟩
    cases k with
    | tp as => exact q _ (Same.refl _)
    | «at» a =>
      cases a with
      | i n => exact q _ (Same.refl _)
      | s x =>
        have hv : v = .str x := hv
        subst hv
        have ok : x.length ≤ 40 ∧ ∀ c ∈ x.cps.toList, 32 ≤ c ∧ c ≤ 126 := ok
        refine iteF ⟨_, rfl, _, rfl, small_sz (by omega), _, _, rfl, rfl, false, blF (by omega), iteF ⟨_, rfl, _, rfl, fun D hD => ?_⟩⟩
        refine lc_rel walk_str hD (fun i acc _ => acc = List.replicate i (V.bl true)) ?_ (fun _ _ => True.intro) (fun _ _ _ _ _ h => h) rfl ?_ ?_
        · have : x.cps.size = x.length := rfl
          omega
        · rintro i y acc H' hi ⟨c, hc, rfl⟩ e rfl Kx Ky kx ky
          have hc' : c ∈ x.cps.toList := by
            rw [← Array.getElem?_toList] at hc
            exact List.mem_of_getElem? hc
          obtain ⟨o1, o2⟩ := ok.2 c hc'
          refine ⟨rfl, _, rfl, _, _, rfl, rfl, true, ?_, _, _, rfl, rfl, ?_⟩
          · rw [cps_blank]
            exact blNT (fun z => by have := one_lt.mp z; omega)
          · have e2 : V.bl (!decide ((Str.ofString "~").cps.toList < ({ cps := #[c] } : Str).cps.toList)) = V.bl true := by
              rw [cps_tilde]
              exact blNT (fun z => by have := one_lt.mp z; omega)
            rw [e2]
            exact kx _ _ (Same.refl _) (rep_snoc i _)
        · rintro acc H' e rfl hl hd
          refine ⟨_, List.replicate x.cps.size true, rfl, SqL.of (by rw [hd, List.map_replicate]), ?_⟩
          rw [all_rep]
          exact q _ e
/-- is_within, of a number or a text -/
def spWithA : Sp := fun vs H Q _ => ∃ (a : At) (r : Int), vs = [a.v, .int r] ∧ a.Ok ∧ ∀ H', Same H H' → Q (.bl true) H'
theorem df_is_withinA (B : Bas mg) (D1 : DfG P w K mg base 1 "is_number" ["thing"] spNum) (D2 : DfG P w K mg base 1 "is_text" ["thing"] spTxt) (R : RawG K mg "is_within" s_is_within ["thing", "room"]) : DfG P w K mg base 2 "is_within" ["thing", "room"] spWithA := by
  obtain ⟨f, fd, hm, hk, hb, F⟩ := R
  obtain ⟨_, _, m_is_number, k_is_number, b_is_number, F_is_number⟩ := D1
  obtain ⟨_, _, m_is_text, k_is_text, b_is_text, F_is_text⟩ := D2
  refine ⟨f, fd, hm, hk, hb, F.ok sc_is_within (fun vs H Q E h => ?_) (fun cdv A outer s H vs Q E hr h => ?_)⟩
  · obtain ⟨a, r, rfl, _⟩ := h
    rfl
  · obtain ⟨a, r, rfl, ok, q⟩ := h
    have nd := sc_is_within.nd
    refine ⟨_, pss_cons (ps_if (PW.pt (pw_or (pt_val (pe_call (F_is_number.mono (by decide)) hr rfl m_is_number k_is_number b_is_number .nil pass0 (pa_cons (pv 0) pa_nil))) (pw_or1 (pt_val (pe_call (F_is_text.mono (by decide)) hr rfl m_is_text k_is_text b_is_text .nil pass0 (pa_cons (pv 0) pa_nil))))))
        (pss_one (ps_ret pe_bl)) pss_nil) pss_never, ?_⟩
    refine ⟨_, rfl, a.v, .at a, rfl, rfl, ok, _, rfl, ?_⟩
    cases a with
    | i n => exact q _ (Same.refl _)
    | s x => exact iteF ⟨_, rfl, _, .at (.s x), rfl, rfl, ok, fun H' e => ⟨_, rfl, q _ e⟩⟩
/-- is_within, of a key or value, with room -/
def spWith : Sp := fun vs H Q _ => ∃ (v : V) (k : Kd), vs = [v, .int 3] ∧ KdV H v k ∧ k.Ok ∧ ∀ H', Same H H' → Q (.bl true) H'
theorem df_is_within (B : Bas mg) (D1 : DfG P w K mg base 1 "is_number" ["thing"] spNum) (D2 : DfG P w K mg base 1 "is_text" ["thing"] spTxt) (D3 : DfG P w K mg base 2 "is_within" ["thing", "room"] spWithA) (R : RawG K mg "is_within" s_is_within ["thing", "room"]) :
    DfG P w K mg base 3 "is_within" ["thing", "room"] spWith := by
  obtain ⟨f, fd, hm, hk, hb, F⟩ := R
  obtain ⟨_, _, m_is_number, k_is_number, b_is_number, F_is_number⟩ := D1
  obtain ⟨_, _, m_is_text, k_is_text, b_is_text, F_is_text⟩ := D2
  obtain ⟨_, _, m_is_within, k_is_within, b_is_within, F_is_within⟩ := D3
  refine ⟨f, fd, hm, hk, hb, F.ok sc_is_within (fun vs H Q E h => ?_) (fun cdv A outer s H vs Q E hr h => ?_)⟩
  · obtain ⟨v, k, rfl, _⟩ := h
    rfl
  · obtain ⟨v, k, rfl, hv, ok, q⟩ := h
    have nd := sc_is_within.nd
    obtain ⟨_, c_WIDE⟩ := B.c_WIDE
    refine ⟨_, (pss_cons (ps_if (PW.pt (pw_or (pt_val (pe_call (F_is_number.mono (by decide)) hr rfl m_is_number k_is_number b_is_number .nil pass0 (pa_cons (pv 0) pa_nil))) (pw_or1 (pt_val (pe_call (F_is_text.mono (by decide)) hr rfl m_is_text k_is_text b_is_text .nil pass0 (pa_cons (pv 0) pa_nil))))))
        (pss_one (ps_ret pe_bl))
        pss_nil)
      (pss_cons (ps_if (PW.pt (pw_or (pt_not (pt_val (pe_callB call_isi (by rfl) B.b_isinstance (by decide +kernel) (pa_cons (pv 0) (pa_cons (pe_bltn (v := .ty "tuple") (by rfl) B.b_tuple (by decide +kernel) rfl) pa_nil))))) (pw_or (pt_cmpR op_eq (pv 1) pe_int (nomark _)) (pw_or1 (pt_cmpR op_gt (pe_callB call_len_seq (by rfl) B.b_len PySem.boot_len (pa_cons (pv 0) pa_nil)) (pe_glob (v := .int 4) rfl c_WIDE ⟨_, rfl⟩) (nomark _))))))
        (pss_one (ps_ret pe_bl))
        pss_nil)
      (pss_one (ps_ret (pe_callB (cr_all rfl) (by rfl) B.b_all (by decide +kernel) (pa_cons (pe_lc (own := [("part", 2)]) (g := (gName 2)) (by rfl) nd (pi_tup (pv 0)) (blkOk_by (N := ["thing", "room", "part"]) (sc := defScope s_is_within) (by decide +kernel)) (fun _ _ _ _ _ => (pg_name (i := 2) nd rfl (Or.inl rfl))) (fun _ _ _ _ _ => pts_nil) (fun _ _ _ _ _ => (pe_call (F_is_within.mono (by decide)) hr rfl m_is_within k_is_within b_is_within .nil pass0 (pa_cons (pv 2) (pa_cons (pe_op op_sub (pv 1) pe_int) pa_nil))))) pa_nil)))))), ?_⟩
    refine ⟨_, rfl, v, k, rfl, hv, ok, _, rfl, ?_⟩
    cases k with
    | «at» a =>
      cases a with
      | i n => exact q _ (Same.refl _)
      | s x => exact iteF ⟨_, rfl, _, .at (.s x), rfl, hv, ok, fun H' e => ⟨_, rfl, q _ e⟩⟩
    | tp as =>
      refine iteF ⟨_, rfl, _, .tp as, rfl, hv, ok, fun H1 e1 => ⟨_, rfl, iteF ?_⟩⟩
      obtain ⟨t, ht, hi, hbo, hs, htu⟩ := ty_of (K := K) (KdV.ts (ts_same e1) hv)
      obtain ⟨p, rfl, hp0⟩ := id hv
      have hp := e1 _ _ hp0
      have ok : as.length ≤ 4 ∧ ∀ a ∈ as, a.Ok := ok
      refine ⟨_, rfl, .ref p, .ty "tuple", _, _, _, rfl, .ty _, ht, htu, _, rfl, ?_⟩
      refine iteF ⟨_, rfl, rfl, false, blF (vint_ne (by decide)), iteF ⟨_, rfl, p, _, rfl, .inr (SqT.of hp), _, _, rfl, rfl, false, blF (by rw [List.length_map]; omega), ?_⟩⟩
      refine ⟨_, rfl, p, rfl, ⟨_, SqT.of hp⟩, fun D hD => ?_⟩
      refine lc_rel (walk_tup (xs := as.map At.v)) hD (fun i acc _ => acc = List.replicate i (V.bl true)) ?_ (fun H' e => SqT.of (e _ _ hp)) (fun _ _ _ _ _ h => h) rfl ?_ ?_
      · rw [List.length_map]
        omega
      · rintro i y acc H' hi hy e rfl Kx Ky kx ky
        obtain ⟨a, ha, rfl⟩ := get_map hy
        exact ⟨rfl, _, rfl, _, rfl, _, _, rfl, rfl, a, _, rfl, ok.2 a (List.mem_of_getElem? ha), fun H2 e2 => kx _ _ e2 (rep_snoc i _)⟩
      · rintro acc H' e rfl hl hd
        refine ⟨_, List.replicate (as.map At.v).length true, rfl, SqL.of (by rw [hd, List.map_replicate]), ?_⟩
        rw [all_rep]
        exact q _ (e1.trans e)
/-- is_key, checked -/
def spKey : Sp := fun vs H Q _ => ∃ (v : V) (k : Kd), vs = [v] ∧ KdV H v k ∧ k.Ok ∧ ∀ H', Same H H' → Q (.bl true) H'
theorem df_is_key (B : Bas mg) (D : DfG P w K mg base 3 "is_within" ["thing", "room"] spWith) (R : RawG K mg "is_key" s_is_key ["thing"]) : DfG P w K mg base 4 "is_key" ["thing"] spKey := by
  obtain ⟨f, fd, hm, hk, hb, F⟩ := R
  obtain ⟨_, _, m_is_within, k_is_within, b_is_within, F_is_within⟩ := D
  refine ⟨f, fd, hm, hk, hb, F.ok sc_is_key (fun vs H Q E h => ?_) (fun cdv A outer s H vs Q E hr h => ?_)⟩
  · obtain ⟨v, k, rfl, _⟩ := h
    rfl
  · obtain ⟨v, k, rfl, hv, ok, q⟩ := h
    obtain ⟨_, c_DEEP⟩ := B.c_DEEP
    refine ⟨_, (pss_one (ps_ret (pe_call (F_is_within.mono (by decide)) hr rfl m_is_within k_is_within b_is_within .nil pass0 (pa_cons (pv 0) (pa_cons (pe_glob (v := .int 3) rfl c_DEEP ⟨_, rfl⟩) pa_nil))))), ?_⟩
    exact ⟨_, rfl, v, k, rfl, hv, ok, q⟩
def spChecked : Sp := fun vs H Q _ => ∃ (v : V) (k : Kd), vs = [v] ∧ KdV H v k ∧ k.Ok ∧ ∀ H', Same H H' → Q v H'
theorem df_checked (D : DfG P w K mg base 4 "is_key" ["thing"] spKey) (R : RawG K mg "checked" s_checked ["thing"]) : DfG P w K mg base 5 "checked" ["thing"] spChecked := by
  obtain ⟨f, fd, hm, hk, hb, F⟩ := R
  obtain ⟨_, _, m_is_key, k_is_key, b_is_key, F_is_key⟩ := D
  refine ⟨f, fd, hm, hk, hb, F.ok sc_checked (fun vs H Q E h => ?_) (fun cdv A outer s H vs Q E hr h => ?_)⟩
  · obtain ⟨v, k, rfl, _⟩ := h
    rfl
  · obtain ⟨v, k, rfl, hv, ok, q⟩ := h
    refine ⟨_, (pss_cons (ps_if (pt_not (pt_val (pe_call (F_is_key.mono (by decide)) hr rfl m_is_key k_is_key b_is_key .nil pass0 (pa_cons (pv 0) pa_nil))))
        (pss_one ps_never)
        pss_nil)
      (pss_one (ps_ret (pv 0)))), ?_⟩
    exact ⟨_, rfl, v, k, rfl, hv, ok, fun H' e => ⟨_, rfl, iteF ⟨_, rfl, q H' e⟩⟩⟩
end
end Tw
end

section
set_option Elab.async false
set_option maxRecDepth 100000
set_option maxHeartbeats 4000000
set_option autoImplicit false
/-! rank, ahead, and the law's twins -/
namespace Tw
open PySem L2 Twg
def klt (a b : Kd) : Bool := PySem.W.dataLt a.rk b.rk
theorem at_alike (a b : At) : PySem.W.alike a.rk b.rk = true := by
  cases a <;> cases b <;> simp [At.rk, PySem.W.alike, PySem.W.alikeAll]
theorem ats_alike : ∀ as bs : List At, PySem.W.alikeAll (as.map At.rk) (bs.map At.rk) = true
  | [], _ => by simp [PySem.W.alikeAll]
  | _ :: _, [] => by simp [PySem.W.alikeAll]
  | a :: as, b :: bs => by simp [PySem.W.alikeAll, at_alike a b, ats_alike as bs]
theorem kd_alike (a b : Kd) : PySem.W.alike a.rk b.rk = true := by
  cases a with
  | «at» a =>
    cases b with
    | «at» b => exact at_alike a b
    | tp bs => cases a <;> simp [Kd.rk, At.rk, PySem.W.alike, PySem.W.alikeAll]
  | tp as =>
    cases b with
    | «at» b =>
      have h := ats_alike as []
      cases b <;> simpa [Kd.rk, At.rk, PySem.W.alike, PySem.W.alikeAll] using h
    | tp bs => simp [Kd.rk, PySem.W.alike, PySem.W.alikeAll, ats_alike as bs]
theorem at_depth (a : At) : a.rk.depth ≤ 2 := by
  cases a <;> simp [At.rk, PyData.depth, PyData.depthAll]
theorem ats_depth : ∀ as : List At, PyData.depthAll (as.map At.rk) ≤ 2
  | [] => by simp [PyData.depthAll]
  | a :: as => by
    have h1 := at_depth a
    have h2 := ats_depth as
    simp only [List.map_cons, PyData.depthAll]
    omega
theorem kd_depth (a : Kd) : a.rk.depth ≤ 64 := by
  cases a with
  | «at» a =>
    have := at_depth a
    show a.rk.depth ≤ 64
    omega
  | tp as =>
    have := ats_depth as
    simp only [Kd.rk, PyData.depth, PyData.depthAll]
    omega
theorem kd_none (a : Kd) : a.rk ≠ .none := by
  cases a with
  | «at» a => cases a <;> exact fun h => PyData.noConfusion h
  | tp as => exact fun h => PyData.noConfusion h
theorem dt4 {H : Hp} {p r : Addr} {a b : V} {x : Str} {da db : PyData} {ds : List PyData} {vs : List V} (hr : H r = some (.tup [a, b, .str x, .ref p])) (ha : Dt H a da) (hb : Dt H b db) (hp : H p = some (.tup vs)) (hv : DtAll H vs ds) : Dt H (.ref r) (.tuple [da, db, .str x, .tuple ds]) :=
  .tup hr (.cons ha (.cons hb (.cons (.str x) (.cons (.tup hp hv) .nil))))
abbrev s_rank : Stmt := top 18
theorem sc_rank : FnScope ["key", "part"] ["key"] (defScope s_rank) := ⟨rfl, rfl, rfl, by decide +kernel, rfl, by decide +kernel, by decide +kernel⟩
abbrev s_ahead : Stmt := top 19
theorem sc_ahead : FnScope ["one", "other"] ["one", "other"] (defScope s_ahead) := ⟨rfl, rfl, rfl, by decide +kernel, rfl, by decide +kernel, by decide +kernel⟩
abbrev s_lrank : Stmt := top 32
theorem sc_lrank : FnScope ["_law_key", "_law_part"] ["_law_key"] (defScope s_lrank) := ⟨rfl, rfl, rfl, by decide +kernel, rfl, by decide +kernel, by decide +kernel⟩
abbrev s_lless : Stmt := top 33
theorem sc_lless : FnScope ["_law_one", "_law_other"] ["_law_one", "_law_other"] (defScope s_lless) := ⟨rfl, rfl, rfl, by decide +kernel, rfl, by decide +kernel, by decide +kernel⟩
/-- rank of a number or a text -/
def spRankA : Sp := fun vs H Q _ => ∃ a : At, vs = [a.v] ∧ ∀ r H', Same H H' → Dt H' r a.rk → Q r H'
/-- rank of a key -/
def spRank : Sp := fun vs H Q _ => ∃ (v : V) (k : Kd), vs = [v] ∧ KdV H v k ∧ k.Ok ∧ ∀ r H', Same H H' → Dt H' r k.rk → Q r H'
/-- which of two keys stands ahead -/
def spAhead : Sp := fun vs H Q _ => ∃ (v u : V) (k j : Kd), vs = [v, u] ∧ KdV H v k ∧ KdV H u j ∧ k.Ok ∧ j.Ok ∧ ∀ H', Same H H' → Q (.bl (klt k j)) H'
section
variable {P : Program} {w : World} {K : PySem.W.Frag} {mg : Str → Option Value} {base : Heap}
theorem df_rankA (B : Bas mg) (R : RawG K mg "rank" s_rank ["key"]) : DfG P w K mg base 1 "rank" ["key"] spRankA := by
  obtain ⟨f, fd, hm, hk, hb, F⟩ := R
  refine ⟨f, fd, hm, hk, hb, F.ok sc_rank (fun vs H Q E h => ?_) (fun cdv A outer s H vs Q E hr h => ?_)⟩
  · obtain ⟨a, rfl, _⟩ := h
    rfl
  · obtain ⟨a, rfl, q⟩ := h
    have nd := sc_rank.nd
    refine ⟨_, pss_cons (ps_if (pt_val (pe_callB call_isi (by rfl) B.b_isinstance (by decide +kernel) (pa_cons (pv 0) (pa_cons (pe_bltn (v := .ty "int") (by rfl) B.b_int (by decide +kernel) rfl) pa_nil))))
        (pss_one (ps_ret (pe_tup (pa_cons pe_int (pa_cons (pv 0) (pa_cons pe_str (pa_cons (pe_tup pa_nil) pa_nil)))))))
        pss_nil)
      (pss_cons (ps_if (pt_val (pe_callB call_isi (by rfl) B.b_isinstance (by decide +kernel) (pa_cons (pv 0) (pa_cons (pe_bltn (v := .ty "str") (by rfl) B.b_str (by decide +kernel) rfl) pa_nil))))
        (pss_one (ps_ret (pe_tup (pa_cons pe_int (pa_cons pe_int (pa_cons (pv 0) (pa_cons (pe_tup pa_nil) pa_nil)))))))
        pss_nil) pss_never), ?_⟩
    obtain ⟨t, ht, hi, hbo, hs, htu⟩ := ty_of (K := K) (H := H) (v := a.v) (k := .at a) rfl
    refine ⟨_, rfl, a.v, .ty "int", _, _, _, rfl, .ty _, ht, hi, _, rfl, ?_⟩
    cases a with
    | i n =>
      refine ⟨_, rfl, szn 0, fun p hp => ⟨szn 4, fun r hr' => ?_⟩⟩
      have npr : p ≠ r := ne_of_none upd_same hr'
      exact q _ _ ((same_new hp).trans (same_new hr')) (dt4 upd_same (.int 0) (.int n) (by rw [upd_ne npr]; exact upd_same) .nil)
    | s x =>
      refine iteF ⟨_, rfl, .str x, .ty "str", _, _, _, rfl, .ty _, ht, hs, _, rfl, ?_⟩
      refine ⟨_, rfl, szn 0, fun p hp => ⟨szn 4, fun r hr' => ?_⟩⟩
      have npr : p ≠ r := ne_of_none upd_same hr'
      exact q _ _ ((same_new hp).trans (same_new hr')) (dt4 upd_same (.int 1) (.int 0) (by rw [upd_ne npr]; exact upd_same) .nil)
theorem df_rank (B : Bas mg) (D : DfG P w K mg base 1 "rank" ["key"] spRankA) (R : RawG K mg "rank" s_rank ["key"]) : DfG P w K mg base 2 "rank" ["key"] spRank := by
  obtain ⟨f, fd, hm, hk, hb, F⟩ := R
  obtain ⟨_, _, m_rank, k_rank, b_rank, F_rank⟩ := D
  refine ⟨f, fd, hm, hk, hb, F.ok sc_rank (fun vs H Q E h => ?_) (fun cdv A outer s H vs Q E hr h => ?_)⟩
  · obtain ⟨v, k, rfl, _⟩ := h
    rfl
  · obtain ⟨v, k, rfl, hv, ok, q⟩ := h
    have nd := sc_rank.nd
    refine ⟨_, (pss_cons (ps_if (pt_val (pe_callB call_isi (by rfl) B.b_isinstance (by decide +kernel) (pa_cons (pv 0) (pa_cons (pe_bltn (v := .ty "int") (by rfl) B.b_int (by decide +kernel) rfl) pa_nil))))
        (pss_one (ps_ret (pe_tup (pa_cons pe_int (pa_cons (pv 0) (pa_cons pe_str (pa_cons (pe_tup pa_nil) pa_nil)))))))
        pss_nil)
      (pss_cons (ps_if (pt_val (pe_callB call_isi (by rfl) B.b_isinstance (by decide +kernel) (pa_cons (pv 0) (pa_cons (pe_bltn (v := .ty "str") (by rfl) B.b_str (by decide +kernel) rfl) pa_nil))))
        (pss_one (ps_ret (pe_tup (pa_cons pe_int (pa_cons pe_int (pa_cons (pv 0) (pa_cons (pe_tup pa_nil) pa_nil)))))))
        pss_nil)
      (pss_one (ps_ret (pe_tup (pa_cons pe_int (pa_cons pe_int (pa_cons pe_str (pa_cons (pe_callTy call_tuple_of (by rfl) B.b_tuple (by decide +kernel) (pa_cons (pe_lc (own := [("part", 1)]) (g := (gName 1)) (by rfl) nd (pi_tup (pv 0)) (blkOk_by (N := ["key", "part"]) (sc := defScope s_rank) (by decide +kernel)) (fun _ _ _ _ _ => (pg_name (i := 1) nd rfl (Or.inl rfl))) (fun _ _ _ _ _ => pts_nil) (fun _ _ _ _ _ => (pe_call (F_rank.mono (by decide)) hr rfl m_rank k_rank b_rank .nil pass0 (pa_cons (pv 1) pa_nil)))) pa_nil)) pa_nil))))))))), ?_⟩
    obtain ⟨t, ht, hi, hbo, hs, htu⟩ := ty_of (K := K) hv
    refine ⟨_, rfl, v, .ty "int", _, _, _, rfl, .ty _, ht, hi, _, rfl, ?_⟩
    cases k with
    | «at» a =>
      have hv : v = a.v := hv
      subst hv
      cases a with
      | i n =>
        refine ⟨_, rfl, szn 0, fun p hp => ⟨szn 4, fun r hr' => ?_⟩⟩
        have npr : p ≠ r := ne_of_none upd_same hr'
        exact q _ _ ((same_new hp).trans (same_new hr')) (dt4 upd_same (.int 0) (.int n) (by rw [upd_ne npr]; exact upd_same) .nil)
      | s x =>
        refine iteF ⟨_, rfl, .str x, .ty "str", _, _, _, rfl, .ty _, ht, hs, _, rfl, ?_⟩
        refine ⟨_, rfl, szn 0, fun p hp => ⟨szn 4, fun r hr' => ?_⟩⟩
        have npr : p ≠ r := ne_of_none upd_same hr'
        exact q _ _ ((same_new hp).trans (same_new hr')) (dt4 upd_same (.int 1) (.int 0) (by rw [upd_ne npr]; exact upd_same) .nil)
    | tp as =>
      obtain ⟨p, rfl, hp⟩ := hv
      refine iteF ⟨_, rfl, .ref p, .ty "str", _, _, _, rfl, .ty _, ht, hs, _, rfl, iteF ?_⟩
      refine ⟨_, rfl, p, rfl, ⟨_, SqT.of hp⟩, fun D hD => ?_⟩
      refine lc_rel (walk_tup (xs := as.map At.v)) hD (fun i acc H' => DtAll H' acc ((as.take i).map At.rk)) ?_ (fun H' e => SqT.of (e _ _ hp)) (fun _ _ _ _ e h => DtAll.ts e _ _ h) .nil ?_ ?_
      · have ok : as.length ≤ 4 ∧ ∀ a ∈ as, a.Ok := ok
        rw [List.length_map]
        omega
      · rintro i y acc H' hi hy e r Kx Ky kx ky
        obtain ⟨a, ha, rfl⟩ := get_map hy
        refine ⟨rfl, _, rfl, a, rfl, fun r1 H1 e1 d1 => kx _ _ e1 ?_⟩
        rw [List.take_add_one, ha, List.map_append]
        exact dtAll_app (DtAll.ts (ts_same e1) _ _ r) (.cons d1 .nil)
      · rintro acc H' e r hl hd
        rw [List.take_of_length_le (by rw [List.length_map]; exact Nat.le_refl _)] at r
        refine ⟨D, acc, rfl, .inl ⟨SqL.of hd, fun l hl => ⟨szn 4, fun r1 hr1 => ?_⟩⟩⟩
        have npr : l ≠ r1 := ne_of_none upd_same hr1
        have e2 : Same H' (upd H' l (.tup acc)) := same_new hl
        have e3 := e2.trans (same_new (o := .tup [.int 2, .int 0, .str "", .ref l]) hr1)
        exact q _ _ (e.trans e3) (dt4 upd_same (.int 2) (.int 0) (by rw [upd_ne npr]; exact upd_same) (DtAll.ts (ts_same e3) _ _ r))
theorem df_lrankA (B : Bas mg) (R : RawG K mg "_law_rank" s_lrank ["_law_key"]) : DfG P w K mg base 1 "_law_rank" ["_law_key"] spRankA := by
  obtain ⟨f, fd, hm, hk, hb, F⟩ := R
  refine ⟨f, fd, hm, hk, hb, F.ok sc_lrank (fun vs H Q E h => ?_) (fun cdv A outer s H vs Q E hr h => ?_)⟩
  · obtain ⟨a, rfl, _⟩ := h
    rfl
  · obtain ⟨a, rfl, q⟩ := h
    have nd := sc_lrank.nd
    refine ⟨_, pss_cons (ps_if (pt_val (pe_callB call_isi (by rfl) B.b_isinstance (by decide +kernel) (pa_cons (pv 0) (pa_cons (pe_bltn (v := .ty "int") (by rfl) B.b_int (by decide +kernel) rfl) pa_nil))))
        (pss_one (ps_ret (pe_tup (pa_cons pe_int (pa_cons (pv 0) (pa_cons pe_str (pa_cons (pe_tup pa_nil) pa_nil)))))))
        pss_nil)
      (pss_cons (ps_if (pt_val (pe_callB call_isi (by rfl) B.b_isinstance (by decide +kernel) (pa_cons (pv 0) (pa_cons (pe_bltn (v := .ty "str") (by rfl) B.b_str (by decide +kernel) rfl) pa_nil))))
        (pss_one (ps_ret (pe_tup (pa_cons pe_int (pa_cons pe_int (pa_cons (pv 0) (pa_cons (pe_tup pa_nil) pa_nil)))))))
        pss_nil) pss_never), ?_⟩
    obtain ⟨t, ht, hi, hbo, hs, htu⟩ := ty_of (K := K) (H := H) (v := a.v) (k := .at a) rfl
    refine ⟨_, rfl, a.v, .ty "int", _, _, _, rfl, .ty _, ht, hi, _, rfl, ?_⟩
    cases a with
    | i n =>
      refine ⟨_, rfl, szn 0, fun p hp => ⟨szn 4, fun r hr' => ?_⟩⟩
      have npr : p ≠ r := ne_of_none upd_same hr'
      exact q _ _ ((same_new hp).trans (same_new hr')) (dt4 upd_same (.int 0) (.int n) (by rw [upd_ne npr]; exact upd_same) .nil)
    | s x =>
      refine iteF ⟨_, rfl, .str x, .ty "str", _, _, _, rfl, .ty _, ht, hs, _, rfl, ?_⟩
      refine ⟨_, rfl, szn 0, fun p hp => ⟨szn 4, fun r hr' => ?_⟩⟩
      have npr : p ≠ r := ne_of_none upd_same hr'
      exact q _ _ ((same_new hp).trans (same_new hr')) (dt4 upd_same (.int 1) (.int 0) (by rw [upd_ne npr]; exact upd_same) .nil)
theorem df_lrank (B : Bas mg) (D : DfG P w K mg base 1 "_law_rank" ["_law_key"] spRankA) (R : RawG K mg "_law_rank" s_lrank ["_law_key"]) : DfG P w K mg base 2 "_law_rank" ["_law_key"] spRank := by
  obtain ⟨f, fd, hm, hk, hb, F⟩ := R
  obtain ⟨_, _, m_lrank, k_lrank, b_lrank, F_lrank⟩ := D
  refine ⟨f, fd, hm, hk, hb, F.ok sc_lrank (fun vs H Q E h => ?_) (fun cdv A outer s H vs Q E hr h => ?_)⟩
  · obtain ⟨v, k, rfl, _⟩ := h
    rfl
  · obtain ⟨v, k, rfl, hv, ok, q⟩ := h
    have nd := sc_lrank.nd
    refine ⟨_, (pss_cons (ps_if (pt_val (pe_callB call_isi (by rfl) B.b_isinstance (by decide +kernel) (pa_cons (pv 0) (pa_cons (pe_bltn (v := .ty "int") (by rfl) B.b_int (by decide +kernel) rfl) pa_nil))))
        (pss_one (ps_ret (pe_tup (pa_cons pe_int (pa_cons (pv 0) (pa_cons pe_str (pa_cons (pe_tup pa_nil) pa_nil)))))))
        pss_nil)
      (pss_cons (ps_if (pt_val (pe_callB call_isi (by rfl) B.b_isinstance (by decide +kernel) (pa_cons (pv 0) (pa_cons (pe_bltn (v := .ty "str") (by rfl) B.b_str (by decide +kernel) rfl) pa_nil))))
        (pss_one (ps_ret (pe_tup (pa_cons pe_int (pa_cons pe_int (pa_cons (pv 0) (pa_cons (pe_tup pa_nil) pa_nil)))))))
        pss_nil)
      (pss_one (ps_ret (pe_tup (pa_cons pe_int (pa_cons pe_int (pa_cons pe_str (pa_cons (pe_callTy call_tuple_of (by rfl) B.b_tuple (by decide +kernel) (pa_cons (pe_lc (own := [("_law_part", 1)]) (g := (gName 1)) (by rfl) nd (pi_tup (pv 0)) (blkOk_by (N := ["_law_key", "_law_part"]) (sc := defScope s_lrank) (by decide +kernel)) (fun _ _ _ _ _ => (pg_name (i := 1) nd rfl (Or.inl rfl))) (fun _ _ _ _ _ => pts_nil) (fun _ _ _ _ _ => (pe_call (F_lrank.mono (by decide)) hr rfl m_lrank k_lrank b_lrank .nil pass0 (pa_cons (pv 1) pa_nil)))) pa_nil)) pa_nil))))))))), ?_⟩
    obtain ⟨t, ht, hi, hbo, hs, htu⟩ := ty_of (K := K) hv
    refine ⟨_, rfl, v, .ty "int", _, _, _, rfl, .ty _, ht, hi, _, rfl, ?_⟩
    cases k with
    | «at» a =>
      have hv : v = a.v := hv
      subst hv
      cases a with
      | i n =>
        refine ⟨_, rfl, szn 0, fun p hp => ⟨szn 4, fun r hr' => ?_⟩⟩
        have npr : p ≠ r := ne_of_none upd_same hr'
        exact q _ _ ((same_new hp).trans (same_new hr')) (dt4 upd_same (.int 0) (.int n) (by rw [upd_ne npr]; exact upd_same) .nil)
      | s x =>
        refine iteF ⟨_, rfl, .str x, .ty "str", _, _, _, rfl, .ty _, ht, hs, _, rfl, ?_⟩
        refine ⟨_, rfl, szn 0, fun p hp => ⟨szn 4, fun r hr' => ?_⟩⟩
        have npr : p ≠ r := ne_of_none upd_same hr'
        exact q _ _ ((same_new hp).trans (same_new hr')) (dt4 upd_same (.int 1) (.int 0) (by rw [upd_ne npr]; exact upd_same) .nil)
    | tp as =>
      obtain ⟨p, rfl, hp⟩ := hv
      refine iteF ⟨_, rfl, .ref p, .ty "str", _, _, _, rfl, .ty _, ht, hs, _, rfl, iteF ?_⟩
      refine ⟨_, rfl, p, rfl, ⟨_, SqT.of hp⟩, fun D hD => ?_⟩
      refine lc_rel (walk_tup (xs := as.map At.v)) hD (fun i acc H' => DtAll H' acc ((as.take i).map At.rk)) ?_ (fun H' e => SqT.of (e _ _ hp)) (fun _ _ _ _ e h => DtAll.ts e _ _ h) .nil ?_ ?_
      · have ok : as.length ≤ 4 ∧ ∀ a ∈ as, a.Ok := ok
        rw [List.length_map]
        omega
      · rintro i y acc H' hi hy e r Kx Ky kx ky
        obtain ⟨a, ha, rfl⟩ := get_map hy
        refine ⟨rfl, _, rfl, a, rfl, fun r1 H1 e1 d1 => kx _ _ e1 ?_⟩
        rw [List.take_add_one, ha, List.map_append]
        exact dtAll_app (DtAll.ts (ts_same e1) _ _ r) (.cons d1 .nil)
      · rintro acc H' e r hl hd
        rw [List.take_of_length_le (by rw [List.length_map]; exact Nat.le_refl _)] at r
        refine ⟨D, acc, rfl, .inl ⟨SqL.of hd, fun l hl => ⟨szn 4, fun r1 hr1 => ?_⟩⟩⟩
        have npr : l ≠ r1 := ne_of_none upd_same hr1
        have e2 : Same H' (upd H' l (.tup acc)) := same_new hl
        have e3 := e2.trans (same_new (o := .tup [.int 2, .int 0, .str "", .ref l]) hr1)
        exact q _ _ (e.trans e3) (dt4 upd_same (.int 2) (.int 0) (by rw [upd_ne npr]; exact upd_same) (DtAll.ts (ts_same e3) _ _ r))
theorem df_ahead (D : DfG P w K mg base 2 "rank" ["key"] spRank) (R : RawG K mg "ahead" s_ahead ["one", "other"]) : DfG P w K mg base 3 "ahead" ["one", "other"] spAhead := by
  obtain ⟨f, fd, hm, hk, hb, F⟩ := R
  obtain ⟨_, _, m_rank, k_rank, b_rank, F_rank⟩ := D
  refine ⟨f, fd, hm, hk, hb, F.ok sc_ahead (fun vs H Q E h => ?_) (fun cdv A outer s H vs Q E hr h => ?_)⟩
  · obtain ⟨v, u, k, j, rfl, _⟩ := h
    rfl
  · obtain ⟨v, u, k, j, rfl, hv, hu', ok1, ok2, q⟩ := h
    refine ⟨_, (pss_one (ps_ret (pe_cmpR (TwR.op_ltD hr.units) (pe_call (F_rank.mono (by decide)) hr rfl m_rank k_rank b_rank .nil pass0 (pa_cons (pv 0) pa_nil)) (pe_call (F_rank.mono (by decide)) hr rfl m_rank k_rank b_rank .nil pass0 (pa_cons (pv 1) pa_nil)) (nomark _)))), ?_⟩
    refine ⟨_, rfl, v, k, rfl, hv, ok1, fun r H1 e1 d1 => ⟨_, rfl, u, j, rfl, hu'.ts (ts_same e1), ok2, fun r2 H2 e2 d2 => ?_⟩⟩
    exact ⟨_, _, Dt.dp _ _ (Dt.ts (ts_same e2) _ _ d1), Dt.dp _ _ d2, kd_alike k j, kd_none k, kd_depth k, q _ (e1.trans e2)⟩
theorem df_lless (D : DfG P w K mg base 2 "_law_rank" ["_law_key"] spRank) (R : RawG K mg "_law_less" s_lless ["_law_one", "_law_other"]) : DfG P w K mg base 3 "_law_less" ["_law_one", "_law_other"] spAhead := by
  obtain ⟨f, fd, hm, hk, hb, F⟩ := R
  obtain ⟨_, _, m_lrank, k_lrank, b_lrank, F_lrank⟩ := D
  refine ⟨f, fd, hm, hk, hb, F.ok sc_lless (fun vs H Q E h => ?_) (fun cdv A outer s H vs Q E hr h => ?_)⟩
  · obtain ⟨v, u, k, j, rfl, _⟩ := h
    rfl
  · obtain ⟨v, u, k, j, rfl, hv, hu', ok1, ok2, q⟩ := h
    refine ⟨_, (pss_one (ps_ret (pe_cmpR (TwR.op_ltD hr.units) (pe_call (F_lrank.mono (by decide)) hr rfl m_lrank k_lrank b_lrank .nil pass0 (pa_cons (pv 0) pa_nil)) (pe_call (F_lrank.mono (by decide)) hr rfl m_lrank k_lrank b_lrank .nil pass0 (pa_cons (pv 1) pa_nil)) (nomark _)))), ?_⟩
    refine ⟨_, rfl, v, k, rfl, hv, ok1, fun r H1 e1 d1 => ⟨_, rfl, u, j, rfl, hu'.ts (ts_same e1), ok2, fun r2 H2 e2 d2 => ?_⟩⟩
    exact ⟨_, _, Dt.dp _ _ (Dt.ts (ts_same e2) _ _ d1), Dt.dp _ _ d2, kd_alike k j, kd_none k, kd_depth k, q _ (e1.trans e2)⟩
end
end Tw
end

section
set_option Elab.async false
set_option maxRecDepth 100000
set_option maxHeartbeats 4000000
set_option autoImplicit false
/-! rows and labels of twigs -/
namespace Tw
open PySem L2 Twg
abbrev s_checked_rows : Stmt := top 22
theorem sc_checked_rows : FnScope ["rows", "found", "key", "value", "k"] ["rows"] (defScope s_checked_rows) := ⟨rfl, rfl, rfl, by decide +kernel, rfl, by decide +kernel, by decide +kernel⟩
abbrev s_label_of_rows : Stmt := top 23
theorem sc_label_of_rows : FnScope ["rows"] ["rows"] (defScope s_label_of_rows) := ⟨rfl, rfl, rfl, by decide +kernel, rfl, by decide +kernel, by decide +kernel⟩
abbrev s_label_over : Stmt := top 24
theorem sc_label_over : FnScope ["labels", "k", "label"] ["labels"] (defScope s_label_over) := ⟨rfl, rfl, rfl, by decide +kernel, rfl, by decide +kernel, by decide +kernel⟩
structure GridOk (G : List Kd) : Prop where
  len : G.length = 64
  ok : ∀ i, i < 64 → (gk G i).Ok
  lt : ∀ i j, i < 64 → j < 64 → klt (gk G i) (gk G j) = decide (i < j)
  eq : ∀ i j, i < 64 → j < 64 → PyData.eqv (gk G i).d (gk G j).d = decide (i = j)
theorem RowsV.len {G : List Kd} {H : Hp} {vs : List V} {rs : List (Nat × Kd)} (h : RowsV G H vs rs) : vs.length = rs.length := Paired.length h
theorem take_snoc {α : Type} {l : List α} {i : Nat} {x : α} (h : l[i]? = some x) : l.take (i + 1) = l.take i ++ [x] := by rw [List.take_add_one, h]; rfl
theorem take_all {α : Type} {l : List α} {n : Nat} (h : l.length ≤ n) : l.take n = l := List.take_of_length_le h
/-- rows that are a leaf's: a new list of new tuples of the same -/
def spCRows (G : List Kd) (K : PySem.W.Frag) : Sp := fun vs H Q _ => ∃ (a : Addr) (xs : List V) (rows : List (Nat × Kd)), vs = [.ref a] ∧ SqL K H a xs ∧ RowsV G H xs rows ∧ RowsOk rows ∧
  ∀ (p : Addr) (ys : List V) (H' : Hp), Same H H' → H p = none → H' p = some (.lst ys) → RowsV G H' ys rows → Q (.ref p) H'
def spLRows (G : List Kd) (K : PySem.W.Frag) : Sp := fun vs H Q _ => ∃ (a : Addr) (xs : List V) (rows : List (Nat × Kd)), vs = [.ref a] ∧ SqL K H a xs ∧ RowsV G H xs rows ∧ RowsOk rows ∧
  ∀ (r : V) (H' : Hp), Same H H' → LabV G H' r (labRows rows) → Q r H'
section
variable {P : Program} {w : World} {K : PySem.W.Frag} {mg : Str → Option Value} {base : Heap} {G : List Kd}
theorem df_checked_rows (gr : GridOk G) (B : Bas mg) (D1 : DfG P w K mg base 5 "checked" ["thing"] spChecked) (D2 : DfG P w K mg base 3 "ahead" ["one", "other"] spAhead) (R : RawG K mg "checked_rows" s_checked_rows ["rows"]) :
    DfG P w K mg base 6 "checked_rows" ["rows"] (spCRows G K) := by
  obtain ⟨f, fd, hm, hk, hb, F⟩ := R
  obtain ⟨_, _, m_checked, k_checked, b_checked, F_checked⟩ := D1
  obtain ⟨_, _, m_ahead, k_ahead, b_ahead, F_ahead⟩ := D2
  refine ⟨f, fd, hm, hk, hb, F.ok sc_checked_rows (fun vs H Q E h => ?_) (fun cdv A outer s H vs Q E hr h => ?_)⟩
  · obtain ⟨a, xs, rows, rfl, _⟩ := h
    rfl
  · obtain ⟨a, xs, rows, rfl, hS, hR, ok, q⟩ := h
    have nd := sc_checked_rows.nd
    obtain ⟨_, c_MOST⟩ := B.c_MOST
    have hlx := hR.len
    refine ⟨_, (pss_cons (ps_set (i := 1) nd rfl (Or.inl rfl) (pe_lst pa_nil))
      (pss_cons (ps_for PassesOwn.never rfl (pi_list (pv 0)) (pg_tup rfl (pgs_cons (pg_name (i := 2) nd rfl (Or.inl rfl)) (pgs_cons (pg_name (i := 3) nd rfl (Or.inl rfl)) pgs_nil)))
        (pss_one (ps_expr (pe_bm PySem.F.plainAttrs_list PySem.F.slot_list_append PySem.F.type_list_append mt_append (pv 1) (pa_cons (pe_tup (pa_cons (pe_call (F_checked.mono (by decide)) hr rfl m_checked k_checked b_checked .nil pass0 (pa_cons (pv 2) pa_nil)) (pa_cons (pe_call (F_checked.mono (by decide)) hr rfl m_checked k_checked b_checked .nil pass0 (pa_cons (pv 3) pa_nil)) pa_nil))) pa_nil)))))
      (pss_cons (ps_if (PW.pt (pw_or (pt_cmpR op_lt (pe_callB call_len_seq (by rfl) B.b_len PySem.boot_len (pa_cons (pv 1) pa_nil)) pe_int (nomark _)) (pw_or1 (pt_cmpR op_gt (pe_callB call_len_seq (by rfl) B.b_len PySem.boot_len (pa_cons (pv 1) pa_nil)) (pe_glob (v := .int 4) rfl c_MOST ⟨_, rfl⟩) (nomark _)))))
        (pss_one ps_never)
        pss_nil)
      (pss_cons (ps_for PassesOwn.never rfl (pi_range2 rfl B.b_range (pa_cons pe_int (pa_cons (pe_callB call_len_seq (by rfl) B.b_len PySem.boot_len (pa_cons (pv 1) pa_nil)) pa_nil))) (pg_name (i := 4) nd rfl (Or.inl rfl))
        (pss_one (ps_if (pt_not (pt_val (pe_call (F_ahead.mono (by decide)) hr rfl m_ahead k_ahead b_ahead .nil pass0 (pa_cons (pe_ix ix_tup (pe_ix ix_list (pv 1) (pe_op op_sub (pv 4) pe_int) (fun _ _ => rfl)) pe_int (fun _ _ => rfl)) (pa_cons (pe_ix ix_tup (pe_ix ix_list (pv 1) (pv 4) (fun _ _ => rfl)) pe_int (fun _ _ => rfl)) pa_nil)))))
          (pss_one ps_never)
          pss_nil)))
      (pss_one (ps_ret (pv 1))))))), ?_⟩
    refine ⟨szn 0, fun p hp => ?_⟩
    refine ⟨_, rfl, a, rfl, ⟨xs, (same_new hp).seq hS⟩, for_it (walk_list (K := K) (a := a) (xs := xs))
      (fun i σ H' => ∃ k v ys, σ = [some (.ref a), some (.ref p), k, v, none] ∧ Same H H' ∧ H' p = some (.lst ys) ∧ RowsV G H' ys (rows.take i))
      ⟨none, none, [], rfl, same_new hp, upd_same, .nil⟩ (fun i σ H' _ ⟨_, _, _, _, e, _⟩ => e.seq hS) ?_ ?_⟩
    · rintro i y σ H' _ hi ⟨k, v, ys, rfl, e, hpy, r⟩ ⟨rfl, hy⟩
      obtain ⟨row, hrow, hv⟩ := paired_get hR i y hy
      obtain ⟨t, a1, b1, rfl, ht, ha, hb1, h64, hvo⟩ := hv.ts (ts_same e)
      have hyl := r.len
      rw [List.length_take] at hyl
      refine ⟨t, _, rfl, SqT.of ht, rfl, _, _, rfl, _, _, rfl, rfl, ?_⟩
      refine ⟨_, rfl, .inl ⟨rfl, _, SqL.of hpy⟩, ?_⟩
      refine ⟨_, rfl, a1, gk G row.1, rfl, ha, gr.ok _ h64, fun H1 e1 => ⟨_, rfl, b1, row.2, rfl, hb1.ts (ts_same e1), hvo, fun H2 e2 => ⟨szn 2, fun u hu' => ?_⟩⟩⟩
      have e12 := e1.trans e2
      have e3 := e12.trans (same_new (o := .tup [a1, b1]) hu')
      have hpy3 := e3 _ _ hpy
      refine ⟨p, ys, .ref u, rfl, rfl, hpy3, small_lt (by have := ok.le; omega), ?_⟩
      have tsp : TS _ (upd (upd H2 u (.tup [a1, b1])) p (.lst (ys ++ [.ref u]))) := ts_upd fun zs z => by
        rw [hpy3] at z
        cases z
      have npu : u ≠ p := fun z => by
        rw [z] at hu'
        rw [e12 _ _ hpy] at hu'
        cases hu'
      refine ⟨_, _, ys ++ [.ref u], rfl, same_mut (e.trans e3) hp, upd_same, ?_⟩
      rw [take_snoc hrow]
      refine paired_app (RowsV.ts ((ts_same e3).trans tsp) r) (.cons ⟨u, a1, b1, rfl, ?_, (ha.ts (ts_same e3)).ts tsp, (hb1.ts (ts_same e3)).ts tsp, h64, hvo⟩ .nil)
      rw [upd_ne npu]
      exact upd_same
    · rintro σ H' ⟨k, v, ys, rfl, e, hpy, r⟩
      rw [take_all (by omega)] at r
      have hyl := r.len
      have ok1 := ok.ne
      have ok2 := ok.le
      refine ⟨_, rfl, p, ys, rfl, .inl (SqL.of hpy), _, _, rfl, rfl, false, blF (by omega), iteF ⟨_, rfl, p, ys, rfl, .inl (SqL.of hpy), _, _, rfl, rfl, false, blF (by omega), ?_⟩⟩
      refine ⟨_, rfl, p, ys, rfl, .inl (SqL.of hpy), _, _, rfl, ⟨by decide, by decide, by omega, by omega⟩, for_range (lo := 1) (n := ((ys.length : Int) - 1).toNat)
        (fun i σ H2 => ∃ z, σ = [some (.ref a), some (.ref p), k, v, z] ∧ Same H' H2) ⟨none, rfl, Same.refl _⟩ ?_ ?_⟩
      · rintro i σ H2 hi ⟨z, rfl, e2⟩
        have hpy2 := e2 _ _ hpy
        have r2 : RowsV G H2 ys rows := RowsV.ts (ts_same e2) r
        have h0 : i < ys.length := by omega
        have h1 : i + 1 < ys.length := by omega
        obtain ⟨r0, hr0, p0, a0, b0, ey0, hp0, ha0, hb0, hlt0, ho0⟩ := paired_get r2 i ys[i] (List.getElem?_eq_getElem h0)
        obtain ⟨r1, hr1, p1, a1, b1, ey1, hp1, ha1, hb1, hlt1, ho1⟩ := paired_get r2 (i + 1) ys[i + 1] (List.getElem?_eq_getElem h1)
        have hlt : r0.1 < r1.1 := pw_get ok.up (Nat.lt_succ_self i) hr0 hr1
        refine ⟨_, rfl, _, rfl, _, _, rfl, rfl, p, ys, _, _, rfl, rfl, SqL.of hpy2, at_of (j := i) (by omega) (by rw [List.getElem?_eq_getElem h0, ey0]), p0, _, _, _, rfl, rfl, SqT.of hp0, atI_nat (j := 0) rfl, ?_⟩
        refine ⟨_, rfl, _, rfl, p, ys, _, _, rfl, rfl, SqL.of hpy2, at_of (j := i + 1) (by omega) (by rw [List.getElem?_eq_getElem h1, ey1]), p1, _, _, _, rfl, rfl, SqT.of hp1, atI_nat (j := 0) rfl, ?_⟩
        refine ⟨a0, a1, gk G r0.1, gk G r1.1, rfl, ha0, ha1, gr.ok _ hlt0, gr.ok _ hlt1, fun H3 e3 => ?_⟩
        rw [gr.lt _ _ hlt0 hlt1]
        exact ⟨true, blT hlt, _, rfl, e2.trans e3⟩
      · rintro σ H2 ⟨z, rfl, e2⟩
        exact ⟨_, rfl, q p ys H2 (e.trans e2) hp (e2 _ _ hpy) (RowsV.ts (ts_same e2) r)⟩
theorem atI_back {α : Type} {xs : List α} {v : α} (h : xs.getLast? = some v) : atI xs (-1) = some v := by
  obtain ⟨ys, rfl⟩ := List.getLast?_eq_some_iff.mp h
  exact atI_last _ _
theorem last_paired {α β : Type} {F : α → β → Prop} {l : List α} {m : List β} (h : Paired F l m) {b : β} (hb : m.getLast? = some b) : ∃ a, l.getLast? = some a ∧ F a b := by
  rw [List.getLast?_eq_getElem?] at hb
  obtain ⟨a, ha, hf⟩ := paired_get2 h _ _ hb
  refine ⟨a, ?_, hf⟩
  rw [List.getLast?_eq_getElem?, Paired.length h]
  exact ha
theorem df_label_of_rows (B : Bas mg) (R : RawG K mg "label_of_rows" s_label_of_rows ["rows"]) : DfG P w K mg base 1 "label_of_rows" ["rows"] (spLRows G K) := by
  obtain ⟨f, fd, hm, hk, hb, F⟩ := R
  refine ⟨f, fd, hm, hk, hb, F.ok sc_label_of_rows (fun vs H Q E h => ?_) (fun cdv A outer s H vs Q E hr h => ?_)⟩
  · obtain ⟨a, xs, rows, rfl, _⟩ := h
    rfl
  · obtain ⟨a, xs, rows, rfl, hS, hR, ok, q⟩ := h
    have hlx := hR.len
    refine ⟨_, (pss_one (ps_ret (pe_tup (pa_cons pe_int (pa_cons (pe_ix ix_tup (pe_ix ix_list (pv 0) pe_int (fun _ _ => rfl)) pe_int (fun _ _ => rfl)) (pa_cons (pe_ix ix_tup (pe_ix ix_list (pv 0) (pe_un un_neg pe_int) (fun _ _ => rfl)) pe_int (fun _ _ => rfl)) (pa_cons (pe_callB call_len_seq (by rfl) B.b_len PySem.boot_len (pa_cons (pv 0) pa_nil)) pa_nil))))))), ?_⟩
    cases rows with
    | nil =>
      have := ok.ne
      simp at this
    | cons r0 rs =>
      obtain ⟨z, ez, _, _⟩ := rows_span ok.up
      obtain ⟨y0, hy0, p0, a0, b0, ey0, hp0, ha0, hb0, hlt0, ho0⟩ := paired_get2 hR 0 r0 rfl
      obtain ⟨y1, hy1, p1, a1, b1, ey1, hp1, ha1, hb1, hlt1, ho1⟩ := last_paired hR ez
      subst ey0 ey1
      refine ⟨_, rfl, a, xs, _, _, rfl, rfl, hS, atI_nat (j := 0) hy0, p0, _, _, _, rfl, rfl, SqT.of hp0, atI_nat (j := 0) rfl, ?_⟩
      refine ⟨_, rfl, _, rfl, a, xs, _, _, rfl, rfl, hS, atI_back hy1, p1, _, _, _, rfl, rfl, SqT.of hp1, atI_nat (j := 0) rfl, ?_⟩
      refine ⟨_, rfl, a, xs, rfl, .inl hS, szn 4, fun p hp => q _ _ (same_new hp) ?_⟩
      have e := ts_same (same_new (o := .tup [.int 0, a0, a1, .int (xs.length : Int)]) hp)
      refine ⟨p, a0, a1, rfl, ?_, ha0.ts e, ?_⟩
      · rw [upd_same, hlx]
        rfl
      · have e2 : (labRows (r0 :: rs)).hi = z.1 := by
          show (((r0 :: rs).getLast?.map (·.1)).getD 0) = z.1
          rw [ez]
          rfl
        rw [e2]
        exact ha1.ts e
/-- labels of branches: the stem's label -/
def spOver (G : List Kd) (K : PySem.W.Frag) : Sp := fun vs H Q _ => ∃ (a : Addr) (xs : List V) (ls : List Lab), vs = [.ref a] ∧ SqL K H a xs ∧ Paired (LabV G H) xs ls ∧ OverOk ls ∧ (∀ l ∈ ls, l.Good) ∧
  ∀ (r : V) (H' : Hp), Same H H' → LabV G H' r (labOver ls) → Q r H'
theorem _root_.Twg.Lab.Good.lo64 {l : Lab} (h : l.Good) : l.lo < 64 := Nat.lt_of_le_of_lt h.a h.b
theorem sum_cts : ∀ ls : List Lab, ((ls.map fun l => (l.ct : Int)).sum : Int) = (((ls.map (·.ct)).sum : Nat) : Int)
  | [] => rfl
  | l :: ls => by
    rw [List.map_cons, List.map_cons, List.sum_cons, List.sum_cons, sum_cts ls]
    omega
theorem df_label_over (gr : GridOk G) (B : Bas mg) (D2 : DfG P w K mg base 3 "ahead" ["one", "other"] spAhead) (R : RawG K mg "label_over" s_label_over ["labels"]) :
    DfG P w K mg base 4 "label_over" ["labels"] (spOver G K) := by
  obtain ⟨f, fd, hm, hk, hb, F⟩ := R
  obtain ⟨_, _, m_ahead, k_ahead, b_ahead, F_ahead⟩ := D2
  refine ⟨f, fd, hm, hk, hb, F.ok sc_label_over (fun vs H Q E h => ?_) (fun cdv A outer s H vs Q E hr h => ?_)⟩
  · obtain ⟨a, xs, ls, rfl, _⟩ := h
    rfl
  · obtain ⟨a, xs, ls, rfl, hS, hL, ok, hg, q⟩ := h
    have nd := sc_label_over.nd
    obtain ⟨_, c_MOST⟩ := B.c_MOST
    have hlx := Paired.length hL
    have g1 := ok.ge
    have g2 := ok.le
    refine ⟨_, (pss_cons (ps_if (PW.pt (pw_or (pt_cmpR op_lt (pe_callB call_len_seq (by rfl) B.b_len PySem.boot_len (pa_cons (pv 0) pa_nil)) pe_int (nomark _)) (pw_or1 (pt_cmpR op_gt (pe_callB call_len_seq (by rfl) B.b_len PySem.boot_len (pa_cons (pv 0) pa_nil)) (pe_glob (v := .int 4) rfl c_MOST ⟨_, rfl⟩) (nomark _)))))
        (pss_one ps_never)
        pss_nil)
      (pss_cons (ps_for PassesOwn.never rfl (pi_range2 rfl B.b_range (pa_cons pe_int (pa_cons (pe_callB call_len_seq (by rfl) B.b_len PySem.boot_len (pa_cons (pv 0) pa_nil)) pa_nil))) (pg_name (i := 1) nd rfl (Or.inl rfl))
        (pss_one (ps_if (PW.pt (pw_or (pt_cmpR op_ne (pe_ix ix_tup (pe_ix ix_list (pv 0) (pv 1) (fun _ _ => rfl)) pe_int (fun _ _ => rfl)) (pe_ix ix_tup (pe_ix ix_list (pv 0) pe_int (fun _ _ => rfl)) pe_int (fun _ _ => rfl)) (nomark _)) (pw_or1 (pt_not (pt_val (pe_call (F_ahead.mono (by decide)) hr rfl m_ahead k_ahead b_ahead .nil pass0 (pa_cons (pe_ix ix_tup (pe_ix ix_list (pv 0) (pe_op op_sub (pv 1) pe_int) (fun _ _ => rfl)) pe_int (fun _ _ => rfl)) (pa_cons (pe_ix ix_tup (pe_ix ix_list (pv 0) (pv 1) (fun _ _ => rfl)) pe_int (fun _ _ => rfl)) pa_nil))))))))
          (pss_one ps_never)
          pss_nil)))
      (pss_one (ps_ret (pe_tup (pa_cons (pe_op op_add (pe_ix ix_tup (pe_ix ix_list (pv 0) pe_int (fun _ _ => rfl)) pe_int (fun _ _ => rfl)) pe_int) (pa_cons (pe_ix ix_tup (pe_ix ix_list (pv 0) pe_int (fun _ _ => rfl)) pe_int (fun _ _ => rfl)) (pa_cons (pe_ix ix_tup (pe_ix ix_list (pv 0) (pe_un un_neg pe_int) (fun _ _ => rfl)) pe_int (fun _ _ => rfl)) (pa_cons (pe_callB (cr_sum rfl) (by rfl) B.b_sum (by decide +kernel) (pa_cons (pe_lc (own := [("label", 2)]) (g := (gName 2)) (by rfl) nd (pi_list (pv 0)) (blkOk_by (N := ["labels", "k", "label"]) (sc := defScope s_label_over) (by decide +kernel)) (fun _ _ _ _ _ => (pg_name (i := 2) nd rfl (Or.inl rfl))) (fun _ _ _ _ _ => pts_nil) (fun _ _ _ _ _ => (pe_ix (ix_tupK (K := K)) (pv 2) pe_int (fun _ _ => rfl)))) pa_nil)) pa_nil))))))))), ?_⟩
    refine ⟨_, rfl, a, xs, rfl, .inl hS, _, _, rfl, rfl, false, blF (by omega), iteF ⟨_, rfl, a, xs, rfl, .inl hS, _, _, rfl, rfl, false, blF (by omega), ?_⟩⟩
    obtain ⟨l0, hl0⟩ : ∃ l0, ls[0]? = some l0 := ⟨ls[0], List.getElem?_eq_getElem (by omega)⟩
    obtain ⟨y0, hy0, hv0⟩ := paired_get2 hL 0 l0 hl0
    refine ⟨_, rfl, a, xs, rfl, .inl hS, _, _, rfl, ⟨by decide, by decide, by omega, by omega⟩, for_range (lo := 1) (n := ((xs.length : Int) - 1).toNat)
      (fun i σ H2 => ∃ z, σ = [some (.ref a), z, none] ∧ Same H H2) ⟨none, rfl, Same.refl _⟩ ?_ ?_⟩
    · rintro i σ H2 hi ⟨z, rfl, e2⟩
      have hS2 := e2.seq hS
      have h0 : i < xs.length := by omega
      have h1 : i + 1 < xs.length := by omega
      obtain ⟨p0, a0, b0, ey0, hp0, ha0, hb0⟩ := hv0.ts (ts_same e2)
      obtain ⟨li, hli, hvi⟩ := paired_get hL i xs[i] (List.getElem?_eq_getElem h0)
      obtain ⟨lj, hlj, hvj⟩ := paired_get hL (i + 1) xs[i + 1] (List.getElem?_eq_getElem h1)
      obtain ⟨pi, ai, bi, eyi, hpi, hai, hbi⟩ := hvi.ts (ts_same e2)
      obtain ⟨pj, aj, bj, eyj, hpj, haj, hbj⟩ := hvj.ts (ts_same e2)
      have eh : lj.h = l0.h := ok.eq _ (List.mem_of_getElem? hlj) _ (List.mem_of_getElem? hl0)
      have hlt : li.hi < lj.lo := pw_get ok.up (Nat.lt_succ_self i) hli hlj
      have gi := (hg _ (List.mem_of_getElem? hli)).b
      have gj := (hg _ (List.mem_of_getElem? hlj)).lo64
      refine ⟨_, rfl, _, rfl, a, xs, _, _, rfl, rfl, hS2, at_of (j := i + 1) (by omega) (by rw [List.getElem?_eq_getElem h1, eyj]), pj, _, _, _, rfl, rfl, SqT.of hpj, atI_nat (j := 0) rfl, ?_⟩
      refine ⟨_, rfl, a, xs, _, _, rfl, rfl, hS2, atI_nat (j := 0) (by rw [hy0, ey0]), p0, _, _, _, rfl, rfl, SqT.of hp0, atI_nat (j := 0) rfl, ?_⟩
      refine ⟨rfl, false, blNF (by rw [eh]), iteF ?_⟩
      refine ⟨_, rfl, _, rfl, _, _, rfl, rfl, a, xs, _, _, rfl, rfl, hS2, at_of (j := i) (by omega) (by rw [List.getElem?_eq_getElem h0, eyi]), pi, _, _, _, rfl, rfl, SqT.of hpi, atI_nat (j := 2) rfl, ?_⟩
      refine ⟨_, rfl, _, rfl, a, xs, _, _, rfl, rfl, hS2, at_of (j := i + 1) (by omega) (by rw [List.getElem?_eq_getElem h1, eyj]), pj, _, _, _, rfl, rfl, SqT.of hpj, atI_nat (j := 1) rfl, ?_⟩
      refine ⟨bi, aj, gk G li.hi, gk G lj.lo, rfl, hbi, haj, gr.ok _ gi, gr.ok _ gj, fun H3 e3 => ?_⟩
      rw [gr.lt _ _ gi gj]
      exact ⟨true, blT hlt, _, rfl, e2.trans e3⟩
    · rintro σ H2 ⟨z, rfl, e2⟩
      have hS2 := e2.seq hS
      obtain ⟨p0, a0, b0, ey0, hp0, ha0, hb0⟩ := hv0.ts (ts_same e2)
      obtain ⟨lz, hlz⟩ : ∃ lz, ls.getLast? = some lz := by
        cases e : ls.getLast? with
        | none =>
          rw [List.getLast?_eq_none_iff] at e
          rw [e] at g1
          simp at g1
        | some lz => exact ⟨lz, rfl⟩
      obtain ⟨yz, hyz, hvz⟩ := last_paired hL hlz
      obtain ⟨pz, az, bz, eyz, hpz, haz, hbz⟩ := hvz.ts (ts_same e2)
      refine ⟨_, rfl, a, xs, _, _, rfl, rfl, hS2, atI_nat (j := 0) (by rw [hy0, ey0]), p0, _, _, _, rfl, rfl, SqT.of hp0, atI_nat (j := 0) rfl, _, _, rfl, rfl, ?_⟩
      refine ⟨_, rfl, a, xs, _, _, rfl, rfl, hS2, atI_nat (j := 0) (by rw [hy0, ey0]), p0, _, _, _, rfl, rfl, SqT.of hp0, atI_nat (j := 1) rfl, ?_⟩
      refine ⟨_, rfl, _, rfl, a, xs, _, _, rfl, rfl, hS2, atI_back (by rw [hyz, eyz]), pz, _, _, _, rfl, rfl, SqT.of hpz, atI_nat (j := 2) rfl, ?_⟩
      refine ⟨_, rfl, a, rfl, ⟨_, hS2⟩, fun D hD => ?_⟩
      refine lc_rel (walk_list (K := K) (a := a) (xs := xs)) hD (fun i acc _ => acc = (ls.take i).map fun l => V.int (l.ct : Int)) ?_ (fun H' e => e.seq hS2) (fun _ _ _ _ _ h => h) rfl ?_ ?_
      · omega
      · rintro i y acc H' hi hy e rfl Kx Ky kx ky
        obtain ⟨li, hli, hvi⟩ := paired_get hL i y hy
        obtain ⟨pi, ai, bi, rfl, hpi, hai, hbi⟩ := hvi.ts (ts_same (e2.trans e))
        refine ⟨rfl, _, rfl, pi, _, _, _, rfl, rfl, SqT.of hpi, atI_nat (j := 3) rfl, kx _ _ (Same.refl _) ?_⟩
        rw [take_snoc hli, List.map_append]
        rfl
      · rintro acc H' e rfl hl hd
        rw [take_all (by omega)] at hd
        refine ⟨D, ls.map fun l => (l.ct : Int), rfl, SqL.of (by rw [hd, List.map_map]; rfl), szn 4, fun p hp => ?_⟩
        refine q _ _ ((e2.trans e).trans (same_new hp)) ⟨p, a0, bz, rfl, ?_, ?_, ?_⟩
        · rw [upd_same, sum_cts]
          have e4 : (labOver ls).h = l0.h + 1 := by
            show ((ls.head?.map (·.h)).getD 0) + 1 = l0.h + 1
            rw [List.head?_eq_getElem?, hl0]
            rfl
          rw [e4]
          rfl
        · have e5 : (labOver ls).lo = l0.lo := by
            show ((ls.head?.map (·.lo)).getD 0) = l0.lo
            rw [List.head?_eq_getElem?, hl0]
            rfl
          rw [e5]
          exact ha0.ts (ts_same (e.trans (same_new hp)))
        · have e6 : (labOver ls).hi = lz.hi := by
            show ((ls.getLast?.map (·.hi)).getD 0) = lz.hi
            rw [hlz]
            rfl
          rw [e6]
          exact hbz.ts (ts_same (e.trans (same_new hp)))
end
end Tw
end

section
set_option Elab.async false
set_option maxRecDepth 100000
set_option maxHeartbeats 4000000
set_option autoImplicit false
/-! a shelf on the heap -/
namespace Tw
open PySem L2 Twg
/-! ### attributes -/
theorem lk_eq {α : Type} (a : Str) (v : α) (fs : List (Str × α)) : ((a, v) :: fs).lookup a = some v := by
  rw [List.lookup_cons]
  simp
theorem lk_ne {α : Type} {a b : Str} (v : α) (fs : List (Str × α)) (h : a ≠ b) : ((b, v) :: fs).lookup a = fs.lookup a := by
  rw [List.lookup_cons]
  have : (a == b) = false := beq_eq_false_iff_ne.mpr h
  rw [this]
theorem lk_none {α : Type} {a : Str} : ∀ {fs : List (Str × α)}, a ∉ fs.map (·.1) → fs.lookup a = none
  | [], _ => rfl
  | (b, v) :: fs, h => by
    have h1 : a ≠ b := fun e => h (List.mem_cons.mpr (.inl e))
    rw [lk_ne v fs h1]
    exact lk_none fun m => h (List.mem_cons.mpr (.inr m))
theorem putF_eq (a : Str) (u v : V) (fs : List (Str × V)) : putF a v ((a, u) :: fs) = (a, v) :: fs := by
  show (if a = a then _ else _) = _
  rw [if_pos rfl]
theorem putF_ne {a b : Str} (u v : V) (fs : List (Str × V)) (h : b ≠ a) : putF a v ((b, u) :: fs) = (b, u) :: putF a v fs := by
  show (if b = a then _ else _) = _
  rw [if_neg h]
structure ShA where
  p : Addr
  dx : Addr
  dk : Addr
  dt : Addr
  da : Addr
  df : Addr
  ls : Addr
  ab : Nat → Addr
  kp : Nat → V
  tg : Nat → V
  sn : List V
def fl (A : ShA) (g : Nat) : List (Str × V) := [("kept", .ref A.dk), ("tags", .ref A.dt), ("above", .ref A.da), ("freely", .ref A.df), ("seen", .ref A.ls), ("given", .int (g : Int))]
section
variable (A : ShA) (g : Nat)
theorem fl_kept : (fl A g).lookup ("kept" : Str) = some (.ref A.dk) := lk_eq _ _ _
theorem fl_tags : (fl A g).lookup ("tags" : Str) = some (.ref A.dt) := by
  unfold fl
  rw [lk_ne _ _ (by decide +kernel), lk_eq]
theorem fl_above : (fl A g).lookup ("above" : Str) = some (.ref A.da) := by
  unfold fl
  rw [lk_ne _ _ (by decide +kernel), lk_ne _ _ (by decide +kernel), lk_eq]
theorem fl_freely : (fl A g).lookup ("freely" : Str) = some (.ref A.df) := by
  unfold fl
  rw [lk_ne _ _ (by decide +kernel), lk_ne _ _ (by decide +kernel), lk_ne _ _ (by decide +kernel), lk_eq]
theorem fl_seen : (fl A g).lookup ("seen" : Str) = some (.ref A.ls) := by
  unfold fl
  rw [lk_ne _ _ (by decide +kernel), lk_ne _ _ (by decide +kernel), lk_ne _ _ (by decide +kernel), lk_ne _ _ (by decide +kernel), lk_eq]
theorem fl_given : (fl A g).lookup ("given" : Str) = some (.int (g : Int)) := by
  unfold fl
  rw [lk_ne _ _ (by decide +kernel), lk_ne _ _ (by decide +kernel), lk_ne _ _ (by decide +kernel), lk_ne _ _ (by decide +kernel), lk_ne _ _ (by decide +kernel), lk_eq]
theorem fl_no {m : Str} (h : m ∉ (["kept", "tags", "above", "freely", "seen", "given"] : List Str)) : (fl A g).lookup m = none := lk_none h
theorem fl_setGiven (i : Nat) : putF "given" (.int (i : Int)) (fl A g) = fl A i := by
  unfold fl
  rw [putF_ne _ _ _ (by decide +kernel), putF_ne _ _ _ (by decide +kernel), putF_ne _ _ _ (by decide +kernel), putF_ne _ _ _ (by decide +kernel), putF_ne _ _ _ (by decide +kernel), putF_eq]
theorem fl_setSeen (l : Addr) : putF "seen" (.ref l) (fl A g) = fl { A with ls := l } g := by
  unfold fl
  rw [putF_ne _ _ _ (by decide +kernel), putF_ne _ _ _ (by decide +kernel), putF_ne _ _ _ (by decide +kernel), putF_ne _ _ _ (by decide +kernel), putF_eq]
end
/-! ### the shelf -/
def ShA.fp (A : ShA) (ks : List Nat) : List Addr := [A.p, A.dk, A.dt, A.da, A.df, A.ls] ++ ks.map A.ab
abbrev Shk := Sh Kd
structure ShAt (C : Addr) (G : List Kd) (H : Hp) (A : ShA) (S : Shk) : Prop where
  ob : H A.p = some (.ins C A.dx (fl A S.gv))
  k : H A.dk = some (.dK (dF S.ks A.kp))
  t : H A.dt = some (.dK (dF S.ks A.tg))
  a : H A.da = some (.dK (dF S.ks fun n => .ref (A.ab n)))
  f : H A.df = some (.dK (dF S.ks fun n => .int (S.fr n : Int)))
  s : H A.ls = some (.lst A.sn)
  al : ∀ n ∈ S.ks, H (A.ab n) = some (.lst (nvs (S.ab n)))
  kv : ∀ n ∈ S.ks, KeptV G H (A.kp n) (S.tw n)
  tv : ∀ n ∈ S.ks, LabV G H (A.tg n) (S.lb n)
  nd : (A.fp S.ks).Nodup
/-- what the class is -/
structure ClsT (K : PySem.W.Frag) (C : Addr) : Prop where
  cl : Cls K C
  n_kept : NoAttr K C "kept"
  n_tags : NoAttr K C "tags"
  n_above : NoAttr K C "above"
  n_freely : NoAttr K C "freely"
  n_seen : NoAttr K C "seen"
  n_given : NoAttr K C "given"
section
variable {C : Addr} {G : List Kd} {H H' : Hp} {A : ShA} {S : Shk}
theorem ShAt.ne (h : ShAt C G H A S) {i j : Nat} {x y : Addr} (hi : (A.fp S.ks)[i]? = some x) (hj : (A.fp S.ks)[j]? = some y) (hij : i ≠ j) : x ≠ y := fun e => by
  subst e
  exact hij (nd_ix h.nd hi hj)
theorem ab_at {ks : List Nat} {n : Nat} (hn : n ∈ ks) : ∃ i, (A.fp ks)[i + 6]? = some (A.ab n) ∧ ks[i]? = some n := by
  obtain ⟨i, hi⟩ := List.getElem?_of_mem hn
  exact ⟨i, by show (ks.map A.ab)[i]? = _; rw [List.getElem?_map, hi]; rfl, hi⟩
theorem fp_ab {ks : List Nat} {n : Nat} (hn : n ∈ ks) : A.ab n ∈ A.fp ks := List.mem_append.mpr (.inr (List.mem_map.mpr ⟨n, hn, rfl⟩))
theorem fp_p (ks : List Nat) : A.p ∈ A.fp ks := by simp [ShA.fp]
theorem fp_dk (ks : List Nat) : A.dk ∈ A.fp ks := by simp [ShA.fp]
theorem fp_dt (ks : List Nat) : A.dt ∈ A.fp ks := by simp [ShA.fp]
theorem fp_da (ks : List Nat) : A.da ∈ A.fp ks := by simp [ShA.fp]
theorem fp_df (ks : List Nat) : A.df ∈ A.fp ks := by simp [ShA.fp]
theorem fp_ls (ks : List Nat) : A.ls ∈ A.fp ks := by simp [ShA.fp]
theorem fp_iff {ks : List Nat} {b : Addr} : b ∈ A.fp ks ↔ b = A.p ∨ b = A.dk ∨ b = A.dt ∨ b = A.da ∨ b = A.df ∨ b = A.ls ∨ ∃ n ∈ ks, b = A.ab n := by
  unfold ShA.fp
  rw [List.mem_append, List.mem_map]
  simp only [List.mem_cons, List.not_mem_nil, or_false]
  constructor
  · rintro ((h | h | h | h | h | h) | ⟨n, hn, e⟩)
    · exact .inl h
    · exact .inr (.inl h)
    · exact .inr (.inr (.inl h))
    · exact .inr (.inr (.inr (.inl h)))
    · exact .inr (.inr (.inr (.inr (.inl h))))
    · exact .inr (.inr (.inr (.inr (.inr (.inl h)))))
    · exact .inr (.inr (.inr (.inr (.inr (.inr ⟨n, hn, e.symm⟩)))))
  · rintro (h | h | h | h | h | h | ⟨n, hn, e⟩)
    · exact .inl (.inl h)
    · exact .inl (.inr (.inl h))
    · exact .inl (.inr (.inr (.inl h)))
    · exact .inl (.inr (.inr (.inr (.inl h))))
    · exact .inl (.inr (.inr (.inr (.inr (.inl h)))))
    · exact .inl (.inr (.inr (.inr (.inr (.inr h)))))
    · exact .inr ⟨n, hn, e.symm⟩
/-- each of its places stands, and none is a tuple -/
theorem ShAt.there (h : ShAt C G H A S) {b : Addr} (hb : b ∈ A.fp S.ks) : ∃ o, H b = some o ∧ ∀ xs, o ≠ .tup xs := by
  rcases fp_iff.mp hb with e | e | e | e | e | e | ⟨n, hn, e⟩ <;> subst e
  · exact ⟨_, h.ob, fun _ z => by cases z⟩
  · exact ⟨_, h.k, fun _ z => by cases z⟩
  · exact ⟨_, h.t, fun _ z => by cases z⟩
  · exact ⟨_, h.a, fun _ z => by cases z⟩
  · exact ⟨_, h.f, fun _ z => by cases z⟩
  · exact ⟨_, h.s, fun _ z => by cases z⟩
  · exact ⟨_, h.al n hn, fun _ z => by cases z⟩
theorem ShAt.noTup (h : ShAt C G H A S) : ∀ b ∈ A.fp S.ks, ∀ xs, H b ≠ some (.tup xs) := fun b hb xs e => by
  obtain ⟨o, ho, hn⟩ := h.there hb
  rw [ho] at e
  exact hn xs (Option.some.inj e)
theorem ShAt.move (h : ShAt C G H A S) (e : TS H H') (k : ∀ b ∈ A.fp S.ks, H' b = H b) : ShAt C G H' A S where
  ob := (k _ (fp_p _)).trans h.ob
  k := (k _ (fp_dk _)).trans h.k
  t := (k _ (fp_dt _)).trans h.t
  a := (k _ (fp_da _)).trans h.a
  f := (k _ (fp_df _)).trans h.f
  s := (k _ (fp_ls _)).trans h.s
  al := fun n hn => (k _ (fp_ab hn)).trans (h.al n hn)
  kv := fun n hn => (h.kv n hn).ts e
  tv := fun n hn => (h.tv n hn).ts e
  nd := h.nd
theorem ShAt.same (h : ShAt C G H A S) (e : Same H H') : ShAt C G H' A S := h.move (ts_same e) fun b hb => by
  obtain ⟨o, ho, _⟩ := h.there hb
  rw [ho, e b o ho]
theorem ShAt.keep (h : ShAt C G H A S) {fq : List Addr} (e : Keep fq H H') (t : TS H H') (d : ∀ b ∈ A.fp S.ks, b ∉ fq) : ShAt C G H' A S := h.move t fun b hb => by
  obtain ⟨o, ho, _⟩ := h.there hb
  rw [ho, e b o ho (d b hb)]
/-- only what is told of the numbers there counts -/
theorem ShAt.ext {S' : Shk} (h : ShAt C G H A S) (hk : S'.ks = S.ks) (hg : S'.gv = S.gv) (e : ∀ n ∈ S.ks, S'.tw n = S.tw n ∧ S'.lb n = S.lb n ∧ S'.ab n = S.ab n ∧ S'.fr n = S.fr n) : ShAt C G H A S' where
  ob := by rw [hg]; exact h.ob
  k := by rw [hk]; exact h.k
  t := by rw [hk]; exact h.t
  a := by rw [hk]; exact h.a
  f := by
    rw [hk, dF_ext (g := fun n => .int (S.fr n : Int)) fun n hn => by rw [(e n hn).2.2.2]]
    exact h.f
  s := h.s
  al := fun n hn => by
    rw [hk] at hn
    rw [(e n hn).2.2.1]
    exact h.al n hn
  kv := fun n hn => by
    rw [hk] at hn
    rw [(e n hn).1]
    exact h.kv n hn
  tv := fun n hn => by
    rw [hk] at hn
    rw [(e n hn).2.1]
    exact h.tv n hn
  nd := by rw [hk]; exact h.nd
end
/-- one step of a shelf: what it is behind, and that nothing else is touched -/
structure Stp (C : Addr) (G : List Kd) (H : Hp) (A : ShA) (S : Shk) (H' : Hp) (A' : ShA) (S' : Shk) : Prop where
  at_ : ShAt C G H' A' S'
  p : A'.p = A.p
  sn : A'.sn = A.sn
  kp : Keep (A.fp S.ks) H H'
  nw : ∀ b ∈ A'.fp S'.ks, b ∈ A.fp S.ks ∨ H b = none
theorem Stp.trans {C : Addr} {G : List Kd} {H H1 H2 : Hp} {A A1 A2 : ShA} {S S1 S2 : Shk} (h : ShAt C G H A S) (x : Stp C G H A S H1 A1 S1) (y : Stp C G H1 A1 S1 H2 A2 S2) : Stp C G H A S H2 A2 S2 where
  at_ := y.at_
  p := y.p.trans x.p
  sn := y.sn.trans x.sn
  kp := fun b o e n => y.kp b o (x.kp b o e n) fun m => (x.nw b m).elim n fun z => by rw [z] at e; cases e
  nw := fun b hb => (y.nw b hb).elim (x.nw b) fun z => by
    by_cases m : b ∈ A.fp S.ks
    · exact .inl m
    · exact .inr (keep_free x.kp z m)
end Tw
end

section
set_option Elab.async false
set_option maxRecDepth 100000
set_option maxHeartbeats 4000000
set_option autoImplicit false
/-! what a store does to a shelf -/
namespace Tw
open PySem L2 Twg
structure Nds (A : ShA) (ks : List Nat) : Prop where
  pk : A.p ≠ A.dk
  pt : A.p ≠ A.dt
  pa : A.p ≠ A.da
  pf : A.p ≠ A.df
  ps : A.p ≠ A.ls
  kt : A.dk ≠ A.dt
  ka : A.dk ≠ A.da
  kf : A.dk ≠ A.df
  kl : A.dk ≠ A.ls
  ta : A.dt ≠ A.da
  tf : A.dt ≠ A.df
  tl : A.dt ≠ A.ls
  af : A.da ≠ A.df
  al : A.da ≠ A.ls
  fs : A.df ≠ A.ls
  np : ∀ n ∈ ks, A.ab n ≠ A.p
  nk : ∀ n ∈ ks, A.ab n ≠ A.dk
  nt : ∀ n ∈ ks, A.ab n ≠ A.dt
  na : ∀ n ∈ ks, A.ab n ≠ A.da
  nf : ∀ n ∈ ks, A.ab n ≠ A.df
  nl : ∀ n ∈ ks, A.ab n ≠ A.ls
  nn : ∀ n ∈ ks, ∀ m ∈ ks, n ≠ m → A.ab n ≠ A.ab m
theorem map_nd_inj {α β : Type} {f : α → β} : ∀ {l : List α}, (l.map f).Nodup → ∀ a ∈ l, ∀ b ∈ l, a ≠ b → f a ≠ f b
  | [], _, a, ha, _, _, _ => by cases ha
  | x :: l, h, a, ha, b, hb, hab => by
    rw [List.map_cons] at h
    obtain ⟨h1, h2⟩ := List.nodup_cons.mp h
    rcases List.mem_cons.mp ha with e | e
    · rcases List.mem_cons.mp hb with e2 | e2
      · exact absurd (e.trans e2.symm) hab
      · intro z
        exact h1 (List.mem_map.mpr ⟨b, e2, by rw [← z, e]⟩)
    · rcases List.mem_cons.mp hb with e2 | e2
      · intro z
        exact h1 (List.mem_map.mpr ⟨a, e, by rw [z, e2]⟩)
      · exact map_nd_inj h2 a e b e2 hab
theorem nds_of {A : ShA} {ks : List Nat} (h : (A.fp ks).Nodup) : Nds A ks := by
  have h' := h
  unfold ShA.fp at h'
  obtain ⟨h1, h2, h3⟩ := List.nodup_append.mp h'
  simp only [List.nodup_cons, List.mem_cons, List.not_mem_nil, or_false, not_or, List.nodup_nil, and_true, not_false_eq_true] at h1
  obtain ⟨⟨a1, a2, a3, a4, a5⟩, ⟨b1, b2, b3, b4⟩, ⟨c1, c2, c3⟩, ⟨d1, d2⟩, e1⟩ := h1
  have ap : ∀ {x : Addr}, x ∈ [A.p, A.dk, A.dt, A.da, A.df, A.ls] → ∀ n ∈ ks, A.ab n ≠ x := fun hx n hn e => h3 _ hx _ (List.mem_map.mpr ⟨n, hn, rfl⟩) e.symm
  exact ⟨a1, a2, a3, a4, a5, b1, b2, b3, b4, c1, c2, c3, d1, d2, e1, ap (by simp), ap (by simp), ap (by simp), ap (by simp), ap (by simp), ap (by simp), map_nd_inj h2⟩
section
variable {C : Addr} {G : List Kd} {H H' : Hp} {A : ShA} {S : Shk}
theorem ShAt.tsu (h : ShAt C G H A S) {b : Addr} {o : HO} (hb : b ∈ A.fp S.ks) : TS H (upd H b o) := ts_upd (h.noTup b hb)
theorem ShAt.setFr (h : ShAt C G H A S) (fr : Nat → Nat) : ShAt C G (upd H A.df (.dK (dF S.ks fun m => .int (fr m : Int)))) A { S with fr := fr } := by
  have d := nds_of h.nd
  have e := h.tsu (o := .dK (dF S.ks fun m => .int (fr m : Int))) (fp_df _)
  exact ⟨by rw [upd_ne d.pf]; exact h.ob, by rw [upd_ne d.kf]; exact h.k, by rw [upd_ne d.tf]; exact h.t, by rw [upd_ne d.af]; exact h.a, upd_same, by rw [upd_ne d.fs.symm]; exact h.s,
    fun n hn => by rw [upd_ne (d.nf n hn)]; exact h.al n hn, fun n hn => (h.kv n hn).ts e, fun n hn => (h.tv n hn).ts e, h.nd⟩
theorem ShAt.setAb (h : ShAt C G H A S) {n : Nat} (hn : n ∈ S.ks) (l : List Nat) : ShAt C G (upd H (A.ab n) (.lst (nvs l))) A { S with ab := fset S.ab n l } := by
  have d := nds_of h.nd
  have e := h.tsu (o := .lst (nvs l)) (fp_ab hn)
  refine ⟨by rw [upd_ne (d.np n hn).symm]; exact h.ob, by rw [upd_ne (d.nk n hn).symm]; exact h.k, by rw [upd_ne (d.nt n hn).symm]; exact h.t, by rw [upd_ne (d.na n hn).symm]; exact h.a, by rw [upd_ne (d.nf n hn).symm]; exact h.f,
    by rw [upd_ne (d.nl n hn).symm]; exact h.s, fun m hm => ?_, fun n hn => (h.kv n hn).ts e, fun n hn => (h.tv n hn).ts e, h.nd⟩
  show _ = some (HO.lst (nvs (fset S.ab n l m)))
  by_cases em : m = n
  · rw [em, upd_same, fset_same]
  · rw [upd_ne (d.nn m hm n hn em), fset_ne _ _ em]
    exact h.al m hm
theorem ShAt.setKp (h : ShAt C G H A S) (kp : Nat → V) (tw : Nat → Tk) (hk : ∀ n ∈ S.ks, KeptV G H (kp n) (tw n)) : ShAt C G (upd H A.dk (.dK (dF S.ks kp))) { A with kp := kp } { S with tw := tw } := by
  have d := nds_of h.nd
  have e := h.tsu (o := .dK (dF S.ks kp)) (fp_dk _)
  exact ⟨by rw [upd_ne d.pk]; exact h.ob, upd_same, by rw [upd_ne d.kt.symm]; exact h.t, by rw [upd_ne d.ka.symm]; exact h.a, by rw [upd_ne d.kf.symm]; exact h.f, by rw [upd_ne d.kl.symm]; exact h.s,
    fun n hn => by rw [upd_ne (d.nk n hn)]; exact h.al n hn, fun n hn => (hk n hn).ts e, fun n hn => (h.tv n hn).ts e, h.nd⟩
theorem ShAt.setTg (h : ShAt C G H A S) (tg : Nat → V) (lb : Nat → Lab) (hk : ∀ n ∈ S.ks, LabV G H (tg n) (lb n)) : ShAt C G (upd H A.dt (.dK (dF S.ks tg))) { A with tg := tg } { S with lb := lb } := by
  have d := nds_of h.nd
  have e := h.tsu (o := .dK (dF S.ks tg)) (fp_dt _)
  exact ⟨by rw [upd_ne d.pt]; exact h.ob, by rw [upd_ne d.kt]; exact h.k, upd_same, by rw [upd_ne d.ta.symm]; exact h.a, by rw [upd_ne d.tf.symm]; exact h.f, by rw [upd_ne d.tl.symm]; exact h.s,
    fun n hn => by rw [upd_ne (d.nt n hn)]; exact h.al n hn, fun n hn => (h.kv n hn).ts e, fun n hn => (hk n hn).ts e, h.nd⟩
theorem ShAt.setSn (h : ShAt C G H A S) (sn : List V) : ShAt C G (upd H A.ls (.lst sn)) { A with sn := sn } S := by
  have d := nds_of h.nd
  have e := h.tsu (o := .lst sn) (fp_ls _)
  exact ⟨by rw [upd_ne d.ps]; exact h.ob, by rw [upd_ne d.kl]; exact h.k, by rw [upd_ne d.tl]; exact h.t, by rw [upd_ne d.al]; exact h.a, by rw [upd_ne d.fs]; exact h.f, upd_same,
    fun n hn => by rw [upd_ne (d.nl n hn)]; exact h.al n hn, fun n hn => (h.kv n hn).ts e, fun n hn => (h.tv n hn).ts e, h.nd⟩
theorem ShAt.refl (h : ShAt C G H A S) : Stp C G H A S H A S := ⟨h, rfl, rfl, Keep.refl _ _, fun _ hb => .inl hb⟩
theorem ShAt.stp_same (h : ShAt C G H A S) (e : Same H H') : Stp C G H A S H' A S := ⟨h.same e, rfl, rfl, Keep.of_same e, fun _ hb => .inl hb⟩
theorem ShAt.stp_upd (h : ShAt C G H A S) {b : Addr} {o : HO} {A' : ShA} {S' : Shk} (hb : b ∈ A.fp S.ks) (at_ : ShAt C G (upd H b o) A' S') (p : A'.p = A.p) (sn : A'.sn = A.sn) (fp : A'.fp S'.ks = A.fp S.ks) : Stp C G H A S (upd H b o) A' S' :=
  ⟨at_, p, sn, keep_upd hb, fun c hc => .inl (by rw [← fp]; exact hc)⟩
theorem ShAt.stp_setFr (h : ShAt C G H A S) (fr : Nat → Nat) : Stp C G H A S (upd H A.df (.dK (dF S.ks fun m => .int (fr m : Int)))) A { S with fr := fr } := h.stp_upd (fp_df _) (h.setFr fr) rfl rfl rfl
theorem ShAt.stp_setAb (h : ShAt C G H A S) {n : Nat} (hn : n ∈ S.ks) (l : List Nat) : Stp C G H A S (upd H (A.ab n) (.lst (nvs l))) A { S with ab := fset S.ab n l } := h.stp_upd (fp_ab hn) (h.setAb hn l) rfl rfl rfl
theorem ShAt.stp_setKp (h : ShAt C G H A S) (kp : Nat → V) (tw : Nat → Tk) (hk : ∀ n ∈ S.ks, KeptV G H (kp n) (tw n)) : Stp C G H A S (upd H A.dk (.dK (dF S.ks kp))) { A with kp := kp } { S with tw := tw } := h.stp_upd (fp_dk _) (h.setKp kp tw hk) rfl rfl rfl
theorem ShAt.stp_setTg (h : ShAt C G H A S) (tg : Nat → V) (lb : Nat → Lab) (hk : ∀ n ∈ S.ks, LabV G H (tg n) (lb n)) : Stp C G H A S (upd H A.dt (.dK (dF S.ks tg))) { A with tg := tg } { S with lb := lb } := h.stp_upd (fp_dt _) (h.setTg tg lb hk) rfl rfl rfl
/-- the dict of the holds stored at one number -/
theorem fr_put (S : Shk) (n v : Nat) : dF S.ks (fset (fun m => V.int (S.fr m : Int)) n (.int (v : Int))) = dF S.ks fun m => V.int ((fset S.fr n v m : Nat) : Int) := dF_ext fun k _ => by
  by_cases e : k = n
  · rw [e, fset_same, fset_same]
  · rw [fset_ne _ _ e, fset_ne _ _ e]
end
end Tw
end

section
set_option Elab.async false
set_option maxRecDepth 100000
set_option maxHeartbeats 4000000
set_option autoImplicit false
/-! the shelf's methods: made, looked at -/
namespace Tw
open PySem L2 Twg
abbrev s_init : Stmt := inClass (top 28) 0
theorem sc_init : FnScope ["self"] ["self"] (defScope s_init) := ⟨rfl, rfl, rfl, by decide +kernel, rfl, by decide +kernel, by decide +kernel⟩
abbrev s_need : Stmt := inClass (top 28) 1
theorem sc_need : FnScope ["self", "number"] ["self", "number"] (defScope s_need) := ⟨rfl, rfl, rfl, by decide +kernel, rfl, by decide +kernel, by decide +kernel⟩
abbrev s_look : Stmt := inClass (top 28) 18
theorem sc_look : FnScope ["self", "number", "kind", "what"] ["self", "number"] (defScope s_look) := ⟨rfl, rfl, rfl, by decide +kernel, rfl, by decide +kernel, by decide +kernel⟩
abbrev s_label : Stmt := inClass (top 28) 19
theorem sc_label : FnScope ["self", "number"] ["self", "number"] (defScope s_label) := ⟨rfl, rfl, rfl, by decide +kernel, rfl, by decide +kernel, by decide +kernel⟩
abbrev s_looked : Stmt := inClass (top 28) 20
theorem sc_looked : FnScope ["self"] ["self"] (defScope s_looked) := ⟨rfl, rfl, rfl, by decide +kernel, rfl, by decide +kernel, by decide +kernel⟩
abbrev s_forget : Stmt := inClass (top 28) 21
theorem sc_forget : FnScope ["self"] ["self"] (defScope s_forget) := ⟨rfl, rfl, rfl, by decide +kernel, rfl, by decide +kernel, by decide +kernel⟩
abbrev s_numbers : Stmt := inClass (top 28) 22
theorem sc_numbers : FnScope ["self"] ["self"] (defScope s_numbers) := ⟨rfl, rfl, rfl, by decide +kernel, rfl, by decide +kernel, by decide +kernel⟩
abbrev s_many : Stmt := inClass (top 28) 23
theorem sc_many : FnScope ["self"] ["self"] (defScope s_many) := ⟨rfl, rfl, rfl, by decide +kernel, rfl, by decide +kernel, by decide +kernel⟩
abbrev s_outside : Stmt := inClass (top 28) 10
theorem sc_outside : FnScope ["self", "number"] ["self", "number"] (defScope s_outside) := ⟨rfl, rfl, rfl, by decide +kernel, rfl, by decide +kernel, by decide +kernel⟩
abbrev s_holders : Stmt := inClass (top 28) 11
theorem sc_holders : FnScope ["self", "number"] ["self", "number"] (defScope s_holders) := ⟨rfl, rfl, rfl, by decide +kernel, rfl, by decide +kernel, by decide +kernel⟩
abbrev s_shared_above : Stmt := inClass (top 28) 12
theorem sc_shared_above : FnScope ["self", "number", "here"] ["self", "number"] (defScope s_shared_above) := ⟨rfl, rfl, rfl, by decide +kernel, rfl, by decide +kernel, by decide +kernel⟩
abbrev s_alone : Stmt := inClass (top 28) 13
theorem sc_alone : FnScope ["self", "number"] ["self", "number"] (defScope s_alone) := ⟨rfl, rfl, rfl, by decide +kernel, rfl, by decide +kernel, by decide +kernel⟩
abbrev s_need_alone : Stmt := inClass (top 28) 14
theorem sc_need_alone : FnScope ["self", "number", "found"] ["self", "number"] (defScope s_need_alone) := ⟨rfl, rfl, rfl, by decide +kernel, rfl, by decide +kernel, by decide +kernel⟩
theorem two {H : Hp} {p x : Addr} {o o' u : HO} (hp : H p = some u) (hx : H x = none) :
    p ≠ x ∧ upd (upd H x o) p o' p = some o' ∧ upd (upd H x o) p o' x = some o ∧ ∀ b v, b ≠ p → H b = some v → upd (upd H x o) p o' b = some v := by
  have n : p ≠ x := ne_of_none hp hx
  refine ⟨n, upd_same, by rw [upd_ne n.symm, upd_same], fun b v nb hb => ?_⟩
  rw [upd_ne nb, upd_ne (ne_of_none hb hx)]
  exact hb
def shNil : Shk := ⟨[], fun _ => .leaf [], fun _ => ⟨0, 0, 0, 0⟩, fun _ => [], fun _ => 0, 0⟩
theorem plen {f : Str} {v : V} {fs : List (Str × V)} {n : Nat} (h : fs.length ≤ n) : (putF f v fs).length ≤ n + 1 := Nat.le_trans (length_putF f v fs) (Nat.succ_le_succ h)
theorem putF_all (a b c d e : Addr) : putF "given" (.int 0) (putF "seen" (.ref e) (putF "freely" (.ref d) (putF "above" (.ref c) (putF "tags" (.ref b) (putF "kept" (.ref a) []))))) =
    ([("kept", .ref a), ("tags", .ref b), ("above", .ref c), ("freely", .ref d), ("seen", .ref e), ("given", .int 0)] : List (Str × V)) := by
  have h0 : putF "kept" (.ref a) [] = ([("kept", .ref a)] : List (Str × V)) := rfl
  rw [h0]
  simp only [putF_ne _ _ _ (show ("kept" : Str) ≠ "tags" by decide +kernel), putF_ne _ _ _ (show ("kept" : Str) ≠ "above" by decide +kernel), putF_ne _ _ _ (show ("kept" : Str) ≠ "freely" by decide +kernel), putF_ne _ _ _ (show ("kept" : Str) ≠ "seen" by decide +kernel), putF_ne _ _ _ (show ("kept" : Str) ≠ "given" by decide +kernel)]
  have h1 : putF "tags" (.ref b) [] = ([("tags", .ref b)] : List (Str × V)) := rfl
  rw [h1]
  simp only [putF_ne _ _ _ (show ("tags" : Str) ≠ "above" by decide +kernel), putF_ne _ _ _ (show ("tags" : Str) ≠ "freely" by decide +kernel), putF_ne _ _ _ (show ("tags" : Str) ≠ "seen" by decide +kernel), putF_ne _ _ _ (show ("tags" : Str) ≠ "given" by decide +kernel)]
  have h2 : putF "above" (.ref c) [] = ([("above", .ref c)] : List (Str × V)) := rfl
  rw [h2]
  simp only [putF_ne _ _ _ (show ("above" : Str) ≠ "freely" by decide +kernel), putF_ne _ _ _ (show ("above" : Str) ≠ "seen" by decide +kernel), putF_ne _ _ _ (show ("above" : Str) ≠ "given" by decide +kernel)]
  have h3 : putF "freely" (.ref d) [] = ([("freely", .ref d)] : List (Str × V)) := rfl
  rw [h3]
  simp only [putF_ne _ _ _ (show ("freely" : Str) ≠ "seen" by decide +kernel), putF_ne _ _ _ (show ("freely" : Str) ≠ "given" by decide +kernel)]
  have h4 : putF "seen" (.ref e) [] = ([("seen", .ref e)] : List (Str × V)) := rfl
  rw [h4]
  simp only [putF_ne _ _ _ (show ("seen" : Str) ≠ "given" by decide +kernel)]
  rfl
def spInit (C : Addr) (G : List Kd) : Sp := fun vs H Q _ => ∃ (p dx : Addr), vs = [.ref p] ∧ H p = some (.ins C dx []) ∧
  ∀ (A : ShA) (H' : Hp), A.p = p → A.sn = [] → ShAt C G H' A shNil → Keep [p] H H' → (∀ b ∈ A.fp [], b = p ∨ H b = none) → Q .non H'
section
variable {P : Program} {w : World} {K : PySem.W.Frag} {mg : Str → Option Value} {base : Heap} {G : List Kd} {C : Addr}
theorem df_init (T : ClsT K C) {f : Addr} {fd : FuncData} (F : Fun K "__init__" "Shelf.__init__" s_init f fd) : FnOk P w K mg base CX0 1 f fd ["self"] (spInit C G) := by
  refine F.ok sc_init (fun vs H Q E h => ?_) (fun cdv A outer s H vs Q E hr h => ?_)
  · obtain ⟨p, dx, rfl, _⟩ := h
    rfl
  · obtain ⟨p, dx, rfl, hp, q⟩ := h
    refine ⟨_, (pss_cons (ps_fld (pv 0) pe_dnewK rfl)
      (pss_cons (ps_fld (pv 0) pe_dnewK rfl)
      (pss_cons (ps_fld (pv 0) pe_dnewK rfl)
      (pss_cons (ps_fld (pv 0) pe_dnewK rfl)
      (pss_cons (ps_fld (pv 0) (pe_lst pa_nil) rfl)
      (pss_one (ps_fld (pv 0) pe_int rfl))))))), ?_⟩
    intro dk hk
    obtain ⟨nk, a1, a2, a3⟩ := two (o := .dK []) (o' := .ins C dx (putF "kept" (.ref dk) [])) hp hk
    refine ⟨_, rfl, p, C, dx, [], rfl, (by rw [upd_ne nk]; exact hp), T.cl, T.n_kept, (by decide), ?_⟩
    intro dt ht
    obtain ⟨nt, b1, b2, b3⟩ := two (o := .dK []) (o' := .ins C dx (putF "tags" (.ref dt) (putF "kept" (.ref dk) []))) a1 ht
    have l1 : (putF "kept" (.ref dk) []).length ≤ 1 := plen (Nat.le_refl 0)
    refine ⟨_, rfl, p, C, dx, _, rfl, (by rw [upd_ne nt]; exact a1), T.cl, T.n_tags, Nat.lt_of_le_of_lt l1 (by decide), ?_⟩
    intro da ha
    obtain ⟨na, c1, c2, c3⟩ := two (o := .dK []) (o' := .ins C dx (putF "above" (.ref da) (putF "tags" (.ref dt) (putF "kept" (.ref dk) [])))) b1 ha
    refine ⟨_, rfl, p, C, dx, _, rfl, (by rw [upd_ne na]; exact b1), T.cl, T.n_above, Nat.lt_of_le_of_lt (plen l1) (by decide), ?_⟩
    intro df hf
    obtain ⟨nf, d1, d2, d3⟩ := two (o := .dK []) (o' := .ins C dx (putF "freely" (.ref df) (putF "above" (.ref da) (putF "tags" (.ref dt) (putF "kept" (.ref dk) []))))) c1 hf
    refine ⟨_, rfl, p, C, dx, _, rfl, (by rw [upd_ne nf]; exact c1), T.cl, T.n_freely, Nat.lt_of_le_of_lt (plen (plen l1)) (by decide), ?_⟩
    refine ⟨szn 0, fun ls hl => ?_⟩
    obtain ⟨nl, e1, e2, e3⟩ := two (o := .lst []) (o' := .ins C dx (putF "seen" (.ref ls) (putF "freely" (.ref df) (putF "above" (.ref da) (putF "tags" (.ref dt) (putF "kept" (.ref dk) [])))))) d1 hl
    refine ⟨_, rfl, p, C, dx, _, rfl, (by rw [upd_ne nl]; exact d1), T.cl, T.n_seen, Nat.lt_of_le_of_lt (plen (plen (plen l1))) (by decide), ?_⟩
    refine ⟨_, rfl, p, C, dx, _, rfl, e1, T.cl, T.n_given, Nat.lt_of_le_of_lt (plen (plen (plen (plen l1)))) (by decide), ?_⟩
    rw [putF_all]
    have k3 := b3 _ _ nk.symm a2
    have k4 := c3 _ _ nk.symm k3
    have k5 := d3 _ _ nk.symm k4
    have k6 := e3 _ _ nk.symm k5
    have t4 := c3 _ _ nt.symm b2
    have t5 := d3 _ _ nt.symm t4
    have t6 := e3 _ _ nt.symm t5
    have x5 := d3 _ _ na.symm c2
    have x6 := e3 _ _ na.symm x5
    have f6 := e3 _ _ nf.symm d2
    refine q ⟨p, dx, dk, dt, da, df, ls, fun _ => 0, fun _ => .non, fun _ => .non, []⟩ _ rfl rfl ⟨upd_same, ?_, ?_, ?_, ?_, ?_, ?_, ?_, ?_, ?_⟩ ?_ ?_
    · rw [upd_ne nk.symm]; exact k6
    · rw [upd_ne nt.symm]; exact t6
    · rw [upd_ne na.symm]; exact x6
    · rw [upd_ne nf.symm]; exact f6
    · rw [upd_ne nl.symm]; exact e2
    · intro n hn
      cases hn
    · intro n hn
      cases hn
    · intro n hn
      cases hn
    · have q1 := ne_of_none a2 ht
      have q2 := ne_of_none k3 ha
      have q3 := ne_of_none k4 hf
      have q4 := ne_of_none k5 hl
      have q5 := ne_of_none b2 ha
      have q6 := ne_of_none t4 hf
      have q7 := ne_of_none t5 hl
      have q8 := ne_of_none c2 hf
      have q9 := ne_of_none x5 hl
      have q10 := ne_of_none d2 hl
      simp only [ShA.fp, shNil, List.map_nil, List.append_nil, List.nodup_cons, List.mem_cons, List.not_mem_nil, or_false, not_or, List.nodup_nil, and_true, not_false_eq_true]
      exact ⟨⟨nk, nt, na, nf, nl⟩, ⟨q1, q2, q3, q4⟩, ⟨q5, q6, q7⟩, ⟨q8, q9⟩, q10⟩
    · intro b u hb nb
      have np : b ≠ p := fun z => nb (List.mem_singleton.mpr z)
      rw [upd_ne np]
      exact e3 _ _ np (d3 _ _ np (c3 _ _ np (b3 _ _ np (a3 _ _ np hb))))
    · intro b hb
      have fr : ∀ {H1 : Hp} {x : Addr}, (∀ c v, c ≠ p → H c = some v → H1 c = some v) → H1 x = none → x ≠ p → H x = none := fun {H1 x} k z n => by
        cases y : H x with
        | none => rfl
        | some o =>
          rw [k x o n y] at z
          cases z
      rcases fp_iff.mp hb with e | e | e | e | e | e | ⟨n, hn, e⟩
      · exact .inl e
      · exact .inr (e ▸ hk)
      · exact .inr (e ▸ fr (fun c v n h => a3 c v n h) ht nt.symm)
      · exact .inr (e ▸ fr (fun c v n h => b3 c v n (a3 c v n h)) ha na.symm)
      · exact .inr (e ▸ fr (fun c v n h => c3 c v n (b3 c v n (a3 c v n h))) hf nf.symm)
      · exact .inr (e ▸ fr (fun c v n h => d3 c v n (c3 c v n (b3 c v n (a3 c v n h)))) hl nl.symm)
      · cases hn
end
/-! ### promises of the readers -/
def spNeed (C : Addr) (G : List Kd) : Sp := fun vs H Q _ => ∃ (A : ShA) (S : Shk) (n : Nat), vs = [.ref A.p, .int (n : Int)] ∧ ShAt C G H A S ∧ n ∈ S.ks ∧ Q .non H
def spLabel (C : Addr) (G : List Kd) : Sp := fun vs H Q _ => ∃ (A : ShA) (S : Shk) (n : Nat), vs = [.ref A.p, .int (n : Int)] ∧ ShAt C G H A S ∧ n ∈ S.ks ∧ Q (A.tg n) H
def spOutside (C : Addr) (G : List Kd) : Sp := fun vs H Q _ => ∃ (A : ShA) (S : Shk) (n : Nat), vs = [.ref A.p, .int (n : Int)] ∧ ShAt C G H A S ∧ n ∈ S.ks ∧ Q (.int (S.fr n : Int)) H
def spHolders (C : Addr) (G : List Kd) : Sp := fun vs H Q _ => ∃ (A : ShA) (S : Shk) (n : Nat), vs = [.ref A.p, .int (n : Int)] ∧ ShAt C G H A S ∧ n ∈ S.ks ∧ Q (.int (((S.ab n).length + S.fr n : Nat) : Int)) H
def spMany (C : Addr) (G : List Kd) : Sp := fun vs H Q _ => ∃ (A : ShA) (S : Shk), vs = [.ref A.p] ∧ ShAt C G H A S ∧ Q (.int (S.ks.length : Int)) H
def spLooked (C : Addr) (G : List Kd) : Sp := fun vs H Q _ => ∃ (A : ShA) (S : Shk), vs = [.ref A.p] ∧ ShAt C G H A S ∧ ∀ l H', Same H H' → H l = none → H' l = some (.lst A.sn) → Q (.ref l) H'
def spNumbers (C : Addr) (G : List Kd) : Sp := fun vs H Q _ => ∃ (A : ShA) (S : Shk), vs = [.ref A.p] ∧ ShAt C G H A S ∧ S.ks.Pairwise (· < ·) ∧ S.ks.length < 64 ∧ ∀ l H', Same H H' → H l = none → H' l = some (.lst (nvs S.ks)) → Q (.ref l) H'
def spForget (C : Addr) (G : List Kd) : Sp := fun vs H Q _ => ∃ (A : ShA) (S : Shk), vs = [.ref A.p] ∧ ShAt C G H A S ∧
  ∀ (A' : ShA) (H' : Hp), ShAt C G H' A' S → A'.p = A.p → A'.sn = [] → Keep (A.fp S.ks) H H' → (∀ b ∈ A'.fp S.ks, b ∈ A.fp S.ks ∨ H b = none) → Q .non H'
def spShared (C : Addr) (G : List Kd) : Sp := fun vs H Q _ => ∃ (A : ShA) (S : Shk) (n : Nat), vs = [.ref A.p, .int (n : Int)] ∧ ShAt C G H A S ∧ W0 S ∧ n ∈ S.ks ∧ (Al S.ab S.fr n → ∀ H', Same H H' → Q .non H') ∧ (¬ Al S.ab S.fr n → ∀ (m : Nat) (H' : Hp), Same H H' → Q (.int (m : Int)) H')
def spAlone (C : Addr) (G : List Kd) : Sp := fun vs H Q _ => ∃ (A : ShA) (S : Shk) (n : Nat), vs = [.ref A.p, .int (n : Int)] ∧ ShAt C G H A S ∧ W0 S ∧ n ∈ S.ks ∧ ∀ (b : Bool) (H' : Hp), (b = true ↔ Al S.ab S.fr n) → Same H H' → Q (.bl b) H'
def spNeedAlone (C : Addr) (G : List Kd) : Sp := fun vs H Q _ => ∃ (A : ShA) (S : Shk) (n : Nat), vs = [.ref A.p, .int (n : Int)] ∧ ShAt C G H A S ∧ W0 S ∧ n ∈ S.ks ∧ Al S.ab S.fr n ∧ ∀ H', Same H H' → Q .non H'
def SeenV (G : List Kd) (H : Hp) (kind : Str) (ws : List V) : Tk → Prop
  | .leaf rows => kind = "leaf" ∧ RowsV G H ws rows
  | .stem ks => kind = "stem" ∧ ws = nvs ks
def spLook (C : Addr) (G : List Kd) : Sp := fun vs H Q _ => ∃ (A : ShA) (S : Shk) (n : Nat), vs = [.ref A.p, .int (n : Int)] ∧ ShAt C G H A S ∧ n ∈ S.ks ∧ A.sn.length < 1000 ∧
  ∀ (H' : Hp) (t l : Addr) (kind : Str) (ws : List V), ShAt C G H' { A with sn := A.sn ++ [.int (n : Int)] } S → Keep (A.fp S.ks) H H' → H' t = some (.tup [.str kind, .ref l]) → H' l = some (.lst ws) → H l = none → SeenV G H' kind ws (S.tw n) → Q (.ref t) H'
theorem KeptV.tup {G : List Kd} {H : Hp} {v : V} {t : Tk} (h : KeptV G H v t) : ∃ p q ws kind, v = .ref p ∧ H p = some (.tup [.str kind, .ref q]) ∧ H q = some (.tup ws) ∧ SeenV G H kind ws t := by
  cases t with
  | leaf rows =>
    obtain ⟨p, q, vs, h1, h2, h3, h4⟩ := h
    exact ⟨p, q, vs, _, h1, h2, h3, rfl, h4⟩
  | stem ks =>
    obtain ⟨p, q, h1, h2, h3⟩ := h
    exact ⟨p, q, _, _, h1, h2, h3, rfl, rfl⟩
theorem SeenV.ts {G : List Kd} {H H' : Hp} (e : TS H H') {kind : Str} {ws : List V} {t : Tk} (h : SeenV G H kind ws t) : SeenV G H' kind ws t := by
  cases t with
  | leaf rows => exact ⟨h.1, h.2.ts e⟩
  | stem ks => exact h
section
variable {P : Program} {w : World} {K : PySem.W.Frag} {mg : Str → Option Value} {base : Heap} {G : List Kd} {C : Addr}
theorem df_need (T : ClsT K C) (R : RawM K C "need" "Shelf.need" s_need ["self", "number"]) : DfM P w K mg base C 1 "need" ["self", "number"] (spNeed C G) := by
  obtain ⟨f, fd, hm, hb, F⟩ := R
  refine ⟨f, fd, hm, hb, F.ok sc_need (fun vs H Q E h => ?_) (fun cdv A outer s H vs Q E hr h => ?_)⟩
  · obtain ⟨A, S, n, rfl, _⟩ := h
    rfl
  · obtain ⟨A, S, n, rfl, D, hn, q⟩ := h
    have hu := hu_of hr
    refine ⟨_, (pss_one (ps_if (pt_cmp (pc_dnotin hu (pv 1) (pe_fld (pv 0) rfl)))
        (pss_one ps_never)
        pss_nil)), ?_⟩
    exact ⟨_, rfl, _, rfl, A.p, C, A.dx, _, _, rfl, D.ob, T.cl, T.n_kept, fl_kept _ _, A.dk, _, rfl, dget D.k hn, _, rfl, iteF q⟩
theorem df_label (T : ClsT K C) (D1 : DfM P w K mg base C 1 "need" ["self", "number"] (spNeed C G)) (R : RawM K C "label" "Shelf.label" s_label ["self", "number"]) : DfM P w K mg base C 2 "label" ["self", "number"] (spLabel C G) := by
  obtain ⟨f, fd, hm, hb, F⟩ := R
  obtain ⟨_, _, M_need, b_need, F_need⟩ := D1
  refine ⟨f, fd, hm, hb, F.ok sc_label (fun vs H Q E h => ?_) (fun cdv A outer s H vs Q E hr h => ?_)⟩
  · obtain ⟨A, S, n, rfl, _⟩ := h
    rfl
  · obtain ⟨A, S, n, rfl, D, hn, q⟩ := h
    have hu := hu_of hr
    have cl := T.cl
    refine ⟨_, (pss_cons (ps_expr (pe_meth (pv 0) cl M_need (F_need.mono (by decide)) hr b_need .nil pass0 (pa_cons (pv 1) pa_nil)))
      (pss_one (ps_ret (pe_dget hu (pe_fld (pv 0) rfl) (pv 1) (fun _ _ => rfl))))), ?_⟩
    refine ⟨_, rfl, A.p, A.dx, _, rfl, D.ob, fl_no _ _ (by decide +kernel), _, rfl, A, S, n, rfl, D, hn, ?_⟩
    exact ⟨_, rfl, A.p, C, A.dx, _, _, rfl, D.ob, T.cl, T.n_tags, fl_tags _ _, _, rfl, A.dt, _, rfl, dget D.t hn, q⟩
theorem df_outside (T : ClsT K C) (D1 : DfM P w K mg base C 1 "need" ["self", "number"] (spNeed C G)) (R : RawM K C "outside" "Shelf.outside" s_outside ["self", "number"]) : DfM P w K mg base C 2 "outside" ["self", "number"] (spOutside C G) := by
  obtain ⟨f, fd, hm, hb, F⟩ := R
  obtain ⟨_, _, M_need, b_need, F_need⟩ := D1
  refine ⟨f, fd, hm, hb, F.ok sc_outside (fun vs H Q E h => ?_) (fun cdv A outer s H vs Q E hr h => ?_)⟩
  · obtain ⟨A, S, n, rfl, _⟩ := h
    rfl
  · obtain ⟨A, S, n, rfl, D, hn, q⟩ := h
    have hu := hu_of hr
    have cl := T.cl
    refine ⟨_, (pss_cons (ps_expr (pe_meth (pv 0) cl M_need (F_need.mono (by decide)) hr b_need .nil pass0 (pa_cons (pv 1) pa_nil)))
      (pss_one (ps_ret (pe_dget hu (pe_fld (pv 0) rfl) (pv 1) (fun _ _ => rfl))))), ?_⟩
    refine ⟨_, rfl, A.p, A.dx, _, rfl, D.ob, fl_no _ _ (by decide +kernel), _, rfl, A, S, n, rfl, D, hn, ?_⟩
    exact ⟨_, rfl, A.p, C, A.dx, _, _, rfl, D.ob, T.cl, T.n_freely, fl_freely _ _, _, rfl, A.df, _, rfl, dget D.f hn, q⟩
theorem df_holders (T : ClsT K C) (B : Bas mg) (D1 : DfM P w K mg base C 1 "need" ["self", "number"] (spNeed C G)) (R : RawM K C "holders" "Shelf.holders" s_holders ["self", "number"]) : DfM P w K mg base C 2 "holders" ["self", "number"] (spHolders C G) := by
  obtain ⟨f, fd, hm, hb, F⟩ := R
  obtain ⟨_, _, M_need, b_need, F_need⟩ := D1
  refine ⟨f, fd, hm, hb, F.ok sc_holders (fun vs H Q E h => ?_) (fun cdv A outer s H vs Q E hr h => ?_)⟩
  · obtain ⟨A, S, n, rfl, _⟩ := h
    rfl
  · obtain ⟨A, S, n, rfl, D, hn, q⟩ := h
    have hu := hu_of hr
    have cl := T.cl
    refine ⟨_, (pss_cons (ps_expr (pe_meth (pv 0) cl M_need (F_need.mono (by decide)) hr b_need .nil pass0 (pa_cons (pv 1) pa_nil)))
      (pss_one (ps_ret (pe_op op_add (pe_callB call_len_seq (by rfl) B.b_len PySem.boot_len (pa_cons (pe_dget hu (pe_fld (pv 0) rfl) (pv 1) (fun _ _ => rfl)) pa_nil)) (pe_dget hu (pe_fld (pv 0) rfl) (pv 1) (fun _ _ => rfl)))))), ?_⟩
    refine ⟨_, rfl, A.p, A.dx, _, rfl, D.ob, fl_no _ _ (by decide +kernel), _, rfl, A, S, n, rfl, D, hn, ?_⟩
    refine ⟨_, rfl, A.p, C, A.dx, _, _, rfl, D.ob, T.cl, T.n_above, fl_above _ _, _, rfl, A.da, _, rfl, dget D.a hn, A.ab n, _, rfl, .inl (SqL.of (D.al n hn)), ?_⟩
    refine ⟨_, rfl, A.p, C, A.dx, _, _, rfl, D.ob, T.cl, T.n_freely, fl_freely _ _, _, rfl, A.df, _, rfl, dget D.f hn, _, _, rfl, rfl, ?_⟩
    have e : V.int (((S.ab n).length + S.fr n : Nat) : Int) = V.int (((nvs (S.ab n)).length : Int) + (S.fr n : Int)) := by rw [nvs_len]; rfl
    rw [e] at q
    exact q
theorem df_many (T : ClsT K C) (B : Bas mg) (R : RawM K C "many" "Shelf.many" s_many ["self"]) : DfM P w K mg base C 1 "many" ["self"] (spMany C G) := by
  obtain ⟨f, fd, hm, hb, F⟩ := R
  refine ⟨f, fd, hm, hb, F.ok sc_many (fun vs H Q E h => ?_) (fun cdv A outer s H vs Q E hr h => ?_)⟩
  · obtain ⟨A, S, rfl, _⟩ := h
    rfl
  · obtain ⟨A, S, rfl, D, q⟩ := h
    refine ⟨_, (pss_one (ps_ret (pe_callB call_lenD (by rfl) B.b_len PySem.boot_len (pa_cons (pe_fld (pv 0) rfl) pa_nil)))), ?_⟩
    refine ⟨_, rfl, A.p, C, A.dx, _, _, rfl, D.ob, T.cl, T.n_kept, fl_kept _ _, A.dk, _, rfl, D.k, ?_⟩
    rw [dF_len]
    exact q
theorem df_looked (T : ClsT K C) (B : Bas mg) (R : RawM K C "looked" "Shelf.looked" s_looked ["self"]) : DfM P w K mg base C 1 "looked" ["self"] (spLooked C G) := by
  obtain ⟨f, fd, hm, hb, F⟩ := R
  refine ⟨f, fd, hm, hb, F.ok sc_looked (fun vs H Q E h => ?_) (fun cdv A outer s H vs Q E hr h => ?_)⟩
  · obtain ⟨A, S, rfl, _⟩ := h
    rfl
  · obtain ⟨A, S, rfl, D, q⟩ := h
    refine ⟨_, (pss_one (ps_ret (pe_callTy call_list_of (by rfl) B.b_list (by decide +kernel) (pa_cons (pe_fld (pv 0) rfl) pa_nil)))), ?_⟩
    exact ⟨_, rfl, A.p, C, A.dx, _, _, rfl, D.ob, T.cl, T.n_seen, fl_seen _ _, A.ls, _, rfl, .inl (SqL.of D.s), fun l hl => q l _ (same_new hl) hl upd_same⟩
/-- rising numbers, in order again, are the same list -/
theorem sorted_eq : ∀ {ns ms : List Int}, ns.Perm ms → ns.Pairwise (· ≤ ·) → ms.Pairwise (· < ·) → ns = ms
  | ns, [], p, _, _ => List.perm_nil.mp p
  | [], m :: ms, p, _, _ => absurd (List.nil_perm.mp p) (by simp)
  | n :: ns, m :: ms, p, h1, h2 => by
    obtain ⟨a1, a2⟩ := List.pairwise_cons.mp h1
    obtain ⟨b1, b2⟩ := List.pairwise_cons.mp h2
    have e : n = m := by
      have q1 : m ∈ n :: ns := p.mem_iff.mpr (List.mem_cons.mpr (.inl rfl))
      have q2 : n ∈ m :: ms := p.mem_iff.mp (List.mem_cons.mpr (.inl rfl))
      rcases List.mem_cons.mp q1 with z | z
      · exact z.symm
      · have := a1 m z
        rcases List.mem_cons.mp q2 with y | y
        · exact y
        · have := b1 n y
          omega
    subst e
    rw [sorted_eq (List.perm_cons n |>.mp p) a2 b2]
theorem asc_int {ks : List Nat} (h : ks.Pairwise (· < ·)) : (ks.map fun k : Nat => (k : Int)).Pairwise (· < ·) := List.pairwise_map.mpr (h.imp fun {a b} (q : a < b) => by omega)
theorem nvs_eq (ks : List Nat) : (ks.map fun k : Nat => (k : Int)).map V.int = nvs ks := by
  unfold nvs
  rw [List.map_map]
  rfl
theorem dF_keys (ks : List Nat) (f : Nat → V) : (dF ks f).map (·.1) = (ks.map fun k : Nat => (k : Int)).map Sum.inl := by
  unfold dF
  rw [List.map_map, List.map_map]
  rfl
theorem df_numbers (T : ClsT K C) (B : Bas mg) (R : RawM K C "numbers" "Shelf.numbers" s_numbers ["self"]) : DfM P w K mg base C 1 "numbers" ["self"] (spNumbers C G) := by
  obtain ⟨f, fd, hm, hb, F⟩ := R
  refine ⟨f, fd, hm, hb, F.ok sc_numbers (fun vs H Q E h => ?_) (fun cdv A outer s H vs Q E hr h => ?_)⟩
  · obtain ⟨A, S, rfl, _⟩ := h
    rfl
  · obtain ⟨A, S, rfl, D, ha, hl, q⟩ := h
    refine ⟨_, (pss_one (ps_ret (pe_callB (call_sortedDI rfl) (by rfl) B.b_sorted (by decide +kernel) (pa_cons (pe_fld (pv 0) rfl) pa_nil)))), ?_⟩
    refine ⟨_, rfl, A.p, C, A.dx, _, _, rfl, D.ob, T.cl, T.n_kept, fl_kept _ _, A.dk, _, S.ks.map (fun k : Nat => (k : Int)), rfl, .of D.k, dF_keys _ _, by rw [List.length_map]; exact hl, fun ys p hp hs hn => ?_⟩
    rw [sorted_eq hp hs (asc_int ha), nvs_eq]
    exact q p _ (same_new hn) hn upd_same
theorem df_forget (T : ClsT K C) (R : RawM K C "forget" "Shelf.forget" s_forget ["self"]) : DfM P w K mg base C 1 "forget" ["self"] (spForget C G) := by
  obtain ⟨f, fd, hm, hb, F⟩ := R
  refine ⟨f, fd, hm, hb, F.ok sc_forget (fun vs H Q E h => ?_) (fun cdv A outer s H vs Q E hr h => ?_)⟩
  · obtain ⟨A, S, rfl, _⟩ := h
    rfl
  · obtain ⟨A, S, rfl, D, q⟩ := h
    refine ⟨_, (pss_one (ps_fld (pv 0) (pe_lst pa_nil) rfl)), ?_⟩
    refine ⟨szn 0, fun l hl => ?_⟩
    have np : A.p ≠ l := ne_of_none D.ob hl
    refine ⟨_, rfl, A.p, C, A.dx, _, rfl, (by rw [upd_ne np]; exact D.ob), T.cl, T.n_seen, (by show 6 < 1000; decide), ?_⟩
    rw [fl_setSeen]
    have d := nds_of D.nd
    have ts : TS H (upd (upd H l (.lst [])) A.p (.ins C A.dx (fl { A with ls := l } S.gv))) := (ts_same (same_new hl)).trans (ts_upd fun xs z => by
      rw [upd_ne np, D.ob] at z
      cases z)
    have kk : ∀ b ∈ A.fp S.ks, b ≠ A.p → upd (upd H l (.lst [])) A.p (.ins C A.dx (fl { A with ls := l } S.gv)) b = H b := fun b hb nb => by
      obtain ⟨o, ho, _⟩ := D.there hb
      rw [upd_ne nb, upd_ne (ne_of_none ho hl)]
    refine q { A with ls := l, sn := [] } _ ⟨upd_same, ?_, ?_, ?_, ?_, ?_, fun n hn => ?_, fun n hn => (D.kv n hn).ts ts, fun n hn => (D.tv n hn).ts ts, ?_⟩ rfl rfl ?_ ?_
    · exact (kk _ (fp_dk _) d.pk.symm).trans D.k
    · exact (kk _ (fp_dt _) d.pt.symm).trans D.t
    · exact (kk _ (fp_da _) d.pa.symm).trans D.a
    · exact (kk _ (fp_df _) d.pf.symm).trans D.f
    · show upd (upd H l (.lst [])) A.p _ l = _
      rw [upd_ne np.symm, upd_same]
    · exact (kk _ (fp_ab hn) (d.np n hn)).trans (D.al n hn)
    · have h0 := D.nd
      unfold ShA.fp at h0 ⊢
      obtain ⟨h1, h2, h3⟩ := List.nodup_append.mp h0
      have lx : ∀ b ∈ A.fp S.ks, b ≠ l := fun b hb => by
        obtain ⟨o, ho, _⟩ := D.there hb
        exact ne_of_none ho hl
      refine List.nodup_append.mpr ⟨?_, h2, fun a ha b hb => ?_⟩
      · simp only [List.nodup_cons, List.mem_cons, List.not_mem_nil, or_false, not_or, List.nodup_nil, and_true, not_false_eq_true]
        exact ⟨⟨d.pk, d.pt, d.pa, d.pf, np⟩, ⟨d.kt, d.ka, d.kf, lx _ (fp_dk _)⟩, ⟨d.ta, d.tf, lx _ (fp_dt _)⟩, ⟨d.af, lx _ (fp_da _)⟩, lx _ (fp_df _)⟩
      · simp only [List.mem_cons, List.not_mem_nil, or_false] at ha
        obtain ⟨n, hn, rfl⟩ := List.mem_map.mp hb
        rcases ha with e | e | e | e | e | e <;> subst e
        · exact (d.np n hn).symm
        · exact (d.nk n hn).symm
        · exact (d.nt n hn).symm
        · exact (d.na n hn).symm
        · exact (d.nf n hn).symm
        · exact (lx _ (fp_ab hn)).symm
    · intro b o hb nb
      rw [upd_ne (fun (z : b = A.p) => nb (z ▸ fp_p _)), upd_ne (ne_of_none hb hl)]
      exact hb
    · intro b hb
      rcases fp_iff.mp hb with e | e | e | e | e | e | ⟨n, hn, e⟩ <;> subst e
      · exact .inl (fp_p _)
      · exact .inl (fp_dk _)
      · exact .inl (fp_dt _)
      · exact .inl (fp_da _)
      · exact .inl (fp_df _)
      · exact .inr hl
      · exact .inl (fp_ab hn)
theorem df_look (T : ClsT K C) (B : Bas mg) (D1 : DfM P w K mg base C 1 "need" ["self", "number"] (spNeed C G)) (R : RawM K C "look" "Shelf.look" s_look ["self", "number"]) : DfM P w K mg base C 2 "look" ["self", "number"] (spLook C G) := by
  obtain ⟨f, fd, hm, hb, F⟩ := R
  obtain ⟨_, _, M_need, b_need, F_need⟩ := D1
  refine ⟨f, fd, hm, hb, F.ok sc_look (fun vs H Q E h => ?_) (fun cdv A outer s H vs Q E hr h => ?_)⟩
  · obtain ⟨A, S, n, rfl, _⟩ := h
    rfl
  · obtain ⟨A, S, n, rfl, D, hn, hsn, q⟩ := h
    have hu := hu_of hr
    have cl := T.cl
    have nd := sc_look.nd
    refine ⟨_, (pss_cons (ps_expr (pe_meth (pv 0) cl M_need (F_need.mono (by decide)) hr b_need .nil pass0 (pa_cons (pv 1) pa_nil)))
      (pss_cons (ps_expr (pe_bm PySem.F.plainAttrs_list PySem.F.slot_list_append PySem.F.type_list_append mt_append (pe_fld (pv 0) rfl) (pa_cons (pv 1) pa_nil)))
      (pss_cons (ps_asg (pe_dget hu (pe_fld (pv 0) rfl) (pv 1) (fun _ _ => rfl)) (pg_tup rfl (pgs_cons (pg_name (i := 2) nd rfl (Or.inl rfl)) (pgs_cons (pg_name (i := 3) nd rfl (Or.inl rfl)) pgs_nil))))
      (pss_one (ps_ret (pe_tup (pa_cons (pv 2) (pa_cons (pe_callTy call_list_of (by rfl) B.b_list (by decide +kernel) (pa_cons (pv 3) pa_nil)) pa_nil)))))))), ?_⟩
    refine ⟨_, rfl, A.p, A.dx, _, rfl, D.ob, fl_no _ _ (by decide +kernel), _, rfl, A, S, n, rfl, D, hn, ?_⟩
    refine ⟨_, rfl, A.p, C, A.dx, _, _, rfl, D.ob, T.cl, T.n_seen, fl_seen _ _, .inl ⟨rfl, _, SqL.of D.s⟩, _, rfl, A.ls, A.sn, _, rfl, rfl, D.s, small_lt (by omega), ?_⟩
    have D1 := D.setSn (A.sn ++ [.int (n : Int)])
    obtain ⟨t, q1, ws, kind, et, ht, hq1, hws⟩ := (D1.kv n hn).tup
    refine ⟨_, rfl, A.p, C, A.dx, _, _, rfl, D1.ob, T.cl, T.n_kept, fl_kept _ _, _, rfl, A.dk, _, rfl, dget D1.k hn, t, _, et, SqT.of ht, rfl, _, _, rfl, _, _, rfl, rfl, ?_⟩
    refine ⟨_, rfl, _, rfl, q1, ws, rfl, .inr (SqT.of hq1), fun l hl => ⟨szn 2, fun u hu' => ?_⟩⟩
    have e1 : Same (upd H A.ls (.lst (A.sn ++ [.int (n : Int)]))) (upd (upd (upd H A.ls (.lst (A.sn ++ [.int (n : Int)]))) l (.lst ws)) u (.tup [.str kind, .ref l])) := (same_new hl).trans (same_new hu')
    have nlu : l ≠ u := ne_of_none upd_same hu'
    refine q _ u l kind ws (D1.same e1) ((keep_upd (fp_ls _)).trans (Keep.of_same e1)) upd_same (by rw [upd_ne nlu]; exact upd_same) (keep_free (fp := A.fp S.ks) (keep_upd (fp_ls _)) hl fun z => ?_) (hws.ts (ts_same e1))
    obtain ⟨o, ho, _⟩ := D1.there z
    rw [ho] at hl
    cases hl
theorem df_shared_above (T : ClsT K C) (D1 : DfM P w K mg base C 2 "holders" ["self", "number"] (spHolders C G)) (R : RawM K C "shared_above" "Shelf.shared_above" s_shared_above ["self", "number"]) : DfM P w K mg base C 3 "shared_above" ["self", "number"] (spShared C G) := by
  obtain ⟨f, fd, hm, hb, F⟩ := R
  obtain ⟨_, _, M_holders, b_holders, F_holders⟩ := D1
  refine ⟨f, fd, hm, hb, F.ok sc_shared_above (fun vs H Q E h => ?_) (fun cdv A outer s H vs Q E hr h => ?_)⟩
  · obtain ⟨A, S, n, rfl, _⟩ := h
    rfl
  · obtain ⟨A, S, n, rfl, D, wf, hn, q1, q2⟩ := h
    have hu := hu_of hr
    have cl := T.cl
    have nd := sc_shared_above.nd
    refine ⟨_, (pss_cons (ps_set (i := 2) nd rfl (Or.inl rfl) (pv 1))
      (pss_cons (ps_while PassesOwn.never (pt_cmpR op_eq (pe_meth (pv 0) cl M_holders (F_holders.mono (by decide)) hr b_holders .nil pass0 (pa_cons (pv 2) pa_nil)) pe_int (nomark _))
        (pss_cons (ps_if (pt_cmpR (op_eqD hr.units) (pe_dget hu (pe_fld (pv 0) rfl) (pv 2) (fun _ _ => rfl)) (pe_lst pa_nil) (nomark _))
          (pss_one (ps_ret pe_non))
          pss_nil)
        (pss_one (ps_set (i := 2) nd rfl (Or.inl rfl) (pe_ix ix_list (pe_dget hu (pe_fld (pv 0) rfl) (pv 2) (fun _ _ => rfl)) pe_int (fun _ _ => rfl))))))
      (pss_one (ps_ret (pv 2))))), ?_⟩
    refine ⟨_, rfl, fun m σ H' => ∃ here : Nat, m = 64 - (S.lb here).h ∧ σ = [some (.ref A.p), some (.int (n : Int)), some (.int (here : Int))] ∧ Same H H' ∧ here ∈ S.ks ∧ (Al S.ab S.fr n ↔ Al S.ab S.fr here), ⟨_, n, rfl, rfl, Same.refl _, hn, Iff.rfl⟩, ?_⟩
    rintro m σ H' ⟨here, rfl, rfl, e, hh, hal⟩
    have D' := D.same e
    refine ⟨_, rfl, A.p, A.dx, _, rfl, D'.ob, fl_no _ _ (by decide +kernel), _, rfl, A, S, here, rfl, D', hh, ?_⟩
    by_cases hs : (S.ab here).length + S.fr here = 1
    · refine ⟨rfl, true, blT (by rw [hs]; rfl), ?_⟩
      refine ⟨fun σ' H2 => ∃ s, S.ab here = [s] ∧ σ' = [some (.ref A.p), some (.int (n : Int)), some (.int (s : Int))] ∧ Same H H2, ?_, ?_⟩
      · rintro σ' H2 ⟨s, es, rfl, e2⟩
        obtain ⟨x1, x2, x3⟩ := wf.above_in hh (s := s) (by rw [es]; exact List.mem_singleton.mpr rfl)
        have h64 := wf.lk.h64 x1
        exact ⟨64 - (S.lb s).h, by omega, s, rfl, rfl, e2, x1, hal.trans (al_step hs es)⟩
      refine ⟨_, rfl, A.p, C, A.dx, _, _, rfl, D'.ob, T.cl, T.n_above, fl_above _ _, _, rfl, A.da, _, rfl, dget D'.a hh, ?_⟩
      refine ⟨szn 0, fun e1 he => ⟨_, _, nats_dp (SqL.of ((same_new he) _ _ (D'.al here hh))), nil_dp (SqL.of upd_same), shaped_nats _, shaped_nil, (S.ab here).isEmpty, congrArg V.bl (nats_nil _), ?_⟩⟩
      have e2 : Same H (upd H' e1 (.lst [])) := e.trans (same_new he)
      have D2 := D.same e2
      cases hab : S.ab here with
      | nil => exact q1 (hal.mpr (al_top hs hab)) _ e2
      | cons s r =>
        obtain ⟨es, _⟩ := al_cut hs hab
        refine iteF ⟨_, rfl, A.p, C, A.dx, _, _, rfl, D2.ob, T.cl, T.n_above, fl_above _ _, _, rfl, A.da, _, rfl, dget D2.a hh, A.ab here, _, _, _, rfl, rfl, SqL.of (D2.al here hh), atI_nat (j := 0) (by rw [es]; rfl), ?_⟩
        exact ⟨s, hab.symm.trans es, rfl, e2⟩
    · refine ⟨rfl, false, blF (fun z => hs ?_), iteF ⟨_, rfl, ?_⟩⟩
      · have := V.int.inj z
        omega
      · exact q2 (fun z => hs (hal.mp z).sum) here _ e
theorem df_alone (T : ClsT K C) (D1 : DfM P w K mg base C 1 "need" ["self", "number"] (spNeed C G)) (D2 : DfM P w K mg base C 3 "shared_above" ["self", "number"] (spShared C G)) (R : RawM K C "alone" "Shelf.alone" s_alone ["self", "number"]) : DfM P w K mg base C 4 "alone" ["self", "number"] (spAlone C G) := by
  obtain ⟨f, fd, hm, hb, F⟩ := R
  obtain ⟨_, _, M_need, b_need, F_need⟩ := D1
  obtain ⟨_, _, M_shared_above, b_shared_above, F_shared_above⟩ := D2
  refine ⟨f, fd, hm, hb, F.ok sc_alone (fun vs H Q E h => ?_) (fun cdv A outer s H vs Q E hr h => ?_)⟩
  · obtain ⟨A, S, n, rfl, _⟩ := h
    rfl
  · obtain ⟨A, S, n, rfl, D, wf, hn, q⟩ := h
    have cl := T.cl
    refine ⟨_, (pss_cons (ps_expr (pe_meth (pv 0) cl M_need (F_need.mono (by decide)) hr b_need .nil pass0 (pa_cons (pv 1) pa_nil)))
      (pss_one (ps_ret (pe_cmpR op_isN (pe_meth (pv 0) cl M_shared_above (F_shared_above.mono (by decide)) hr b_shared_above .nil pass0 (pa_cons (pv 1) pa_nil)) pe_non (nomark _))))), ?_⟩
    refine ⟨_, rfl, A.p, A.dx, _, rfl, D.ob, fl_no _ _ (by decide +kernel), _, rfl, A, S, n, rfl, D, hn, ?_⟩
    refine ⟨_, rfl, A.p, A.dx, _, rfl, D.ob, fl_no _ _ (by decide +kernel), _, rfl, A, S, n, rfl, D, wf, hn, fun ha H' e => ⟨rfl, q _ _ ?_ e⟩, fun ha m H' e => ⟨rfl, q _ _ ?_ e⟩⟩
    · exact ⟨fun _ => ha, fun _ => rfl⟩
    · exact ⟨fun z => Bool.noConfusion z, fun z => absurd z ha⟩
theorem df_need_alone (T : ClsT K C) (D2 : DfM P w K mg base C 3 "shared_above" ["self", "number"] (spShared C G)) (R : RawM K C "need_alone" "Shelf.need_alone" s_need_alone ["self", "number"]) : DfM P w K mg base C 4 "need_alone" ["self", "number"] (spNeedAlone C G) := by
  obtain ⟨f, fd, hm, hb, F⟩ := R
  obtain ⟨_, _, M_shared_above, b_shared_above, F_shared_above⟩ := D2
  refine ⟨f, fd, hm, hb, F.ok sc_need_alone (fun vs H Q E h => ?_) (fun cdv A outer s H vs Q E hr h => ?_)⟩
  · obtain ⟨A, S, n, rfl, _⟩ := h
    rfl
  · obtain ⟨A, S, n, rfl, D, wf, hn, ha, q⟩ := h
    have cl := T.cl
    have nd := sc_need_alone.nd
    refine ⟨_, (pss_cons (ps_set (i := 2) nd rfl (Or.inl rfl) (pe_meth (pv 0) cl M_shared_above (F_shared_above.mono (by decide)) hr b_shared_above .nil pass0 (pa_cons (pv 1) pa_nil)))
      (pss_one (ps_if (pt_cmpR op_notN (pv 2) pe_non (nomark _))
        (pss_one ps_never)
        pss_nil))), ?_⟩
    exact ⟨_, rfl, A.p, A.dx, _, rfl, D.ob, fl_no _ _ (by decide +kernel), _, rfl, A, S, n, rfl, D, wf, hn, fun _ H' e => ⟨_, rfl, rfl, _, rfl, iteF (q H' e)⟩, fun z => absurd ha z⟩
end
end Tw
end

section
set_option Elab.async false
set_option maxRecDepth 100000
set_option maxHeartbeats 4000000
set_option autoImplicit false
/-! the shelf's methods: twigs put, holds -/
namespace Tw
open PySem L2 Twg
abbrev s_set_down : Stmt := inClass (top 28) 2
theorem sc_set_down : FnScope ["self", "kind", "what", "tag", "number"] ["self", "kind", "what", "tag"] (defScope s_set_down) := ⟨rfl, rfl, rfl, by decide +kernel, rfl, by decide +kernel, by decide +kernel⟩
abbrev s_put_leaf : Stmt := inClass (top 28) 3
theorem sc_put_leaf : FnScope ["self", "rows", "found"] ["self", "rows"] (defScope s_put_leaf) := ⟨rfl, rfl, rfl, by decide +kernel, rfl, by decide +kernel, by decide +kernel⟩
abbrev s_need_held : Stmt := inClass (top 28) 5
theorem sc_need_held : FnScope ["self", "branches", "branch"] ["self", "branches"] (defScope s_need_held) := ⟨rfl, rfl, rfl, by decide +kernel, rfl, by decide +kernel, by decide +kernel⟩
abbrev s_hand_over : Stmt := inClass (top 28) 6
theorem sc_hand_over : FnScope ["self", "branches", "number", "branch"] ["self", "branches", "number"] (defScope s_hand_over) := ⟨rfl, rfl, rfl, by decide +kernel, rfl, by decide +kernel, by decide +kernel⟩
abbrev s_put_stem : Stmt := inClass (top 28) 4
theorem sc_put_stem : FnScope ["self", "numbers", "some", "branch", "tag", "number"] ["self", "numbers"] (defScope s_put_stem) := ⟨rfl, rfl, rfl, by decide +kernel, rfl, by decide +kernel, by decide +kernel⟩
abbrev s_hold : Stmt := inClass (top 28) 7
theorem sc_hold : FnScope ["self", "number"] ["self", "number"] (defScope s_hold) := ⟨rfl, rfl, rfl, by decide +kernel, rfl, by decide +kernel, by decide +kernel⟩
def shAdd (S : Shk) (t : Tk) (l : Lab) : Shk := ⟨S.ks ++ [S.gv], fset S.tw S.gv t, fset S.lb S.gv l, fset S.ab S.gv [], fset S.fr S.gv 1, S.gv + 1⟩
def shAddA (A : ShA) (g : Nat) (l : Addr) (k t : V) : ShA := { A with ab := fset A.ab g l, kp := fset A.kp g k, tg := fset A.tg g t }
theorem fp_add (A : ShA) {ks : List Nat} {g : Nat} (l : Addr) (k t : V) (hg : g ∉ ks) : (shAddA A g l k t).fp (ks ++ [g]) = A.fp ks ++ [l] := by
  show [A.p, A.dk, A.dt, A.da, A.df, A.ls] ++ (ks ++ [g]).map (fset A.ab g l) = _
  rw [List.map_append, ← List.append_assoc]
  congr 1
  · unfold ShA.fp
    congr 1
    exact List.map_congr_left fun n hn => fset_ne _ _ (fun (e : n = g) => hg (e ▸ hn))
  · show [fset A.ab g l g] = [l]
    rw [fset_same]
def spSetDown (C : Addr) (G : List Kd) (K : PySem.W.Frag) : Sp := fun vs H Q _ => ∃ (A : ShA) (S : Shk) (kind : Str) (a : Addr) (xs : List V) (tag : V) (t : Tk) (l : Lab), vs = [.ref A.p, .str kind, .ref a, tag] ∧ ShAt C G H A S ∧ SqL K H a xs ∧
  (∀ (H' : Hp) (p q : Addr), TS H H' → H' p = some (.tup [.str kind, .ref q]) → H' q = some (.tup xs) → KeptV G H' (.ref p) t) ∧ LabV G H tag l ∧ a ∉ A.fp S.ks ∧ S.gv ∉ S.ks ∧ S.ks.length < 1000 ∧
  ∀ (H' : Hp) (A' : ShA), Stp C G H A S H' A' (shAdd S t l) → Q (.int (S.gv : Int)) H'
section
variable {P : Program} {w : World} {K : PySem.W.Frag} {mg : Str → Option Value} {base : Heap} {G : List Kd} {C : Addr}
/-- a list that is none of fp stands -/
theorem keep_sql {fp : List Addr} {H H' : Hp} (e : Keep fp H H') {a : Addr} {xs : List V} (h : SqL K H a xs) (n : a ∉ fp) : SqL K H' a xs := by
  rcases h with (h | ⟨o, h⟩) | h
  · exact .inl (.inl (e _ _ h n))
  · exact .inl (.inr ⟨o, e _ _ h n⟩)
  · exact .inr h
theorem df_set_down (T : ClsT K C) (B : Bas mg) (R : RawM K C "set_down" "Shelf.set_down" s_set_down ["self", "kind", "what", "tag"]) : DfM P w K mg base C 1 "set_down" ["self", "kind", "what", "tag"] (spSetDown C G K) := by
  obtain ⟨f, fd, hm, hb, F⟩ := R
  refine ⟨f, fd, hm, hb, F.ok sc_set_down (fun vs H Q E h => ?_) (fun cdv A outer s H vs Q E hr h => ?_)⟩
  · obtain ⟨A, S, kind, a, xs, tag, t, l, rfl, _⟩ := h
    rfl
  · obtain ⟨A, S, kind, a, xs, tag, t, lab, rfl, D, hS, hkv, hlb, hna, hg, hlen, q⟩ := h
    have hu := hu_of hr
    have nd := sc_set_down.nd
    have d := nds_of D.nd
    have in0 : ∀ {x : Addr}, x ∈ A.fp S.ks → ∃ o, H x = some o := fun hx => let ⟨o, ho, _⟩ := D.there hx; ⟨o, ho⟩
    refine ⟨_, (pss_cons (ps_set (i := 4) nd rfl (Or.inl rfl) (pe_fld (pv 0) rfl))
      (pss_cons (ps_fld (pv 0) (pe_op op_add (pe_fld (pv 0) rfl) pe_int) rfl)
      (pss_cons (ps_dput hu (pe_fld (pv 0) rfl) (pv 4) (pe_tup (pa_cons (pv 1) (pa_cons (pe_callTy call_tuple_of (by rfl) B.b_tuple (by decide +kernel) (pa_cons (pv 2) pa_nil)) pa_nil))) rfl)
      (pss_cons (ps_dput hu (pe_fld (pv 0) rfl) (pv 4) (pv 3) rfl)
      (pss_cons (ps_dput hu (pe_fld (pv 0) rfl) (pv 4) (pe_lst pa_nil) rfl)
      (pss_cons (ps_dput hu (pe_fld (pv 0) rfl) (pv 4) pe_int rfl)
      (pss_one (ps_ret (pv 4))))))))), ?_⟩
    refine ⟨_, rfl, A.p, C, A.dx, _, _, rfl, D.ob, T.cl, T.n_given, fl_given _ _, ?_⟩
    refine ⟨_, rfl, A.p, C, A.dx, _, _, rfl, D.ob, T.cl, T.n_given, fl_given _ _, _, _, rfl, rfl, _, rfl, A.p, C, A.dx, _, rfl, D.ob, T.cl, T.n_given, (by show 6 < 1000; decide), ?_⟩
    have eg : putF "given" (V.int ((S.gv : Int) + 1)) (fl A S.gv) = fl A (S.gv + 1) := fl_setGiven A S.gv (S.gv + 1)
    rw [eg]
    let H1 := upd H A.p (.ins C A.dx (fl A (S.gv + 1)))
    have k1 : Keep (A.fp S.ks) H H1 := keep_upd (fp_p _)
    have p1 : H1 A.p = some (.ins C A.dx (fl A (S.gv + 1))) := upd_same
    refine ⟨_, rfl, _, rfl, a, xs, rfl, .inl ⟨keep_sql k1 hS hna, fun q0 hq0 => ⟨szn 2, fun q1 hq1 => ?_⟩⟩⟩
    let H2 := upd H1 q0 (.tup xs)
    let H3 := upd H2 q1 (.tup [.str kind, .ref q0])
    have e12 : Same H1 H2 := same_new hq0
    have e23 : Same H2 H3 := same_new hq1
    have k3 : Keep (A.fp S.ks) H H3 := k1.trans (Keep.of_same (e12.trans e23))
    have at3 : ∀ {x : Addr} {o : HO}, x ≠ A.p → H x = some o → H3 x = some o := fun hx ho => (e12.trans e23) _ _ (by show upd H A.p _ _ = _; rw [upd_ne hx]; exact ho)
    have p3 : H3 A.p = some (.ins C A.dx (fl A (S.gv + 1))) := (e12.trans e23) _ _ p1
    refine ⟨_, rfl, A.p, C, A.dx, _, _, rfl, p3, T.cl, T.n_kept, fl_kept _ _, _, rfl, A.dk, _, rfl, dputN (at3 d.pk.symm D.k) hg hlen, ?_⟩
    let H4 := upd H3 A.dk (.dK (dF (S.ks ++ [S.gv]) (fset A.kp S.gv (.ref q1))))
    have p4 : H4 A.p = some (.ins C A.dx (fl A (S.gv + 1))) := by show upd _ _ _ _ = _; rw [upd_ne d.pk]; exact p3
    have k4 : Keep (A.fp S.ks) H H4 := k3.trans (keep_upd (fp_dk _))
    refine ⟨_, rfl, _, rfl, A.p, C, A.dx, _, _, rfl, p4, T.cl, T.n_tags, fl_tags _ _, _, rfl, A.dt, _, rfl, dputN (H := H4) (by show upd _ _ _ _ = _; rw [upd_ne d.kt.symm]; exact at3 d.pt.symm D.t) hg hlen, ?_⟩
    let H5 := upd H4 A.dt (.dK (dF (S.ks ++ [S.gv]) (fset A.tg S.gv tag)))
    have p5 : H5 A.p = some (.ins C A.dx (fl A (S.gv + 1))) := by show upd _ _ _ _ = _; rw [upd_ne d.pt]; exact p4
    have k5 : Keep (A.fp S.ks) H H5 := k4.trans (keep_upd (fp_dt _))
    refine ⟨szn 0, fun l0 hl0 => ?_⟩
    let H6 := upd H5 l0 (.lst [])
    have e56 : Same H5 H6 := same_new hl0
    have k6 : Keep (A.fp S.ks) H H6 := k5.trans (Keep.of_same e56)
    have at5 : ∀ {x : Addr} {o : HO}, x ≠ A.p → x ≠ A.dk → x ≠ A.dt → H x = some o → H5 x = some o := fun h1 h2 h3 ho => by
      show upd (upd H3 A.dk _) A.dt _ _ = _
      rw [upd_ne h3, upd_ne h2]
      exact at3 h1 ho
    refine ⟨_, rfl, A.p, C, A.dx, _, _, rfl, e56 _ _ p5, T.cl, T.n_above, fl_above _ _, _, rfl, A.da, _, rfl, dputN (e56 _ _ (at5 d.pa.symm d.ka.symm d.ta.symm D.a)) hg hlen, ?_⟩
    let H7 := upd H6 A.da (.dK (dF (S.ks ++ [S.gv]) (fset (fun n => .ref (A.ab n)) S.gv (.ref l0))))
    have p7 : H7 A.p = some (.ins C A.dx (fl A (S.gv + 1))) := by show upd _ _ _ _ = _; rw [upd_ne d.pa]; exact e56 _ _ p5
    have k7 : Keep (A.fp S.ks) H H7 := k6.trans (keep_upd (fp_da _))
    have f7 : H7 A.df = some (.dK (dF S.ks fun n => .int (S.fr n : Int))) := by
      show upd _ _ _ _ = _
      rw [upd_ne d.af.symm]
      exact e56 _ _ (at5 d.pf.symm d.kf.symm d.tf.symm D.f)
    refine ⟨_, rfl, A.p, C, A.dx, _, _, rfl, p7, T.cl, T.n_freely, fl_freely _ _, _, rfl, A.df, _, rfl, dputN f7 hg hlen, _, rfl, ?_⟩
    let H8 := upd H7 A.df (.dK (dF (S.ks ++ [S.gv]) (fset (fun n => .int (S.fr n : Int)) S.gv (.int 1))))
    have k8 : Keep (A.fp S.ks) H H8 := k7.trans (keep_upd (fp_df _))
    have t8 : TS H H8 := k8.ts D.noTup
    have nl0 : ∀ {x : Addr} {o : HO}, H5 x = some o → x ≠ l0 := fun ho => ne_of_none ho hl0
    have fresh : ∀ {x : Addr}, x ∈ A.fp S.ks → x ≠ l0 := fun {x} hx => by
      obtain ⟨o, ho⟩ := in0 hx
      intro e
      have hx0 : H5 x = none := by
        rw [e]
        exact hl0
      by_cases h1 : x = A.p
      · rw [h1, p5] at hx0
        cases hx0
      · by_cases h2 : x = A.dt
        · rw [h2] at hx0
          have : H5 A.dt = some (.dK (dF (S.ks ++ [S.gv]) (fset A.tg S.gv tag))) := upd_same
          rw [this] at hx0
          cases hx0
        · by_cases h3 : x = A.dk
          · rw [h3] at hx0
            have : H5 A.dk = some (.dK (dF (S.ks ++ [S.gv]) (fset A.kp S.gv (.ref q1)))) := by show upd _ _ _ _ = _; rw [upd_ne d.kt]; exact upd_same
            rw [this] at hx0
            cases hx0
          · rw [at5 h1 h3 h2 ho] at hx0
            cases hx0
    have at8 : ∀ {x : Addr} {o : HO}, x ≠ A.da → x ≠ A.df → x ≠ l0 → H5 x = some o → H8 x = some o := fun h1 h2 h3 ho => by
      show upd (upd (upd H5 l0 _) A.da _) A.df _ _ = _
      rw [upd_ne h2, upd_ne h1, upd_ne h3]
      exact ho
    have tq0 : H8 q0 = some (.tup xs) := by
      have z : H3 q0 = some (.tup xs) := e23 _ _ upd_same
      have ts : TS H3 H8 := fun p ys y => by
        have n1 : ∀ {x : Addr}, x ∈ A.fp S.ks → p ≠ x := fun {x} hx e => by
          subst e
          obtain ⟨o, ho⟩ := in0 hx
          by_cases h1 : p = A.p
          · rw [h1, p3] at y
            cases y
          · rw [at3 h1 ho] at y
            exact D.noTup _ hx ys (by rw [ho]; exact y)
        have y5 : H5 p = some (.tup ys) := by
          show upd (upd H3 A.dk _) A.dt _ _ = _
          rw [upd_ne (n1 (fp_dt _)), upd_ne (n1 (fp_dk _))]
          exact y
        exact at8 (n1 (fp_da _)) (n1 (fp_df _)) (nl0 y5) y5
      exact ts _ _ z
    have tq1 : H8 q1 = some (.tup [.str kind, .ref q0]) := by
      have y : H3 q1 = some (.tup [.str kind, .ref q0]) := upd_same
      have n1 : ∀ {x : Addr}, x ∈ A.fp S.ks → q1 ≠ x := fun {x} hx e => by
        subst e
        obtain ⟨o, ho⟩ := in0 hx
        by_cases h1 : q1 = A.p
        · rw [h1, p3] at y
          cases y
        · rw [at3 h1 ho] at y
          exact D.noTup _ hx _ (by rw [ho]; exact y)
      have y5 : H5 q1 = some (.tup [.str kind, .ref q0]) := by
        show upd (upd H3 A.dk _) A.dt _ _ = _
        rw [upd_ne (n1 (fp_dt _)), upd_ne (n1 (fp_dk _))]
        exact y
      exact at8 (n1 (fp_da _)) (n1 (fp_df _)) (nl0 y5) y5
    have inn : ∀ {n : Nat}, n ∈ S.ks ++ [S.gv] → n ∈ S.ks ∨ n = S.gv := fun h => by
      rcases List.mem_append.mp h with z | z
      · exact .inl z
      · exact .inr (List.mem_singleton.mp z)
    have ng : ∀ {n : Nat}, n ∈ S.ks → n ≠ S.gv := fun hn e => hg (e ▸ hn)
    refine q H8 (shAddA A S.gv l0 (.ref q1) tag) ⟨⟨?_, ?_, ?_, ?_, ?_, ?_, fun n hn => ?_, fun n hn => ?_, fun n hn => ?_, ?_⟩, rfl, rfl, k8, fun b hb => ?_⟩
    · show upd _ _ _ A.p = _
      rw [upd_ne d.pf]
      exact p7
    · refine at8 d.ka d.kf (fresh (fp_dk _)) ?_
      show upd _ _ _ A.dk = _
      rw [upd_ne d.kt]
      exact upd_same
    · exact at8 d.ta d.tf (fresh (fp_dt _)) upd_same
    · show upd _ _ _ A.da = _
      rw [upd_ne d.af, show H7 A.da = _ from upd_same]
      show some (HO.dK (dF _ _)) = some (HO.dK (dF _ _))
      rw [dF_ext (g := fun n => V.ref (fset A.ab S.gv l0 n)) fun k _ => ?_]
      · rfl
      · by_cases e : k = S.gv
        · rw [e, fset_same, fset_same]
        · rw [fset_ne _ _ e, fset_ne _ _ e]
    · show upd _ _ _ A.df = _
      rw [upd_same]
      show some (HO.dK (dF _ _)) = some (HO.dK (dF _ _))
      rw [dF_ext (g := fun n => V.int ((fset S.fr S.gv 1 n : Nat) : Int)) fun k _ => ?_]
      · rfl
      · by_cases e : k = S.gv
        · rw [e, fset_same, fset_same]
          rfl
        · rw [fset_ne _ _ e, fset_ne _ _ e]
    · exact at8 d.al.symm d.fs.symm (fresh (fp_ls _)) (at5 d.ps.symm d.kl.symm d.tl.symm D.s)
    · rcases inn hn with h | h
      · show H8 (fset A.ab S.gv l0 n) = some (.lst (nvs (fset S.ab S.gv [] n)))
        rw [fset_ne _ _ (ng h), fset_ne _ _ (ng h)]
        exact at8 (d.na n h) (d.nf n h) (fresh (fp_ab h)) (at5 (d.np n h) (d.nk n h) (d.nt n h) (D.al n h))
      · show H8 (fset A.ab S.gv l0 n) = some (.lst (nvs (fset S.ab S.gv [] n)))
        rw [h, fset_same, fset_same]
        show upd (upd (upd H5 l0 _) A.da _) A.df _ _ = _
        rw [upd_ne (fresh (fp_df _)).symm, upd_ne (fresh (fp_da _)).symm]
        exact upd_same
    · rcases inn hn with h | h
      · show KeptV G H8 (fset A.kp S.gv (.ref q1) n) (fset S.tw S.gv t n)
        rw [fset_ne _ _ (ng h), fset_ne _ _ (ng h)]
        exact (D.kv n h).ts t8
      · show KeptV G H8 (fset A.kp S.gv (.ref q1) n) (fset S.tw S.gv t n)
        rw [h, fset_same, fset_same]
        exact hkv H8 q1 q0 t8 tq1 tq0
    · rcases inn hn with h | h
      · show LabV G H8 (fset A.tg S.gv tag n) (fset S.lb S.gv lab n)
        rw [fset_ne _ _ (ng h), fset_ne _ _ (ng h)]
        exact (D.tv n h).ts t8
      · show LabV G H8 (fset A.tg S.gv tag n) (fset S.lb S.gv lab n)
        rw [h, fset_same, fset_same]
        exact hlb.ts t8
    · show ((shAddA A S.gv l0 (.ref q1) tag).fp (S.ks ++ [S.gv])).Nodup
      rw [fp_add _ _ _ _ hg]
      refine List.nodup_append.mpr ⟨D.nd, by simp, fun x hx y hy => ?_⟩
      rw [List.mem_singleton] at hy
      rw [hy]
      exact fresh hx
    · have hb : b ∈ (shAddA A S.gv l0 (.ref q1) tag).fp (S.ks ++ [S.gv]) := hb
      rw [fp_add _ _ _ _ hg] at hb
      rcases List.mem_append.mp hb with z | z
      · exact .inl z
      · rw [List.mem_singleton.mp z]
        exact .inr (keep_free k5 hl0 fun y => fresh y rfl)
theorem Stp.ext {H H' : Hp} {A A' : ShA} {S S1 S2 : Shk} (x : Stp C G H A S H' A' S1) (hk : S2.ks = S1.ks) (hg : S2.gv = S1.gv) (e : ∀ n ∈ S1.ks, S2.tw n = S1.tw n ∧ S2.lb n = S1.lb n ∧ S2.ab n = S1.ab n ∧ S2.fr n = S1.fr n) : Stp C G H A S H' A' S2 :=
  ⟨x.at_.ext hk hg e, x.p, x.sn, x.kp, fun b hb => x.nw b (by rw [← hk]; exact hb)⟩
theorem ShAt.out {H : Hp} {A : ShA} {S : Shk} (D : ShAt C G H A S) {a : Addr} (h : H a = none) : a ∉ A.fp S.ks := fun m => by
  obtain ⟨o, ho, _⟩ := D.there m
  rw [h] at ho
  cases ho
def spPutLeaf (C : Addr) (G : List Kd) (K : PySem.W.Frag) : Sp := fun vs H Q _ => ∃ (A : ShA) (S : Shk) (a : Addr) (xs : List V) (rows : List (Nat × Kd)), vs = [.ref A.p, .ref a] ∧ ShAt C G H A S ∧ SqL K H a xs ∧ RowsV G H xs rows ∧ RowsOk rows ∧ S.gv ∉ S.ks ∧ S.ks.length < 1000 ∧
  ∀ (H' : Hp) (A' : ShA), Stp C G H A S H' A' (S.addLeaf rows) → Q (.int (S.gv : Int)) H'
theorem df_put_leaf (T : ClsT K C) (B : Bas mg) (D1 : DfG P w K mg base 6 "checked_rows" ["rows"] (spCRows G K)) (D2 : DfG P w K mg base 1 "label_of_rows" ["rows"] (spLRows G K)) (D3 : DfM P w K mg base C 1 "set_down" ["self", "kind", "what", "tag"] (spSetDown C G K))
    (R : RawM K C "put_leaf" "Shelf.put_leaf" s_put_leaf ["self", "rows"]) : DfM P w K mg base C 7 "put_leaf" ["self", "rows"] (spPutLeaf C G K) := by
  obtain ⟨f, fd, hm, hb, F⟩ := R
  obtain ⟨_, _, m_checked_rows, k_checked_rows, b_checked_rows, F_checked_rows⟩ := D1
  obtain ⟨_, _, m_label_of_rows, k_label_of_rows, b_label_of_rows, F_label_of_rows⟩ := D2
  obtain ⟨_, _, M_set_down, b_set_down, F_set_down⟩ := D3
  refine ⟨f, fd, hm, hb, F.ok sc_put_leaf (fun vs H Q E h => ?_) (fun cdv A outer s H vs Q E hr h => ?_)⟩
  · obtain ⟨A, S, a, xs, rows, rfl, _⟩ := h
    rfl
  · obtain ⟨A, S, a, xs, rows, rfl, D, hS, hR, ok, hg, hlen, q⟩ := h
    have cl := T.cl
    have nd := sc_put_leaf.nd
    obtain ⟨_, c_LEAF⟩ := B.c_LEAF
    refine ⟨_, (pss_cons (ps_set (i := 2) nd rfl (Or.inl rfl) (pe_call (F_checked_rows.mono (by decide)) hr rfl m_checked_rows k_checked_rows b_checked_rows .nil pass0 (pa_cons (pv 1) pa_nil)))
      (pss_one (ps_ret (pe_meth (pv 0) cl M_set_down (F_set_down.mono (by decide)) hr b_set_down .nil pass0 (pa_cons (pe_glob (v := .str "leaf") rfl c_LEAF ⟨_, rfl⟩) (pa_cons (pv 2) (pa_cons (pe_call (F_label_of_rows.mono (by decide)) hr rfl m_label_of_rows k_label_of_rows b_label_of_rows .nil pass0 (pa_cons (pv 2) pa_nil)) pa_nil))))))), ?_⟩
    refine ⟨_, rfl, a, xs, rows, rfl, hS, hR, ok, fun p ys H1 e1 hp hp1 r1 => ?_⟩
    refine ⟨_, rfl, A.p, A.dx, _, rfl, (D.same e1).ob, fl_no _ _ (by decide +kernel), _, rfl, _, rfl, p, ys, rows, rfl, SqL.of hp1, r1, ok, fun tag H2 e2 l2 => ?_⟩
    have e12 := e1.trans e2
    have D2 := D.same e12
    refine ⟨A, S, "leaf", p, ys, tag, .leaf rows, labRows rows, rfl, D2, SqL.of (e2 _ _ hp1), fun H' u v ts hu hv => ⟨u, v, ys, rfl, hu, hv, RowsV.ts ((ts_same e2).trans ts) r1⟩, l2, D.out hp, hg, hlen, fun H3 A3 st => ?_⟩
    exact q H3 A3 (Stp.trans D (D.stp_same e12) st)
def spNeedHeld (C : Addr) (G : List Kd) (K : PySem.W.Frag) : Sp := fun vs H Q _ => ∃ (A : ShA) (S : Shk) (a : Addr) (bs : List Nat), vs = [.ref A.p, .ref a] ∧ ShAt C G H A S ∧ SqL K H a (nvs bs) ∧ (∀ b ∈ bs, b ∈ S.ks ∧ S.fr b ≠ 0) ∧ Q .non H
theorem df_need_held (T : ClsT K C) (R : RawM K C "need_held" "Shelf.need_held" s_need_held ["self", "branches"]) : DfM P w K mg base C 1 "need_held" ["self", "branches"] (spNeedHeld C G K) := by
  obtain ⟨f, fd, hm, hb, F⟩ := R
  refine ⟨f, fd, hm, hb, F.ok sc_need_held (fun vs H Q E h => ?_) (fun cdv A outer s H vs Q E hr h => ?_)⟩
  · obtain ⟨A, S, a, bs, rfl, _⟩ := h
    rfl
  · obtain ⟨A, S, a, bs, rfl, D, hS, hbs, q⟩ := h
    have hu := hu_of hr
    have nd := sc_need_held.nd
    refine ⟨_, (pss_one (ps_for PassesOwn.never rfl (pi_list (pv 1)) (pg_name (i := 2) nd rfl (Or.inl rfl))
        (pss_one (ps_if (pt_cmpR op_eq (pe_dget hu (pe_fld (pv 0) rfl) (pv 2) (fun _ _ => rfl)) pe_int (nomark _))
          (pss_one ps_never)
          pss_nil)))), ?_⟩
    refine ⟨_, rfl, a, rfl, ⟨_, hS⟩, for_it (walk_list (K := K) (a := a) (xs := nvs bs)) (fun i σ H' => ∃ v, σ = [some (.ref A.p), some (.ref a), v] ∧ H' = H) ⟨none, rfl, rfl⟩ (fun i σ H' _ ⟨_, _, e⟩ => by rw [e]; exact hS) ?_ ?_⟩
    · rintro i y σ H' _ hi ⟨v, rfl, rfl⟩ ⟨rfl, hy⟩
      obtain ⟨b, hb', rfl⟩ := nvs_get hy
      obtain ⟨h1, h2⟩ := hbs b (List.mem_of_getElem? hb')
      refine ⟨_, rfl, A.p, C, A.dx, _, _, rfl, D.ob, T.cl, T.n_freely, fl_freely _ _, _, rfl, A.df, _, rfl, dget D.f h1, rfl, false, blF (vint_ne (by omega)), iteF ⟨_, rfl, rfl⟩⟩
    · rintro σ H' ⟨v, rfl, rfl⟩
      exact q
def shHand (S : Shk) (bs : List Nat) (n : Nat) : Shk := { S with ab := fun m => if m ∈ bs then S.ab m ++ [n] else S.ab m, fr := fun m => if m ∈ bs then S.fr m - 1 else S.fr m }
def spHandOver (C : Addr) (G : List Kd) (K : PySem.W.Frag) : Sp := fun vs H Q _ => ∃ (A : ShA) (S : Shk) (a : Addr) (bs : List Nat) (n : Nat), vs = [.ref A.p, .ref a, .int (n : Int)] ∧ ShAt C G H A S ∧ SqL K H a (nvs bs) ∧ a ∉ A.fp S.ks ∧ bs.Nodup ∧ (∀ b ∈ bs, b ∈ S.ks ∧ S.fr b ≠ 0 ∧ (S.ab b).length < 1000) ∧ S.ks.length < 1000 ∧
  ∀ H' : Hp, Stp C G H A S H' A (shHand S bs n) → Q .non H'
theorem nvs_snoc (l : List Nat) (n : Nat) : nvs l ++ [.int (n : Int)] = nvs (l ++ [n]) := by
  unfold nvs
  rw [List.map_append]
  rfl
theorem df_hand_over (T : ClsT K C) (R : RawM K C "hand_over" "Shelf.hand_over" s_hand_over ["self", "branches", "number"]) : DfM P w K mg base C 1 "hand_over" ["self", "branches", "number"] (spHandOver C G K) := by
  obtain ⟨f, fd, hm, hb, F⟩ := R
  refine ⟨f, fd, hm, hb, F.ok sc_hand_over (fun vs H Q E h => ?_) (fun cdv A outer s H vs Q E hr h => ?_)⟩
  · obtain ⟨A, S, a, bs, n, rfl, _⟩ := h
    rfl
  · obtain ⟨A, S, a, bs, n, rfl, D, hS, hna, hnd, hbs, hlen, q⟩ := h
    have hu := hu_of hr
    have nd := sc_hand_over.nd
    refine ⟨_, (pss_one (ps_for PassesOwn.never rfl (pi_list (pv 1)) (pg_name (i := 3) nd rfl (Or.inl rfl))
        (pss_cons (ps_dput hu (pe_fld (pv 0) rfl) (pv 3) (pe_op op_sub (pe_dget hu (pe_fld (pv 0) rfl) (pv 3) (fun _ _ => rfl)) pe_int) rfl)
        (pss_one (ps_expr (pe_bm PySem.F.plainAttrs_list PySem.F.slot_list_append PySem.F.type_list_append mt_append (pe_dget hu (pe_fld (pv 0) rfl) (pv 3) (fun _ _ => rfl)) (pa_cons (pv 2) pa_nil))))))), ?_⟩
    refine ⟨_, rfl, a, rfl, ⟨_, hS⟩, for_it (walk_list (K := K) (a := a) (xs := nvs bs)) (fun i σ H' => ∃ v, σ = [some (.ref A.p), some (.ref a), some (.int (n : Int)), v] ∧ Stp C G H A S H' A (shHand S (bs.take i) n))
      ⟨none, rfl, D.refl.ext rfl rfl fun m _ => ⟨rfl, rfl, by simp [shHand], by simp [shHand]⟩⟩ (fun i σ H' _ ⟨_, _, st⟩ => keep_sql st.kp hS hna) ?_ ?_⟩
    · rintro i y σ H' _ hi ⟨v, rfl, st⟩ ⟨rfl, hy⟩
      obtain ⟨b, hb', rfl⟩ := nvs_get hy
      obtain ⟨h1, h2, h3⟩ := hbs b (List.mem_of_getElem? hb')
      have hbi : b ∉ bs.take i := fun m => by
        obtain ⟨j, hj⟩ := List.getElem?_of_mem m
        have hji : j < i := by
          have := lt_of_get hj
          rw [List.length_take] at this
          omega
        rw [List.getElem?_take_of_lt hji] at hj
        have := nd_ix hnd hj hb'
        omega
      have D' := st.at_
      have efr : (shHand S (bs.take i) n).fr b = S.fr b := if_neg hbi
      have eab : (shHand S (bs.take i) n).ab b = S.ab b := if_neg hbi
      have hput := dput (v := .int ((S.fr b : Int) - 1)) D'.f h1 hlen
      refine ⟨_, rfl, A.p, C, A.dx, _, _, rfl, D'.ob, T.cl, T.n_freely, fl_freely _ _, _, rfl, A.df, _, rfl, dget D'.f h1, _, _, rfl, rfl, ?_⟩
      rw [efr]
      refine ⟨_, rfl, A.p, C, A.dx, _, _, rfl, D'.ob, T.cl, T.n_freely, fl_freely _ _, _, rfl, A.df, _, rfl, hput, ?_⟩
      have e1 : ((S.fr b : Int) - 1) = ((S.fr b - 1 : Nat) : Int) := by omega
      rw [e1, fr_put]
      have st2 := st.at_.stp_setFr (fset (shHand S (bs.take i) n).fr b (S.fr b - 1))
      have D2 := st2.at_
      refine ⟨_, rfl, A.p, C, A.dx, _, _, rfl, D2.ob, T.cl, T.n_above, fl_above _ _, _, rfl, A.da, _, rfl, dget D2.a h1, .inl ⟨rfl, _, SqL.of (D2.al b h1)⟩, _, rfl, A.ab b, _, _, rfl, rfl, D2.al b h1, ?_, ?_⟩
      · rw [nvs_len]
        show ((shHand S (bs.take i) n).ab b).length < _
        rw [eab]
        exact small_lt (by omega)
      · show ∃ v, _ ∧ Stp C G H A S (upd _ (A.ab b) (.lst (nvs ((shHand S (bs.take i) n).ab b) ++ [.int (n : Int)]))) A (shHand S (bs.take (i + 1)) n)
        rw [nvs_snoc, eab]
        have st3 := D2.stp_setAb h1 (S.ab b ++ [n])
        refine ⟨_, rfl, (Stp.trans D st (Stp.trans D' st2 st3)).ext rfl rfl fun m hm' => ⟨rfl, rfl, ?_, ?_⟩⟩
        · show (if m ∈ bs.take (i + 1) then S.ab m ++ [n] else S.ab m) = fset (shHand S (bs.take i) n).ab b (S.ab b ++ [n]) m
          rw [take_snoc hb']
          by_cases e : m = b
          · rw [e, fset_same, if_pos (by simp)]
          · rw [fset_ne _ _ e]
            show _ = if m ∈ bs.take i then S.ab m ++ [n] else S.ab m
            by_cases z : m ∈ bs.take i
            · rw [if_pos z, if_pos (List.mem_append.mpr (.inl z))]
            · rw [if_neg z, if_neg (fun y => (List.mem_append.mp y).elim z fun x => e (List.mem_singleton.mp x))]
        · show (if m ∈ bs.take (i + 1) then S.fr m - 1 else S.fr m) = fset (shHand S (bs.take i) n).fr b (S.fr b - 1) m
          rw [take_snoc hb']
          by_cases e : m = b
          · rw [e, fset_same, if_pos (by simp)]
          · rw [fset_ne _ _ e]
            show _ = if m ∈ bs.take i then S.fr m - 1 else S.fr m
            by_cases z : m ∈ bs.take i
            · rw [if_pos z, if_pos (List.mem_append.mpr (.inl z))]
            · rw [if_neg z, if_neg (fun y => (List.mem_append.mp y).elim z fun x => e (List.mem_singleton.mp x))]
    · rintro σ H' ⟨v, rfl, st⟩
      rw [take_all (by rw [nvs_len]; exact Nat.le_refl _)] at st
      exact q H' st
theorem paired_map {α β γ : Type} {F : β → γ → Prop} {f : α → β} {g : α → γ} : ∀ {l : List α}, (∀ n ∈ l, F (f n) (g n)) → Paired F (l.map f) (l.map g)
  | [], _ => .nil
  | a :: l, h => .cons (h a (List.mem_cons.mpr (.inl rfl))) (paired_map fun n hn => h n (List.mem_cons.mpr (.inr hn)))
theorem add_hand {S : Shk} {ns : List Nat} (w0 : W0 S) (hin : ∀ b ∈ ns, b ∈ S.ks) : ∀ m ∈ (S.addStem ns).ks, (S.addStem ns).tw m = (shHand (shAdd S (.stem ns) (labOver (ns.map S.lb))) ns S.gv).tw m ∧ (S.addStem ns).lb m = (shHand (shAdd S (.stem ns) (labOver (ns.map S.lb))) ns S.gv).lb m ∧
    (S.addStem ns).ab m = (shHand (shAdd S (.stem ns) (labOver (ns.map S.lb))) ns S.gv).ab m ∧ (S.addStem ns).fr m = (shHand (shAdd S (.stem ns) (labOver (ns.map S.lb))) ns S.gv).fr m := fun m _ => by
  have hg : S.gv ∉ ns := fun z => w0.gv_out (hin _ z)
  refine ⟨rfl, rfl, ?_, ?_⟩
  · show (if m = S.gv then [] else if m ∈ ns then S.ab m ++ [S.gv] else S.ab m) = if m ∈ ns then fset S.ab S.gv [] m ++ [S.gv] else fset S.ab S.gv [] m
    by_cases e : m = S.gv
    · rw [if_pos e, e, if_neg hg, fset_same]
    · rw [if_neg e, fset_ne _ _ e]
  · show (if m = S.gv then 1 else if m ∈ ns then S.fr m - 1 else S.fr m) = if m ∈ ns then fset S.fr S.gv 1 m - 1 else fset S.fr S.gv 1 m
    by_cases e : m = S.gv
    · rw [if_pos e, e, if_neg hg, fset_same]
    · rw [if_neg e, fset_ne _ _ e]
/-- a stem has no more stems above than there are twigs -/
theorem _root_.Twg.W0.ab_len {X : Type} {S : Sh X} (w : W0 S) {n : Nat} (hn : n ∈ S.ks) : (S.ab n).length ≤ S.ks.length := nd_len (w.an n hn) fun _ hs => (w.above_in hn hs).1
def spPutStem (C : Addr) (G : List Kd) (K : PySem.W.Frag) : Sp := fun vs H Q _ => ∃ (A : ShA) (S : Shk) (a : Addr) (ns : List Nat), vs = [.ref A.p, .ref a] ∧ ShAt C G H A S ∧ SqL K H a (nvs ns) ∧ W0 S ∧ (∀ b ∈ ns, b ∈ S.ks ∧ S.fr b ≠ 0) ∧ OverOk (ns.map S.lb) ∧ S.ks.length < 900 ∧
  ∀ (H' : Hp) (A' : ShA), Stp C G H A S H' A' (S.addStem ns) → Q (.int (S.gv : Int)) H'
theorem df_put_stem (T : ClsT K C) (B : Bas mg) (D1 : DfM P w K mg base C 1 "need" ["self", "number"] (spNeed C G)) (D2 : DfG P w K mg base 4 "label_over" ["labels"] (spOver G K)) (D3 : DfM P w K mg base C 1 "need_held" ["self", "branches"] (spNeedHeld C G K))
    (D4 : DfM P w K mg base C 1 "set_down" ["self", "kind", "what", "tag"] (spSetDown C G K)) (D5 : DfM P w K mg base C 1 "hand_over" ["self", "branches", "number"] (spHandOver C G K))
    (R : RawM K C "put_stem" "Shelf.put_stem" s_put_stem ["self", "numbers"]) : DfM P w K mg base C 5 "put_stem" ["self", "numbers"] (spPutStem C G K) := by
  obtain ⟨f, fd, hm, hb, F⟩ := R
  obtain ⟨_, _, M_need, b_need, F_need⟩ := D1
  obtain ⟨_, _, m_label_over, k_label_over, b_label_over, F_label_over⟩ := D2
  obtain ⟨_, _, M_need_held, b_need_held, F_need_held⟩ := D3
  obtain ⟨_, _, M_set_down, b_set_down, F_set_down⟩ := D4
  obtain ⟨_, _, M_hand_over, b_hand_over, F_hand_over⟩ := D5
  refine ⟨f, fd, hm, hb, F.ok sc_put_stem (fun vs H Q E h => ?_) (fun cdv A outer s H vs Q E hr h => ?_)⟩
  · obtain ⟨A, S, a, ns, rfl, _⟩ := h
    rfl
  · obtain ⟨A, S, a, ns, rfl, D, hS, wf, hns, ov, hlen, q⟩ := h
    have hu := hu_of hr
    have cl := T.cl
    have nd := sc_put_stem.nd
    obtain ⟨_, c_STEM⟩ := B.c_STEM
    have ovl := ov.le
    rw [List.length_map] at ovl
    have hgood : ∀ k ∈ ns, (S.lb k).Good := fun k hk => wf.lk.good (hns k hk).1
    have hnd : ns.Nodup := up_nodup ov.up hgood
    refine ⟨_, (pss_cons (ps_set (i := 2) nd rfl (Or.inl rfl) (pe_callTy call_list_of (by rfl) B.b_list (by decide +kernel) (pa_cons (pv 1) pa_nil)))
      (pss_cons (ps_for PassesOwn.never rfl (pi_list (pv 2)) (pg_name (i := 3) nd rfl (Or.inl rfl))
        (pss_one (ps_expr (pe_meth (pv 0) cl M_need (F_need.mono (by decide)) hr b_need .nil pass0 (pa_cons (pv 3) pa_nil)))))
      (pss_cons (ps_set (i := 4) nd rfl (Or.inl rfl) (pe_call (F_label_over.mono (by decide)) hr rfl m_label_over k_label_over b_label_over .nil pass0 (pa_cons (pe_lc (own := [("branch", 3)]) (g := (gName 3)) (by rfl) nd (pi_list (pv 2)) (blkOk_by (N := ["self", "numbers", "some", "branch", "tag", "number"]) (sc := defScope s_put_stem) (by decide +kernel)) (fun _ _ _ _ _ => (pg_name (i := 3) nd rfl (Or.inl rfl))) (fun _ _ _ _ _ => pts_nil) (fun _ _ _ _ _ => (pe_dget hu (pe_fldK (K := K) (pv 0) rfl) (pv 3) (fun _ _ => rfl)))) pa_nil)))
      (pss_cons (ps_expr (pe_meth (pv 0) cl M_need_held (F_need_held.mono (by decide)) hr b_need_held .nil pass0 (pa_cons (pv 2) pa_nil)))
      (pss_cons (ps_set (i := 5) nd rfl (Or.inl rfl) (pe_meth (pv 0) cl M_set_down (F_set_down.mono (by decide)) hr b_set_down .nil pass0 (pa_cons (pe_glob (v := .str "stem") rfl c_STEM ⟨_, rfl⟩) (pa_cons (pv 2) (pa_cons (pv 4) pa_nil)))))
      (pss_cons (ps_expr (pe_meth (pv 0) cl M_hand_over (F_hand_over.mono (by decide)) hr b_hand_over .nil pass0 (pa_cons (pv 2) (pa_cons (pv 5) pa_nil))))
      (pss_one (ps_ret (pv 5))))))))), ?_⟩
    refine ⟨_, rfl, a, _, rfl, .inl hS, fun q0 hq0 => ?_⟩
    have e1 : Same H (upd H q0 (.lst (nvs ns))) := same_new hq0
    have hq0' : q0 ∉ A.fp S.ks := D.out hq0
    refine ⟨_, rfl, q0, rfl, ⟨_, SqL.of upd_same⟩, for_it (walk_list (K := K) (a := q0) (xs := nvs ns)) (fun i σ H' => ∃ v, σ = [some (.ref A.p), some (.ref a), some (.ref q0), v, none, none] ∧ H' = upd H q0 (.lst (nvs ns))) ⟨none, rfl, rfl⟩
      (fun i σ H' _ ⟨_, _, e⟩ => by rw [e]; exact SqL.of upd_same) ?_ ?_⟩
    · rintro i y σ H' _ hi ⟨v, rfl, rfl⟩ ⟨rfl, hy⟩
      obtain ⟨b, hb', rfl⟩ := nvs_get hy
      have D' := D.same e1
      exact ⟨_, rfl, A.p, A.dx, _, rfl, D'.ob, fl_no _ _ (by decide +kernel), _, rfl, A, S, b, rfl, D', (hns b (List.mem_of_getElem? hb')).1, _, rfl, rfl⟩
    · rintro σ H' ⟨v, rfl, rfl⟩
      have D' := D.same e1
      refine ⟨_, rfl, q0, rfl, ⟨_, SqL.of upd_same⟩, fun L hL => ?_⟩
      refine lc_rel (walk_list (K := K) (a := q0) (xs := nvs ns)) hL (fun i acc _ => acc = (ns.take i).map A.tg) (by rw [nvs_len]; omega) (fun H' e => SqL.of (e _ _ upd_same)) (fun _ _ _ _ _ h => h) rfl ?_ ?_
      · rintro i y acc H' hi hy e rfl Kx Ky kx ky
        obtain ⟨b, hb', rfl⟩ := nvs_get hy
        have D2 := D'.same e
        refine ⟨rfl, _, rfl, A.p, C, A.dx, _, _, rfl, D2.ob, T.cl, T.n_tags, fl_tags _ _, _, rfl, A.dt, _, rfl, dget D2.t (hns b (List.mem_of_getElem? hb')).1, kx _ _ (Same.refl _) ?_⟩
        rw [take_snoc hb', List.map_append]
        rfl
      · rintro acc H2 e2 rfl hl hd
        rw [take_all (by rw [nvs_len]; exact Nat.le_refl _)] at hd
        have D2 := D'.same e2
        refine ⟨L, _, ns.map S.lb, rfl, SqL.of hd, paired_map fun n hn => D2.tv n (hns n hn).1, ov, fun l hl => ?_, fun tag H3 e3 l3 => ?_⟩
        · obtain ⟨k, hk, rfl⟩ := List.mem_map.mp hl
          exact hgood k hk
        have D3 := D2.same e3
        have eH3 := (e1.trans e2).trans e3
        have hs3 : H3 q0 = some (.lst (nvs ns)) := (e2.trans e3) _ _ upd_same
        refine ⟨_, rfl, A.p, A.dx, _, rfl, D3.ob, fl_no _ _ (by decide +kernel), _, rfl, A, S, q0, ns, rfl, D3, SqL.of hs3, hns, ?_⟩
        refine ⟨_, rfl, A.p, A.dx, _, rfl, D3.ob, fl_no _ _ (by decide +kernel), _, rfl, _, rfl, A, S, "stem", q0, nvs ns, tag, .stem ns, labOver (ns.map S.lb), rfl, D3, SqL.of hs3, fun H' u v ts hu hv => ⟨u, v, rfl, hu, hv⟩, l3, hq0', wf.gv_out, by omega, fun H4 A4 st => ?_⟩
        have hg : S.gv ∉ ns := fun z => wf.gv_out (hns _ z).1
        have hs4 : H4 q0 = some (.lst (nvs ns)) := st.kp _ _ hs3 hq0'
        have D4 := st.at_
        refine ⟨_, rfl, A4.p, A4.dx, _, by rw [st.p], D4.ob, fl_no _ _ (by decide +kernel), _, rfl, _, rfl, A4, shAdd S (.stem ns) (labOver (ns.map S.lb)), q0, ns, S.gv, (by rw [st.p]; rfl), D4, SqL.of hs4, fun z => ?_, hnd, fun b hb => ?_, ?_, fun H5 st5 => ?_⟩
        · rcases st.nw _ z with y | y
          · exact hq0' y
          · rw [hs3] at y
            cases y
        · obtain ⟨x1, x2⟩ := hns b hb
          have ne : b ≠ S.gv := wf.ne_gv x1
          refine ⟨List.mem_append.mpr (.inl x1), ?_, ?_⟩
          · show fset S.fr S.gv 1 b ≠ 0
            rw [fset_ne _ _ ne]
            exact x2
          · show (fset S.ab S.gv [] b).length < 1000
            rw [fset_ne _ _ ne]
            have := wf.ab_len x1
            omega
        · show (S.ks ++ [S.gv]).length < 1000
          rw [List.length_append]
          simp
          omega
        · exact ⟨_, rfl, q H5 A4 (Stp.trans D (D.stp_same eH3) (Stp.trans D3 st (st5.ext rfl rfl (add_hand wf fun b hb => (hns b hb).1))))⟩
def spHold (C : Addr) (G : List Kd) : Sp := fun vs H Q _ => ∃ (A : ShA) (S : Shk) (n : Nat), vs = [.ref A.p, .int (n : Int)] ∧ ShAt C G H A S ∧ n ∈ S.ks ∧ S.ks.length < 1000 ∧ ∀ H', Stp C G H A S H' A (S.setFr n (S.fr n + 1)) → Q .non H'
theorem df_hold (T : ClsT K C) (D1 : DfM P w K mg base C 1 "need" ["self", "number"] (spNeed C G)) (R : RawM K C "hold" "Shelf.hold" s_hold ["self", "number"]) : DfM P w K mg base C 2 "hold" ["self", "number"] (spHold C G) := by
  obtain ⟨f, fd, hm, hb, F⟩ := R
  obtain ⟨_, _, M_need, b_need, F_need⟩ := D1
  refine ⟨f, fd, hm, hb, F.ok sc_hold (fun vs H Q E h => ?_) (fun cdv A outer s H vs Q E hr h => ?_)⟩
  · obtain ⟨A, S, n, rfl, _⟩ := h
    rfl
  · obtain ⟨A, S, n, rfl, D, hn, hlen, q⟩ := h
    have hu := hu_of hr
    have cl := T.cl
    refine ⟨_, (pss_cons (ps_expr (pe_meth (pv 0) cl M_need (F_need.mono (by decide)) hr b_need .nil pass0 (pa_cons (pv 1) pa_nil)))
      (pss_one (ps_dput hu (pe_fld (pv 0) rfl) (pv 1) (pe_op op_add (pe_dget hu (pe_fld (pv 0) rfl) (pv 1) (fun _ _ => rfl)) pe_int) rfl))), ?_⟩
    refine ⟨_, rfl, A.p, A.dx, _, rfl, D.ob, fl_no _ _ (by decide +kernel), _, rfl, A, S, n, rfl, D, hn, ?_⟩
    have hput := dput (v := .int ((S.fr n : Int) + 1)) D.f hn hlen
    refine ⟨_, rfl, A.p, C, A.dx, _, _, rfl, D.ob, T.cl, T.n_freely, fl_freely _ _, _, rfl, A.df, _, rfl, dget D.f hn, _, _, rfl, rfl, ?_⟩
    refine ⟨_, rfl, A.p, C, A.dx, _, _, rfl, D.ob, T.cl, T.n_freely, fl_freely _ _, _, rfl, A.df, _, rfl, hput, ?_⟩
    have e1 : ((S.fr n : Int) + 1) = ((S.fr n + 1 : Nat) : Int) := by omega
    rw [e1, fr_put]
    exact q _ (D.stp_setFr _)
end
end Tw
end

section
set_option Elab.async false
set_option maxRecDepth 100000
set_option maxHeartbeats 4000000
set_option autoImplicit false
/-! the shelf's methods: a hold taken away, the sweep -/
namespace Tw
open PySem L2 Twg
abbrev s_let_go : Stmt := inClass (top 28) 8
theorem sc_let_go : FnScope ["self", "number"] ["self", "number"] (defScope s_let_go) := ⟨rfl, rfl, rfl, by decide +kernel, rfl, by decide +kernel, by decide +kernel⟩
abbrev s_sweep : Stmt := inClass (top 28) 9
theorem sc_sweep : FnScope ["self", "number", "todo", "here", "kind", "what", "branch"] ["self", "number"] (defScope s_sweep) := ⟨rfl, rfl, rfl, by decide +kernel, rfl, by decide +kernel, by decide +kernel⟩
def shMk (S : Shk) (ks : List Nat) (ab : Nat → List Nat) : Shk := { S with ks := ks, ab := ab }
theorem keep_mut {fp : List Addr} {H H' : Hp} (k : Keep fp H H') {q : Addr} {o : HO} (h : H q = none) : Keep fp H (upd H' q o) := fun b u e n => by
  rw [upd_ne (ne_of_none e h)]
  exact k b u e n
theorem fp_sub {A : ShA} {ks kt : List Nat} (h : ks.Sublist kt) : ∀ b ∈ A.fp ks, b ∈ A.fp kt := fun b hb => by
  rcases fp_iff.mp hb with e | e | e | e | e | e | ⟨n, hn, e⟩
  · exact fp_iff.mpr (.inl e)
  · exact fp_iff.mpr (.inr (.inl e))
  · exact fp_iff.mpr (.inr (.inr (.inl e)))
  · exact fp_iff.mpr (.inr (.inr (.inr (.inl e))))
  · exact fp_iff.mpr (.inr (.inr (.inr (.inr (.inl e)))))
  · exact fp_iff.mpr (.inr (.inr (.inr (.inr (.inr (.inl e))))))
  · exact fp_iff.mpr (.inr (.inr (.inr (.inr (.inr (.inr ⟨n, h.subset hn, e⟩))))))
theorem map_eraseIdx {α β : Type} (f : α → β) : ∀ (l : List α) (j : Nat), (l.map f).eraseIdx j = (l.eraseIdx j).map f
  | [], j => by simp
  | a :: l, 0 => by simp
  | a :: l, j + 1 => by
    rw [List.map_cons, List.eraseIdx_cons_succ, List.eraseIdx_cons_succ, List.map_cons, map_eraseIdx f l j]
/-- the i-th stands not among those ahead -/
theorem nd_take {α : Type} {l : List α} (h : l.Nodup) {i : Nat} {x : α} (hx : l[i]? = some x) : x ∉ l.take i := fun m => by
  obtain ⟨j, hj⟩ := List.getElem?_of_mem m
  have hji : j < i := by
    have := lt_of_get hj
    rw [List.length_take] at this
    omega
  rw [List.getElem?_take_of_lt hji] at hj
  have := nd_ix h hj hx
  omega
theorem first_at {α : Type} [DecidableEq α] : ∀ {l : List α} {a : α}, a ∈ l → ∃ j : Nat, l[j]? = some a ∧ (∀ m : Nat, m < j → l[m]? ≠ some a) ∧ l.eraseIdx j = l.erase a
  | [], _, h => by cases h
  | x :: l, a, h => by
    by_cases e : x = a
    · exact ⟨0, by rw [e]; rfl, fun m hm => absurd hm (Nat.not_lt_zero m), by rw [e]; simp⟩
    · have h2 : a ∈ l := (List.mem_cons.mp h).elim (fun z => absurd z.symm e) id
      obtain ⟨j, h3, h4, h5⟩ := first_at h2
      refine ⟨j + 1, h3, fun m hm => ?_, ?_⟩
      · cases m with
        | zero => exact fun z => e (Option.some.inj z)
        | succ m => exact h4 m (by omega)
      · rw [List.eraseIdx_cons_succ, h5, List.erase_cons_tail (by simp [e])]
/-- what list.remove asks, of a list of numbers -/
theorem rem_at {l : List Nat} {n : Nat} (h : n ∈ l) : ∃ j : Nat, (l.map fun k : Nat => (k : Int))[j]? = some (n : Int) ∧ (∀ m : Nat, m < j → (l.map fun k : Nat => (k : Int))[m]? ≠ some (n : Int)) ∧ ((l.map fun k : Nat => (k : Int)).eraseIdx j).map V.int = nvs (l.erase n) := by
  obtain ⟨j, h1, h2, h3⟩ := first_at h
  refine ⟨j, by rw [List.getElem?_map, h1]; rfl, fun m hm z => ?_, ?_⟩
  · obtain ⟨y, hy, e⟩ := get_map z
    have : y = n := by omega
    exact h2 m hm (by rw [hy, this])
  · rw [map_eraseIdx, h3, nvs_eq]
theorem filter_lt {ks : List Nat} {n : Nat} (h : n ∈ ks) : (ks.filter fun k => !decide (k = n)).length + 1 ≤ ks.length := by
  induction ks with
  | nil => cases h
  | cons a l ih =>
    by_cases e : a = n
    · subst e
      rw [List.filter_cons_of_neg (by simp)]
      exact Nat.succ_le_succ (List.length_filter_le _ _)
    · rw [List.filter_cons_of_pos (by simp [e])]
      have := ih ((List.mem_cons.mp h).elim (fun z => absurd z.symm e) id)
      simp only [List.length_cons]
      omega
section
variable {C : Addr} {G : List Kd} {H H' : Hp} {A : ShA} {S : Shk}
theorem ShAt.side (D : ShAt C G H A S) {q : Addr} {o : HO} (hq : q ∉ A.fp S.ks) (ht : ∀ xs, H q ≠ some (.tup xs)) : ShAt C G (upd H q o) A S := D.move (ts_upd ht) fun b hb => upd_ne fun (e : b = q) => hq (e ▸ hb)
theorem fp_nd_sub {ks kt : List Nat} (h : ks.Sublist kt) (n : (A.fp kt).Nodup) : (A.fp ks).Nodup := n.sublist (List.Sublist.append_left (h.map A.ab) _)
/-- a twig taken out of all four dicts -/
theorem ShAt.drop (D : ShAt C G H A S) (ks : List Nat) (hs : ks.Sublist S.ks) :
    ShAt C G (upd (upd (upd (upd H A.dk (.dK (dF ks A.kp))) A.dt (.dK (dF ks A.tg))) A.da (.dK (dF ks fun n => .ref (A.ab n)))) A.df (.dK (dF ks fun n => .int (S.fr n : Int)))) A { S with ks := ks } := by
  have d := nds_of D.nd
  have t1 : TS H (upd H A.dk (.dK (dF ks A.kp))) := ts_upd (D.noTup _ (fp_dk _))
  have t2 : TS H (upd (upd H A.dk (.dK (dF ks A.kp))) A.dt (.dK (dF ks A.tg))) := t1.trans (ts_upd fun xs z => by
    rw [upd_ne d.kt.symm] at z
    exact D.noTup _ (fp_dt _) xs z)
  have t3 : TS H (upd (upd (upd H A.dk (.dK (dF ks A.kp))) A.dt (.dK (dF ks A.tg))) A.da (.dK (dF ks fun n => .ref (A.ab n)))) := t2.trans (ts_upd fun xs z => by
    rw [upd_ne d.ta.symm, upd_ne d.ka.symm] at z
    exact D.noTup _ (fp_da _) xs z)
  have t4 : TS H (upd (upd (upd (upd H A.dk (.dK (dF ks A.kp))) A.dt (.dK (dF ks A.tg))) A.da (.dK (dF ks fun n => .ref (A.ab n)))) A.df (.dK (dF ks fun n => .int (S.fr n : Int)))) := t3.trans (ts_upd fun xs z => by
    rw [upd_ne d.af.symm, upd_ne d.tf.symm, upd_ne d.kf.symm] at z
    exact D.noTup _ (fp_df _) xs z)
  refine ⟨?_, ?_, ?_, ?_, upd_same, ?_, fun n hn => ?_, fun n hn => (D.kv n (hs.subset hn)).ts t4, fun n hn => (D.tv n (hs.subset hn)).ts t4, fp_nd_sub hs D.nd⟩
  · rw [upd_ne d.pf, upd_ne d.pa, upd_ne d.pt, upd_ne d.pk]
    exact D.ob
  · rw [upd_ne d.kf, upd_ne d.ka, upd_ne d.kt, upd_same]
  · rw [upd_ne d.tf, upd_ne d.ta, upd_same]
  · rw [upd_ne d.af, upd_same]
  · rw [upd_ne d.fs.symm, upd_ne d.al.symm, upd_ne d.tl.symm, upd_ne d.kl.symm]
    exact D.s
  · have hn := hs.subset hn
    rw [upd_ne (d.nf n hn), upd_ne (d.na n hn), upd_ne (d.nt n hn), upd_ne (d.nk n hn)]
    exact D.al n hn
end
def spSweep (C : Addr) (G : List Kd) : Sp := fun vs H Q _ => ∃ (A : ShA) (S : Shk) (n : Nat), vs = [.ref A.p, .int (n : Int)] ∧ ShAt C G H A S ∧ W0 S ∧ Sw S S.ks S.ab [n] ∧ S.ks.length < 1000 ∧
  ∀ (H' : Hp) (ks : List Nat) (ab : Nat → List Nat), Stp C G H A S H' A (shMk S ks ab) → Sw S ks ab [] → Q .non H'
/-- the sweep's word: what is left to do, the slots, the heap -/
def swW (C : Addr) (G : List Kd) (H : Hp) (A : ShA) (S : Shk) (n : Nat) (t0 : Addr) (m : Nat) (σ : L2.St) (H' : Hp) : Prop := ∃ (ks : List Nat) (ab : Nat → List Nat) (todo : List Nat) (v1 v2 v3 v4 : Option V), m = 5 * ks.length + todo.length ∧ σ = [some (.ref A.p), some (.int (n : Int)), some (.ref t0), v1, v2, v3, v4] ∧
  Stp C G H A S H' A (shMk S ks ab) ∧ H' t0 = some (.lst (nvs todo)) ∧ Sw S ks ab todo ∧ 5 * ks.length + todo.length ≤ 5001
section
variable {P : Program} {w : World} {K : PySem.W.Frag} {mg : Str → Option Value} {base : Heap} {G : List Kd} {C : Addr}
theorem df_sweep (T : ClsT K C) (B : Bas mg) (R : RawM K C "sweep" "Shelf.sweep" s_sweep ["self", "number"]) : DfM P w K mg base C 1 "sweep" ["self", "number"] (spSweep C G) := by
  obtain ⟨f, fd, hm, hb, F⟩ := R
  refine ⟨f, fd, hm, hb, F.ok sc_sweep (fun vs H Q E h => ?_) (fun cdv A outer s H vs Q E hr h => ?_)⟩
  · obtain ⟨A, S, n, rfl, _⟩ := h
    rfl
  · obtain ⟨A, S, n, rfl, D, wf, sw, hlen, q⟩ := h
    have hu := hu_of hr
    have nd := sc_sweep.nd
    obtain ⟨_, c_STEM⟩ := B.c_STEM
    refine ⟨_, (pss_cons (ps_set (i := 2) nd rfl (Or.inl rfl) (pe_lst (pa_cons (pv 1) pa_nil)))
      (pss_one (ps_while PassesOwn.never (pt_cmpR (op_neD hr.units) (pv 2) (pe_lst pa_nil) (nomark _))
        (pss_cons (ps_set (i := 3) nd rfl (Or.inl rfl) (pe_bm0 PySem.F.plainAttrs_list PySem.F.slot_list_pop PySem.F.type_list_pop mt_pop (pv 2)))
        (pss_one (ps_if (PW.pt (pw_and (pt_cmp (pc_din hu (pv 3) (pe_fld (pv 0) rfl))) (pw_and (pt_cmpR op_eq (pe_dget hu (pe_fld (pv 0) rfl) (pv 3) (fun _ _ => rfl)) pe_int (nomark _)) (pw_and1 (pt_cmpR (op_eqD hr.units) (pe_dget hu (pe_fld (pv 0) rfl) (pv 3) (fun _ _ => rfl)) (pe_lst pa_nil) (nomark _))))))
          (pss_cons (ps_asg (pe_dpop1 (pe_fld (pv 0) rfl) (pv 3) ⟨rfl, rfl, rfl, rfl⟩) (pg_tup rfl (pgs_cons (pg_name (i := 4) nd rfl (Or.inl rfl)) (pgs_cons (pg_name (i := 5) nd rfl (Or.inl rfl)) pgs_nil))))
          (pss_cons (ps_expr (pe_dpop1 (pe_fld (pv 0) rfl) (pv 3) ⟨rfl, rfl, rfl, rfl⟩))
          (pss_cons (ps_expr (pe_dpop1 (pe_fld (pv 0) rfl) (pv 3) ⟨rfl, rfl, rfl, rfl⟩))
          (pss_cons (ps_expr (pe_dpop1 (pe_fld (pv 0) rfl) (pv 3) ⟨rfl, rfl, rfl, rfl⟩))
          (pss_one (ps_if (pt_cmpR op_eq (pv 4) (pe_glob (v := .str "stem") rfl c_STEM ⟨_, rfl⟩) (nomark _))
            (pss_one (ps_for PassesOwn.never rfl (pi_tup (pv 5)) (pg_name (i := 6) nd rfl (Or.inl rfl))
              (pss_cons (ps_expr (pe_bm PySem.F.plainAttrs_list PySem.F.slot_list_remove PySem.F.type_list_remove mt_remove (pe_dget hu (pe_fld (pv 0) rfl) (pv 6) (fun _ _ => rfl)) (pa_cons (pv 3) pa_nil)))
              (pss_one (ps_expr (pe_bm PySem.F.plainAttrs_list PySem.F.slot_list_append PySem.F.type_list_append mt_append (pv 2) (pa_cons (pv 6) pa_nil)))))))
            pss_nil))))))
          pss_nil)))))), ?_⟩
    refine ⟨_, rfl, szn 1, fun t0 ht0 => ?_⟩
    have hout : t0 ∉ A.fp S.ks := D.out ht0
    have e0 : Same H (upd H t0 (.lst [.int (n : Int)])) := same_new ht0
    refine ⟨swW C G H A S n t0, ⟨_, S.ks, S.ab, [n], none, none, none, none, rfl, rfl, D.stp_same e0, upd_same, sw, by simp; omega⟩, ?_⟩
    rintro m σ H' ⟨ks, ab, todo, v1, v2, v3, v4, rfl, rfl, st, ht, sw, hbd⟩
    have D' := st.at_
    refine ⟨_, rfl, szn 0, fun e1 he1 => ⟨_, _, nats_dp (SqL.of ((same_new he1) _ _ ht)), nil_dp (SqL.of upd_same), shaped_nats _, shaped_nil, !todo.isEmpty, congrArg V.bl (by rw [nats_nil]), ?_⟩⟩
    have e1s : Same H' (upd H' e1 (.lst [])) := same_new he1
    have st1 : Stp C G H A S (upd H' e1 (.lst [])) A (shMk S ks ab) := Stp.trans D st (D'.stp_same e1s)
    have ht1 := e1s _ _ ht
    rcases List.eq_nil_or_concat todo with e | ⟨init, here, e⟩
    · subst e
      exact q _ ks ab st1 sw
    · rw [List.concat_eq_append] at e
      subst e
      have enil : (!(init ++ [here]).isEmpty) = true := by simp
      rw [enil]
      have hsub := sw.sub
      have hlk := hsub.length_le
      rw [List.length_append, List.length_singleton] at hbd ⊢
      refine ⟨fun σ' H2 => ∃ m', m' < 5 * ks.length + (init.length + 1) ∧ swW C G H A S n t0 m' σ' H2, fun _ _ h => h, ?_⟩
      refine ⟨_, rfl, .inl ⟨rfl, _, SqL.of ht1⟩, t0, _, .int (here : Int), rfl, rfl, ht1, by rw [nvs_len, List.length_append, List.length_singleton, Nat.add_sub_cancel, ← nvs_snoc, List.getElem?_append_right (by rw [nvs_len]; exact Nat.le_refl _), nvs_len, Nat.sub_self]; rfl, ?_⟩
      have edl : (nvs (init ++ [here])).dropLast = nvs init := by rw [← nvs_snoc, List.dropLast_concat]
      rw [edl]
      have ho1 : t0 ∉ A.fp ks := fun z => hout (fp_sub hsub _ z)
      have D2 : ShAt C G (upd (upd H' e1 (.lst [])) t0 (.lst (nvs init))) A (shMk S ks ab) := st1.at_.side ho1 fun xs z => by
        rw [ht1] at z
        cases z
      have st2 : Stp C G H A S (upd (upd H' e1 (.lst [])) t0 (.lst (nvs init))) A (shMk S ks ab) := ⟨D2, rfl, rfl, keep_mut st1.kp ht0, st1.nw⟩
      generalize hH2 : upd (upd H' e1 (.lst [])) t0 (.lst (nvs init)) = H2 at D2 st2
      have ht2 : H2 t0 = some (.lst (nvs init)) := by
        rw [← hH2]
        exact upd_same
      -- a turn that leaves all as it is
      have skip : ∀ (H3 : Hp), Same H2 H3 → ¬ (here ∈ ks ∧ S.fr here = 0 ∧ ab here = []) → ∃ m', m' < 5 * ks.length + (init.length + 1) ∧ swW C G H A S n t0 m' [some (.ref A.p), some (.int (n : Int)), some (.ref t0), some (.int (here : Int)), v2, v3, v4] H3 := fun H3 e3 c =>
        ⟨5 * ks.length + init.length, by omega, ks, ab, init, _, v2, v3, v4, rfl, rfl, Stp.trans D st2 (D2.stp_same e3), e3 _ _ ht2, sw.skip c, by omega⟩
      by_cases c1 : here ∈ ks
      · refine ⟨_, rfl, _, rfl, A.p, C, A.dx, _, _, rfl, D2.ob, T.cl, T.n_kept, fl_kept _ _, A.dk, _, rfl, dget D2.k c1, _, rfl, ?_⟩
        refine ⟨_, rfl, A.p, C, A.dx, _, _, rfl, D2.ob, T.cl, T.n_freely, fl_freely _ _, _, rfl, A.df, _, rfl, dget D2.f c1, rfl, ?_⟩
        by_cases c2 : S.fr here = 0
        · refine ⟨true, blT (by show V.int (S.fr here : Int) = _; rw [c2]; rfl), ?_⟩
          refine ⟨_, rfl, A.p, C, A.dx, _, _, rfl, D2.ob, T.cl, T.n_above, fl_above _ _, _, rfl, A.da, _, rfl, dget D2.a c1, ?_⟩
          refine ⟨szn 0, fun e2 he2 => ⟨_, _, nats_dp (SqL.of ((same_new he2) _ _ (D2.al here c1))), nil_dp (SqL.of upd_same), shaped_nats _, shaped_nil, (ab here).isEmpty, congrArg V.bl (nats_nil _), ?_⟩⟩
          have e3 : Same H2 (upd H2 e2 (.lst [])) := same_new he2
          by_cases c3 : ab here = []
          · rw [c3]
            have D3 := D2.same e3
            have d := nds_of D3.nd
            have k3 : upd H2 e2 (.lst []) A.dk = some (.dK (dF ks A.kp)) := D3.k
            obtain ⟨tp, q1, ws, kind, et, htp, hq1, hws⟩ := (D3.kv here c1).tup
            have hkt : (ks.filter fun k => !decide (k = here)).Sublist ks := List.filter_sublist
            have D7 : ShAt C G (upd (upd (upd (upd (upd H2 e2 (.lst [])) A.dk (.dK (dF (ks.filter fun k => !decide (k = here)) A.kp))) A.dt (.dK (dF (ks.filter fun k => !decide (k = here)) A.tg))) A.da (.dK (dF (ks.filter fun k => !decide (k = here)) fun n => .ref (A.ab n)))) A.df (.dK (dF (ks.filter fun k => !decide (k = here)) fun n => .int (S.fr n : Int)))) A (shMk S (ks.filter fun k => !decide (k = here)) ab) := D3.drop (ks.filter fun k => !decide (k = here)) hkt
            have hin := wf.lk.lo here (hsub.subset c1)
            have hklt : (ks.filter fun k => !decide (k = here)).length + 1 ≤ ks.length := filter_lt c1
            have hkin : ∀ k, k ∈ (ks.filter fun k => !decide (k = here)) ↔ k ∈ ks ∧ k ≠ here := fun k => by
              rw [List.mem_filter]
              simp
            have p4 : upd (upd H2 e2 (.lst [])) A.dk (.dK (dF (ks.filter fun k => !decide (k = here)) A.kp)) A.p = some (.ins C A.dx (fl A S.gv)) := by
              rw [upd_ne d.pk]
              exact D3.ob
            have t4 : upd (upd H2 e2 (.lst [])) A.dk (.dK (dF (ks.filter fun k => !decide (k = here)) A.kp)) A.dt = some (.dK (dF ks A.tg)) := by
              rw [upd_ne d.kt.symm]
              exact D3.t
            have t4t : upd (upd H2 e2 (.lst [])) A.dk (.dK (dF (ks.filter fun k => !decide (k = here)) A.kp)) tp = some (.tup [.str kind, .ref q1]) := ts_upd (D3.noTup _ (fp_dk _)) _ _ htp
            refine ⟨_, rfl, A.p, C, A.dx, _, _, rfl, D3.ob, T.cl, T.n_kept, fl_kept _ _, A.dk, rfl, .inl ⟨_, Rd.of k3⟩, _, rfl, _, Sum.inl (here : Int), _, k3, rfl, dF_in c1, ?_⟩
            rw [dF_drop]
            refine ⟨tp, _, et, SqT.of t4t, rfl, _, _, rfl, _, _, rfl, rfl, ?_⟩
            refine ⟨_, rfl, A.p, C, A.dx, _, _, rfl, p4, T.cl, T.n_tags, fl_tags _ _, A.dt, rfl, .inl ⟨_, Rd.of t4⟩, _, rfl, _, Sum.inl (here : Int), _, t4, rfl, dF_in c1, ?_⟩
            rw [dF_drop]
            generalize hH4 : upd (upd H2 e2 (.lst [])) A.dk (.dK (dF (ks.filter fun k => !decide (k = here)) A.kp)) = H4 at p4 t4 t4t D7
            have p5 : upd H4 A.dt (.dK (dF (ks.filter fun k => !decide (k = here)) A.tg)) A.p = some (.ins C A.dx (fl A S.gv)) := by
              rw [upd_ne d.pt]
              exact p4
            have a5 : upd H4 A.dt (.dK (dF (ks.filter fun k => !decide (k = here)) A.tg)) A.da = some (.dK (dF ks fun n => .ref (A.ab n))) := by
              rw [upd_ne d.ta.symm, ← hH4, upd_ne d.ka.symm]
              exact D3.a
            refine ⟨_, rfl, A.p, C, A.dx, _, _, rfl, p5, T.cl, T.n_above, fl_above _ _, A.da, rfl, .inl ⟨_, Rd.of a5⟩, _, rfl, _, Sum.inl (here : Int), _, a5, rfl, dF_in c1, ?_⟩
            rw [dF_drop]
            generalize hH5 : upd H4 A.dt (.dK (dF (ks.filter fun k => !decide (k = here)) A.tg)) = H5 at p5 a5 D7
            have p6 : upd H5 A.da (.dK (dF (ks.filter fun k => !decide (k = here)) fun n => .ref (A.ab n))) A.p = some (.ins C A.dx (fl A S.gv)) := by
              rw [upd_ne d.pa]
              exact p5
            have f6 : upd H5 A.da (.dK (dF (ks.filter fun k => !decide (k = here)) fun n => .ref (A.ab n))) A.df = some (.dK (dF ks fun n => .int (S.fr n : Int))) := by
              rw [upd_ne d.af.symm, ← hH5, upd_ne d.tf.symm, ← hH4, upd_ne d.kf.symm]
              exact D3.f
            refine ⟨_, rfl, A.p, C, A.dx, _, _, rfl, p6, T.cl, T.n_freely, fl_freely _ _, A.df, rfl, .inl ⟨_, Rd.of f6⟩, _, rfl, _, Sum.inl (here : Int), _, f6, rfl, dF_in c1, ?_⟩
            rw [dF_drop]
            have ho7 : t0 ∉ A.fp ks := ho1
            have k7 : Keep (A.fp ks) (upd H2 e2 (.lst [])) (upd (upd H5 A.da (.dK (dF (ks.filter fun k => !decide (k = here)) fun n => .ref (A.ab n)))) A.df (.dK (dF (ks.filter fun k => !decide (k = here)) fun n => .int (S.fr n : Int)))) := by
              rw [← hH5, ← hH4]
              exact (((keep_upd (fp_dk _)).trans (keep_upd (fp_dt _))).trans (keep_upd (fp_da _))).trans (keep_upd (fp_df _))
            have ts7 : TS (upd H2 e2 (.lst [])) (upd (upd H5 A.da (.dK (dF (ks.filter fun k => !decide (k = here)) fun n => .ref (A.ab n)))) A.df (.dK (dF (ks.filter fun k => !decide (k = here)) fun n => .int (S.fr n : Int)))) := k7.ts D3.noTup
            generalize upd (upd H5 A.da (.dK (dF (ks.filter fun k => !decide (k = here)) fun n => .ref (A.ab n)))) A.df (.dK (dF (ks.filter fun k => !decide (k = here)) fun n => .int (S.fr n : Int))) = H7 at D7 k7 ts7
            have st7 : Stp C G H2 A (shMk S ks ab) H7 A (shMk S (ks.filter fun k => !decide (k = here)) ab) := Stp.trans D2 (D2.stp_same e3) ⟨D7, rfl, rfl, k7, fun b hb => .inl (fp_sub hkt b hb)⟩
            have st8 := Stp.trans D st2 st7
            have ht7 : H7 t0 = some (.lst (nvs init)) := k7 _ _ (e3 _ _ ht2) ho7
            have hq7 := ts7 _ _ hq1
            have swp := sw.pop wf c1 c2 c3
            cases hc : S.tw here with
            | leaf rows =>
              rw [show (shMk S ks ab).tw here = .leaf rows from hc] at hws
              obtain ⟨rfl, _⟩ := hws
              rw [hc] at swp
              refine ⟨_, rfl, rfl, false, blF (by decide +kernel), iteF ⟨_, by rw [List.append_nil]; omega, _, abDrop ab here [], init ++ [], _, some (.str "leaf"), some (.ref q1), v4, rfl, rfl, st8.ext rfl rfl fun m _ => ⟨rfl, rfl, ?_, rfl⟩, by rw [List.append_nil]; exact ht7, swp, by rw [List.append_nil]; omega⟩⟩
              show (if m ∈ [] then (ab m).erase here else ab m) = ab m
              rw [if_neg (by simp)]
            | stem kd =>
              rw [show (shMk S ks ab).tw here = .stem kd from hc] at hws
              obtain ⟨rfl, rfl⟩ := hws
              have hkd : ∀ k ∈ kd, k ∈ ks ∧ k ≠ here ∧ here ∈ ab k := fun k hk => by
                have hk' : k ∈ (S.tw here).kids := by
                  rw [hc]
                  exact hk
                have x1 := sw.cl here c1 k hk'
                refine ⟨x1, fun z => ?_, (sw.ai k x1 here).mpr ⟨c1, hk'⟩⟩
                rw [z] at hk'
                have := (sw.ai here c1 here).mpr ⟨c1, hk'⟩
                rw [c3] at this
                cases this
              have hkdn : kd.Nodup := by
                have := wf.lk.kids_nd (hsub.subset c1)
                rw [hc] at this
                exact this
              have hkdl : kd.length ≤ 4 := by
                have := wf.lk.kids_le (hsub.subset c1)
                rw [hc] at this
                exact this
              rw [hc] at swp
              refine ⟨_, rfl, rfl, true, blT rfl, ?_⟩
              refine ⟨_, rfl, q1, rfl, ⟨_, SqT.of hq7⟩, for_it (walk_tup (K := K) (a := q1) (xs := nvs kd)) (fun i σ H' => ∃ v, σ = [some (.ref A.p), some (.int (n : Int)), some (.ref t0), some (.int (here : Int)), some (.str "stem"), some (.ref q1), v] ∧
                Stp C G H A S H' A (shMk S (ks.filter fun k => !decide (k = here)) (abDrop ab here (kd.take i))) ∧ H' t0 = some (.lst (nvs (init ++ kd.take i))) ∧ H' q1 = some (.tup (nvs kd)))
                ⟨v4, rfl, st8.ext rfl rfl fun m _ => ⟨rfl, rfl, ?_, rfl⟩, ?_, hq7⟩ (fun i σ H' _ ⟨_, _, _, _, e⟩ => SqT.of e) ?_ ?_⟩
              · show (if m ∈ kd.take 0 then (ab m).erase here else ab m) = ab m
                rw [if_neg (by simp)]
              · rw [List.take_zero, List.append_nil]
                exact ht7
              · rintro i y σ _ H8 hi ⟨v, rfl, st9, ht9, hq9⟩ ⟨rfl, hy⟩
                obtain ⟨b, hb', rfl⟩ := nvs_get hy
                obtain ⟨y1, y2, y3⟩ := hkd b (List.mem_of_getElem? hb')
                have hbt : b ∈ (ks.filter fun k => !decide (k = here)) := (hkin b).mpr ⟨y1, y2⟩
                have hbi : b ∉ kd.take i := nd_take hkdn hb'
                have eab : abDrop ab here (kd.take i) b = ab b := if_neg hbi
                have D9 := st9.at_
                have al9 := D9.al b hbt
                rw [show (shMk S (ks.filter fun k => !decide (k = here)) (abDrop ab here (kd.take i))).ab b = ab b from eab] at al9
                obtain ⟨j, z1, z2, z3⟩ := rem_at y3
                rw [← nvs_eq] at al9
                refine ⟨_, rfl, A.p, C, A.dx, _, _, rfl, D9.ob, T.cl, T.n_above, fl_above _ _, _, rfl, A.da, _, rfl, dget D9.a hbt, .inl ⟨rfl, _, SqL.of al9⟩, _, rfl, A.ab b, _, _, j, rfl, rfl, al9, z1, z2, ?_⟩
                rw [z3]
                have st10 := D9.stp_setAb hbt ((ab b).erase here)
                have nt0 : t0 ≠ A.ab b := fun z => ho1 (z ▸ fp_ab y1)
                have ht10 : upd H8 (A.ab b) (.lst (nvs ((ab b).erase here))) t0 = some (.lst (nvs (init ++ kd.take i))) := by
                  rw [upd_ne nt0]
                  exact ht9
                have hln : (nvs (init ++ kd.take i)).length < sizeLine := by
                  rw [nvs_len, List.length_append, List.length_take]
                  exact small_lt (by omega)
                refine ⟨_, rfl, .inl ⟨rfl, _, SqL.of ht10⟩, _, rfl, t0, _, _, rfl, rfl, ht10, hln, ?_⟩
                rw [nvs_snoc, List.append_assoc, ← take_snoc hb']
                have nq0 : q1 ≠ t0 := fun z => by
                  rw [z, ht9] at hq9
                  cases hq9
                have nqb : q1 ≠ A.ab b := fun z => by
                  rw [z, al9] at hq9
                  cases hq9
                have st11 := Stp.trans D st9 st10
                refine ⟨_, rfl, ?_, upd_same, ?_⟩
                · have ho11 : t0 ∉ A.fp (ks.filter fun k => !decide (k = here)) := fun z => ho1 (fp_sub hkt _ z)
                  have D12 := st11.at_.side (q := t0) (o := .lst (nvs (init ++ kd.take (i + 1)))) ho11 fun xs z => by
                    rw [ht10] at z
                    cases z
                  refine Stp.ext ⟨D12, rfl, rfl, keep_mut st11.kp ht0, st11.nw⟩ rfl rfl fun m _ => ⟨rfl, rfl, ?_, rfl⟩
                  show (if m ∈ kd.take (i + 1) then (ab m).erase here else ab m) = fset (abDrop ab here (kd.take i)) b ((ab b).erase here) m
                  rw [take_snoc hb']
                  by_cases e : m = b
                  · rw [e, fset_same, if_pos (by simp)]
                  · rw [fset_ne _ _ e]
                    show _ = if m ∈ kd.take i then (ab m).erase here else ab m
                    by_cases z : m ∈ kd.take i
                    · rw [if_pos z, if_pos (List.mem_append.mpr (.inl z))]
                    · rw [if_neg z, if_neg (fun y => (List.mem_append.mp y).elim z fun x => e (List.mem_singleton.mp x))]
                · rw [upd_ne nq0, upd_ne nqb]
                  exact hq9
              · rintro σ H8 ⟨v, rfl, st9, ht9, hq9⟩
                rw [take_all (by rw [nvs_len]; exact Nat.le_refl _)] at st9 ht9
                exact ⟨_, by rw [List.length_append]; omega, _, _, init ++ kd, _, _, _, _, rfl, rfl, st9, ht9, swp, by rw [List.length_append]; omega⟩
          · have : (ab here).isEmpty = false := by
              cases h : ab here with
              | nil => exact absurd h c3
              | cons _ _ => rfl
            rw [this]
            exact iteF (skip _ e3 fun z => c3 z.2.2)
        · exact ⟨false, blF (fun z => c2 (by have z2 : ((S.fr here : Nat) : Int) = 0 := V.int.inj z; omega)), iteF (iteF (skip _ (Same.refl _) fun z => c2 z.2.1))⟩
      · refine ⟨_, rfl, _, rfl, A.p, C, A.dx, _, _, rfl, D2.ob, T.cl, T.n_kept, fl_kept _ _, A.dk, _, rfl, dgetN D2.k c1, _, rfl, ?_⟩
        exact iteF (iteF (skip _ (Same.refl _) fun z => c1 z.1))
def spLetGo (C : Addr) (G : List Kd) : Sp := fun vs H Q _ => ∃ (A : ShA) (S : Shk) (n : Nat), vs = [.ref A.p, .int (n : Int)] ∧ ShAt C G H A S ∧ Wf S ∧ n ∈ S.ks ∧ S.fr n ≠ 0 ∧ S.ks.length < 1000 ∧
  ∀ (H' : Hp) (ks : List Nat) (ab : Nat → List Nat), Stp C G H A S H' A (shMk (S.setFr n (S.fr n - 1)) ks ab) → Sw (S.setFr n (S.fr n - 1)) ks ab [] → Q .non H'
theorem df_let_go (T : ClsT K C) (D1 : DfM P w K mg base C 1 "need" ["self", "number"] (spNeed C G)) (D2 : DfM P w K mg base C 1 "sweep" ["self", "number"] (spSweep C G)) (R : RawM K C "let_go" "Shelf.let_go" s_let_go ["self", "number"]) : DfM P w K mg base C 2 "let_go" ["self", "number"] (spLetGo C G) := by
  obtain ⟨f, fd, hm, hb, F⟩ := R
  obtain ⟨_, _, M_need, b_need, F_need⟩ := D1
  obtain ⟨_, _, M_sweep, b_sweep, F_sweep⟩ := D2
  refine ⟨f, fd, hm, hb, F.ok sc_let_go (fun vs H Q E h => ?_) (fun cdv A outer s H vs Q E hr h => ?_)⟩
  · obtain ⟨A, S, n, rfl, _⟩ := h
    rfl
  · obtain ⟨A, S, n, rfl, D, wf, hn, hfr, hlen, q⟩ := h
    have hu := hu_of hr
    have cl := T.cl
    refine ⟨_, (pss_cons (ps_expr (pe_meth (pv 0) cl M_need (F_need.mono (by decide)) hr b_need .nil pass0 (pa_cons (pv 1) pa_nil)))
      (pss_cons (ps_if (pt_cmpR op_eq (pe_dget hu (pe_fld (pv 0) rfl) (pv 1) (fun _ _ => rfl)) pe_int (nomark _))
        (pss_one ps_never)
        pss_nil)
      (pss_cons (ps_dput hu (pe_fld (pv 0) rfl) (pv 1) (pe_op op_sub (pe_dget hu (pe_fld (pv 0) rfl) (pv 1) (fun _ _ => rfl)) pe_int) rfl)
      (pss_one (ps_expr (pe_meth (pv 0) cl M_sweep (F_sweep.mono (by decide)) hr b_sweep .nil pass0 (pa_cons (pv 1) pa_nil))))))), ?_⟩
    refine ⟨_, rfl, A.p, A.dx, _, rfl, D.ob, fl_no _ _ (by decide +kernel), _, rfl, A, S, n, rfl, D, hn, ?_⟩
    refine ⟨_, rfl, A.p, C, A.dx, _, _, rfl, D.ob, T.cl, T.n_freely, fl_freely _ _, _, rfl, A.df, _, rfl, dget D.f hn, rfl, false, blF (vint_ne (by omega)), iteF ?_⟩
    have hput := dput (v := .int ((S.fr n : Int) - 1)) D.f hn hlen
    refine ⟨_, rfl, A.p, C, A.dx, _, _, rfl, D.ob, T.cl, T.n_freely, fl_freely _ _, _, rfl, A.df, _, rfl, dget D.f hn, _, _, rfl, rfl, ?_⟩
    refine ⟨_, rfl, A.p, C, A.dx, _, _, rfl, D.ob, T.cl, T.n_freely, fl_freely _ _, _, rfl, A.df, _, rfl, hput, ?_⟩
    have e1 : ((S.fr n : Int) - 1) = ((S.fr n - 1 : Nat) : Int) := by omega
    rw [e1, fr_put]
    have st := D.stp_setFr (fset S.fr n (S.fr n - 1))
    have D' := st.at_
    exact ⟨_, rfl, A.p, A.dx, _, rfl, D'.ob, fl_no _ _ (by decide +kernel), _, rfl, A, S.setFr n (S.fr n - 1), n, rfl, D', wf.toW0.setFr n _, sw_start wf hn, hlen, fun H' ks ab st2 sw => q H' ks ab (Stp.trans D st st2) sw⟩
end
end Tw
end

section
set_option Elab.async false
set_option maxRecDepth 100000
set_option maxHeartbeats 4000000
set_option autoImplicit false
/-! the shelf's methods: a leaf and a stem changed -/
namespace Tw
open PySem L2 Twg
abbrev s_tags_behind : Stmt := inClass (top 28) 15
theorem sc_tags_behind : FnScope ["self", "number", "tag", "found", "here", "branch"] ["self", "number", "tag"] (defScope s_tags_behind) := ⟨rfl, rfl, rfl, by decide +kernel, rfl, by decide +kernel, by decide +kernel⟩
abbrev s_change_leaf : Stmt := inClass (top 28) 16
theorem sc_change_leaf : FnScope ["self", "number", "rows", "found", "tags"] ["self", "number", "rows"] (defScope s_change_leaf) := ⟨rfl, rfl, rfl, by decide +kernel, rfl, by decide +kernel, by decide +kernel⟩
abbrev s_change_stem : Stmt := inClass (top 28) 17
theorem sc_change_stem : FnScope ["self", "number", "numbers", "some", "branch", "tag", "tags", "old", "new"] ["self", "number", "numbers"] (defScope s_change_stem) := ⟨rfl, rfl, rfl, by decide +kernel, rfl, by decide +kernel, by decide +kernel⟩
def spTags (C : Addr) (G : List Kd) : Sp := fun vs H Q _ => ∃ (A : ShA) (S : Shk) (n : Nat) (tv : V) (t : Tk) (tag : Lab), vs = [.ref A.p, .int (n : Int), tv] ∧ ShAt C G H A S ∧ W0 S ∧ LabV G H tv tag ∧ tag.Good ∧ n ∈ S.ks ∧ Al S.ab S.fr n ∧ Tb S.ks (fset S.tw n t) S.ab S.lb (fset S.lb n tag) n n ∧ S.ks.length < 1000 ∧
  ∀ (H' : Hp) (a : Addr) (ch : List Nat) (fv : Nat → V) (L : Nat → Lab), Same H H' → H a = none → H' a = some (.dK (dF ch fv)) → (∀ m ∈ ch, m ∈ S.ks ∧ LabV G H' (fv m) (L m)) → (∀ m ∈ S.ks, m ∉ ch → L m = S.lb m) → ch.Nodup → Lok S.ks (fset S.tw n t) L → Q (.ref a) H'
/-- the walk up the chain: the slots, the heap -/
def tgW (G : List Kd) (H : Hp) (A : ShA) (S : Shk) (n : Nat) (tv : V) (t : Tk) (a : Addr) (m : Nat) (σ : L2.St) (H' : Hp) : Prop := ∃ (here : Nat) (ch : List Nat) (fv : Nat → V) (L : Nat → Lab) (v : Option V), m = 64 - (S.lb here).h ∧ σ = [some (.ref A.p), some (.int (n : Int)), some tv, some (.ref a), some (.int (here : Int)), v] ∧ Same H H' ∧
  H' a = some (.dK (dF ch fv)) ∧ Tb S.ks (fset S.tw n t) S.ab S.lb L n here ∧ Al S.ab S.fr here ∧ (L here).Good ∧ (∀ k ∈ ch, k ∈ S.ks ∧ (S.lb k).h ≤ (S.lb here).h ∧ LabV G H' (fv k) (L k)) ∧ (∀ k ∈ S.ks, k ∉ ch → L k = S.lb k) ∧ ch.Nodup
section
variable {P : Program} {w : World} {K : PySem.W.Frag} {mg : Str → Option Value} {base : Heap} {G : List Kd} {C : Addr}
theorem df_tags_behind (T : ClsT K C) (B : Bas mg) (D1 : DfG P w K mg base 4 "label_over" ["labels"] (spOver G K)) (R : RawM K C "tags_behind" "Shelf.tags_behind" s_tags_behind ["self", "number", "tag"]) : DfM P w K mg base C 5 "tags_behind" ["self", "number", "tag"] (spTags C G) := by
  obtain ⟨f, fd, hm, hb, F⟩ := R
  obtain ⟨_, _, m_label_over, k_label_over, b_label_over, F_label_over⟩ := D1
  refine ⟨f, fd, hm, hb, F.ok sc_tags_behind (fun vs H Q E h => ?_) (fun cdv A outer s H vs Q E hr h => ?_)⟩
  · obtain ⟨A, S, n, tv, t, tag, rfl, _⟩ := h
    rfl
  · obtain ⟨A, S, n, tv, t, tag, rfl, D, wf, htv, htg, hn, hal, tb, hlen, q⟩ := h
    have hu := hu_of hr
    have cl := T.cl
    have nd := sc_tags_behind.nd
    refine ⟨_, (pss_cons (ps_set (i := 3) nd rfl (by first | exact Or.inl rfl | exact Or.inr rfl) (pe_disp (pps_cons (pv 1) (pv 2) pps_nil) (by rfl) (by rfl) (fun z => by cases z) (by decide)))
      (pss_cons (ps_set (i := 4) nd rfl (by first | exact Or.inl rfl | exact Or.inr rfl) (pv 1))
      (pss_cons (ps_while PassesOwn.never (pt_cmpR (op_neD hr.units) (pe_dget hu (pe_fld (pv 0) rfl) (pv 4) (fun _ _ => rfl)) (pe_lst pa_nil) (nomark _))
        (pss_cons (ps_set (i := 4) nd rfl (by first | exact Or.inl rfl | exact Or.inr rfl) (pe_ix ix_list (pe_dget hu (pe_fld (pv 0) rfl) (pv 4) (fun _ _ => rfl)) pe_int (fun _ _ => rfl)))
        (pss_one (ps_dput hu (pv 3) (pv 4) (pe_call (F_label_over.mono (by decide)) hr rfl m_label_over k_label_over b_label_over .nil pass0 (pa_cons (pe_lc (own := [("branch", 5)]) (g := (gName 5)) (by rfl) nd (pi_tup (pe_ix ix_tup (pe_dget hu (pe_fld (pv 0) rfl) (pv 4) (fun _ _ => rfl)) pe_int (fun _ _ => rfl))) (blkOk_by (N := ["self", "number", "tag", "found", "here", "branch"]) (sc := defScope s_tags_behind) (by decide +kernel)) (fun _ _ _ _ _ => (pg_name (i := 5) nd rfl (by first | exact Or.inl rfl | exact Or.inr rfl))) (fun _ _ _ _ _ => pts_nil) (fun _ _ _ _ _ => (pe_dget2 hu (pv 3) (pv 5) (pe_dget hu (pe_fldK (K := K) (pv 0) rfl) (pv 5) (fun _ _ => rfl)) ⟨rfl, rfl, rfl, rfl⟩))) pa_nil)) rfl))))
      (pss_one (ps_ret (pv 3)))))), ?_⟩
    intro a ha
    refine ⟨_, rfl, _, rfl, upd_same, [(Sum.inl (n : Int), tv)], rfl, (by show 1 ≤ 15; decide), ?_⟩
    refine ⟨_, rfl, ?_⟩
    have e0 : Same H (upd (upd H a (.dK [])) a (.dK (mergeK [] [(Sum.inl (n : Int), tv)]))) := same_mut (same_new ha) ha
    refine ⟨tgW G H A S n tv t a, ⟨_, n, [n], fun _ => tv, fset S.lb n tag, none, rfl, rfl, e0, upd_same, tb, hal, by rw [fset_same]; exact htg, fun k hk => ?_, fun k _ hk => ?_, by simp⟩, ?_⟩
    · rw [List.mem_singleton.mp hk, fset_same]
      exact ⟨hn, Nat.le_refl _, htv.ts (ts_same e0)⟩
    · exact fset_ne _ _ fun z => hk (List.mem_singleton.mpr z)
    rintro m σ H' ⟨here, ch, fv, L, v, rfl, rfl, e, hfa, tb, hal, hgd, hch, hout, hnd⟩
    have D' := D.same e
    have hh := tb.hm
    refine ⟨_, rfl, A.p, C, A.dx, _, _, rfl, D'.ob, T.cl, T.n_above, fl_above _ _, _, rfl, A.da, _, rfl, dget D'.a hh, szn 0, fun e1 he => ⟨_, _, nats_dp (SqL.of ((same_new he) _ _ (D'.al here hh))), nil_dp (SqL.of upd_same), shaped_nats _, shaped_nil, !(S.ab here).isEmpty, congrArg V.bl (by rw [nats_nil]), ?_⟩⟩
    have ex : Same H' (upd H' e1 (.lst [])) := same_new he
    have e2 : Same H (upd H' e1 (.lst [])) := e.trans ex
    have D2 := D.same e2
    have hfa2 := ex _ _ hfa
    cases hab : S.ab here with
    | nil => exact ⟨_, rfl, q _ a ch fv L e2 ha hfa2 (fun k hk => ⟨(hch k hk).1, (hch k hk).2.2.ts (ts_same ex)⟩) hout hnd (tb.done hab)⟩
    | cons s r =>
      have es : S.ab here = [s] := (al_cut hal.sum hab).1
      have hin : ∀ k ∈ S.ab here, k ∈ S.ks := fun k hk => (wf.above_in hh hk).1
      obtain ⟨hs, hk0, hhs, kd, hkd⟩ := tb.above hin es
      have hsn : s ≠ n := fun z => by
        have := tb.up
        rw [z] at hhs
        omega
      have hkd' : S.tw s = .stem kd := by rw [fset_ne _ _ hsn] at hkd; exact hkd
      have h64 := wf.lk.h64 hs
      have hns : s ∉ ch := fun z => by
        have := (hch s z).2.1
        omega
      have hkids : ∀ k ∈ kd, k ∈ S.ks ∧ (S.lb s).h = (S.lb k).h + 1 := fun k hk => by
        have hk' : k ∈ (fset S.tw n t s).kids := by
          rw [hkd]
          exact hk
        exact ⟨tb.cl s hs k hk', tb.ht s hs k hk'⟩
      have hgk : ∀ k ∈ kd, (L k).Good := fun k hk => by
        obtain ⟨x1, x2⟩ := hkids k hk
        by_cases ek : k = here
        · rw [ek]
          exact hgd
        · rw [tb.out k x1 (by omega) ek]
          exact wf.lk.good x1
      have hkl : kd.length ≤ 4 := by
        have := wf.lk.kids_le hs
        rw [hkd'] at this
        exact this
      have hchl : ch.length ≤ S.ks.length := nd_len hnd fun k hk => (hch k hk).1
      refine ⟨fun σ' H2 => ∃ m', m' < 64 - (S.lb here).h ∧ tgW G H A S n tv t a m' σ' H2, fun _ _ h => h, ?_⟩
      refine ⟨_, rfl, A.p, C, A.dx, _, _, rfl, D2.ob, T.cl, T.n_above, fl_above _ _, _, rfl, A.da, _, rfl, dget D2.a hh, A.ab here, _, _, _, rfl, rfl, SqL.of (D2.al here hh), atI_nat (j := 0) (by rw [es]; rfl), ?_⟩
      obtain ⟨tp, q1, htp, hq1, hq2⟩ : KeptV G (upd H' e1 (.lst [])) (A.kp s) (.stem kd) := hkd' ▸ D2.kv s hs
      refine ⟨_, rfl, A.p, C, A.dx, _, _, rfl, D2.ob, T.cl, T.n_kept, fl_kept _ _, _, rfl, A.dk, _, rfl, dget D2.k hs, tp, _, _, _, htp, rfl, SqT.of hq1, atI_nat (j := 1) rfl, q1, rfl, ⟨_, SqT.of hq2⟩, fun lc hlc => ?_⟩
      refine lc_rel (walk_tup (K := K) (a := q1) (xs := nvs kd)) hlc (fun i acc H' => Paired (LabV G H') acc ((kd.take i).map L)) (by rw [nvs_len]; omega) (fun H' e => SqT.of (e _ _ hq2)) (fun _ _ _ _ ts h => L2.Paired.mapP h fun _ _ x => x.ts ts) .nil ?_ ?_
      · rintro i y acc H4 hi hy e4 r4 Kx Ky kx ky
        obtain ⟨b, hb', rfl⟩ := nvs_get hy
        obtain ⟨x1, x2⟩ := hkids b (List.mem_of_getElem? hb')
        have D4 := D2.same e4
        have hfa4 := e4 _ _ hfa2
        have fin : ∀ y : V, LabV G H4 y (L b) → Paired (LabV G H4) (acc ++ [y]) ((kd.take (i + 1)).map L) := fun y hy => by
          rw [take_snoc hb', List.map_append]
          exact paired_app r4 (.cons hy .nil)
        refine ⟨rfl, _, rfl, a, rfl, .inl ⟨_, Rd.of hfa4⟩, _, rfl, _, rfl, A.p, C, A.dx, _, _, rfl, D4.ob, T.cl, T.n_tags, fl_tags _ _, _, rfl, A.dt, _, rfl, dget D4.t x1, ?_⟩
        by_cases hbc : b ∈ ch
        · exact ⟨_, dget hfa4 hbc, kx _ _ (Same.refl _) (fin _ ((hch b hbc).2.2.ts (ts_same (ex.trans e4))))⟩
        · exact ⟨_, dgetN hfa4 hbc, kx _ _ (Same.refl _) (fin _ (by rw [hout b x1 hbc]; exact D4.tv b x1))⟩
      · rintro acc H4 e4 r4 hl hd
        rw [take_all (by rw [nvs_len]; exact Nat.le_refl _)] at r4
        refine ⟨lc, _, kd.map L, rfl, SqL.of hd, r4, tb.over hin es hkd, fun l hl => ?_, fun tag2 H5 e5 l5 => ?_⟩
        · obtain ⟨k, hk, rfl⟩ := List.mem_map.mp hl
          exact hgk k hk
        have hfa5 := e5 _ _ (e4 _ _ hfa2)
        refine ⟨_, rfl, _, rfl, a, _, rfl, dputN hfa5 hns (by omega), 64 - (S.lb s).h, by omega, s, ch ++ [s], fset fv s tag2, fset L s (labOver (kd.map L)), _, rfl, rfl, same_mut ((e2.trans e4).trans e5) ha, upd_same, tb.step hin es hkd, (al_step hal.sum es).mp hal, ?_, fun k hk => ?_, fun k hk1 hk2 => ?_, ?_⟩
        · rw [fset_same]
          exact labOver_good (tb.over hin es hkd) fun l hl => by
            obtain ⟨k, hk, rfl⟩ := List.mem_map.mp hl
            exact hgk k hk
        · have ts6 : TS H5 (upd H5 a (.dK (dF (ch ++ [s]) (fset fv s tag2)))) := ts_upd fun xs z => by
            rw [hfa5] at z
            cases z
          rcases List.mem_append.mp hk with z | z
          · obtain ⟨y1, y2, y3⟩ := hch k z
            have nk : k ≠ s := fun y => hns (y ▸ z)
            rw [fset_ne _ _ nk, fset_ne _ _ nk]
            exact ⟨y1, by omega, y3.ts ((ts_same ((ex.trans e4).trans e5)).trans ts6)⟩
          · rw [List.mem_singleton.mp z, fset_same, fset_same]
            exact ⟨hs, Nat.le_refl _, l5.ts ts6⟩
        · have nk : k ≠ s := fun y => hk2 (List.mem_append.mpr (.inr (List.mem_singleton.mpr y)))
          rw [fset_ne _ _ nk]
          exact hout k hk1 fun z => hk2 (List.mem_append.mpr (.inl z))
        · refine List.nodup_append.mpr ⟨hnd, by simp, fun x hx y hy => ?_⟩
          rw [List.mem_singleton.mp hy]
          exact fun z => hns (z ▸ hx)
theorem flat_nvs (l : List Nat) : (nvs l).all flatV = true := by
  rw [List.all_eq_true]
  intro x hx
  obtain ⟨k, _, rfl⟩ := List.mem_map.mp hx
  rfl
theorem in_nvs (b : Nat) (l : List Nat) : inV (.int (b : Int)) (nvs l) = decide (b ∈ l) := by
  rw [Bool.eq_iff_iff]
  unfold inV
  rw [List.any_eq_true, decide_eq_true_eq]
  constructor
  · rintro ⟨x, hx, e⟩
    obtain ⟨k, hk, rfl⟩ := List.mem_map.mp hx
    have e : ((k : Int) == (b : Int)) = true := e
    have : k = b := by
      have := eq_of_beq e
      omega
    exact this ▸ hk
  · intro h
    refine ⟨_, List.mem_map.mpr ⟨b, h, rfl⟩, ?_⟩
    show ((b : Int) == (b : Int)) = true
    exact beq_self_eq_true _
theorem merge_dF {ks : List Nat} {g : Nat → V} : ∀ {ch : List Nat} {f : Nat → V}, (∀ m ∈ ch, m ∈ ks) → mergeK (dF ks f) (dF ch g) = dF ks fun m => if m ∈ ch then g m else f m
  | [], f, _ => by
    show dF ks f = _
    exact dF_ext fun k _ => by rw [if_neg (by simp)]
  | c :: ch, f, h => by
    have e : mergeK (dF ks f) (dF (c :: ch) g) = mergeK (putK (dF ks f) (Sum.inl (c : Int)) (g c)) (dF ch g) := rfl
    rw [e, dF_put _ (h c (List.mem_cons.mpr (.inl rfl))), merge_dF fun m hm => h m (List.mem_cons.mpr (.inr hm))]
    refine dF_ext fun k _ => ?_
    by_cases e1 : k ∈ ch
    · rw [if_pos e1, if_pos (List.mem_cons.mpr (.inr e1))]
    · rw [if_neg e1]
      by_cases e2 : k = c
      · rw [e2, fset_same, if_pos (List.mem_cons.mpr (.inl rfl))]
      · rw [fset_ne _ _ e2, if_neg fun z => (List.mem_cons.mp z).elim e2 e1]
def spChLeaf (C : Addr) (G : List Kd) (K : PySem.W.Frag) : Sp := fun vs H Q _ => ∃ (A : ShA) (S : Shk) (n : Nat) (a : Addr) (xs : List V) (rows r : List (Nat × Kd)), vs = [.ref A.p, .int (n : Int), .ref a] ∧ ShAt C G H A S ∧ W0 S ∧ n ∈ S.ks ∧ S.tw n = .leaf r ∧ Al S.ab S.fr n ∧ SqL K H a xs ∧ RowsV G H xs rows ∧ RowsOk rows ∧
  (S.lb n).lo ≤ (labRows rows).lo ∧ (labRows rows).hi ≤ (S.lb n).hi ∧ S.ks.length < 1000 ∧ ∀ (H' : Hp) (A' : ShA) (L : Nat → Lab), Stp C G H A S H' A' (S.setLeaf n rows L) → Lok S.ks (fset S.tw n (.leaf rows)) L → Q .non H'
theorem df_change_leaf (T : ClsT K C) (B : Bas mg) (D1 : DfM P w K mg base C 1 "need" ["self", "number"] (spNeed C G)) (D2 : DfM P w K mg base C 4 "need_alone" ["self", "number"] (spNeedAlone C G)) (D3 : DfG P w K mg base 6 "checked_rows" ["rows"] (spCRows G K)) (D4 : DfG P w K mg base 1 "label_of_rows" ["rows"] (spLRows G K))
    (D5 : DfM P w K mg base C 5 "tags_behind" ["self", "number", "tag"] (spTags C G)) (R : RawM K C "change_leaf" "Shelf.change_leaf" s_change_leaf ["self", "number", "rows"]) : DfM P w K mg base C 7 "change_leaf" ["self", "number", "rows"] (spChLeaf C G K) := by
  obtain ⟨f, fd, hm, hb, F⟩ := R
  obtain ⟨_, _, M_need, b_need, F_need⟩ := D1
  obtain ⟨_, _, M_need_alone, b_need_alone, F_need_alone⟩ := D2
  obtain ⟨_, _, m_checked_rows, k_checked_rows, b_checked_rows, F_checked_rows⟩ := D3
  obtain ⟨_, _, m_label_of_rows, k_label_of_rows, b_label_of_rows, F_label_of_rows⟩ := D4
  obtain ⟨_, _, M_tags_behind, b_tags_behind, F_tags_behind⟩ := D5
  refine ⟨f, fd, hm, hb, F.ok sc_change_leaf (fun vs H Q E h => ?_) (fun cdv A outer s H vs Q E hr h => ?_)⟩
  · obtain ⟨A, S, n, a, xs, rows, r, rfl, _⟩ := h
    rfl
  · obtain ⟨A, S, n, a, xs, rows, r, rfl, D, wf, hn, htw, hal, hS, hR, ok, hlo, hhi, hlen, q⟩ := h
    have hu := hu_of hr
    have cl := T.cl
    have nd := sc_change_leaf.nd
    obtain ⟨_, c_LEAF⟩ := B.c_LEAF
    refine ⟨_, (pss_cons (ps_expr (pe_meth (pv 0) cl M_need (F_need.mono (by decide)) hr b_need .nil pass0 (pa_cons (pv 1) pa_nil)))
      (pss_cons (ps_if (pt_cmpR op_ne (pe_ix ix_tup (pe_dget hu (pe_fld (pv 0) rfl) (pv 1) (fun _ _ => rfl)) pe_int (fun _ _ => rfl)) (pe_glob (v := .str "leaf") rfl c_LEAF ⟨_, rfl⟩) (nomark _))
        (pss_one ps_never)
        pss_nil)
      (pss_cons (ps_expr (pe_meth (pv 0) cl M_need_alone (F_need_alone.mono (by decide)) hr b_need_alone .nil pass0 (pa_cons (pv 1) pa_nil)))
      (pss_cons (ps_set (i := 3) nd rfl (by first | exact Or.inl rfl | exact Or.inr rfl) (pe_call (F_checked_rows.mono (by decide)) hr rfl m_checked_rows k_checked_rows b_checked_rows .nil pass0 (pa_cons (pv 2) pa_nil)))
      (pss_cons (ps_try_thru0 (PSs.nox (pss_one (ps_set (i := 4) nd rfl (by first | exact Or.inl rfl | exact Or.inr rfl) (pe_meth (pv 0) cl M_tags_behind (F_tags_behind.mono (by decide)) hr b_tags_behind .nil pass0 (pa_cons (pv 1) (pa_cons (pe_call (F_label_of_rows.mono (by decide)) hr rfl m_label_of_rows k_label_of_rows b_label_of_rows .nil pass0 (pa_cons (pv 3) pa_nil)) pa_nil)))))))
      (pss_cons (ps_dput hu (pe_fld (pv 0) rfl) (pv 1) (pe_tup (pa_cons (pe_glob (v := .str "leaf") rfl c_LEAF ⟨_, rfl⟩) (pa_cons (pe_callTy call_tuple_of (by rfl) B.b_tuple (by decide +kernel) (pa_cons (pv 3) pa_nil)) pa_nil))) rfl)
      (pss_one (ps_expr (TwR.pe_dupd (pe_fld (pv 0) rfl) (pv 4) ⟨rfl, rfl, rfl, rfl⟩))))))))), ?_⟩
    refine ⟨_, rfl, A.p, A.dx, _, rfl, D.ob, fl_no _ _ (by decide +kernel), _, rfl, A, S, n, rfl, D, hn, ?_⟩
    obtain ⟨tp, q1, vs1, htp, hq1, hq2, _⟩ : KeptV G H (A.kp n) (.leaf r) := htw ▸ D.kv n hn
    refine ⟨_, rfl, A.p, C, A.dx, _, _, rfl, D.ob, T.cl, T.n_kept, fl_kept _ _, _, rfl, A.dk, _, rfl, dget D.k hn, tp, _, _, _, htp, rfl, SqT.of hq1, atI_nat (j := 0) rfl, rfl, false, blNF rfl, iteF ?_⟩
    refine ⟨_, rfl, A.p, A.dx, _, rfl, D.ob, fl_no _ _ (by decide +kernel), _, rfl, A, S, n, rfl, D, wf, hn, hal, fun H1 e1 => ?_⟩
    refine ⟨_, rfl, a, xs, rows, rfl, e1.seq hS, hR.ts (ts_same e1), ok, fun p ys H2 e2 hp hp2 r2 => ?_⟩
    have D2 := (D.same e1).same e2
    refine ⟨_, rfl, A.p, A.dx, _, rfl, D2.ob, fl_no _ _ (by decide +kernel), _, rfl, _, rfl, p, ys, rows, rfl, SqL.of hp2, r2, ok, fun tag H3 e3 l3 => ?_⟩
    have D3 := D2.same e3
    have hk0 : ∀ k ∈ (Tg.leaf rows : Tk).kids, k ∈ S.ks ∧ (S.lb n).h = (S.lb k).h + 1 := fun k hk => by cases hk
    have hl0 : LabOk (fset S.tw n (.leaf rows)) (fset S.lb n (labRows rows)) n := .of_leaf (fset_same _ _ _) ok (fset_same _ _ _)
    have hh0 : (labRows rows).h = (S.lb n).h := by
      rw [wf.lk.h_leaf hn htw]
      rfl
    refine ⟨A, S, n, tag, .leaf rows, labRows rows, rfl, D3, wf, l3, labRows_good ok, hn, hal, tb_start wf hn hk0 hl0 hh0 hlo hhi, hlen, fun H4 b ch fv L e4 hb hb4 hch hout hnd lok => ?_⟩
    have D4 := D3.same e4
    have e24 := e3.trans e4
    have hp4 : H4 p = some (.lst ys) := e24 _ _ hp2
    refine ⟨_, rfl, p, ys, rfl, .inl ⟨SqL.of hp4, fun q2 hq2 => ⟨szn 2, fun q3 hq3 => ?_⟩⟩⟩
    have e5 : Same H4 (upd (upd H4 q2 (.tup ys)) q3 (.tup [.str "leaf", .ref q2])) := (same_new hq2).trans (same_new hq3)
    have D5 := D4.same e5
    have hb5 := e5 _ _ hb4
    have hq5 : upd (upd H4 q2 (.tup ys)) q3 (.tup [.str "leaf", .ref q2]) q2 = some (.tup ys) := (same_new hq3) _ _ upd_same
    have hq6 : upd (upd H4 q2 (.tup ys)) q3 (.tup [.str "leaf", .ref q2]) q3 = some (.tup [.str "leaf", .ref q2]) := upd_same
    generalize upd (upd H4 q2 (.tup ys)) q3 (.tup [.str "leaf", .ref q2]) = H5 at D5 hb5 hq5 hq6 e5
    have e15 : Same H H5 := (((e1.trans e2).trans e3).trans e4).trans e5
    refine ⟨_, rfl, A.p, C, A.dx, _, _, rfl, D5.ob, T.cl, T.n_kept, fl_kept _ _, _, rfl, A.dk, _, rfl, dput D5.k hn hlen, ?_⟩
    have st6 := D5.stp_setKp (fset A.kp n (.ref q3)) (fset S.tw n (.leaf rows)) fun m hm => by
      by_cases e : m = n
      · rw [e, fset_same, fset_same]
        exact ⟨q3, q2, ys, rfl, hq6, hq5, r2.ts (ts_same (e24.trans e5))⟩
      · rw [fset_ne _ _ e, fset_ne _ _ e]
        exact D5.kv m hm
    have D6 := st6.at_
    have hbo : b ∉ A.fp S.ks := D3.out hb
    have hb6 := st6.kp _ _ hb5 hbo
    have hbt : A.dt ≠ b := fun z => hbo (z ▸ fp_dt _)
    have hchl : ch.length ≤ S.ks.length := nd_len hnd fun k hk => (hch k hk).1
    refine ⟨_, rfl, A.p, C, A.dx, _, _, rfl, D6.ob, T.cl, T.n_tags, fl_tags _ _, A.dt, rfl, .inl ⟨_, Rd.of D6.t⟩, _, rfl, b, _, _, rfl, D6.t, hb6, hbt, ?_, ?_⟩
    · rw [dF_len, dF_len]
      exact small_sz (by show S.ks.length + ch.length ≤ _; omega)
    have em : mergeK (dF S.ks A.tg) (dF ch fv) = _ := merge_dF fun m hm => (hch m hm).1
    show Q .non (upd _ A.dt (.dK (mergeK (dF S.ks A.tg) (dF ch fv))))
    rw [em]
    have ts6 : TS H4 _ := (ts_same e5).trans (st6.kp.ts D5.noTup)
    have st7 := D6.stp_setTg (fun m => if m ∈ ch then fv m else A.tg m) L fun m hm => by
      by_cases e : m ∈ ch
      · rw [if_pos e]
        exact (hch m e).2.ts ts6
      · rw [if_neg e, hout m hm e]
        exact (D4.tv m hm).ts ts6
    exact q _ _ L (Stp.trans D (D.stp_same e15) (Stp.trans D5 st6 st7)) lok
end
end Tw
end

section
set_option Elab.async false
set_option maxRecDepth 100000
set_option maxHeartbeats 4000000
set_option autoImplicit false
/-! the shelf's methods: a stem changed -/
namespace Tw
open PySem L2 Twg
def spChStem (C : Addr) (G : List Kd) (K : PySem.W.Frag) : Sp := fun vs H Q _ => ∃ (A : ShA) (S : Shk) (n : Nat) (a : Addr) (old ns : List Nat), vs = [.ref A.p, .int (n : Int), .ref a] ∧ ShAt C G H A S ∧ W0 S ∧ n ∈ S.ks ∧ S.tw n = .stem old ∧ Al S.ab S.fr n ∧ SqL K H a (nvs ns) ∧
  (∀ b ∈ ns, b ∈ S.ks ∧ (b ∉ old → S.fr b ≠ 0)) ∧ OverOk (ns.map S.lb) ∧ (labOver (ns.map S.lb)).h = (S.lb n).h ∧ (S.lb n).lo ≤ (labOver (ns.map S.lb)).lo ∧ (labOver (ns.map S.lb)).hi ≤ (S.lb n).hi ∧ S.ks.length < 900 ∧
  ∀ (H' : Hp) (A' : ShA) (L : Nat → Lab), Stp C G H A S H' A' (S.setStem n old ns L) → Lok S.ks (fset S.tw n (.stem ns)) L → Q .non H'
/-- the old branches let go, one by one -/
def shLet (S : Shk) (ns : List Nat) (n : Nat) (done : List Nat) : Shk := { S with ab := fun m => if m ∈ done ∧ m ∉ ns then (S.ab m).erase n else S.ab m, fr := fun m => if m ∈ done ∧ m ∉ ns then S.fr m + 1 else S.fr m }
theorem let0 (S : Shk) (ns : List Nat) (n m : Nat) : (shLet S ns n []).ab m = S.ab m ∧ (shLet S ns n []).fr m = S.fr m := by simp [shLet]
section
variable {P : Program} {w : World} {K : PySem.W.Frag} {mg : Str → Option Value} {base : Heap} {G : List Kd} {C : Addr}
theorem df_change_stem (T : ClsT K C) (B : Bas mg) (D1 : DfM P w K mg base C 1 "need" ["self", "number"] (spNeed C G)) (D2 : DfM P w K mg base C 4 "need_alone" ["self", "number"] (spNeedAlone C G)) (D3 : DfG P w K mg base 4 "label_over" ["labels"] (spOver G K))
    (D4 : DfM P w K mg base C 5 "tags_behind" ["self", "number", "tag"] (spTags C G)) (D5 : DfM P w K mg base C 1 "need_held" ["self", "branches"] (spNeedHeld C G K)) (D6 : DfM P w K mg base C 1 "hand_over" ["self", "branches", "number"] (spHandOver C G K))
    (R : RawM K C "change_stem" "Shelf.change_stem" s_change_stem ["self", "number", "numbers"]) : DfM P w K mg base C 6 "change_stem" ["self", "number", "numbers"] (spChStem C G K) := by
  obtain ⟨f, fd, hm, hb, F⟩ := R
  obtain ⟨_, _, M_need, b_need, F_need⟩ := D1
  obtain ⟨_, _, M_need_alone, b_need_alone, F_need_alone⟩ := D2
  obtain ⟨_, _, m_label_over, k_label_over, b_label_over, F_label_over⟩ := D3
  obtain ⟨_, _, M_tags_behind, b_tags_behind, F_tags_behind⟩ := D4
  obtain ⟨_, _, M_need_held, b_need_held, F_need_held⟩ := D5
  obtain ⟨_, _, M_hand_over, b_hand_over, F_hand_over⟩ := D6
  refine ⟨f, fd, hm, hb, F.ok sc_change_stem (fun vs H Q E h => ?_) (fun cdv A outer s H vs Q E hr h => ?_)⟩
  · obtain ⟨A, S, n, a, old, ns, rfl, _⟩ := h
    rfl
  · obtain ⟨A, S, n, a, old, ns, rfl, D, wf, hn, htw, hal, hS, hns, ov, oh, hlo, hhi, hlen, q⟩ := h
    have hu := hu_of hr
    have cl := T.cl
    have nd := sc_change_stem.nd
    obtain ⟨_, c_STEM⟩ := B.c_STEM
    have ovl := ov.le
    rw [List.length_map] at ovl
    have hgood : ∀ k ∈ ns, (S.lb k).Good := fun k hk => wf.lk.good (hns k hk).1
    have hnd : ns.Nodup := up_nodup ov.up hgood
    have hkold : ∀ k ∈ old, k ∈ S.ks ∧ (S.lb n).h = (S.lb k).h + 1 ∧ n ∈ S.ab k := fun k hk => by
      have hk' : k ∈ (S.tw n).kids := by
        rw [htw]
        exact hk
      have x1 := wf.lk.cl n hn k hk'
      exact ⟨x1, wf.lk.kid_h hn hk', (wf.ai k x1 n).mpr ⟨hn, hk'⟩⟩
    have hond : old.Nodup := by
      have := wf.lk.kids_nd hn
      rw [htw] at this
      exact this
    have holdl : old.length ≤ 4 := by
      have := wf.lk.kids_le hn
      rw [htw] at this
      exact this
    refine ⟨_, (pss_cons (ps_expr (pe_meth (pv 0) cl M_need (F_need.mono (by decide)) hr b_need .nil pass0 (pa_cons (pv 1) pa_nil)))
      (pss_cons (ps_if (pt_cmpR op_ne (pe_ix ix_tup (pe_dget hu (pe_fld (pv 0) rfl) (pv 1) (fun _ _ => rfl)) pe_int (fun _ _ => rfl)) (pe_glob (v := .str "stem") rfl c_STEM ⟨_, rfl⟩) (nomark _))
        (pss_one ps_never)
        pss_nil)
      (pss_cons (ps_expr (pe_meth (pv 0) cl M_need_alone (F_need_alone.mono (by decide)) hr b_need_alone .nil pass0 (pa_cons (pv 1) pa_nil)))
      (pss_cons (ps_set (i := 3) nd rfl (by first | exact Or.inl rfl | exact Or.inr rfl) (pe_callTy call_list_of (by rfl) B.b_list (by decide +kernel) (pa_cons (pv 2) pa_nil)))
      (pss_cons (ps_for PassesOwn.never rfl (pi_list (pv 3)) (pg_name (i := 4) nd rfl (by first | exact Or.inl rfl | exact Or.inr rfl))
        (pss_one (ps_expr (pe_meth (pv 0) cl M_need (F_need.mono (by decide)) hr b_need .nil pass0 (pa_cons (pv 4) pa_nil)))))
      (pss_cons (ps_set (i := 5) nd rfl (by first | exact Or.inl rfl | exact Or.inr rfl) (pe_call (F_label_over.mono (by decide)) hr rfl m_label_over k_label_over b_label_over .nil pass0 (pa_cons (pe_lc (own := [("branch", 4)]) (g := (gName 4)) (by rfl) nd (pi_list (pv 3)) (blkOk_by (N := ["self", "number", "numbers", "some", "branch", "tag", "tags", "old", "new"]) (sc := defScope s_change_stem) (by decide +kernel)) (fun _ _ _ _ _ => (pg_name (i := 4) nd rfl (by first | exact Or.inl rfl | exact Or.inr rfl))) (fun _ _ _ _ _ => pts_nil) (fun _ _ _ _ _ => (pe_dget hu (pe_fldK (K := K) (pv 0) rfl) (pv 4) (fun _ _ => rfl)))) pa_nil)))
      (pss_cons (ps_if (pt_cmpR op_ne (pe_ix ix_tup (pv 5) pe_int (fun _ _ => rfl)) (pe_ix ix_tup (pe_dget hu (pe_fld (pv 0) rfl) (pv 1) (fun _ _ => rfl)) pe_int (fun _ _ => rfl)) (nomark _))
        (pss_one ps_never)
        pss_nil)
      (pss_cons (ps_set (i := 6) nd rfl (by first | exact Or.inl rfl | exact Or.inr rfl) (pe_meth (pv 0) cl M_tags_behind (F_tags_behind.mono (by decide)) hr b_tags_behind .nil pass0 (pa_cons (pv 1) (pa_cons (pv 5) pa_nil))))
      (pss_cons (ps_set (i := 7) nd rfl (by first | exact Or.inl rfl | exact Or.inr rfl) (pe_ix ix_tup (pe_dget hu (pe_fld (pv 0) rfl) (pv 1) (fun _ _ => rfl)) pe_int (fun _ _ => rfl)))
      (pss_cons (ps_setLc (i := 8) (own := [("branch", 4)]) (g := (gName 4)) (by rfl) nd rfl rfl (sw_true rfl rfl rfl (by decide +kernel)) (pi_list (pv 3)) (blkOk_by (N := ["self", "number", "numbers", "some", "branch", "tag", "tags", "old", "new"]) (sc := defScope s_change_stem) (by decide +kernel)) (fun _ _ _ _ _ => (pg_name (i := 4) nd rfl (by first | exact Or.inl rfl | exact Or.inr rfl))) (fun _ _ _ _ _ => (pts_one (pt_cmpR (op_notInK (K := K)) (pv 4) (pv 7) (by rfl)))) (fun _ _ _ _ _ => (pv 4)))
      (pss_cons (ps_expr (pe_meth (pv 0) cl M_need_held (F_need_held.mono (by decide)) hr b_need_held .nil pass0 (pa_cons (pv 8) pa_nil)))
      (pss_cons (ps_dput hu (pe_fld (pv 0) rfl) (pv 1) (pe_tup (pa_cons (pe_glob (v := .str "stem") rfl c_STEM ⟨_, rfl⟩) (pa_cons (pe_callTy call_tuple_of (by rfl) B.b_tuple (by decide +kernel) (pa_cons (pv 3) pa_nil)) pa_nil))) rfl)
      (pss_cons (ps_expr (TwR.pe_dupd (pe_fld (pv 0) rfl) (pv 6) ⟨rfl, rfl, rfl, rfl⟩))
      (pss_cons (ps_expr (pe_meth (pv 0) cl M_hand_over (F_hand_over.mono (by decide)) hr b_hand_over .nil pass0 (pa_cons (pv 8) (pa_cons (pv 1) pa_nil))))
      (pss_one (ps_for PassesOwn.never rfl (pi_tup (pv 7)) (pg_name (i := 4) nd rfl (by first | exact Or.inl rfl | exact Or.inr rfl))
        (pss_one (ps_if (pt_cmpR op_notIn_seq (pv 4) (pv 3) (by rfl))
          (pss_cons (ps_expr (pe_bm PySem.F.plainAttrs_list PySem.F.slot_list_remove PySem.F.type_list_remove mt_remove (pe_dget hu (pe_fld (pv 0) rfl) (pv 4) (fun _ _ => rfl)) (pa_cons (pv 1) pa_nil)))
          (pss_one (ps_dput hu (pe_fld (pv 0) rfl) (pv 4) (pe_op op_add (pe_dget hu (pe_fld (pv 0) rfl) (pv 4) (fun _ _ => rfl)) pe_int) rfl)))
          pss_nil)))))))))))))))))), ?_⟩
    refine ⟨_, rfl, A.p, A.dx, _, rfl, D.ob, fl_no _ _ (by decide +kernel), _, rfl, A, S, n, rfl, D, hn, ?_⟩
    obtain ⟨tp, q1, htp, hq1, hq2⟩ : KeptV G H (A.kp n) (.stem old) := htw ▸ D.kv n hn
    refine ⟨_, rfl, A.p, C, A.dx, _, _, rfl, D.ob, T.cl, T.n_kept, fl_kept _ _, _, rfl, A.dk, _, rfl, dget D.k hn, tp, _, _, _, htp, rfl, SqT.of hq1, atI_nat (j := 0) rfl, rfl, false, blNF rfl, iteF ?_⟩
    refine ⟨_, rfl, A.p, A.dx, _, rfl, D.ob, fl_no _ _ (by decide +kernel), _, rfl, A, S, n, rfl, D, wf, hn, hal, fun H1 e1 => ?_⟩
    refine ⟨_, rfl, a, _, rfl, .inl (e1.seq hS), fun q0 hq0 => ?_⟩
    have e2 : Same H (upd H1 q0 (.lst (nvs ns))) := e1.trans (same_new hq0)
    have hq0' : q0 ∉ A.fp S.ks := (D.same e1).out hq0
    have h2q : upd H1 q0 (.lst (nvs ns)) q0 = some (.lst (nvs ns)) := upd_same
    generalize upd H1 q0 (.lst (nvs ns)) = H2 at e2 h2q
    have D2 := D.same e2
    refine ⟨_, rfl, q0, rfl, ⟨_, SqL.of h2q⟩, for_it (walk_list (K := K) (a := q0) (xs := nvs ns)) (fun i σ H' => ∃ v, σ = [some (.ref A.p), some (.int (n : Int)), some (.ref a), some (.ref q0), v, none, none, none, none] ∧ H' = H2) ⟨none, rfl, rfl⟩
      (fun i σ H' _ ⟨_, _, e⟩ => by rw [e]; exact SqL.of h2q) ?_ ?_⟩
    · rintro i y σ H' _ hi ⟨v, rfl, rfl⟩ ⟨rfl, hy⟩
      obtain ⟨b, hb', rfl⟩ := nvs_get hy
      exact ⟨_, rfl, A.p, A.dx, _, rfl, D2.ob, fl_no _ _ (by decide +kernel), _, rfl, A, S, b, rfl, D2, (hns b (List.mem_of_getElem? hb')).1, _, rfl, rfl⟩
    rintro σ _ ⟨v, rfl, rfl⟩
    refine ⟨_, rfl, q0, rfl, ⟨_, SqL.of h2q⟩, fun lc hlc => ?_⟩
    refine lc_rel (walk_list (K := K) (a := q0) (xs := nvs ns)) hlc (fun i acc _ => acc = (ns.take i).map A.tg) (by rw [nvs_len]; omega) (fun H' e => SqL.of (e _ _ h2q)) (fun _ _ _ _ _ h => h) rfl ?_ ?_
    · rintro i y acc H' hi hy e rfl Kx Ky kx ky
      obtain ⟨b, hb', rfl⟩ := nvs_get hy
      have D3 := D2.same e
      refine ⟨rfl, _, rfl, A.p, C, A.dx, _, _, rfl, D3.ob, T.cl, T.n_tags, fl_tags _ _, _, rfl, A.dt, _, rfl, dget D3.t (hns b (List.mem_of_getElem? hb')).1, kx _ _ (Same.refl _) ?_⟩
      rw [take_snoc hb', List.map_append]
      rfl
    rintro acc H3 e3 rfl hl hd
    rw [take_all (by rw [nvs_len]; exact Nat.le_refl _)] at hd
    have D3 := D2.same e3
    refine ⟨lc, _, ns.map S.lb, rfl, SqL.of hd, paired_map fun n hn => D3.tv n (hns n hn).1, ov, fun l hl => ?_, fun tag H4 e4 l4 => ?_⟩
    · obtain ⟨k, hk, rfl⟩ := List.mem_map.mp hl
      exact hgood k hk
    have D4 := D3.same e4
    have h4q := e4 _ _ (e3 _ _ h2q)
    obtain ⟨g1, ga, gb, rfl, hg1, _⟩ := id l4
    obtain ⟨g2, gc, gd, eg2, hg2, _⟩ := D4.tv n hn
    refine ⟨_, rfl, g1, _, _, _, rfl, rfl, SqT.of hg1, atI_nat (j := 0) rfl, _, rfl, A.p, C, A.dx, _, _, rfl, D4.ob, T.cl, T.n_tags, fl_tags _ _, _, rfl, A.dt, _, rfl, dget D4.t hn, g2, _, _, _, eg2, rfl, SqT.of hg2, atI_nat (j := 0) rfl, rfl, false, blNF (by rw [oh]), iteF ?_⟩
    have hk0 : ∀ k ∈ (Tg.stem ns : Tk).kids, k ∈ S.ks ∧ (S.lb n).h = (S.lb k).h + 1 := fun k hk => by
      refine ⟨(hns k hk).1, ?_⟩
      rw [← oh, labOver_h ov (List.mem_map.mpr ⟨k, hk, rfl⟩)]
    have hnn : ∀ k ∈ ns, k ≠ n := fun k hk z => by
      have := (hk0 k hk).2
      rw [z] at this
      omega
    have em : ns.map (fset S.lb n (labOver (ns.map S.lb))) = ns.map S.lb := List.map_congr_left fun k hk => fset_ne _ _ (hnn k hk)
    have hl0 : LabOk (fset S.tw n (.stem ns)) (fset S.lb n (labOver (ns.map S.lb))) n := .of_stem (fset_same _ _ _) (by rw [em]; exact ov) (by rw [em]; exact fset_same _ _ _)
    refine ⟨_, rfl, A.p, A.dx, _, rfl, D4.ob, fl_no _ _ (by decide +kernel), _, rfl, _, rfl, A, S, n, _, .stem ns, labOver (ns.map S.lb), rfl, D4, wf, l4, labOver_good ov (fun l hl => ?_), hn, hal, tb_start wf hn hk0 hl0 oh hlo hhi, by omega, fun H5 b ch fv L e5 hb hb5 hch hout hchn lok => ?_⟩
    · obtain ⟨k, hk, rfl⟩ := List.mem_map.mp hl
      exact hgood k hk
    have e25 := (e3.trans e4).trans e5
    have e05 := e2.trans e25
    have D5 := D.same e05
    have hq15 := e05 _ _ hq1
    have hq25 := e05 _ _ hq2
    have h5q := e25 _ _ h2q
    have hbo : b ∉ A.fp S.ks := D4.out hb
    have hbq : b ≠ q0 := fun z => by
      rw [z, h5q] at hb5
      cases hb5
    have hin : ∀ m, m ∈ ns.filter (fun k => !decide (k ∈ old)) ↔ m ∈ ns ∧ m ∉ old := fun m => by
      rw [List.mem_filter]
      simp
    refine ⟨_, rfl, A.p, C, A.dx, _, _, rfl, D5.ob, T.cl, T.n_kept, fl_kept _ _, _, rfl, A.dk, _, rfl, dget D5.k hn, tp, _, _, _, htp, rfl, SqT.of hq15, atI_nat (j := 1) rfl, ?_⟩
    refine ⟨_, rfl, q0, rfl, ⟨_, SqL.of h5q⟩, fun l8 hl8 => ?_⟩
    refine lc_rel (walk_list (K := K) (a := q0) (xs := nvs ns)) hl8 (fun i acc _ => acc = nvs ((ns.take i).filter fun k => !decide (k ∈ old))) (by rw [nvs_len]; omega) (fun H' e => SqL.of (e _ _ h5q)) (fun _ _ _ _ _ h => h) (by rw [List.take_zero]; rfl) ?_ ?_
    · rintro i y acc H' hi hy e rfl Kx Ky kx ky
      obtain ⟨c, hc', rfl⟩ := nvs_get hy
      refine ⟨rfl, _, rfl, _, rfl, q1, _, rfl, .inr (SqT.of (e _ _ hq25)), rfl, flat_nvs _, !decide (c ∈ old), by rw [in_nvs]; rfl, ?_⟩
      by_cases hco : c ∈ old
      · rw [decide_eq_true hco]
        refine iteF (ky _ (Same.refl _) ?_)
        rw [take_snoc hc', List.filter_append, List.filter_cons_of_neg (by simp [hco]), List.filter_nil, List.append_nil]
      · rw [decide_eq_false hco]
        refine ⟨_, rfl, kx _ _ (Same.refl _) ?_⟩
        rw [take_snoc hc', List.filter_append, List.filter_cons_of_pos (by simp [hco]), List.filter_nil]
        exact nvs_snoc _ _
    rintro acc H6 e6 rfl hl6 hd6
    rw [take_all (by rw [nvs_len]; exact Nat.le_refl _)] at hd6
    have D6 := D5.same e6
    refine ⟨_, rfl, A.p, A.dx, _, rfl, D6.ob, fl_no _ _ (by decide +kernel), _, rfl, A, S, l8, _, rfl, D6, SqL.of hd6, fun c hc => ⟨(hns c ((hin c).mp hc).1).1, (hns c ((hin c).mp hc).1).2 ((hin c).mp hc).2⟩, ?_⟩
    refine ⟨_, rfl, q0, _, rfl, .inl ⟨SqL.of (e6 _ _ h5q), fun q2 hq2' => ⟨szn 2, fun q3 hq3 => ?_⟩⟩⟩
    have e7 : Same H6 (upd (upd H6 q2 (.tup (nvs ns))) q3 (.tup [.str "stem", .ref q2])) := (same_new hq2').trans (same_new hq3)
    have D7 := D6.same e7
    have e57 := e6.trans e7
    have hb7 := e57 _ _ hb5
    have hl87 := e7 _ _ hd6
    have h7q := e57 _ _ h5q
    have h7q1 := e57 _ _ hq25
    have hq7 : upd (upd H6 q2 (.tup (nvs ns))) q3 (.tup [.str "stem", .ref q2]) q2 = some (.tup (nvs ns)) := (same_new hq3) _ _ upd_same
    have hq8 : upd (upd H6 q2 (.tup (nvs ns))) q3 (.tup [.str "stem", .ref q2]) q3 = some (.tup [.str "stem", .ref q2]) := upd_same
    generalize upd (upd H6 q2 (.tup (nvs ns))) q3 (.tup [.str "stem", .ref q2]) = H7 at D7 hb7 hl87 h7q h7q1 hq7 hq8 e7 e57
    have e07 : Same H H7 := e05.trans e57
    have l8o : l8 ∉ A.fp S.ks := D5.out hl8
    refine ⟨_, rfl, A.p, C, A.dx, _, _, rfl, D7.ob, T.cl, T.n_kept, fl_kept _ _, _, rfl, A.dk, _, rfl, dput D7.k hn (by omega), ?_⟩
    have st8 := D7.stp_setKp (fset A.kp n (.ref q3)) (fset S.tw n (.stem ns)) fun m hm => by
      by_cases e : m = n
      · rw [e, fset_same, fset_same]
        exact ⟨q3, q2, rfl, hq8, hq7⟩
      · rw [fset_ne _ _ e, fset_ne _ _ e]
        exact D7.kv m hm
    have D8 := st8.at_
    have hb8 := st8.kp _ _ hb7 hbo
    have hbt : A.dt ≠ b := fun z => hbo (z ▸ fp_dt _)
    have hchl : ch.length ≤ S.ks.length := nd_len hchn fun k hk => (hch k hk).1
    refine ⟨_, rfl, A.p, C, A.dx, _, _, rfl, D8.ob, T.cl, T.n_tags, fl_tags _ _, A.dt, rfl, .inl ⟨_, Rd.of D8.t⟩, _, rfl, b, _, _, rfl, D8.t, hb8, hbt, ?_, ?_⟩
    · rw [dF_len, dF_len]
      exact small_sz (by show S.ks.length + ch.length ≤ _; omega)
    rw [merge_dF fun m hm => (hch m hm).1]
    have ts8 : TS H5 _ := (ts_same e57).trans (st8.kp.ts D7.noTup)
    have st9 := D8.stp_setTg (fun m => if m ∈ ch then fv m else A.tg m) L fun m hm => by
      by_cases e : m ∈ ch
      · rw [if_pos e]
        exact (hch m e).2.ts ts8
      · rw [if_neg e, hout m hm e]
        exact (D5.tv m hm).ts ts8
    have D9 := st9.at_
    have stA := Stp.trans D (D.stp_same e07) (Stp.trans D7 st8 st9)
    have kp9 : Keep (A.fp S.ks) H7 _ := (Stp.trans D7 st8 st9).kp
    have hl89 := kp9 _ _ hl87 l8o
    have h9q := kp9 _ _ h7q hq0'
    have h9q1 := (kp9.ts D7.noTup) _ _ h7q1
    refine ⟨_, rfl, A.p, A.dx, _, rfl, D9.ob, fl_no _ _ (by decide +kernel), _, rfl, _, rfl, { A with kp := fset A.kp n (.ref q3), tg := fun m => if m ∈ ch then fv m else A.tg m }, { S with tw := fset S.tw n (.stem ns), lb := L }, l8, ns.filter (fun k => !decide (k ∈ old)), n, rfl, D9, SqL.of hl89, l8o, hnd.sublist List.filter_sublist, fun c hc => ?_, (by show S.ks.length < 1000; omega), fun H10 st10 => ?_⟩
    · obtain ⟨x1, x2⟩ := (hin c).mp hc
      obtain ⟨x3, x4⟩ := hns c x1
      refine ⟨x3, x4 x2, ?_⟩
      have := wf.ab_len x3
      show (S.ab c).length < 1000
      omega
    have D10 := st10.at_
    have h10q := st10.kp _ _ h9q hq0'
    have h10q1 := (st10.kp.ts D9.noTup) _ _ h9q1
    have noT := D10.noTup
    refine ⟨_, rfl, q1, rfl, ⟨_, SqT.of h10q1⟩, for_it (walk_tup (K := K) (a := q1) (xs := nvs old)) (fun i σ H' => ∃ v, σ = [some (.ref A.p), some (.int (n : Int)), some (.ref a), some (.ref q0), v, some (.ref g1), some (.ref b), some (.ref q1), some (.ref l8)] ∧
      Stp C G H10 { A with kp := fset A.kp n (.ref q3), tg := fun m => if m ∈ ch then fv m else A.tg m } (shHand { S with tw := fset S.tw n (.stem ns), lb := L } (ns.filter fun k => !decide (k ∈ old)) n) H' { A with kp := fset A.kp n (.ref q3), tg := fun m => if m ∈ ch then fv m else A.tg m } (shLet (shHand { S with tw := fset S.tw n (.stem ns), lb := L } (ns.filter fun k => !decide (k ∈ old)) n) ns n (old.take i))) ⟨_, rfl, D10.refl.ext rfl rfl fun m _ => ⟨rfl, rfl, ?_, ?_⟩⟩ (fun i σ H' _ ⟨_, _, st⟩ => SqT.of (st.kp.ts noT _ _ h10q1)) ?_ ?_⟩
    · exact (let0 _ _ _ m).1
    · exact (let0 _ _ _ m).2
    · rintro i y σ _ H11 hi ⟨v, rfl, st11⟩ ⟨rfl, hy⟩
      obtain ⟨c, hc', rfl⟩ := nvs_get hy
      obtain ⟨x1, x2, x3⟩ := hkold c (List.mem_of_getElem? hc')
      have hci : c ∉ old.take i := nd_take hond hc'
      have D11 := st11.at_
      refine ⟨_, rfl, _, rfl, q0, _, rfl, .inl (SqL.of (st11.kp _ _ h10q hq0')), rfl, flat_nvs _, !decide (c ∈ ns), by rw [in_nvs]; rfl, ?_⟩
      have stay : ∀ m, m ≠ c → (m ∈ old.take (i + 1) ↔ m ∈ old.take i) := fun m e => by
        rw [take_snoc hc', List.mem_append, List.mem_singleton]
        exact ⟨fun z => z.elim id fun y => absurd y e, .inl⟩
      by_cases hcn : c ∈ ns
      · rw [decide_eq_true hcn]
        refine iteF ⟨_, rfl, st11.ext rfl rfl fun m _ => ?_⟩
        have em : (m ∈ old.take (i + 1) ∧ m ∉ ns) ↔ (m ∈ old.take i ∧ m ∉ ns) := by
          by_cases e : m = c
          · rw [e]
            exact ⟨fun z => absurd hcn z.2, fun z => absurd hcn z.2⟩
          · rw [stay m e]
        refine ⟨rfl, rfl, ?_, ?_⟩
        · show (if m ∈ old.take (i + 1) ∧ m ∉ ns then _ else _) = (if m ∈ old.take i ∧ m ∉ ns then _ else _)
          simp only [em]
        · show (if m ∈ old.take (i + 1) ∧ m ∉ ns then _ else _) = (if m ∈ old.take i ∧ m ∉ ns then _ else _)
          simp only [em]
      · rw [decide_eq_false hcn]
        have hcw : c ∉ ns.filter (fun k => !decide (k ∈ old)) := fun z => hcn ((hin c).mp z).1
        have eab : (shLet (shHand { S with tw := fset S.tw n (.stem ns), lb := L } (ns.filter fun k => !decide (k ∈ old)) n) ns n (old.take i)).ab c = S.ab c := (if_neg fun z => hci z.1).trans (if_neg hcw)
        have efr : (shLet (shHand { S with tw := fset S.tw n (.stem ns), lb := L } (ns.filter fun k => !decide (k ∈ old)) n) ns n (old.take i)).fr c = S.fr c := (if_neg fun z => hci z.1).trans (if_neg hcw)
        have al11 := D11.al c x1
        rw [eab, ← nvs_eq] at al11
        obtain ⟨j, z1, z2, z3⟩ := rem_at x3
        refine ⟨_, rfl, A.p, C, A.dx, _, _, rfl, D11.ob, T.cl, T.n_above, fl_above _ _, _, rfl, A.da, _, rfl, dget D11.a x1, .inl ⟨rfl, _, SqL.of al11⟩, _, rfl, A.ab c, _, _, j, rfl, rfl, al11, z1, z2, ?_⟩
        rw [z3]
        have st12 := D11.stp_setAb x1 ((S.ab c).erase n)
        have D12 := st12.at_
        have g12 : DGet (upd H11 (A.ab c) (.lst (nvs ((S.ab c).erase n)))) A.df (.int (c : Int)) (some (.int (((shLet (shHand { S with tw := fset S.tw n (.stem ns), lb := L } (ns.filter fun k => !decide (k ∈ old)) n) ns n (old.take i)).fr c : Nat) : Int))) := dget D12.f x1
        rw [efr] at g12
        refine ⟨_, rfl, A.p, C, A.dx, _, _, rfl, D12.ob, T.cl, T.n_freely, fl_freely _ _, _, rfl, A.df, _, rfl, g12, _, _, rfl, rfl, ?_⟩
        refine ⟨_, rfl, A.p, C, A.dx, _, _, rfl, D12.ob, T.cl, T.n_freely, fl_freely _ _, _, rfl, A.df, _, rfl, dput (v := .int ((S.fr c : Int) + 1)) D12.f x1 (by show S.ks.length < 1000; omega), ?_⟩
        have e1 : (S.fr c : Int) + 1 = ((S.fr c + 1 : Nat) : Int) := by omega
        rw [e1, fr_put]
        have st13 := D12.stp_setFr (fset (shLet (shHand { S with tw := fset S.tw n (.stem ns), lb := L } (ns.filter fun k => !decide (k ∈ old)) n) ns n (old.take i)).fr c (S.fr c + 1))
        refine ⟨_, rfl, (Stp.trans D10 st11 (Stp.trans D11 st12 st13)).ext rfl rfl fun m _ => ⟨rfl, rfl, ?_, ?_⟩⟩
        · show (if m ∈ old.take (i + 1) ∧ m ∉ ns then (if _ then _ else _ : List Nat).erase n else _) = fset (shLet _ ns n (old.take i)).ab c ((S.ab c).erase n) m
          by_cases e : m = c
          · rw [e, fset_same, if_pos ⟨by rw [take_snoc hc']; simp, hcn⟩]
            show (if c ∈ _ then _ else _ : List Nat).erase n = _
            rw [if_neg hcw]
          · rw [fset_ne _ _ e]
            show _ = (if m ∈ old.take i ∧ m ∉ ns then _ else _)
            simp only [stay m e]
            rfl
        · show (if m ∈ old.take (i + 1) ∧ m ∉ ns then (if _ then _ else _ : Nat) + 1 else _) = fset (shLet _ ns n (old.take i)).fr c (S.fr c + 1) m
          by_cases e : m = c
          · rw [e, fset_same, if_pos ⟨by rw [take_snoc hc']; simp, hcn⟩]
            show (if c ∈ _ then _ else _ : Nat) + 1 = _
            rw [if_neg hcw]
          · rw [fset_ne _ _ e]
            show _ = (if m ∈ old.take i ∧ m ∉ ns then _ else _)
            simp only [stay m e]
            rfl
    · rintro σ H11 ⟨v, rfl, st11⟩
      rw [take_all (by rw [nvs_len]; exact Nat.le_refl _)] at st11
      refine q H11 _ L ((Stp.trans D stA (Stp.trans D9 st10 st11)).ext rfl rfl fun m _ => ⟨rfl, rfl, ?_, ?_⟩) lok
      · show (if m ∈ ns ∧ m ∉ old then S.ab m ++ [n] else if m ∈ old ∧ m ∉ ns then (S.ab m).erase n else S.ab m) = if m ∈ old ∧ m ∉ ns then (if m ∈ ns.filter _ then S.ab m ++ [n] else S.ab m).erase n else (if m ∈ ns.filter _ then S.ab m ++ [n] else S.ab m)
        simp only [hin]
        by_cases y1 : m ∈ ns <;> by_cases y2 : m ∈ old <;> simp [y1, y2]
      · show (if m ∈ ns ∧ m ∉ old then S.fr m - 1 else if m ∈ old ∧ m ∉ ns then S.fr m + 1 else S.fr m) = if m ∈ old ∧ m ∉ ns then (if m ∈ ns.filter _ then S.fr m - 1 else S.fr m) + 1 else (if m ∈ ns.filter _ then S.fr m - 1 else S.fr m)
        simp only [hin]
        by_cases y1 : m ∈ ns <;> by_cases y2 : m ∈ old <;> simp [y1, y2]
end
end Tw
end

section
set_option Elab.async false
set_option maxRecDepth 100000
set_option maxHeartbeats 4000000
set_option autoImplicit false
/-! the law's wells -/
namespace Tw
open PySem L2 Twg
abbrev s_lwell : Stmt := top 30
theorem sc_lwell : FnScope ["_law_script", "_law_k", "_law_left", "_law_cell", "_law_digits"] ["_law_script", "_law_k"] (defScope s_lwell) := ⟨rfl, rfl, rfl, by decide +kernel, rfl, by decide +kernel, by decide +kernel⟩
abbrev s_lpull : Stmt := top 31
theorem sc_lpull : FnScope ["_law_well_here", "_law_many", "_law_found", "_law_first", "_law_second"] ["_law_well_here", "_law_many"] (defScope s_lpull) := ⟨rfl, rfl, rfl, by decide +kernel, rfl, by decide +kernel, by decide +kernel⟩
def WlAt (H : Hp) (wl : Addr) : Prop := ∃ a b c d : Int, H wl = some (.lst [.int a, .int b, .int c, .int d]) ∧ 0 ≤ a ∧ a < 2147483647 ∧ 0 ≤ c ∧ 0 ≤ d
theorem WlAt.keep {fp : List Addr} {H H' : Hp} {wl : Addr} (h : WlAt H wl) (k : Keep fp H H') (n : wl ∉ fp) : WlAt H' wl := by
  obtain ⟨a, b, c, d, e, r⟩ := h
  exact ⟨a, b, c, d, k _ _ e n, r⟩
theorem WlAt.same {H H' : Hp} {wl : Addr} (h : WlAt H wl) (k : Same H H') : WlAt H' wl := h.keep (Keep.of_same (fp := []) k) (by simp)
theorem WlAt.no {H : Hp} {wl : Addr} (h : WlAt H wl) : H wl ≠ none := by
  obtain ⟨a, b, c, d, e, r⟩ := h
  rw [e]
  exact fun z => by cases z
theorem WlAt.noT {H : Hp} {wl : Addr} (h : WlAt H wl) : ∀ b ∈ [wl], ∀ xs, H b ≠ some (.tup xs) := fun b hb xs => by
  obtain ⟨a, b, c, d, e, r⟩ := h
  rw [List.mem_singleton.mp hb, e]
  exact fun z => by cases z
theorem WlAt.ts {H H' : Hp} {wl : Addr} (h : WlAt H wl) (k : Keep [wl] H H') : TS H H' := k.ts h.noT
/-- what was new behind a pull was new ahead of it -/
theorem WlAt.free {H H' : Hp} {wl : Addr} (h : WlAt H' wl) (k : Keep [wl] H H') {p : Addr} (hp : H' p = none) : H p = none := keep_free k hp fun z => by
  rw [List.mem_singleton.mp z] at hp
  exact h.no hp
theorem sqL_keep {K : PySem.W.Frag} {fp : List Addr} {H H' : Hp} (e : Keep fp H H') {a : Addr} {xs : List V} (h : SqL K H a xs) (n : a ∉ fp) : SqL K H' a xs := keep_sql e h n
def spWell (K : PySem.W.Frag) : Sp := fun vs H Q _ => ∃ (a : Addr) (is : List Int) (k : Nat), vs = [.ref a, .int (k : Int)] ∧ SqL K H a (is.map V.int) ∧ is.length ≤ 63 ∧ k ≤ 100000 ∧ ∀ (wl : Addr) (H' : Hp), Same H H' → H wl = none → WlAt H' wl → Q (.ref wl) H'
def spPull : Sp := fun vs H Q _ => ∃ (wl : Addr) (m : Nat), vs = [.ref wl, .int (m : Int)] ∧ 0 < m ∧ m < 100000 ∧ WlAt H wl ∧ ∀ (r : Nat) (H' : Hp), r < m → Keep [wl] H H' → WlAt H' wl → Q (.int (r : Int)) H'
section
variable {P : Program} {w : World} {K : PySem.W.Frag} {mg : Str → Option Value} {base : Heap}
theorem df_well (B : Bas mg) (R : RawG K mg "_law_well" s_lwell ["_law_script", "_law_k"]) : DfG P w K mg base 1 "_law_well" ["_law_script", "_law_k"] (spWell K) := by
  obtain ⟨f, fd, hm, hk, hb, F⟩ := R
  refine ⟨f, fd, hm, hk, hb, F.ok sc_lwell (fun vs H Q E h => ?_) (fun cdv A outer s H vs Q E hr h => ?_)⟩
  · obtain ⟨a, is, k, rfl, _⟩ := h
    rfl
  · obtain ⟨a, is, k, rfl, hS, hlen, hk, q⟩ := h
    have hu := hu_of hr
    have nd := sc_lwell.nd
    refine ⟨_, (pss_cons (ps_set (i := 2) nd rfl (by first | exact Or.inl rfl | exact Or.inr rfl) (pe_ix ix_list (pe_lst (pa_cons pe_int (pa_cons pe_int pa_nil))) (pe_callTy call_int1 (by rfl) B.b_int (by decide +kernel) (pa_cons (pe_cmpR op_eq (pv 1) pe_int (nomark _)) pa_nil)) (fun _ _ => rfl)))
      (pss_cons (ps_set (i := 3) nd rfl (by first | exact Or.inl rfl | exact Or.inr rfl) (pe_ix ix_list (pe_op op_cat (pe_callTy call_list_of (by rfl) B.b_list (by decide +kernel) (pa_cons (pv 0) pa_nil)) (pe_lst (pa_cons pe_int pa_nil))) (pe_op op_modN (pv 1) (pe_callB (call_max2 rfl) (by rfl) B.b_max (by decide +kernel) (pa_cons pe_int (pa_cons (pe_callB call_len_seq (by rfl) B.b_len PySem.boot_len (pa_cons (pv 0) pa_nil)) pa_nil)))) (fun _ _ => rfl)))
      (pss_cons (ps_set (i := 4) nd rfl (by first | exact Or.inl rfl | exact Or.inr rfl) (pe_op op_mul (pe_callB call_abs (by rfl) B.b_abs (by decide +kernel) (pa_cons (pv 3) pa_nil)) (pe_callTy call_int1 (by rfl) B.b_int (by decide +kernel) (pa_cons (pe_and (pe_cmpR op_ge (pe_callB call_abs (by rfl) B.b_abs (by decide +kernel) (pa_cons (pv 3) pa_nil)) (pe_op op_pow pe_int pe_int) (nomark _)) (pe_one (pe_cmpR op_lt (pv 1) (pe_callB call_len_seq (by rfl) B.b_len PySem.boot_len (pa_cons (pv 0) pa_nil)) (nomark _)))) pa_nil))))
      (pss_one (ps_ret (pe_lst (pa_cons (pe_op op_mod (pv 3) pe_int) (pa_cons (pe_op op_mul pe_int (pv 1)) (pa_cons (pv 4) (pa_cons (pv 2) pa_nil)))))))))), ?_⟩
    obtain ⟨v0, hv0, hv1⟩ : ∃ d : Int, atI [V.int 240, V.int 2400] (if decide (V.int (k : Int) = V.int 0) = true then 1 else 0) = some (.int d) ∧ 0 ≤ d := by
      by_cases z : V.int (k : Int) = V.int 0
      · exact ⟨2400, by rw [if_pos (decide_eq_true z)]; rfl, by omega⟩
      · exact ⟨240, by rw [if_neg (by rw [decide_eq_false z]; exact Bool.noConfusion)]; rfl, by omega⟩
    refine ⟨szn 2, fun l1 hl1 => ?_⟩
    refine ⟨_, rfl, rfl, .inr ⟨_, rfl, l1, _, _, _, rfl, rfl, SqL.of upd_same, hv0, ?_⟩⟩
    have s1 : Same H (upd H l1 (.lst [.int 240, .int 2400])) := same_new hl1
    have h1 := s1.seq hS
    generalize upd H l1 (.lst [.int 240, .int 2400]) = H1 at s1 h1
    refine ⟨_, rfl, a, _, rfl, .inl h1, fun l2 hl2 => ⟨szn 1, fun l3 hl3 => ⟨l2, l3, _, _, rfl, rfl, (same_new hl3) _ _ upd_same, upd_same, ?_, fun l4 hl4 => ?_⟩⟩⟩
    · rw [List.length_map]
      exact small_sz (by show is.length + 1 ≤ _; omega)
    have s4 : Same H1 (upd (upd (upd H1 l2 (.lst (is.map V.int))) l3 (.lst [.int 0])) l4 (.lst (is.map V.int ++ [.int 0]))) := ((same_new hl2).trans (same_new hl3)).trans (same_new hl4)
    have h4 : upd (upd (upd H1 l2 (.lst (is.map V.int))) l3 (.lst [.int 0])) l4 (.lst (is.map V.int ++ [.int 0])) l4 = some (.lst (is.map V.int ++ [.int 0])) := upd_same
    generalize upd (upd (upd H1 l2 (.lst (is.map V.int))) l3 (.lst [.int 0])) l4 (.lst (is.map V.int ++ [.int 0])) = H4 at s4 h4
    have h14 := s4.seq h1
    obtain ⟨cell, hcell⟩ : ∃ cell : Int, atI (is.map V.int ++ [.int 0]) ((k : Int).fmod (if ((is.map V.int).length : Int) > 1 then ((is.map V.int).length : Int) else 1)) = some (.int cell) := by
      have hpos : (0 : Int) < (if ((is.map V.int).length : Int) > 1 then ((is.map V.int).length : Int) else 1) := by split <;> omega
      have hle : (if ((is.map V.int).length : Int) > 1 then ((is.map V.int).length : Int) else 1) ≤ (is.length : Int) + 1 := by
        rw [List.length_map]
        split <;> omega
      generalize (if ((is.map V.int).length : Int) > 1 then ((is.map V.int).length : Int) else 1) = j at hpos hle
      rw [Int.fmod_eq_emod_of_nonneg _ (by omega)]
      have r0 := Int.emod_nonneg (k : Int) (show j ≠ 0 by omega)
      have r1 := Int.emod_lt_of_pos (k : Int) hpos
      have er : (k : Int) % j = ((((k : Int) % j).toNat : Nat) : Int) := by omega
      rw [er]
      have hlt : ((k : Int) % j).toNat < (is ++ [0]).length := by
        rw [List.length_append, List.length_singleton]
        omega
      refine ⟨(is ++ [0])[((k : Int) % j).toNat], atI_nat ?_⟩
      have em : is.map V.int ++ [.int 0] = (is ++ [0]).map V.int := by rw [List.map_append]; rfl
      rw [em, List.getElem?_map, List.getElem?_eq_getElem hlt]
      rfl
    refine ⟨_, rfl, _, rfl, a, _, rfl, .inl h14, _, _, rfl, _, _, rfl, rfl, ?_, l4, _, _, _, rfl, rfl, SqL.of h4, hcell, ?_⟩
    · split <;> omega
    have habs : (0 : Int) ≤ (if cell < 0 then -cell else cell) := by split <;> omega
    refine ⟨_, rfl, _, rfl, _, rfl, _, rfl, ⟨_, _, rfl, rfl, ⟨by omega, by omega, by decide⟩, _, _, rfl, rfl, ?_⟩⟩
    have fin : ∀ b : Bool, CMul (if cell < 0 then -cell else cell) (if b = true then 1 else 0) ∧ (0 : Int) ≤ (if cell < 0 then -cell else cell) * (if b = true then 1 else 0) := fun b => by
      cases b
      · exact ⟨.inr (by decide), by simp⟩
      · exact ⟨.inr (by decide), by simpa using habs⟩
    have free : ∀ {p : Addr}, H4 p = none → H p = none := fun {p} z => by
      cases y : H p with
      | none => rfl
      | some o =>
        rw [s4 _ _ (s1 _ _ y)] at z
        cases z
    have out : ∀ (b : Bool) (p : Addr), H4 p = none → Q (.ref p) (upd H4 p (.lst [.int (cell % 2147483647), .int (1000 * (k : Int)), .int ((if cell < 0 then -cell else cell) * (if b = true then 1 else 0)), .int v0])) := fun b p hp =>
      q p _ ((s1.trans s4).trans (same_new hp)) (free hp) ⟨_, _, _, _, upd_same, Int.emod_nonneg _ (by omega), Int.emod_lt_of_pos _ (by omega), (fin b).2, hv1⟩
    by_cases c1 : (10 : Int) ^ (18 : Int).toNat ≤ (if cell < 0 then -cell else cell)
    · refine ⟨true, blT c1, _, rfl, _, rfl, a, _, rfl, .inl h14, _, _, rfl, rfl, .inr ⟨_, rfl, _, _, rfl, rfl, (fin _).1, ?_⟩⟩
      exact ⟨_, rfl, _, _, rfl, rfl, (by show (0 : Int) < 2147483647; decide), _, rfl, _, _, rfl, rfl, .inl (by decide), _, rfl, _, rfl, szn 4, fun p hp => out _ p hp⟩
    · refine ⟨false, blF c1, .inr ⟨_, rfl, _, _, rfl, rfl, (fin false).1, ?_⟩⟩
      exact ⟨_, rfl, _, _, rfl, rfl, (by show (0 : Int) < 2147483647; decide), _, rfl, _, _, rfl, rfl, .inl (by decide), _, rfl, _, rfl, szn 4, fun p hp => out false p hp⟩
theorem df_pull (B : Bas mg) (R : RawG K mg "_law_pull" s_lpull ["_law_well_here", "_law_many"]) : DfG P w K mg base 1 "_law_pull" ["_law_well_here", "_law_many"] spPull := by
  obtain ⟨f, fd, hm, hk, hb, F⟩ := R
  refine ⟨f, fd, hm, hk, hb, F.ok sc_lpull (fun vs H Q E h => ?_) (fun cdv A outer s H vs Q E hr h => ?_)⟩
  · obtain ⟨wl, m, rfl, _⟩ := h
    rfl
  · obtain ⟨wl, m, rfl, h0, h1, hw, q⟩ := h
    have hu := hu_of hr
    have nd := sc_lpull.nd
    refine ⟨_, (pss_cons (ps_if (pt_cmpR op_eq (pe_ix ix_list (pv 0) pe_int (fun _ _ => rfl)) pe_int (nomark _))
        (pss_one (ps_ret pe_int))
        pss_nil)
      (pss_cons (ps_asg (pe_op op_sub (pe_ix ix_list (pv 0) pe_int (fun _ _ => rfl)) pe_int) (pg_sub (pv 0) pe_int set_list))
      (pss_cons (ps_if (pt_cmpR op_gt (pe_ix ix_list (pv 0) pe_int (fun _ _ => rfl)) pe_int (nomark _))
        (pss_cons (ps_set (i := 2) nd rfl (by first | exact Or.inl rfl | exact Or.inr rfl) (pe_op op_modN (pe_ix ix_list (pv 0) pe_int (fun _ _ => rfl)) (pv 1)))
        (pss_cons (ps_asg (pe_op op_fdivN (pe_ix ix_list (pv 0) pe_int (fun _ _ => rfl)) (pv 1)) (pg_sub (pv 0) pe_int set_list))
        (pss_one (ps_ret (pv 2)))))
        pss_nil)
      (pss_cons (ps_asg (pe_op op_add (pe_ix ix_list (pv 0) pe_int (fun _ _ => rfl)) pe_int) (pg_sub (pv 0) pe_int set_list))
      (pss_cons (ps_set (i := 3) nd rfl (by first | exact Or.inl rfl | exact Or.inr rfl) (pe_op op_mod (pe_op op_mul (pe_op op_add (pe_ix ix_list (pv 0) pe_int (fun _ _ => rfl)) pe_int) (pe_op op_add pe_int (pe_op op_mul pe_int (pe_ix ix_list (pv 0) pe_int (fun _ _ => rfl))))) pe_int))
      (pss_cons (ps_set (i := 4) nd rfl (by first | exact Or.inl rfl | exact Or.inr rfl) (pe_op op_mod (pe_op op_mul (pe_op op_add (pe_op op_fdiv (pv 3) pe_int) pe_int) (pe_op op_add (pe_op op_mod (pv 3) pe_int) pe_int)) pe_int))
      (pss_one (ps_ret (pe_op op_modN (pe_op op_fdiv (pv 4) pe_int) (pv 1)))))))))), ?_⟩
    obtain ⟨a, b, c, d, e, ha0, ha1, hc, hd⟩ := hw
    have hm0 : (0 : Int) < (m : Int) := by omega
    have hm1 : (m : Int) ≠ 0 := by omega
    by_cases hd0 : d = 0
    · exact ⟨_, rfl, wl, _, _, _, rfl, rfl, SqL.of e, atI_nat (j := 3) rfl, rfl, true, blT (by rw [hd0]), q 0 H h0 (Keep.refl _ _) ⟨a, b, c, d, e, ha0, ha1, hc, hd⟩⟩
    refine ⟨_, rfl, wl, _, _, _, rfl, rfl, SqL.of e, atI_nat (j := 3) rfl, rfl, false, blF (vint_ne hd0), iteF ?_⟩
    refine ⟨_, rfl, wl, _, _, _, rfl, rfl, SqL.of e, atI_nat (j := 3) rfl, _, _, rfl, rfl, _, rfl, wl, _, 3, 3, rfl, rfl, e, rfl, ?_⟩
    have e1 : upd H wl (.lst [.int a, .int b, .int c, .int (d - 1)]) wl = some (.lst [.int a, .int b, .int c, .int (d - 1)]) := upd_same
    have k1 : Keep [wl] H (upd H wl (.lst [.int a, .int b, .int c, .int (d - 1)])) := keep_upd (List.mem_singleton.mpr rfl)
    show tSeq _ _ _ _ (upd H wl (.lst [.int a, .int b, .int c, .int (d - 1)]))
    generalize upd H wl (.lst [.int a, .int b, .int c, .int (d - 1)]) = H1 at e1 k1
    have hd1 : 0 ≤ d - 1 := by omega
    by_cases hc0 : 0 < c
    · refine ⟨_, rfl, wl, _, _, _, rfl, rfl, SqL.of e1, atI_nat (j := 2) rfl, _, _, rfl, rfl, true, blT hc0, ?_⟩
      refine ⟨_, rfl, wl, _, _, _, rfl, rfl, SqL.of e1, atI_nat (j := 2) rfl, _, rfl, _, _, rfl, rfl, hm1, ?_⟩
      refine ⟨_, rfl, wl, _, _, _, rfl, rfl, SqL.of e1, atI_nat (j := 2) rfl, _, rfl, _, _, rfl, rfl, ⟨hm1, by omega⟩, _, rfl, wl, _, 2, 2, rfl, rfl, e1, rfl, _, rfl, ?_⟩
      show Q (.int (c.fmod (m : Int))) (upd H1 wl (.lst [.int a, .int b, .int (c.fdiv (m : Int)), .int (d - 1)]))
      rw [Int.fdiv_eq_ediv_of_nonneg c (by omega), Int.fmod_eq_emod_of_nonneg c (by omega)]
      have r0 := Int.emod_nonneg c hm1
      have r1 := Int.emod_lt_of_pos c hm0
      have er : c % (m : Int) = (((c % (m : Int)).toNat : Nat) : Int) := by omega
      rw [er]
      exact q _ _ (by omega) (k1.trans (keep_upd (List.mem_singleton.mpr rfl))) ⟨a, b, c / (m : Int), d - 1, upd_same, ha0, ha1, Int.ediv_nonneg hc (by omega), hd1⟩
    · refine ⟨_, rfl, wl, _, _, _, rfl, rfl, SqL.of e1, atI_nat (j := 2) rfl, _, _, rfl, rfl, false, blF hc0, iteF ?_⟩
      refine ⟨_, rfl, wl, _, _, _, rfl, rfl, SqL.of e1, atI_nat (j := 1) rfl, _, _, rfl, rfl, _, rfl, wl, _, 1, 1, rfl, rfl, e1, rfl, ?_⟩
      have e2 : upd H1 wl (.lst [.int a, .int (b + 1), .int c, .int (d - 1)]) wl = some (.lst [.int a, .int (b + 1), .int c, .int (d - 1)]) := upd_same
      have k2 : Keep [wl] H (upd H1 wl (.lst [.int a, .int (b + 1), .int c, .int (d - 1)])) := k1.trans (keep_upd (List.mem_singleton.mpr rfl))
      show tSeq _ _ _ _ (upd H1 wl (.lst [.int a, .int (b + 1), .int c, .int (d - 1)]))
      generalize upd H1 wl (.lst [.int a, .int (b + 1), .int c, .int (d - 1)]) = H2 at e2 k2
      refine ⟨_, rfl, wl, _, _, _, rfl, rfl, SqL.of e2, atI_nat (j := 0) rfl, _, _, rfl, rfl, _, rfl, wl, _, _, _, rfl, rfl, SqL.of e2, atI_nat (j := 1) rfl, _, _, rfl, rfl, .inl (by omega), _, _, rfl, rfl, _, _, rfl, rfl, .inl (by omega), _, _, rfl, rfl, by omega, ?_⟩
      have f0 : 0 ≤ (a + 1) * (48271 + 7919 * (b + 1)) % 2147483629 := Int.emod_nonneg _ (by omega)
      have f1 : (a + 1) * (48271 + 7919 * (b + 1)) % 2147483629 < 2147483629 := Int.emod_lt_of_pos _ (by omega)
      generalize (a + 1) * (48271 + 7919 * (b + 1)) % 2147483629 = x at f0 f1
      refine ⟨_, rfl, _, _, rfl, rfl, ⟨by omega, by omega⟩, _, _, rfl, rfl, _, rfl, _, _, rfl, rfl, by omega, _, _, rfl, rfl, _, _, rfl, rfl, .inl (by omega), _, _, rfl, rfl, by omega, ?_⟩
      refine ⟨_, rfl, _, _, rfl, rfl, ⟨by omega, by omega⟩, _, rfl, _, _, rfl, rfl, hm1, ?_⟩
      have key : ∀ y : Int, Q (.int (y.fmod (m : Int))) H2 := fun y => by
        rw [Int.fmod_eq_emod_of_nonneg y (by omega)]
        have r0 := Int.emod_nonneg y hm1
        have r1 := Int.emod_lt_of_pos y hm0
        have er : y % (m : Int) = (((y % (m : Int)).toNat : Nat) : Int) := by omega
        rw [er]
        exact q _ _ (by omega) k2 ⟨a, b + 1, c, d - 1, e2, ha0, ha1, hc, hd1⟩
      exact key _
end
end Tw
end

section
set_option Elab.async false
set_option maxRecDepth 100000
set_option maxHeartbeats 4000000
set_option autoImplicit false
/-! the law: what is alike, a number told, one picked -/
namespace Tw
open PySem L2 Twg
abbrev s_lalike : Stmt := top 34
theorem sc_lalike : FnScope ["_law_found", "_law_due", "_law_j"] ["_law_found", "_law_due"] (defScope s_lalike) := ⟨rfl, rfl, rfl, by decide +kernel, rfl, by decide +kernel, by decide +kernel⟩
abbrev s_lcount : Stmt := top 42
theorem sc_lcount : FnScope ["_law_found", "_law_due"] ["_law_found", "_law_due"] (defScope s_lcount) := ⟨rfl, rfl, rfl, by decide +kernel, rfl, by decide +kernel, by decide +kernel⟩
abbrev s_lpicked : Stmt := top 44
theorem sc_lpicked : FnScope ["_law_well_here", "_law_some"] ["_law_well_here", "_law_some"] (defScope s_lpicked) := ⟨rfl, rfl, rfl, by decide +kernel, rfl, by decide +kernel, by decide +kernel⟩
/-- the same numbers, texts, tuples; n bounds how deep -/
inductive Alk (H : Hp) : Nat → V → V → Prop
  | int (n : Nat) (i : Int) : Alk H n (.int i) (.int i)
  | str (n : Nat) (x : Str) : Alk H n (.str x) (.str x)
  | tup {n : Nat} {a b : Addr} {xs ys : List V} : H a = some (.tup xs) → H b = some (.tup ys) → xs.length = ys.length → ys.length ≤ 100000 → (∀ (i : Nat) (x y : V), xs[i]? = some x → ys[i]? = some y → Alk H n x y) → Alk H (n + 1) (.ref a) (.ref b)
theorem Alk.ts {H H' : Hp} (e : TS H H') {n : Nat} {x y : V} (h : Alk H n x y) : Alk H' n x y := by
  induction h with
  | int n i => exact .int n i
  | str n x => exact .str n x
  | tup h1 h2 h3 h4 _ ih => exact .tup (e _ _ h1) (e _ _ h2) h3 h4 ih
theorem ty_int {K : PySem.W.Frag} {H : Hp} (n : Int) : ∃ t : String, TyX K H (.int n) (.type t) ∧ PySem.W.kitOne K (.type t) (.type "int") = some true ∧ PySem.W.kitOne K (.type t) (.type "bool") = some false ∧ PySem.W.kitOne K (.type t) (.type "str") = some false ∧ PySem.W.kitOne K (.type t) (.type "tuple") = some false := ty_of (k := .at (.i n)) rfl
theorem ty_str {K : PySem.W.Frag} {H : Hp} (x : Str) : ∃ t : String, TyX K H (.str x) (.type t) ∧ PySem.W.kitOne K (.type t) (.type "int") = some false ∧ PySem.W.kitOne K (.type t) (.type "bool") = some false ∧ PySem.W.kitOne K (.type t) (.type "str") = some true ∧ PySem.W.kitOne K (.type t) (.type "tuple") = some false := ty_of (k := .at (.s x)) rfl
theorem ty_tup {K : PySem.W.Frag} {H : Hp} {a : Addr} {xs : List V} (h : H a = some (.tup xs)) : ∃ t : String, TyX K H (.ref a) (.type t) ∧ PySem.W.kitOne K (.type t) (.type "int") = some false ∧ PySem.W.kitOne K (.type t) (.type "bool") = some false ∧ PySem.W.kitOne K (.type t) (.type "str") = some false ∧ PySem.W.kitOne K (.type t) (.type "tuple") = some true :=
  ⟨"tuple", .base (.tup h), kit_ty (r := false) (by decide +kernel), kit_ty (by decide +kernel), kit_ty (r := false) (by decide +kernel), kit_ty (r := true) (by decide +kernel)⟩
def spAlike (n : Nat) : Sp := fun vs H Q _ => ∃ (x y : V), vs = [x, y] ∧ Alk H n x y ∧ ∀ H', Same H H' → Q (.bl true) H'
def spCount : Sp := fun vs H Q _ => ∃ (i : Int), vs = [.int i, .int i] ∧ Q (.bl true) H
def spPicked (K : PySem.W.Frag) : Sp := fun vs H Q _ => ∃ (wl a : Addr) (l : List Nat), vs = [.ref wl, .ref a] ∧ WlAt H wl ∧ SqL K H a (nvs l) ∧ a ≠ wl ∧ l ≠ [] ∧ l.length < 1000 ∧ ∀ (n : Nat) (H' : Hp), n ∈ l → Keep [wl] H H' → WlAt H' wl → Q (.int (n : Int)) H'
section
variable {P : Program} {w : World} {K : PySem.W.Frag} {mg : Str → Option Value} {base : Heap}
theorem df_alikeA (B : Bas mg) (R : RawG K mg "_law_alike" s_lalike ["_law_found", "_law_due"]) : DfG P w K mg base 1 "_law_alike" ["_law_found", "_law_due"] (spAlike 0) := by
  obtain ⟨f, fd, hm, hk, hb, F⟩ := R
  refine ⟨f, fd, hm, hk, hb, F.ok sc_lalike (fun vs H Q E h => ?_) (fun cdv A outer s H vs Q E hr h => ?_)⟩
  · obtain ⟨x, y, rfl, _⟩ := h
    rfl
  · obtain ⟨x, y, rfl, hxy, q⟩ := h
    have nd := sc_lalike.nd
    refine ⟨_, (pss_cons (ps_if (pt_val (pe_callB call_isi (by rfl) B.b_isinstance (by decide +kernel) (pa_cons (pv 1) (pa_cons (pe_bltn (v := .ty "tuple") (by rfl) B.b_tuple (by decide +kernel) rfl) pa_nil))))
        pss_never
        pss_nil)
      (pss_cons (ps_if (pt_val (pe_callB call_isi (by rfl) B.b_isinstance (by decide +kernel) (pa_cons (pv 1) (pa_cons (pe_bltn (v := .ty "str") (by rfl) B.b_str (by decide +kernel) rfl) pa_nil))))
        (pss_one (ps_ret (pe_and (pe_callB call_isi (by rfl) B.b_isinstance (by decide +kernel) (pa_cons (pv 0) (pa_cons (pe_bltn (v := .ty "str") (by rfl) B.b_str (by decide +kernel) rfl) pa_nil))) (pe_one (pe_cmpR op_eq (pv 0) (pv 1) (nomark _))))))
        pss_nil)
      (pss_one (ps_ret (pe_and (pe_callB call_isi (by rfl) B.b_isinstance (by decide +kernel) (pa_cons (pv 0) (pa_cons (pe_bltn (v := .ty "int") (by rfl) B.b_int (by decide +kernel) rfl) pa_nil))) (pe_and (pe_not (pe_callB call_isi (by rfl) B.b_isinstance (by decide +kernel) (pa_cons (pv 0) (pa_cons (pe_bltn (v := .ty "bool") (by rfl) B.b_bool (by decide +kernel) rfl) pa_nil)))) (pe_one (pe_cmpR op_eq (pv 0) (pv 1) (nomark _))))))))), ?_⟩
    cases hxy with
    | int _ i =>
      obtain ⟨t, ht, hi, hbo, hs, htu⟩ := ty_int (K := K) (H := H) i
      refine ⟨_, rfl, _, .ty "tuple", _, _, _, rfl, .ty _, ht, htu, _, rfl, iteF ?_⟩
      refine ⟨_, rfl, _, .ty "str", _, _, _, rfl, .ty _, ht, hs, _, rfl, iteF ?_⟩
      refine ⟨_, rfl, _, .ty "int", _, _, _, rfl, .ty _, ht, hi, _, rfl, ?_⟩
      refine ⟨_, rfl, _, .ty "bool", _, _, _, rfl, .ty _, ht, hbo, _, rfl, _, rfl, ?_⟩
      refine ⟨_, rfl, _, rfl, rfl, ?_⟩
      rw [decide_eq_true rfl]
      exact q _ (Same.refl _)
    | str _ x =>
      obtain ⟨t, ht, hi, hbo, hs, htu⟩ := ty_str (K := K) (H := H) x
      refine ⟨_, rfl, _, .ty "tuple", _, _, _, rfl, .ty _, ht, htu, _, rfl, iteF ?_⟩
      refine ⟨_, rfl, _, .ty "str", _, _, _, rfl, .ty _, ht, hs, _, rfl, ?_⟩
      refine ⟨_, rfl, _, .ty "str", _, _, _, rfl, .ty _, ht, hs, _, rfl, ?_⟩
      refine ⟨_, rfl, _, rfl, rfl, ?_⟩
      rw [decide_eq_true rfl]
      exact q _ (Same.refl _)
theorem df_alikeS (B : Bas mg) {n k : Nat} (D : DfG P w K mg base k "_law_alike" ["_law_found", "_law_due"] (spAlike n)) (hk1 : k = n + 1) (hk8 : k < 8) (R : RawG K mg "_law_alike" s_lalike ["_law_found", "_law_due"]) : DfG P w K mg base (k + 1) "_law_alike" ["_law_found", "_law_due"] (spAlike (n + 1)) := by
  obtain ⟨f, fd, hm, hk, hb, F⟩ := R
  obtain ⟨_, _, m_lalike, k_lalike, b_lalike, F_lalike⟩ := D
  refine ⟨f, fd, hm, hk, hb, F.ok sc_lalike (fun vs H Q E h => ?_) (fun cdv A outer s H vs Q E hr h => ?_)⟩
  · obtain ⟨x, y, rfl, _⟩ := h
    rfl
  · obtain ⟨x, y, rfl, hxy, q⟩ := h
    have nd := sc_lalike.nd
    refine ⟨_, (pss_cons (ps_if (pt_val (pe_callB call_isi (by rfl) B.b_isinstance (by decide +kernel) (pa_cons (pv 1) (pa_cons (pe_bltn (v := .ty "tuple") (by rfl) B.b_tuple (by decide +kernel) rfl) pa_nil))))
        (pss_cons (ps_if (PW.pt (pw_or (pt_not (pt_val (pe_callB call_isi (by rfl) B.b_isinstance (by decide +kernel) (pa_cons (pv 0) (pa_cons (pe_bltn (v := .ty "tuple") (by rfl) B.b_tuple (by decide +kernel) rfl) pa_nil))))) (pw_or1 (pt_cmpR op_ne (pe_callB call_len_seq (by rfl) B.b_len PySem.boot_len (pa_cons (pv 0) pa_nil)) (pe_callB call_len_seq (by rfl) B.b_len PySem.boot_len (pa_cons (pv 1) pa_nil)) (nomark _)))))
          (pss_one (ps_ret pe_bl))
          pss_nil)
        (pss_one (ps_ret (pe_callB (cr_all rfl) (by rfl) B.b_all (by decide +kernel) (pa_cons (pe_lc (own := [("_law_j", 2)]) (g := (gName 2)) (by rfl) nd (pi_range1 rfl B.b_range (pa_cons (pe_callB call_len_seq (by rfl) B.b_len PySem.boot_len (pa_cons (pv 1) pa_nil)) pa_nil)) (blkOk_by (N := ["_law_found", "_law_due", "_law_j"]) (sc := defScope s_lalike) (by decide +kernel)) (fun _ _ _ _ _ => (pg_name (i := 2) nd rfl (by first | exact Or.inl rfl | exact Or.inr rfl))) (fun _ _ _ _ _ => pts_nil) (fun _ _ _ _ _ => (pe_call (F_lalike.mono (by first | decide | omega)) hr rfl m_lalike k_lalike b_lalike .nil pass0 (pa_cons (pe_ix (ix_tupK (K := K)) (pv 0) (pv 2) (fun _ _ => rfl)) (pa_cons (pe_ix (ix_tupK (K := K)) (pv 1) (pv 2) (fun _ _ => rfl)) pa_nil))))) pa_nil)))))
        pss_nil)
      (pss_cons (ps_if (pt_val (pe_callB call_isi (by rfl) B.b_isinstance (by decide +kernel) (pa_cons (pv 1) (pa_cons (pe_bltn (v := .ty "str") (by rfl) B.b_str (by decide +kernel) rfl) pa_nil))))
        (pss_one (ps_ret (pe_and (pe_callB call_isi (by rfl) B.b_isinstance (by decide +kernel) (pa_cons (pv 0) (pa_cons (pe_bltn (v := .ty "str") (by rfl) B.b_str (by decide +kernel) rfl) pa_nil))) (pe_one (pe_cmpR op_eq (pv 0) (pv 1) (nomark _) )))))
        pss_nil)
      (pss_one (ps_ret (pe_and (pe_callB call_isi (by rfl) B.b_isinstance (by decide +kernel) (pa_cons (pv 0) (pa_cons (pe_bltn (v := .ty "int") (by rfl) B.b_int (by decide +kernel) rfl) pa_nil))) (pe_and (pe_not (pe_callB call_isi (by rfl) B.b_isinstance (by decide +kernel) (pa_cons (pv 0) (pa_cons (pe_bltn (v := .ty "bool") (by rfl) B.b_bool (by decide +kernel) rfl) pa_nil)))) (pe_one (pe_cmpR op_eq (pv 0) (pv 1) (nomark _) )))))))), ?_⟩
    cases hxy with
    | int _ i =>
      obtain ⟨t, ht, hi, hbo, hs, htu⟩ := ty_int (K := K) (H := H) i
      refine ⟨_, rfl, _, .ty "tuple", _, _, _, rfl, .ty _, ht, htu, _, rfl, iteF ?_⟩
      refine ⟨_, rfl, _, .ty "str", _, _, _, rfl, .ty _, ht, hs, _, rfl, iteF ?_⟩
      refine ⟨_, rfl, _, .ty "int", _, _, _, rfl, .ty _, ht, hi, _, rfl, ?_⟩
      refine ⟨_, rfl, _, .ty "bool", _, _, _, rfl, .ty _, ht, hbo, _, rfl, _, rfl, ?_⟩
      refine ⟨_, rfl, _, rfl, rfl, ?_⟩
      rw [decide_eq_true rfl]
      exact q _ (Same.refl _)
    | str _ x =>
      obtain ⟨t, ht, hi, hbo, hs, htu⟩ := ty_str (K := K) (H := H) x
      refine ⟨_, rfl, _, .ty "tuple", _, _, _, rfl, .ty _, ht, htu, _, rfl, iteF ?_⟩
      refine ⟨_, rfl, _, .ty "str", _, _, _, rfl, .ty _, ht, hs, _, rfl, ?_⟩
      refine ⟨_, rfl, _, .ty "str", _, _, _, rfl, .ty _, ht, hs, _, rfl, ?_⟩
      refine ⟨_, rfl, _, rfl, rfl, ?_⟩
      rw [decide_eq_true rfl]
      exact q _ (Same.refl _)
    | @tup _ a b xs ys ha hb hl hl2 hp =>
      obtain ⟨t, ht, hi, hbo, hs, htu⟩ := ty_tup (K := K) ha
      obtain ⟨t2, ht2, hi2, hbo2, hs2, htu2⟩ := ty_tup (K := K) hb
      refine ⟨_, rfl, _, .ty "tuple", _, _, _, rfl, .ty _, ht2, htu2, _, rfl, ?_⟩
      refine ⟨_, rfl, _, .ty "tuple", _, _, _, rfl, .ty _, ht, htu, _, rfl, ?_⟩
      refine iteF ⟨_, rfl, a, xs, rfl, .inr (SqT.of ha), _, rfl, b, ys, rfl, .inr (SqT.of hb), rfl, false, blNF (by rw [hl]), iteF ?_⟩
      refine ⟨_, rfl, b, ys, rfl, .inr (SqT.of hb), _, rfl, by omega, by omega, fun L hL => ?_⟩
      refine lc_rel (walk_range (lo := 0) (n := ((ys.length : Nat) : Int).toNat)) hL (fun i acc _ => acc = List.replicate i (V.bl true)) (by omega) (fun _ _ => True.intro) (fun _ _ _ _ _ h => h) rfl ?_ ?_
      · rintro i y acc H' hi hy e rfl Kx Ky kx ky
        have hy : y = V.int (0 + (i : Int)) := hy
        subst hy
        have h1 : i < ys.length := by omega
        have h0 : i < xs.length := by omega
        refine ⟨rfl, _, rfl, _, rfl, a, xs, _, _, rfl, rfl, SqT.of (e _ _ ha), at_of (j := i) (by omega) (List.getElem?_eq_getElem h0), _, rfl, _, rfl, b, ys, _, _, rfl, rfl, SqT.of (e _ _ hb), at_of (j := i) (by omega) (List.getElem?_eq_getElem h1), _, _, rfl, ?_, fun H2 e2 => kx _ _ e2 (rep_snoc i _)⟩
        exact (hp i _ _ (List.getElem?_eq_getElem h0) (List.getElem?_eq_getElem h1)).ts (ts_same e)
      · rintro acc H' e rfl hl' hd
        refine ⟨_, List.replicate ((ys.length : Nat) : Int).toNat true, rfl, SqL.of (by rw [hd, List.map_replicate]), ?_⟩
        rw [all_rep]
        exact q _ e
theorem df_alike (B : Bas mg) (R : RawG K mg "_law_alike" s_lalike ["_law_found", "_law_due"]) : DfG P w K mg base 6 "_law_alike" ["_law_found", "_law_due"] (spAlike 5) :=
  df_alikeS B (df_alikeS B (df_alikeS B (df_alikeS B (df_alikeS B (df_alikeA B R) rfl (by decide) R) rfl (by decide) R) rfl (by decide) R) rfl (by decide) R) rfl (by decide) R
theorem df_count (B : Bas mg) (R : RawG K mg "_law_count" s_lcount ["_law_found", "_law_due"]) : DfG P w K mg base 1 "_law_count" ["_law_found", "_law_due"] spCount := by
  obtain ⟨f, fd, hm, hk, hb, F⟩ := R
  refine ⟨f, fd, hm, hk, hb, F.ok sc_lcount (fun vs H Q E h => ?_) (fun cdv A outer s H vs Q E hr h => ?_)⟩
  · obtain ⟨i, rfl, _⟩ := h
    rfl
  · obtain ⟨i, rfl, q⟩ := h
    have nd := sc_lcount.nd
    refine ⟨_, (pss_one (ps_ret (pe_and (pe_callB call_isi (by rfl) B.b_isinstance (by decide +kernel) (pa_cons (pv 0) (pa_cons (pe_bltn (v := .ty "int") (by rfl) B.b_int (by decide +kernel) rfl) pa_nil))) (pe_and (pe_not (pe_callB call_isi (by rfl) B.b_isinstance (by decide +kernel) (pa_cons (pv 0) (pa_cons (pe_bltn (v := .ty "bool") (by rfl) B.b_bool (by decide +kernel) rfl) pa_nil)))) (pe_one (pe_cmpR op_eq (pv 0) (pv 1) (nomark _))))))), ?_⟩
    obtain ⟨t, ht, hi, hbo, hs, htu⟩ := ty_int (K := K) (H := H) i
    refine ⟨_, rfl, _, .ty "int", _, _, _, rfl, .ty _, ht, hi, _, rfl, ?_⟩
    refine ⟨_, rfl, _, .ty "bool", _, _, _, rfl, .ty _, ht, hbo, _, rfl, _, rfl, ?_⟩
    refine ⟨_, rfl, _, rfl, rfl, ?_⟩
    rw [decide_eq_true rfl]
    exact q
theorem df_picked (B : Bas mg) (D1 : DfG P w K mg base 1 "_law_pull" ["_law_well_here", "_law_many"] spPull) (R : RawG K mg "_law_picked" s_lpicked ["_law_well_here", "_law_some"]) : DfG P w K mg base 2 "_law_picked" ["_law_well_here", "_law_some"] (spPicked K) := by
  obtain ⟨f, fd, hm, hk, hb, F⟩ := R
  obtain ⟨_, _, m_lpull, k_lpull, b_lpull, F_lpull⟩ := D1
  refine ⟨f, fd, hm, hk, hb, F.ok sc_lpicked (fun vs H Q E h => ?_) (fun cdv A outer s H vs Q E hr h => ?_)⟩
  · obtain ⟨wl, a, l, rfl, _⟩ := h
    rfl
  · obtain ⟨wl, a, l, rfl, hw, hS, hne, hl0, hl, q⟩ := h
    have nd := sc_lpicked.nd
    have hpos := List.length_pos_iff.mpr hl0
    refine ⟨_, (pss_one (ps_ret (pe_ix ix_list (pv 1) (pe_call (F_lpull.mono (by first | decide | omega)) hr rfl m_lpull k_lpull b_lpull .nil pass0 (pa_cons (pv 0) (pa_cons (pe_callB call_len_seq (by rfl) B.b_len PySem.boot_len (pa_cons (pv 1) pa_nil)) pa_nil))) (fun _ _ => rfl)))), ?_⟩
    refine ⟨_, rfl, _, rfl, _, rfl, a, _, rfl, .inl hS, wl, l.length, by rw [nvs_len]; rfl, hpos, by omega, hw, fun r H' hr' k w' => ?_⟩
    have hrl : l[r]? = some l[r] := List.getElem?_eq_getElem hr'
    exact ⟨a, _, _, _, rfl, rfl, sqL_keep k hS (by simpa using hne), atI_nat (j := r) (by show (nvs l)[r]? = some (V.int ((l[r] : Nat) : Int)); unfold nvs; rw [List.getElem?_map, hrl]; rfl), q _ _ (List.getElem_mem hr') k w'⟩
end
end Tw
end

section
set_option Elab.async false
set_option maxRecDepth 100000
set_option maxHeartbeats 4000000
set_option autoImplicit false
/-! the law's own twigs: rows, labels, what stands above -/
namespace Tw
open PySem L2 Twg
abbrev s_lrows_of : Stmt := top 37
theorem sc_lrows_of : FnScope ["_law_twigs", "_law_number", "_law_todo", "_law_found", "_law_kind", "_law_what"] ["_law_twigs", "_law_number"] (defScope s_lrows_of) := ⟨rfl, rfl, rfl, by decide +kernel, rfl, by decide +kernel, by decide +kernel⟩
abbrev s_llabel : Stmt := top 38
theorem sc_llabel : FnScope ["_law_twigs", "_law_number", "_law_here", "_law_high", "_law_rows"] ["_law_twigs", "_law_number"] (defScope s_llabel) := ⟨rfl, rfl, rfl, by decide +kernel, rfl, by decide +kernel, by decide +kernel⟩
abbrev s_labove : Stmt := top 39
theorem sc_labove : FnScope ["_law_twigs", "_law_number", "_law_one"] ["_law_twigs", "_law_number"] (defScope s_labove) := ⟨rfl, rfl, rfl, by decide +kernel, rfl, by decide +kernel, by decide +kernel⟩
abbrev s_lshared : Stmt := top 40
theorem sc_lshared : FnScope ["_law_twigs", "_law_holds", "_law_number", "_law_here", "_law_stems"] ["_law_twigs", "_law_holds", "_law_number"] (defScope s_lshared) := ⟨rfl, rfl, rfl, by decide +kernel, rfl, by decide +kernel, by decide +kernel⟩
/-- one of the law's twigs: a pair of the kind and a list -/
def LTw (G : List Kd) (H : Hp) (v : V) (l : Addr) (t : Tk) : Prop := ∃ p kind ws, v = .ref p ∧ H p = some (.tup [.str kind, .ref l]) ∧ H l = some (.lst ws) ∧ SeenV G H kind ws t
theorem LTw.keep {G : List Kd} {fp : List Addr} {H H' : Hp} {v : V} {l : Addr} {t : Tk} (h : LTw G H v l t) (k : Keep fp H H') (e : TS H H') (n : l ∉ fp) : LTw G H' v l t := by
  obtain ⟨p, kind, ws, h1, h2, h3, h4⟩ := h
  exact ⟨p, kind, ws, h1, e _ _ h2, k _ _ h3 n, h4.ts e⟩
structure TwAt (G : List Kd) (H : Hp) (td : Addr) (ks : List Nat) (tv : Nat → V) (rl : Nat → Addr) (tw : Nat → Tk) : Prop where
  t : H td = some (.dK (dF ks tv))
  v : ∀ n ∈ ks, LTw G H (tv n) (rl n) (tw n)
theorem TwAt.keep {G : List Kd} {fp : List Addr} {H H' : Hp} {td : Addr} {ks : List Nat} {tv : Nat → V} {rl : Nat → Addr} {tw : Nat → Tk} (h : TwAt G H td ks tv rl tw) (k : Keep fp H H') (e : TS H H') (n : td ∉ fp) (m : ∀ n ∈ ks, rl n ∉ fp) : TwAt G H' td ks tv rl tw :=
  ⟨k _ _ h.t n, fun i hi => (h.v i hi).keep k e (m i hi)⟩
theorem TwAt.same {G : List Kd} {H H' : Hp} {td : Addr} {ks : List Nat} {tv : Nat → V} {rl : Nat → Addr} {tw : Nat → Tk} (h : TwAt G H td ks tv rl tw) (k : Same H H') : TwAt G H' td ks tv rl tw :=
  h.keep (fp := []) (Keep.of_same k) (ts_same k) (by simp) fun _ _ => by simp
/-- how much is left to do -/
def msr (lb : Nat → Lab) (todo : List Nat) : Nat := (todo.map fun k => 2 * (lb k).ct - 1).sum
theorem msr_app (lb : Nat → Lab) (a b : List Nat) : msr lb (a ++ b) = msr lb a + msr lb b := by
  unfold msr
  rw [List.map_append, List.sum_append]
theorem msr_rev (lb : Nat → Lab) (a : List Nat) : msr lb a.reverse = msr lb a := by
  induction a with
  | nil => rfl
  | cons x a ih =>
    rw [List.reverse_cons, msr_app, ih]
    unfold msr
    simp only [List.map_cons, List.map_nil, List.sum_cons, List.sum_nil]
    omega
theorem msr_sum {lb : Nat → Lab} : ∀ {a : List Nat}, (∀ k ∈ a, 1 ≤ (lb k).ct) → msr lb a + a.length = 2 * ((a.map lb).map (·.ct)).sum
  | [], _ => rfl
  | x :: a, h => by
    have := msr_sum (lb := lb) (a := a) fun k hk => h k (List.mem_cons.mpr (.inr hk))
    have h1 := h x (List.mem_cons.mpr (.inl rfl))
    have e : msr lb (x :: a) = (2 * (lb x).ct - 1) + msr lb a := rfl
    rw [e]
    simp only [List.map_cons, List.sum_cons, List.length_cons]
    omega
theorem msr_len {lb : Nat → Lab} : ∀ {a : List Nat}, (∀ k ∈ a, 1 ≤ (lb k).ct) → a.length ≤ msr lb a
  | [], _ => Nat.zero_le _
  | x :: a, h => by
    have := msr_len (lb := lb) (a := a) fun k hk => h k (List.mem_cons.mpr (.inr hk))
    have h1 := h x (List.mem_cons.mpr (.inl rfl))
    have e : msr lb (x :: a) = (2 * (lb x).ct - 1) + msr lb a := rfl
    rw [e, List.length_cons]
    omega
theorem msr_stem {ks : List Nat} {tw : Nat → Tk} {lb : Nat → Lab} (lk : Lok ks tw lb) {n : Nat} (hn : n ∈ ks) {s : List Nat} (c : tw n = .stem s) : msr lb s + 2 ≤ 2 * (lb n).ct := by
  obtain ⟨o, e⟩ := (lk.lo n hn).stem c
  have h1 := msr_sum (lb := lb) (a := s) fun k hk => (lk.ct64 (lk.cl n hn k (by rw [c]; exact hk))).1
  have h2 := o.ge
  rw [List.length_map] at h2
  have h3 : (lb n).ct = ((s.map lb).map (·.ct)).sum := by rw [e]; rfl
  omega
theorem flatMap_len {α β : Type} (f : α → List β) : ∀ l : List α, (l.flatMap f).length = (l.map fun a => (f a).length).sum
  | [] => rfl
  | a :: l => by
    rw [List.flatMap_cons, List.length_append, flatMap_len f l]
    rfl
def spRowsOf (G : List Kd) : Sp := fun vs H Q _ => ∃ (td : Addr) (ks : List Nat) (tv : Nat → V) (rl : Nat → Addr) (tw : Nat → Tk) (lb : Nat → Lab) (n : Nat), vs = [.ref td, .int (n : Int)] ∧ TwAt G H td ks tv rl tw ∧ Lok ks tw lb ∧ n ∈ ks ∧
  ∀ (l : Addr) (ys : List V) (H' : Hp), Same H H' → H l = none → H' l = some (.lst ys) → RowsV G H' ys (rowsOf tw lb n) → Q (.ref l) H'
def spLLabel (G : List Kd) : Sp := fun vs H Q _ => ∃ (td : Addr) (ks : List Nat) (tv : Nat → V) (rl : Nat → Addr) (tw : Nat → Tk) (lb : Nat → Lab) (n : Nat), vs = [.ref td, .int (n : Int)] ∧ TwAt G H td ks tv rl tw ∧ Lok ks tw lb ∧ n ∈ ks ∧
  ∀ (r : V) (H' : Hp), Same H H' → LabV G H' r (lb n) → Q r H'
def spLAbove (G : List Kd) : Sp := fun vs H Q _ => ∃ (td : Addr) (ks : List Nat) (tv : Nat → V) (rl : Nat → Addr) (tw : Nat → Tk) (n : Nat), vs = [.ref td, .int (n : Int)] ∧ TwAt G H td ks tv rl tw ∧ ks.Pairwise (· < ·) ∧ ks.length < 64 ∧
  ∀ (l : Addr) (H' : Hp), Same H H' → H l = none → H' l = some (.lst (nvs (abv ks tw n))) → Q (.ref l) H'
def spLShared (G : List Kd) : Sp := fun vs H Q _ => ∃ (td hd : Addr) (tv : Nat → V) (rl : Nat → Addr) (S : Shk) (n : Nat), vs = [.ref td, .ref hd, .int (n : Int)] ∧ TwAt G H td S.ks tv rl S.tw ∧ H hd = some (.dK (dF S.ks fun n => .int (S.fr n : Int))) ∧ W0 S ∧ n ∈ S.ks ∧ S.ks.length < 64 ∧
  (Al S.ab S.fr n → ∀ H', Same H H' → Q .non H') ∧ (¬ Al S.ab S.fr n → ∀ (m : Nat) (H' : Hp), Same H H' → Q (.int (m : Int)) H')
/-- the walk through the branches -/
def roW (G : List Kd) (H : Hp) (td : Addr) (tw : Nat → Tk) (lb : Nat → Lab) (ks : List Nat) (n : Nat) (m : Nat) (σ : L2.St) (H' : Hp) : Prop := ∃ (t f : Addr) (todo : List Nat) (ys : List V) (done : List (Nat × Kd)) (v1 v2 : Option V), m = msr lb todo ∧ σ = [some (.ref td), some (.int (n : Int)), some (.ref t), some (.ref f), v1, v2] ∧ Same H H' ∧
  H t = none ∧ H f = none ∧ f ≠ t ∧ H' t = some (.lst (nvs todo)) ∧ H' f = some (.lst ys) ∧ RowsV G H' ys done ∧ done ++ todo.reverse.flatMap (rowsOf tw lb) = rowsOf tw lb n ∧ (∀ k ∈ todo, k ∈ ks) ∧ msr lb todo ≤ 128
theorem same_free {H H' : Hp} (e : Same H H') {p : Addr} (h : H' p = none) : H p = none := keep_free (fp := []) (Keep.of_same e) h (by simp)
section
variable {P : Program} {w : World} {K : PySem.W.Frag} {mg : Str → Option Value} {base : Heap} {G : List Kd}
theorem df_rows_of (B : Bas mg) (R : RawG K mg "_law_rows_of" s_lrows_of ["_law_twigs", "_law_number"]) : DfG P w K mg base 1 "_law_rows_of" ["_law_twigs", "_law_number"] (spRowsOf G) := by
  obtain ⟨f, fd, hm, hk, hb, F⟩ := R
  refine ⟨f, fd, hm, hk, hb, F.ok sc_lrows_of (fun vs H Q E h => ?_) (fun cdv A outer s H vs Q E hr h => ?_)⟩
  · obtain ⟨td, ks, tv, rl, tw, lb, n, rfl, _⟩ := h
    rfl
  · obtain ⟨td, ks, tv, rl, tw, lb, n, rfl, D, lk, hn, q⟩ := h
    have hu := hu_of hr
    have nd := sc_lrows_of.nd
    refine ⟨_, (pss_cons (ps_set (i := 2) nd rfl (by first | exact Or.inl rfl | exact Or.inr rfl) (pe_lst (pa_cons (pv 1) pa_nil)))
      (pss_cons (ps_set (i := 3) nd rfl (by first | exact Or.inl rfl | exact Or.inr rfl) (pe_lst pa_nil))
      (pss_cons (ps_while PassesOwn.never (pt_cmpR (op_neD hr.units) (pv 2) (pe_lst pa_nil) (nomark _))
        (pss_cons (ps_asg (pe_dget hu (pv 0) (pe_bm0 PySem.F.plainAttrs_list PySem.F.slot_list_pop PySem.F.type_list_pop mt_pop (pv 2)) (fun _ _ => rfl)) (pg_tup rfl (pgs_cons (pg_name (i := 4) nd rfl (by first | exact Or.inl rfl | exact Or.inr rfl)) (pgs_cons (pg_name (i := 5) nd rfl (by first | exact Or.inl rfl | exact Or.inr rfl)) pgs_nil))))
        (pss_one (ps_if (pt_cmpR op_eq (pv 4) pe_str (nomark _))
          (pss_one (ps_set (i := 3) nd rfl (by first | exact Or.inl rfl | exact Or.inr rfl) (pe_op op_cat (pv 3) (pe_callTy call_list_of (by rfl) B.b_list (by decide +kernel) (pa_cons (pv 5) pa_nil)))))
          (pss_one (ps_set (i := 2) nd rfl (by first | exact Or.inl rfl | exact Or.inr rfl) (pe_op op_cat (pv 2) (TwR.pe_listRev rfl (by rfl) B.b_list (by rfl) B.b_reversed (pv 5)))))))))
      (pss_one (ps_ret (pv 3)))))), ?_⟩
    have hct := lk.ct64 hn
    have hrl := (lk.rows hn).1
    refine ⟨_, rfl, szn 1, fun t ht => ⟨szn 0, fun f0 hf0 => ?_⟩⟩
    have e0 : Same H (upd (upd H t (.lst [.int (n : Int)])) f0 (.lst [])) := (same_new ht).trans (same_new hf0)
    have nft : f0 ≠ t := fun z => by
      rw [z, upd_same] at hf0
      cases hf0
    have hf0' : H f0 = none := by
      rw [upd_ne nft] at hf0
      exact hf0
    refine ⟨roW G H td tw lb ks n, ⟨_, t, f0, [n], [], [], none, none, rfl, rfl, e0, ht, hf0', nft, (same_new hf0) _ _ upd_same, upd_same, .nil, by simp, fun k hk => (List.mem_singleton.mp hk) ▸ hn, ?_⟩, ?_⟩
    · show (2 * (lb n).ct - 1) + 0 ≤ 128
      omega
    rintro m σ H' ⟨t, f1, todo, ys, done, v1, v2, rfl, rfl, e, ht, hf, nft, ht', hf', hR, hfl, htk, hms⟩
    refine ⟨_, rfl, szn 0, fun e1 he1 => ⟨_, _, nats_dp (SqL.of ((same_new he1) _ _ ht')), nil_dp (SqL.of upd_same), shaped_nats _, shaped_nil, !todo.isEmpty, congrArg V.bl (by rw [nats_nil]), ?_⟩⟩
    have ex : Same H' (upd H' e1 (.lst [])) := same_new he1
    have e2 := e.trans ex
    have ht2 := ex _ _ ht'
    have hf2 := ex _ _ hf'
    have hR2 := hR.ts (ts_same ex)
    rcases List.eq_nil_or_concat todo with z | ⟨init, here, z⟩
    · subst z
      rw [List.reverse_nil, List.flatMap_nil, List.append_nil] at hfl
      rw [hfl] at hR2
      exact ⟨_, rfl, q f1 ys _ e2 hf hf2 hR2⟩
    rw [List.concat_eq_append] at z
    subst z
    have enil : (!(init ++ [here]).isEmpty) = true := by simp
    rw [enil]
    have hhk := htk here (by simp)
    have hct1 : ∀ k ∈ init, 1 ≤ (lb k).ct := fun k hk => (lk.ct64 (htk k (by simp [hk]))).1
    have hcth := lk.ct64 hhk
    rw [msr_app] at hms
    have em1 : msr lb [here] = 2 * (lb here).ct - 1 := rfl
    have hml := msr_len hct1
    have hlen2 := congrArg List.length hfl
    rw [List.length_append] at hlen2
    refine ⟨fun σ' H2 => ∃ m', m' < msr lb (init ++ [here]) ∧ roW G H td tw lb ks n m' σ' H2, fun _ _ h => h, ?_⟩
    have edl : (nvs (init ++ [here])).dropLast = nvs init := by rw [← nvs_snoc, List.dropLast_concat]
    have hpop : ∀ xs : List V, xs = nvs (init ++ [here]) → xs[xs.length - 1]? = some (.int (here : Int)) := fun xs e => by rw [e, nvs_len, List.length_append, List.length_singleton, Nat.add_sub_cancel, ← nvs_snoc, List.getElem?_append_right (by rw [nvs_len]; exact Nat.le_refl _), nvs_len, Nat.sub_self]; rfl
    refine ⟨_, rfl, _, rfl, .inl ⟨rfl, _, SqL.of ht2⟩, t, _, .int (here : Int), rfl, rfl, ht2, hpop _ rfl, ?_⟩
    rw [edl]
    have e3 : Same H (upd (upd H' e1 (.lst [])) t (.lst (nvs init))) := same_mut e2 ht
    have ts3 : TS (upd H' e1 (.lst [])) (upd (upd H' e1 (.lst [])) t (.lst (nvs init))) := ts_upd fun xs z => by
      rw [ht2] at z
      cases z
    have hf3 : upd (upd H' e1 (.lst [])) t (.lst (nvs init)) f1 = some (.lst ys) := by
      rw [upd_ne nft]
      exact hf2
    have ht3 : upd (upd H' e1 (.lst [])) t (.lst (nvs init)) t = some (.lst (nvs init)) := upd_same
    have hR3 := hR2.ts ts3
    generalize upd (upd H' e1 (.lst [])) t (.lst (nvs init)) = H3 at e3 hf3 ht3 hR3
    have D3 := D.same e3
    obtain ⟨p, kind, ws, hv, hp, hl, hs⟩ := D3.v here hhk
    have eRh : done ++ (init ++ [here]).reverse.flatMap (rowsOf tw lb) = (done ++ rowsOf tw lb here) ++ init.reverse.flatMap (rowsOf tw lb) := by
      rw [List.reverse_append, List.append_assoc]
      rfl
    rw [eRh] at hfl
    have hlen3 := congrArg List.length hfl
    rw [List.length_append, List.length_append, hrl, (lk.rows hhk).1] at hlen3
    refine ⟨td, _, rfl, dget D3.t hhk, p, _, hv, SqT.of hp, rfl, _, _, rfl, _, _, rfl, rfl, ?_⟩
    cases c : tw here with
    | leaf rows =>
      rw [c] at hs
      obtain ⟨rfl, hrw⟩ := hs
      rw [lk.rows_leaf hhk c] at hfl
      refine ⟨_, rfl, rfl, true, blT rfl, ?_⟩
      have h1l := hR3.len
      have h2l := hrw.len
      have hrr : rows.length = (lb here).ct := by rw [← (lk.rows hhk).1, lk.rows_leaf hhk c]
      refine ⟨_, rfl, _, rfl, rl here, ws, rfl, .inl (SqL.of hl), fun l1 hl1 => ⟨f1, l1, ys, ws, rfl, rfl, (same_new hl1) _ _ hf3, upd_same, small_sz (by omega), fun p2 hp2 => ?_⟩⟩
      have e4 : Same H3 (upd (upd H3 l1 (.lst ws)) p2 (.lst (ys ++ ws))) := (same_new hl1).trans (same_new hp2)
      have e5 := e3.trans e4
      have hp0 : H p2 = none := same_free (e3.trans (same_new hl1)) hp2
      have npt : p2 ≠ t := fun z => by
        rw [z, (same_new hl1) _ _ ht3] at hp2
        cases hp2
      refine ⟨msr lb init, by rw [msr_app]; omega, t, p2, init, ys ++ ws, done ++ rows, _, _, rfl, rfl, e5, ht, hp0, npt, e4 _ _ ht3, upd_same, paired_app (hR3.ts (ts_same e4)) (hrw.ts (ts_same e4)), hfl, fun k hk => htk k (by simp [hk]), by omega⟩
    | stem kd =>
      rw [c] at hs
      obtain ⟨rfl, rfl⟩ := hs
      have hms2 := msr_stem lk hhk c
      have hkds : ∀ k ∈ kd, k ∈ ks := fun k hk => lk.cl here hhk k (by rw [c]; exact hk)
      have hkdl : kd.length ≤ 4 := by
        have := lk.kids_le hhk
        rw [c] at this
        exact this
      rw [lk.rows_stem hhk c] at hfl
      refine ⟨_, rfl, rfl, false, blF (by decide +kernel), iteF ?_⟩
      have eap : nvs init ++ (nvs kd).reverse = nvs (init ++ kd.reverse) := by
        unfold nvs
        rw [List.map_append, List.map_reverse]
      refine ⟨_, rfl, _, rfl, rl here, nvs kd, rfl, SqL.of hl, fun l1 hl1 => ⟨t, l1, nvs init, (nvs kd).reverse, rfl, rfl, (same_new hl1) _ _ ht3, upd_same, small_sz (by rw [List.length_reverse, nvs_len, nvs_len]; omega), fun p2 hp2 => ?_⟩⟩
      rw [eap]
      have e4 : Same H3 (upd (upd H3 l1 (.lst (nvs kd).reverse)) p2 (.lst (nvs (init ++ kd.reverse)))) := (same_new hl1).trans (same_new hp2)
      have e5 := e3.trans e4
      have hp0 : H p2 = none := same_free (e3.trans (same_new hl1)) hp2
      have npf : f1 ≠ p2 := fun z => by
        rw [← z, (same_new hl1) _ _ hf3] at hp2
        cases hp2
      refine ⟨msr lb (init ++ kd.reverse), by rw [msr_app, msr_app, msr_rev]; omega, p2, f1, init ++ kd.reverse, ys, done, _, _, rfl, rfl, e5, hp0, hf, npf, upd_same, e4 _ _ hf3, hR3.ts (ts_same e4), ?_, fun k hk => ?_, by rw [msr_app, msr_rev]; omega⟩
      · rw [List.reverse_append, List.reverse_reverse, List.flatMap_append, ← List.append_assoc]
        exact hfl
      · rcases List.mem_append.mp hk with z | z
        · exact htk k (by simp [z])
        · exact hkds k (List.mem_reverse.mp z)
theorem df_llabel (B : Bas mg) (D1 : DfG P w K mg base 1 "_law_rows_of" ["_law_twigs", "_law_number"] (spRowsOf G)) (R : RawG K mg "_law_label" s_llabel ["_law_twigs", "_law_number"]) : DfG P w K mg base 2 "_law_label" ["_law_twigs", "_law_number"] (spLLabel G) := by
  obtain ⟨f, fd, hm, hk, hb, F⟩ := R
  obtain ⟨_, _, m_lrows_of, k_lrows_of, b_lrows_of, F_lrows_of⟩ := D1
  refine ⟨f, fd, hm, hk, hb, F.ok sc_llabel (fun vs H Q E h => ?_) (fun cdv A outer s H vs Q E hr h => ?_)⟩
  · obtain ⟨td, ks, tv, rl, tw, lb, n, rfl, _⟩ := h
    rfl
  · obtain ⟨td, ks, tv, rl, tw, lb, n, rfl, D, lk, hn, q⟩ := h
    have hu := hu_of hr
    have nd := sc_llabel.nd
    refine ⟨_, (pss_cons (ps_set (i := 2) nd rfl (by first | exact Or.inl rfl | exact Or.inr rfl) (pv 1))
      (pss_cons (ps_set (i := 3) nd rfl (by first | exact Or.inl rfl | exact Or.inr rfl) pe_int)
      (pss_cons (ps_while PassesOwn.never (pt_cmpR op_eq (pe_ix ix_tup (pe_dget hu (pv 0) (pv 2) (fun _ _ => rfl)) pe_int (fun _ _ => rfl)) pe_str (nomark _))
        (pss_cons (ps_set (i := 2) nd rfl (by first | exact Or.inl rfl | exact Or.inr rfl) (pe_ix ix_list (pe_ix ix_tup (pe_dget hu (pv 0) (pv 2) (fun _ _ => rfl)) pe_int (fun _ _ => rfl)) pe_int (fun _ _ => rfl)))
        (pss_one (ps_set (i := 3) nd rfl (by first | exact Or.inl rfl | exact Or.inr rfl) (pe_op op_add (pv 3) pe_int)))))
      (pss_cons (ps_set (i := 4) nd rfl (by first | exact Or.inl rfl | exact Or.inr rfl) (pe_call (F_lrows_of.mono (by first | decide | omega)) hr rfl m_lrows_of k_lrows_of b_lrows_of .nil pass0 (pa_cons (pv 0) (pa_cons (pv 1) pa_nil))))
      (pss_one (ps_ret (pe_tup (pa_cons (pv 3) (pa_cons (pe_ix ix_tup (pe_ix ix_list (pv 4) pe_int (fun _ _ => rfl)) pe_int (fun _ _ => rfl)) (pa_cons (pe_ix ix_tup (pe_ix ix_list (pv 4) (pe_un un_neg pe_int) (fun _ _ => rfl)) pe_int (fun _ _ => rfl)) (pa_cons (pe_callB call_len_seq (by rfl) B.b_len PySem.boot_len (pa_cons (pv 4) pa_nil)) pa_nil))))))))))), ?_⟩
    refine ⟨_, rfl, ?_⟩
    refine ⟨fun m σ H' => ∃ (here : Nat) (hi : Nat), m = (lb here).h ∧ σ = [some (.ref td), some (.int (n : Int)), some (.int (here : Int)), some (.int (hi : Int)), none] ∧ H' = H ∧ here ∈ ks ∧ hi + (lb here).h = (lb n).h, ⟨_, n, 0, rfl, rfl, rfl, hn, by omega⟩, ?_⟩
    rintro m σ H' ⟨here, hi, rfl, rfl, rfl, hh, hsum⟩
    obtain ⟨p, kind, ws, hv, hp, hl, hs⟩ := D.v here hh
    refine ⟨_, rfl, _, rfl, td, _, rfl, dget D.t hh, p, _, _, _, hv, rfl, SqT.of hp, atI_nat (j := 0) rfl, rfl, ?_⟩
    cases c : tw here with
    | leaf rows =>
      rw [c] at hs
      obtain ⟨rfl, _⟩ := hs
      have h0 := lk.h_leaf hh c
      refine ⟨false, blF (by decide +kernel), iteF ?_⟩
      refine ⟨_, rfl, _, rfl, td, ks, tv, rl, tw, lb, n, rfl, D, lk, hn, fun l ys H2 e2 hl2 hl3 hR => ?_⟩
      obtain ⟨r1, ⟨r0, hr0, hlo⟩, ⟨r9, hr9, hhi⟩⟩ := lk.rows hn
      have hct := lk.ct64 hn
      rw [List.head?_eq_getElem?] at hr0
      obtain ⟨y0, hy0, p0, a0, b0, ey0, hp0, ha0, _⟩ := paired_get2 hR 0 r0 hr0
      obtain ⟨y9, hy9, p9, a9, b9, ey9, hp9, ha9, _⟩ := last_paired hR hr9
      subst ey0 ey9
      have hyl := hR.len
      refine ⟨_, rfl, _, rfl, l, ys, _, _, rfl, rfl, SqL.of hl3, atI_nat (j := 0) hy0, p0, _, _, _, rfl, rfl, SqT.of hp0, atI_nat (j := 0) rfl, ?_⟩
      refine ⟨_, rfl, _, rfl, l, ys, _, _, rfl, rfl, SqL.of hl3, atI_back hy9, p9, _, _, _, rfl, rfl, SqT.of hp9, atI_nat (j := 0) rfl, ?_⟩
      refine ⟨_, rfl, l, ys, rfl, .inl (SqL.of hl3), szn 4, fun p1 hp1 => q _ _ (e2.trans (same_new hp1)) ?_⟩
      have e3 := ts_same (same_new (o := .tup [.int (hi : Int), a0, a9, .int (ys.length : Int)]) hp1)
      refine ⟨p1, a0, a9, rfl, ?_, ?_, ?_⟩
      · rw [upd_same, hyl, r1, show hi = (lb n).h by omega]
      · rw [← hlo]
        exact ha0.ts e3
      · rw [← hhi]
        exact ha9.ts e3
    | stem kd =>
      rw [c] at hs
      obtain ⟨rfl, rfl⟩ := hs
      refine ⟨true, blT rfl, ?_⟩
      refine ⟨fun σ' H2 => ∃ m', m' < (lb here).h ∧ ∃ (h2 : Nat) (hi : Nat), m' = (lb h2).h ∧ σ' = [some (.ref td), some (.int (n : Int)), some (.int (h2 : Int)), some (.int (hi : Int)), none] ∧ H2 = H' ∧ h2 ∈ ks ∧ hi + (lb h2).h = (lb n).h, fun _ _ h => h, ?_⟩
      cases kd with
      | nil =>
        have := ((lk.lo here hh).stem c).1.ge
        simp at this
      | cons k0 kd =>
        have hk0 : k0 ∈ (tw here).kids := by
          rw [c]
          exact List.mem_cons.mpr (.inl rfl)
        have hkh := lk.kid_h hh hk0
        refine ⟨_, rfl, _, rfl, td, _, rfl, dget D.t hh, p, _, _, _, hv, rfl, SqT.of hp, atI_nat (j := 1) rfl, rl here, _, _, _, rfl, rfl, SqL.of hl, atI_nat (j := 0) rfl, ?_⟩
        exact ⟨_, rfl, _, _, rfl, rfl, _, by omega, k0, hi + 1, rfl, rfl, rfl, lk.cl here hh k0 hk0, by omega⟩
theorem df_labove (B : Bas mg) (R : RawG K mg "_law_above" s_labove ["_law_twigs", "_law_number"]) : DfG P w K mg base 1 "_law_above" ["_law_twigs", "_law_number"] (spLAbove G) := by
  obtain ⟨f, fd, hm, hk, hb, F⟩ := R
  refine ⟨f, fd, hm, hk, hb, F.ok sc_labove (fun vs H Q E h => ?_) (fun cdv A outer s H vs Q E hr h => ?_)⟩
  · obtain ⟨td, ks, tv, rl, tw, n, rfl, _⟩ := h
    rfl
  · obtain ⟨td, ks, tv, rl, tw, n, rfl, D, ha, hl, q⟩ := h
    have hu := hu_of hr
    have nd := sc_labove.nd
    refine ⟨_, (pss_one (ps_ret (pe_lc (own := [("_law_one", 2)]) (g := (gName 2)) (by rfl) nd (pi_list (pe_callB (call_sortedDI rfl) (by rfl) B.b_sorted (by decide +kernel) (pa_cons (pv 0) pa_nil))) (blkOk_by (N := ["_law_twigs", "_law_number", "_law_one"]) (sc := defScope s_labove) (by decide +kernel)) (fun _ _ _ _ _ => (pg_name (i := 2) nd rfl (by first | exact Or.inl rfl | exact Or.inr rfl))) (fun _ _ _ _ _ => (pts_one (PW.pt (pw_and (pt_cmpR op_eq (pe_ix (ix_tupK (K := K)) (pe_dget hu (pv 0) (pv 2) (fun _ _ => rfl)) pe_int (fun _ _ => rfl)) pe_str (nomark _)) (pw_and1 (pt_cmpR (op_inK (K := K)) (pv 1) (pe_ix (ix_tupK (K := K)) (pe_dget hu (pv 0) (pv 2) (fun _ _ => rfl)) pe_int (fun _ _ => rfl)) (by rfl))))))) (fun _ _ _ _ _ => (pv 2))))), ?_⟩
    refine ⟨_, rfl, td, _, ks.map (fun k : Nat => (k : Int)), rfl, .of D.t, dF_keys _ _, by rw [List.length_map]; exact hl, fun ys p hp hs hn => ?_⟩
    rw [sorted_eq hp hs (asc_int ha), nvs_eq]
    have e1 : Same H (upd H p (.lst (nvs ks))) := same_new hn
    have h1p : upd H p (.lst (nvs ks)) p = some (.lst (nvs ks)) := upd_same
    refine ⟨p, rfl, ⟨_, SqL.of h1p⟩, fun L hL => ?_⟩
    refine lc_rel (walk_list (K := K) (a := p) (xs := nvs ks)) hL (fun i acc _ => acc = nvs (abv (ks.take i) tw n)) (by rw [nvs_len]; omega) (fun H' e => SqL.of (e _ _ h1p)) (fun _ _ _ _ _ h => h) (by rw [List.take_zero]; rfl) ?_ ?_
    · rintro i y acc H' hi hy e rfl Kx Ky kx ky
      obtain ⟨b, hb', rfl⟩ := nvs_get hy
      have hbk := List.mem_of_getElem? hb'
      have D' := D.same (e1.trans e)
      obtain ⟨p2, kind, ws, hv, hp2, hl2, hs2⟩ := D'.v b hbk
      have stp : abv (ks.take (i + 1)) tw n = abv (ks.take i) tw n ++ (if n ∈ (tw b).kids then [b] else []) := by
        unfold abv
        rw [take_snoc hb', List.filter_append]
        congr 1
        by_cases z : n ∈ (tw b).kids
        · rw [if_pos z, List.filter_cons_of_pos (by simp [z]), List.filter_nil]
        · rw [if_neg z, List.filter_cons_of_neg (by simp [z]), List.filter_nil]
      refine ⟨rfl, _, rfl, _, rfl, td, _, rfl, dget D'.t hbk, p2, _, _, _, hv, rfl, SqT.of hp2, atI_nat (j := 0) rfl, rfl, ?_⟩
      cases c : tw b with
      | leaf rows =>
        rw [c] at hs2
        obtain ⟨rfl, _⟩ := hs2
        refine ⟨false, blF (by decide +kernel), iteF (iteF (ky _ (Same.refl _) ?_))⟩
        rw [stp, c, if_neg (by intro z; cases z), List.append_nil]
      | stem kd =>
        rw [c] at hs2
        obtain ⟨rfl, rfl⟩ := hs2
        refine ⟨true, blT rfl, ?_⟩
        refine ⟨_, rfl, _, rfl, _, rfl, td, _, rfl, dget D'.t hbk, p2, _, _, _, hv, rfl, SqT.of hp2, atI_nat (j := 1) rfl, rl b, _, rfl, .inl (SqL.of hl2), rfl, flat_nvs _, decide (n ∈ kd), by rw [in_nvs]; rfl, ?_⟩
        have ek : (Tg.stem kd : Tk).kids = kd := rfl
        by_cases z : n ∈ kd
        · rw [decide_eq_true z]
          refine ⟨_, rfl, kx _ _ (Same.refl _) ?_⟩
          rw [stp, c, ek, if_pos z]
          exact nvs_snoc _ _
        · rw [decide_eq_false z]
          refine iteF (ky _ (Same.refl _) ?_)
          rw [stp, c, ek, if_neg z, List.append_nil]
    · rintro acc H' e rfl hl' hd
      rw [take_all (by rw [nvs_len]; exact Nat.le_refl _)] at hd
      exact q _ _ (e1.trans e) (same_free (e1.trans (Same.refl _)) hL) hd
theorem df_lshared (B : Bas mg) (D1 : DfG P w K mg base 1 "_law_above" ["_law_twigs", "_law_number"] (spLAbove G)) (R : RawG K mg "_law_shared" s_lshared ["_law_twigs", "_law_holds", "_law_number"]) : DfG P w K mg base 2 "_law_shared" ["_law_twigs", "_law_holds", "_law_number"] (spLShared G) := by
  obtain ⟨f, fd, hm, hk, hb, F⟩ := R
  obtain ⟨_, _, m_labove, k_labove, b_labove, F_labove⟩ := D1
  refine ⟨f, fd, hm, hk, hb, F.ok sc_lshared (fun vs H Q E h => ?_) (fun cdv A outer s H vs Q E hr h => ?_)⟩
  · obtain ⟨td, hd, tv, rl, S, n, rfl, _⟩ := h
    rfl
  · obtain ⟨td, hd, tv, rl, S, n, rfl, D, hf, wf, hn, hlen, q1, q2⟩ := h
    have hu := hu_of hr
    have nd := sc_lshared.nd
    refine ⟨_, (pss_cons (ps_set (i := 3) nd rfl (by first | exact Or.inl rfl | exact Or.inr rfl) (pv 2))
      (pss_one (ps_while PassesOwn.never (pt_val pe_bl)
        (pss_cons (ps_set (i := 4) nd rfl (by first | exact Or.inl rfl | exact Or.inr rfl) (pe_call (F_labove.mono (by first | decide | omega)) hr rfl m_labove k_labove b_labove .nil pass0 (pa_cons (pv 0) (pa_cons (pv 3) pa_nil))))
        (pss_cons (ps_if (pt_cmpR op_ne (pe_op op_add (pe_callB call_len_seq (by rfl) B.b_len PySem.boot_len (pa_cons (pv 4) pa_nil)) (pe_dget hu (pv 1) (pv 3) (fun _ _ => rfl))) pe_int (nomark _))
          (pss_one (ps_ret (pv 3)))
          pss_nil)
        (pss_cons (ps_if (pt_cmpR (op_eqD hr.units) (pv 4) (pe_lst pa_nil) (nomark _))
          (pss_one (ps_ret pe_non))
          pss_nil)
        (pss_one (ps_set (i := 3) nd rfl (by first | exact Or.inl rfl | exact Or.inr rfl) (pe_ix ix_list (pv 4) pe_int (fun _ _ => rfl)))))))))), ?_⟩
    refine ⟨_, rfl, ?_⟩
    refine ⟨fun m σ H' => ∃ (here : Nat) (v : Option V), m = 64 - (S.lb here).h ∧ σ = [some (.ref td), some (.ref hd), some (.int (n : Int)), some (.int (here : Int)), v] ∧ Same H H' ∧ here ∈ S.ks ∧ (Al S.ab S.fr n ↔ Al S.ab S.fr here), ⟨_, n, none, rfl, rfl, Same.refl _, hn, Iff.rfl⟩, ?_⟩
    rintro m σ H' ⟨here, v, rfl, rfl, e, hh, hal⟩
    have D' := D.same e
    have hf' := e _ _ hf
    refine ⟨_, rfl, ?_⟩
    refine ⟨fun σ' H2 => ∃ m', m' < 64 - (S.lb here).h ∧ ∃ (h2 : Nat) (v : Option V), m' = 64 - (S.lb h2).h ∧ σ' = [some (.ref td), some (.ref hd), some (.int (n : Int)), some (.int (h2 : Int)), v] ∧ Same H H2 ∧ h2 ∈ S.ks ∧ (Al S.ab S.fr n ↔ Al S.ab S.fr h2), fun _ _ h => h, ?_⟩
    refine ⟨_, rfl, _, rfl, td, S.ks, tv, rl, S.tw, here, rfl, D', wf.asc, hlen, fun l H2 e2 hl hl2 => ?_⟩
    have hf2 := e2 _ _ hf'
    have e02 := e.trans e2
    have hab := wf.abv_len hh
    refine ⟨_, rfl, l, _, rfl, .inl (SqL.of hl2), _, rfl, _, rfl, hd, _, rfl, dget hf2 hh, _, _, rfl, rfl, ?_⟩
    by_cases hs : (S.ab here).length + S.fr here = 1
    · refine ⟨rfl, false, blNF (by rw [nvs_len, hab]; exact congrArg V.int (by omega)), iteF ?_⟩
      refine ⟨_, rfl, szn 0, fun e1 he1 => ⟨_, _, nats_dp (SqL.of ((same_new he1) _ _ hl2)), nil_dp (SqL.of upd_same), shaped_nats _, shaped_nil, (abv S.ks S.tw here).isEmpty, congrArg V.bl (nats_nil _), ?_⟩⟩
      have ex : Same H2 (upd H2 e1 (.lst [])) := same_new he1
      cases ha : S.ab here with
      | nil =>
        rw [ha] at hab
        have : abv S.ks S.tw here = [] := List.length_eq_zero_iff.mp hab
        rw [this]
        exact q1 (hal.mpr (al_top hs ha)) _ (e02.trans ex)
      | cons s r =>
        obtain ⟨es, _⟩ := al_cut hs ha
        have ea := wf.abv_one hh es
        rw [ea]
        obtain ⟨x1, x2, x3⟩ := wf.above_in hh (s := s) (by rw [es]; exact List.mem_singleton.mpr rfl)
        have h64 := wf.lk.h64 x1
        refine iteF ⟨_, rfl, l, _, _, _, rfl, rfl, SqL.of (ex _ _ hl2), atI_nat (j := 0) (by rw [ea]; rfl), ?_⟩
        exact ⟨_, by omega, s, _, rfl, rfl, e02.trans ex, x1, hal.trans (al_step hs ha)⟩
    · refine ⟨rfl, true, blNT (fun z => hs ?_), ?_⟩
      · have z2 := V.int.inj z
        rw [nvs_len, hab] at z2
        omega
      · exact ⟨_, rfl, q2 (fun z => hs (hal.mp z).sum) here _ e02⟩
end
end Tw
end

section
set_option Elab.async false
set_option maxRecDepth 100000
set_option maxHeartbeats 4000000
set_option autoImplicit false
/-! the law's own twigs: the sweep, what may stand under one stem -/
namespace Tw
open PySem L2 Twg
abbrev s_lswept : Stmt := top 41
theorem sc_lswept : FnScope ["_law_twigs", "_law_holds", "_law_todo", "_law_found", "_law_here", "_law_number"] ["_law_twigs", "_law_holds"] (defScope s_lswept) := ⟨rfl, rfl, rfl, by decide +kernel, rfl, by decide +kernel, by decide +kernel⟩
abbrev s_lfits : Stmt := top 47
theorem sc_lfits : FnScope ["_law_twigs", "_law_numbers", "_law_labels", "_law_j", "_law_number"] ["_law_twigs", "_law_numbers"] (defScope s_lfits) := ⟨rfl, rfl, rfl, by decide +kernel, rfl, by decide +kernel, by decide +kernel⟩
theorem same_unlock {H H' : Hp} {d : Addr} {od : Obj} {u : HO} (e : Same (upd H d (.frz od u)) H') (h : H d = some u) : Same H (upd H' d u) := fun b o hb => by
  by_cases z : b = d
  · rw [z, upd_same]
    rw [z, h] at hb
    exact hb
  · rw [upd_ne z]
    exact e b o (by rw [upd_ne z]; exact hb)
def swK (ks F : List Nat) (i : Nat) : List Nat := ks.filter fun k => decide (k ∈ F) || !decide (k ∈ ks.take i)
theorem swK0 (ks F : List Nat) : swK ks F 0 = ks := by
  unfold swK
  refine List.filter_eq_self.mpr fun k _ => ?_
  simp
theorem swK_in {ks F : List Nat} {i n : Nat} (hi : ks[i]? = some n) (hn : n ∈ F) : swK ks F (i + 1) = swK ks F i := by
  unfold swK
  refine List.filter_congr fun k _ => ?_
  rw [take_snoc hi]
  by_cases e : k = n
  · rw [e]
    simp [hn]
  · have : (k ∈ ks.take i ++ [n]) ↔ k ∈ ks.take i := by
      rw [List.mem_append, List.mem_singleton]
      exact ⟨fun z => z.elim id fun y => absurd y e, .inl⟩
    simp only [this]
theorem swK_out {ks F : List Nat} {i n : Nat} (hi : ks[i]? = some n) (hn : n ∉ F) : (swK ks F i).filter (fun k => !decide (k = n)) = swK ks F (i + 1) := by
  unfold swK
  rw [List.filter_filter]
  refine List.filter_congr fun k _ => ?_
  rw [take_snoc hi]
  by_cases e : k = n
  · rw [e]
    simp [hn]
  · have : (k ∈ ks.take i ++ [n]) ↔ k ∈ ks.take i := by
      rw [List.mem_append, List.mem_singleton]
      exact ⟨fun z => z.elim id fun y => absurd y e, .inl⟩
    simp [this, e]
theorem swK_mem {ks F : List Nat} {i n : Nat} (hi : ks[i]? = some n) (nd : ks.Nodup) : n ∈ swK ks F i := by
  unfold swK
  rw [List.mem_filter]
  refine ⟨List.mem_of_getElem? hi, ?_⟩
  have := nd_take nd hi
  simp [this]
theorem swK_end {ks F : List Nat} : (swK ks F ks.length).Sublist ks ∧ ∀ n, n ∈ swK ks F ks.length ↔ n ∈ ks ∧ n ∈ F := by
  refine ⟨List.filter_sublist, fun n => ?_⟩
  unfold swK
  rw [List.take_length, List.mem_filter]
  constructor
  · rintro ⟨h1, h2⟩
    simp [h1] at h2
    exact ⟨h1, h2⟩
  · rintro ⟨h1, h2⟩
    simp [h1, h2]
def spSwept (G : List Kd) : Sp := fun vs H Q _ => ∃ (td hd : Addr) (tv : Nat → V) (rl : Nat → Addr) (S : Shk), vs = [.ref td, .ref hd] ∧ TwAt G H td S.ks tv rl S.tw ∧ H hd = some (.dK (dF S.ks fun n => .int (S.fr n : Int))) ∧ td ≠ hd ∧ W0 S ∧ S.ks.length < 64 ∧
  ∀ (H' : Hp) (kt : List Nat), kt.Sublist S.ks → (∀ n, n ∈ kt ↔ Live S n) → H' td = some (.dK (dF kt tv)) → H' hd = some (.dK (dF kt fun n => .int (S.fr n : Int))) → Keep [td, hd] H H' → Q .non H'
def spFits (G : List Kd) (K : PySem.W.Frag) : Sp := fun vs H Q _ => ∃ (td : Addr) (ks : List Nat) (tv : Nat → V) (rl : Nat → Addr) (tw : Nat → Tk) (lb : Nat → Lab) (a : Addr) (ns : List Nat), vs = [.ref td, .ref a] ∧ TwAt G H td ks tv rl tw ∧ Lok ks tw lb ∧ (∀ n ∈ ns, n ∈ ks) ∧ SqL K H a (nvs ns) ∧ ns.length ≤ 1000 ∧
  ∀ (b : Bool) (H' : Hp), Same H H' → (b = true → OverOk (ns.map lb)) → Q (.bl b) H'
/-- neighbours in order, so all -/
theorem adj_up : ∀ {ls : List Lab}, (∀ l ∈ ls, l.Good) → (∀ (j : Nat) (a b : Lab), ls[j]? = some a → ls[j + 1]? = some b → a.hi < b.lo) → ls.Pairwise (fun a b => a.hi < b.lo)
  | [], _, _ => .nil
  | [a], _, _ => List.pairwise_singleton _ _
  | a :: b :: ls, hg, h => by
    have ih := adj_up (ls := b :: ls) (fun l hl => hg l (List.mem_cons.mpr (.inr hl))) fun j x y hx hy => h (j + 1) x y (by simpa using hx) (by simpa using hy)
    have h0 := h 0 a b rfl rfl
    refine List.pairwise_cons.mpr ⟨fun c hc => ?_, ih⟩
    rcases List.mem_cons.mp hc with z | z
    · rw [z]
      exact h0
    · have h1 := (List.pairwise_cons.mp ih).1 c z
      have h2 := (hg b (by simp)).a
      omega
theorem adj_over {ls : List Lab} (hg : ∀ l ∈ ls, l.Good) (h2 : 2 ≤ ls.length) (h4 : ls.length ≤ 4) (h : ∀ (j : Nat) (a b z : Lab), ls[j]? = some a → ls[j + 1]? = some b → ls[0]? = some z → b.h = z.h ∧ a.hi < b.lo) : OverOk ls := by
  cases ls with
  | nil => simp at h2
  | cons z ls =>
    have hz : ∀ a ∈ z :: ls, a.h = z.h := fun a ha => by
      obtain ⟨i, hi⟩ := List.getElem?_of_mem ha
      cases i with
      | zero =>
        have : z = a := Option.some.inj hi
        rw [this]
      | succ i =>
        have hl := lt_of_get hi
        exact (h i _ a z (List.getElem?_eq_getElem (by omega)) hi rfl).1
    exact ⟨h2, h4, fun a ha b hb => by rw [hz a ha, hz b hb], adj_up hg fun j a b ha hb => (h j a b z ha hb rfl).2⟩
/-- the sweep's walk -/
def lsW (H : Hp) (td hd : Addr) (S : Shk) (m : Nat) (σ : L2.St) (H' : Hp) : Prop := ∃ (t f : Addr) (F todo : List Nat) (v1 v2 : Option V), m = 5 * (S.ks.length - F.length) + todo.length ∧ σ = [some (.ref td), some (.ref hd), some (.ref t), some (.ref f), v1, v2] ∧ Same H H' ∧ H t = none ∧ H f = none ∧ f ≠ t ∧
  H' t = some (.lst (nvs todo)) ∧ H' f = some (.dK (dF F fun _ => .bl true)) ∧ Fd S F todo ∧ todo.length ≤ 5 * F.length + 64
section
variable {P : Program} {w : World} {K : PySem.W.Frag} {mg : Str → Option Value} {base : Heap} {G : List Kd}
theorem df_swept (B : Bas mg) (R : RawG K mg "_law_swept" s_lswept ["_law_twigs", "_law_holds"]) : DfG P w K mg base 1 "_law_swept" ["_law_twigs", "_law_holds"] (spSwept G) := by
  obtain ⟨f, fd, hm, hk, hb, F⟩ := R
  refine ⟨f, fd, hm, hk, hb, F.ok sc_lswept (fun vs H Q E h => ?_) (fun cdv A outer s H vs Q E hr h => ?_)⟩
  · obtain ⟨td, hd, tv, rl, S, rfl, _⟩ := h
    rfl
  · obtain ⟨td, hd, tv, rl, S, rfl, D, hf, hne, wf, hlen, q⟩ := h
    have hu := hu_of hr
    have nd := sc_lswept.nd
    refine ⟨_, (pss_cons (ps_lock (ps_setLc (i := 2) (own := [("_law_number", 5)]) (g := (gName 5)) (by rfl) nd rfl rfl (sw_true rfl rfl rfl (by decide +kernel)) (pi_keys (pv 0)) (blkOk_by (N := ["_law_twigs", "_law_holds", "_law_todo", "_law_found", "_law_here", "_law_number"]) (sc := defScope s_lswept) (by decide +kernel)) (fun _ _ _ _ _ => (pg_name (i := 5) nd rfl (Or.inl rfl))) (fun _ _ _ _ _ => (pts_one (pt_cmpR op_gt (pe_dget hu (pv 1) (pv 5) (fun _ _ => rfl)) pe_int (nomark _)))) (fun _ _ _ _ _ => (pv 5))))
      (pss_cons (ps_set (i := 3) nd rfl (by first | exact Or.inl rfl | exact Or.inr rfl) pe_dnewK)
      (pss_cons (ps_while PassesOwn.never (pt_cmpR (op_neD hr.units) (pv 2) (pe_lst pa_nil) (nomark _))
        (pss_cons (ps_set (i := 4) nd rfl (by first | exact Or.inl rfl | exact Or.inr rfl) (pe_bm0 PySem.F.plainAttrs_list PySem.F.slot_list_pop PySem.F.type_list_pop mt_pop (pv 2)))
        (pss_one (ps_if (pt_cmp (pc_dnotin hu (pv 4) (pv 3)))
          (pss_cons (ps_dput hu (pv 3) (pv 4) pe_bl rfl)
          (pss_one (ps_if (pt_cmpR op_eq (pe_ix ix_tup (pe_dget hu (pv 0) (pv 4) (fun _ _ => rfl)) pe_int (fun _ _ => rfl)) pe_str (nomark _))
            (pss_one (ps_set (i := 2) nd rfl (by first | exact Or.inl rfl | exact Or.inr rfl) (pe_op op_cat (pv 2) (pe_callTy call_list_of (by rfl) B.b_list (by decide +kernel) (pa_cons (pe_ix ix_tup (pe_dget hu (pv 0) (pv 4) (fun _ _ => rfl)) pe_int (fun _ _ => rfl)) pa_nil)))))
            pss_nil)))
          pss_nil))))
      (pss_one (ps_for PassesOwn.never rfl (pi_list (pe_callB (call_sortedDI rfl) (by rfl) B.b_sorted (by decide +kernel) (pa_cons (pv 0) pa_nil))) (pg_name (i := 5) nd rfl (by first | exact Or.inl rfl | exact Or.inr rfl))
        (pss_one (ps_if (pt_cmp (pc_dnotin hu (pv 5) (pv 3)))
          (pss_cons (ps_expr (pe_dpop1 (pv 0) (pv 5) ⟨rfl, rfl, rfl, rfl⟩))
          (pss_one (ps_expr (pe_dpop1 (pv 1) (pv 5) ⟨rfl, rfl, rfl, rfl⟩))))
          pss_nil))))))), ?_⟩
    refine ⟨td, _, D.t, trivial, fun od => ?_⟩
    have hdf : upd H td (.frz od (.dK (dF S.ks tv))) hd = some (.dK (dF S.ks fun n => .int (S.fr n : Int))) := by
      rw [upd_ne hne.symm]
      exact hf
    have htf : upd H td (.frz od (.dK (dF S.ks tv))) td = some (.frz od (.dK (dF S.ks tv))) := upd_same
    have eul : ∀ {H' : Hp}, Same (upd H td (.frz od (.dK (dF S.ks tv)))) H' → Same H (upd H' td (.dK (dF S.ks tv))) := fun e => same_unlock e D.t
    have efr : ∀ {p : Addr}, upd H td (.frz od (.dK (dF S.ks tv))) p = none → H p = none := fun {p} h => by
      by_cases z : p = td
      · rw [z, upd_same] at h
        cases h
      · rw [upd_ne z] at h
        exact h
    generalize upd H td (.frz od (.dK (dF S.ks tv))) = Hf at hdf htf eul efr
    refine ⟨_, rfl, td, od, rfl, .inl ⟨_, htf, fun L hL => ?_⟩⟩
    have hLt : L ≠ td := fun z => by
      rw [z, htf] at hL
      cases hL
    refine lc_rel walk_keys hL (fun i acc _ => acc = nvs ((S.ks.take i).filter fun n => !decide (S.fr n = 0))) (by rw [dF_len]; omega) (fun H' e => e _ _ htf) (fun _ _ _ _ _ h => h) (by rw [List.take_zero]; rfl) ?_ ?_
    · rintro i y acc H' hi ⟨k, v, hkv, rfl⟩ e rfl Kx Ky kx ky
      obtain ⟨b, hb', ekv⟩ := get_map hkv
      have ek : k = Sum.inl (b : Int) := congrArg Prod.fst ekv
      subst ek
      have hbk := List.mem_of_getElem? hb'
      refine ⟨rfl, _, rfl, _, rfl, hd, _, rfl, dget (e _ _ hdf) hbk, _, _, rfl, rfl, !decide (S.fr b = 0), ?_, ?_⟩
      · show V.bl (decide ((0 : Int) < (S.fr b : Int))) = _
        congr 1
        by_cases z : S.fr b = 0
        · simp [z]
        · have : (0 : Int) < (S.fr b : Int) := by omega
          rw [decide_eq_true this, decide_eq_false z]
          rfl
      · by_cases z : S.fr b = 0
        · rw [decide_eq_true z]
          refine iteF (ky _ (Same.refl _) ?_)
          rw [take_snoc hb', List.filter_append, List.filter_cons_of_neg (by simp [z]), List.filter_nil, List.append_nil]
        · rw [decide_eq_false z]
          refine ⟨_, rfl, kx _ _ (Same.refl _) ?_⟩
          rw [take_snoc hb', List.filter_append, List.filter_cons_of_pos (by simp [z]), List.filter_nil]
          exact nvs_snoc _ _
    rintro acc H1 e1 rfl hl hd1
    rw [take_all (by rw [dF_len]; exact Nat.le_refl _)] at hd1
    refine ⟨e1 _ _ htf, ?_⟩
    have s1 := eul e1
    have h1L : upd H1 td (.dK (dF S.ks tv)) L = some (.lst (nvs (S.ks.filter fun n => !decide (S.fr n = 0)))) := by
      rw [upd_ne hLt]
      exact hd1
    have hL0 := efr hL
    generalize upd H1 td (.dK (dF S.ks tv)) = H2 at s1 h1L
    intro fa hfa
    have e3 : Same H2 (upd H2 fa (.dK [])) := same_new hfa
    have nfL : fa ≠ L := fun z => by
      rw [z, h1L] at hfa
      cases hfa
    have fd0 := fd_start (S := S)
    have hlf : (S.ks.filter fun n => !decide (S.fr n = 0)).length ≤ S.ks.length := List.length_filter_le _ _
    refine ⟨lsW H td hd S, ⟨_, L, fa, [], _, none, none, rfl, rfl, s1.trans e3, hL0, same_free s1 hfa, nfL, e3 _ _ h1L, upd_same, fd0, by omega⟩, ?_⟩
    rintro m σ H' ⟨t, f1, F1, todo, v1, v2, rfl, rfl, e, ht, hf1, nft, ht', hf', fdI, hbd⟩
    refine ⟨_, rfl, szn 0, fun e1 he1 => ⟨_, _, nats_dp (SqL.of ((same_new he1) _ _ ht')), nil_dp (SqL.of upd_same), shaped_nats _, shaped_nil, !todo.isEmpty, congrArg V.bl (by rw [nats_nil]), ?_⟩⟩
    have ex : Same H' (upd H' e1 (.lst [])) := same_new he1
    have e2 := e.trans ex
    have ht2 := ex _ _ ht'
    have hf2 := ex _ _ hf'
    have hFk : ∀ n ∈ F1, n ∈ S.ks := fun n hn => (fdI.fl n hn).in_ wf
    have hFl : F1.length ≤ S.ks.length := nd_len fdI.nd hFk
    rcases List.eq_nil_or_concat todo with z | ⟨init, here, z⟩
    · subst z
      generalize upd H' e1 (.lst []) = H3 at e2 hf2
      refine ⟨_, rfl, td, _, S.ks.map (fun k : Nat => (k : Int)), rfl, .of (e2 _ _ D.t), dF_keys _ _, by rw [List.length_map]; exact hlen, fun ys p hp hs hn => ?_⟩
      rw [sorted_eq hp hs (asc_int wf.asc), nvs_eq]
      have e4 : Same H3 (upd H3 p (.lst (nvs S.ks))) := same_new hn
      have h4p : upd H3 p (.lst (nvs S.ks)) p = some (.lst (nvs S.ks)) := upd_same
      have hf4 := e4 _ _ hf2
      have ht4 := e4 _ _ (e2 _ _ D.t)
      have hh4 := e4 _ _ (e2 _ _ hf)
      have npt : p ≠ td := fun z => by
        rw [z, e2 _ _ D.t] at hn
        cases hn
      have nph : p ≠ hd := fun z => by
        rw [z, e2 _ _ hf] at hn
        cases hn
      have nft : f1 ≠ td := fun z => by
        rw [z, D.t] at hf1
        cases hf1
      have nfh : f1 ≠ hd := fun z => by
        rw [z, hf] at hf1
        cases hf1
      have e04 := e2.trans e4
      generalize upd H3 p (.lst (nvs S.ks)) = H4 at e04 h4p hf4 ht4 hh4
      refine ⟨p, rfl, ⟨_, SqL.of h4p⟩, for_it (walk_list (K := K) (a := p) (xs := nvs S.ks)) (fun i σ H' => ∃ v, σ = [some (.ref td), some (.ref hd), some (.ref t), some (.ref f1), v1, v] ∧ H' td = some (.dK (dF (swK S.ks F1 i) tv)) ∧ H' hd = some (.dK (dF (swK S.ks F1 i) fun n => .int (S.fr n : Int))) ∧
        H' f1 = some (.dK (dF F1 fun _ => .bl true)) ∧ H' p = some (.lst (nvs S.ks)) ∧ Keep [td, hd] H H') ⟨v2, rfl, by rw [swK0]; exact ht4, by rw [swK0]; exact hh4, hf4, h4p, Keep.of_same e04⟩ (fun i σ H' _ ⟨_, _, _, _, _, e, _⟩ => SqL.of e) ?_ ?_⟩
      · rintro i y σ _ H5 hi ⟨v, rfl, g1, g2, g3, g4, g5⟩ ⟨rfl, hy⟩
        obtain ⟨n, hn', rfl⟩ := nvs_get hy
        have hnk := swK_mem (F := F1) hn' (asc_nd wf.asc)
        by_cases c : n ∈ F1
        · refine ⟨_, rfl, _, rfl, f1, _, rfl, dget g3 c, _, rfl, iteF ⟨_, rfl, ?_, ?_, g3, g4, g5⟩⟩
          · rw [swK_in hn' c]
            exact g1
          · rw [swK_in hn' c]
            exact g2
        · refine ⟨_, rfl, _, rfl, f1, _, rfl, dgetN g3 c, _, rfl, ?_⟩
          refine ⟨_, rfl, td, rfl, .inl ⟨_, Rd.of g1⟩, _, rfl, _, Sum.inl (n : Int), _, g1, rfl, dF_in hnk, ?_⟩
          rw [dF_drop, swK_out hn' c]
          have g2' : upd H5 td (.dK (dF (swK S.ks F1 (i + 1)) tv)) hd = some (.dK (dF (swK S.ks F1 i) fun n => .int (S.fr n : Int))) := by
            rw [upd_ne hne.symm]
            exact g2
          refine ⟨_, rfl, hd, rfl, .inl ⟨_, Rd.of g2'⟩, _, rfl, _, Sum.inl (n : Int), _, g2', rfl, dF_in hnk, ?_⟩
          rw [dF_drop, swK_out hn' c]
          refine ⟨_, rfl, ?_, upd_same, ?_, ?_, (g5.trans (keep_upd (by simp))).trans (keep_upd (by simp))⟩
          · rw [upd_ne hne, upd_same]
          · rw [upd_ne nfh, upd_ne nft]
            exact g3
          · rw [upd_ne nph, upd_ne npt]
            exact g4
      · rintro σ H5 ⟨v, rfl, g1, g2, g3, g4, g5⟩
        rw [nvs_len] at g1 g2
        obtain ⟨w1, w2⟩ := swK_end (ks := S.ks) (F := F1)
        exact q H5 _ w1 (fun n => by rw [w2, fdI.done]; exact ⟨fun z => z.2, fun z => ⟨z.in_ wf, z⟩⟩) g1 g2 g5
    rw [List.concat_eq_append] at z
    subst z
    have enil : (!(init ++ [here]).isEmpty) = true := by simp
    rw [enil]
    rw [List.length_append, List.length_singleton] at hbd ⊢
    refine ⟨fun σ' H2 => ∃ m', m' < 5 * (S.ks.length - F1.length) + (init.length + 1) ∧ lsW H td hd S m' σ' H2, fun _ _ h => h, ?_⟩
    have edl : (nvs (init ++ [here])).dropLast = nvs init := by rw [← nvs_snoc, List.dropLast_concat]
    have hpop : ∀ xs : List V, xs = nvs (init ++ [here]) → xs[xs.length - 1]? = some (.int (here : Int)) := fun xs e => by rw [e, nvs_len, List.length_append, List.length_singleton, Nat.add_sub_cancel, ← nvs_snoc, List.getElem?_append_right (by rw [nvs_len]; exact Nat.le_refl _), nvs_len, Nat.sub_self]; rfl
    refine ⟨_, rfl, .inl ⟨rfl, _, SqL.of ht2⟩, t, _, .int (here : Int), rfl, rfl, ht2, hpop _ rfl, ?_⟩
    rw [edl]
    have e3 : Same H (upd (upd H' e1 (.lst [])) t (.lst (nvs init))) := same_mut e2 ht
    have hf3 : upd (upd H' e1 (.lst [])) t (.lst (nvs init)) f1 = some (.dK (dF F1 fun _ => .bl true)) := by
      rw [upd_ne nft]
      exact hf2
    have ht3 : upd (upd H' e1 (.lst [])) t (.lst (nvs init)) t = some (.lst (nvs init)) := upd_same
    generalize upd (upd H' e1 (.lst [])) t (.lst (nvs init)) = H3 at e3 hf3 ht3
    by_cases c : here ∈ F1
    · exact ⟨_, rfl, _, rfl, f1, _, rfl, dget hf3 c, _, rfl, iteF ⟨_, by omega, t, f1, F1, init, _, _, rfl, rfl, e3, ht, hf1, nft, ht3, hf3, fdI.skip c, by omega⟩⟩
    have hhk : here ∈ S.ks := (fdI.tl here (by simp)).in_ wf
    have hFl2 : F1.length + 1 ≤ S.ks.length := by
      have := nd_len (l := F1 ++ [here]) (k := S.ks) (fdI.pop c).nd fun n hn => ((fdI.pop c).fl n hn).in_ wf
      rw [List.length_append] at this
      exact this
    refine ⟨_, rfl, _, rfl, f1, _, rfl, dgetN hf3 c, _, rfl, ?_⟩
    refine ⟨_, rfl, _, rfl, f1, _, rfl, dputN hf3 c (by omega), ?_⟩
    have edf : dF (F1 ++ [here]) (fset (fun _ => V.bl true) here (.bl true)) = dF (F1 ++ [here]) fun _ => .bl true := dF_ext fun k _ => by
      by_cases z : k = here
      · rw [z, fset_same]
      · rw [fset_ne _ _ z]
    rw [edf]
    have e4 : Same H (upd H3 f1 (.dK (dF (F1 ++ [here]) fun _ => .bl true))) := same_mut e3 hf1
    have hf4 : upd H3 f1 (.dK (dF (F1 ++ [here]) fun _ => .bl true)) f1 = some (.dK (dF (F1 ++ [here]) fun _ => .bl true)) := upd_same
    have ht4 : upd H3 f1 (.dK (dF (F1 ++ [here]) fun _ => .bl true)) t = some (.lst (nvs init)) := by
      rw [upd_ne nft.symm]
      exact ht3
    generalize upd H3 f1 (.dK (dF (F1 ++ [here]) fun _ => .bl true)) = H4 at e4 hf4 ht4
    have D4 := D.same e4
    obtain ⟨p, kind, ws, hv, hp, hl', hs⟩ := D4.v here hhk
    have fdp := fdI.pop c
    refine ⟨_, rfl, _, rfl, td, _, rfl, dget D4.t hhk, p, _, _, _, hv, rfl, SqT.of hp, atI_nat (j := 0) rfl, rfl, ?_⟩
    cases cc : S.tw here with
    | leaf rows =>
      rw [cc] at hs fdp
      obtain ⟨rfl, _⟩ := hs
      refine ⟨false, blF (by decide +kernel), iteF ⟨_, ?_, t, f1, F1 ++ [here], init ++ [], _, _, rfl, rfl, e4, ht, hf1, nft, by rw [List.append_nil]; exact ht4, hf4, fdp, ?_⟩⟩
      · rw [List.length_append, List.length_append]
        simp
        omega
      · rw [List.length_append, List.length_append]
        simp
        omega
    | stem kd =>
      rw [cc] at hs fdp
      obtain ⟨rfl, rfl⟩ := hs
      have hkdl : kd.length ≤ 4 := by
        have := wf.lk.kids_le hhk
        rw [cc] at this
        exact this
      refine ⟨true, blT rfl, ?_⟩
      refine ⟨_, rfl, _, rfl, _, rfl, td, _, rfl, dget D4.t hhk, p, _, _, _, hv, rfl, SqT.of hp, atI_nat (j := 1) rfl, rl here, nvs kd, rfl, .inl (SqL.of hl'), fun l1 hl1 => ⟨t, l1, nvs init, nvs kd, rfl, rfl, (same_new hl1) _ _ ht4, upd_same, small_sz (by rw [nvs_len, nvs_len]; omega), fun p2 hp2 => ?_⟩⟩
      have eap : nvs init ++ nvs kd = nvs (init ++ kd) := by
        unfold nvs
        rw [List.map_append]
      rw [eap]
      have e5 : Same H4 (upd (upd H4 l1 (.lst (nvs kd))) p2 (.lst (nvs (init ++ kd)))) := (same_new hl1).trans (same_new hp2)
      have npf : f1 ≠ p2 := fun z => by
        rw [← z, (same_new hl1) _ _ hf4] at hp2
        cases hp2
      refine ⟨_, ?_, p2, f1, F1 ++ [here], init ++ kd, _, _, rfl, rfl, e4.trans e5, same_free (e4.trans (same_new hl1)) hp2, hf1, npf, upd_same, e5 _ _ hf4, fdp, ?_⟩
      · rw [List.length_append, List.length_append, List.length_singleton]
        omega
      · rw [List.length_append, List.length_append, List.length_singleton]
        omega
theorem df_fits (gr : GridOk G) (B : Bas mg) (D1 : DfG P w K mg base 2 "_law_label" ["_law_twigs", "_law_number"] (spLLabel G)) (D2 : DfG P w K mg base 3 "_law_less" ["_law_one", "_law_other"] spAhead) (R : RawG K mg "_law_fits" s_lfits ["_law_twigs", "_law_numbers"]) : DfG P w K mg base 4 "_law_fits" ["_law_twigs", "_law_numbers"] (spFits G K) := by
  obtain ⟨f, fd, hm, hk, hb, F⟩ := R
  obtain ⟨_, _, m_llabel, k_llabel, b_llabel, F_llabel⟩ := D1
  obtain ⟨_, _, m_lless, k_lless, b_lless, F_lless⟩ := D2
  refine ⟨f, fd, hm, hk, hb, F.ok sc_lfits (fun vs H Q E h => ?_) (fun cdv A outer s H vs Q E hr h => ?_)⟩
  · obtain ⟨td, ks, tv, rl, tw, lb, a, ns, rfl, _⟩ := h
    rfl
  · obtain ⟨td, ks, tv, rl, tw, lb, a, ns, rfl, D, lk, hns, hS, hlen, q⟩ := h
    have hu := hu_of hr
    have nd := sc_lfits.nd
    refine ⟨_, (pss_cons (ps_setLc (i := 2) (own := [("_law_number", 4)]) (g := (gName 4)) (by rfl) nd rfl rfl (sw_true rfl rfl rfl (by decide +kernel)) (pi_list (pv 1)) (blkOk_by (N := ["_law_twigs", "_law_numbers", "_law_labels", "_law_j", "_law_number"]) (sc := defScope s_lfits) (by decide +kernel)) (fun _ _ _ _ _ => (pg_name (i := 4) nd rfl (by first | exact Or.inl rfl | exact Or.inr rfl))) (fun _ _ _ _ _ => pts_nil) (fun _ _ _ _ _ => (pe_call (F_llabel.mono (by first | decide | omega)) hr rfl m_llabel k_llabel b_llabel .nil pass0 (pa_cons (pv 0) (pa_cons (pv 4) pa_nil)))))
      (pss_cons (ps_for PassesOwn.never rfl (pi_range2 rfl B.b_range (pa_cons pe_int (pa_cons (pe_callB call_len_seq (by rfl) B.b_len PySem.boot_len (pa_cons (pv 2) pa_nil)) pa_nil))) (pg_name (i := 3) nd rfl (by first | exact Or.inl rfl | exact Or.inr rfl))
        (pss_one (ps_if (PW.pt (pw_or (pt_cmpR op_ne (pe_ix ix_tup (pe_ix ix_list (pv 2) (pv 3) (fun _ _ => rfl)) pe_int (fun _ _ => rfl)) (pe_ix ix_tup (pe_ix ix_list (pv 2) pe_int (fun _ _ => rfl)) pe_int (fun _ _ => rfl)) (nomark _)) (pw_or1 (pt_not (pt_val (pe_call (F_lless.mono (by first | decide | omega)) hr rfl m_lless k_lless b_lless .nil pass0 (pa_cons (pe_ix ix_tup (pe_ix ix_list (pv 2) (pe_op op_sub (pv 3) pe_int) (fun _ _ => rfl)) pe_int (fun _ _ => rfl)) (pa_cons (pe_ix ix_tup (pe_ix ix_list (pv 2) (pv 3) (fun _ _ => rfl)) pe_int (fun _ _ => rfl)) pa_nil))))))))
          (pss_one (ps_ret pe_bl))
          pss_nil)))
      (pss_one (ps_ret (pe_chain op_le op_le pe_int (pe_callB call_len_seq (by rfl) B.b_len PySem.boot_len (pa_cons (pv 2) pa_nil)) pe_int))))), ?_⟩
    refine ⟨_, rfl, a, rfl, ⟨_, hS⟩, fun L hL => ?_⟩
    refine lc_rel (walk_list (K := K) (a := a) (xs := nvs ns)) hL (fun i acc H' => Paired (LabV G H') acc ((ns.take i).map lb)) (by rw [nvs_len]; omega) (fun H' e => e.seq hS) (fun _ _ _ _ ts h => L2.Paired.mapP h fun _ _ x => x.ts ts) .nil ?_ ?_
    · rintro i y acc H' hi hy e r Kx Ky kx ky
      obtain ⟨b, hb', rfl⟩ := nvs_get hy
      refine ⟨rfl, _, rfl, _, rfl, td, ks, tv, rl, tw, lb, b, rfl, D.same e, lk, hns b (List.mem_of_getElem? hb'), fun y H2 e2 l2 => kx _ _ e2 ?_⟩
      rw [take_snoc hb', List.map_append]
      exact paired_app (L2.Paired.mapP r fun _ _ x => x.ts (ts_same e2)) (.cons l2 .nil)
    rintro acc H1 e1 r1 hl hd
    rw [take_all (by rw [nvs_len]; exact Nat.le_refl _)] at r1
    have hal : acc.length = ns.length := by rw [Paired.length r1, List.length_map]
    have hgd : ∀ l ∈ ns.map lb, l.Good := fun l hl => by
      obtain ⟨k, hk, rfl⟩ := List.mem_map.mp hl
      exact lk.good (hns k hk)
    refine ⟨_, rfl, L, _, rfl, .inl (SqL.of hd), _, _, rfl, ⟨by decide, by decide, by omega, by omega⟩, for_range (lo := 1) (n := ((acc.length : Int) - 1).toNat) (fun i σ H2 => ∃ v, σ = [some (.ref td), some (.ref a), some (.ref L), v, none] ∧ Same H1 H2 ∧
      ∀ (j : Nat) (x y z : Lab), j < i → (ns.map lb)[j]? = some x → (ns.map lb)[j + 1]? = some y → (ns.map lb)[0]? = some z → y.h = z.h ∧ x.hi < y.lo) ⟨none, rfl, Same.refl _, fun _ _ _ _ hj => absurd hj (Nat.not_lt_zero _)⟩ ?_ ?_⟩
    · rintro i σ H2 hi ⟨v, rfl, e2, hc⟩
      have hd2 := e2 _ _ hd
      have r2 : Paired (LabV G H2) acc (ns.map lb) := L2.Paired.mapP r1 fun _ _ x => x.ts (ts_same e2)
      have h0 : i < acc.length := by omega
      have h1 : i + 1 < acc.length := by omega
      have h00 : 0 < acc.length := by omega
      obtain ⟨lz, hlz, p0, a0, b0, ey0, hp0, ha0, hb0⟩ := paired_get r2 0 acc[0] (List.getElem?_eq_getElem h00)
      obtain ⟨li, hli, pi, ai, bi, eyi, hpi, hai, hbi⟩ := paired_get r2 i acc[i] (List.getElem?_eq_getElem h0)
      obtain ⟨lj, hlj, pj, aj, bj, eyj, hpj, haj, hbj⟩ := paired_get r2 (i + 1) acc[i + 1] (List.getElem?_eq_getElem h1)
      have gi := (hgd _ (List.mem_of_getElem? hli)).b
      have gj := (hgd _ (List.mem_of_getElem? hlj)).lo64
      refine ⟨_, rfl, _, rfl, L, acc, _, _, rfl, rfl, SqL.of hd2, at_of (j := i + 1) (by omega) (by rw [List.getElem?_eq_getElem h1, eyj]), pj, _, _, _, rfl, rfl, SqT.of hpj, atI_nat (j := 0) rfl, ?_⟩
      refine ⟨_, rfl, L, acc, _, _, rfl, rfl, SqL.of hd2, atI_nat (j := 0) (by rw [List.getElem?_eq_getElem h00, ey0]), p0, _, _, _, rfl, rfl, SqT.of hp0, atI_nat (j := 0) rfl, rfl, ?_⟩
      by_cases c1 : lj.h = lz.h
      · refine ⟨false, blNF (by rw [c1]), iteF ?_⟩
        refine ⟨_, rfl, _, rfl, _, _, rfl, rfl, L, acc, _, _, rfl, rfl, SqL.of hd2, at_of (j := i) (by omega) (by rw [List.getElem?_eq_getElem h0, eyi]), pi, _, _, _, rfl, rfl, SqT.of hpi, atI_nat (j := 2) rfl, ?_⟩
        refine ⟨_, rfl, _, rfl, L, acc, _, _, rfl, rfl, SqL.of hd2, at_of (j := i + 1) (by omega) (by rw [List.getElem?_eq_getElem h1, eyj]), pj, _, _, _, rfl, rfl, SqT.of hpj, atI_nat (j := 1) rfl, ?_⟩
        refine ⟨bi, aj, gk G li.hi, gk G lj.lo, rfl, hbi, haj, gr.ok _ gi, gr.ok _ gj, fun H3 e3 => ?_⟩
        rw [gr.lt _ _ gi gj]
        by_cases c2 : li.hi < lj.lo
        · refine ⟨true, blT c2, iteF ⟨_, rfl, e2.trans e3, fun j x y z hj hx hy hz => ?_⟩⟩
          by_cases ej : j = i
          · rw [ej, hli] at hx
            rw [ej, hlj] at hy
            rw [hlz] at hz
            rw [← Option.some.inj hx, ← Option.some.inj hy, ← Option.some.inj hz]
            exact ⟨c1, c2⟩
          · exact hc j x y z (by omega) hx hy hz
        · exact ⟨false, blF c2, q false _ ((e1.trans e2).trans e3) (fun z => by cases z)⟩
      · exact ⟨true, blNT (fun z => c1 (by have := V.int.inj z; omega)), q false _ (e1.trans e2) (fun z => by cases z)⟩
    · rintro σ H2 ⟨v, rfl, e2, hc⟩
      have hd2 := e2 _ _ hd
      refine ⟨_, rfl, L, acc, rfl, .inl (SqL.of hd2), ?_⟩
      by_cases c1 : (2 : Int) ≤ (acc.length : Int)
      · refine ⟨_, _, rfl, rfl, true, blT c1, _, _, rfl, rfl, ?_⟩
        refine q _ _ (e1.trans e2) fun z => ?_
        have c2 : (acc.length : Int) ≤ 4 := of_decide_eq_true z
        refine adj_over hgd (by rw [List.length_map]; omega) (by rw [List.length_map]; omega) fun j x y z hx hy hz => hc j x y z ?_ hx hy hz
        have := lt_of_get hy
        rw [List.length_map] at this
        omega
      · exact ⟨_, _, rfl, rfl, false, blF c1, q false _ (e1.trans e2) (fun z => by cases z)⟩
end
end Tw
end

section
set_option Elab.async false
set_option maxRecDepth 100000
set_option maxHeartbeats 4000000
set_option autoImplicit false
/-! the grid of keys: why its keys stand in order -/
namespace Tw
open PySem L2 Twg
def sgs : Str := "!#$&()*+,-./0123456789:;<=>?@ABCDEFGHIJKLMNOPQRSTUVWXYZ"
def sgn (i : Nat) : Nat := (sgs.cps[i]?).getD 0
theorem sgs_size : sgs.cps.size = 55 := by decide +kernel
theorem sgn_up : ∀ i j : Nat, i < j → j < 55 → sgn i < sgn j := by
  have h : ∀ j : Fin 55, ∀ i : Fin 55, i.val < j.val → sgn i.val < sgn j.val := by decide +kernel
  intro i j hij hj
  exact h ⟨j, hj⟩ ⟨i, by omega⟩ hij
theorem sgn_ok : ∀ i : Nat, i < 55 → 32 ≤ sgn i ∧ sgn i ≤ 126 := by
  have h : ∀ j : Fin 55, 32 ≤ sgn j.val ∧ sgn j.val ≤ 126 := by decide +kernel
  intro i hi
  exact h ⟨i, hi⟩
def gtx (s m : Nat) : Str := ⟨#[107, sgn (s / 50), sgn (s % 50)] ++ (if m = 1 then #[97] else #[])⟩
def gel (one two : Nat) (sz : Nat → Nat) (j : Nat) : Kd :=
  if j < one then .at (.i ((sz (j + 1) : Int) - 700)) else if j < two then .at (.s (gtx (sz (j + 1)) (j % 2))) else .tp (.s "" :: .i (sz (j + 1) : Int) :: if j % 2 = 1 then [.i 0] else [])
def gridOf (one two : Nat) (sz : Nat → Nat) : List Kd := (List.range 64).map (gel one two sz)
structure SzOk (sz : Nat → Nat) (n : Nat) : Prop where
  z : sz 0 = 0
  up : ∀ j, j < n → sz j < sz (j + 1)
  le : ∀ j, j < n → sz (j + 1) ≤ 20 * (j + 1)
theorem SzOk.lt {sz : Nat → Nat} {n : Nat} (h : SzOk sz n) : ∀ {i j : Nat}, i < j → j ≤ n → sz i < sz j
  | i, 0, hi, _ => absurd hi (Nat.not_lt_zero _)
  | i, j + 1, hi, hj => by
    have := h.up j (by omega)
    by_cases e : i = j
    · rw [e]
      exact this
    · have := h.lt (i := i) (j := j) (by omega) (by omega)
      omega
open PySem.W in
theorem toks_i (n : Int) (l : List (Int ⊕ List Nat)) : keyToks (At.i n).rk = [Sum.inl 1, Sum.inl 0, Sum.inl 1, Sum.inl n, Sum.inl 1, Sum.inr [], Sum.inl 1, Sum.inl 0, Sum.inl 0] := by
  simp [At.rk, keyToks, keyToksAll]
  decide +kernel
open PySem.W in
theorem toks_s (x : Str) : keyToks (At.s x).rk = [Sum.inl 1, Sum.inl 1, Sum.inl 1, Sum.inl 0, Sum.inl 1, Sum.inr x.cps.toList, Sum.inl 1, Sum.inl 0, Sum.inl 0] := by
  simp [At.rk, keyToks, keyToksAll]
open PySem.W in
theorem toks_t (n : Int) (as : List At) : ∃ l, keyToks (Kd.tp (.s "" :: .i n :: as)).rk = [Sum.inl 1, Sum.inl 2, Sum.inl 1, Sum.inl 0, Sum.inl 1, Sum.inr [], Sum.inl 1, Sum.inl 1, Sum.inl 1, Sum.inl 1, Sum.inl 1, Sum.inl 0, Sum.inl 1, Sum.inr [], Sum.inl 1, Sum.inl 0, Sum.inl 0, Sum.inl 1, Sum.inl 1, Sum.inl 0, Sum.inl 1] ++ (Sum.inl n :: l) := by
  refine ⟨[Sum.inl 1, Sum.inr [], Sum.inl 1, Sum.inl 0, Sum.inl 0] ++ (keyToksAll (as.map At.rk) ++ [Sum.inl 0]), ?_⟩
  have e : (Str.ofString "").cps.toList = [] := by decide +kernel
  simp only [Kd.rk, At.rk, keyToks, keyToksAll, List.map_cons, List.map_nil, List.cons_append, List.nil_append, List.append_assoc, e]
theorem tl {a b x y : List (Int ⊕ List Nat)} {p : List (Int ⊕ List Nat)} {u v : Int ⊕ List Nat} (ha : x = p ++ (u :: a)) (hb : y = p ++ (v :: b)) (hne : u ≠ v) (h : PyProof.Rows.itemLt u v = true) : PyProof.Rows.lexLt PyProof.Rows.itemOrd x y = true := by
  rw [ha, hb, PySem.W.lex_pre, PyProof.Rows.lex_diff (O := PyProof.Rows.itemOrd) hne]
  exact h
theorem klt_ii {n m : Int} (h : n < m) : klt (.at (.i n)) (.at (.i m)) = true :=
  tl (p := [Sum.inl 1, Sum.inl 0, Sum.inl 1]) (toks_i n []) (toks_i m []) (fun z => by have := Sum.inl.inj z; omega) (decide_eq_true h)
theorem klt_is (n : Int) (x : Str) : klt (.at (.i n)) (.at (.s x)) = true := tl (p := [Sum.inl 1]) (toks_i n []) (toks_s x) (fun z => by have := Sum.inl.inj z; omega) (by decide)
theorem klt_it (n m : Int) (as : List At) : klt (.at (.i n)) (.tp (.s "" :: .i m :: as)) = true := by
  obtain ⟨l, e⟩ := toks_t m as
  exact tl (p := [Sum.inl 1]) (toks_i n []) e (fun z => by have := Sum.inl.inj z; omega) (by decide)
theorem klt_st (x : Str) (m : Int) (as : List At) : klt (.at (.s x)) (.tp (.s "" :: .i m :: as)) = true := by
  obtain ⟨l, e⟩ := toks_t m as
  exact tl (p := [Sum.inl 1]) (toks_s x) e (fun z => by have := Sum.inl.inj z; omega) (by decide)
theorem klt_ss {x y : Str} (h : x.cps.toList < y.cps.toList) : klt (.at (.s x)) (.at (.s y)) = true :=
  tl (p := [Sum.inl 1, Sum.inl 1, Sum.inl 1, Sum.inl 0, Sum.inl 1]) (toks_s x) (toks_s y) (fun z => by
    have := Sum.inr.inj z
    rw [this] at h
    exact List.lt_irrefl _ h) (decide_eq_true h)
theorem klt_tt {n m : Int} (as bs : List At) (h : n < m) : klt (.tp (.s "" :: .i n :: as)) (.tp (.s "" :: .i m :: bs)) = true := by
  obtain ⟨l, e⟩ := toks_t n as
  obtain ⟨k, e2⟩ := toks_t m bs
  exact tl e e2 (fun z => by have := Sum.inl.inj z; omega) (decide_eq_true h)
theorem klt_self (k : Kd) : klt k k = false := PyProof.Rows.lex_irrefl _
theorem klt_back {a b : Kd} (h : klt a b = true) : klt b a = false := by
  cases e : klt b a with
  | false => rfl
  | true =>
    have := PyProof.Rows.lex_trans _ _ _ h e
    rw [show PyProof.Rows.lexLt PyProof.Rows.itemOrd _ _ = klt a a from rfl, klt_self] at this
    cases this
theorem gtx_cps (s m : Nat) : (gtx s m).cps.toList = [107, sgn (s / 50), sgn (s % 50)] ++ (if m = 1 then [97] else []) := by
  unfold gtx
  split <;> rfl
theorem gtx_lt {s t : Nat} (h : s < t) (ht : t ≤ 1280) (m k : Nat) : (gtx s m).cps.toList < (gtx t k).cps.toList := by
  rw [gtx_cps, gtx_cps]
  show (107 :: sgn (s / 50) :: sgn (s % 50) :: _ : List Nat) < 107 :: sgn (t / 50) :: sgn (t % 50) :: _
  rw [List.cons_lt_cons_iff]
  refine .inr ⟨rfl, ?_⟩
  rw [List.cons_lt_cons_iff]
  by_cases e : s / 50 = t / 50
  · refine .inr ⟨by rw [e], ?_⟩
    rw [List.cons_lt_cons_iff]
    exact .inl (sgn_up _ _ (by omega) (by omega))
  · exact .inl (sgn_up _ _ (by omega) (by omega))
theorem gel_lt {one two : Nat} {sz : Nat → Nat} (ot : one ≤ two) (h : SzOk sz 64) {i j : Nat} (hij : i < j) (hj : j < 64) : klt (gel one two sz i) (gel one two sz j) = true := by
  have hs := h.lt (i := i + 1) (j := j + 1) (by omega) (by omega)
  have hb := h.le j hj
  unfold gel
  by_cases i1 : i < one
  · rw [if_pos i1]
    by_cases j1 : j < one
    · rw [if_pos j1]
      exact klt_ii (by omega)
    · rw [if_neg j1]
      by_cases j2 : j < two
      · rw [if_pos j2]
        exact klt_is _ _
      · rw [if_neg j2]
        exact klt_it _ _ _
  · rw [if_neg i1, if_neg (show ¬ j < one by omega)]
    by_cases i2 : i < two
    · rw [if_pos i2]
      by_cases j2 : j < two
      · rw [if_pos j2]
        exact klt_ss (gtx_lt hs (by omega) _ _)
      · rw [if_neg j2]
        exact klt_st _ _ _
    · rw [if_neg i2, if_neg (show ¬ j < two by omega)]
      exact klt_tt _ _ (by omega)
theorem gel_ok {one two : Nat} {sz : Nat → Nat} (h : SzOk sz 64) {j : Nat} (hj : j < 64) : (gel one two sz j).Ok := by
  have hb := h.le j hj
  have hu := h.up j hj
  unfold gel
  by_cases i1 : j < one
  · rw [if_pos i1]
    show -(10 ^ 60 : Int) < (sz (j + 1) : Int) - 700 ∧ (sz (j + 1) : Int) - 700 < 10 ^ 60
    omega
  · rw [if_neg i1]
    by_cases i2 : j < two
    · rw [if_pos i2]
      show (gtx _ _).length ≤ 40 ∧ ∀ c ∈ (gtx _ _).cps.toList, 32 ≤ c ∧ c ≤ 126
      constructor
      · have : (gtx (sz (j + 1)) (j % 2)).length = (gtx (sz (j + 1)) (j % 2)).cps.toList.length := by
          rw [Array.length_toList]
          rfl
        rw [this, gtx_cps]
        split <;> simp
      · rw [gtx_cps]
        intro c hc
        have o1 := sgn_ok (sz (j + 1) / 50) (by omega)
        have o2 := sgn_ok (sz (j + 1) % 50) (by omega)
        simp only [List.cons_append, List.nil_append, List.mem_cons] at hc
        rcases hc with e | e | e | e
        · rw [e]
          omega
        · rw [e]
          exact o1
        · rw [e]
          exact o2
        · split at e
          · rw [List.mem_singleton.mp e]
            omega
          · cases e
    · rw [if_neg i2]
      show (_ : List At).length ≤ 4 ∧ ∀ a : At, a ∈ (_ : List At) → a.Ok
      have o1 : (At.s "").Ok := ⟨by decide +kernel, by decide +kernel⟩
      have o2 : (At.i (sz (j + 1) : Int)).Ok := ⟨by omega, by omega⟩
      have o3 : (At.i 0).Ok := ⟨by decide, by decide⟩
      split
      · refine ⟨by simp, fun a ha => ?_⟩
        simp only [List.mem_cons, List.not_mem_nil, or_false] at ha
        rcases ha with e | e | e
        · rw [e]; exact o1
        · rw [e]; exact o2
        · rw [e]; exact o3
      · refine ⟨by simp, fun a ha => ?_⟩
        simp only [List.mem_cons, List.not_mem_nil, or_false] at ha
        rcases ha with e | e
        · rw [e]; exact o1
        · rw [e]; exact o2
theorem eqv_at_self (a : At) : PyData.eqv a.d a.d = true := by
  cases a <;> simp [At.d, PyData.eqv]
theorem eqv_ats_self : ∀ as : List At, PyData.eqvAll (as.map At.d) (as.map At.d) = true
  | [] => by simp [PyData.eqvAll]
  | a :: as => by simp [PyData.eqvAll, eqv_at_self a, eqv_ats_self as]
theorem eqv_kd_self (k : Kd) : PyData.eqv k.d k.d = true := by
  cases k with
  | «at» a => exact eqv_at_self a
  | tp as => simpa [Kd.d, PyData.eqv] using eqv_ats_self as
/-- equal data have equal ranks -/
theorem eqv_at {a b : At} (h : PyData.eqv a.d b.d = true) : a = b := by
  cases a <;> cases b <;> simp_all [At.d, PyData.eqv]
theorem eqv_ats : ∀ {as bs : List At}, PyData.eqvAll (as.map At.d) (bs.map At.d) = true → as = bs
  | [], [], _ => rfl
  | [], _ :: _, h => by simp [PyData.eqvAll] at h
  | _ :: _, [], h => by simp [PyData.eqvAll] at h
  | a :: as, b :: bs, h => by
    simp only [List.map_cons, PyData.eqvAll, Bool.and_eq_true] at h
    rw [eqv_at h.1, eqv_ats h.2]
theorem eqv_kd {a b : Kd} (h : PyData.eqv a.d b.d = true) : a = b := by
  cases a with
  | «at» a =>
    cases b with
    | «at» b =>
      have : a = b := eqv_at h
      rw [this]
    | tp bs => cases a <;> simp [Kd.d, At.d, PyData.eqv] at h
  | tp as =>
    cases b with
    | «at» b => cases b <;> simp [Kd.d, At.d, PyData.eqv] at h
    | tp bs =>
      simp only [Kd.d, PyData.eqv] at h
      rw [eqv_ats h]
theorem gk_grid {one two : Nat} {sz : Nat → Nat} {i : Nat} (h : i < 64) : gk (gridOf one two sz) i = gel one two sz i := by
  unfold gk gridOf
  rw [List.getElem?_map, List.getElem?_range h]
  rfl
theorem grid_ok {one two : Nat} {sz : Nat → Nat} (ot : one ≤ two) (h : SzOk sz 64) : GridOk (gridOf one two sz) where
  len := by simp [gridOf]
  ok := fun i hi => by
    rw [gk_grid hi]
    exact gel_ok h hi
  lt := fun i j hi hj => by
    rw [gk_grid hi, gk_grid hj]
    by_cases e : i < j
    · rw [decide_eq_true e]
      exact gel_lt ot h e hj
    · rw [decide_eq_false e]
      by_cases e2 : i = j
      · rw [e2]
        exact klt_self _
      · exact klt_back (gel_lt ot h (by omega) hi)
  eq := fun i j hi hj => by
    rw [gk_grid hi, gk_grid hj]
    by_cases e : i = j
    · rw [decide_eq_true e, e]
      exact eqv_kd_self _
    · rw [decide_eq_false e]
      cases c : PyData.eqv (gel one two sz i).d (gel one two sz j).d with
      | false => rfl
      | true =>
        have z := eqv_kd c
        rcases Nat.lt_or_gt_of_ne e with y | y
        · have := gel_lt ot h y hj
          rw [z, klt_self] at this
          cases this
        · have := gel_lt ot h y hi
          rw [z, klt_self] at this
          cases this
end Tw
end

section
set_option Elab.async false
set_option maxRecDepth 100000
set_option maxHeartbeats 4000000
set_option autoImplicit false
/-! the grid of keys, rows of a leaf drawn from it -/
namespace Tw
open PySem L2 Twg
abbrev s_lgrid : Stmt := top 35
theorem sc_lgrid : FnScope ["_law_well_here", "_law_signs", "_law_found", "_law_size", "_law_one", "_law_two", "_law_j"] ["_law_well_here"] (defScope s_lgrid) := ⟨rfl, rfl, rfl, by decide +kernel, rfl, by decide +kernel, by decide +kernel⟩
abbrev s_lleaf_rows : Stmt := top 36
theorem sc_lleaf_rows : FnScope ["_law_well_here", "_law_grid_here", "_law_block", "_law_rows", "_law_j"] ["_law_well_here", "_law_grid_here", "_law_block"] (defScope s_lleaf_rows) := ⟨rfl, rfl, rfl, by decide +kernel, rfl, by decide +kernel, by decide +kernel⟩
theorem str_k : Str.ofString "k" = ⟨#[107]⟩ := by decide +kernel
theorem str_a : Str.ofString "a" = ⟨#[97]⟩ := by decide +kernel
theorem gtx_eq {s m : Nat} (hm : m < 2) : (((Str.ofString "k" ++ (⟨#[sgn (s / 50)]⟩ : Str)) ++ (⟨#[sgn (s % 50)]⟩ : Str)) ++ (if (m : Int) = 0 then Str.empty else Str.ofString "a")) = gtx s m := by
  rw [str_k, str_a]
  refine PySem.W.str_of_cps ?_
  rw [gtx_cps]
  by_cases h : m = 0
  · rw [h]
    rfl
  · have : m = 1 := by omega
    rw [this]
    rfl
theorem sgs_at {i : Nat} (h : i < 55) : sgs.cps[i]? = some (sgn i) := by
  have h2 : i < sgs.cps.size := by
    rw [sgs_size]
    exact h
  unfold sgn
  rw [Array.getElem?_eq_getElem h2]
  rfl
theorem sl (a b : Str) : (a ++ b).length = a.length + b.length := Array.size_append
theorem sgs_div {n : Nat} (h : n ≤ 1280) : atI sgs.cps.toList ((n : Int) / 50) = some (sgn (n / 50)) := by
  have e : (n : Int) / 50 = ((n / 50 : Nat) : Int) := by omega
  rw [e]
  exact atI_nat (by rw [Array.getElem?_toList]; exact sgs_at (by omega))
theorem sgs_mod (n : Nat) : atI sgs.cps.toList ((n : Int) % 50) = some (sgn (n % 50)) := by
  have e : (n : Int) % 50 = ((n % 50 : Nat) : Int) := by omega
  rw [e]
  exact atI_nat (by rw [Array.getElem?_toList]; exact sgs_at (by omega))
def spGrid : Sp := fun vs H Q _ => ∃ (wl : Addr), vs = [.ref wl] ∧ WlAt H wl ∧ ∀ (G : List Kd) (gl : Addr) (gs : List V) (H' : Hp), GridOk G → Keep [wl] H H' → H gl = none → H' gl = some (.lst gs) → Paired (KdV H') gs G → Q (.ref gl) H'
section
variable {P : Program} {w : World} {K : PySem.W.Frag} {mg : Str → Option Value} {base : Heap}
theorem df_grid (B : Bas mg) (D1 : DfG P w K mg base 1 "_law_pull" ["_law_well_here", "_law_many"] spPull) (R : RawG K mg "_law_grid" s_lgrid ["_law_well_here"]) : DfG P w K mg base 2 "_law_grid" ["_law_well_here"] spGrid := by
  obtain ⟨f, fd, hm, hk, hb, F⟩ := R
  obtain ⟨_, _, m_lpull, k_lpull, b_lpull, F_lpull⟩ := D1
  refine ⟨f, fd, hm, hk, hb, F.ok sc_lgrid (fun vs H Q E h => ?_) (fun cdv A outer s H vs Q E hr h => ?_)⟩
  · obtain ⟨wl, rfl, _⟩ := h
    rfl
  · obtain ⟨wl, rfl, hw, q⟩ := h
    have hu := hu_of hr
    have nd := sc_lgrid.nd
    refine ⟨_, (pss_cons (ps_set (i := 1) nd rfl (by first | exact Or.inl rfl | exact Or.inr rfl) pe_str)
      (pss_cons (ps_set (i := 2) nd rfl (by first | exact Or.inl rfl | exact Or.inr rfl) (pe_lst pa_nil))
      (pss_cons (ps_set (i := 3) nd rfl (by first | exact Or.inl rfl | exact Or.inr rfl) pe_int)
      (pss_cons (ps_set (i := 4) nd rfl (by first | exact Or.inl rfl | exact Or.inr rfl) (pe_call (F_lpull.mono (by first | decide | omega)) hr rfl m_lpull k_lpull b_lpull .nil pass0 (pa_cons (pv 0) (pa_cons pe_int pa_nil))))
      (pss_cons (ps_set (i := 5) nd rfl (by first | exact Or.inl rfl | exact Or.inr rfl) (pe_op op_add (pv 4) (pe_call (F_lpull.mono (by first | decide | omega)) hr rfl m_lpull k_lpull b_lpull .nil pass0 (pa_cons (pv 0) (pa_cons (pe_op op_sub pe_int (pv 4)) pa_nil)))))
      (pss_cons (ps_for PassesOwn.never rfl (pi_range1 rfl B.b_range (pa_cons pe_int pa_nil)) (pg_name (i := 6) nd rfl (by first | exact Or.inl rfl | exact Or.inr rfl))
        (pss_cons (ps_set (i := 3) nd rfl (by first | exact Or.inl rfl | exact Or.inr rfl) (pe_op op_add (pe_op op_add (pv 3) pe_int) (pe_call (F_lpull.mono (by first | decide | omega)) hr rfl m_lpull k_lpull b_lpull .nil pass0 (pa_cons (pv 0) (pa_cons pe_int pa_nil)))))
        (pss_one (ps_if (pt_cmpR op_lt (pv 6) (pv 4) (nomark _))
          (pss_one (ps_expr (pe_bm PySem.F.plainAttrs_list PySem.F.slot_list_append PySem.F.type_list_append mt_append (pv 2) (pa_cons (pe_op op_sub (pv 3) pe_int) pa_nil))))
          (pss_one (ps_if (pt_cmpR op_lt (pv 6) (pv 5) (nomark _))
            (pss_one (ps_expr (pe_bm PySem.F.plainAttrs_list PySem.F.slot_list_append PySem.F.type_list_append mt_append (pv 2) (pa_cons (pe_op op_add_str (pe_op op_add_str (pe_op op_add_str pe_str (pe_ix ix_str (pv 1) (pe_op op_fdiv (pv 3) pe_int) (fun _ _ => rfl))) (pe_ix ix_str (pv 1) (pe_op op_mod (pv 3) pe_int) (fun _ _ => rfl))) (pe_op TwR.op_strRep pe_str (pe_op op_mod (pv 6) pe_int))) pa_nil))))
            (pss_one (ps_expr (pe_bm PySem.F.plainAttrs_list PySem.F.slot_list_append PySem.F.type_list_append mt_append (pv 2) (pa_cons (pe_op op_catT (pe_tup (pa_cons pe_str (pa_cons (pv 3) pa_nil))) (pe_op TwR.op_rep01 (pe_tup (pa_cons pe_int pa_nil)) (pe_op op_mod (pv 6) pe_int))) pa_nil))))))))))
      (pss_one (ps_ret (pv 2))))))))), ?_⟩
    refine ⟨szn 0, fun fa hfa => ?_⟩
    have e0 : Same H (upd H fa (.lst [])) := same_new hfa
    have h0 : upd H fa (.lst []) fa = some (.lst []) := upd_same
    have nfw : fa ≠ wl := fun z => hw.no (z ▸ hfa)
    have nfw' : fa ∉ [wl] := by simpa using nfw
    generalize upd H fa (.lst []) = H0 at e0 h0
    refine ⟨_, rfl, wl, 65, rfl, by omega, by omega, hw.same e0, fun one H1 ho k1 w1 => ?_⟩
    refine ⟨_, rfl, _, rfl, _, rfl, _, _, rfl, rfl, wl, 65 - one, ?_, by omega, by omega, w1, fun d H2 hd k2 w2 => ?_⟩
    · show [V.ref wl, V.int (65 - (one : Int))] = [V.ref wl, V.int ((65 - one : Nat) : Int)]
      have : (65 - (one : Int)) = ((65 - one : Nat) : Int) := by omega
      rw [this]
    have k02 : Keep [wl] H H2 := ((Keep.of_same e0).trans k1).trans k2
    have h2f : H2 fa = some (.lst []) := k2 _ _ (k1 _ _ h0 nfw') nfw'
    refine ⟨_, _, rfl, rfl, ?_⟩
    refine ⟨_, rfl, by decide, by decide, for_range (lo := 0) (n := 64) (fun i σ H' => ∃ (sz : Nat → Nat) (v : Option V) (xs : List V), σ = [some (.ref wl), some (.str sgs), some (.ref fa), some (.int (sz i : Int)), some (.int (one : Int)), some (.int ((one + d : Nat) : Int)), v] ∧ Keep [wl] H H' ∧ WlAt H' wl ∧
      H' fa = some (.lst xs) ∧ xs.length = i ∧ SzOk sz i ∧ Paired (KdV H') xs ((List.range i).map (gel one (one + d) sz))) ⟨fun _ => 0, none, [], rfl, k02, w2, h2f, rfl, ⟨rfl, fun _ h => absurd h (Nat.not_lt_zero _), fun _ h => absurd h (Nat.not_lt_zero _)⟩, .nil⟩ ?_ ?_⟩
    · rintro i σ H3 hi ⟨sz, v, xs, rfl, k3, w3, h3, hxl, so, hp⟩
      refine ⟨_, rfl, _, _, rfl, rfl, _, rfl, wl, 20, rfl, by omega, by omega, w3, fun r H4 hr4 k4 w4 => ?_⟩
      refine ⟨_, _, rfl, rfl, ?_⟩
      have hszi : sz i ≤ 20 * i := by
        cases i with
        | zero => rw [so.z]; omega
        | succ j => exact so.le j (by omega)
      have so' : SzOk (fset sz (i + 1) (sz i + 1 + r)) (i + 1) := by
        refine ⟨by rw [fset_ne _ _ (by omega)]; exact so.z, fun j hj => ?_, fun j hj => ?_⟩
        · by_cases ej : j = i
          · rw [ej, fset_same, fset_ne _ _ (by omega)]
            omega
          · rw [fset_ne _ _ (by omega), fset_ne _ _ (by omega)]
            exact so.up j (by omega)
        · by_cases ej : j = i
          · rw [ej, fset_same]
            omega
          · rw [fset_ne _ _ (by omega)]
            exact so.le j (by omega)
      have h4 := k4 _ _ h3 nfw'
      have k04 := k3.trans k4
      have hp4 : Paired (KdV H4) xs ((List.range i).map (gel one (one + d) sz)) := L2.Paired.mapP hp fun _ _ x => x.ts (w3.ts k4)
      have eG : (List.range (i + 1)).map (gel one (one + d) (fset sz (i + 1) (sz i + 1 + r))) = (List.range i).map (gel one (one + d) sz) ++ [gel one (one + d) (fset sz (i + 1) (sz i + 1 + r)) i] := by
        rw [List.range_succ, List.map_append]
        congr 1
        refine List.map_congr_left fun j hj => ?_
        have hj := List.mem_range.mp hj
        have : fset sz (i + 1) (sz i + 1 + r) (j + 1) = sz (j + 1) := fset_ne _ _ (by omega)
        unfold gel
        rw [this]
      have fin : ∀ (y : V) (H5 : Hp) (v : Option V), Same H4 H5 → KdV H5 y (gel one (one + d) (fset sz (i + 1) (sz i + 1 + r)) i) →
          ∃ (sz' : Nat → Nat) (v' : Option V) (ys : List V), [some (.ref wl), some (.str sgs), some (.ref fa), some (.int ((sz i + 1 + r : Nat) : Int)), some (.int (one : Int)), some (.int ((one + d : Nat) : Int)), v] = [some (.ref wl), some (.str sgs), some (.ref fa), some (.int (sz' (i + 1) : Int)), some (.int (one : Int)), some (.int ((one + d : Nat) : Int)), v'] ∧
            Keep [wl] H (upd H5 fa (.lst (xs ++ [y]))) ∧ WlAt (upd H5 fa (.lst (xs ++ [y]))) wl ∧ upd H5 fa (.lst (xs ++ [y])) fa = some (.lst ys) ∧ ys.length = i + 1 ∧ SzOk sz' (i + 1) ∧ Paired (KdV (upd H5 fa (.lst (xs ++ [y])))) ys ((List.range (i + 1)).map (gel one (one + d) sz')) := fun y H5 v e5 hy => by
        have h5 := e5 _ _ h4
        have ts5 : TS H5 (upd H5 fa (.lst (xs ++ [y]))) := ts_upd fun zs z => by
          rw [h5] at z
          cases z
        refine ⟨fset sz (i + 1) (sz i + 1 + r), v, xs ++ [y], by rw [fset_same], keep_mut (k04.trans (Keep.of_same e5)) hfa, ?_, upd_same, by rw [List.length_append, hxl]; rfl, so', ?_⟩
        · obtain ⟨a, b, c, d, ew, rest⟩ := w4.same e5
          exact ⟨a, b, c, d, by rw [upd_ne nfw.symm]; exact ew, rest⟩
        · rw [eG]
          exact paired_app (L2.Paired.mapP hp4 fun _ _ x => x.ts ((ts_same e5).trans ts5)) (.cons (hy.ts ts5) .nil)
      have hln : xs.length < sizeLine := small_lt (by omega)
      have hsv : fset sz (i + 1) (sz i + 1 + r) (i + 1) = sz i + 1 + r := fset_same _ _ _
      refine ⟨_, rfl, _, rfl, _, _, rfl, rfl, ?_⟩
      by_cases c1 : i < one
      · refine ⟨true, blT (by omega), ?_⟩
        refine ⟨_, rfl, .inl ⟨rfl, _, SqL.of h4⟩, _, rfl, _, _, rfl, rfl, fa, _, _, rfl, rfl, h4, hln, ?_⟩
        refine fin _ H4 _ (Same.refl _) ?_
        unfold gel
        rw [if_pos c1, hsv]
        exact congrArg V.int (by omega)
      · refine ⟨false, blF (by omega), iteF ?_⟩
        refine ⟨_, rfl, _, rfl, _, _, rfl, rfl, ?_⟩
        by_cases c2 : i < one + d
        · refine ⟨true, blT (by omega), ?_⟩
          have l1 : ∀ c : Nat, ((⟨#[c]⟩ : Str)).length = 1 := fun _ => rfl
          have lk : (Str.ofString "k").length = 1 := by decide +kernel
          have ls : sgs.length ≤ sizeLine := by
            have : sgs.length = 55 := sgs_size
            exact small_sz (by omega)
          have n1280 : sz i + 1 + r ≤ 1280 := by omega
          have ej : (0 + (i : Int)) % 2 = ((i % 2 : Nat) : Int) := by omega
          have jr : (if (0 + (i : Int)) % 2 = 0 then Str.empty else Str.ofString "a").length ≤ 1 := by split <;> decide +kernel
          refine ⟨_, rfl, .inl ⟨rfl, _, SqL.of h4⟩, ?_⟩
          refine ⟨_, rfl, _, rfl, _, _, rfl, rfl, ⟨by decide, by decide⟩, sgs, _, _, rfl, rfl, ls, sgs_div (n := sz i + 1 + r) n1280, _, _, rfl, rfl, small_sz (by rw [lk, l1]; omega), ?_⟩
          refine ⟨_, rfl, _, rfl, _, _, rfl, rfl, (by show (0 : Int) < 50; decide), sgs, _, _, rfl, rfl, ls, sgs_mod (sz i + 1 + r), _, _, rfl, rfl, small_sz (by rw [sl, lk, l1, l1]; omega), ?_⟩
          refine ⟨_, rfl, _, _, rfl, rfl, (by show (0 : Int) < 2; decide), _, _, rfl, rfl, (by omega), _, _, rfl, rfl, small_sz (by rw [sl, sl, lk, l1, l1]; omega), ?_⟩
          refine ⟨fa, _, _, rfl, rfl, h4, hln, ?_⟩
          refine fin _ H4 _ (Same.refl _) ?_
          unfold gel
          rw [if_neg c1, if_pos c2, hsv]
          show V.str _ = V.str _
          rw [ej]
          exact congrArg V.str (gtx_eq (by omega))
        · refine ⟨false, blF (by omega), iteF ?_⟩
          have ej : (0 + (i : Int)) % 2 = ((i % 2 : Nat) : Int) := by omega
          have hgel : gel one (one + d) (fset sz (i + 1) (sz i + 1 + r)) i = .tp (.s "" :: .i ((sz i + 1 + r : Nat) : Int) :: if i % 2 = 1 then [.i 0] else []) := by
            unfold gel
            rw [if_neg c1, if_neg c2, hsv]
          refine ⟨_, rfl, .inl ⟨rfl, _, SqL.of h4⟩, ?_⟩
          refine ⟨_, rfl, szn 2, fun p hp => ⟨szn 1, fun p2 hp2 => ?_⟩⟩
          have e5 : Same H4 (upd H4 p (.tup [.str "", .int ((sz i : Int) + 1 + (r : Int))])) := same_new hp
          have h5p : upd H4 p (.tup [.str "", .int ((sz i : Int) + 1 + (r : Int))]) p = some (.tup [.str "", .int ((sz i : Int) + 1 + (r : Int))]) := upd_same
          have e6 : Same (upd H4 p (.tup [.str "", .int ((sz i : Int) + 1 + (r : Int))])) (upd (upd H4 p (.tup [.str "", .int ((sz i : Int) + 1 + (r : Int))])) p2 (.tup [.int 0])) := same_new hp2
          have h6p := e6 _ _ h5p
          have h6q : upd (upd H4 p (.tup [.str "", .int ((sz i : Int) + 1 + (r : Int))])) p2 (.tup [.int 0]) p2 = some (.tup [.int 0]) := upd_same
          have e46 := e5.trans e6
          show tOp (rI _ _) (tVar 6) (tC (.int 2)) _ (upd (upd H4 p (.tup [.str "", .int ((sz i : Int) + 1 + (r : Int))])) p2 (.tup [.int 0])) _
          generalize upd (upd H4 p (.tup [.str "", .int ((sz i : Int) + 1 + (r : Int))])) p2 (.tup [.int 0]) = H6 at e46 h6p h6q
          refine ⟨_, rfl, _, _, rfl, rfl, (by show (0 : Int) < 2; decide), p2, _, _, rfl, rfl, SqT.of h6q, by simp, ?_⟩
          by_cases cj : i % 2 = 1
          · refine .inl ⟨by omega, p, p2, _, _, rfl, rfl, SqT.of h6p, SqT.of h6q, by simp, szn 3, (fun z => by cases z), fun _ p4 hp4 => ⟨fa, _, _, rfl, rfl, (e46.trans (same_new hp4)) _ _ h4, hln, ?_⟩⟩
            refine fin _ _ _ (e46.trans (same_new hp4)) ?_
            rw [hgel, if_pos cj]
            exact ⟨p4, rfl, upd_same⟩
          · refine .inr ⟨by omega, fun p3 hp3 => ⟨p, p3, _, _, rfl, rfl, SqT.of ((same_new hp3) _ _ h6p), SqT.of upd_same, by simp, szn 2, fun _ => ⟨fa, _, _, rfl, rfl, (e46.trans (same_new hp3)) _ _ h4, hln, ?_⟩, fun z => absurd rfl z⟩⟩
            refine fin _ _ _ (e46.trans (same_new hp3)) ?_
            rw [hgel, if_neg cj]
            exact ⟨p, rfl, (same_new hp3) _ _ h6p⟩
    · rintro σ H3 ⟨sz, v, xs, rfl, k3, w3, h3, hxl, so, hp⟩
      exact ⟨_, rfl, q _ fa xs H3 (grid_ok (Nat.le_add_right _ _) so) k3 hfa h3 hp⟩
/-- the grid on the heap -/
structure GridL (G : List Kd) (H : Hp) (gl : Addr) (gs : List V) : Prop where
  l : H gl = some (.lst gs)
  p : Paired (KdV H) gs G
theorem GridL.keep {G : List Kd} {fp : List Addr} {H H' : Hp} {gl : Addr} {gs : List V} (h : GridL G H gl gs) (k : Keep fp H H') (e : TS H H') (n : gl ∉ fp) : GridL G H' gl gs :=
  ⟨k _ _ h.l n, L2.Paired.mapP h.p fun _ _ x => x.ts e⟩
theorem GridL.same {G : List Kd} {H H' : Hp} {gl : Addr} {gs : List V} (h : GridL G H gl gs) (k : Same H H') : GridL G H' gl gs := h.keep (fp := []) (Keep.of_same k) (ts_same k) (by simp)
theorem GridL.at {G : List Kd} {H : Hp} {gl : Addr} {gs : List V} (h : GridL G H gl gs) (g : GridOk G) {i : Nat} (hi : i < 64) : ∃ v, gs[i]? = some v ∧ KdV H v (gk G i) := by
  have hl : i < G.length := by
    rw [g.len]
    exact hi
  obtain ⟨v, hv, hk⟩ := paired_get2 h.p i G[i] (List.getElem?_eq_getElem hl)
  refine ⟨v, hv, ?_⟩
  unfold gk
  rw [List.getElem?_eq_getElem hl]
  exact hk
/-- rows as data -/
def rowD (G : List Kd) (r : Nat × Kd) : PyData := .tuple [(gk G r.1).d, r.2.d]
theorem rows_dt {G : List Kd} {H : Hp} : ∀ {ys : List V} {rows : List (Nat × Kd)}, RowsV G H ys rows → DtAll H ys (rows.map (rowD G))
  | _, _, .nil => .nil
  | _, _, .cons r t => by
    obtain ⟨p, a, b, rfl, hp, ha, hb, _⟩ := r
    exact .cons (.tup hp (.cons ha.dt (.cons hb.dt .nil))) (rows_dt t)
theorem str_lay {x : Str} (h : ∀ c ∈ x.cps.toList, 32 ≤ c ∧ c ≤ 126) : PyData.strOk x = true := by
  unfold PyData.strOk
  rw [← Array.all_toList, List.all_eq_true]
  intro c hc
  have := h c hc
  simp
  omega
theorem ats_lay : ∀ as : List At, (∀ a ∈ as, a.Ok) → PyData.canLayAll0 (as.map At.d) = true ∧ PyData.depthAll (as.map At.d) = 0
  | [], _ => by simp [PyData.canLayAll0, PyData.depthAll]
  | a :: as, h => by
    have := ats_lay as fun x hx => h x (List.mem_cons.mpr (.inr hx))
    have h0 := h a (List.mem_cons.mpr (.inl rfl))
    cases a with
    | i n => simp [At.d, PyData.canLayAll0, PyData.depthAll, PyData.canLay0, PyData.depth, this]
    | s x => simp [At.d, PyData.canLayAll0, PyData.depthAll, PyData.canLay0, PyData.depth, this, str_lay h0.2]
theorem kd_lay (k : Kd) (h : k.Ok) : PyData.canLay0 k.d = true ∧ k.d.depth ≤ 1 := by
  cases k with
  | «at» a =>
    cases a with
    | i n => simp [Kd.d, At.d, PyData.canLay0, PyData.depth]
    | s x =>
      have h : x.length ≤ 40 ∧ ∀ c ∈ x.cps.toList, 32 ≤ c ∧ c ≤ 126 := h
      simp [Kd.d, At.d, PyData.canLay0, PyData.depth, str_lay h.2]
  | tp as =>
    have := ats_lay as h.2
    simp [Kd.d, PyData.canLay0, PyData.depth, this]
def RowsIn (rows : List (Nat × Kd)) : Prop := ∀ r ∈ rows, r.1 < 64 ∧ r.2.Ok
theorem RowsV.in_ {G : List Kd} {H : Hp} : ∀ {ys : List V} {rows : List (Nat × Kd)}, RowsV G H ys rows → RowsIn rows
  | _, _, .nil => fun _ h => by cases h
  | _, _, .cons r t => fun x hx => by
    obtain ⟨p, a, b, _, _, _, _, h1, h2⟩ := r
    rcases List.mem_cons.mp hx with z | z
    · rw [z]
      exact ⟨h1, h2⟩
    · exact RowsV.in_ t x z
theorem rows_lay {G : List Kd} (g : GridOk G) : ∀ rows : List (Nat × Kd), RowsIn rows → PyData.canLayAll0 (rows.map (rowD G)) = true ∧ PyData.depthAll (rows.map (rowD G)) ≤ 2
  | [], _ => by simp [PyData.canLayAll0, PyData.depthAll]
  | r :: rows, h => by
    have h0 := h r (List.mem_cons.mpr (.inl rfl))
    have h := rows_lay g rows fun x hx => h x (List.mem_cons.mpr (.inr hx))
    have h1 := kd_lay (gk G r.1) (g.ok _ h0.1)
    have h2 := kd_lay r.2 h0.2
    constructor
    · simp [rowD, PyData.canLayAll0, PyData.canLay0, h, h1, h2]
    · simp only [List.map_cons, rowD, PyData.depthAll, PyData.depth]
      omega
theorem shaped_rows {G : List Kd} (g : GridOk G) {rows : List (Nat × Kd)} (h : RowsIn rows) : SeqAt.shaped (.list (rows.map (rowD G))) = true := shaped_of (rows_lay g rows h).1 (by have := (rows_lay g rows h).2; omega)
theorem rows_nil (G : List Kd) (rows : List (Nat × Kd)) : PyData.eqv (.list (rows.map (rowD G))) (.list []) = rows.isEmpty := by
  rw [eqv_nil]
  cases rows <;> rfl
theorem rowsV_snoc {G : List Kd} {H H' : Hp} {ys : List V} {rows : List (Nat × Kd)} (h : RowsV G H ys rows) (e : TS H H') {p : Addr} {a b : V} {i : Nat} {k : Kd} (hp : H' p = some (.tup [a, b])) (ha : KdV H' a (gk G i)) (hb : KdV H' b k) (hi : i < 64) (hk : k.Ok) : RowsV G H' (ys ++ [.ref p]) (rows ++ [(i, k)]) :=
  paired_app (h.ts e) (.cons ⟨p, a, b, rfl, hp, ha, hb, hi, hk⟩ .nil)
def spLeafRows (G : List Kd) : Sp := fun vs H Q _ => ∃ (wl gl : Addr) (gs : List V) (b : Nat), vs = [.ref wl, .ref gl, .int (b : Int)] ∧ b < 16 ∧ WlAt H wl ∧ GridL G H gl gs ∧ gl ≠ wl ∧
  ∀ (l : Addr) (ys : List V) (rows : List (Nat × Kd)) (H' : Hp), Keep [wl] H H' → WlAt H' wl → H l = none → H' l = some (.lst ys) → RowsV G H' ys rows → RowsOk rows → Q (.ref l) H'
theorem df_leaf_rows {G : List Kd} (gr : GridOk G) (B : Bas mg) (D1 : DfG P w K mg base 1 "_law_pull" ["_law_well_here", "_law_many"] spPull) (R : RawG K mg "_law_leaf_rows" s_lleaf_rows ["_law_well_here", "_law_grid_here", "_law_block"]) : DfG P w K mg base 2 "_law_leaf_rows" ["_law_well_here", "_law_grid_here", "_law_block"] (spLeafRows G) := by
  obtain ⟨f, fd, hm, hk, hb, F⟩ := R
  obtain ⟨_, _, m_lpull, k_lpull, b_lpull, F_lpull⟩ := D1
  refine ⟨f, fd, hm, hk, hb, F.ok sc_lleaf_rows (fun vs H Q E h => ?_) (fun cdv A outer s H vs Q E hr h => ?_)⟩
  · obtain ⟨wl, gl, gs, b, rfl, _⟩ := h
    rfl
  · obtain ⟨wl, gl, gs, b, rfl, hb16, hw, hg, hne, q⟩ := h
    have hu := hu_of hr
    have nd := sc_lleaf_rows.nd
    refine ⟨_, (pss_cons (ps_set (i := 3) nd rfl (by first | exact Or.inl rfl | exact Or.inr rfl) (pe_lst pa_nil))
      (pss_cons (ps_for PassesOwn.never rfl (pi_range1 rfl B.b_range (pa_cons pe_int pa_nil)) (pg_name (i := 4) nd rfl (by first | exact Or.inl rfl | exact Or.inr rfl))
        (pss_one (ps_if (pt_cmpR op_gt (pe_call (F_lpull.mono (by first | decide | omega)) hr rfl m_lpull k_lpull b_lpull .nil pass0 (pa_cons (pv 0) (pa_cons pe_int pa_nil))) pe_int (nomark _))
          (pss_one (ps_expr (pe_bm PySem.F.plainAttrs_list PySem.F.slot_list_append PySem.F.type_list_append mt_append (pv 3) (pa_cons (pe_tup (pa_cons (pe_ix ix_list (pv 1) (pe_op op_add (pe_op op_mul pe_int (pv 2)) (pv 4)) (fun _ _ => rfl)) (pa_cons (pe_ix ix_list (pe_lst (pa_cons pe_int (pa_cons pe_int (pa_cons pe_str (pa_cons pe_str (pa_cons (pe_tup pa_nil) (pa_cons (pe_tup (pa_cons pe_int (pa_cons pe_str pa_nil))) pa_nil))))))) (pe_call (F_lpull.mono (by first | decide | omega)) hr rfl m_lpull k_lpull b_lpull .nil pass0 (pa_cons (pv 0) (pa_cons pe_int pa_nil))) (fun _ _ => rfl)) pa_nil))) pa_nil))))
          pss_nil)))
      (pss_cons (ps_if (pt_cmpR (op_eqD hr.units) (pv 3) (pe_lst pa_nil) (nomark _))
        (pss_one (ps_expr (pe_bm PySem.F.plainAttrs_list PySem.F.slot_list_append PySem.F.type_list_append mt_append (pv 3) (pa_cons (pe_tup (pa_cons (pe_ix ix_list (pv 1) (pe_op op_add (pe_op op_mul pe_int (pv 2)) (pe_call (F_lpull.mono (by first | decide | omega)) hr rfl m_lpull k_lpull b_lpull .nil pass0 (pa_cons (pv 0) (pa_cons pe_int pa_nil)))) (fun _ _ => rfl)) (pa_cons pe_str pa_nil))) pa_nil))))
        pss_nil)
      (pss_one (ps_ret (pv 3)))))), ?_⟩
    refine ⟨szn 0, fun fa hfa => ?_⟩
    have e0 : Same H (upd H fa (.lst [])) := same_new hfa
    have h0 : upd H fa (.lst []) fa = some (.lst []) := upd_same
    have nfw : fa ≠ wl := fun z => hw.no (z ▸ hfa)
    have nfw' : fa ∉ [wl] := by simpa using nfw
    have hne' : gl ∉ [wl] := by simpa using hne
    generalize upd H fa (.lst []) = H0 at e0 h0
    -- one row more
    have more : ∀ {H1 H2 : Hp} {ys : List V} {rows : List (Nat × Kd)} {p : Addr} {a c : V} {i : Nat} {k : Kd}, Keep [wl] H H2 → WlAt H2 wl → H2 fa = some (.lst ys) → RowsV G H1 ys rows → TS H1 H2 → H2 p = some (.tup [a, c]) → KdV H2 a (gk G i) → KdV H2 c k → i < 64 → k.Ok →
        Keep [wl] H (upd H2 fa (.lst (ys ++ [.ref p]))) ∧ WlAt (upd H2 fa (.lst (ys ++ [.ref p]))) wl ∧ RowsV G (upd H2 fa (.lst (ys ++ [.ref p]))) (ys ++ [.ref p]) (rows ++ [(i, k)]) := by
      intro H1 H2 ys rows p a c i k k2 w2 h2 hR ts hp ha hc hi hk
      have ts3 : TS H2 (upd H2 fa (.lst (ys ++ [.ref p]))) := ts_upd fun zs z => by
        rw [h2] at z
        cases z
      refine ⟨keep_mut k2 hfa, ?_, rowsV_snoc hR (ts.trans ts3) (ts3 _ _ hp) (ha.ts ts3) (hc.ts ts3) hi hk⟩
      obtain ⟨x1, x2, x3, x4, ew, rest⟩ := w2
      exact ⟨x1, x2, x3, x4, by rw [upd_ne nfw.symm]; exact ew, rest⟩
    refine ⟨_, rfl, by decide, by decide, for_range (lo := 0) (n := 4) (fun i σ H' => ∃ (v : Option V) (ys : List V) (rows : List (Nat × Kd)), σ = [some (.ref wl), some (.ref gl), some (.int (b : Int)), some (.ref fa), v] ∧ Keep [wl] H H' ∧ WlAt H' wl ∧
      H' fa = some (.lst ys) ∧ RowsV G H' ys rows ∧ rows.length ≤ i ∧ rows.Pairwise (fun a b => a.1 < b.1) ∧ ∀ r ∈ rows, r.1 < 4 * b + i) ⟨none, [], [], rfl, Keep.of_same e0, hw.same e0, h0, .nil, Nat.le_refl _, .nil, fun _ h => by cases h⟩ ?_ ?_⟩
    · rintro i σ H3 hi ⟨v, ys, rows, rfl, k3, w3, h3, hR, hl, hpw, hbd⟩
      refine ⟨_, rfl, wl, 3, rfl, by omega, by omega, w3, fun r H4 hr4 k4 w4 => ?_⟩
      have h4 := k4 _ _ h3 nfw'
      have k04 := k3.trans k4
      have hR4 := hR.ts (w3.ts k4)
      by_cases c : r = 0
      · refine ⟨_, _, rfl, rfl, false, blF (by omega), iteF ⟨_, ys, rows, rfl, k04, w4, h4, hR4, by omega, hpw, fun x hx => ?_⟩⟩
        have := hbd x hx
        omega
      · refine ⟨_, _, rfl, rfl, true, blT (by omega), ?_⟩
        have g4 := (hg.keep k04 (hw.ts k04) hne')
        obtain ⟨kv, hkv, hkk⟩ := g4.at gr (i := 4 * b + i) (by omega)
        refine ⟨_, rfl, .inl ⟨rfl, _, SqL.of h4⟩, ?_⟩
        refine ⟨_, rfl, _, rfl, _, _, rfl, rfl, .inl (by omega), _, rfl, _, _, rfl, rfl, gl, gs, _, kv, rfl, rfl, SqL.of g4.l, at_of (j := 4 * b + i) (by omega) hkv, ?_⟩
        refine ⟨szn 0, fun pe hpe => ⟨szn 2, fun pa hpa => ⟨szn 6, fun pl hpl => ?_⟩⟩⟩
        have e45 : Same H4 (upd (upd (upd H4 pe (.tup [])) pa (.tup [.int 1, .str "a"])) pl (.lst [.int 0, .int 1, .str "v", .str "", .ref pe, .ref pa])) := ((same_new hpe).trans (same_new hpa)).trans (same_new hpl)
        have h5e : upd (upd (upd H4 pe (.tup [])) pa (.tup [.int 1, .str "a"])) pl (.lst [.int 0, .int 1, .str "v", .str "", .ref pe, .ref pa]) pe = some (.tup []) := ((same_new hpa).trans (same_new hpl)) _ _ upd_same
        have h5a : upd (upd (upd H4 pe (.tup [])) pa (.tup [.int 1, .str "a"])) pl (.lst [.int 0, .int 1, .str "v", .str "", .ref pe, .ref pa]) pa = some (.tup [.int 1, .str "a"]) := (same_new hpl) _ _ upd_same
        have h5l : upd (upd (upd H4 pe (.tup [])) pa (.tup [.int 1, .str "a"])) pl (.lst [.int 0, .int 1, .str "v", .str "", .ref pe, .ref pa]) pl = some (.lst [.int 0, .int 1, .str "v", .str "", .ref pe, .ref pa]) := upd_same
        generalize upd (upd (upd H4 pe (.tup [])) pa (.tup [.int 1, .str "a"])) pl (.lst [.int 0, .int 1, .str "v", .str "", .ref pe, .ref pa]) = H5 at e45 h5e h5a h5l
        have w5 := w4.same e45
        have npl : pl ∉ [wl] := fun z => by
          rw [List.mem_singleton.mp z] at hpl
          exact (w4.same ((same_new hpe).trans (same_new hpa))).no hpl
        refine ⟨_, rfl, wl, 6, rfl, by omega, by omega, w5, fun r2 H6 hr6 k6 w6 => ?_⟩
        have h6l := k6 _ _ h5l npl
        have ts56 := w5.ts k6
        obtain ⟨vv, kk, hvv, hkv2, hko⟩ : ∃ vv kk, ([.int 0, .int 1, .str "v", .str "", .ref pe, .ref pa] : List V)[r2]? = some vv ∧ KdV H6 vv kk ∧ kk.Ok := by
          have c6 : r2 = 0 ∨ r2 = 1 ∨ r2 = 2 ∨ r2 = 3 ∨ r2 = 4 ∨ r2 = 5 := by omega
          rcases c6 with z | z | z | z | z | z <;> subst z
          · exact ⟨_, .at (.i 0), rfl, rfl, by decide, by decide⟩
          · exact ⟨_, .at (.i 1), rfl, rfl, by decide, by decide⟩
          · exact ⟨_, .at (.s "v"), rfl, rfl, by decide +kernel, by decide +kernel⟩
          · exact ⟨_, .at (.s ""), rfl, rfl, by decide +kernel, by decide +kernel⟩
          · exact ⟨_, .tp [], rfl, ⟨pe, rfl, ts56 _ _ h5e⟩, by decide, fun a ha => by cases ha⟩
          · refine ⟨_, .tp [.i 1, .s "a"], rfl, ⟨pa, rfl, ts56 _ _ h5a⟩, by decide, fun a ha => ?_⟩
            rcases List.mem_cons.mp ha with z | z
            · rw [z]
              exact ⟨by decide, by decide⟩
            · rw [List.mem_singleton.mp z]
              exact ⟨by decide +kernel, by decide +kernel⟩
        refine ⟨pl, _, _, vv, rfl, rfl, SqL.of h6l, atI_nat hvv, szn 2, fun pt hpt => ?_⟩
        have e67 : Same H6 (upd H6 pt (.tup [kv, vv])) := same_new hpt
        have ts47 : TS H4 (upd H6 pt (.tup [kv, vv])) := ((ts_same e45).trans ts56).trans (ts_same e67)
        have h7f := e67 _ _ (k6 _ _ (e45 _ _ h4) nfw')
        obtain ⟨m1, m2, m3⟩ := more (i := 4 * b + i) (k := kk) ((k04.trans (Keep.of_same e45)).trans (k6.trans (Keep.of_same e67))) (w6.same e67) h7f hR4 ts47 upd_same (hkk.ts ts47) (hkv2.ts (ts_same e67)) (by omega) hko
        have hyl := hR4.len
        refine ⟨fa, _, _, rfl, rfl, h7f, small_lt (by omega), _, _, _, rfl, m1, m2, upd_same, m3, by rw [List.length_append, List.length_singleton]; omega, ?_, fun x hx => ?_⟩
        · refine List.pairwise_append.mpr ⟨hpw, List.pairwise_singleton _ _, fun x hx y hy => ?_⟩
          rw [List.mem_singleton.mp hy]
          exact hbd x hx
        · rcases List.mem_append.mp hx with z | z
          · have := hbd x z
            omega
          · rw [List.mem_singleton.mp z]
            show 4 * b + i < 4 * b + (i + 1)
            omega
    · rintro σ H3 ⟨v, ys, rows, rfl, k3, w3, h3, hR, hl, hpw, hbd⟩
      refine ⟨_, rfl, szn 0, fun e1 he1 => ⟨_, _, .lst (SqL.of ((same_new he1) _ _ h3)) (DtAll.dp _ _ (DtAll.ts (ts_same (same_new he1)) _ _ (rows_dt hR))), nil_dp (SqL.of upd_same), shaped_rows gr hR.in_, shaped_nil, rows.isEmpty, congrArg V.bl (rows_nil G rows), ?_⟩⟩
      have e34 : Same H3 (upd H3 e1 (.lst [])) := same_new he1
      have h4 := e34 _ _ h3
      have k4 := k3.trans (Keep.of_same e34)
      have w4 := w3.same e34
      have hR4 := hR.ts (ts_same e34)
      generalize upd H3 e1 (.lst []) = H4 at e34 h4 k4 w4 hR4
      cases rows with
      | cons r0 rs =>
        refine iteF ⟨_, rfl, q fa ys _ H4 k4 w4 hfa h4 hR4 ⟨by simp, hl, hpw, fun x hx => ?_⟩⟩
        have := hbd x hx
        omega
      | nil =>
        cases hR4
        refine ⟨_, rfl, .inl ⟨rfl, _, SqL.of h4⟩, ?_⟩
        refine ⟨_, rfl, _, rfl, _, _, rfl, rfl, .inl (by omega), _, rfl, wl, 4, rfl, by omega, by omega, w4, fun r H5 hr5 k5 w5 => ?_⟩
        have k05 := k4.trans k5
        have g5 := (hg.keep k05 (hw.ts k05) hne')
        obtain ⟨kv, hkv, hkk⟩ := g5.at gr (i := 4 * b + r) (by omega)
        refine ⟨_, _, rfl, rfl, gl, gs, _, kv, rfl, rfl, SqL.of g5.l, at_of (j := 4 * b + r) (by omega) hkv, szn 2, fun pt hpt => ?_⟩
        have h5 := k5 _ _ h4 nfw'
        have e56 : Same H5 (upd H5 pt (.tup [kv, .str "w"])) := same_new hpt
        have h6 := e56 _ _ h5
        obtain ⟨m1, m2, m3⟩ := more (rows := []) (ys := []) (i := 4 * b + r) (k := .at (.s "w")) (k05.trans (Keep.of_same e56)) (w5.same e56) h6 (H1 := H5) .nil (ts_same e56) upd_same (hkk.ts (ts_same e56)) rfl (by omega) ⟨by decide +kernel, by decide +kernel⟩
        refine ⟨fa, _, _, rfl, rfl, h6, szn 0 |> fun _ => small_lt (by decide), _, rfl, q fa _ _ _ m1 m2 hfa upd_same m3 ⟨by simp, by simp, List.pairwise_singleton _ _, fun x hx => ?_⟩⟩
        rw [List.mem_singleton.mp hx]
        show 4 * b + r < 64
        omega
end
end Tw
end

section
set_option Elab.async false
set_option maxRecDepth 100000
set_option maxHeartbeats 4000000
set_option autoImplicit false
/-! the law's whole state: a shelf, its own dicts, what was told -/
namespace Tw
open PySem L2 Twg
structure LwA where
  td : Addr
  hd : Addr
  tl : Addr
  tv : Nat → V
  rl : Nat → Addr
structure Ls (G : List Kd) (H : Hp) (W : LwA) (S : Shk) : Prop where
  t : TwAt G H W.td S.ks W.tv W.rl S.tw
  h : H W.hd = some (.dK (dF S.ks fun n => .int (S.fr n : Int)))
  o : H W.tl = some (.lst (nvs (List.range S.gv)))
  th : W.td ≠ W.hd
  to : W.td ≠ W.tl
  ho : W.hd ≠ W.tl
  r : ∀ n ∈ S.ks, W.rl n ∉ [W.td, W.hd, W.tl]
theorem Ls.keep {G : List Kd} {fq : List Addr} {H H' : Hp} {W : LwA} {S : Shk} (h : Ls G H W S) (k : Keep fq H H') (e : TS H H') (n : ∀ b ∈ [W.td, W.hd, W.tl], b ∉ fq) (m : ∀ i ∈ S.ks, W.rl i ∉ fq) : Ls G H' W S :=
  ⟨h.t.keep k e (n _ (by simp)) m, k _ _ h.h (n _ (by simp)), k _ _ h.o (n _ (by simp)), h.th, h.to, h.ho, h.r⟩
theorem Ls.same {G : List Kd} {H H' : Hp} {W : LwA} {S : Shk} (h : Ls G H W S) (k : Same H H') : Ls G H' W S := h.keep (fq := []) (Keep.of_same k) (ts_same k) (fun _ _ => by simp) fun _ _ => by simp
def wfp (A : ShA) (W : LwA) (ks : List Nat) : List Addr := A.fp ks ++ [W.td, W.hd, W.tl]
def adr (A : ShA) (W : LwA) (ks : List Nat) : List Addr := wfp A W ks ++ ks.map W.rl
structure Wd (C : Addr) (G : List Kd) (H : Hp) (A : ShA) (W : LwA) (S : Shk) : Prop where
  sh : ShAt C G H A S
  ls : Ls G H W S
  d : ∀ b ∈ A.fp S.ks, b ∉ [W.td, W.hd, W.tl]
  r : ∀ n ∈ S.ks, W.rl n ∉ A.fp S.ks
section
variable {C : Addr} {G : List Kd} {H H' : Hp} {A A' : ShA} {W W' : LwA} {S S' : Shk}
theorem adr_fp {b : Addr} (h : b ∈ A.fp S.ks) : b ∈ adr A W S.ks := List.mem_append.mpr (.inl (List.mem_append.mpr (.inl h)))
theorem adr_w {b : Addr} (h : b ∈ [W.td, W.hd, W.tl]) : b ∈ adr A W S.ks := List.mem_append.mpr (.inl (List.mem_append.mpr (.inr h)))
theorem adr_r {n : Nat} (h : n ∈ S.ks) : W.rl n ∈ adr A W S.ks := List.mem_append.mpr (.inr (List.mem_map.mpr ⟨n, h, rfl⟩))
theorem adr_iff {ks : List Nat} {b : Addr} : b ∈ adr A W ks ↔ b ∈ A.fp ks ∨ b ∈ [W.td, W.hd, W.tl] ∨ ∃ n ∈ ks, b = W.rl n := by
  unfold adr wfp
  rw [List.mem_append, List.mem_append, List.mem_map]
  constructor
  · rintro ((h | h) | ⟨n, hn, e⟩)
    · exact .inl h
    · exact .inr (.inl h)
    · exact .inr (.inr ⟨n, hn, e.symm⟩)
  · rintro (h | h | ⟨n, hn, e⟩)
    · exact .inl (.inl h)
    · exact .inl (.inr h)
    · exact .inr ⟨n, hn, e.symm⟩
theorem Wd.keep {fq : List Addr} (h : Wd C G H A W S) (k : Keep fq H H') (e : TS H H') (n : ∀ b ∈ adr A W S.ks, b ∉ fq) : Wd C G H' A W S :=
  ⟨h.sh.keep k e fun b hb => n b (adr_fp hb), h.ls.keep k e (fun b hb => n b (adr_w hb)) fun i hi => n _ (adr_r hi), h.d, h.r⟩
theorem Wd.same (h : Wd C G H A W S) (k : Same H H') : Wd C G H' A W S := h.keep (fq := []) (Keep.of_same k) (ts_same k) fun _ _ => by simp
/-- each address stands, and what may change is no tuple -/
theorem Wd.there (h : Wd C G H A W S) {b : Addr} (hb : b ∈ adr A W S.ks) : ∃ o, H b = some o ∧ ∀ xs, o ≠ .tup xs := by
  rcases adr_iff.mp hb with z | z | ⟨n, hn, z⟩
  · exact h.sh.there z
  · simp only [List.mem_cons, List.not_mem_nil, or_false] at z
    rcases z with z | z | z <;> subst z
    · exact ⟨_, h.ls.t.t, fun _ y => by cases y⟩
    · exact ⟨_, h.ls.h, fun _ y => by cases y⟩
    · exact ⟨_, h.ls.o, fun _ y => by cases y⟩
  · subst z
    obtain ⟨p, kind, ws, _, _, hl, _⟩ := h.ls.t.v n hn
    exact ⟨_, hl, fun _ y => by cases y⟩
theorem Wd.out (h : Wd C G H A W S) {a : Addr} (ha : H a = none) : a ∉ adr A W S.ks := fun m => by
  obtain ⟨o, ho, _⟩ := h.there m
  rw [ha] at ho
  cases ho
theorem Wd.noTup (h : Wd C G H A W S) : ∀ b ∈ wfp A W S.ks, ∀ xs, H b ≠ some (.tup xs) := fun b hb xs e => by
  obtain ⟨o, ho, hn⟩ := h.there (List.mem_append.mpr (.inl hb))
  rw [ho] at e
  exact hn xs (Option.some.inj e)
/-- a step of the whole state -/
structure WSt (C : Addr) (G : List Kd) (H : Hp) (A : ShA) (W : LwA) (S : Shk) (H' : Hp) (A' : ShA) (W' : LwA) (S' : Shk) : Prop where
  at_ : Wd C G H' A' W' S'
  p : A'.p = A.p
  sn : A'.sn = A.sn
  td : W'.td = W.td
  hd : W'.hd = W.hd
  tl : W'.tl = W.tl
  kp : Keep (wfp A W S.ks) H H'
  nw : ∀ b ∈ adr A' W' S'.ks, b ∈ adr A W S.ks ∨ H b = none
/-- a step of the shelf leaves the law's own -/
theorem Wd.ls_stp (h : Wd C G H A W S) (st : Stp C G H A S H' A' S') : Ls G H' W S := h.ls.keep st.kp (st.kp.ts h.sh.noTup) (fun b hb z => h.d b z hb) h.r
end
/-! ### alike -/
theorem at_alk {H : Hp} (n : Nat) (a : At) : Alk H n a.v a.v := by
  cases a with
  | i m => exact .int n m
  | s x => exact .str n x
theorem kd_alk {H : Hp} (n : Nat) {a b : V} {k : Kd} (ha : KdV H a k) (hb : KdV H b k) (ok : k.Ok) : Alk H (n + 1) a b := by
  cases k with
  | «at» x =>
    have ha : a = x.v := ha
    have hb : b = x.v := hb
    rw [ha, hb]
    exact at_alk _ x
  | tp as =>
    obtain ⟨p, rfl, hp⟩ := ha
    obtain ⟨q, rfl, hq⟩ := hb
    have ok : as.length ≤ 4 ∧ _ := ok
    refine .tup hp hq rfl (by rw [List.length_map]; omega) fun i x y hx hy => ?_
    rw [hx] at hy
    cases hy
    obtain ⟨z, _, rfl⟩ := get_map hx
    exact at_alk n z
theorem row_alk {G : List Kd} (g : GridOk G) {H : Hp} (n : Nat) {v u : V} {r : Nat × Kd} (hv : RowV G H v r) (hu : RowV G H u r) : Alk H (n + 2) v u := by
  obtain ⟨p, a, b, rfl, hp, ha, hb, h64, hk⟩ := hv
  obtain ⟨q, c, d, rfl, hq, hc, hd, _, _⟩ := hu
  refine .tup hp hq rfl (by simp) fun i x y hx hy => ?_
  match i with
  | 0 =>
    cases hx
    cases hy
    exact kd_alk n ha hc (g.ok _ h64)
  | 1 =>
    cases hx
    cases hy
    exact kd_alk n hb hd hk
  | i + 2 => cases hx
theorem lab_alk {G : List Kd} (g : GridOk G) {H : Hp} (n : Nat) {v u : V} {l : Lab} (hv : LabV G H v l) (hu : LabV G H u l) (gd : l.Good) : Alk H (n + 2) v u := by
  obtain ⟨p, a, b, rfl, hp, ha, hb⟩ := hv
  obtain ⟨q, c, d, rfl, hq, hc, hd⟩ := hu
  refine .tup hp hq rfl (by simp) fun i x y hx hy => ?_
  match i with
  | 0 =>
    cases hx
    cases hy
    exact .int _ _
  | 1 =>
    cases hx
    cases hy
    exact kd_alk n ha hc (g.ok _ gd.lo64)
  | 2 =>
    cases hx
    cases hy
    exact kd_alk n hb hd (g.ok _ gd.b)
  | 3 =>
    cases hx
    cases hy
    exact .int _ _
  | i + 4 => cases hx
theorem nvs_alk {H : Hp} (n : Nat) {p q : Addr} {l : List Nat} (hp : H p = some (.tup (nvs l))) (hq : H q = some (.tup (nvs l))) (hl : l.length ≤ 100000) : Alk H (n + 1) (.ref p) (.ref q) := by
  refine .tup hp hq rfl (by rw [nvs_len]; exact hl) fun i x y hx hy => ?_
  rw [hx] at hy
  cases hy
  obtain ⟨k, _, rfl⟩ := nvs_get hx
  exact .int _ _
theorem seen_alk {G : List Kd} (g : GridOk G) {H : Hp} (n : Nat) {p q : Addr} {xs ys : List V} {k1 k2 : Str} {t : Tk} (hp : H p = some (.tup xs)) (hq : H q = some (.tup ys)) (h1 : SeenV G H k1 xs t) (h2 : SeenV G H k2 ys t) (hl : ys.length ≤ 100000) : Alk H (n + 3) (.ref p) (.ref q) := by
  cases t with
  | leaf rows =>
    refine .tup hp hq (h1.2.len.trans h2.2.len.symm) hl fun i x y hx hy => ?_
    obtain ⟨r, hr, hrv⟩ := paired_get h1.2 i x hx
    obtain ⟨r2, hr2, hrv2⟩ := paired_get h2.2 i y hy
    rw [hr] at hr2
    cases hr2
    exact row_alk g n hrv hrv2
  | stem ks =>
    obtain ⟨_, rfl⟩ := h1
    obtain ⟨_, rfl⟩ := h2
    exact nvs_alk _ hp hq (by rw [nvs_len] at hl; exact hl)
theorem seen_kind {G : List Kd} {H H' : Hp} {xs ys : List V} {k1 k2 : Str} {t : Tk} (h1 : SeenV G H k1 xs t) (h2 : SeenV G H' k2 ys t) : k1 = k2 := by
  cases t with
  | leaf rows => exact h1.1.trans h2.1.symm
  | stem ks => exact h1.1.trans h2.1.symm
theorem seen_len {G : List Kd} {H : Hp} {xs : List V} {k : Str} {ks : List Nat} {tw : Nat → Tk} {lb : Nat → Lab} (lk : Lok ks tw lb) {n : Nat} (hn : n ∈ ks) (h : SeenV G H k xs (tw n)) : xs.length ≤ 4 := by
  cases c : tw n with
  | leaf rows =>
    rw [c] at h
    rw [h.2.len]
    exact ((lk.lo n hn).leaf c).1.le
  | stem kd =>
    rw [c] at h
    rw [h.2, nvs_len]
    have := lk.kids_le hn
    rw [c] at this
    exact this
theorem ty_lst {K : PySem.W.Frag} {H : Hp} {a : Addr} {xs : List V} (h : H a = some (.lst xs)) : ∃ t : String, TyX K H (.ref a) (.type t) ∧ PySem.W.kitOne K (.type t) (.type "list") = some true :=
  ⟨"list", .base (.lst h), kit_ty (r := true) (by decide +kernel)⟩
theorem ty_bl {K : PySem.W.Frag} {H : Hp} (b : Bool) : ∃ t : String, TyX K H (.bl b) (.type t) ∧ PySem.W.kitOne K (.type t) (.type "bool") = some true :=
  ⟨"bool", .base (.bl b), kit_ty (r := true) (by decide +kernel)⟩
end Tw
end

section
set_option Elab.async false
set_option maxRecDepth 100000
set_option maxHeartbeats 4000000
set_option autoImplicit false
/-! the law's look at the whole shelf -/
namespace Tw
open PySem L2 Twg
abbrev s_lexact : Stmt := top 43
theorem sc_lexact : FnScope ["_law_shelf", "_law_twigs", "_law_holds", "_law_numbers", "_law_number", "_law_kind", "_law_what", "_law_seen", "_law_found"] ["_law_shelf", "_law_twigs", "_law_holds"] (defScope s_lexact) := ⟨rfl, rfl, rfl, by decide +kernel, rfl, by decide +kernel, by decide +kernel⟩
def spExact (C : Addr) (G : List Kd) : Sp := fun vs H Q _ => ∃ (A : ShA) (W : LwA) (S : Shk), vs = [.ref A.p, .ref W.td, .ref W.hd] ∧ Wd C G H A W S ∧ Wf S ∧ S.ks.length < 64 ∧ A.sn = [] ∧
  ∀ (H' : Hp) (A' : ShA), WSt C G H A W S H' A' W S → Q (.bl true) H'
theorem wst_of {C : Addr} {G : List Kd} {H H' : Hp} {A A' : ShA} {W W' : LwA} {S S' : Shk} (D : Wd C G H A W S) (sh : ShAt C G H' A' S') (ls : Ls G H' W' S') (p : A'.p = A.p) (sn : A'.sn = A.sn) (td : W'.td = W.td) (hd : W'.hd = W.hd) (tl : W'.tl = W.tl)
    (kp : Keep (wfp A W S.ks) H H') (nw : ∀ b ∈ A'.fp S'.ks, b ∈ A.fp S.ks ∨ H b = none) (rl : ∀ n ∈ S'.ks, (n ∈ S.ks ∧ W'.rl n = W.rl n) ∨ (H (W'.rl n) = none ∧ W'.rl n ∉ A'.fp S'.ks)) : WSt C G H A W S H' A' W' S' where
  at_ := by
    refine ⟨sh, ls, fun b hb z => ?_, fun n hn z => ?_⟩
    · rw [td, hd, tl] at z
      rcases nw b hb with y | y
      · exact D.d b y z
      · obtain ⟨o, ho, _⟩ := D.there (adr_w z)
        rw [y] at ho
        cases ho
    · rcases rl n hn with ⟨x1, x2⟩ | ⟨x1, x2⟩
      · rw [x2] at z
        rcases nw _ z with y | y
        · exact D.r n x1 y
        · obtain ⟨o, ho, _⟩ := D.there (adr_r x1)
          rw [y] at ho
          cases ho
      · exact x2 z
  p := p
  sn := sn
  td := td
  hd := hd
  tl := tl
  kp := kp
  nw := fun b hb => by
    rcases adr_iff.mp hb with z | z | ⟨n, hn, z⟩
    · exact (nw b z).imp adr_fp id
    · rw [td, hd, tl] at z
      exact .inl (adr_w z)
    · rcases rl n hn with ⟨x1, x2⟩ | ⟨x1, x2⟩
      · rw [z, x2]
        exact .inl (adr_r x1)
      · rw [z]
        exact .inr x1
section
variable {P : Program} {w : World} {K : PySem.W.Frag} {mg : Str → Option Value} {base : Heap} {G : List Kd} {C : Addr}
theorem df_exact (T : ClsT K C) (gr : GridOk G) (B : Bas mg) (D1 : DfM P w K mg base C 1 "numbers" ["self"] (spNumbers C G)) (D2 : DfG P w K mg base 6 "_law_alike" ["_law_found", "_law_due"] (spAlike 5)) (D3 : DfG P w K mg base 1 "_law_count" ["_law_found", "_law_due"] spCount)
    (D4 : DfM P w K mg base C 1 "many" ["self"] (spMany C G)) (D5 : DfM P w K mg base C 2 "look" ["self", "number"] (spLook C G)) (D6 : DfM P w K mg base C 2 "label" ["self", "number"] (spLabel C G)) (D7 : DfG P w K mg base 2 "_law_label" ["_law_twigs", "_law_number"] (spLLabel G))
    (D8 : DfM P w K mg base C 2 "outside" ["self", "number"] (spOutside C G)) (D9 : DfM P w K mg base C 2 "holders" ["self", "number"] (spHolders C G)) (D10 : DfG P w K mg base 1 "_law_above" ["_law_twigs", "_law_number"] (spLAbove G))
    (D11 : DfM P w K mg base C 4 "alone" ["self", "number"] (spAlone C G)) (D12 : DfG P w K mg base 2 "_law_shared" ["_law_twigs", "_law_holds", "_law_number"] (spLShared G)) (D13 : DfM P w K mg base C 1 "forget" ["self"] (spForget C G))
    (R : RawG K mg "_law_exact" s_lexact ["_law_shelf", "_law_twigs", "_law_holds"]) : DfG P w K mg base 7 "_law_exact" ["_law_shelf", "_law_twigs", "_law_holds"] (spExact C G) := by
  obtain ⟨f, fd, hm, hk, hb, F⟩ := R
  obtain ⟨_, _, M_numbers, b_numbers, F_numbers⟩ := D1
  obtain ⟨_, _, m_lalike, k_lalike, b_lalike, F_lalike⟩ := D2
  obtain ⟨_, _, m_lcount, k_lcount, b_lcount, F_lcount⟩ := D3
  obtain ⟨_, _, M_many, b_many, F_many⟩ := D4
  obtain ⟨_, _, M_look, b_look, F_look⟩ := D5
  obtain ⟨_, _, M_label, b_label, F_label⟩ := D6
  obtain ⟨_, _, m_llabel, k_llabel, b_llabel, F_llabel⟩ := D7
  obtain ⟨_, _, M_outside, b_outside, F_outside⟩ := D8
  obtain ⟨_, _, M_holders, b_holders, F_holders⟩ := D9
  obtain ⟨_, _, m_labove, k_labove, b_labove, F_labove⟩ := D10
  obtain ⟨_, _, M_alone, b_alone, F_alone⟩ := D11
  obtain ⟨_, _, m_lshared, k_lshared, b_lshared, F_lshared⟩ := D12
  obtain ⟨_, _, M_forget, b_forget, F_forget⟩ := D13
  refine ⟨f, fd, hm, hk, hb, F.ok sc_lexact (fun vs H Q E h => ?_) (fun cdv Ar outer s H vs Q E hr h => ?_)⟩
  · obtain ⟨A, W, S, rfl, _⟩ := h
    rfl
  · obtain ⟨A, W, S, rfl, D, wf, hlen, hsn, q⟩ := h
    have hu := hu_of hr
    have cl := T.cl
    have nd := sc_lexact.nd
    refine ⟨_, (pss_cons (ps_set (i := 3) nd rfl (by first | exact Or.inl rfl | exact Or.inr rfl) (pe_meth0 (pv 0) cl M_numbers (F_numbers.mono (by first | decide | omega)) hr b_numbers .nil pass0))
      (pss_cons (ps_if (PW.pt (pw_or (pt_not (pt_val (pe_callB call_isi (by rfl) B.b_isinstance (by decide +kernel) (pa_cons (pv 3) (pa_cons (pe_bltn (v := .ty "list") (by rfl) B.b_list (by decide +kernel) rfl) pa_nil))))) (pw_or1 (pt_not (pt_val (pe_call (F_lalike.mono (by first | decide | omega)) hr rfl m_lalike k_lalike b_lalike .nil pass0 (pa_cons (pe_callTy call_tuple_of (by rfl) B.b_tuple (by decide +kernel) (pa_cons (pv 3) pa_nil)) (pa_cons (pe_callTy call_tuple_of (by rfl) B.b_tuple (by decide +kernel) (pa_cons (pe_callB (call_sortedDI rfl) (by rfl) B.b_sorted (by decide +kernel) (pa_cons (pv 1) pa_nil)) pa_nil)) pa_nil))))))))
        (pss_one (ps_ret pe_bl))
        pss_nil)
      (pss_cons (ps_if (pt_not (pt_val (pe_call (F_lcount.mono (by first | decide | omega)) hr rfl m_lcount k_lcount b_lcount .nil pass0 (pa_cons (pe_meth0 (pv 0) cl M_many (F_many.mono (by first | decide | omega)) hr b_many .nil pass0) (pa_cons (pe_callB call_lenD (by rfl) B.b_len PySem.boot_len (pa_cons (pv 1) pa_nil)) pa_nil)))))
        (pss_one (ps_ret pe_bl))
        pss_nil)
      (pss_cons (ps_for PassesOwn.never rfl (pi_list (pv 3)) (pg_name (i := 4) nd rfl (by first | exact Or.inl rfl | exact Or.inr rfl))
        (pss_cons (ps_asg (pe_dget hu (pv 1) (pv 4) (fun _ _ => rfl)) (pg_tup rfl (pgs_cons (pg_name (i := 5) nd rfl (by first | exact Or.inl rfl | exact Or.inr rfl)) (pgs_cons (pg_name (i := 6) nd rfl (by first | exact Or.inl rfl | exact Or.inr rfl)) pgs_nil))))
        (pss_cons (ps_set (i := 7) nd rfl (by first | exact Or.inl rfl | exact Or.inr rfl) (pe_meth (pv 0) cl M_look (F_look.mono (by first | decide | omega)) hr b_look .nil pass0 (pa_cons (pv 4) pa_nil)))
        (pss_cons (ps_if (PW.pt (pw_or (pt_not (pt_val (pe_callB call_isi (by rfl) B.b_isinstance (by decide +kernel) (pa_cons (pv 7) (pa_cons (pe_bltn (v := .ty "tuple") (by rfl) B.b_tuple (by decide +kernel) rfl) pa_nil))))) (pw_or (pt_cmpR op_ne (pe_callB call_len_seq (by rfl) B.b_len PySem.boot_len (pa_cons (pv 7) pa_nil)) pe_int (nomark _)) (pw_or (pt_cmpR op_ne (pe_ix ix_tup (pv 7) pe_int (fun _ _ => rfl)) (pv 5) (nomark _)) (pw_or1 (pt_not (pt_val (pe_callB call_isi (by rfl) B.b_isinstance (by decide +kernel) (pa_cons (pe_ix ix_tup (pv 7) pe_int (fun _ _ => rfl)) (pa_cons (pe_bltn (v := .ty "list") (by rfl) B.b_list (by decide +kernel) rfl) pa_nil))))))))))
          (pss_one (ps_ret pe_bl))
          pss_nil)
        (pss_cons (ps_if (pt_not (pt_val (pe_call (F_lalike.mono (by first | decide | omega)) hr rfl m_lalike k_lalike b_lalike .nil pass0 (pa_cons (pe_callTy call_tuple_of (by rfl) B.b_tuple (by decide +kernel) (pa_cons (pe_ix ix_tup (pv 7) pe_int (fun _ _ => rfl)) pa_nil)) (pa_cons (pe_callTy call_tuple_of (by rfl) B.b_tuple (by decide +kernel) (pa_cons (pv 6) pa_nil)) pa_nil)))))
          (pss_one (ps_ret pe_bl))
          pss_nil)
        (pss_cons (ps_if (pt_not (pt_val (pe_call (F_lalike.mono (by first | decide | omega)) hr rfl m_lalike k_lalike b_lalike .nil pass0 (pa_cons (pe_meth (pv 0) cl M_label (F_label.mono (by first | decide | omega)) hr b_label .nil pass0 (pa_cons (pv 4) pa_nil)) (pa_cons (pe_call (F_llabel.mono (by first | decide | omega)) hr rfl m_llabel k_llabel b_llabel .nil pass0 (pa_cons (pv 1) (pa_cons (pv 4) pa_nil))) pa_nil)))))
          (pss_one (ps_ret pe_bl))
          pss_nil)
        (pss_cons (ps_expr (pe_bm0 PySem.F.plainAttrs_list PySem.F.slot_list_clear PySem.F.type_list_clear mt_clear (pe_ix ix_tup (pv 7) pe_int (fun _ _ => rfl))))
        (pss_cons (ps_if (pt_not (pt_val (pe_call (F_lcount.mono (by first | decide | omega)) hr rfl m_lcount k_lcount b_lcount .nil pass0 (pa_cons (pe_meth (pv 0) cl M_outside (F_outside.mono (by first | decide | omega)) hr b_outside .nil pass0 (pa_cons (pv 4) pa_nil)) (pa_cons (pe_dget hu (pv 2) (pv 4) (fun _ _ => rfl)) pa_nil)))))
          (pss_one (ps_ret pe_bl))
          pss_nil)
        (pss_cons (ps_if (pt_not (pt_val (pe_call (F_lcount.mono (by first | decide | omega)) hr rfl m_lcount k_lcount b_lcount .nil pass0 (pa_cons (pe_meth (pv 0) cl M_holders (F_holders.mono (by first | decide | omega)) hr b_holders .nil pass0 (pa_cons (pv 4) pa_nil)) (pa_cons (pe_op op_add (pe_dget hu (pv 2) (pv 4) (fun _ _ => rfl)) (pe_callB call_len_seq (by rfl) B.b_len PySem.boot_len (pa_cons (pe_call (F_labove.mono (by first | decide | omega)) hr rfl m_labove k_labove b_labove .nil pass0 (pa_cons (pv 1) (pa_cons (pv 4) pa_nil))) pa_nil))) pa_nil)))))
          (pss_one (ps_ret pe_bl))
          pss_nil)
        (pss_cons (ps_set (i := 8) nd rfl (by first | exact Or.inl rfl | exact Or.inr rfl) (pe_meth (pv 0) cl M_alone (F_alone.mono (by first | decide | omega)) hr b_alone .nil pass0 (pa_cons (pv 4) pa_nil)))
        (pss_one (ps_if (PW.pt (pw_or (pt_not (pt_val (pe_callB call_isi (by rfl) B.b_isinstance (by decide +kernel) (pa_cons (pv 8) (pa_cons (pe_bltn (v := .ty "bool") (by rfl) B.b_bool (by decide +kernel) rfl) pa_nil))))) (pw_or1 (pt_cmpR op_ne (pv 8) (pe_cmpR op_isN (pe_call (F_lshared.mono (by first | decide | omega)) hr rfl m_lshared k_lshared b_lshared .nil pass0 (pa_cons (pv 1) (pa_cons (pv 2) (pa_cons (pv 4) pa_nil)))) pe_non (nomark _)) (nomark _)))))
          (pss_one (ps_ret pe_bl))
          pss_nil))))))))))))
      (pss_cons (ps_expr (pe_bm0 PySem.F.plainAttrs_list PySem.F.slot_list_clear PySem.F.type_list_clear mt_clear (pv 3)))
      (pss_cons (ps_expr (pe_meth0 (pv 0) cl M_forget (F_forget.mono (by first | decide | omega)) hr b_forget .nil pass0))
      (pss_one (ps_ret (pe_cmpR op_eq (pe_callB call_len_seq (by rfl) B.b_len PySem.boot_len (pa_cons (pe_meth0 (pv 0) cl M_numbers (F_numbers.mono (by first | decide | omega)) hr b_numbers .nil pass0) pa_nil)) (pe_callB call_lenD (by rfl) B.b_len PySem.boot_len (pa_cons (pv 1) pa_nil)) (nomark _)))))))))), ?_⟩
    refine ⟨_, rfl, A.p, A.dx, _, rfl, D.sh.ob, fl_no _ _ (by decide +kernel), A, S, rfl, D.sh, wf.asc, hlen, fun l H1 e1 hl hl1 => ?_⟩
    have D1 := D.same e1
    obtain ⟨t1, ht1, hi1⟩ := ty_lst (K := K) hl1
    refine ⟨_, rfl, _, .ty "list", _, _, _, rfl, .ty _, ht1, hi1, _, rfl, iteF ?_⟩
    refine ⟨_, rfl, l, _, rfl, .inl ⟨SqL.of hl1, fun p1 hp1 => ?_⟩⟩
    have e2 : Same H1 (upd H1 p1 (.tup (nvs S.ks))) := same_new hp1
    have D2 := D1.same e2
    refine ⟨_, rfl, W.td, _, S.ks.map (fun k : Nat => (k : Int)), rfl, .of D2.ls.t.t, dF_keys _ _, by rw [List.length_map]; exact hlen, fun ys p hp hs hn => ?_⟩
    rw [sorted_eq hp hs (asc_int wf.asc), nvs_eq]
    refine ⟨p, _, rfl, .inl ⟨SqL.of upd_same, fun p2 hp2 => ?_⟩⟩
    have e3 : Same (upd H1 p1 (.tup (nvs S.ks))) (upd (upd (upd H1 p1 (.tup (nvs S.ks))) p (.lst (nvs S.ks))) p2 (.tup (nvs S.ks))) := (same_new hn).trans (same_new hp2)
    have h3p := e3 _ _ upd_same
    have h3q : upd (upd (upd H1 p1 (.tup (nvs S.ks))) p (.lst (nvs S.ks))) p2 (.tup (nvs S.ks)) p2 = some (.tup (nvs S.ks)) := upd_same
    have e03 := (e1.trans e2).trans e3
    have hl3 := (e2.trans e3) _ _ hl1
    refine ⟨_, _, rfl, nvs_alk 4 h3p h3q (by omega), fun H4 e4 => ?_⟩
    have e04 := e03.trans e4
    have hl4 := e4 _ _ hl3
    have D4 := D.same e04
    refine ⟨_, rfl, iteF ?_⟩
    refine ⟨_, rfl, A.p, A.dx, _, rfl, D4.sh.ob, fl_no _ _ (by decide +kernel), A, S, rfl, D4.sh, _, rfl, W.td, _, rfl, D4.ls.t.t, (S.ks.length : Int), by rw [dF_len]; rfl, _, rfl, iteF ?_⟩
    have hlo : l ∉ adr A W S.ks := D.out hl
    have sh0 : ShAt C G H4 { A with sn := nvs (S.ks.take 0) } S := by
      have := D4.sh
      cases A
      simp only at hsn
      subst hsn
      exact this
    refine ⟨_, rfl, l, rfl, ⟨_, SqL.of hl4⟩, for_it (walk_list (K := K) (a := l) (xs := nvs S.ks)) (fun i σ H' => ∃ v4 v5 v6 v7 v8, σ = [some (.ref A.p), some (.ref W.td), some (.ref W.hd), some (.ref l), v4, v5, v6, v7, v8] ∧ ShAt C G H' { A with sn := nvs (S.ks.take i) } S ∧ Ls G H' W S ∧ Keep (A.fp S.ks) H H' ∧ H' l = some (.lst (nvs S.ks)))
      ⟨_, _, _, _, _, rfl, sh0, D4.ls, Keep.of_same e04, hl4⟩ (fun i σ H' _ ⟨_, _, _, _, _, _, _, _, _, e⟩ => SqL.of e) ?_ ?_⟩
    · rintro i y σ _ H5 hi ⟨v4, v5, v6, v7, v8, rfl, D5, L5, k5, hl5⟩ ⟨rfl, hy⟩
      obtain ⟨n, hn', rfl⟩ := nvs_get hy
      have hn := List.mem_of_getElem? hn'
      obtain ⟨p, kind, ws, hv, hp, hw, hs⟩ := L5.t.v n hn
      refine ⟨_, rfl, _, rfl, W.td, _, rfl, dget L5.t.t hn, p, _, hv, SqT.of hp, rfl, _, _, rfl, _, _, rfl, rfl, ?_⟩
      refine ⟨_, rfl, A.p, A.dx, _, rfl, D5.ob, fl_no { A with sn := nvs (S.ks.take i) } _ (by decide +kernel), _, rfl, { A with sn := nvs (S.ks.take i) }, S, n, rfl, D5, hn, (by show (nvs (S.ks.take i)).length < 1000; rw [nvs_len, List.length_take]; omega), fun H6 t lw kd2 ws2 D6 k6 ht6 hw6 hlw sv6 => ?_⟩
      have D6 : ShAt C G H6 { A with sn := nvs (S.ks.take (i + 1)) } S := by
        rw [take_snoc hn', ← nvs_snoc]
        exact D6
      have k6 : Keep (A.fp S.ks) H5 H6 := k6
      have ts6 : TS H5 H6 := k6.ts D5.noTup
      have L6 := L5.keep k6 ts6 (fun b hb z => D.d b z hb) D.r
      have hp6 := ts6 _ _ hp
      have hw5 := k6 _ _ hw (D.r n hn)
      have hs6 := hs.ts ts6
      have hl6 := k6 _ _ hl5 fun z => hlo (adr_fp z)
      have k06 := k5.trans k6
      obtain ⟨ta, hta, _, _, _, htt⟩ := ty_tup (K := K) ht6
      obtain ⟨tb, htb, hti⟩ := ty_lst (K := K) hw6
      refine ⟨_, rfl, _, .ty "tuple", _, _, _, rfl, .ty _, hta, htt, _, rfl, iteF ?_⟩
      refine ⟨_, rfl, t, _, rfl, .inr (SqT.of ht6), rfl, false, blNF rfl, iteF ?_⟩
      refine ⟨_, rfl, t, _, _, _, rfl, rfl, SqT.of ht6, atI_nat (j := 0) rfl, _, rfl, rfl, false, blNF (by rw [seen_kind sv6 hs6]), iteF ?_⟩
      refine ⟨_, rfl, t, _, _, _, rfl, rfl, SqT.of ht6, atI_nat (j := 1) rfl, _, .ty "list", _, _, _, rfl, .ty _, htb, hti, _, rfl, iteF ?_⟩
      refine ⟨_, rfl, t, _, _, _, rfl, rfl, SqT.of ht6, atI_nat (j := 1) rfl, lw, ws2, rfl, .inl ⟨SqL.of hw6, fun q1 hq1 => ?_⟩⟩
      refine ⟨_, rfl, W.rl n, ws, rfl, .inl ⟨SqL.of ((same_new hq1) _ _ hw5), fun q2 hq2 => ?_⟩⟩
      have e7 : Same H6 (upd (upd H6 q1 (.tup ws2)) q2 (.tup ws)) := (same_new hq1).trans (same_new hq2)
      have h7a : upd (upd H6 q1 (.tup ws2)) q2 (.tup ws) q1 = some (.tup ws2) := (same_new hq2) _ _ upd_same
      have h7b : upd (upd H6 q1 (.tup ws2)) q2 (.tup ws) q2 = some (.tup ws) := upd_same
      refine ⟨_, _, rfl, seen_alk gr 2 h7a h7b (sv6.ts (ts_same e7)) (hs6.ts (ts_same e7)) (by have := seen_len wf.lk hn hs; omega), fun H8 e8 => ⟨_, rfl, iteF ?_⟩⟩
      have e68 := e7.trans e8
      have D8 := D6.same e68
      have L8 := L6.same e68
      refine ⟨_, rfl, A.p, A.dx, _, rfl, D8.ob, fl_no { A with sn := nvs (S.ks.take (i + 1)) } _ (by decide +kernel), _, rfl, { A with sn := nvs (S.ks.take (i + 1)) }, S, n, rfl, D8, hn, ?_⟩
      refine ⟨_, rfl, _, rfl, W.td, S.ks, W.tv, W.rl, S.tw, S.lb, n, rfl, L8.t, wf.lk, hn, fun r H9 e9 l9 => ?_⟩
      refine ⟨_, _, rfl, lab_alk gr 3 ((D8.tv n hn).ts (ts_same e9)) l9 (wf.lk.good hn), fun H10 e10 => ⟨_, rfl, iteF ?_⟩⟩
      have e610 := e68.trans (e9.trans e10)
      have ht10 := e610 _ _ ht6
      have hw10 := e610 _ _ hw6
      have D10 := D6.same e610
      have L10 := L6.same e610
      have hl10 := e610 _ _ hl6
      have k10 := k06.trans (Keep.of_same e610)
      refine ⟨_, rfl, t, _, _, _, rfl, rfl, SqT.of ht10, atI_nat (j := 1) rfl, .inl ⟨rfl, _, SqL.of hw10⟩, lw, _, rfl, rfl, hw10, ?_⟩
      have kc : Keep [lw] H10 (upd H10 lw (.lst [])) := keep_upd (List.mem_singleton.mpr rfl)
      have tsc : TS H10 (upd H10 lw (.lst [])) := ts_upd fun xs z => by
        rw [hw10] at z
        cases z
      have hlwo : ∀ b o, H5 b = some o → b ∉ [lw] := fun b o hb z => by
        rw [List.mem_singleton.mp z, hlw] at hb
        cases hb
      have D11 : ShAt C G (upd H10 lw (.lst [])) { A with sn := nvs (S.ks.take (i + 1)) } S := D10.keep kc tsc fun b hb => by
        obtain ⟨o, ho, _⟩ := D5.there (b := b) hb
        exact hlwo b o ho
      have L11 : Ls G (upd H10 lw (.lst [])) W S := L10.keep kc tsc (fun b hb => by
          simp only [List.mem_cons, List.not_mem_nil, or_false] at hb
          rcases hb with z | z | z <;> subst z
          · exact hlwo _ _ L5.t.t
          · exact hlwo _ _ L5.h
          · exact hlwo _ _ L5.o) fun m hm => by
          obtain ⟨_, _, _, _, _, hx, _⟩ := L5.t.v m hm
          exact hlwo _ _ hx
      have k11 : Keep (A.fp S.ks) H (upd H10 lw (.lst [])) := keep_mut k10 (keep_free k5 hlw fun z => by
        obtain ⟨o, ho, _⟩ := D5.there (b := lw) z
        rw [hlw] at ho
        cases ho)
      have hl11 : upd H10 lw (.lst []) l = some (.lst (nvs S.ks)) := kc _ _ hl10 (hlwo _ _ hl5)
      generalize upd H10 lw (.lst []) = H11 at D11 L11 k11 hl11
      refine ⟨_, rfl, A.p, A.dx, _, rfl, D11.ob, fl_no { A with sn := nvs (S.ks.take (i + 1)) } _ (by decide +kernel), _, rfl, { A with sn := nvs (S.ks.take (i + 1)) }, S, n, rfl, D11, hn, ?_⟩
      refine ⟨_, rfl, _, rfl, W.hd, _, rfl, dget L11.h hn, _, rfl, _, rfl, iteF ?_⟩
      refine ⟨_, rfl, A.p, A.dx, _, rfl, D11.ob, fl_no { A with sn := nvs (S.ks.take (i + 1)) } _ (by decide +kernel), _, rfl, { A with sn := nvs (S.ks.take (i + 1)) }, S, n, rfl, D11, hn, ?_⟩
      refine ⟨_, rfl, _, rfl, W.hd, _, rfl, dget L11.h hn, _, rfl, _, rfl, W.td, S.ks, W.tv, W.rl, S.tw, n, rfl, L11.t, wf.asc, hlen, fun la H12 e12 hla hla2 => ?_⟩
      refine ⟨la, _, rfl, .inl (SqL.of hla2), _, _, rfl, rfl, (((S.ab n).length + S.fr n : Nat) : Int), ?_, _, rfl, iteF ?_⟩
      · rw [nvs_len, wf.abv_len hn]
        have : (S.fr n : Int) + ((S.ab n).length : Int) = (((S.ab n).length + S.fr n : Nat) : Int) := by omega
        show [V.int _, V.int ((S.fr n : Int) + ((S.ab n).length : Int))] = _
        rw [this]
      have D12 := D11.same e12
      refine ⟨_, rfl, A.p, A.dx, _, rfl, D12.ob, fl_no { A with sn := nvs (S.ks.take (i + 1)) } _ (by decide +kernel), _, rfl, { A with sn := nvs (S.ks.take (i + 1)) }, S, n, rfl, D12, wf.toW0, hn, fun b H13 hb e13 => ?_⟩
      obtain ⟨tc, htc, hbc⟩ := ty_bl (K := K) (H := H13) b
      have e1113 := e12.trans e13
      have L13 := L11.same e1113
      have fin : ∀ H14, Same H13 H14 → ∃ v4 v5 v6 v7 v8, ([some (.ref A.p), some (.ref W.td), some (.ref W.hd), some (.ref l), some (.int (n : Int)), some (.str kind), some (.ref (W.rl n)), some (.ref t), some (.bl b)] : L2.St) = [some (.ref A.p), some (.ref W.td), some (.ref W.hd), some (.ref l), v4, v5, v6, v7, v8] ∧
          ShAt C G H14 { A with sn := nvs (S.ks.take (i + 1)) } S ∧ Ls G H14 W S ∧ Keep (A.fp S.ks) H H14 ∧ H14 l = some (.lst (nvs S.ks)) := fun H14 e14 =>
        ⟨_, _, _, _, _, rfl, D11.same (e1113.trans e14), L13.same e14, k11.trans (Keep.of_same (e1113.trans e14)), (e1113.trans e14) _ _ hl11⟩
      refine ⟨_, rfl, _, .ty "bool", _, _, _, rfl, .ty _, htc, hbc, _, rfl, iteF ?_⟩
      refine ⟨_, rfl, _, rfl, _, rfl, _, rfl, W.td, W.hd, W.tv, W.rl, S, n, rfl, L13.t, L13.h, wf.toW0, hn, hlen, fun ha H14 e14 => ⟨rfl, rfl, false, ?_, iteF (fin H14 e14)⟩, fun ha m H14 e14 => ⟨rfl, rfl, false, ?_, iteF (fin H14 e14)⟩⟩
      · rw [hb.mpr ha]
        exact blNF rfl
      · have : b = false := by
          cases c : b with
          | false => rfl
          | true => exact absurd (hb.mp c) ha
        rw [this]
        exact blNF rfl
    · rintro σ H5 ⟨v4, v5, v6, v7, v8, rfl, D5, L5, k5, hl5⟩
      refine ⟨_, rfl, .inl ⟨rfl, _, SqL.of hl5⟩, l, _, rfl, rfl, hl5, ?_⟩
      have kc : Keep [l] H5 (upd H5 l (.lst [])) := keep_upd (List.mem_singleton.mpr rfl)
      have tsc : TS H5 (upd H5 l (.lst [])) := ts_upd fun xs z => by
        rw [hl5] at z
        cases z
      have hno : ∀ b ∈ adr A W S.ks, b ∉ [l] := fun b hb z => hlo ((List.mem_singleton.mp z) ▸ hb)
      have D6 : ShAt C G (upd H5 l (.lst [])) { A with sn := nvs (S.ks.take (nvs S.ks).length) } S := D5.keep kc tsc fun b hb => hno b (adr_fp (A := A) hb)
      have L6 : Ls G (upd H5 l (.lst [])) W S := L5.keep kc tsc (fun b hb => hno b (adr_w hb)) fun m hm => hno _ (adr_r hm)
      have k6 : Keep (A.fp S.ks) H (upd H5 l (.lst [])) := keep_mut k5 hl
      generalize upd H5 l (.lst []) = H6 at D6 L6 k6
      refine ⟨_, rfl, A.p, A.dx, _, rfl, D6.ob, fl_no { A with sn := nvs (S.ks.take (nvs S.ks).length) } _ (by decide +kernel), { A with sn := nvs (S.ks.take (nvs S.ks).length) }, S, rfl, D6, fun A' H7 D7 p7 sn7 k7 nw7 => ?_⟩
      have k7 : Keep (A.fp S.ks) H6 H7 := k7
      have k07 := k6.trans k7
      have ts7 : TS H6 H7 := k7.ts D6.noTup
      have L7 := L6.keep k7 ts7 (fun b hb z => D.d b z hb) D.r
      refine ⟨_, rfl, A'.p, A'.dx, _, by rw [p7], D7.ob, fl_no _ _ (by decide +kernel), A', S, by rw [p7]; rfl, D7, wf.asc, hlen, fun l2 H8 e8 hl2 hl22 => ?_⟩
      refine ⟨l2, _, rfl, .inl (SqL.of hl22), _, rfl, W.td, _, rfl, (L7.same e8).t.t, rfl, ?_⟩
      rw [nvs_len, dF_len, decide_eq_true rfl]
      refine q H8 A' (wst_of D (D7.same e8) (L7.same e8) p7 (by rw [sn7, hsn]) rfl rfl rfl ((k07.trans (Keep.of_same e8)).mono fun b hb => List.mem_append.mpr (.inl hb)) (fun b hb => (nw7 b hb).elim .inl fun z => ?_) fun n hn => .inl ⟨hn, rfl⟩)
      by_cases c : b ∈ A.fp S.ks
      · exact .inl c
      · exact .inr (keep_free k6 z c)
end
end Tw
end

section
set_option Elab.async false
set_option maxRecDepth 100000
set_option maxHeartbeats 4000000
set_option autoImplicit false
/-! the law's deeds: a leaf put, a hold, one let go -/
namespace Tw
open PySem L2 Twg
abbrev s_lput_leaf : Stmt := top 46
theorem sc_lput_leaf : FnScope ["_law_well_here", "_law_state", "_law_block", "_law_shelf", "_law_twigs", "_law_holds", "_law_grid_here", "_law_told", "_law_rows", "_law_number"] ["_law_well_here", "_law_state", "_law_block"] (defScope s_lput_leaf) := ⟨rfl, rfl, rfl, by decide +kernel, rfl, by decide +kernel, by decide +kernel⟩
abbrev s_lheld : Stmt := top 49
theorem sc_lheld : FnScope ["_law_well_here", "_law_state", "_law_number", "_law_way", "_law_shelf", "_law_twigs", "_law_holds", "_law_grid_here", "_law_told"] ["_law_well_here", "_law_state", "_law_number", "_law_way"] (defScope s_lheld) := ⟨rfl, rfl, rfl, by decide +kernel, rfl, by decide +kernel, by decide +kernel⟩
/-- the state's tuple, the grid, the well, all apart -/
structure StAt (C : Addr) (G : List Kd) (H : Hp) (A : ShA) (W : LwA) (S : Shk) (st gl : Addr) (gs : List V) : Prop where
  w : Wd C G H A W S
  s : H st = some (.tup [.ref A.p, .ref W.td, .ref W.hd, .ref gl, .ref W.tl])
  g : GridL G H gl gs
  o : gl ∉ adr A W S.ks
theorem StAt.keep {C : Addr} {G : List Kd} {H H' : Hp} {A : ShA} {W : LwA} {S : Shk} {st gl : Addr} {gs : List V} {fq : List Addr} (h : StAt C G H A W S st gl gs) (k : Keep fq H H') (e : TS H H') (n : ∀ b ∈ adr A W S.ks, b ∉ fq) (m : gl ∉ fq) : StAt C G H' A W S st gl gs :=
  ⟨h.w.keep k e n, e _ _ h.s, h.g.keep k e m, h.o⟩
theorem StAt.same {C : Addr} {G : List Kd} {H H' : Hp} {A : ShA} {W : LwA} {S : Shk} {st gl : Addr} {gs : List V} (h : StAt C G H A W S st gl gs) (k : Same H H') : StAt C G H' A W S st gl gs := h.keep (fq := []) (Keep.of_same k) (ts_same k) (fun _ _ => by simp) (by simp)
/-- a pull leaves the state -/
theorem StAt.pull {C : Addr} {G : List Kd} {H H' : Hp} {A : ShA} {W : LwA} {S : Shk} {st gl : Addr} {gs : List V} {wl : Addr} (h : StAt C G H A W S st gl gs) (w : WlAt H wl) (k : Keep [wl] H H') (n : wl ∉ adr A W S.ks) (m : gl ≠ wl) : StAt C G H' A W S st gl gs :=
  h.keep k (w.ts k) (fun b hb z => n ((List.mem_singleton.mp z) ▸ hb)) (by simpa using m)
def tdx (W : LwA) (n : Nat) (v : V) (l : Addr) : LwA := { W with tv := fset W.tv n v, rl := fset W.rl n l }
/-- the promise of a deed: one step of the state, at most one number more -/
def spDone (C : Addr) (G : List Kd) (H : Hp) (A : ShA) (W : LwA) (S : Shk) (wl : Addr) (Q : VK) : Prop := ∀ (H' : Hp) (A' : ShA) (W' : LwA) (S' : Shk), Keep (wl :: wfp A W S.ks) H H' → (∀ b ∈ adr A' W' S'.ks, b ∈ adr A W S.ks ∨ H b = none) → Wd C G H' A' W' S' → A'.p = A.p → A'.sn = A.sn → W'.td = W.td → W'.hd = W.hd → W'.tl = W.tl → Wf S' → S'.gv ≤ S.gv + 1 → (WlAt H wl → wl ∉ adr A W S.ks → WlAt H' wl) → Q (.bl true) H'
theorem fin_of {C : Addr} {G : List Kd} {H H' : Hp} {A A' : ShA} {W W' : LwA} {S S' : Shk} {wl : Addr} {Q : VK} (q : spDone C G H A W S wl Q) (D : Wd C G H A W S) (sh : ShAt C G H' A' S') (ls : Ls G H' W' S') (p : A'.p = A.p) (sn : A'.sn = A.sn) (td : W'.td = W.td) (hd : W'.hd = W.hd) (tl : W'.tl = W.tl)
    (kp : Keep (wl :: wfp A W S.ks) H H') (nw : ∀ b ∈ A'.fp S'.ks, b ∈ A.fp S.ks ∨ H b = none) (rl : ∀ n ∈ S'.ks, (n ∈ S.ks ∧ W'.rl n = W.rl n) ∨ (H (W'.rl n) = none ∧ W'.rl n ∉ A'.fp S'.ks)) (wf : Wf S') (hg : S'.gv ≤ S.gv + 1) (wq : WlAt H wl → wl ∉ adr A W S.ks → WlAt H' wl) : Q (.bl true) H' := by
  refine q H' A' W' S' kp (fun b hb => ?_) ⟨sh, ls, fun b hb z => ?_, fun n hn z => ?_⟩ p sn td hd tl wf hg wq
  · rcases adr_iff.mp hb with z | z | ⟨n, hn, z⟩
    · exact (nw b z).imp adr_fp id
    · rw [td, hd, tl] at z
      exact .inl (adr_w z)
    · rcases rl n hn with ⟨x1, x2⟩ | ⟨x1, x2⟩
      · rw [z, x2]
        exact .inl (adr_r x1)
      · rw [z]
        exact .inr x1
  · rw [td, hd, tl] at z
    rcases nw b hb with y | y
    · exact D.d b y z
    · obtain ⟨o, ho, _⟩ := D.there (adr_w z)
      rw [y] at ho
      cases ho
  · rcases rl n hn with ⟨x1, x2⟩ | ⟨x1, x2⟩
    · rw [x2] at z
      rcases nw _ z with y | y
      · exact D.r n x1 y
      · obtain ⟨o, ho, _⟩ := D.there (adr_r x1)
        rw [y] at ho
        cases ho
    · exact x2 z
/-- one number more in the law's own -/
theorem Ls.add {G : List Kd} {H H' : Hp} {W : LwA} {S S' : Shk} {v : V} {l : Addr} (L : Ls G H W S) (k : Keep [W.td, W.hd, W.tl] H H') (ts : TS H H') (hks : S'.ks = S.ks ++ [S.gv]) (hgv : S'.gv = S.gv + 1) (tw : ∀ n ∈ S.ks, S'.tw n = S.tw n) (hg : S.gv ∉ S.ks)
    (h1 : H' W.td = some (.dK (dF (S.ks ++ [S.gv]) (fset W.tv S.gv v)))) (h2 : H' W.hd = some (.dK (dF (S.ks ++ [S.gv]) fun n => .int (S'.fr n : Int)))) (h3 : H' W.tl = some (.lst (nvs (List.range (S.gv + 1))))) (hv : LTw G H' v l (S'.tw S.gv)) (hl : l ∉ [W.td, W.hd, W.tl]) : Ls G H' (tdx W S.gv v l) S' := by
  have inn : ∀ {n : Nat}, n ∈ S'.ks → n ∈ S.ks ∨ n = S.gv := fun h => by
    rw [hks] at h
    exact (List.mem_append.mp h).imp id List.mem_singleton.mp
  have ng : ∀ {n : Nat}, n ∈ S.ks → n ≠ S.gv := fun hn e => hg (e ▸ hn)
  refine ⟨⟨by rw [hks]; exact h1, fun n hn => ?_⟩, by rw [hks]; exact h2, by rw [hgv]; exact h3, L.th, L.to, L.ho, fun n hn => ?_⟩
  · show LTw G H' (fset W.tv S.gv v n) (fset W.rl S.gv l n) (S'.tw n)
    rcases inn hn with z | z
    · rw [fset_ne _ _ (ng z), fset_ne _ _ (ng z), tw n z]
      exact (L.t.v n z).keep k ts (L.r n z)
    · rw [z, fset_same, fset_same]
      exact hv
  · show fset W.rl S.gv l n ∉ [W.td, W.hd, W.tl]
    rcases inn hn with z | z
    · rw [fset_ne _ _ (ng z)]
      exact L.r n z
    · rw [z, fset_same]
      exact hl
/-- the law's own dicts are none of the shelf's places behind a step -/
theorem Wd.apart {C : Addr} {G : List Kd} {H H' : Hp} {A A' : ShA} {W : LwA} {S S' : Shk} (D : Wd C G H A W S) (st : Stp C G H A S H' A' S') : ∀ b ∈ A'.fp S'.ks, b ∉ [W.td, W.hd, W.tl] := fun b hb z => by
  rcases st.nw b hb with y | y
  · exact D.d b y z
  · obtain ⟨o, ho, _⟩ := D.there (adr_w z)
    rw [y] at ho
    cases ho
theorem ls_noTup {G : List Kd} {H : Hp} {W : LwA} {S : Shk} (L : Ls G H W S) : ∀ b ∈ [W.td, W.hd, W.tl], ∀ xs, H b ≠ some (.tup xs) := fun b hb xs e => by
  simp only [List.mem_cons, List.not_mem_nil, or_false] at hb
  rcases hb with z | z | z <;> subst z
  · rw [L.t.t] at e
    cases e
  · rw [L.h] at e
    cases e
  · rw [L.o] at e
    cases e
/-- told, twigs, holds: one number more of each -/
theorem three {G : List Kd} {H : Hp} {W : LwA} {S : Shk} {pt : Addr} {o : HO} {x y z : HO} (L : Ls G H W S) (hp : upd H W.tl x pt = none) :
    Keep [W.td, W.hd, W.tl] H (upd (upd (upd (upd H W.tl x) pt o) W.td y) W.hd z) ∧ upd (upd (upd (upd H W.tl x) pt o) W.td y) W.hd z W.td = some y ∧ upd (upd (upd (upd H W.tl x) pt o) W.td y) W.hd z W.hd = some z ∧ upd (upd (upd (upd H W.tl x) pt o) W.td y) W.hd z W.tl = some x ∧
    upd (upd (upd (upd H W.tl x) pt o) W.td y) W.hd z pt = some o ∧ upd (upd H W.tl x) pt o W.td = H W.td ∧ upd (upd (upd H W.tl x) pt o) W.td y W.hd = H W.hd := by
  have np : pt ≠ W.tl := fun e => by
    rw [e, upd_same] at hp
    cases hp
  have hp0 : H pt = none := by
    rw [upd_ne np] at hp
    exact hp
  have nt : pt ≠ W.td := fun e => by
    rw [e, L.t.t] at hp0
    cases hp0
  have nh : pt ≠ W.hd := fun e => by
    rw [e, L.h] at hp0
    cases hp0
  refine ⟨((((keep_upd (by simp)).trans (Keep.of_same (same_new hp))).trans (keep_upd (by simp))).trans (keep_upd (by simp))), ?_, upd_same, ?_, ?_, ?_, ?_⟩
  · rw [upd_ne L.th, upd_same]
  · rw [upd_ne L.ho.symm, upd_ne L.to.symm, upd_ne np.symm, upd_same]
  · rw [upd_ne nh, upd_ne nt, upd_same]
  · rw [upd_ne nt.symm, upd_ne L.to]
  · rw [upd_ne L.th.symm, upd_ne nh.symm, upd_ne L.ho]
theorem range_snoc (n : Nat) : nvs (List.range n) ++ [.int (n : Int)] = nvs (List.range (n + 1)) := by rw [nvs_snoc, List.range_succ]
def spLPutLeaf (C : Addr) (G : List Kd) : Sp := fun vs H Q _ => ∃ (A : ShA) (W : LwA) (S : Shk) (st gl wl : Addr) (gs : List V) (b : Nat), vs = [.ref wl, .ref st, .int (b : Int)] ∧ StAt C G H A W S st gl gs ∧ Wf S ∧ S.gv < 63 ∧ b < 16 ∧ WlAt H wl ∧ wl ∉ adr A W S.ks ∧ gl ≠ wl ∧ spDone C G H A W S wl Q
section
variable {P : Program} {w : World} {K : PySem.W.Frag} {mg : Str → Option Value} {base : Heap} {G : List Kd} {C : Addr}
theorem df_lput_leaf (T : ClsT K C) (B : Bas mg) (D1 : DfG P w K mg base 2 "_law_leaf_rows" ["_law_well_here", "_law_grid_here", "_law_block"] (spLeafRows G)) (D2 : DfM P w K mg base C 7 "put_leaf" ["self", "rows"] (spPutLeaf C G K))
    (R : RawG K mg "_law_put_leaf" s_lput_leaf ["_law_well_here", "_law_state", "_law_block"]) : DfG P w K mg base 8 "_law_put_leaf" ["_law_well_here", "_law_state", "_law_block"] (spLPutLeaf C G) := by
  obtain ⟨f, fd, hm, hk, hb, F⟩ := R
  obtain ⟨_, _, m_lleaf_rows, k_lleaf_rows, b_lleaf_rows, F_lleaf_rows⟩ := D1
  obtain ⟨_, _, M_put_leaf, b_put_leaf, F_put_leaf⟩ := D2
  refine ⟨f, fd, hm, hk, hb, F.ok sc_lput_leaf (fun vs H Q E h => ?_) (fun cdv Ar outer s H vs Q E hr h => ?_)⟩
  · obtain ⟨A, W, S, st, gl, wl, gs, b, rfl, _⟩ := h
    rfl
  · obtain ⟨A, W, S, st, gl, wl, gs, b, rfl, D, wf, hgv, hb16, hw, hwo, hgw, q⟩ := h
    have hu := hu_of hr
    have cl := T.cl
    have nd := sc_lput_leaf.nd
    have hlen := wf.len
    refine ⟨_, (pss_cons (ps_asg (pv 1) (pg_tup rfl (pgs_cons (pg_name (i := 3) nd rfl (by first | exact Or.inl rfl | exact Or.inr rfl)) (pgs_cons (pg_name (i := 4) nd rfl (by first | exact Or.inl rfl | exact Or.inr rfl)) (pgs_cons (pg_name (i := 5) nd rfl (by first | exact Or.inl rfl | exact Or.inr rfl)) (pgs_cons (pg_name (i := 6) nd rfl (by first | exact Or.inl rfl | exact Or.inr rfl)) (pgs_cons (pg_name (i := 7) nd rfl (by first | exact Or.inl rfl | exact Or.inr rfl)) pgs_nil)))))))
      (pss_cons (ps_set (i := 8) nd rfl (by first | exact Or.inl rfl | exact Or.inr rfl) (pe_call (F_lleaf_rows.mono (by first | decide | omega)) hr rfl m_lleaf_rows k_lleaf_rows b_lleaf_rows .nil pass0 (pa_cons (pv 0) (pa_cons (pv 6) (pa_cons (pv 2) pa_nil)))))
      (pss_cons (ps_set (i := 9) nd rfl (by first | exact Or.inl rfl | exact Or.inr rfl) (pe_meth (pv 3) cl M_put_leaf (F_put_leaf.mono (by first | decide | omega)) hr b_put_leaf .nil pass0 (pa_cons (pe_callTy call_list_of (by rfl) B.b_list (by decide +kernel) (pa_cons (pv 8) pa_nil)) pa_nil)))
      (pss_cons (ps_if (PW.pt (pw_or (pt_not (pt_val (pe_callB call_isi (by rfl) B.b_isinstance (by decide +kernel) (pa_cons (pv 9) (pa_cons (pe_bltn (v := .ty "int") (by rfl) B.b_int (by decide +kernel) rfl) pa_nil))))) (pw_or (pt_val (pe_callB call_isi (by rfl) B.b_isinstance (by decide +kernel) (pa_cons (pv 9) (pa_cons (pe_bltn (v := .ty "bool") (by rfl) B.b_bool (by decide +kernel) rfl) pa_nil)))) (pw_or1 (pt_cmpR op_le (pv 9) (pe_callBK (TwR.cr_maxDf rfl) (by rfl) B.b_max (by decide +kernel) (pa_cons (pv 7) pa_nil) (pk_cons (pe_un un_neg pe_int) pk_nil)) (nomark _))))))
        (pss_one (ps_ret pe_bl))
        pss_nil)
      (pss_cons (ps_expr (pe_bm PySem.F.plainAttrs_list PySem.F.slot_list_append PySem.F.type_list_append mt_append (pv 7) (pa_cons (pv 9) pa_nil)))
      (pss_cons (ps_dput hu (pv 4) (pv 9) (pe_tup (pa_cons pe_str (pa_cons (pv 8) pa_nil))) rfl)
      (pss_cons (ps_dput hu (pv 5) (pv 9) pe_int rfl)
      (pss_one (ps_ret pe_bl))))))))), ?_⟩
    refine ⟨_, rfl, st, _, rfl, SqT.of D.s, rfl, _, _, rfl, _, _, rfl, _, _, rfl, _, _, rfl, _, _, rfl, rfl, ?_⟩
    refine ⟨_, rfl, _, rfl, _, rfl, wl, gl, gs, b, rfl, hb16, hw, D.g, hgw, fun lr ys rows H1 k1 w1 hlr hl1 hR ok => ?_⟩
    have D1 := D.pull hw k1 hwo hgw
    refine ⟨_, rfl, A.p, A.dx, _, rfl, D1.w.sh.ob, fl_no _ _ (by decide +kernel), _, rfl, lr, ys, rfl, .inl (SqL.of hl1), fun l2 hl2 => ?_⟩
    have e12 : Same H1 (upd H1 l2 (.lst ys)) := same_new hl2
    have D2 := D1.same e12
    have hlr2 := e12 _ _ hl1
    refine ⟨A, S, l2, ys, rows, rfl, D2.w.sh, SqL.of upd_same, hR.ts (ts_same e12), ok, wf.gv_out, by omega, fun H3 A3 stp => ?_⟩
    have D3 := stp.at_
    have L3 := D2.w.ls_stp stp
    have hlr0 := D.w.out hlr
    have hlr3 := stp.kp _ _ hlr2 fun z => hlr0 (adr_fp z)
    have hR3 : RowsV G H3 ys rows := hR.ts ((ts_same e12).trans (stp.kp.ts D2.w.sh.noTup))
    obtain ⟨t, ht, hi, hbo, _, _⟩ := ty_int (K := K) (H := H3) (S.gv : Int)
    refine ⟨_, rfl, _, .ty "int", _, _, _, rfl, .ty _, ht, hi, _, rfl, iteF ?_⟩
    refine ⟨_, rfl, _, .ty "bool", _, _, _, rfl, .ty _, ht, hbo, _, rfl, iteF ?_⟩
    refine ⟨_, rfl, _, rfl, _, rfl, W.tl, (List.range S.gv).map (fun k : Nat => (k : Int)), _, rfl, rfl, SqL.of (by rw [nvs_eq]; exact L3.o), fun m hm hle => ⟨_, _, rfl, rfl, false, blF ?_, iteF ?_⟩⟩
    · rcases hm with z | ⟨_, z⟩
      · obtain ⟨k, hk, rfl⟩ := List.mem_map.mp z
        have := List.mem_range.mp hk
        omega
      · rw [z]
        omega
    have hrl : (nvs (List.range S.gv)).length < sizeLine := by
      rw [nvs_len, List.length_range]
      exact small_lt (by omega)
    refine ⟨_, rfl, .inl ⟨rfl, _, SqL.of L3.o⟩, _, rfl, W.tl, _, _, rfl, rfl, L3.o, hrl, ?_⟩
    rw [range_snoc]
    refine ⟨_, rfl, szn 2, fun pt hpt => ?_⟩
    obtain ⟨k7, g1, g2, g3, g4, g5, g6⟩ := three (o := .tup [.str "leaf", .ref lr]) (y := .dK (dF (S.ks ++ [S.gv]) (fset W.tv S.gv (.ref pt)))) (z := .dK (dF (S.ks ++ [S.gv]) fun n => .int ((fset S.fr S.gv 1 n : Nat) : Int))) L3 hpt
    refine ⟨_, rfl, _, rfl, W.td, _, rfl, dputN (g5.trans L3.t.t) wf.gv_out (by omega), ?_⟩
    refine ⟨_, rfl, _, rfl, W.hd, _, rfl, dputN (g6.trans L3.h) wf.gv_out (by omega), ?_⟩
    have efr : dF (S.ks ++ [S.gv]) (fset (fun n => V.int (S.fr n : Int)) S.gv (.int 1)) = dF (S.ks ++ [S.gv]) fun n => .int ((fset S.fr S.gv 1 n : Nat) : Int) := dF_ext fun k _ => by
      by_cases e : k = S.gv
      · rw [e, fset_same, fset_same]
        rfl
      · rw [fset_ne _ _ e, fset_ne _ _ e]
    rw [efr]
    have ts7 := k7.ts (ls_noTup L3)
    have hlw : lr ∉ [W.td, W.hd, W.tl] := fun z => hlr0 (adr_w z)
    have hlv0 := (⟨pt, "leaf", ys, rfl, g4, k7 _ _ hlr3 hlw, rfl, hR3.ts ts7⟩ : LTw G _ (.ref pt) lr (.leaf rows))
    have etw : (S.addLeaf rows).tw S.gv = .leaf rows := fset_same _ _ _
    have L7 := L3.add (S' := S.addLeaf rows) k7 ts7 rfl rfl (fun n hn => fset_ne _ _ (wf.ne_gv hn)) wf.gv_out g1 g2 g3 (by rw [etw]; exact hlv0) hlw
    have D7 := D3.keep k7 ts7 (D2.w.apart stp)
    refine fin_of q D.w D7 L7 stp.p stp.sn rfl rfl rfl ((((k1.trans (Keep.of_same e12)).mono fun b hb => ?_).trans (stp.kp.mono fun b hb => ?_)).trans (k7.mono fun b hb => ?_)) (fun b hb => (stp.nw b hb).imp id fun z => w1.free k1 (same_free e12 z)) (fun n hn => ?_) (wf.addLeaf ok) (Nat.le_refl _) (fun _ ho => ((w1.same e12).keep stp.kp fun z => ho (adr_fp z)).keep k7 fun z => ho (adr_w z))
    · exact List.mem_cons.mpr (.inl (List.mem_singleton.mp hb))
    · exact List.mem_cons.mpr (.inr (List.mem_append.mpr (.inl hb)))
    · exact List.mem_cons.mpr (.inr (List.mem_append.mpr (.inr hb)))
    · by_cases z : n = S.gv
      · refine .inr ?_
        have er : (tdx W S.gv (.ref pt) lr).rl n = lr := by
          rw [z]
          exact fset_same _ _ _
        rw [er]
        refine ⟨hlr, fun y => ?_⟩
        rcases stp.nw _ y with x | x
        · exact hlr0 (adr_fp x)
        · rw [hlr2] at x
          cases x
      · exact .inl ⟨(List.mem_append.mp hn).elim id fun y => absurd (List.mem_singleton.mp y) z, fset_ne _ _ z⟩
/-- other holds -/
theorem Ls.holds {G : List Kd} {H : Hp} {W : LwA} {S : Shk} (L : Ls G H W S) (fr : Nat → Nat) : Ls G (upd H W.hd (.dK (dF S.ks fun m => .int (fr m : Int)))) W { S with fr := fr } := by
  have k : Keep [W.hd] H (upd H W.hd (.dK (dF S.ks fun m => .int (fr m : Int)))) := keep_upd (List.mem_singleton.mpr rfl)
  have ts : TS H (upd H W.hd (.dK (dF S.ks fun m => .int (fr m : Int)))) := ts_upd fun xs z => by
    rw [L.h] at z
    cases z
  exact ⟨L.t.keep k ts (by simpa using L.th) fun n hn z => L.r n hn (by simp at z; simp [z]), upd_same, by rw [upd_ne L.ho.symm]; exact L.o, L.th, L.to, L.ho, L.r⟩
def spHeld (C : Addr) (G : List Kd) : Sp := fun vs H Q _ => ∃ (A : ShA) (W : LwA) (S : Shk) (st gl wl : Addr) (gs : List V) (n : Nat) (way : Int), vs = [.ref wl, .ref st, .int (n : Int), .int way] ∧ StAt C G H A W S st gl gs ∧ Wf S ∧ S.gv < 63 ∧ n ∈ S.ks ∧ spDone C G H A W S wl Q
theorem df_held (T : ClsT K C) (D1 : DfM P w K mg base C 2 "hold" ["self", "number"] (spHold C G)) (D2 : DfG P w K mg base 1 "_law_swept" ["_law_twigs", "_law_holds"] (spSwept G)) (D3 : DfM P w K mg base C 2 "let_go" ["self", "number"] (spLetGo C G))
    (R : RawG K mg "_law_held" s_lheld ["_law_well_here", "_law_state", "_law_number", "_law_way"]) : DfG P w K mg base 3 "_law_held" ["_law_well_here", "_law_state", "_law_number", "_law_way"] (spHeld C G) := by
  obtain ⟨f, fd, hm, hk, hb, F⟩ := R
  obtain ⟨_, _, M_hold, b_hold, F_hold⟩ := D1
  obtain ⟨_, _, m_lswept, k_lswept, b_lswept, F_lswept⟩ := D2
  obtain ⟨_, _, M_let_go, b_let_go, F_let_go⟩ := D3
  refine ⟨f, fd, hm, hk, hb, F.ok sc_lheld (fun vs H Q E h => ?_) (fun cdv Ar outer s H vs Q E hr h => ?_)⟩
  · obtain ⟨A, W, S, st, gl, wl, gs, n, way, rfl, _⟩ := h
    rfl
  · obtain ⟨A, W, S, st, gl, wl, gs, n, way, rfl, D, wf, hgv, hn, q⟩ := h
    have hu := hu_of hr
    have cl := T.cl
    have nd := sc_lheld.nd
    have hlen := wf.len
    have L := D.w.ls
    have hno : ∀ b ∈ A.fp S.ks, b ≠ W.td ∧ b ≠ W.hd := fun b hb => by
      have := D.w.d b hb
      simp only [List.mem_cons, List.not_mem_nil, or_false, not_or] at this
      exact ⟨this.1, this.2.1⟩
    refine ⟨_, (pss_cons (ps_asg (pv 1) (pg_tup rfl (pgs_cons (pg_name (i := 4) nd rfl (by first | exact Or.inl rfl | exact Or.inr rfl)) (pgs_cons (pg_name (i := 5) nd rfl (by first | exact Or.inl rfl | exact Or.inr rfl)) (pgs_cons (pg_name (i := 6) nd rfl (by first | exact Or.inl rfl | exact Or.inr rfl)) (pgs_cons (pg_name (i := 7) nd rfl (by first | exact Or.inl rfl | exact Or.inr rfl)) (pgs_cons (pg_name (i := 8) nd rfl (by first | exact Or.inl rfl | exact Or.inr rfl)) pgs_nil)))))))
      (pss_cons (ps_if (pt_cmpR op_eq (pv 3) pe_int (nomark _))
        (pss_cons (ps_dput hu (pv 6) (pv 2) (pe_op op_add (pe_dget hu (pv 6) (pv 2) (fun _ _ => rfl)) pe_int) rfl)
        (pss_one (ps_ret (pe_cmpR op_isN (pe_meth (pv 4) cl M_hold (F_hold.mono (by first | decide | omega)) hr b_hold .nil pass0 (pa_cons (pv 2) pa_nil)) pe_non (nomark _)))))
        pss_nil)
      (pss_cons (ps_if (pt_cmpR op_eq (pe_dget hu (pv 6) (pv 2) (fun _ _ => rfl)) pe_int (nomark _))
        (pss_one (ps_ret pe_bl))
        pss_nil)
      (pss_cons (ps_dput hu (pv 6) (pv 2) (pe_op op_sub (pe_dget hu (pv 6) (pv 2) (fun _ _ => rfl)) pe_int) rfl)
      (pss_cons (ps_expr (pe_call (F_lswept.mono (by first | decide | omega)) hr rfl m_lswept k_lswept b_lswept .nil pass0 (pa_cons (pv 5) (pa_cons (pv 6) pa_nil))))
      (pss_one (ps_ret (pe_cmpR op_isN (pe_meth (pv 4) cl M_let_go (F_let_go.mono (by first | decide | omega)) hr b_let_go .nil pass0 (pa_cons (pv 2) pa_nil)) pe_non (nomark _))))))))), ?_⟩
    refine ⟨_, rfl, st, _, rfl, SqT.of D.s, rfl, _, _, rfl, _, _, rfl, _, _, rfl, _, _, rfl, _, _, rfl, rfl, ?_⟩
    refine ⟨_, rfl, rfl, ?_⟩
    have khd : ∀ o, Keep [W.td, W.hd] H (upd H W.hd o) := fun o => keep_upd (by simp)
    have tshd : ∀ o, TS H (upd H W.hd o) := fun o => ts_upd fun xs z => by
      rw [L.h] at z
      cases z
    have hfd : ∀ b ∈ A.fp S.ks, b ∉ [W.td, W.hd] := fun b hb z => by
      have := hno b hb
      simp only [List.mem_cons, List.not_mem_nil, or_false] at z
      exact z.elim this.1 this.2
    by_cases c5 : way = 5
    · refine ⟨true, blT (by rw [c5]), ?_⟩
      refine ⟨_, rfl, _, rfl, W.hd, _, rfl, dget L.h hn, _, _, rfl, rfl, _, rfl, _, rfl, W.hd, _, rfl, dput (v := .int ((S.fr n : Int) + 1)) L.h hn (by omega), ?_⟩
      have e1 : ((S.fr n : Int) + 1) = ((S.fr n + 1 : Nat) : Int) := by omega
      rw [e1, fr_put]
      have L1 := L.holds (fset S.fr n (S.fr n + 1))
      have D1 : ShAt C G _ A S := D.w.sh.keep (khd (.dK (dF S.ks fun m => .int ((fset S.fr n (S.fr n + 1) m : Nat) : Int)))) (tshd _) hfd
      have k1 := khd (.dK (dF S.ks fun m => .int ((fset S.fr n (S.fr n + 1) m : Nat) : Int)))
      refine ⟨_, rfl, A.p, A.dx, _, rfl, D1.ob, fl_no _ _ (by decide +kernel), _, rfl, A, S, n, rfl, D1, hn, by omega, fun H2 stp => ⟨rfl, ?_⟩⟩
      have L2 := L1.keep stp.kp (stp.kp.ts D1.noTup) (fun b hb z => D.w.d b z hb) D.w.r
      refine fin_of q D.w stp.at_ L2 stp.p stp.sn rfl rfl rfl ((k1.mono fun b hb => ?_).trans (stp.kp.mono fun b hb => ?_)) (fun b hb => .inl hb) (fun m hm => .inl ⟨hm, rfl⟩) (wf.hold n) (Nat.le_succ _) (fun hw ho => (hw.keep k1 fun z => ho (adr_w (by simp only [List.mem_cons, List.not_mem_nil, or_false] at z ⊢; exact z.elim .inl fun y => .inr (.inl y)))).keep stp.kp fun z => ho (adr_fp z))
      · refine List.mem_cons.mpr (.inr (List.mem_append.mpr (.inr ?_)))
        simp only [List.mem_cons, List.not_mem_nil, or_false] at hb ⊢
        exact hb.elim .inl fun z => .inr (.inl z)
      · exact List.mem_cons.mpr (.inr (List.mem_append.mpr (.inl hb)))
    refine ⟨false, blF (fun z => c5 (V.int.inj z)), iteF ?_⟩
    refine ⟨_, rfl, _, rfl, W.hd, _, rfl, dget L.h hn, rfl, ?_⟩
    by_cases c0 : S.fr n = 0
    · refine ⟨true, blT (by show V.int (S.fr n : Int) = _; rw [c0]; rfl), ?_⟩
      exact fin_of q D.w D.w.sh L rfl rfl rfl rfl rfl (Keep.refl _ _) (fun b hb => .inl hb) (fun m hm => .inl ⟨hm, rfl⟩) wf (Nat.le_succ _) (fun h _ => h)
    refine ⟨false, blF (fun z => c0 (by have z2 : ((S.fr n : Nat) : Int) = 0 := V.int.inj z; omega)), iteF ?_⟩
    refine ⟨_, rfl, _, rfl, W.hd, _, rfl, dget L.h hn, _, _, rfl, rfl, _, rfl, _, rfl, W.hd, _, rfl, dput (v := .int ((S.fr n : Int) - 1)) L.h hn (by omega), ?_⟩
    have e1 : ((S.fr n : Int) - 1) = ((S.fr n - 1 : Nat) : Int) := by omega
    rw [e1, fr_put]
    have L1 := L.holds (fset S.fr n (S.fr n - 1))
    have D1 : ShAt C G _ A S := D.w.sh.keep (khd (.dK (dF S.ks fun m => .int ((fset S.fr n (S.fr n - 1) m : Nat) : Int)))) (tshd _) hfd
    have k1 := khd (.dK (dF S.ks fun m => .int ((fset S.fr n (S.fr n - 1) m : Nat) : Int)))
    have w1 := wf.toW0.setFr n (S.fr n - 1)
    refine ⟨_, rfl, _, rfl, W.td, W.hd, W.tv, W.rl, S.setFr n (S.fr n - 1), rfl, L1.t, L1.h, L.th, w1, (by show S.ks.length < 64; omega), fun H2 kt hsub hlive ht2 hh2 k2 => ?_⟩
    have tsd : TS (upd H W.hd (.dK (dF S.ks fun m => .int ((fset S.fr n (S.fr n - 1) m : Nat) : Int)))) H2 := k2.ts fun b hb => ls_noTup L1 b (by
      simp only [List.mem_cons, List.not_mem_nil, or_false] at hb ⊢
      exact hb.elim .inl fun z => .inr (.inl z))
    have D2 := D1.keep k2 tsd hfd
    refine ⟨_, rfl, A.p, A.dx, _, rfl, D2.ob, fl_no _ _ (by decide +kernel), _, rfl, A, S, n, rfl, D2, wf, hn, c0, by omega, fun H3 ks ab stp sw => ⟨rfl, ?_⟩⟩
    obtain ⟨wf3, hl3⟩ := sw.done w1
    have ekt : kt = ks := asc_ext (List.Pairwise.sublist hsub wf.asc) (List.Pairwise.sublist sw.sub wf.asc) fun m => by rw [hlive, hl3]
    subst ekt
    have ts3 := stp.kp.ts D2.noTup
    have hout : ∀ b ∈ [W.td, W.hd, W.tl], b ∉ A.fp S.ks := fun b hb z => D.w.d b z hb
    have L3 : Ls G H3 W (shMk (S.setFr n (S.fr n - 1)) kt ab) := by
      refine ⟨⟨stp.kp _ _ ht2 (hout _ (by simp)), fun m hm => ?_⟩, stp.kp _ _ hh2 (hout _ (by simp)), stp.kp _ _ (k2 _ _ L1.o ?_) (hout _ (by simp)), L.th, L.to, L.ho, fun m hm => L.r m (hsub.subset hm)⟩
      · exact ((L1.t.v m (hsub.subset hm)).keep k2 tsd fun z => L.r m (hsub.subset hm) (by
          simp only [List.mem_cons, List.not_mem_nil, or_false] at z ⊢
          exact z.elim .inl fun z => .inr (.inl z))).keep stp.kp ts3 (D.w.r m (hsub.subset hm))
      · simp only [List.mem_cons, List.not_mem_nil, or_false, not_or]
        exact ⟨L.to.symm, L.ho.symm⟩
    have k12 : Keep [W.td, W.hd] H H2 := k1.trans k2
    refine fin_of q D.w stp.at_ L3 stp.p stp.sn rfl rfl rfl ((k12.mono fun b hb => ?_).trans (stp.kp.mono fun b hb => ?_)) (fun b hb => .inl (fp_sub hsub b hb)) (fun m hm => .inl ⟨hsub.subset hm, rfl⟩) wf3 (Nat.le_succ _) (fun hw ho => (hw.keep k12 fun z => ho (adr_w (by simp only [List.mem_cons, List.not_mem_nil, or_false] at z ⊢; exact z.elim .inl fun y => .inr (.inl y)))).keep stp.kp fun z => ho (adr_fp z))
    · refine List.mem_cons.mpr (.inr (List.mem_append.mpr (.inr ?_)))
      simp only [List.mem_cons, List.not_mem_nil, or_false] at hb ⊢
      exact hb.elim .inl fun z => .inr (.inl z)
    · exact List.mem_cons.mpr (.inr (List.mem_append.mpr (.inl hb)))
end
end Tw
end

section
set_option Elab.async false
set_option maxRecDepth 100000
set_option maxHeartbeats 4000000
set_option autoImplicit false
/-! the law's runs of twigs, a stem put -/
namespace Tw
open PySem L2 Twg
abbrev s_lrun : Stmt := top 45
theorem sc_lrun : FnScope ["_law_well_here", "_law_twigs", "_law_holds", "_law_grid_here", "_law_some", "_law_run_here", "_law_last", "_law_at", "_law_most", "_law_labels", "_law_low", "_law_top", "_law_number", "_law_label_here"] ["_law_well_here", "_law_twigs", "_law_holds", "_law_grid_here"] (defScope s_lrun) := ⟨rfl, rfl, rfl, by decide +kernel, rfl, by decide +kernel, by decide +kernel⟩
abbrev s_lput_stem : Stmt := top 48
theorem sc_lput_stem : FnScope ["_law_well_here", "_law_state", "_law_shelf", "_law_twigs", "_law_holds", "_law_grid_here", "_law_told", "_law_numbers", "_law_number", "_law_one"] ["_law_well_here", "_law_state"] (defScope s_lput_stem) := ⟨rfl, rfl, rfl, by decide +kernel, rfl, by decide +kernel, by decide +kernel⟩
theorem units65 {A : Around} {k : Nat} (r : Room k A) : A.units + 65 < cLine := by
  have := r.un
  omega
theorem pe_bmL {X : Cx} {K : PySem.W.Frag} {T : String} {name : Str} {o : Expr} {to : TE} {e : Expr} {es : List Expr} {t : TA} {apos cpos : Pos} {r : V → List V → Hp → VK → Prop} (hp : PE X (.Call (.Attribute o name apos) (e :: es) [] cpos) (tBM X.K T r to t)) (h : X.K = K := by rfl) : PE X (.Call (.Attribute o name apos) (e :: es) [] cpos) (tBM K T r to t) := by
  rw [← h]
  exact hp
theorem grid_dt {H : Hp} : ∀ {gs : List V} {G : List Kd}, Paired (KdV H) gs G → DtAll H gs (G.map Kd.d)
  | _, _, .nil => .nil
  | _, _, .cons r t => .cons r.dt (grid_dt t)
theorem kds_lay : ∀ {G : List Kd}, (∀ k ∈ G, k.Ok) → PyData.canLayAll0 (G.map Kd.d) = true ∧ PyData.depthAll (G.map Kd.d) ≤ 1
  | [], _ => by simp [PyData.canLayAll0, PyData.depthAll]
  | k :: G, h => by
    have h0 := kd_lay k (h k (List.mem_cons.mpr (.inl rfl)))
    have h1 := kds_lay (G := G) fun x hx => h x (List.mem_cons.mpr (.inr hx))
    constructor
    · simp [PyData.canLayAll0, h0, h1]
    · simp only [List.map_cons, PyData.depthAll]
      omega
theorem gk_get {G : List Kd} {j : Nat} {k : Kd} (h : G[j]? = some k) : gk G j = k := by
  unfold gk
  rw [h]
  rfl
theorem index_parts {K : PySem.W.Frag} {G : List Kd} (gr : GridOk G) {H : Hp} {gl : Addr} {gs : List V} (g : GridL G H gl gs) {y : V} {i : Nat} (hi : i < 64) (hy : KdV H y (gk G i)) :
    ∃ (d : PyData) (ds : List PyData) (z : PyData), Dp K H (V.ref gl) (.list ds) ∧ Dp K H y d ∧ SeqAt.shaped (.list ds) = true ∧ SeqAt.shaped d = true ∧ ds[i]? = some z ∧ PyData.eqv z d = true ∧ (∀ (m : Nat) (z' : PyData), m < i → ds[m]? = some z' → PyData.eqv z' d = false) := by
  have hlen : i < G.length := by
    rw [gr.len]
    exact hi
  have hok : ∀ k ∈ G, k.Ok := fun k hk => by
    obtain ⟨j, hj⟩ := List.getElem?_of_mem hk
    have hjl := lt_of_get hj
    rw [gr.len] at hjl
    rw [← gk_get hj]
    exact gr.ok j hjl
  have hl := kds_lay hok
  have hl1 := kd_lay (gk G i) (gr.ok i hi)
  refine ⟨(gk G i).d, G.map Kd.d, (gk G i).d, .lst (SqL.of g.l) (DtAll.dp _ _ (grid_dt g.p)), Dt.dp _ _ hy.dt, shaped_of hl.1 (by have := hl.2; omega), ?_, ?_, eqv_kd_self _, fun m z hm hz => ?_⟩
  · unfold SeqAt.shaped
    rw [Bool.and_eq_true, decide_eq_true_eq]
    exact ⟨hl1.1, by have := hl1.2; omega⟩
  · rw [List.getElem?_map, List.getElem?_eq_getElem hlen]
    show some _ = some _
    rw [gk_get (List.getElem?_eq_getElem hlen)]
  · obtain ⟨k, hk, rfl⟩ := get_map hz
    rw [← gk_get hk, gr.eq m i (by omega) hi]
    exact decide_eq_false (by omega)
def LbN (G : List Kd) (lb : Nat → Lab) (ks : List Nat) (H : Hp) (v : V) (n : Nat) : Prop := ∃ p y, v = .ref p ∧ H p = some (.tup [y, .int (n : Int)]) ∧ LabV G H y (lb n) ∧ n ∈ ks
theorem LbN.ts {G : List Kd} {lb : Nat → Lab} {ks : List Nat} {H H' : Hp} (e : TS H H') {v : V} {n : Nat} (h : LbN G lb ks H v n) : LbN G lb ks H' v n := by
  obtain ⟨p, y, x1, x2, x3, x4⟩ := h
  exact ⟨p, y, x1, e _ _ x2, x3.ts e, x4⟩
def spRun (G : List Kd) (K : PySem.W.Frag) : Sp := fun vs H Q _ => ∃ (wl td hd gl : Addr) (gs : List V) (tv : Nat → V) (rl : Nat → Addr) (S : Shk), vs = [.ref wl, .ref td, .ref hd, .ref gl] ∧ WlAt H wl ∧ TwAt G H td S.ks tv rl S.tw ∧ H hd = some (.dK (dF S.ks fun n => .int (S.fr n : Int))) ∧ GridL G H gl gs ∧ W0 S ∧ S.ks ≠ [] ∧ S.ks.length < 64 ∧ S.gv ≤ 64 ∧
  wl ≠ td ∧ wl ≠ hd ∧ wl ≠ gl ∧ (∀ n ∈ S.ks, wl ≠ rl n) ∧
  ∀ (l : Addr) (ns : List Nat) (H' : Hp), Keep [wl] H H' → WlAt H' wl → H l = none → H' l = some (.lst (nvs ns)) → (∀ n ∈ ns, n ∈ S.ks) → ns.length ≤ 64 → Q (.ref l) H'
section
variable {P : Program} {w : World} {K : PySem.W.Frag} {mg : Str → Option Value} {base : Heap} {G : List Kd} {C : Addr}
theorem df_run (gr : GridOk G) (B : Bas mg) (D1 : DfG P w K mg base 1 "_law_pull" ["_law_well_here", "_law_many"] spPull) (D2 : DfG P w K mg base 2 "_law_picked" ["_law_well_here", "_law_some"] (spPicked K)) (D3 : DfG P w K mg base 2 "_law_label" ["_law_twigs", "_law_number"] (spLLabel G))
    (R : RawG K mg "_law_run" s_lrun ["_law_well_here", "_law_twigs", "_law_holds", "_law_grid_here"]) : DfG P w K mg base 3 "_law_run" ["_law_well_here", "_law_twigs", "_law_holds", "_law_grid_here"] (spRun G K) := by
  obtain ⟨f, fd, hm, hk, hb, F⟩ := R
  obtain ⟨_, _, m_lpull, k_lpull, b_lpull, F_lpull⟩ := D1
  obtain ⟨_, _, m_lpicked, k_lpicked, b_lpicked, F_lpicked⟩ := D2
  obtain ⟨_, _, m_llabel, k_llabel, b_llabel, F_llabel⟩ := D3
  refine ⟨f, fd, hm, hk, hb, F.ok sc_lrun (fun vs H Q E h => ?_) (fun cdv Ar outer s H vs Q E hr h => ?_)⟩
  · obtain ⟨wl, td, hd, gl, gs, tv, rl, S, rfl, _⟩ := h
    rfl
  · obtain ⟨wl, td, hd, gl, gs, tv, rl, S, rfl, hw, D, hf, hg, wf, hne, hlen, hgv, n1, n2, n3, n4, q⟩ := h
    have hu := hu_of hr
    have nd := sc_lrun.nd
    refine ⟨_, (pss_cons (ps_setLc (i := 4) (own := [("_law_number", 12)]) (g := (gName 12)) (by rfl) nd rfl rfl (sw_true rfl rfl rfl (by decide +kernel)) (pi_list (pe_callB (call_sortedDI rfl) (by rfl) B.b_sorted (by decide +kernel) (pa_cons (pv 1) pa_nil))) (blkOk_by (N := ["_law_well_here", "_law_twigs", "_law_holds", "_law_grid_here", "_law_some", "_law_run_here", "_law_last", "_law_at", "_law_most", "_law_labels", "_law_low", "_law_top", "_law_number", "_law_label_here"]) (sc := defScope s_lrun) (by decide +kernel)) (fun _ _ _ _ _ => (pg_name (i := 12) nd rfl (by first | exact Or.inl rfl | exact Or.inr rfl))) (fun _ _ _ _ _ => (pts_one (pt_cmpR op_gt (pe_dget hu (pv 2) (pv 12) (fun _ _ => rfl)) pe_int (nomark _)))) (fun _ _ _ _ _ => (pv 12)))
      (Evl.pss_cut (ps_if (PW.pt (pw_or (pt_cmpR op_eq (pe_call (F_lpull.mono (by first | decide | omega)) hr rfl m_lpull k_lpull b_lpull .nil pass0 (pa_cons (pv 0) (pa_cons pe_int pa_nil))) pe_int (nomark _)) (pw_or1 (pt_cmpR (op_eqD hr.units) (pv 4) (pe_lst pa_nil) (nomark _)))))
        (pss_one (ps_set (i := 4) nd rfl (by first | exact Or.inl rfl | exact Or.inr rfl) (pe_callB (call_sortedDI rfl) (by rfl) B.b_sorted (by decide +kernel) (pa_cons (pv 1) pa_nil))))
        pss_nil)
      (pss_cons (ps_set (i := 5) nd rfl (by first | exact Or.inl rfl | exact Or.inr rfl) (pe_lst (pa_cons (pe_call (F_lpicked.mono (by first | decide | omega)) hr rfl m_lpicked k_lpicked b_lpicked .nil pass0 (pa_cons (pv 0) (pa_cons (pv 4) pa_nil))) pa_nil)))
      (pss_cons (ps_set (i := 6) nd rfl (by first | exact Or.inl rfl | exact Or.inr rfl) (pe_call (F_llabel.mono (by first | decide | omega)) hr rfl m_llabel k_llabel b_llabel .nil pass0 (pa_cons (pv 1) (pa_cons (pe_ix ix_list (pv 5) pe_int (fun _ _ => rfl)) pa_nil))))
      (pss_cons (ps_set (i := 7) nd rfl (by first | exact Or.inl rfl | exact Or.inr rfl) (pe_bm PySem.F.plainAttrs_list PySem.F.slot_list_index PySem.F.type_list_index (mt_indexD (units65 hr)) (pv 3) (pa_cons (pe_ix ix_tup (pv 6) pe_int (fun _ _ => rfl)) pa_nil)))
      (pss_cons (ps_set (i := 8) nd rfl (by first | exact Or.inl rfl | exact Or.inr rfl) (pe_op op_add pe_int (pe_call (F_lpull.mono (by first | decide | omega)) hr rfl m_lpull k_lpull b_lpull .nil pass0 (pa_cons (pv 0) (pa_cons pe_int pa_nil)))))
      (pss_cons (ps_setLc (i := 9) (own := [("_law_number", 12)]) (g := (gName 12)) (by rfl) nd rfl rfl (sw_true rfl rfl rfl (by decide +kernel)) (pi_list (pv 4)) (blkOk_by (N := ["_law_well_here", "_law_twigs", "_law_holds", "_law_grid_here", "_law_some", "_law_run_here", "_law_last", "_law_at", "_law_most", "_law_labels", "_law_low", "_law_top", "_law_number", "_law_label_here"]) (sc := defScope s_lrun) (by decide +kernel)) (fun _ _ _ _ _ => (pg_name (i := 12) nd rfl (by first | exact Or.inl rfl | exact Or.inr rfl))) (fun _ _ _ _ _ => pts_nil) (fun _ _ _ _ _ => (pe_tup (pa_cons (pe_call (F_llabel.mono (by first | decide | omega)) hr rfl m_llabel k_llabel b_llabel .nil pass0 (pa_cons (pv 1) (pa_cons (pv 12) pa_nil))) (pa_cons (pv 12) pa_nil)))))
      (pss_cons (ps_setLc (i := 4) (own := [("_law_label_here", 13), ("_law_number", 12)]) (g := (gTup K 2 (gCons (gName 13) (gCons (gName 12) gNil)))) (by rfl) nd rfl rfl (sw_true rfl rfl rfl (by decide +kernel)) (pi_list (pv 9)) (blkOk_by (N := ["_law_well_here", "_law_twigs", "_law_holds", "_law_grid_here", "_law_some", "_law_run_here", "_law_last", "_law_at", "_law_most", "_law_labels", "_law_low", "_law_top", "_law_number", "_law_label_here"]) (sc := defScope s_lrun) (by decide +kernel)) (fun _ _ _ _ _ => (pg_tup rfl (pgs_cons (pg_name (i := 13) nd rfl (by first | exact Or.inl rfl | exact Or.inr rfl)) (pgs_cons (pg_name (i := 12) nd rfl (by first | exact Or.inl rfl | exact Or.inr rfl)) pgs_nil)))) (fun _ _ _ _ _ => (pts_one (pt_cmpR op_eq (pe_ix (ix_tupK (K := K)) (pv 13) pe_int (fun _ _ => rfl)) (pe_ix (ix_tupK (K := K)) (pv 6) pe_int (fun _ _ => rfl)) (nomark _)))) (fun _ _ _ _ _ => (pe_tup (pa_cons (pe_bmL (K := K) (pe_bm PySem.F.plainAttrs_list PySem.F.slot_list_index PySem.F.type_list_index (mt_indexDK (K := K) (units65 hr)) (pv 3) (pa_cons (pe_ix (ix_tupK (K := K)) (pv 13) pe_int (fun _ _ => rfl)) pa_nil)) rfl) (pa_cons (pe_bmL (K := K) (pe_bm PySem.F.plainAttrs_list PySem.F.slot_list_index PySem.F.type_list_index (mt_indexDK (K := K) (units65 hr)) (pv 3) (pa_cons (pe_ix (ix_tupK (K := K)) (pv 13) pe_int (fun _ _ => rfl)) pa_nil)) rfl) (pa_cons (pv 12) pa_nil))))))
      (pss_cons (ps_for PassesOwn.never rfl (pi_list (pe_callB (cr_sortT (d := 3) (B := 100) (by decide)) (by rfl) B.b_sorted (by decide +kernel) (pa_cons (pv 4) pa_nil))) (pg_tup rfl (pgs_cons (pg_name (i := 10) nd rfl (by first | exact Or.inl rfl | exact Or.inr rfl)) (pgs_cons (pg_name (i := 11) nd rfl (by first | exact Or.inl rfl | exact Or.inr rfl)) (pgs_cons (pg_name (i := 12) nd rfl (by first | exact Or.inl rfl | exact Or.inr rfl)) pgs_nil))))
        (pss_one (ps_if (PW.pt (pw_and (pt_cmpR op_gt (pv 10) (pv 7) (nomark _)) (pw_and1 (pt_cmpR op_lt (pe_callB call_len_seq (by rfl) B.b_len PySem.boot_len (pa_cons (pv 5) pa_nil)) (pv 8) (nomark _)))))
          (pss_cons (ps_expr (pe_bm PySem.F.plainAttrs_list PySem.F.slot_list_append PySem.F.type_list_append mt_append (pv 5) (pa_cons (pv 12) pa_nil)))
          (pss_one (ps_set (i := 7) nd rfl (by first | exact Or.inl rfl | exact Or.inr rfl) (pv 11))))
          pss_nil)))
      (pss_one (ps_ret (pv 5)))))))))))), ?_⟩
    refine ⟨_, rfl, td, _, S.ks.map (fun k : Nat => (k : Int)), rfl, .of D.t, dF_keys _ _, by rw [List.length_map]; exact hlen, fun ys p hp hs hn => ?_⟩
    rw [sorted_eq hp hs (asc_int wf.asc), nvs_eq]
    have e1 : Same H (upd H p (.lst (nvs S.ks))) := same_new hn
    have h1p : upd H p (.lst (nvs S.ks)) p = some (.lst (nvs S.ks)) := upd_same
    have hp0 := hn
    generalize upd H p (.lst (nvs S.ks)) = H1 at e1 h1p
    refine ⟨p, rfl, ⟨_, SqL.of h1p⟩, fun L hL => ?_⟩
    refine lc_rel (walk_list (K := K) (a := p) (xs := nvs S.ks)) hL (fun i acc _ => ∃ l, acc = nvs l ∧ l.length ≤ i ∧ ∀ n ∈ l, n ∈ S.ks) (by rw [nvs_len]; omega) (fun H' e => SqL.of (e _ _ h1p)) (fun _ _ _ _ _ h => h) ⟨[], rfl, Nat.le_refl _, fun _ h => by cases h⟩ ?_ ?_
    · rintro i y acc H' hi hy e ⟨l, rfl, hll, hlk⟩ Kx Ky kx ky
      obtain ⟨b, hb', rfl⟩ := nvs_get hy
      have hbk := List.mem_of_getElem? hb'
      refine ⟨rfl, _, rfl, _, rfl, hd, _, rfl, dget ((e1.trans e) _ _ hf) hbk, _, _, rfl, rfl, decide (0 < (S.fr b : Int)), rfl, ?_⟩
      by_cases z : 0 < (S.fr b : Int)
      · rw [decide_eq_true z]
        refine ⟨_, rfl, kx _ _ (Same.refl _) ⟨l ++ [b], nvs_snoc _ _, by rw [List.length_append]; simp; omega, fun n hn => ?_⟩⟩
        rcases List.mem_append.mp hn with x | x
        · exact hlk n x
        · rw [List.mem_singleton.mp x]
          exact hbk
      · rw [decide_eq_false z]
        exact iteF (ky _ (Same.refl _) ⟨l, rfl, by omega, hlk⟩)
    rintro acc H2 e2 ⟨l0, rfl, hl0, hl0k⟩ hla hd2
    have e02 := e1.trans e2
    have hL0 := same_free e1 hL
    have hLw : L ≠ wl := fun z => hw.no (z ▸ hL0)
    refine ⟨fun σ' H' => ∃ (sl : Addr) (ss : List Nat), σ' = [some (.ref wl), some (.ref td), some (.ref hd), some (.ref gl), some (.ref sl), none, none, none, none, none, none, none, none, none] ∧ Keep [wl] H H' ∧ WlAt H' wl ∧ H sl = none ∧ H' sl = some (.lst (nvs ss)) ∧ ss ≠ [] ∧ (∀ n ∈ ss, n ∈ S.ks) ∧ ss.length < 64, ?_, ?_⟩
    · refine ⟨_, rfl, wl, 8, rfl, by omega, by omega, hw.same e02, fun r H3 hr3 k3 w3 => ?_⟩
      have k03 : Keep [wl] H H3 := (Keep.of_same e02).trans k3
      have nwl : ∀ {b : Addr}, wl ≠ b → b ∉ [wl] := fun h z => h (List.mem_singleton.mp z).symm
      have hL3 : H3 L = some (.lst (nvs l0)) := k3 _ _ hd2 (nwl (Ne.symm hLw))
      have ht3 := k03 _ _ D.t (nwl n1)
      by_cases c7 : r = 7
      · refine ⟨rfl, true, blT (by rw [c7]; rfl), ?_⟩
        refine ⟨_, rfl, td, _, S.ks.map (fun k : Nat => (k : Int)), rfl, .of ht3, dF_keys _ _, by rw [List.length_map]; exact hlen, fun ys p hp hs hn => ?_⟩
        rw [sorted_eq hp hs (asc_int wf.asc), nvs_eq]
        exact ⟨p, S.ks, rfl, k03.trans (Keep.of_same (same_new hn)), w3.same (same_new hn), w3.free k03 hn, upd_same, hne, fun _ h => h, hlen⟩
      · refine ⟨rfl, false, blF (fun z => c7 (by have := V.int.inj z; omega)), iteF ?_⟩
        refine ⟨_, rfl, szn 0, fun e1 he1 => ⟨_, _, nats_dp (SqL.of ((same_new he1) _ _ hL3)), nil_dp (SqL.of upd_same), shaped_nats _, shaped_nil, l0.isEmpty, congrArg V.bl (nats_nil _), ?_⟩⟩
        have ex : Same H3 (upd H3 e1 (.lst [])) := same_new he1
        cases l0 with
        | nil =>
          refine ⟨_, rfl, td, _, S.ks.map (fun k : Nat => (k : Int)), rfl, .of (ex _ _ ht3), dF_keys _ _, by rw [List.length_map]; exact hlen, fun ys p hp hs hn => ?_⟩
          rw [sorted_eq hp hs (asc_int wf.asc), nvs_eq]
          have e4 := ex.trans (same_new (o := .lst (nvs S.ks)) hn)
          exact ⟨p, S.ks, rfl, k03.trans (Keep.of_same e4), w3.same e4, (w3.same ex).free (k03.trans (Keep.of_same ex)) hn, upd_same, hne, fun _ h => h, hlen⟩
        | cons b l =>
          refine iteF ⟨L, b :: l, rfl, k03.trans (Keep.of_same ex), w3.same ex, hL0, ex _ _ hL3, by simp, hl0k, ?_⟩
          rw [nvs_len] at hl0
          omega
    rintro σ' H3 ⟨sl, ss, rfl, k3, w3, hsl, hsl3, hss, hssk, hssl⟩
    have nwl : ∀ {b : Addr}, wl ≠ b → b ∉ [wl] := fun h z => h (List.mem_singleton.mp z).symm
    have nsl : sl ≠ wl := fun z => hw.no (z ▸ hsl)
    have stay : ∀ {H' : Hp}, Keep [wl] H H' → TwAt G H' td S.ks tv rl S.tw ∧ GridL G H' gl gs := fun k => ⟨D.keep k (hw.ts k) (nwl n1) fun n hn => nwl (n4 n hn), hg.keep k (hw.ts k) (nwl n3)⟩
    refine ⟨_, rfl, _, rfl, wl, sl, ss, rfl, w3, SqL.of hsl3, nsl, hss, by omega, fun n H4 hn k4 w4 => ⟨szn 1, fun lr hlr => ?_⟩⟩
    have k04 := k3.trans k4
    have e45 : Same H4 (upd H4 lr (.lst [.int (n : Int)])) := same_new hlr
    have k05 := k04.trans (Keep.of_same e45)
    have w5 := w4.same e45
    have hlr0 := w4.free k04 hlr
    have nlr : lr ≠ wl := fun z => hw.no (z ▸ hlr0)
    have h5r : upd H4 lr (.lst [.int (n : Int)]) lr = some (.lst [.int (n : Int)]) := upd_same
    have hsl5 := e45 _ _ (k4 _ _ hsl3 (nwl (Ne.symm nsl)))
    generalize upd H4 lr (.lst [.int (n : Int)]) = H5 at e45 k05 w5 h5r hsl5
    obtain ⟨D5, g5⟩ := stay k05
    refine ⟨_, rfl, _, rfl, lr, _, _, _, rfl, rfl, SqL.of h5r, atI_nat (j := 0) rfl, td, S.ks, tv, rl, S.tw, S.lb, n, rfl, D5, wf.lk, hssk n hn, fun last H6 e6 l6 => ?_⟩
    obtain ⟨p6, a6, b6, rfl, hp6, ha6, hb6⟩ := l6
    have k06 := k05.trans (Keep.of_same e6)
    obtain ⟨D6, g6⟩ := stay k06
    obtain ⟨dd, ds, zz, u1, u2, u3, u4, u5, u6, u7⟩ := index_parts (K := K) gr g6 (wf.lk.good (hssk n hn)).b hb6
    refine ⟨_, rfl, .inl ⟨rfl, _, SqL.of g6.l⟩, _, rfl, p6, _, _, _, rfl, rfl, SqT.of hp6, atI_nat (j := 2) rfl, gl, _, dd, ds, _, zz, rfl, rfl, u1, u2, u3, u4, u5, u6, u7, ?_⟩
    refine ⟨_, rfl, wl, 3, rfl, by omega, by omega, w5.same e6, fun r H7 hr7 k7 w7 => ⟨_, _, rfl, rfl, ?_⟩⟩
    have k07 := k06.trans k7
    have ts67 := (w5.same e6).ts k7
    have h7r := k7 _ _ (e6 _ _ h5r) (nwl (Ne.symm nlr))
    have hsl7 := k7 _ _ (e6 _ _ hsl5) (nwl (Ne.symm nsl))
    have hp7 := ts67 _ _ hp6
    refine ⟨_, rfl, sl, rfl, ⟨_, SqL.of hsl7⟩, fun L9 hL9 => ?_⟩
    refine lc_rel (walk_list (K := K) (a := sl) (xs := nvs ss)) hL9 (fun i acc H' => Paired (LbN G S.lb S.ks H') acc (ss.take i)) (by rw [nvs_len]; omega) (fun H' e => SqL.of (e _ _ hsl7))
      (fun _ _ _ _ ts h => L2.Paired.mapP h fun _ _ x => x.ts ts) .nil ?_ ?_
    · rintro i y acc H' hi hy e rr Kx Ky kx ky
      obtain ⟨b, hb', rfl⟩ := nvs_get hy
      have hbk := hssk b (List.mem_of_getElem? hb')
      obtain ⟨D8, _⟩ := stay (k07.trans (Keep.of_same e))
      refine ⟨rfl, _, rfl, _, rfl, td, S.ks, tv, rl, S.tw, S.lb, b, rfl, D8, wf.lk, hbk, fun y2 H2 e2 l2 => ⟨_, rfl, szn 2, fun pt hpt => kx _ _ (e2.trans (same_new hpt)) ?_⟩⟩
      rw [take_snoc hb']
      have ts2 := ts_same (e2.trans (same_new (o := .tup [y2, .int (b : Int)]) hpt))
      exact paired_app (L2.Paired.mapP rr fun _ _ x => x.ts ts2) (.cons ⟨pt, y2, rfl, upd_same, l2.ts (ts_same (same_new hpt)), hbk⟩ .nil)
    rintro acc9 H9 e9 r9 hla9 hd9
    rw [take_all (by rw [nvs_len]; exact Nat.le_refl _)] at r9
    have hl9 := Paired.length r9
    have k09 := k07.trans (Keep.of_same e9)
    have h9r := e9 _ _ h7r
    have hp9 := e9 _ _ hp7
    refine ⟨_, rfl, L9, rfl, ⟨_, SqL.of hd9⟩, fun LA hLA => ?_⟩
    refine lc_rel (walk_list (K := K) (a := L9) (xs := acc9)) hLA (fun i acc H' => acc.length ≤ i ∧ ∀ v ∈ acc, ∃ (t : Addr) (a b c : Nat), v = .ref t ∧ H' t = some (.tup [.int (a : Int), .int (b : Int), .int (c : Int)]) ∧ a < 64 ∧ b < 64 ∧ c ∈ S.ks) (by omega) (fun H' e => SqL.of (e _ _ hd9))
      (fun _ _ _ _ ts h => ⟨h.1, fun v hv => by obtain ⟨t, a, b, c, x1, x2, x3⟩ := h.2 v hv; exact ⟨t, a, b, c, x1, ts _ _ x2, x3⟩⟩) ⟨Nat.le_refl _, fun _ h => by cases h⟩ ?_ ?_
    · rintro i y acc H' hi hy e ⟨rl1, rl2⟩ Kx Ky kx ky
      obtain ⟨m, hm', pm, ym, rfl, hpm, lm, hmk⟩ := paired_get r9 i y hy
      obtain ⟨pl, al, bl, rfl, hpl, hal, hbl⟩ := lm.ts (ts_same e)
      obtain ⟨_, g10⟩ := stay (k09.trans (Keep.of_same e))
      have gm := wf.lk.good hmk
      refine ⟨pm, _, rfl, SqT.of (e _ _ hpm), rfl, _, _, rfl, _, _, rfl, rfl, rfl, ?_⟩
      refine ⟨_, rfl, pl, _, _, _, rfl, rfl, SqT.of hpl, atI_nat (j := 0) rfl, _, rfl, p6, _, _, _, rfl, rfl, SqT.of (e _ _ hp9), atI_nat (j := 0) rfl, rfl, ?_⟩
      by_cases ch : (S.lb m).h = (S.lb n).h
      · refine ⟨true, blT (by rw [ch]), ?_⟩
        obtain ⟨dd, ds, zz, u1, u2, u3, u4, u5, u6, u7⟩ := index_parts (K := K) gr g10 gm.lo64 hal
        refine ⟨_, rfl, .inl ⟨rfl, _, SqL.of g10.l⟩, _, rfl, pl, _, _, _, rfl, rfl, SqT.of hpl, atI_nat (j := 1) rfl, gl, _, dd, ds, _, zz, rfl, rfl, u1, u2, u3, u4, u5, u6, u7, ?_⟩
        obtain ⟨dd, ds, zz, u1, u2, u3, u4, u5, u6, u7⟩ := index_parts (K := K) gr g10 gm.b hbl
        refine ⟨_, rfl, .inl ⟨rfl, _, SqL.of g10.l⟩, _, rfl, pl, _, _, _, rfl, rfl, SqT.of hpl, atI_nat (j := 2) rfl, gl, _, dd, ds, _, zz, rfl, rfl, u1, u2, u3, u4, u5, u6, u7, ?_⟩
        refine ⟨_, rfl, szn 3, fun pt hpt => kx _ _ (same_new hpt) ⟨by rw [List.length_append, List.length_singleton]; omega, fun v hv => ?_⟩⟩
        rcases List.mem_append.mp hv with z | z
        · obtain ⟨t, a, b, c, x1, x2, x3⟩ := rl2 v z
          exact ⟨t, a, b, c, x1, (same_new hpt) _ _ x2, x3⟩
        · rw [List.mem_singleton.mp z]
          exact ⟨pt, _, _, _, rfl, upd_same, gm.lo64, gm.b, hmk⟩
      · exact ⟨false, blF (fun z => ch (by have := V.int.inj z; omega)), iteF (ky _ (Same.refl _) ⟨by omega, rl2⟩)⟩
    rintro accA HA eA ⟨rA1, rA2⟩ hlaA hdA
    have k0A := k09.trans (Keep.of_same eA)
    have hAr := eA _ _ h9r
    have wA := (w7.same e9).same eA
    have triA : ∀ x ∈ accA, ∃ ns, TupI K HA x ns ∧ ns.length = 3 ∧ TS.Bd 100 ns := fun x hx => by
      obtain ⟨t, a, b, c, rfl, ht, ha, hb, hc⟩ := rA2 x hx
      have hcl := wf.lt c hc
      refine ⟨[(a : Int), (b : Int), (c : Int)], ⟨t, rfl, SqT.of ht⟩, rfl, fun m hm => ?_⟩
      simp only [List.mem_cons, List.not_mem_nil, or_false] at hm
      rcases hm with z | z | z <;> subst z <;> omega
    refine ⟨_, rfl, LA, accA, rfl, SqL.of hdA, by omega, triA, fun ys p perm _ hp => ?_⟩
    have eB : Same HA (upd HA p (.lst ys)) := same_new hp
    have hBp : upd HA p (.lst ys) p = some (.lst ys) := upd_same
    have hBr := eB _ _ hAr
    have k0B := k0A.trans (Keep.of_same eB)
    have wB := wA.same eB
    have hp0 := wA.free k0A hp
    have npr : p ≠ lr := fun z => by
      rw [z, hAr] at hp
      cases hp
    have hyl := perm.length_eq
    have tri : ∀ v ∈ ys, ∃ (t : Addr) (a b c : Nat), v = .ref t ∧ upd HA p (.lst ys) t = some (.tup [.int (a : Int), .int (b : Int), .int (c : Int)]) ∧ c ∈ S.ks := fun v hv => by
      obtain ⟨t, a, b, c, x1, x2, _, _, x5⟩ := rA2 v (perm.mem_iff.mp hv)
      exact ⟨t, a, b, c, x1, eB _ _ x2, x5⟩
    generalize upd HA p (.lst ys) = HB at eB hBp hBr k0B wB tri
    refine ⟨p, rfl, ⟨_, SqL.of hBp⟩, for_it (walk_list (K := K) (a := p) (xs := ys)) (fun i σ H' => ∃ (x4 x9 x10 x11 x12 x13 : Option V) (at_ : Int) (ns : List Nat), σ = [some (.ref wl), some (.ref td), some (.ref hd), some (.ref gl), x4, some (.ref lr), some (.ref p6), some (.int at_), some (.int (2 + (r : Int))), x9, x10, x11, x12, x13] ∧
      Keep [wl] H H' ∧ WlAt H' wl ∧ TS HB H' ∧ H' p = some (.lst ys) ∧ H' lr = some (.lst (nvs ns)) ∧ (∀ n ∈ ns, n ∈ S.ks) ∧ ns.length ≤ i + 1) ⟨_, _, _, _, _, _, _, [n], rfl, k0B, wB, TS.refl _, hBp, hBr, fun m hm => (List.mem_singleton.mp hm) ▸ hssk n hn, Nat.le_refl _⟩ (fun i σ H' _ ⟨_, _, _, _, _, _, _, _, _, _, _, _, e, _⟩ => SqL.of e) ?_ ?_⟩
    · rintro i y σ _ HC hi ⟨x4, x9, x10, x11, x12, x13, at_, ns, rfl, kC, wC, tsC, hpC, hrC, hnsk, hnl⟩ ⟨rfl, hy⟩
      obtain ⟨t, a, b, c, rfl, ht, hck⟩ := tri y (List.mem_of_getElem? hy)
      refine ⟨t, _, rfl, SqT.of (tsC _ _ ht), rfl, _, _, rfl, _, _, rfl, _, _, rfl, rfl, ?_⟩
      refine ⟨_, rfl, _, rfl, _, _, rfl, rfl, ?_⟩
      by_cases c1 : at_ < (a : Int)
      · refine ⟨true, blT c1, ?_⟩
        refine ⟨_, rfl, lr, _, rfl, .inl (SqL.of hrC), _, rfl, _, _, rfl, rfl, ?_⟩
        by_cases c2 : ((nvs ns).length : Int) < 2 + (r : Int)
        · refine ⟨true, blT c2, ?_⟩
          refine ⟨_, rfl, .inl ⟨rfl, _, SqL.of hrC⟩, _, rfl, lr, _, _, rfl, rfl, hrC, small_lt (by rw [nvs_len]; omega), ?_⟩
          rw [nvs_snoc]
          have tsD : TS HC (upd HC lr (.lst (nvs (ns ++ [c])))) := ts_upd fun xs z => by
            rw [hrC] at z
            cases z
          refine ⟨_, rfl, _, _, _, _, _, _, _, ns ++ [c], rfl, keep_mut kC hlr0, ?_, tsC.trans tsD, by rw [upd_ne npr]; exact hpC, upd_same, fun m hm => ?_, by rw [List.length_append, List.length_singleton]; omega⟩
          · obtain ⟨y1, y2, y3, y4, ew, rest⟩ := wC
            exact ⟨y1, y2, y3, y4, by rw [upd_ne (Ne.symm nlr)]; exact ew, rest⟩
          · rcases List.mem_append.mp hm with z | z
            · exact hnsk m z
            · rw [List.mem_singleton.mp z]
              exact hck
        · exact ⟨false, blF c2, iteF ⟨_, _, _, _, _, _, _, ns, rfl, kC, wC, tsC, hpC, hrC, hnsk, by omega⟩⟩
      · exact ⟨false, blF c1, iteF (iteF ⟨_, _, _, _, _, _, _, ns, rfl, kC, wC, tsC, hpC, hrC, hnsk, by omega⟩)⟩
    · rintro σ HC ⟨x4, x9, x10, x11, x12, x13, at_, ns, rfl, kC, wC, tsC, hpC, hrC, hnsk, hnl⟩
      exact ⟨_, rfl, q lr ns HC kC wC hlr0 hrC hnsk (by omega)⟩
end
end Tw
end

section
set_option Elab.async false
set_option maxRecDepth 100000
set_option maxHeartbeats 4000000
set_option autoImplicit false
/-! the law's deeds: a stem put -/
namespace Tw
open PySem L2 Twg
def spLPutStem (C : Addr) (G : List Kd) : Sp := fun vs H Q _ => ∃ (A : ShA) (W : LwA) (S : Shk) (st gl wl : Addr) (gs : List V), vs = [.ref wl, .ref st] ∧ StAt C G H A W S st gl gs ∧ Wf S ∧ S.gv < 63 ∧ S.ks ≠ [] ∧ WlAt H wl ∧ wl ∉ adr A W S.ks ∧ gl ≠ wl ∧ spDone C G H A W S wl Q
section
variable {P : Program} {w : World} {K : PySem.W.Frag} {mg : Str → Option Value} {base : Heap} {G : List Kd} {C : Addr}
theorem df_lput_stem (T : ClsT K C) (B : Bas mg) (D1 : DfG P w K mg base 3 "_law_run" ["_law_well_here", "_law_twigs", "_law_holds", "_law_grid_here"] (spRun G K)) (D2 : DfG P w K mg base 4 "_law_fits" ["_law_twigs", "_law_numbers"] (spFits G K)) (D3 : DfM P w K mg base C 5 "put_stem" ["self", "numbers"] (spPutStem C G K))
    (R : RawG K mg "_law_put_stem" s_lput_stem ["_law_well_here", "_law_state"]) : DfG P w K mg base 6 "_law_put_stem" ["_law_well_here", "_law_state"] (spLPutStem C G) := by
  obtain ⟨f, fd, hm, hk, hb, F⟩ := R
  obtain ⟨_, _, m_lrun, k_lrun, b_lrun, F_lrun⟩ := D1
  obtain ⟨_, _, m_lfits, k_lfits, b_lfits, F_lfits⟩ := D2
  obtain ⟨_, _, M_put_stem, b_put_stem, F_put_stem⟩ := D3
  refine ⟨f, fd, hm, hk, hb, F.ok sc_lput_stem (fun vs H Q E h => ?_) (fun cdv Ar outer s H vs Q E hr h => ?_)⟩
  · obtain ⟨A, W, S, st, gl, wl, gs, rfl, _⟩ := h
    rfl
  · obtain ⟨A, W, S, st, gl, wl, gs, rfl, D, wf, hgv, hne, hw, hwo, hgw, q⟩ := h
    have hu := hu_of hr
    have cl := T.cl
    have nd := sc_lput_stem.nd
    have hlen := wf.len
    have L := D.w.ls
    have nwl : ∀ {b : Addr}, b ∈ adr A W S.ks → wl ≠ b := fun hb z => hwo (z ▸ hb)
    refine ⟨_, (pss_cons (ps_asg (pv 1) (pg_tup rfl (pgs_cons (pg_name (i := 2) nd rfl (by first | exact Or.inl rfl | exact Or.inr rfl)) (pgs_cons (pg_name (i := 3) nd rfl (by first | exact Or.inl rfl | exact Or.inr rfl)) (pgs_cons (pg_name (i := 4) nd rfl (by first | exact Or.inl rfl | exact Or.inr rfl)) (pgs_cons (pg_name (i := 5) nd rfl (by first | exact Or.inl rfl | exact Or.inr rfl)) (pgs_cons (pg_name (i := 6) nd rfl (by first | exact Or.inl rfl | exact Or.inr rfl)) pgs_nil)))))))
      (pss_cons (ps_setLc (i := 7) (own := [("_law_number", 8)]) (g := (gName 8)) (by rfl) nd rfl rfl (sw_true rfl rfl rfl (by decide +kernel)) (pi_list (pe_call (F_lrun.mono (by first | decide | omega)) hr rfl m_lrun k_lrun b_lrun .nil pass0 (pa_cons (pv 0) (pa_cons (pv 3) (pa_cons (pv 4) (pa_cons (pv 5) pa_nil)))))) (blkOk_by (N := ["_law_well_here", "_law_state", "_law_shelf", "_law_twigs", "_law_holds", "_law_grid_here", "_law_told", "_law_numbers", "_law_number", "_law_one"]) (sc := defScope s_lput_stem) (by decide +kernel)) (fun _ _ _ _ _ => (pg_name (i := 8) nd rfl (by first | exact Or.inl rfl | exact Or.inr rfl))) (fun _ _ _ _ _ => (pts_one (pt_cmpR op_gt (pe_dget hu (pv 4) (pv 8) (fun _ _ => rfl)) pe_int (nomark _)))) (fun _ _ _ _ _ => (pv 8)))
      (pss_cons (ps_if (pt_not (pt_val (pe_call (F_lfits.mono (by first | decide | omega)) hr rfl m_lfits k_lfits b_lfits .nil pass0 (pa_cons (pv 3) (pa_cons (pv 7) pa_nil)))))
        (pss_one (ps_ret pe_bl))
        pss_nil)
      (pss_cons (ps_set (i := 8) nd rfl (by first | exact Or.inl rfl | exact Or.inr rfl) (pe_meth (pv 2) cl M_put_stem (F_put_stem.mono (by first | decide | omega)) hr b_put_stem .nil pass0 (pa_cons (pe_callTy call_list_of (by rfl) B.b_list (by decide +kernel) (pa_cons (pv 7) pa_nil)) pa_nil)))
      (pss_cons (ps_if (PW.pt (pw_or (pt_not (pt_val (pe_callB call_isi (by rfl) B.b_isinstance (by decide +kernel) (pa_cons (pv 8) (pa_cons (pe_bltn (v := .ty "int") (by rfl) B.b_int (by decide +kernel) rfl) pa_nil))))) (pw_or (pt_val (pe_callB call_isi (by rfl) B.b_isinstance (by decide +kernel) (pa_cons (pv 8) (pa_cons (pe_bltn (v := .ty "bool") (by rfl) B.b_bool (by decide +kernel) rfl) pa_nil)))) (pw_or1 (pt_cmpR op_le (pv 8) (pe_callB (cr_max rfl) (by rfl) B.b_max (by decide +kernel) (pa_cons (pv 6) pa_nil)) (nomark _))))))
        (pss_one (ps_ret pe_bl))
        pss_nil)
      (pss_cons (ps_expr (pe_bm PySem.F.plainAttrs_list PySem.F.slot_list_append PySem.F.type_list_append mt_append (pv 6) (pa_cons (pv 8) pa_nil)))
      (pss_cons (ps_for PassesOwn.never rfl (pi_list (pv 7)) (pg_name (i := 9) nd rfl (by first | exact Or.inl rfl | exact Or.inr rfl))
        (pss_one (ps_dput hu (pv 4) (pv 9) (pe_op op_sub (pe_dget hu (pv 4) (pv 9) (fun _ _ => rfl)) pe_int) rfl)))
      (pss_cons (ps_dput hu (pv 3) (pv 8) (pe_tup (pa_cons pe_str (pa_cons (pv 7) pa_nil))) rfl)
      (pss_cons (ps_dput hu (pv 4) (pv 8) pe_int rfl)
      (pss_one (ps_ret pe_bl))))))))))), ?_⟩
    refine ⟨_, rfl, st, _, rfl, SqT.of D.s, rfl, _, _, rfl, _, _, rfl, _, _, rfl, _, _, rfl, _, _, rfl, rfl, ?_⟩
    refine ⟨_, rfl, _, rfl, _, rfl, _, rfl, wl, W.td, W.hd, gl, gs, W.tv, W.rl, S, rfl, hw, L.t, L.h, D.g, wf.toW0, hne, by omega, by omega, nwl (adr_w (by simp)), nwl (adr_w (by simp)), hgw.symm, fun n hn => nwl (adr_r hn), fun lr rs H1 k1 w1 hlr hr1 hrk hrl => ?_⟩
    have D1 := D.pull hw k1 hwo hgw
    refine ⟨lr, rfl, ⟨_, SqL.of hr1⟩, fun la hla => ?_⟩
    refine lc_rel (walk_list (K := K) (a := lr) (xs := nvs rs)) hla (fun i acc _ => ∃ l, acc = nvs l ∧ l.length ≤ i ∧ ∀ n ∈ l, n ∈ S.ks ∧ S.fr n ≠ 0) (by rw [nvs_len]; omega) (fun H' e => SqL.of (e _ _ hr1)) (fun _ _ _ _ _ h => h) ⟨[], rfl, Nat.le_refl _, fun _ h => by cases h⟩ ?_ ?_
    · rintro i y acc H' hi hy e ⟨l, rfl, hll, hlk⟩ Kx Ky kx ky
      obtain ⟨b, hb', rfl⟩ := nvs_get hy
      have hbk := hrk b (List.mem_of_getElem? hb')
      refine ⟨rfl, _, rfl, _, rfl, W.hd, _, rfl, dget (e _ _ D1.w.ls.h) hbk, _, _, rfl, rfl, decide (0 < (S.fr b : Int)), rfl, ?_⟩
      by_cases z : 0 < (S.fr b : Int)
      · rw [decide_eq_true z]
        refine ⟨_, rfl, kx _ _ (Same.refl _) ⟨l ++ [b], nvs_snoc _ _, by rw [List.length_append]; simp; omega, fun n hn => ?_⟩⟩
        rcases List.mem_append.mp hn with x | x
        · exact hlk n x
        · rw [List.mem_singleton.mp x]
          exact ⟨hbk, by omega⟩
      · rw [decide_eq_false z]
        exact iteF (ky _ (Same.refl _) ⟨l, rfl, by omega, hlk⟩)
    rintro acc H2 e2 ⟨ns, rfl, hnl, hns⟩ hacl hd2
    have D2 := D1.same e2
    have hla0 := w1.free k1 hla
    have hlo := D.w.out hla0
    refine ⟨_, rfl, _, rfl, W.td, S.ks, W.tv, W.rl, S.tw, S.lb, la, ns, rfl, D2.w.ls.t, wf.lk, fun n hn => (hns n hn).1, SqL.of hd2, by rw [nvs_len] at hnl; omega, fun b H3 e3 hov => ?_⟩
    have D3 := D2.same e3
    have k03 : Keep [wl] H H3 := (k1.trans (Keep.of_same e2)).trans (Keep.of_same e3)
    have kw : Keep (wl :: wfp A W S.ks) H H3 := k03.mono fun b hb => List.mem_cons.mpr (.inl (List.mem_singleton.mp hb))
    cases b with
    | false => exact ⟨_, rfl, fin_of q D.w D3.w.sh D3.w.ls rfl rfl rfl rfl rfl kw (fun b hb => .inl hb) (fun m hm => .inl ⟨hm, rfl⟩) wf (Nat.le_succ _) (fun _ _ => (w1.same e2).same e3)⟩
    | true =>
    have ov := hov rfl
    refine ⟨_, rfl, iteF ?_⟩
    have ha3 := e3 _ _ hd2
    refine ⟨_, rfl, A.p, A.dx, _, rfl, D3.w.sh.ob, fl_no _ _ (by decide +kernel), _, rfl, la, nvs ns, rfl, .inl (SqL.of ha3), fun l2 hl2 => ?_⟩
    have e34 : Same H3 (upd H3 l2 (.lst (nvs ns))) := same_new hl2
    have D4 := D3.same e34
    have ha4 := e34 _ _ ha3
    refine ⟨A, S, l2, ns, rfl, D4.w.sh, SqL.of upd_same, wf.toW0, hns, ov, by omega, fun H5 A5 stp => ?_⟩
    have k04 := k03.trans (Keep.of_same e34)
    have w4 : WlAt (upd H3 l2 (.lst (nvs ns))) wl := (w1.same e2).same (e3.trans e34)
    generalize upd H3 l2 (.lst (nvs ns)) = H4 at e34 D4 ha4 stp k04 w4
    have L5 := D4.w.ls_stp stp
    have ha5 := stp.kp _ _ ha4 fun z => hlo (adr_fp z)
    have hlw : la ∉ [W.td, W.hd, W.tl] := fun z => hlo (adr_w z)
    obtain ⟨t, ht, hi, hbo, _, _⟩ := ty_int (K := K) (H := H5) (S.gv : Int)
    refine ⟨_, rfl, _, .ty "int", _, _, _, rfl, .ty _, ht, hi, _, rfl, iteF ?_⟩
    refine ⟨_, rfl, _, .ty "bool", _, _, _, rfl, .ty _, ht, hbo, _, rfl, iteF ?_⟩
    have hgpos : 0 < S.gv := by
      obtain ⟨n, hn⟩ := List.exists_mem_of_ne_nil _ hne
      have := wf.lt n hn
      omega
    refine ⟨_, rfl, _, rfl, W.tl, (List.range S.gv).map (fun k : Nat => (k : Int)), rfl, SqL.of (by rw [nvs_eq]; exact L5.o), by rw [List.length_map, List.length_range]; exact hgpos, fun m hm hle => ⟨_, _, rfl, rfl, false, blF ?_, iteF ?_⟩⟩
    · obtain ⟨k, hk, rfl⟩ := List.mem_map.mp hm
      have := List.mem_range.mp hk
      omega
    have hrl : (nvs (List.range S.gv)).length < sizeLine := by
      rw [nvs_len, List.length_range]
      exact small_lt (by omega)
    refine ⟨_, rfl, .inl ⟨rfl, _, SqL.of L5.o⟩, _, rfl, W.tl, _, _, rfl, rfl, L5.o, hrl, ?_⟩
    rw [range_snoc]
    have k6 : Keep [W.td, W.hd, W.tl] H5 (upd H5 W.tl (.lst (nvs (List.range (S.gv + 1))))) := keep_upd (by simp)
    have t6 : upd H5 W.tl (.lst (nvs (List.range (S.gv + 1)))) W.td = some (.dK (dF S.ks W.tv)) := by
      rw [upd_ne L5.to]
      exact L5.t.t
    have h6 : upd H5 W.tl (.lst (nvs (List.range (S.gv + 1)))) W.hd = some (.dK (dF S.ks fun n => .int (S.fr n : Int))) := by
      rw [upd_ne L5.ho]
      exact L5.h
    have o6 : upd H5 W.tl (.lst (nvs (List.range (S.gv + 1)))) W.tl = some (.lst (nvs (List.range (S.gv + 1)))) := upd_same
    have ha6 := k6 _ _ ha5 hlw
    generalize upd H5 W.tl (.lst (nvs (List.range (S.gv + 1)))) = H6 at k6 t6 h6 o6 ha6
    have hnd : ns.Nodup := up_nodup ov.up fun k hk => wf.lk.good (hns k hk).1
    refine ⟨_, rfl, la, rfl, ⟨_, SqL.of ha6⟩, for_it (walk_list (K := K) (a := la) (xs := nvs ns)) (fun i σ H' => ∃ v, σ = [some (.ref wl), some (.ref st), some (.ref A.p), some (.ref W.td), some (.ref W.hd), some (.ref gl), some (.ref W.tl), some (.ref la), some (.int (S.gv : Int)), v] ∧ Keep [W.td, W.hd, W.tl] H5 H' ∧
      H' W.td = some (.dK (dF S.ks W.tv)) ∧ H' W.hd = some (.dK (dF S.ks fun n => .int (((if n ∈ ns.take i then S.fr n - 1 else S.fr n) : Nat) : Int))) ∧ H' W.tl = some (.lst (nvs (List.range (S.gv + 1)))) ∧ H' la = some (.lst (nvs ns))) ⟨none, rfl, k6, t6, ?_, o6, ha6⟩ (fun i σ H' _ ⟨_, _, _, _, _, _, e⟩ => SqL.of e) ?_ ?_⟩
    · rw [h6]
      show some (HO.dK (dF _ _)) = some (HO.dK (dF _ _))
      rw [dF_ext (g := fun n => .int (((if n ∈ ns.take 0 then S.fr n - 1 else S.fr n) : Nat) : Int)) fun k _ => by rw [List.take_zero, if_neg (by simp)]]
    · rintro i y σ _ H7 hi ⟨v, rfl, k7, t7, h7, o7, ha7⟩ ⟨rfl, hy⟩
      obtain ⟨b, hb', rfl⟩ := nvs_get hy
      obtain ⟨x1, x2⟩ := hns b (List.mem_of_getElem? hb')
      have hbi : b ∉ ns.take i := nd_take hnd hb'
      have g7 := dget h7 x1
      rw [if_neg hbi] at g7
      refine ⟨_, rfl, _, rfl, W.hd, _, rfl, g7, _, _, rfl, rfl, _, rfl, _, rfl, W.hd, _, rfl, dput (v := .int ((S.fr b : Int) - 1)) h7 x1 (by omega), ?_⟩
      have efr : dF S.ks (fset (fun n => V.int (((if n ∈ ns.take i then S.fr n - 1 else S.fr n) : Nat) : Int)) b (.int ((S.fr b : Int) - 1))) = dF S.ks fun n => .int (((if n ∈ ns.take (i + 1) then S.fr n - 1 else S.fr n) : Nat) : Int) := dF_ext fun k _ => by
        rw [take_snoc hb']
        by_cases e : k = b
        · rw [e, fset_same, if_pos (by simp)]
          exact congrArg V.int (by omega)
        · rw [fset_ne _ _ e]
          by_cases z : k ∈ ns.take i
          · rw [if_pos z, if_pos (List.mem_append.mpr (.inl z))]
          · rw [if_neg z, if_neg (fun y => (List.mem_append.mp y).elim z fun x => e (List.mem_singleton.mp x))]
      rw [efr]
      refine ⟨_, rfl, k7.trans (keep_upd (by simp)), by rw [upd_ne L5.th]; exact t7, upd_same, by rw [upd_ne L5.ho.symm]; exact o7, ?_⟩
      rw [upd_ne (fun z => hlw (by rw [z]; simp))]
      exact ha7
    · rintro σ H7 ⟨v, rfl, k7, t7, h7, o7, ha7⟩
      rw [take_all (by rw [nvs_len]; exact Nat.le_refl _)] at h7
      refine ⟨_, rfl, szn 2, fun pt hpt => ?_⟩
      have nt : pt ≠ W.td := fun e => by
        rw [e, t7] at hpt
        cases hpt
      have nh : pt ≠ W.hd := fun e => by
        rw [e, h7] at hpt
        cases hpt
      have e8 : Same H7 (upd H7 pt (.tup [.str "stem", .ref la])) := same_new hpt
      refine ⟨_, rfl, _, rfl, W.td, _, rfl, dputN (e8 _ _ t7) wf.gv_out (by omega), ?_⟩
      have h9 : upd (upd H7 pt (.tup [.str "stem", .ref la])) W.td (.dK (dF (S.ks ++ [S.gv]) (fset W.tv S.gv (.ref pt)))) W.hd = some (.dK (dF S.ks fun n => .int (((if n ∈ ns then S.fr n - 1 else S.fr n) : Nat) : Int))) := by
        rw [upd_ne L5.th.symm]
        exact e8 _ _ h7
      refine ⟨_, rfl, _, rfl, W.hd, _, rfl, dputN h9 wf.gv_out (by omega), ?_⟩
      have efr : dF (S.ks ++ [S.gv]) (fset (fun n => V.int (((if n ∈ ns then S.fr n - 1 else S.fr n) : Nat) : Int)) S.gv (.int 1)) = dF (S.ks ++ [S.gv]) fun n => .int (((S.addStem ns).fr n : Nat) : Int) := dF_ext fun k _ => by
        show _ = V.int (((if k = S.gv then 1 else if k ∈ ns then S.fr k - 1 else S.fr k) : Nat) : Int)
        by_cases e : k = S.gv
        · rw [e, fset_same, if_pos rfl]
          rfl
        · rw [fset_ne _ _ e, if_neg e]
      rw [efr]
      have k8 : Keep [W.td, W.hd, W.tl] H7 (upd (upd (upd H7 pt (.tup [.str "stem", .ref la])) W.td (.dK (dF (S.ks ++ [S.gv]) (fset W.tv S.gv (.ref pt))))) W.hd (.dK (dF (S.ks ++ [S.gv]) fun n => .int (((S.addStem ns).fr n : Nat) : Int)))) :=
        ((Keep.of_same e8).trans (keep_upd (by simp))).trans (keep_upd (by simp))
      have k58 := k7.trans k8
      have ts58 := k58.ts (ls_noTup L5)
      have g1 : upd (upd (upd H7 pt (.tup [.str "stem", .ref la])) W.td (.dK (dF (S.ks ++ [S.gv]) (fset W.tv S.gv (.ref pt))))) W.hd (.dK (dF (S.ks ++ [S.gv]) fun n => .int (((S.addStem ns).fr n : Nat) : Int))) W.td = some (.dK (dF (S.ks ++ [S.gv]) (fset W.tv S.gv (.ref pt)))) := by
        rw [upd_ne L5.th, upd_same]
      have g3 : upd (upd (upd H7 pt (.tup [.str "stem", .ref la])) W.td (.dK (dF (S.ks ++ [S.gv]) (fset W.tv S.gv (.ref pt))))) W.hd (.dK (dF (S.ks ++ [S.gv]) fun n => .int (((S.addStem ns).fr n : Nat) : Int))) W.tl = some (.lst (nvs (List.range (S.gv + 1)))) := by
        rw [upd_ne L5.ho.symm, upd_ne L5.to.symm]
        exact e8 _ _ o7
      have g4 : upd (upd (upd H7 pt (.tup [.str "stem", .ref la])) W.td (.dK (dF (S.ks ++ [S.gv]) (fset W.tv S.gv (.ref pt))))) W.hd (.dK (dF (S.ks ++ [S.gv]) fun n => .int (((S.addStem ns).fr n : Nat) : Int))) pt = some (.tup [.str "stem", .ref la]) := by
        rw [upd_ne nh, upd_ne nt, upd_same]
      have hlv0 := (⟨pt, "stem", nvs ns, rfl, g4, k8 _ _ ha7 hlw, rfl, rfl⟩ : LTw G _ (.ref pt) la (.stem ns))
      have etw : (S.addStem ns).tw S.gv = .stem ns := fset_same _ _ _
      have L8 := L5.add (S' := S.addStem ns) k58 ts58 rfl rfl (fun n hn => fset_ne _ _ (wf.ne_gv hn)) wf.gv_out g1 upd_same g3 (by rw [etw]; exact hlv0) hlw
      have D8 := stp.at_.keep k58 ts58 (D4.w.apart stp)
      refine fin_of q D.w D8 L8 stp.p stp.sn rfl rfl rfl (((k04.mono fun b hb => ?_).trans (stp.kp.mono fun b hb => ?_)).trans (k58.mono fun b hb => ?_)) (fun b hb => (stp.nw b hb).imp id fun z => w4.free k04 z) (fun n hn => ?_) (wf.addStem (fun b hb => (hns b hb).1) ov) (Nat.le_refl _) (fun _ ho => (w4.keep stp.kp fun z => ho (adr_fp z)).keep k58 fun z => ho (adr_w z))
      · exact List.mem_cons.mpr (.inl (List.mem_singleton.mp hb))
      · exact List.mem_cons.mpr (.inr (List.mem_append.mpr (.inl hb)))
      · exact List.mem_cons.mpr (.inr (List.mem_append.mpr (.inr hb)))
      · by_cases z : n = S.gv
        · refine .inr ?_
          have er : (tdx W S.gv (.ref pt) la).rl n = la := by
            rw [z]
            exact fset_same _ _ _
          rw [er]
          refine ⟨hla0, fun y => ?_⟩
          rcases stp.nw _ y with x | x
          · exact hlo (adr_fp x)
          · rw [ha4] at x
            cases x
        · exact .inl ⟨(List.mem_append.mp hn).elim id fun y => absurd (List.mem_singleton.mp y) z, fset_ne _ _ z⟩
end
end Tw
end

section
set_option Elab.async false
set_option maxRecDepth 100000
set_option maxHeartbeats 4000000
set_option autoImplicit false
/-! the law's deeds: a twig changed -/
namespace Tw
open PySem L2 Twg
abbrev s_lchanged : Stmt := top 50
theorem sc_lchanged : FnScope ["_law_well_here", "_law_state", "_law_number", "_law_shelf", "_law_twigs", "_law_holds", "_law_grid_here", "_law_told", "_law_kind", "_law_what", "_law_rows", "_law_key", "_law_value", "_law_low", "_law_top", "_law_numbers", "_law_one", "_law_label_here", "_law_inside", "_law_more", "_law_each", "_law_at"] ["_law_well_here", "_law_state", "_law_number"] (defScope s_lchanged) := ⟨rfl, rfl, rfl, by decide +kernel, rfl, by decide +kernel, by decide +kernel⟩
/-- a comprehension on whose way some things change -/
theorem lc_kp {J : It} {n : Nat} {G : Hp → Prop} {Y0 : Nat → V → Prop} {g : TG} {tt : TT} {te : TE} {vs : List Nat} {σ : L2.St} {H1 : Hp} {D : Addr} {Qd : Hp → Prop}
    (w : Walk J n G (fun i H x H' => H' = H ∧ Y0 i x)) (hD : H1 D = none) (fq : List Addr) (hq : ∀ b ∈ fq, H1 b ≠ none) (R : Nat → List V → Hp → Prop) (hn : n ≤ 100000) (hG : ∀ H', Keep fq H1 H' → G H')
    (mono : ∀ i acc H H', TS H H' → Keep [D] H H' → R i acc H → R i acc H') (h0 : R 0 [] H1)
    (hs : ∀ i x acc H', i < n → Y0 i x → Keep fq H1 H' → R i acc H' → ∀ (Kx : VK) (Ky : Hp → Prop), (∀ y H4, Keep fq H' H4 → R (i + 1) (acc ++ [y]) H4 → Kx y H4) → (∀ H3, Keep fq H' H3 → R (i + 1) acc H3 → Ky H3) →
      g x (wipe σ vs) H' fun σ2 H2 => wipe σ2 vs = wipe σ vs ∧ tt σ2 H2 fun b H3 => if b = true then te σ2 H3 Kx else Ky H3)
    (hd : ∀ acc H', Keep fq H1 H' → R n acc H' → acc.length ≤ n → H' D = some (.lst acc) → Qd H') :
    ∃ W : Nat → Nat → Hp → Prop, (∃ m, W 0 m (upd H1 D (.lst []))) ∧ ∀ i m H, W i m H →
      (J.stop i H ∧ Qd H) ∨ (J.go i H ∧ ∃ Nx : Hp → Prop, (∀ H', Nx H' → ∃ m', m' < m ∧ W (i + 1) m' H') ∧ ∀ x H', J.yld i H x H' → g x (wipe σ vs) H' fun σ2 H2 => wipe σ2 vs = wipe σ vs ∧ tt σ2 H2 fun b H3 =>
        if b = true then te σ2 H3 fun y H4 => ∃ acc, H4 D = some (.lst acc) ∧ acc.length < sizeLine ∧ Nx (upd H4 D (.lst (acc ++ [y]))) else Nx H3) := by
  have hDq : D ∉ fq := fun z => hq D z hD
  refine lc_it w (fun i H' => Keep fq H1 H' ∧ ∃ acc, acc.length ≤ i ∧ H' D = some (.lst acc) ∧ R i acc H') ⟨Keep.of_same (same_new hD), [], Nat.le_refl _, upd_same, mono 0 [] _ _ (ts_same (same_new hD)) (Keep.of_same (same_new hD)) h0⟩ (fun i H' _ p => hG H' p.1) ?_ ?_
  · rintro i x H H' hi ⟨e, acc, hl, hd, r⟩ ⟨rfl, y⟩
    refine hs i x acc H' hi y e r _ _ (fun y H4 e4 r4 => ⟨acc, e4 _ _ hd hDq, small_lt (by omega), keep_mut (e.trans e4) hD, acc ++ [y], by rw [List.length_append]; simp; omega, upd_same, mono _ _ _ _ (ts_upd fun xs z => ?_) (keep_upd (List.mem_singleton.mpr rfl)) r4⟩) fun H3 e3 r3 => ⟨e.trans e3, acc, by omega, e3 _ _ hd hDq, r3⟩
    rw [e4 _ _ hd hDq] at z
    cases z
  · rintro H' ⟨e, acc, hl, hd', r⟩
    exact hd acc H' e r hl hd'
/-- one of the law's twigs stored anew -/
theorem Ls.put {G : List Kd} {H : Hp} {W : LwA} {S S' : Shk} {n : Nat} {v : V} {l : Addr} {t : Tk} (L : Ls G H W S) (hks : S'.ks = S.ks) (hgv : S'.gv = S.gv) (hfr : S'.fr = S.fr) (htw : S'.tw = fset S.tw n t) (hv : LTw G H v l t) (hl : l ∉ [W.td, W.hd, W.tl]) : Ls G (upd H W.td (.dK (dF S.ks (fset W.tv n v)))) (tdx W n v l) S' := by
  have k : Keep [W.td] H (upd H W.td (.dK (dF S.ks (fset W.tv n v)))) := keep_upd (List.mem_singleton.mpr rfl)
  have ts : TS H (upd H W.td (.dK (dF S.ks (fset W.tv n v)))) := ts_upd fun xs z => by
    rw [L.t.t] at z
    cases z
  have hl0 : l ∉ [W.td] := fun z => hl (by rw [List.mem_singleton.mp z]; simp)
  refine ⟨⟨by rw [hks]; exact upd_same, fun m hm => ?_⟩, ?_, ?_, L.th, L.to, L.ho, fun m hm => ?_⟩
  · rw [hks] at hm
    show LTw G _ (fset W.tv n v m) (fset W.rl n l m) (S'.tw m)
    rw [htw]
    by_cases e : m = n
    · rw [e, fset_same, fset_same, fset_same]
      exact hv.keep k ts hl0
    · rw [fset_ne _ _ e, fset_ne _ _ e, fset_ne _ _ e]
      exact (L.t.v m hm).keep k ts fun z => L.r m hm (by rw [List.mem_singleton.mp z]; simp)
  · rw [hks, hfr]
    show upd H W.td _ W.hd = _
    rw [upd_ne L.th.symm]
    exact L.h
  · rw [hgv]
    show upd H W.td _ W.tl = _
    rw [upd_ne L.to.symm]
    exact L.o
  · rw [hks] at hm
    show fset W.rl n l m ∉ [W.td, W.hd, W.tl]
    by_cases e : m = n
    · rw [e, fset_same]
      exact hl
    · rw [fset_ne _ _ e]
      exact L.r m hm
/-- the labels under one stem lie within its own -/
theorem over_within : ∀ {ls : List Lab}, OverOk ls → (∀ l ∈ ls, l.Good) → ∀ l ∈ ls, (labOver ls).lo ≤ l.lo ∧ l.hi ≤ (labOver ls).hi := by
  intro ls o hg l hl
  obtain ⟨i, hi⟩ := List.getElem?_of_mem hl
  have hil := lt_of_get hi
  have h0 : 0 < ls.length := by omega
  have f0 : ls[0]? = some ls[0] := List.getElem?_eq_getElem h0
  have fl : ls[ls.length - 1]? = some ls[ls.length - 1] := List.getElem?_eq_getElem (by omega)
  have e1 : (labOver ls).lo = ls[0].lo := by
    show ((ls.head?.map (·.lo)).getD 0) = _
    rw [List.head?_eq_getElem?, f0]
    rfl
  have e2 : (labOver ls).hi = ls[ls.length - 1].hi := by
    show ((ls.getLast?.map (·.hi)).getD 0) = _
    rw [List.getLast?_eq_getElem?, fl]
    rfl
  rw [e1, e2]
  have gl := (hg l hl).a
  constructor
  · by_cases z : i = 0
    · subst z
      rw [f0] at hi
      rw [Option.some.inj hi]
      exact Nat.le_refl _
    · have := pw_get o.up (Nat.pos_of_ne_zero z) f0 hi
      have g0 := (hg _ (List.getElem_mem h0)).a
      omega
  · by_cases z : i = ls.length - 1
    · rw [z, fl] at hi
      rw [Option.some.inj hi]
      exact Nat.le_refl _
    · have := pw_get o.up (show i < ls.length - 1 by omega) hi fl
      have g1 := (hg ls[ls.length - 1] (List.getElem_mem (by omega))).a
      omega
/-- what stands under a stem: how high, how far -/
theorem kid_within {ks : List Nat} {tw : Nat → Tk} {lb : Nat → Lab} (lk : Lok ks tw lb) {n : Nat} (hn : n ∈ ks) {kd : List Nat} (c : tw n = .stem kd) {k : Nat} (hk : k ∈ kd) : (lb n).lo ≤ (lb k).lo ∧ (lb k).hi ≤ (lb n).hi := by
  obtain ⟨o, e⟩ := (lk.lo n hn).stem c
  rw [e]
  refine over_within o (fun l hl => ?_) _ (List.mem_map.mpr ⟨k, hk, rfl⟩)
  obtain ⟨m, hm, rfl⟩ := List.mem_map.mp hl
  exact lk.good (lk.cl n hn m (by rw [c]; exact hm))
theorem over_in {ls : List Lab} (o : OverOk ls) (L : Lab) (h : ∀ l ∈ ls, l.h + 1 = L.h ∧ L.lo ≤ l.lo ∧ l.hi ≤ L.hi) : (labOver ls).h = L.h ∧ L.lo ≤ (labOver ls).lo ∧ (labOver ls).hi ≤ L.hi := by
  cases ls with
  | nil =>
    have := o.ge
    simp at this
  | cons a ls =>
    have ha := h a (List.mem_cons.mpr (.inl rfl))
    refine ⟨(labOver_h o (List.mem_cons.mpr (.inl rfl))).trans ha.1, ha.2.1, ?_⟩
    show ((((a :: ls).getLast?.map (·.hi)).getD 0)) ≤ L.hi
    cases e : (a :: ls).getLast? with
    | none => simp
    | some z => exact (h z (List.mem_of_getLast? e)).2.2
def fr1 (S : Shk) (ns d : List Nat) (m : Nat) : Nat := if m ∈ d ∧ m ∉ ns then S.fr m + 1 else S.fr m
def fr2 (S : Shk) (old ns d : List Nat) (m : Nat) : Nat := if m ∈ d ∧ m ∉ old then S.fr m - 1 else if m ∈ old ∧ m ∉ ns then S.fr m + 1 else S.fr m
def spChanged (C : Addr) (G : List Kd) : Sp := fun vs H Q _ => ∃ (A : ShA) (W : LwA) (S : Shk) (st gl wl : Addr) (gs : List V) (n : Nat), vs = [.ref wl, .ref st, .int (n : Int)] ∧ StAt C G H A W S st gl gs ∧ Wf S ∧ S.gv < 63 ∧ n ∈ S.ks ∧ WlAt H wl ∧ wl ∉ adr A W S.ks ∧ gl ≠ wl ∧ spDone C G H A W S wl Q
section
variable {P : Program} {w : World} {K : PySem.W.Frag} {mg : Str → Option Value} {base : Heap} {G : List Kd} {C : Addr}
theorem df_changed (T : ClsT K C) (gr : GridOk G) (B : Bas mg) (D1 : DfG P w K mg base 2 "_law_shared" ["_law_twigs", "_law_holds", "_law_number"] (spLShared G)) (D2 : DfG P w K mg base 1 "_law_pull" ["_law_well_here", "_law_many"] spPull) (D3 : DfM P w K mg base C 7 "change_leaf" ["self", "number", "rows"] (spChLeaf C G K))
    (D4 : DfG P w K mg base 2 "_law_label" ["_law_twigs", "_law_number"] (spLLabel G)) (D5 : DfG P w K mg base 4 "_law_fits" ["_law_twigs", "_law_numbers"] (spFits G K)) (D6 : DfM P w K mg base C 6 "change_stem" ["self", "number", "numbers"] (spChStem C G K))
    (R : RawG K mg "_law_changed" s_lchanged ["_law_well_here", "_law_state", "_law_number"]) : DfG P w K mg base 8 "_law_changed" ["_law_well_here", "_law_state", "_law_number"] (spChanged C G) := by
  obtain ⟨f, fd, hm, hk, hb, F⟩ := R
  obtain ⟨_, _, m_lshared, k_lshared, b_lshared, F_lshared⟩ := D1
  obtain ⟨_, _, m_lpull, k_lpull, b_lpull, F_lpull⟩ := D2
  obtain ⟨_, _, M_change_leaf, b_change_leaf, F_change_leaf⟩ := D3
  obtain ⟨_, _, m_llabel, k_llabel, b_llabel, F_llabel⟩ := D4
  obtain ⟨_, _, m_lfits, k_lfits, b_lfits, F_lfits⟩ := D5
  obtain ⟨_, _, M_change_stem, b_change_stem, F_change_stem⟩ := D6
  refine ⟨f, fd, hm, hk, hb, F.ok sc_lchanged (fun vs H Q E h => ?_) (fun cdv Ar outer s H vs Q E hr h => ?_)⟩
  · obtain ⟨A, W, S, st, gl, wl, gs, n, rfl, _⟩ := h
    rfl
  · obtain ⟨A, W, S, st, gl, wl, gs, n, rfl, D, wf, hgv, hn, hw, hwo, hgw, q⟩ := h
    have hu := hu_of hr
    have cl := T.cl
    have nd := sc_lchanged.nd
    have hlen := wf.len
    have L := D.w.ls
    refine ⟨_, (pss_cons (ps_asg (pv 1) (pg_tup rfl (pgs_cons (pg_name (i := 3) nd rfl (by first | exact Or.inl rfl | exact Or.inr rfl)) (pgs_cons (pg_name (i := 4) nd rfl (by first | exact Or.inl rfl | exact Or.inr rfl)) (pgs_cons (pg_name (i := 5) nd rfl (by first | exact Or.inl rfl | exact Or.inr rfl)) (pgs_cons (pg_name (i := 6) nd rfl (by first | exact Or.inl rfl | exact Or.inr rfl)) (pgs_cons (pg_name (i := 7) nd rfl (by first | exact Or.inl rfl | exact Or.inr rfl)) pgs_nil)))))))
      (pss_cons (ps_asg (pe_dget hu (pv 4) (pv 2) (fun _ _ => rfl)) (pg_tup rfl (pgs_cons (pg_name (i := 8) nd rfl (by first | exact Or.inl rfl | exact Or.inr rfl)) (pgs_cons (pg_name (i := 9) nd rfl (by first | exact Or.inl rfl | exact Or.inr rfl)) pgs_nil))))
      (pss_cons (ps_if (pt_cmpR op_notN (pe_call (F_lshared.mono (by first | decide | omega)) hr rfl m_lshared k_lshared b_lshared .nil pass0 (pa_cons (pv 4) (pa_cons (pv 5) (pa_cons (pv 2) pa_nil)))) pe_non (nomark _))
        (pss_one (ps_ret pe_bl))
        pss_nil)
      (pss_cons (ps_if (pt_cmpR op_eq (pv 8) pe_str (nomark _))
        (pss_cons (ps_set (i := 10) nd rfl (by first | exact Or.inl rfl | exact Or.inr rfl) (pe_lst pa_nil))
        (pss_cons (ps_for PassesOwn.never rfl (pi_list (pv 9)) (pg_tup rfl (pgs_cons (pg_name (i := 11) nd rfl (by first | exact Or.inl rfl | exact Or.inr rfl)) (pgs_cons (pg_name (i := 12) nd rfl (by first | exact Or.inl rfl | exact Or.inr rfl)) pgs_nil)))
          (pss_one (ps_if (pt_cmpR op_gt (pe_call (F_lpull.mono (by first | decide | omega)) hr rfl m_lpull k_lpull b_lpull .nil pass0 (pa_cons (pv 0) (pa_cons pe_int pa_nil))) pe_int (nomark _))
            (pss_one (ps_expr (pe_bm PySem.F.plainAttrs_list PySem.F.slot_list_append PySem.F.type_list_append mt_append (pv 10) (pa_cons (pe_tup (pa_cons (pv 11) (pa_cons (pe_ix ix_list (pe_lst (pa_cons (pv 12) (pa_cons (pe_call (F_lpull.mono (by first | decide | omega)) hr rfl m_lpull k_lpull b_lpull .nil pass0 (pa_cons (pv 0) (pa_cons pe_int pa_nil))) pa_nil))) (pe_call (F_lpull.mono (by first | decide | omega)) hr rfl m_lpull k_lpull b_lpull .nil pass0 (pa_cons (pv 0) (pa_cons pe_int pa_nil))) (fun _ _ => rfl)) pa_nil))) pa_nil))))
            pss_nil)))
        (Evl.pss_cut (ps_if (pt_cmpR (op_eqD hr.units) (pv 10) (pe_lst pa_nil) (nomark _))
          (pss_one (ps_set (i := 10) nd rfl (by first | exact Or.inl rfl | exact Or.inr rfl) (pe_lst (pa_cons (pe_tup (pa_cons (pe_ix ix_tup (pe_ix ix_list (pv 9) pe_int (fun _ _ => rfl)) pe_int (fun _ _ => rfl)) (pa_cons pe_str pa_nil))) pa_nil))))
          pss_nil)
        (pss_cons (ps_dput hu (pv 4) (pv 2) (pe_tup (pa_cons pe_str (pa_cons (pv 10) pa_nil))) rfl)
        (pss_one (ps_ret (pe_cmpR op_isN (pe_meth (pv 3) cl M_change_leaf (F_change_leaf.mono (by first | decide | omega)) hr b_change_leaf .nil pass0 (pa_cons (pv 2) (pa_cons (pe_callTy call_list_of (by rfl) B.b_list (by decide +kernel) (pa_cons (pv 10) pa_nil)) pa_nil))) pe_non (nomark _))))))))
        pss_nil)
      (pss_cons (ps_set (i := 13) nd rfl (by first | exact Or.inl rfl | exact Or.inr rfl) (pe_bm PySem.F.plainAttrs_list PySem.F.slot_list_index PySem.F.type_list_index (mt_indexD (units65 hr)) (pv 6) (pa_cons (pe_ix ix_tup (pe_call (F_llabel.mono (by first | decide | omega)) hr rfl m_llabel k_llabel b_llabel .nil pass0 (pa_cons (pv 4) (pa_cons (pv 2) pa_nil))) pe_int (fun _ _ => rfl)) pa_nil)))
      (pss_cons (ps_set (i := 14) nd rfl (by first | exact Or.inl rfl | exact Or.inr rfl) (pe_bm PySem.F.plainAttrs_list PySem.F.slot_list_index PySem.F.type_list_index (mt_indexD (units65 hr)) (pv 6) (pa_cons (pe_ix ix_tup (pe_call (F_llabel.mono (by first | decide | omega)) hr rfl m_llabel k_llabel b_llabel .nil pass0 (pa_cons (pv 4) (pa_cons (pv 2) pa_nil))) pe_int (fun _ _ => rfl)) pa_nil)))
      (pss_cons (ps_setLc (i := 15) (own := [("_law_one", 16)]) (g := (gName 16)) (by rfl) nd rfl rfl (sw_true rfl rfl rfl (by decide +kernel)) (pi_list (pv 9)) (blkOk_by (N := ["_law_well_here", "_law_state", "_law_number", "_law_shelf", "_law_twigs", "_law_holds", "_law_grid_here", "_law_told", "_law_kind", "_law_what", "_law_rows", "_law_key", "_law_value", "_law_low", "_law_top", "_law_numbers", "_law_one", "_law_label_here", "_law_inside", "_law_more", "_law_each", "_law_at"]) (sc := defScope s_lchanged) (by decide +kernel)) (fun _ _ _ _ _ => (pg_name (i := 16) nd rfl (by first | exact Or.inl rfl | exact Or.inr rfl))) (fun _ _ _ _ _ => (pts_one (pt_cmpR op_gt (pe_call (F_lpull.mono (by first | decide | omega)) hr rfl m_lpull k_lpull b_lpull .nil pass0 (pa_cons (pv 0) (pa_cons pe_int pa_nil))) pe_int (nomark _)))) (fun _ _ _ _ _ => (pv 16)))
      (pss_cons (ps_for PassesOwn.never rfl (pi_list (pe_callB (call_sortedDI rfl) (by rfl) B.b_sorted (by decide +kernel) (pa_cons (pv 4) pa_nil))) (pg_name (i := 16) nd rfl (by first | exact Or.inl rfl | exact Or.inr rfl))
        (pss_cons (ps_set (i := 17) nd rfl (by first | exact Or.inl rfl | exact Or.inr rfl) (pe_call (F_llabel.mono (by first | decide | omega)) hr rfl m_llabel k_llabel b_llabel .nil pass0 (pa_cons (pv 4) (pa_cons (pv 16) pa_nil))))
        (Evl.pss_cut (ps_set (i := 18) nd rfl (by first | exact Or.inl rfl | exact Or.inr rfl) (pe_and (pe_cmpR op_le (pv 13) (pe_bm PySem.F.plainAttrs_list PySem.F.slot_list_index PySem.F.type_list_index (mt_indexD (units65 hr)) (pv 6) (pa_cons (pe_ix ix_tup (pv 17) pe_int (fun _ _ => rfl)) pa_nil)) (nomark _)) (pe_one (pe_cmpR op_le (pe_bm PySem.F.plainAttrs_list PySem.F.slot_list_index PySem.F.type_list_index (mt_indexD (units65 hr)) (pv 6) (pa_cons (pe_ix ix_tup (pv 17) pe_int (fun _ _ => rfl)) pa_nil)) (pv 14) (nomark _)))))
        (pss_one (ps_if (PW.pt (pw_and (pt_cmpR op_eq (pe_op op_add (pe_ix ix_tup (pv 17) pe_int (fun _ _ => rfl)) pe_int) (pe_ix ix_tup (pe_call (F_llabel.mono (by first | decide | omega)) hr rfl m_llabel k_llabel b_llabel .nil pass0 (pa_cons (pv 4) (pa_cons (pv 2) pa_nil))) pe_int (fun _ _ => rfl)) (nomark _)) (pw_and (pt_cmpR op_notIn_seq (pv 16) (pv 9) (by rfl)) (pw_and (pt_cmpR op_gt (pe_dget hu (pv 5) (pv 16) (fun _ _ => rfl)) pe_int (nomark _)) (pw_and1 (pt_val (pv 18)))))))
          (pss_cons (ps_set (i := 19) nd rfl (by first | exact Or.inl rfl | exact Or.inr rfl) (pe_callB cr_sortedP (by rfl) B.b_sorted (by decide +kernel) (pa_cons (pe_lc (own := [("_law_each", 20)]) (g := (gName 20)) (by rfl) nd (pi_list (pe_op op_cat (pv 15) (pe_lst (pa_cons (pv 16) pa_nil)))) (blkOk_by (N := ["_law_well_here", "_law_state", "_law_number", "_law_shelf", "_law_twigs", "_law_holds", "_law_grid_here", "_law_told", "_law_kind", "_law_what", "_law_rows", "_law_key", "_law_value", "_law_low", "_law_top", "_law_numbers", "_law_one", "_law_label_here", "_law_inside", "_law_more", "_law_each", "_law_at"]) (sc := defScope s_lchanged) (by decide +kernel)) (fun _ _ _ _ _ => (pg_name (i := 20) nd rfl (by first | exact Or.inl rfl | exact Or.inr rfl))) (fun _ _ _ _ _ => pts_nil) (fun _ _ _ _ _ => (pe_tup (pa_cons (pe_bmL (K := K) (pe_bm PySem.F.plainAttrs_list PySem.F.slot_list_index PySem.F.type_list_index (mt_indexDK (K := K) (units65 hr)) (pv 6) (pa_cons (pe_ix (ix_tupK (K := K)) (pe_call (F_llabel.mono (by first | decide | omega)) hr rfl m_llabel k_llabel b_llabel .nil pass0 (pa_cons (pv 4) (pa_cons (pv 20) pa_nil))) pe_int (fun _ _ => rfl)) pa_nil)) rfl) (pa_cons (pv 20) pa_nil))))) pa_nil)))
          (pss_one (ps_if (PW.pt (pw_or (pt_cmpR op_lt (pe_callB call_len_seq (by rfl) B.b_len PySem.boot_len (pa_cons (pv 19) pa_nil)) pe_int (nomark _)) (pw_or1 (pt_val (pe_call (F_lfits.mono (by first | decide | omega)) hr rfl m_lfits k_lfits b_lfits .nil pass0 (pa_cons (pv 4) (pa_cons (pe_lc (own := [("_law_at", 21), ("_law_each", 20)]) (g := (gTup K 2 (gCons (gName 21) (gCons (gName 20) gNil)))) (by rfl) nd (pi_list (pv 19)) (blkOk_by (N := ["_law_well_here", "_law_state", "_law_number", "_law_shelf", "_law_twigs", "_law_holds", "_law_grid_here", "_law_told", "_law_kind", "_law_what", "_law_rows", "_law_key", "_law_value", "_law_low", "_law_top", "_law_numbers", "_law_one", "_law_label_here", "_law_inside", "_law_more", "_law_each", "_law_at"]) (sc := defScope s_lchanged) (by decide +kernel)) (fun _ _ _ _ _ => (pg_tup rfl (pgs_cons (pg_name (i := 21) nd rfl (by first | exact Or.inl rfl | exact Or.inr rfl)) (pgs_cons (pg_name (i := 20) nd rfl (by first | exact Or.inl rfl | exact Or.inr rfl)) pgs_nil)))) (fun _ _ _ _ _ => pts_nil) (fun _ _ _ _ _ => (pv 20))) pa_nil)))))))
            (pss_one (ps_setLc (i := 15) (own := [("_law_at", 21), ("_law_each", 20)]) (g := (gTup K 2 (gCons (gName 21) (gCons (gName 20) gNil)))) (by rfl) nd rfl rfl (sw_true rfl rfl rfl (by decide +kernel)) (pi_list (pv 19)) (blkOk_by (N := ["_law_well_here", "_law_state", "_law_number", "_law_shelf", "_law_twigs", "_law_holds", "_law_grid_here", "_law_told", "_law_kind", "_law_what", "_law_rows", "_law_key", "_law_value", "_law_low", "_law_top", "_law_numbers", "_law_one", "_law_label_here", "_law_inside", "_law_more", "_law_each", "_law_at"]) (sc := defScope s_lchanged) (by decide +kernel)) (fun _ _ _ _ _ => (pg_tup rfl (pgs_cons (pg_name (i := 21) nd rfl (by first | exact Or.inl rfl | exact Or.inr rfl)) (pgs_cons (pg_name (i := 20) nd rfl (by first | exact Or.inl rfl | exact Or.inr rfl)) pgs_nil)))) (fun _ _ _ _ _ => pts_nil) (fun _ _ _ _ _ => (pv 20))))
            pss_nil)))
          pss_nil)))))
      (pss_cons (ps_if (pt_not (pt_val (pe_call (F_lfits.mono (by first | decide | omega)) hr rfl m_lfits k_lfits b_lfits .nil pass0 (pa_cons (pv 4) (pa_cons (pv 15) pa_nil)))))
        (pss_one (ps_ret pe_bl))
        pss_nil)
      (pss_cons (ps_for PassesOwn.never rfl (pi_list (pv 9)) (pg_name (i := 16) nd rfl (by first | exact Or.inl rfl | exact Or.inr rfl))
        (pss_one (ps_dput hu (pv 5) (pv 16) (pe_op op_add (pe_dget hu (pv 5) (pv 16) (fun _ _ => rfl)) (pe_callTy call_int1 (by rfl) B.b_int (by decide +kernel) (pa_cons (pe_cmpR op_notIn_seq (pv 16) (pv 15) (by rfl)) pa_nil))) rfl)))
      (pss_cons (ps_for PassesOwn.never rfl (pi_list (pv 15)) (pg_name (i := 16) nd rfl (by first | exact Or.inl rfl | exact Or.inr rfl))
        (pss_one (ps_dput hu (pv 5) (pv 16) (pe_op op_sub (pe_dget hu (pv 5) (pv 16) (fun _ _ => rfl)) (pe_callTy call_int1 (by rfl) B.b_int (by decide +kernel) (pa_cons (pe_cmpR op_notIn_seq (pv 16) (pv 9) (by rfl)) pa_nil))) rfl)))
      (pss_cons (ps_dput hu (pv 4) (pv 2) (pe_tup (pa_cons pe_str (pa_cons (pv 15) pa_nil))) rfl)
      (pss_one (ps_ret (pe_cmpR op_isN (pe_meth (pv 3) cl M_change_stem (F_change_stem.mono (by first | decide | omega)) hr b_change_stem .nil pass0 (pa_cons (pv 2) (pa_cons (pe_callTy call_list_of (by rfl) B.b_list (by decide +kernel) (pa_cons (pv 15) pa_nil)) pa_nil))) pe_non (nomark _)))))))))))))))), ?_⟩
    refine ⟨_, rfl, st, _, rfl, SqT.of D.s, rfl, _, _, rfl, _, _, rfl, _, _, rfl, _, _, rfl, _, _, rfl, rfl, ?_⟩
    have nwl : ∀ {b : Addr}, b ∈ adr A W S.ks → b ∉ [wl] := fun hb z => hwo ((List.mem_singleton.mp z) ▸ hb)
    obtain ⟨p, kind, ws, hv, hp, hl, hs⟩ := L.t.v n hn
    refine ⟨_, rfl, _, rfl, W.td, _, rfl, dget L.t.t hn, p, _, hv, SqT.of hp, rfl, _, _, rfl, _, _, rfl, rfl, ?_⟩
    have kwl : ∀ {H' : Hp}, Keep [wl] H H' → Keep (wl :: wfp A W S.ks) H H' := fun k => k.mono fun b hb => List.mem_cons.mpr (.inl (List.mem_singleton.mp hb))
    refine ⟨_, rfl, _, rfl, _, rfl, W.td, W.hd, W.tv, W.rl, S, n, rfl, L.t, L.h, wf.toW0, hn, by omega, fun hal H1 e1 => ⟨rfl, _, rfl, iteF ?_⟩, fun nal m H1 e1 => ⟨rfl, _, rfl, fin_of q D.w (D.w.sh.same e1) (L.same e1) rfl rfl rfl rfl rfl (Keep.of_same e1) (fun b hb => .inl hb) (fun m hm => .inl ⟨hm, rfl⟩) wf (Nat.le_succ _) (fun h _ => h.same e1)⟩⟩
    have w1 := hw.same e1
    cases c : S.tw n with
    | leaf r =>
      rw [c] at hs
      obtain ⟨rfl, hrw⟩ := hs
      have okr := (wf.lk.lo n hn).leaf c
      refine ⟨_, rfl, rfl, true, blT rfl, ?_⟩
      refine ⟨szn 0, fun fa hfa => ?_⟩
      have e12 : Same H1 (upd H1 fa (.lst [])) := same_new hfa
      have h2f : upd H1 fa (.lst []) fa = some (.lst []) := upd_same
      have hfa0 := same_free e1 hfa
      have nfw : fa ≠ wl := fun z => hw.no (z ▸ hfa0)
      have nfw' : fa ∉ [wl] := by simpa using nfw
      have e02 := e1.trans e12
      have w2 := w1.same e12
      generalize upd H1 fa (.lst []) = H2 at e12 h2f e02 w2
      have hl2 := e02 _ _ hl
      have hrll := hrw.len
      refine ⟨_, rfl, W.rl n, rfl, ⟨_, SqL.of hl2⟩, for_it (walk_list (K := K) (a := W.rl n) (xs := ws)) (fun i σ H' => ∃ (x11 x12 : Option V) (ys : List V) (qq : List (Nat × Kd)), σ = [some (.ref wl), some (.ref st), some (.int (n : Int)), some (.ref A.p), some (.ref W.td), some (.ref W.hd), some (.ref gl), some (.ref W.tl), some (.str "leaf"), some (.ref (W.rl n)), some (.ref fa), x11, x12, none, none, none, none, none, none, none, none, none] ∧
        Keep [wl] H H' ∧ WlAt H' wl ∧ H' fa = some (.lst ys) ∧ RowsV G H' ys qq ∧ (qq.map (·.1)).Sublist ((r.take i).map (·.1))) ⟨none, none, [], [], rfl, Keep.of_same e02, w2, h2f, .nil, List.nil_sublist _⟩ (fun i σ H' _ ⟨_, _, _, _, _, k, _⟩ => SqL.of (k _ _ hl (nwl (adr_r hn)))) ?_ ?_⟩
      · rintro i y σ _ H3 hi ⟨x11, x12, ys, qq, rfl, k3, w3, h3, hR, hsub⟩ ⟨rfl, hy⟩
        have ts3 := hw.ts k3
        obtain ⟨row, hrow, hrv⟩ := paired_get hrw i y hy
        obtain ⟨t, a1, b1, rfl, ht, ha, hb1, h64, hvo⟩ := hrv.ts ts3
        have hmap : (r.take (i + 1)).map (·.1) = (r.take i).map (·.1) ++ [row.1] := by rw [take_snoc hrow, List.map_append]; rfl
        refine ⟨t, _, rfl, SqT.of ht, rfl, _, _, rfl, _, _, rfl, rfl, ?_⟩
        refine ⟨_, rfl, wl, 3, rfl, by omega, by omega, w3, fun rr H4 hr4 k4 w4 => ⟨_, _, rfl, rfl, ?_⟩⟩
        have k04 := k3.trans k4
        have ts4 := w3.ts k4
        have h4 := k4 _ _ h3 nfw'
        by_cases c0 : rr = 0
        · refine ⟨false, blF (by omega), iteF ⟨_, _, ys, qq, rfl, k04, w4, h4, hR.ts ts4, ?_⟩⟩
          rw [hmap]
          exact hsub.trans (List.sublist_append_left _ _)
        · refine ⟨true, blT (by omega), ?_⟩
          refine ⟨_, rfl, .inl ⟨rfl, _, SqL.of h4⟩, ?_⟩
          refine ⟨_, rfl, _, rfl, _, rfl, wl, 9, rfl, by omega, by omega, w4, fun v9 H5 hr5 k5 w5 => ⟨szn 2, fun pl hpl => ?_⟩⟩
          have e56 : Same H5 (upd H5 pl (.lst [b1, .int (v9 : Int)])) := same_new hpl
          have h6l : upd H5 pl (.lst [b1, .int (v9 : Int)]) pl = some (.lst [b1, .int (v9 : Int)]) := upd_same
          have w6 := w5.same e56
          have npl : pl ∉ [wl] := fun z => w5.no ((List.mem_singleton.mp z) ▸ hpl)
          refine ⟨_, rfl, wl, 2, rfl, by omega, by omega, w6, fun z H7 hz k7 w7 => ?_⟩
          have ts47 : TS H4 H7 := ((w4.ts k5).trans (ts_same e56)).trans (w6.ts k7)
          have k47 : Keep [wl] H4 H7 := (k5.trans (Keep.of_same e56)).trans k7
          obtain ⟨vv, kk, hvv, hkv, hko⟩ : ∃ vv kk, ([b1, .int (v9 : Int)] : List V)[z]? = some vv ∧ KdV H7 vv kk ∧ kk.Ok := by
            have cz : z = 0 ∨ z = 1 := by omega
            rcases cz with z | z <;> subst z
            · exact ⟨_, row.2, rfl, hb1.ts (ts4.trans ts47), hvo⟩
            · exact ⟨_, .at (.i (v9 : Int)), rfl, rfl, by omega, by omega⟩
          refine ⟨pl, _, _, vv, rfl, rfl, SqL.of (k7 _ _ h6l npl), atI_nat hvv, szn 2, fun pt hpt => ?_⟩
          have e78 : Same H7 (upd H7 pt (.tup [a1, vv])) := same_new hpt
          have h8f := e78 _ _ (k47 _ _ h4 nfw')
          have hyl := hR.len
          have hql : qq.length ≤ i := by
            have := hsub.length_le
            rw [List.length_map, List.length_map, List.length_take] at this
            omega
          have hr4 := okr.1.le
          refine ⟨fa, _, _, rfl, rfl, h8f, small_lt (by omega), ?_⟩
          have ts89 : TS (upd H7 pt (.tup [a1, vv])) (upd (upd H7 pt (.tup [a1, vv])) fa (.lst (ys ++ [.ref pt]))) := ts_upd fun xs z => by
            rw [h8f] at z
            cases z
          have ts49 := (ts47.trans (ts_same e78)).trans ts89
          refine ⟨_, _, ys ++ [.ref pt], qq ++ [(row.1, kk)], rfl, keep_mut ((k04.trans k47).trans (Keep.of_same e78)) hfa0, ?_, upd_same, rowsV_snoc (hR.ts ts4) ts49 (ts89 _ _ upd_same) (ha.ts (ts4.trans ts49)) (hkv.ts ((ts_same e78).trans ts89)) h64 hko, ?_⟩
          · obtain ⟨y1, y2, y3, y4, ew, rest⟩ := w7.same e78
            exact ⟨y1, y2, y3, y4, by rw [upd_ne nfw.symm]; exact ew, rest⟩
          · rw [hmap, List.map_append]
            exact hsub.append (List.Sublist.refl _)
      rintro σ H3 ⟨x11, x12, ys, qq, rfl, k3, w3, h3, hR, hsub⟩
      rw [take_all (by omega)] at hsub
      refine ⟨fun σ' H' => ∃ (fb : Addr) (ys : List V) (qq : List (Nat × Kd)), σ' = [some (.ref wl), some (.ref st), some (.int (n : Int)), some (.ref A.p), some (.ref W.td), some (.ref W.hd), some (.ref gl), some (.ref W.tl), some (.str "leaf"), some (.ref (W.rl n)), some (.ref fb), x11, x12, none, none, none, none, none, none, none, none, none] ∧
        Keep [wl] H H' ∧ WlAt H' wl ∧ H fb = none ∧ H' fb = some (.lst ys) ∧ RowsV G H' ys qq ∧ (qq.map (·.1)).Sublist (r.map (·.1)) ∧ qq ≠ [], ?_, ?_⟩
      · refine ⟨_, rfl, szn 0, fun e1 he1 => ⟨_, _, .lst (SqL.of ((same_new he1) _ _ h3)) (DtAll.dp _ _ (DtAll.ts (ts_same (same_new he1)) _ _ (rows_dt hR))), nil_dp (SqL.of upd_same), shaped_rows gr hR.in_, shaped_nil, qq.isEmpty, congrArg V.bl (rows_nil G qq), ?_⟩⟩
        have e34 : Same H3 (upd H3 e1 (.lst [])) := same_new he1
        have k4 := k3.trans (Keep.of_same e34)
        have w4 := w3.same e34
        generalize upd H3 e1 (.lst []) = H4 at e34 k4 w4
        cases qq with
        | cons r0 rs => exact iteF ⟨fa, ys, r0 :: rs, rfl, k4, w4, hfa0, e34 _ _ h3, hR.ts (ts_same e34), hsub, by simp⟩
        | nil =>
          cases r with
          | nil =>
            have := okr.1.ne
            simp at this
          | cons r0 rs =>
            obtain ⟨y0, hy0, hrv⟩ := paired_get2 hrw 0 r0 rfl
            have ts4 := hw.ts k4
            obtain ⟨p0, a0, b0, rfl, hp0, ha0, _, h64, _⟩ := hrv.ts ts4
            refine ⟨_, rfl, W.rl n, ws, _, _, rfl, rfl, SqL.of (k4 _ _ hl (nwl (adr_r hn))), atI_nat (j := 0) hy0, p0, _, _, _, rfl, rfl, SqT.of hp0, atI_nat (j := 0) rfl, szn 2, fun pt hpt => ⟨szn 1, fun fb hfb => ?_⟩⟩
            have e45 : Same H4 (upd H4 pt (.tup [a0, .str "z"])) := same_new hpt
            have e56 : Same (upd H4 pt (.tup [a0, .str "z"])) (upd (upd H4 pt (.tup [a0, .str "z"])) fb (.lst [.ref pt])) := same_new hfb
            have e46 := e45.trans e56
            refine ⟨fb, [.ref pt], [(r0.1, .at (.s "z"))], rfl, k4.trans (Keep.of_same e46), w4.same e46, (w4.same e45).free (k4.trans (Keep.of_same e45)) hfb, upd_same, .cons ⟨pt, a0, _, rfl, e56 _ _ upd_same, ha0.ts (ts_same e46), rfl, h64, ⟨by decide +kernel, by decide +kernel⟩⟩ .nil, ?_, by simp⟩
            exact (List.nil_sublist (rs.map (·.1))).cons_cons r0.1
      rintro σ' H4 ⟨fb, ys, qq, rfl, k4, w4, hfb0, h4, hR, hsub, hqn⟩
      obtain ⟨okq, ohq, oloq, ohiq⟩ := rows_sub okr.1 hsub hqn
      have ts4 := hw.ts k4
      have D4 := D.pull hw k4 hwo hgw
      have hfo := D.w.out hfb0
      have hfw : fb ∉ [W.td, W.hd, W.tl] := fun z => hfo (adr_w z)
      refine ⟨_, rfl, szn 2, fun pt hpt => ?_⟩
      have e45 : Same H4 (upd H4 pt (.tup [.str "leaf", .ref fb])) := same_new hpt
      have D5 := D4.same e45
      have h5p : upd H4 pt (.tup [.str "leaf", .ref fb]) pt = some (.tup [.str "leaf", .ref fb]) := upd_same
      have h5f := e45 _ _ h4
      have k05 := k4.trans (Keep.of_same e45)
      have hR5 := hR.ts (ts_same e45)
      generalize upd H4 pt (.tup [.str "leaf", .ref fb]) = H5 at e45 D5 h5p h5f k05 hR5
      have L5 := D5.w.ls
      refine ⟨_, rfl, _, rfl, W.td, _, rfl, dput L5.t.t hn (by omega), ?_⟩
      have lt5 : LTw G H5 (.ref pt) fb (.leaf qq) := ⟨pt, "leaf", ys, rfl, h5p, h5f, rfl, hR5⟩
      have k6 : Keep [W.td] H5 (upd H5 W.td (.dK (dF S.ks (fset W.tv n (.ref pt))))) := keep_upd (List.mem_singleton.mpr rfl)
      have ts6 : TS H5 (upd H5 W.td (.dK (dF S.ks (fset W.tv n (.ref pt))))) := ts_upd fun xs z => by
        rw [L5.t.t] at z
        cases z
      have hdn : ∀ b ∈ A.fp S.ks, b ∉ [W.td] := fun b hb z => D.w.d b hb (by rw [List.mem_singleton.mp z]; simp)
      have D6 := D5.w.sh.keep k6 ts6 hdn
      have h6f := k6 _ _ h5f fun z => hfw (by rw [List.mem_singleton.mp z]; simp)
      have Lput : ∀ LL, Ls G (upd H5 W.td (.dK (dF S.ks (fset W.tv n (.ref pt))))) (tdx W n (.ref pt) fb) (S.setLeaf n qq LL) := fun LL => L5.put rfl rfl rfl rfl lt5 hfw
      generalize upd H5 W.td (.dK (dF S.ks (fset W.tv n (.ref pt)))) = H6 at k6 ts6 D6 h6f Lput
      refine ⟨_, rfl, A.p, A.dx, _, rfl, D6.ob, fl_no _ _ (by decide +kernel), _, rfl, _, rfl, fb, ys, rfl, .inl (SqL.of h6f), fun l2 hl2 => ?_⟩
      have e67 : Same H6 (upd H6 l2 (.lst ys)) := same_new hl2
      have D7 := D6.same e67
      refine ⟨A, S, n, l2, ys, qq, r, rfl, D7, wf.toW0, hn, c, hal, SqL.of upd_same, hR5.ts (ts6.trans (ts_same e67)), okq, by rw [okr.2]; exact oloq, by rw [okr.2]; exact ohiq, by omega, fun H8 A8 L8 stp lok => ⟨rfl, ?_⟩⟩
      have Lq := ((Lput L8).same e67).keep stp.kp (stp.kp.ts D7.noTup) (fun b hb z => D.w.d b z hb) fun m hm z => by
        have z : fset W.rl n fb m ∈ A.fp S.ks := z
        by_cases e : m = n
        · rw [e, fset_same] at z
          exact hfo (adr_fp z)
        · rw [fset_ne _ _ e] at z
          exact D.w.r m hm z
      refine fin_of q D.w stp.at_ Lq stp.p stp.sn rfl rfl rfl ((((kwl k05).trans (k6.mono fun b hb => ?_)).trans (Keep.of_same e67)).trans (stp.kp.mono fun b hb => ?_)) (fun b hb => (stp.nw b hb).imp id fun z => ?_) (fun m hm => ?_) (wf.setLeaf c lok) (Nat.le_succ _) (fun _ ho => (((w4.same e45).keep k6 fun z => ho (adr_w (by rw [List.mem_singleton.mp z]; simp))).same e67).keep stp.kp fun z => ho (adr_fp z))
      · rw [List.mem_singleton.mp hb]
        exact List.mem_cons.mpr (.inr (List.mem_append.mpr (.inr (by simp))))
      · exact List.mem_cons.mpr (.inr (List.mem_append.mpr (.inl hb)))
      · have z6 := same_free e67 z
        have z5 := keep_free k6 z6 fun y => by
          rw [List.mem_singleton.mp y] at z6
          have := (Lput L8).t.t
          rw [show (tdx W n (.ref pt) fb).td = W.td from rfl, z6] at this
          cases this
        exact (w4.same e45).free k05 z5
      · by_cases e : m = n
        · refine .inr ?_
          have er : (tdx W n (.ref pt) fb).rl m = fb := by
            rw [e]
            exact fset_same _ _ _
          rw [er]
          refine ⟨hfb0, fun y => ?_⟩
          rcases stp.nw _ y with x | x
          · exact hfo (adr_fp x)
          · rw [e67 _ _ h6f] at x
            cases x
        · exact .inl ⟨hm, fset_ne _ _ e⟩
    | stem old =>
      rw [c] at hs
      obtain ⟨rfl, rfl⟩ := hs
      refine ⟨_, rfl, rfl, false, blF (by decide +kernel), iteF ?_⟩
      have hls : ∀ {H' : Hp}, Keep [wl] H H' → H' (W.rl n) = some (.lst (nvs old)) := fun k => k _ _ hl (nwl (adr_r hn))
      have gn := wf.lk.good hn
      have D1 := D.same e1
      -- the twig's own label, twice
      have low0 := D1.g.l
      refine ⟨_, rfl, .inl ⟨rfl, _, SqL.of low0⟩, _, rfl, _, rfl, W.td, S.ks, W.tv, W.rl, S.tw, S.lb, n, rfl, D1.w.ls.t, wf.lk, hn, fun lv H2 e2 l2 => ?_⟩
      obtain ⟨p2, a2, b2, rfl, hp2, ha2, hb2⟩ := l2
      have D2 := D1.same e2
      obtain ⟨dd, ds, zz, u1, u2, u3, u4, u5, u6, u7⟩ := index_parts (K := K) gr D2.g gn.lo64 ha2
      refine ⟨p2, _, _, _, rfl, rfl, SqT.of hp2, atI_nat (j := 1) rfl, gl, _, dd, ds, _, zz, rfl, rfl, u1, u2, u3, u4, u5, u6, u7, ?_⟩
      refine ⟨_, rfl, .inl ⟨rfl, _, SqL.of D2.g.l⟩, _, rfl, _, rfl, W.td, S.ks, W.tv, W.rl, S.tw, S.lb, n, rfl, D2.w.ls.t, wf.lk, hn, fun lv H3 e3 l3 => ?_⟩
      obtain ⟨p3, a3, b3, rfl, hp3, ha3, hb3⟩ := l3
      have D3 := D2.same e3
      obtain ⟨dd, ds, zz, u1, u2, u3, u4, u5, u6, u7⟩ := index_parts (K := K) gr D3.g gn.b hb3
      refine ⟨p3, _, _, _, rfl, rfl, SqT.of hp3, atI_nat (j := 2) rfl, gl, _, dd, ds, _, zz, rfl, rfl, u1, u2, u3, u4, u5, u6, u7, ?_⟩
      have e03 := (e1.trans e2).trans e3
      have w3 := hw.same e03
      have k03 : Keep [wl] H H3 := Keep.of_same e03
      -- some of the branches
      have hkold : ∀ k ∈ old, k ∈ S.ks ∧ (S.lb k).h + 1 = (S.lb n).h := fun k hk => by
        have hk' : k ∈ (S.tw n).kids := by
          rw [c]
          exact hk
        exact ⟨wf.lk.cl n hn k hk', (wf.lk.kid_h hn hk').symm⟩
      have holdl : old.length ≤ 4 := by
        have := wf.lk.kids_le hn
        rw [c] at this
        exact this
      have hond : old.Nodup := by
        have := wf.lk.kids_nd hn
        rw [c] at this
        exact this
      refine ⟨_, rfl, W.rl n, rfl, ⟨_, SqL.of (hls k03)⟩, fun la hla => ?_⟩
      have hlaw : la ≠ wl := fun z => w3.no (z ▸ hla)
      refine lc_kp (walk_list (K := K) (a := W.rl n) (xs := nvs old)) hla [wl] (fun b hb z => w3.no ((List.mem_singleton.mp hb) ▸ z)) (fun i acc H' => WlAt H' wl ∧ ∃ l, acc = nvs l ∧ l.length ≤ i ∧ ∀ k ∈ l, k ∈ old) (by rw [nvs_len]; omega) (fun H' k => SqL.of (hls (k03.trans k)))
        (fun i acc H H' _ k r => ⟨r.1.keep k (by simpa using Ne.symm hlaw), r.2⟩) ⟨w3, [], rfl, Nat.le_refl _, fun _ h => by cases h⟩ ?_ ?_
      · rintro i y acc H' hi hy k ⟨wk, l, rfl, hll, hlk⟩ Kx Ky kx ky
        obtain ⟨b, hb', rfl⟩ := nvs_get hy
        refine ⟨rfl, _, rfl, wl, 4, rfl, by omega, by omega, wk, fun rr H4 hr4 k4 w4 => ⟨_, _, rfl, rfl, decide ((0 : Int) < (rr : Int)), rfl, ?_⟩⟩
        by_cases z : (0 : Int) < (rr : Int)
        · rw [decide_eq_true z]
          refine ⟨_, rfl, kx _ _ k4 ⟨w4, l ++ [b], nvs_snoc _ _, by rw [List.length_append, List.length_singleton]; omega, fun x hx => ?_⟩⟩
          rcases List.mem_append.mp hx with y | y
          · exact hlk x y
          · rw [List.mem_singleton.mp y]
            exact List.mem_of_getElem? hb'
        · rw [decide_eq_false z]
          exact iteF (ky _ k4 ⟨w4, l, rfl, by omega, hlk⟩)
      rintro acc H4 k4 ⟨w4, l0, rfl, hl0, hl0k⟩ hacl hd4
      have k04 := k03.trans k4
      have hla0 := same_free e03 hla
      -- what may stand under the stem
      obtain ⟨GN, hGN⟩ : ∃ GN : Nat → Prop, GN = fun k => k ∈ S.ks ∧ (k ∉ old → S.fr k ≠ 0) ∧ (S.lb k).h + 1 = (S.lb n).h ∧ (S.lb n).lo ≤ (S.lb k).lo ∧ (S.lb k).hi ≤ (S.lb n).hi := ⟨_, rfl⟩
      have gnold : ∀ k ∈ old, GN k := fun k hk => by
        rw [hGN]
        obtain ⟨x1, x2⟩ := hkold k hk
        obtain ⟨x3, x4⟩ := kid_within wf.lk hn c hk
        exact ⟨x1, fun z => absurd hk z, x2, x3, x4⟩
      have gnks : ∀ {k : Nat}, GN k → k ∈ S.ks := fun h => by
        rw [hGN] at h
        exact h.1
      have ht4 := k04 _ _ L.t.t (nwl (adr_w (by simp)))
      refine ⟨_, rfl, W.td, _, S.ks.map (fun k : Nat => (k : Int)), rfl, .of ht4, dF_keys _ _, by rw [List.length_map]; omega, fun ys p9 hp9 hs9 hn9 => ?_⟩
      rw [sorted_eq hp9 hs9 (asc_int wf.asc), nvs_eq]
      have e45 : Same H4 (upd H4 p9 (.lst (nvs S.ks))) := same_new hn9
      have h5p : upd H4 p9 (.lst (nvs S.ks)) p9 = some (.lst (nvs S.ks)) := upd_same
      have k05 := k04.trans (Keep.of_same e45)
      have w5 := w4.same e45
      have h5a := e45 _ _ hd4
      have hp90 := w4.free k04 hn9
      generalize upd H4 p9 (.lst (nvs S.ks)) = H5 at e45 h5p k05 w5 h5a
      refine ⟨p9, rfl, ⟨_, SqL.of h5p⟩, for_it (walk_list (K := K) (a := p9) (xs := nvs S.ks)) (fun i σ H' => ∃ (x10 x11 x12 x16 x17 x18 x19 x20 x21 : Option V) (nl : Addr) (ns : List Nat), σ = [some (.ref wl), some (.ref st), some (.int (n : Int)), some (.ref A.p), some (.ref W.td), some (.ref W.hd), some (.ref gl), some (.ref W.tl), some (.str "stem"), some (.ref (W.rl n)), x10, x11, x12, some (.int ((S.lb n).lo : Int)), some (.int ((S.lb n).hi : Int)), some (.ref nl), x16, x17, x18, x19, x20, x21] ∧
        Same H5 H' ∧ H nl = none ∧ H' nl = some (.lst (nvs ns)) ∧ (∀ k ∈ ns, GN k) ∧ ns.length ≤ 4 + i) ⟨_, _, _, _, _, _, _, _, _, la, l0, rfl, Same.refl _, hla0, h5a, fun k hk => gnold k (hl0k k hk), by rw [nvs_len] at hl0; omega⟩ (fun i σ H' _ ⟨_, _, _, _, _, _, _, _, _, _, _, _, e, _⟩ => SqL.of (e _ _ h5p)) ?_ ?_⟩
      · rintro i y σ _ H6 hi ⟨x10, x11, x12, x16, x17, x18, x19, x20, x21, nl, ns, rfl, e6, hnl0, hnl, hns, hnsl⟩ ⟨rfl, hy⟩
        obtain ⟨b, hb', rfl⟩ := nvs_get hy
        have hbk := List.mem_of_getElem? hb'
        have gb := wf.lk.good hbk
        have hi64 : i < 64 := by
          have := lt_of_get hb'
          omega
        have k06 := k05.trans (Keep.of_same e6)
        have D6 := D.pull hw k06 hwo hgw
        refine ⟨_, rfl, _, rfl, W.td, S.ks, W.tv, W.rl, S.tw, S.lb, b, rfl, D6.w.ls.t, wf.lk, hbk, fun lv H7 e7 l7 => ?_⟩
        obtain ⟨p7, a7, b7, rfl, hp7, ha7, hb7⟩ := l7
        have D7 := D6.same e7
        have e57 := e6.trans e7
        have hnl7 := e7 _ _ hnl
        -- it stands within
        refine ⟨fun σ' H' => ∃ ins : Bool, σ' = [some (.ref wl), some (.ref st), some (.int (n : Int)), some (.ref A.p), some (.ref W.td), some (.ref W.hd), some (.ref gl), some (.ref W.tl), some (.str "stem"), some (.ref (W.rl n)), x10, x11, x12, some (.int ((S.lb n).lo : Int)), some (.int ((S.lb n).hi : Int)), some (.ref nl), some (.int (b : Int)), some (.ref p7), some (.bl ins), x19, x20, x21] ∧ H' = H7 ∧ (ins = true → (S.lb n).lo ≤ (S.lb b).lo ∧ (S.lb b).hi ≤ (S.lb n).hi), ?_, ?_⟩
        · obtain ⟨dd, ds, zz, u1, u2, u3, u4, u5, u6, u7⟩ := index_parts (K := K) gr D7.g gb.lo64 ha7
          refine ⟨_, rfl, _, rfl, .inl ⟨rfl, _, SqL.of D7.g.l⟩, _, rfl, p7, _, _, _, rfl, rfl, SqT.of hp7, atI_nat (j := 1) rfl, gl, _, dd, ds, _, zz, rfl, rfl, u1, u2, u3, u4, u5, u6, u7, _, _, rfl, rfl, ?_⟩
          by_cases c1 : ((S.lb n).lo : Int) ≤ ((S.lb b).lo : Int)
          · refine ⟨true, blT c1, ?_⟩
            obtain ⟨dd, ds, zz, u1, u2, u3, u4, u5, u6, u7⟩ := index_parts (K := K) gr D7.g gb.b hb7
            refine ⟨_, rfl, .inl ⟨rfl, _, SqL.of D7.g.l⟩, _, rfl, p7, _, _, _, rfl, rfl, SqT.of hp7, atI_nat (j := 2) rfl, gl, _, dd, ds, _, zz, rfl, rfl, u1, u2, u3, u4, u5, u6, u7, _, rfl, _, _, rfl, rfl, ?_⟩
            refine ⟨_, rfl, rfl, fun z => ⟨by omega, ?_⟩⟩
            have := of_decide_eq_true z
            omega
          · exact ⟨false, blF c1, _, rfl, rfl, fun z => by cases z⟩
        rintro σ' _ ⟨ins, rfl, rfl, hins⟩
        have stayI : ∀ {H' : Hp}, Same H5 H' → H' nl = some (.lst (nvs ns)) → ∃ (x10' x11' x12' x16' x17' x18' x19' x20' x21' : Option V) (nl' : Addr) (ns' : List Nat), ([some (.ref wl), some (.ref st), some (.int (n : Int)), some (.ref A.p), some (.ref W.td), some (.ref W.hd), some (.ref gl), some (.ref W.tl), some (.str "stem"), some (.ref (W.rl n)), x10, x11, x12, some (.int ((S.lb n).lo : Int)), some (.int ((S.lb n).hi : Int)), some (.ref nl), some (.int (b : Int)), some (.ref p7), some (.bl ins), x19, x20, x21] : L2.St) = [some (.ref wl), some (.ref st), some (.int (n : Int)), some (.ref A.p), some (.ref W.td), some (.ref W.hd), some (.ref gl), some (.ref W.tl), some (.str "stem"), some (.ref (W.rl n)), x10', x11', x12', some (.int ((S.lb n).lo : Int)), some (.int ((S.lb n).hi : Int)), some (.ref nl'), x16', x17', x18', x19', x20', x21'] ∧
            Same H5 H' ∧ H nl' = none ∧ H' nl' = some (.lst (nvs ns')) ∧ (∀ k ∈ ns', GN k) ∧ ns'.length ≤ 4 + (i + 1) := fun e h => ⟨_, _, _, _, _, _, _, _, _, nl, ns, rfl, e, hnl0, h, hns, by omega⟩
        refine ⟨_, rfl, p7, _, _, _, rfl, rfl, SqT.of hp7, atI_nat (j := 0) rfl, _, _, rfl, rfl, ?_⟩
        refine ⟨_, rfl, _, rfl, W.td, S.ks, W.tv, W.rl, S.tw, S.lb, n, rfl, D7.w.ls.t, wf.lk, hn, fun lv H8 e8 l8 => ?_⟩
        obtain ⟨p8, a8, b8, rfl, hp8, ha8, hb8⟩ := l8
        have D8 := D7.same e8
        have e58 := e57.trans e8
        have hnl8 := e8 _ _ hnl7
        refine ⟨p8, _, _, _, rfl, rfl, SqT.of hp8, atI_nat (j := 0) rfl, rfl, ?_⟩
        by_cases ch : (S.lb b).h + 1 = (S.lb n).h
        rotate_left
        · exact ⟨false, blF (fun z => ch (by have := V.int.inj z; omega)), iteF (iteF (stayI e58 hnl8))⟩
        refine ⟨true, blT (by rw [← ch]; rfl), ?_⟩
        refine ⟨_, rfl, _, rfl, W.rl n, nvs old, rfl, .inl (SqL.of (hls (k05.trans (Keep.of_same e58)))), rfl, flat_nvs _, !decide (b ∈ old), by rw [in_nvs]; rfl, ?_⟩
        by_cases co : b ∈ old
        · rw [decide_eq_true co]
          exact iteF (iteF (stayI e58 hnl8))
        rw [decide_eq_false co]
        refine ⟨_, rfl, _, rfl, W.hd, _, rfl, dget D8.w.ls.h hbk, _, _, rfl, rfl, decide ((0 : Int) < (S.fr b : Int)), rfl, ?_⟩
        by_cases cf : (0 : Int) < (S.fr b : Int)
        rotate_left
        · rw [decide_eq_false cf]
          exact iteF (iteF (stayI e58 hnl8))
        rw [decide_eq_true cf]
        refine ⟨_, rfl, ins, rfl, ?_⟩
        cases ins with
        | false => exact iteF (stayI e58 hnl8)
        | true =>
        obtain ⟨i1, i2⟩ := hins rfl
        have gnb : GN b := by
          rw [hGN]
          exact ⟨hbk, fun _ => by omega, ch, i1, i2⟩
        -- one more among them, in order of where they begin
        refine ⟨_, rfl, _, rfl, szn 1, fun l1 hl1 => ⟨nl, l1, _, _, rfl, rfl, (same_new hl1) _ _ hnl8, upd_same, small_sz (by rw [nvs_len]; show ns.length + 1 ≤ 100000; omega), fun l2 hl2 => ?_⟩⟩
        rw [nvs_snoc]
        have e9 : Same H8 (upd (upd H8 l1 (.lst [.int (b : Int)])) l2 (.lst (nvs (ns ++ [b])))) := (same_new hl1).trans (same_new hl2)
        have h9l : upd (upd H8 l1 (.lst [.int (b : Int)])) l2 (.lst (nvs (ns ++ [b]))) l2 = some (.lst (nvs (ns ++ [b]))) := upd_same
        have gnall : ∀ k ∈ ns ++ [b], GN k := fun k hk => by
          rcases List.mem_append.mp hk with z | z
          · exact hns k z
          · rw [List.mem_singleton.mp z]
            exact gnb
        have hnbl : (ns ++ [b]).length = ns.length + 1 := by rw [List.length_append]; rfl
        have D9 := D8.same e9
        have e59 := e58.trans e9
        generalize upd (upd H8 l1 (.lst [.int (b : Int)])) l2 (.lst (nvs (ns ++ [b]))) = H9 at e9 h9l D9 e59
        refine ⟨l2, rfl, ⟨_, SqL.of h9l⟩, fun lm hlm => ?_⟩
        refine lc_rel (walk_list (K := K) (a := l2) (xs := nvs (ns ++ [b]))) hlm (fun i acc H' => acc.length = i ∧ ∀ v ∈ acc, ∃ (t : Addr) (a k : Nat), v = .ref t ∧ H' t = some (.tup [.int (a : Int), .int (k : Int)]) ∧ GN k) (by rw [nvs_len, hnbl]; omega) (fun H' e => SqL.of (e _ _ h9l))
          (fun _ _ _ _ ts h => ⟨h.1, fun v hv => by obtain ⟨t, a, k, x1, x2, x3⟩ := h.2 v hv; exact ⟨t, a, k, x1, ts _ _ x2, x3⟩⟩) ⟨rfl, fun _ h => by cases h⟩ ?_ ?_
        · rintro j y acc H' hj hy e ⟨hal2, hac⟩ Kx Ky kx ky
          obtain ⟨k, hk', rfl⟩ := nvs_get hy
          have hgk := gnall k (List.mem_of_getElem? hk')
          have D10 := D9.same e
          refine ⟨rfl, _, rfl, .inl ⟨rfl, _, SqL.of D10.g.l⟩, _, rfl, _, rfl, W.td, S.ks, W.tv, W.rl, S.tw, S.lb, k, rfl, D10.w.ls.t, wf.lk, gnks hgk, fun lv H11 e11 l11 => ?_⟩
          obtain ⟨pk, ak, bk, rfl, hpk, hak, hbk2⟩ := l11
          have D11 := D10.same e11
          obtain ⟨dd, ds, zz, u1, u2, u3, u4, u5, u6, u7⟩ := index_parts (K := K) gr D11.g (wf.lk.good (gnks hgk)).lo64 hak
          refine ⟨pk, _, _, _, rfl, rfl, SqT.of hpk, atI_nat (j := 1) rfl, gl, _, dd, ds, _, zz, rfl, rfl, u1, u2, u3, u4, u5, u6, u7, _, rfl, szn 2, fun pt hpt => kx _ _ (e11.trans (same_new hpt)) ⟨by rw [List.length_append, hal2]; rfl, fun v hv => ?_⟩⟩
          rcases List.mem_append.mp hv with z | z
          · obtain ⟨t, a, k2, x1, x2, x3⟩ := hac v z
            exact ⟨t, a, k2, x1, (e11.trans (same_new hpt)) _ _ x2, x3⟩
          · rw [List.mem_singleton.mp z]
            exact ⟨pt, _, k, rfl, upd_same, hgk⟩
        rintro accm H10 e10 ⟨hml1, hmv⟩ hlam hdm
        rw [nvs_len, hnbl] at hml1
        have e510 := e59.trans e10
        refine ⟨lm, accm, rfl, SqL.of hdm, fun x hx => by obtain ⟨t, a, k, x1, x2, _⟩ := hmv x hx; exact ⟨t, _, _, x1, x2⟩, fun ys2 pm perm hpm => ?_⟩
        have e11 : Same H10 (upd H10 pm (.lst ys2)) := same_new hpm
        have h11p : upd H10 pm (.lst ys2) pm = some (.lst ys2) := upd_same
        have hyl := perm.length_eq
        have more : ∀ v ∈ ys2, ∃ (t : Addr) (a k : Nat), v = .ref t ∧ upd H10 pm (.lst ys2) t = some (.tup [.int (a : Int), .int (k : Int)]) ∧ GN k := fun v hv => by
          obtain ⟨t, a, k, x1, x2, x3⟩ := hmv v (perm.mem_iff.mp hv)
          exact ⟨t, a, k, x1, e11 _ _ x2, x3⟩
        have e511 := e510.trans e11
        generalize upd H10 pm (.lst ys2) = H11 at e11 h11p more e511
        have D11 := D.pull hw (k05.trans (Keep.of_same e511)) hwo hgw
        have w11 := w5.same e511
        refine ⟨_, rfl, pm, ys2, rfl, .inl (SqL.of h11p), _, _, rfl, rfl, ?_⟩
        by_cases c2 : (ys2.length : Int) < 2
        · refine ⟨true, blT c2, ?_⟩
          refine ⟨_, rfl, pm, rfl, ⟨_, SqL.of h11p⟩, fun ln hln => ?_⟩
          refine lc_rel (walk_list (K := K) (a := pm) (xs := ys2)) hln (fun i acc _ => ∃ ms, acc = nvs ms ∧ ms.length = i ∧ ∀ k ∈ ms, GN k) (by omega) (fun H' e => SqL.of (e _ _ h11p)) (fun _ _ _ _ _ h => h) ⟨[], rfl, rfl, fun _ h => by cases h⟩ ?_ ?_
          · rintro j y acc H' hj hy e ⟨ms, rfl, hml, hmk⟩ Kx Ky kx ky
            obtain ⟨t, a, k, rfl, ht, hgk⟩ := more y (List.mem_of_getElem? hy)
            refine ⟨t, _, rfl, SqT.of (e _ _ ht), rfl, _, _, rfl, _, _, rfl, rfl, rfl, _, rfl, kx _ _ (Same.refl _) ⟨ms ++ [k], nvs_snoc _ _, by rw [List.length_append, hml]; rfl, fun x hx => ?_⟩⟩
            rcases List.mem_append.mp hx with z | z
            · exact hmk x z
            · rw [List.mem_singleton.mp z]
              exact hgk
          rintro acc HN eN ⟨ms, rfl, hml, hmk⟩ hla hdn
          exact ⟨_, _, _, _, _, _, _, _, _, ln, ms, rfl, e511.trans eN, w11.free (k05.trans (Keep.of_same e511)) hln, hdn, hmk, by omega⟩
        · refine ⟨false, blF c2, iteF ?_⟩
          refine ⟨_, rfl, _, rfl, pm, rfl, ⟨_, SqL.of h11p⟩, fun lf hlf => ?_⟩
          refine lc_rel (walk_list (K := K) (a := pm) (xs := ys2)) hlf (fun i acc _ => ∃ ms, acc = nvs ms ∧ ms.length = i ∧ ∀ k ∈ ms, GN k) (by omega) (fun H' e => SqL.of (e _ _ h11p)) (fun _ _ _ _ _ h => h) ⟨[], rfl, rfl, fun _ h => by cases h⟩ ?_ ?_
          · rintro j y acc H' hj hy e ⟨ms, rfl, hml, hmk⟩ Kx Ky kx ky
            obtain ⟨t, a, k, rfl, ht, hgk⟩ := more y (List.mem_of_getElem? hy)
            refine ⟨t, _, rfl, SqT.of (e _ _ ht), rfl, _, _, rfl, _, _, rfl, rfl, rfl, _, rfl, kx _ _ (Same.refl _) ⟨ms ++ [k], nvs_snoc _ _, by rw [List.length_append, hml]; rfl, fun x hx => ?_⟩⟩
            rcases List.mem_append.mp hx with z | z
            · exact hmk x z
            · rw [List.mem_singleton.mp z]
              exact hgk
          rintro acc HF eF ⟨fs, rfl, hfl, hfk⟩ hlaf hdf
          have DF := D11.same eF
          refine ⟨W.td, S.ks, W.tv, W.rl, S.tw, S.lb, lf, fs, rfl, DF.w.ls.t, wf.lk, fun k hk => gnks (hfk k hk), SqL.of hdf, by omega, fun bb HG eG _ => ?_⟩
          have e11G := eF.trans eG
          have e5G := e511.trans e11G
          have h12p := e11G _ _ h11p
          have wG := w11.same e11G
          have more2 : ∀ v ∈ ys2, ∃ (t : Addr) (a k : Nat), v = .ref t ∧ HG t = some (.tup [.int (a : Int), .int (k : Int)]) ∧ GN k := fun v hv => by
            obtain ⟨t, a, k, x1, x2, x3⟩ := more v hv
            exact ⟨t, a, k, x1, e11G _ _ x2, x3⟩
          cases bb with
          | false => exact ⟨false, rfl, iteF ⟨_, _, _, _, _, _, _, _, _, nl, ns, rfl, e5G, hnl0, (e8.trans (e9.trans (e10.trans (e11.trans e11G)))) _ _ hnl7, hns, by omega⟩⟩
          | true =>
            refine ⟨true, rfl, ?_⟩
            refine ⟨_, rfl, pm, rfl, ⟨_, SqL.of h12p⟩, fun ln hln => ?_⟩
            refine lc_rel (walk_list (K := K) (a := pm) (xs := ys2)) hln (fun i acc _ => ∃ ms, acc = nvs ms ∧ ms.length = i ∧ ∀ k ∈ ms, GN k) (by omega) (fun H' e => SqL.of (e _ _ h12p)) (fun _ _ _ _ _ h => h) ⟨[], rfl, rfl, fun _ h => by cases h⟩ ?_ ?_
            · rintro j y acc H' hj hy e ⟨ms, rfl, hml, hmk⟩ Kx Ky kx ky
              obtain ⟨t, a, k, rfl, ht, hgk⟩ := more2 y (List.mem_of_getElem? hy)
              refine ⟨t, _, rfl, SqT.of (e _ _ ht), rfl, _, _, rfl, _, _, rfl, rfl, rfl, _, rfl, kx _ _ (Same.refl _) ⟨ms ++ [k], nvs_snoc _ _, by rw [List.length_append, hml]; rfl, fun x hx => ?_⟩⟩
              rcases List.mem_append.mp hx with z | z
              · exact hmk x z
              · rw [List.mem_singleton.mp z]
                exact hgk
            rintro acc HN eN ⟨ms, rfl, hml, hmk⟩ hla hdn
            exact ⟨_, _, _, _, _, _, _, _, _, ln, ms, rfl, e5G.trans eN, wG.free (k05.trans (Keep.of_same e5G)) hln, hdn, hmk, by omega⟩
      rintro σ H6 ⟨x10, x11, x12, x16, x17, x18, x19, x20, x21, nl, ns, rfl, e6, hnl0, hnl, hns, hnsl⟩
      have k06 := k05.trans (Keep.of_same e6)
      have D6 := D.pull hw k06 hwo hgw
      have w6 := w5.same e6
      rw [nvs_len] at hnsl
      refine ⟨_, rfl, _, rfl, W.td, S.ks, W.tv, W.rl, S.tw, S.lb, nl, ns, rfl, D6.w.ls.t, wf.lk, fun k hk => gnks (hns k hk), SqL.of hnl, by omega, fun bb H7 e7 hov => ?_⟩
      have D7 := D6.same e7
      have k07 := k06.trans (Keep.of_same e7)
      have w7 := w6.same e7
      have hnl7 := e7 _ _ hnl
      cases bb with
      | false => exact ⟨_, rfl, fin_of q D.w D7.w.sh D7.w.ls rfl rfl rfl rfl rfl (kwl k07) (fun b hb => .inl hb) (fun m hm => .inl ⟨hm, rfl⟩) wf (Nat.le_succ _) (fun _ _ => w7)⟩
      | true =>
      have ov := hov rfl
      refine ⟨_, rfl, iteF ?_⟩
      have hnd : ns.Nodup := up_nodup ov.up fun k hk => wf.lk.good (gnks (hns k hk))
      have ovl := ov.le
      rw [List.length_map] at ovl
      have hnlo := D.w.out hnl0
      have hnlw : nl ∉ [W.td, W.hd, W.tl] := fun z => hnlo (adr_w z)
      have L7 := D7.w.ls
      have hrl7 := hls k07
      have hnlhd : nl ≠ W.hd := fun z => hnlw (by rw [z]; simp)
      have hrlhd : W.rl n ≠ W.hd := fun z => D.w.ls.r n hn (by rw [z]; simp)
      -- the holds: those let go, those taken
      refine ⟨_, rfl, W.rl n, rfl, ⟨_, SqL.of hrl7⟩, for_it (walk_list (K := K) (a := W.rl n) (xs := nvs old)) (fun i σ H' => ∃ v, σ = [some (.ref wl), some (.ref st), some (.int (n : Int)), some (.ref A.p), some (.ref W.td), some (.ref W.hd), some (.ref gl), some (.ref W.tl), some (.str "stem"), some (.ref (W.rl n)), x10, x11, x12, some (.int ((S.lb n).lo : Int)), some (.int ((S.lb n).hi : Int)), some (.ref nl), v, x17, x18, x19, x20, x21] ∧
        Keep [W.hd] H7 H' ∧ H' W.hd = some (.dK (dF S.ks fun m => .int ((fr1 S ns (old.take i) m : Nat) : Int)))) ⟨_, rfl, Keep.refl _ _, ?_⟩ (fun i σ H' _ ⟨_, _, k, _⟩ => SqL.of (k _ _ hrl7 (by simpa using hrlhd))) ?_ ?_⟩
      · rw [L7.h]
        show some (HO.dK (dF _ _)) = some (HO.dK (dF _ _))
        rw [dF_ext (g := fun m => .int ((fr1 S ns (old.take 0) m : Nat) : Int)) fun k _ => by unfold fr1; rw [if_neg (by simp)]]
      · rintro i y σ _ H8 hi ⟨v, rfl, k8, h8⟩ ⟨rfl, hy⟩
        obtain ⟨b, hb', rfl⟩ := nvs_get hy
        obtain ⟨x1, _⟩ := hkold b (List.mem_of_getElem? hb')
        have hbi : b ∉ old.take i := nd_take hond hb'
        have g8 := dget h8 x1
        have ef : fr1 S ns (old.take i) b = S.fr b := by unfold fr1; rw [if_neg fun z => hbi z.1]
        rw [ef] at g8
        refine ⟨_, rfl, _, rfl, W.hd, _, rfl, g8, _, rfl, _, rfl, nl, nvs ns, rfl, .inl (SqL.of (k8 _ _ hnl7 (by simpa using hnlhd))), rfl, flat_nvs _, .inr ⟨_, rfl, _, _, rfl, rfl, ?_⟩⟩
        refine ⟨_, rfl, _, rfl, W.hd, _, rfl, dput (v := .int ((S.fr b : Int) + (if (!inV (.int (b : Int)) (nvs ns)) = true then 1 else 0))) h8 x1 (by omega), ?_⟩
        have efr : dF S.ks (fset (fun m => V.int ((fr1 S ns (old.take i) m : Nat) : Int)) b (.int ((S.fr b : Int) + (if (!inV (.int (b : Int)) (nvs ns)) = true then 1 else 0)))) = dF S.ks fun m => .int ((fr1 S ns (old.take (i + 1)) m : Nat) : Int) := dF_ext fun k _ => by
          rw [in_nvs]
          unfold fr1
          rw [take_snoc hb']
          by_cases e : k = b
          · rw [e, fset_same]
            by_cases z : b ∈ ns
            · have h1 : ¬ (b ∈ old.take i ++ [b] ∧ b ∉ ns) := fun y => y.2 z
              rw [decide_eq_true z, if_neg h1]
              exact congrArg V.int (by simp)
            · have h1 : b ∈ old.take i ++ [b] ∧ b ∉ ns := ⟨by simp, z⟩
              rw [decide_eq_false z, if_pos h1]
              exact congrArg V.int (by simp)
          · rw [fset_ne _ _ e]
            have : (k ∈ old.take i ++ [b]) ↔ k ∈ old.take i := by
              rw [List.mem_append, List.mem_singleton]
              exact ⟨fun z => z.elim id fun y => absurd y e, .inl⟩
            simp only [this]
        rw [efr]
        exact ⟨_, rfl, k8.trans (keep_upd (List.mem_singleton.mpr rfl)), upd_same⟩
      rintro σ H8 ⟨v, rfl, k8, h8⟩
      rw [take_all (by rw [nvs_len]; exact Nat.le_refl _)] at h8
      have hnl8 := k8 _ _ hnl7 (by simpa using hnlhd)
      refine ⟨_, rfl, nl, rfl, ⟨_, SqL.of hnl8⟩, for_it (walk_list (K := K) (a := nl) (xs := nvs ns)) (fun i σ H' => ∃ v, σ = [some (.ref wl), some (.ref st), some (.int (n : Int)), some (.ref A.p), some (.ref W.td), some (.ref W.hd), some (.ref gl), some (.ref W.tl), some (.str "stem"), some (.ref (W.rl n)), x10, x11, x12, some (.int ((S.lb n).lo : Int)), some (.int ((S.lb n).hi : Int)), some (.ref nl), v, x17, x18, x19, x20, x21] ∧
        Keep [W.hd] H7 H' ∧ H' W.hd = some (.dK (dF S.ks fun m => .int ((fr2 S old ns (ns.take i) m : Nat) : Int)))) ⟨_, rfl, k8, ?_⟩ (fun i σ H' _ ⟨_, _, k, _⟩ => SqL.of (k _ _ hnl7 (by simpa using hnlhd))) ?_ ?_⟩
      · rw [h8]
        show some (HO.dK (dF _ _)) = some (HO.dK (dF _ _))
        rw [dF_ext (g := fun m => .int ((fr2 S old ns (ns.take 0) m : Nat) : Int)) fun k _ => by unfold fr2 fr1; rw [if_neg (c := k ∈ ns.take 0 ∧ k ∉ old) (by simp)]]
      · rintro i y σ _ H9 hi ⟨v, rfl, k9, h9⟩ ⟨rfl, hy⟩
        obtain ⟨b, hb', rfl⟩ := nvs_get hy
        have hbn := List.mem_of_getElem? hb'
        have gb := hns b hbn
        have x1 := gnks gb
        rw [hGN] at gb
        have hbi : b ∉ ns.take i := nd_take hnd hb'
        have g9 := dget h9 x1
        have ef : fr2 S old ns (ns.take i) b = S.fr b := by
          unfold fr2
          rw [if_neg fun z => hbi z.1, if_neg fun z => z.2 hbn]
        rw [ef] at g9
        refine ⟨_, rfl, _, rfl, W.hd, _, rfl, g9, _, rfl, _, rfl, W.rl n, nvs old, rfl, .inl (SqL.of (k9 _ _ hrl7 (by simpa using hrlhd))), rfl, flat_nvs _, .inr ⟨_, rfl, _, _, rfl, rfl, ?_⟩⟩
        refine ⟨_, rfl, _, rfl, W.hd, _, rfl, dput (v := .int ((S.fr b : Int) - (if (!inV (.int (b : Int)) (nvs old)) = true then 1 else 0))) h9 x1 (by omega), ?_⟩
        have efr : dF S.ks (fset (fun m => V.int ((fr2 S old ns (ns.take i) m : Nat) : Int)) b (.int ((S.fr b : Int) - (if (!inV (.int (b : Int)) (nvs old)) = true then 1 else 0)))) = dF S.ks fun m => .int ((fr2 S old ns (ns.take (i + 1)) m : Nat) : Int) := dF_ext fun k _ => by
          rw [in_nvs]
          unfold fr2
          rw [take_snoc hb']
          by_cases e : k = b
          · rw [e, fset_same]
            by_cases z : b ∈ old
            · have h1 : ¬ (b ∈ ns.take i ++ [b] ∧ b ∉ old) := fun y => y.2 z
              have h2 : ¬ (b ∈ old ∧ b ∉ ns) := fun y => y.2 hbn
              rw [decide_eq_true z, if_neg h1, if_neg h2]
              exact congrArg V.int (by simp)
            · have h1 : b ∈ ns.take i ++ [b] ∧ b ∉ old := ⟨by simp, z⟩
              rw [decide_eq_false z, if_pos h1]
              have := gb.2.1 z
              exact congrArg V.int (by simp; omega)
          · rw [fset_ne _ _ e]
            have : (k ∈ ns.take i ++ [b]) ↔ k ∈ ns.take i := by
              rw [List.mem_append, List.mem_singleton]
              exact ⟨fun z => z.elim id fun y => absurd y e, .inl⟩
            simp only [this]
        rw [efr]
        exact ⟨_, rfl, k9.trans (keep_upd (List.mem_singleton.mpr rfl)), upd_same⟩
      rintro σ H9 ⟨v, rfl, k9, h9⟩
      rw [take_all (by rw [nvs_len]; exact Nat.le_refl _)] at h9
      have ts9 : TS H7 H9 := k9.ts fun b hb xs z => by
        rw [List.mem_singleton.mp hb, L7.h] at z
        cases z
      have L9 : Ls G H9 W { S with fr := fr2 S old ns ns } := ⟨L7.t.keep k9 ts9 (by simpa using L7.th) fun m hm z => L7.r m hm (by rw [List.mem_singleton.mp z]; simp), h9, k9 _ _ L7.o (by simpa using L7.ho.symm), L7.th, L7.to, L7.ho, L7.r⟩
      have hdn : ∀ b ∈ A.fp S.ks, b ∉ [W.hd] := fun b hb z => D.w.d b hb (by rw [List.mem_singleton.mp z]; simp)
      have D9 := D7.w.sh.keep k9 ts9 hdn
      have hnl9 := k9 _ _ hnl7 (by simpa using hnlhd)
      refine ⟨_, rfl, szn 2, fun pt hpt => ?_⟩
      have e10 : Same H9 (upd H9 pt (.tup [.str "stem", .ref nl])) := same_new hpt
      have h10p : upd H9 pt (.tup [.str "stem", .ref nl]) pt = some (.tup [.str "stem", .ref nl]) := upd_same
      have L10 := L9.same e10
      have D10 := D9.same e10
      have hnl10 := e10 _ _ hnl9
      generalize upd H9 pt (.tup [.str "stem", .ref nl]) = H10 at e10 h10p L10 D10 hnl10
      refine ⟨_, rfl, _, rfl, W.td, _, rfl, dput L10.t.t hn (by show S.ks.length < 1000; omega), ?_⟩
      have lt10 : LTw G H10 (.ref pt) nl (.stem ns) := ⟨pt, "stem", nvs ns, rfl, h10p, hnl10, rfl, rfl⟩
      have k11 : Keep [W.td] H10 (upd H10 W.td (.dK (dF S.ks (fset W.tv n (.ref pt))))) := keep_upd (List.mem_singleton.mpr rfl)
      have ts11 : TS H10 (upd H10 W.td (.dK (dF S.ks (fset W.tv n (.ref pt))))) := ts_upd fun xs z => by
        rw [L10.t.t] at z
        cases z
      have hdn2 : ∀ b ∈ A.fp S.ks, b ∉ [W.td] := fun b hb z => D.w.d b hb (by rw [List.mem_singleton.mp z]; simp)
      have D11 := D10.keep k11 ts11 hdn2
      have h11f := k11 _ _ hnl10 fun z => hnlw (by rw [List.mem_singleton.mp z]; simp)
      have Lput : ∀ LL, Ls G (upd H10 W.td (.dK (dF S.ks (fset W.tv n (.ref pt))))) (tdx W n (.ref pt) nl) (S.setStem n old ns LL) := fun LL => L10.put rfl rfl rfl rfl lt10 hnlw
      have htd11 : upd H10 W.td (.dK (dF S.ks (fset W.tv n (.ref pt)))) W.td ≠ none := by
        rw [upd_same]
        exact fun z => by cases z
      have k0 : Keep (wl :: wfp A W S.ks) H (upd H10 W.td (.dK (dF S.ks (fset W.tv n (.ref pt))))) := ((((kwl k07).trans (k9.mono fun b hb => by
        rw [List.mem_singleton.mp hb]
        exact List.mem_cons.mpr (.inr (List.mem_append.mpr (.inr (by simp)))))).trans (Keep.of_same e10)).trans (k11.mono fun b hb => by
        rw [List.mem_singleton.mp hb]
        exact List.mem_cons.mpr (.inr (List.mem_append.mpr (.inr (by simp))))))
      generalize upd H10 W.td (.dK (dF S.ks (fset W.tv n (.ref pt)))) = H11 at k11 ts11 D11 h11f Lput htd11 k0
      refine ⟨_, rfl, A.p, A.dx, _, rfl, D11.ob, fl_no _ _ (by decide +kernel), _, rfl, _, rfl, nl, nvs ns, rfl, .inl (SqL.of h11f), fun l2 hl2 => ?_⟩
      have e12 : Same H11 (upd H11 l2 (.lst (nvs ns))) := same_new hl2
      have D12 := D11.same e12
      have gns : ∀ k ∈ ns, k ∈ S.ks ∧ (k ∉ old → S.fr k ≠ 0) ∧ (S.lb k).h + 1 = (S.lb n).h ∧ (S.lb n).lo ≤ (S.lb k).lo ∧ (S.lb k).hi ≤ (S.lb n).hi := fun k hk => by
        have := hns k hk
        rw [hGN] at this
        exact this
      obtain ⟨oh, olo, ohi⟩ := over_in ov (S.lb n) fun l hl => by
        obtain ⟨k, hk, rfl⟩ := List.mem_map.mp hl
        exact (gns k hk).2.2
      refine ⟨A, S, n, l2, old, ns, rfl, D12, wf.toW0, hn, c, hal, SqL.of upd_same, fun b hb => ⟨(gns b hb).1, (gns b hb).2.1⟩, ov, oh, olo, ohi, by omega, fun H13 A13 L13 stp lok => ⟨rfl, ?_⟩⟩
      have Lq := ((Lput L13).same e12).keep stp.kp (stp.kp.ts D12.noTup) (fun b hb z => D.w.d b z hb) fun m hm z => by
        have z : fset W.rl n nl m ∈ A.fp S.ks := z
        by_cases e : m = n
        · rw [e, fset_same] at z
          exact hnlo (adr_fp z)
        · rw [fset_ne _ _ e] at z
          exact D.w.r m hm z
      refine fin_of q D.w stp.at_ Lq stp.p stp.sn rfl rfl rfl ((k0.trans (Keep.of_same e12)).trans (stp.kp.mono fun b hb => ?_)) (fun b hb => (stp.nw b hb).imp id fun z => ?_) (fun m hm => ?_) (wf.setStem hn c lok) (Nat.le_succ _) (fun _ ho => ((((((w7.keep k9 fun z => ho (adr_w (by rw [List.mem_singleton.mp z]; simp))).same e10).keep k11 fun z => ho (adr_w (by rw [List.mem_singleton.mp z]; simp))).same e12))).keep stp.kp fun z => ho (adr_fp z))
      · exact List.mem_cons.mpr (.inr (List.mem_append.mpr (.inl hb)))
      · have z11 := same_free e12 z
        have z10 := keep_free k11 z11 fun y => htd11 ((List.mem_singleton.mp y) ▸ z11)
        have z7 := keep_free k9 (same_free e10 z10) fun y => by
          have := same_free e10 z10
          rw [List.mem_singleton.mp y, h9] at this
          cases this
        exact w7.free k07 z7
      · by_cases e : m = n
        · refine .inr ?_
          have er : (tdx W n (.ref pt) nl).rl m = nl := by
            rw [e]
            exact fset_same _ _ _
          rw [er]
          refine ⟨hnl0, fun y => ?_⟩
          rcases stp.nw _ y with x | x
          · exact hnlo (adr_fp x)
          · rw [e12 _ _ h11f] at x
            cases x
        · exact .inl ⟨hm, fset_ne _ _ e⟩
end
end Tw
end

section
set_option Elab.async false
set_option maxRecDepth 100000
set_option maxHeartbeats 4000000
set_option autoImplicit false
/-! one deed of the law -/
namespace Tw
open PySem L2 Twg
abbrev s_ldeed : Stmt := top 51
theorem sc_ldeed : FnScope ["_law_well_here", "_law_state", "_law_way", "_law_some", "_law_number", "_law_one"] ["_law_well_here", "_law_state"] (defScope s_ldeed) := ⟨rfl, rfl, rfl, by decide +kernel, rfl, by decide +kernel, by decide +kernel⟩
theorem done_mv {C : Addr} {G : List Kd} {H H1 : Hp} {A : ShA} {W : LwA} {S : Shk} {wl : Addr} {Q : VK} (q : spDone C G H A W S wl Q) (k : Keep [wl] H H1) (w1 : WlAt H1 wl) : spDone C G H1 A W S wl Q := fun H' A' W' S' kp nw wd p sn td hd tl wf hg wq =>
  q H' A' W' S' ((k.mono fun b hb => List.mem_cons.mpr (.inl (List.mem_singleton.mp hb))).trans kp) (fun b hb => (nw b hb).imp id fun z => w1.free k z) wd p sn td hd tl wf hg fun _ ho => wq w1 ho
theorem cut_one (a : Nat) (l : List Nat) : cutV (nvs (a :: l)) none (some 1) = nvs [a] := by
  unfold cutV nvs
  simp [HT.sIx]
def spDeed (C : Addr) (G : List Kd) : Sp := fun vs H Q _ => ∃ (A : ShA) (W : LwA) (S : Shk) (st gl wl : Addr) (gs : List V), vs = [.ref wl, .ref st] ∧ StAt C G H A W S st gl gs ∧ Wf S ∧ S.gv < 63 ∧ WlAt H wl ∧ wl ∉ adr A W S.ks ∧ gl ≠ wl ∧ spDone C G H A W S wl Q
section
variable {P : Program} {w : World} {K : PySem.W.Frag} {mg : Str → Option Value} {base : Heap} {G : List Kd} {C : Addr}
theorem df_deed (B : Bas mg) (D1 : DfG P w K mg base 1 "_law_pull" ["_law_well_here", "_law_many"] spPull) (D2 : DfG P w K mg base 8 "_law_put_leaf" ["_law_well_here", "_law_state", "_law_block"] (spLPutLeaf C G)) (D3 : DfG P w K mg base 6 "_law_put_stem" ["_law_well_here", "_law_state"] (spLPutStem C G))
    (D4 : DfG P w K mg base 2 "_law_shared" ["_law_twigs", "_law_holds", "_law_number"] (spLShared G)) (D5 : DfG P w K mg base 2 "_law_picked" ["_law_well_here", "_law_some"] (spPicked K)) (D6 : DfG P w K mg base 3 "_law_held" ["_law_well_here", "_law_state", "_law_number", "_law_way"] (spHeld C G))
    (D7 : DfG P w K mg base 8 "_law_changed" ["_law_well_here", "_law_state", "_law_number"] (spChanged C G))
    (R : RawG K mg "_law_deed" s_ldeed ["_law_well_here", "_law_state"]) : DfG P w K mg base 9 "_law_deed" ["_law_well_here", "_law_state"] (spDeed C G) := by
  obtain ⟨f, fd, hm, hk, hb, F⟩ := R
  obtain ⟨_, _, m_lpull, k_lpull, b_lpull, F_lpull⟩ := D1
  obtain ⟨_, _, m_lput_leaf, k_lput_leaf, b_lput_leaf, F_lput_leaf⟩ := D2
  obtain ⟨_, _, m_lput_stem, k_lput_stem, b_lput_stem, F_lput_stem⟩ := D3
  obtain ⟨_, _, m_lshared, k_lshared, b_lshared, F_lshared⟩ := D4
  obtain ⟨_, _, m_lpicked, k_lpicked, b_lpicked, F_lpicked⟩ := D5
  obtain ⟨_, _, m_lheld, k_lheld, b_lheld, F_lheld⟩ := D6
  obtain ⟨_, _, m_lchanged, k_lchanged, b_lchanged, F_lchanged⟩ := D7
  refine ⟨f, fd, hm, hk, hb, F.ok sc_ldeed (fun vs H Q E h => ?_) (fun cdv Ar outer s H vs Q E hr h => ?_)⟩
  · obtain ⟨A, W, S, st, gl, wl, gs, rfl, _⟩ := h
    rfl
  · obtain ⟨A, W, S, st, gl, wl, gs, rfl, D, wf, hgv, hw, hwo, hgw, q⟩ := h
    have hu := hu_of hr
    have nd := sc_ldeed.nd
    have hlen := wf.len
    refine ⟨_, (pss_cons (ps_set (i := 2) nd rfl (by first | exact Or.inl rfl | exact Or.inr rfl) (pe_call (F_lpull.mono (by first | decide | omega)) hr rfl m_lpull k_lpull b_lpull .nil pass0 (pa_cons (pv 0) (pa_cons pe_int pa_nil))))
      (pss_cons (ps_if (PW.pt (pw_or (pt_cmpR (TwR.op_eqE hr.units0) (pe_ix ix_tup (pv 1) pe_int (fun _ _ => rfl)) pe_dnewK (nomark _)) (pw_or1 (pt_cmpR op_lt (pv 2) pe_int (nomark _)))))
        (pss_one (ps_ret (pe_call (F_lput_leaf.mono (by first | decide | omega)) hr rfl m_lput_leaf k_lput_leaf b_lput_leaf .nil pass0 (pa_cons (pv 0) (pa_cons (pv 1) (pa_cons (pe_call (F_lpull.mono (by first | decide | omega)) hr rfl m_lpull k_lpull b_lpull .nil pass0 (pa_cons (pv 0) (pa_cons pe_int pa_nil))) pa_nil))))))
        pss_nil)
      (pss_cons (ps_if (pt_cmpR op_lt (pv 2) pe_int (nomark _))
        (pss_one (ps_ret (pe_call (F_lput_stem.mono (by first | decide | omega)) hr rfl m_lput_stem k_lput_stem b_lput_stem .nil pass0 (pa_cons (pv 0) (pa_cons (pv 1) pa_nil)))))
        pss_nil)
      (pss_cons (ps_set (i := 3) nd rfl (by first | exact Or.inl rfl | exact Or.inr rfl) (pe_callB (call_sortedDI rfl) (by rfl) B.b_sorted (by decide +kernel) (pa_cons (pe_ix ix_tup (pv 1) pe_int (fun _ _ => rfl)) pa_nil)))
      (Evl.pss_cut (ps_if (PW.pt (pw_and (pt_cmpR op_gt (pv 2) pe_int (nomark _)) (pw_and1 (pt_cmpR op_gt (pe_call (F_lpull.mono (by first | decide | omega)) hr rfl m_lpull k_lpull b_lpull .nil pass0 (pa_cons (pv 0) (pa_cons pe_int pa_nil))) pe_int (nomark _)))))
        (pss_one (ps_set (i := 3) nd rfl (by first | exact Or.inl rfl | exact Or.inr rfl) (pe_op op_cat (pe_lc (own := [("_law_one", 5)]) (g := (gName 5)) (by rfl) nd (pi_list (pv 3)) (blkOk_by (N := ["_law_well_here", "_law_state", "_law_way", "_law_some", "_law_number", "_law_one"]) (sc := defScope s_ldeed) (by decide +kernel)) (fun _ _ _ _ _ => (pg_name (i := 5) nd rfl (by first | exact Or.inl rfl | exact Or.inr rfl))) (fun _ _ _ _ _ => (pts_one (pt_cmpR op_isN (pe_call (F_lshared.mono (by first | decide | omega)) hr rfl m_lshared k_lshared b_lshared .nil pass0 (pa_cons (pe_ix (ix_tupK (K := K)) (pv 1) pe_int (fun _ _ => rfl)) (pa_cons (pe_ix (ix_tupK (K := K)) (pv 1) pe_int (fun _ _ => rfl)) (pa_cons (pv 5) pa_nil)))) pe_non (nomark _)))) (fun _ _ _ _ _ => (pv 5))) (pe_slice sl_list (pv 3) po_none (po_some pe_int)))))
        pss_nil)
      (pss_cons (ps_set (i := 4) nd rfl (by first | exact Or.inl rfl | exact Or.inr rfl) (pe_call (F_lpicked.mono (by first | decide | omega)) hr rfl m_lpicked k_lpicked b_lpicked .nil pass0 (pa_cons (pv 0) (pa_cons (pv 3) pa_nil))))
      (pss_cons (ps_if (pt_cmpR op_lt (pv 2) pe_int (nomark _))
        (pss_one (ps_ret (pe_call (F_lheld.mono (by first | decide | omega)) hr rfl m_lheld k_lheld b_lheld .nil pass0 (pa_cons (pv 0) (pa_cons (pv 1) (pa_cons (pv 4) (pa_cons (pv 2) pa_nil)))))))
        pss_nil)
      (pss_one (ps_ret (pe_call (F_lchanged.mono (by first | decide | omega)) hr rfl m_lchanged k_lchanged b_lchanged .nil pass0 (pa_cons (pv 0) (pa_cons (pv 1) (pa_cons (pv 4) pa_nil))))))))))))), ?_⟩
    refine ⟨_, rfl, wl, 10, rfl, by omega, by omega, hw, fun way H1 hway k1 w1 => ?_⟩
    have D1 := D.pull hw k1 hwo hgw
    refine ⟨_, rfl, st, _, _, _, rfl, rfl, SqT.of D1.s, atI_nat (j := 1) rfl, fun en hen => ?_⟩
    have e12 : Same H1 (upd H1 en (.dK [])) := same_new hen
    have h2n : upd H1 en (.dK []) en = some (.dK []) := upd_same
    have D2 := D1.same e12
    have w2 := w1.same e12
    have k2 := k1.trans (Keep.of_same e12)
    generalize upd H1 en (.dK []) = H2 at e12 h2n D2 w2 k2
    refine ⟨W.td, en, _, rfl, rfl, D2.w.ls.t.t, h2n, ?_⟩
    -- a leaf put
    have leaf : ∀ (r : Nat) (H3 : Hp), r < 16 → Keep [wl] H2 H3 → WlAt H3 wl → spLPutLeaf C G [.ref wl, .ref st, .int (r : Int)] H3 Q E := fun r H3 hr3 k3 w3 =>
      ⟨A, W, S, st, gl, wl, gs, r, rfl, D2.pull w2 k3 hwo hgw, wf, hgv, hr3, w3, hwo, hgw, done_mv q (k2.trans k3) w3⟩
    by_cases ce : S.ks = []
    · refine ⟨true, ?_, ?_⟩
      · rw [ce]
        rfl
      · exact ⟨_, rfl, _, rfl, _, rfl, wl, 16, rfl, by omega, by omega, w2, fun r H3 hr3 k3 w3 => leaf r H3 hr3 k3 w3⟩
    refine ⟨false, ?_, ?_⟩
    · cases c : S.ks with
      | nil => exact absurd c ce
      | cons a l => rfl
    refine iteF ⟨_, rfl, _, _, rfl, rfl, ?_⟩
    by_cases c2 : (way : Int) < 2
    · exact ⟨true, blT c2, _, rfl, _, rfl, _, rfl, wl, 16, rfl, by omega, by omega, w2, fun r H3 hr3 k3 w3 => leaf r H3 hr3 k3 w3⟩
    refine ⟨false, blF c2, iteF ?_⟩
    refine ⟨_, rfl, _, _, rfl, rfl, ?_⟩
    by_cases c5 : (way : Int) < 5
    · exact ⟨true, blT c5, _, rfl, _, rfl, A, W, S, st, gl, wl, gs, rfl, D2, wf, hgv, ce, w2, hwo, hgw, done_mv q k2 w2⟩
    refine ⟨false, blF c5, iteF ?_⟩
    refine ⟨_, rfl, st, _, _, _, rfl, rfl, SqT.of D2.s, atI_nat (j := 1) rfl, ?_⟩
    refine ⟨W.td, _, S.ks.map (fun k : Nat => (k : Int)), rfl, .of D2.w.ls.t.t, dF_keys _ _, by rw [List.length_map]; omega, fun ys p hp hs hn => ?_⟩
    rw [sorted_eq hp hs (asc_int wf.asc), nvs_eq]
    have e23 : Same H2 (upd H2 p (.lst (nvs S.ks))) := same_new hn
    have h3p : upd H2 p (.lst (nvs S.ks)) p = some (.lst (nvs S.ks)) := upd_same
    have hp0 := w2.free k2 hn
    have k3 := k2.trans (Keep.of_same e23)
    have w3 := w2.same e23
    generalize upd H2 p (.lst (nvs S.ks)) = H3 at e23 h3p k3 w3
    have npw : p ≠ wl := fun z => hw.no (z ▸ hp0)
    have npw' : p ∉ [wl] := by simpa using npw
    refine ⟨fun σ' H' => ∃ (v4 v5 : Option V) (sl : Addr) (ss : List Nat), σ' = [some (.ref wl), some (.ref st), some (.int (way : Int)), some (.ref sl), v4, v5] ∧ Keep [wl] H H' ∧ WlAt H' wl ∧ H sl = none ∧ H' sl = some (.lst (nvs ss)) ∧ ss ≠ [] ∧ (∀ n ∈ ss, n ∈ S.ks) ∧ ss.length < 200, ?_, ?_⟩
    · refine ⟨_, rfl, _, _, rfl, rfl, ?_⟩
      by_cases c6 : (6 : Int) < (way : Int)
      rotate_left
      · exact ⟨false, blF c6, iteF (iteF ⟨_, _, p, S.ks, rfl, k3, w3, hp0, h3p, ce, fun _ h => h, by omega⟩)⟩
      refine ⟨true, blT c6, ?_⟩
      refine ⟨_, rfl, wl, 4, rfl, by omega, by omega, w3, fun r H4 hr4 k4 w4 => ⟨_, _, rfl, rfl, ?_⟩⟩
      have k04 := k3.trans k4
      have h4p := k4 _ _ h3p npw'
      by_cases c0 : (0 : Int) < (r : Int)
      rotate_left
      · exact ⟨false, blF c0, iteF ⟨_, _, p, S.ks, rfl, k04, w4, hp0, h4p, ce, fun _ h => h, by omega⟩⟩
      refine ⟨true, blT c0, ?_⟩
      have D4 := D.pull hw k04 hwo hgw
      refine ⟨_, rfl, p, rfl, ⟨_, SqL.of h4p⟩, fun L hL => ?_⟩
      refine lc_rel (walk_list (K := K) (a := p) (xs := nvs S.ks)) hL (fun i acc _ => ∃ l, acc = nvs l ∧ l.length ≤ i ∧ ∀ n ∈ l, n ∈ S.ks) (by rw [nvs_len]; omega) (fun H' e => SqL.of (e _ _ h4p)) (fun _ _ _ _ _ h => h) ⟨[], rfl, Nat.le_refl _, fun _ h => by cases h⟩ ?_ ?_
      · rintro i y acc H' hi hy e ⟨l, rfl, hll, hlk⟩ Kx Ky kx ky
        obtain ⟨b, hb', rfl⟩ := nvs_get hy
        have hbk := List.mem_of_getElem? hb'
        have D5 := D4.same e
        refine ⟨rfl, _, rfl, st, _, _, _, rfl, rfl, SqT.of D5.s, atI_nat (j := 1) rfl, _, rfl, st, _, _, _, rfl, rfl, SqT.of D5.s, atI_nat (j := 2) rfl, _, rfl, W.td, W.hd, W.tv, W.rl, S, b, rfl, D5.w.ls.t, D5.w.ls.h, wf.toW0, hbk, by omega, fun _ H6 e6 => ⟨rfl, true, rfl, _, rfl, ?_⟩, fun _ m H6 e6 => ⟨rfl, false, rfl, iteF ?_⟩⟩
        · refine kx _ _ e6 ⟨l ++ [b], nvs_snoc _ _, by rw [List.length_append, List.length_singleton]; omega, fun n hn => ?_⟩
          rcases List.mem_append.mp hn with x | x
          · exact hlk n x
          · rw [List.mem_singleton.mp x]
            exact hbk
        · exact ky _ e6 ⟨l, rfl, by omega, hlk⟩
      rintro acc H5 e5 ⟨l, rfl, hll, hlk⟩ hla hd5
      have h5p := e5 _ _ h4p
      refine ⟨_, rfl, _, rfl, p, _, rfl, SqL.of h5p, fun l2 hl2 => ⟨L, l2, _, _, rfl, rfl, (same_new hl2) _ _ hd5, upd_same, ?_, fun l3 hl3 => ?_⟩⟩
      · have := cutV_length (nvs S.ks) none (some 1)
        rw [nvs_len] at this hll ⊢
        exact small_sz (by omega)
      have hl30 : H l3 = none := (w4.same (e5.trans (same_new (o := .lst (cutV (nvs S.ks) none (some 1))) hl2))).free ((k04.trans (Keep.of_same e5)).trans (Keep.of_same (same_new (o := .lst (cutV (nvs S.ks) none (some 1))) hl2))) hl3
      cases ck : S.ks with
      | nil => exact absurd ck ce
      | cons a0 rest =>
      have e57 : Same H5 (upd (upd H5 l2 (.lst (cutV (nvs S.ks) none (some 1)))) l3 (.lst (nvs l ++ cutV (nvs S.ks) none (some 1)))) := (same_new hl2).trans (same_new hl3)
      rw [ck] at e57
      rw [cut_one] at e57 ⊢
      have k07 := (k04.trans (Keep.of_same e5)).trans (Keep.of_same e57)
      refine ⟨_, _, l3, l ++ [a0], rfl, k07, (w4.same e5).same e57, ?_, ?_, by simp, fun n hn => ?_, ?_⟩
      · exact hl30
      · show upd _ l3 _ l3 = _
        rw [upd_same]
        show some (HO.lst (nvs l ++ nvs [a0])) = _
        unfold nvs
        rw [← List.map_append]
      · rcases List.mem_append.mp hn with x | x
        · rw [← ck]
          exact hlk n x
        · rw [List.mem_singleton.mp x]
          exact List.mem_cons.mpr (.inl rfl)
      · rw [nvs_len] at hll
        rw [List.length_append, List.length_singleton]
        omega
    rintro σ' H4 ⟨v4, v5, sl, ss, rfl, k4, w4, hsl0, hsl, hss, hssk, hssl⟩
    have nsw : sl ≠ wl := fun z => hw.no (z ▸ hsl0)
    refine ⟨_, rfl, _, rfl, wl, sl, ss, rfl, w4, SqL.of hsl, nsw, hss, by omega, fun n H5 hn k5 w5 => ?_⟩
    have k05 := k4.trans k5
    have D5 := D.pull hw k05 hwo hgw
    have q5 := done_mv q k05 w5
    refine ⟨_, rfl, _, _, rfl, rfl, ?_⟩
    by_cases c7 : (way : Int) < 7
    · exact ⟨true, blT c7, _, rfl, _, rfl, _, rfl, _, rfl, A, W, S, st, gl, wl, gs, n, (way : Int), rfl, D5, wf, hgv, hssk n hn, q5⟩
    · exact ⟨false, blF c7, iteF ⟨_, rfl, _, rfl, _, rfl, A, W, S, st, gl, wl, gs, n, rfl, D5, wf, hgv, hssk n hn, w5, hwo, hgw, q5⟩⟩
end
end Tw
end

section
set_option Elab.async false
set_option maxRecDepth 100000
set_option maxHeartbeats 4000000
set_option autoImplicit false
/-! the law itself -/
namespace Tw
open PySem L2 Twg
abbrev s_law : Stmt := top 52
theorem sc_law : FnScope ["_law_script", "_law_grid_here", "_law_state", "_law_beside", "_law_k", "_law_well_here"] ["_law_script"] (defScope s_law) := ⟨rfl, rfl, rfl, by decide +kernel, rfl, by decide +kernel, by decide +kernel⟩
theorem pe_callR {X : Cx} {CX : CXT} {k : Nat} {f : Addr} {sp : Sp} {E : XK} {x : Str} {p pos : Pos} {e : Expr} {es : List Expr} {t : TA} (F : FnR X.prog X.w X.K X.mg X.base CX k f sp) (hr : Room k X.A) (hg : Gl X x) (hm : X.mg x = some (.ref f)) (hk : PySem.W.keepIn X.K (.ref f) = true) (hx : Passes CX X E)
    (ha : PA X (e :: es) t) (hdb : (x == ("__debug__" : Str)) = false := by decide) (he : starEach (e :: es) X.env = (false, eval e X.env) :: starEach es X.env := by rfl) (hpl : (backTo pos (starEach es X.env)).any (·.1) = false := by rfl) :
    PE X (.Call (.Name x p) (e :: es) [] pos) (tCall sp [] E t) := by
  refine ⟨fun pins s σ H Q I h => ?_⟩
  refine wpAny_Call_Name_kw (ld_glob I hg hm ?_ hdb)
  refine PySem.W.callWith_K (h₀ := X.base) I.ok.mod.kin hk (thn (ha.run pos pins s σ H _ I h) fun us s1 ⟨vs, H1, I1, r, q⟩ => ⟨I1.kIn, ?_⟩) he hpl
  have q : sp (vs ++ []) H1 Q E := q
  rw [List.append_nil] at q
  exact wpAny_call (run_fnR F hr hx I1 r q)
def spAny (sp : List Kd → Sp) : Sp := fun vs H Q E => ∃ G, GridOk G ∧ sp G vs H Q E
theorem any_fnR {P : Program} {w : World} {K : PySem.W.Frag} {mg : Str → Option Value} {base : Heap} {k : Nat} {x : Str} {ps : List Str} {sp : List Kd → Sp} (h : ∀ G, GridOk G → DfG P w K mg base k x ps (sp G)) {f : Addr} (hm : mg x = some (.ref f)) : FnR P w K mg base CX0 k f (spAny sp) := by
  intro A outer s H us vs Q E hr e0 r hs
  obtain ⟨G, hg, hs⟩ := hs
  obtain ⟨f', fd', hm', _, hb', F'⟩ := h G hg
  rw [hm] at hm'
  cases hm'
  exact (F'.raw hb' .nil (dvs := [])) A outer s H us vs Q E hr e0 r (by show sp G (vs ++ []) H Q E; rw [List.append_nil]; exact hs)
theorem nil_any {C : Addr} {G G' : List Kd} {H : Hp} {A : ShA} (h : ShAt C G H A shNil) : ShAt C G' H A shNil := ⟨h.ob, h.k, h.t, h.a, h.f, h.s, h.al, (fun _ hn => by cases hn), (fun _ hn => by cases hn), h.nd⟩
theorem wf_nil : Wf shNil where
  asc := List.Pairwise.nil
  lt := fun _ h => by cases h
  lk := ⟨(fun _ h => by cases h), (fun _ h => by cases h)⟩
  an := fun _ h => by cases h
  ai := fun _ h => by cases h
  lv := fun _ h => by cases h
/-- a step of one world leaves the other -/
theorem two_step {C : Addr} {G : List Kd} {H H' : Hp} {A A' A2 : ShA} {W W' W2 : LwA} {S S' S2 : Shk} {st sb gl : Addr} {gs : List V} {fq : List Addr} (D1 : StAt C G H A W S st gl gs) (D2 : StAt C G H A2 W2 S2 sb gl gs) (dj : ∀ b ∈ adr A W S.ks, b ∉ adr A2 W2 S2.ks) (kp : Keep fq H H') (ts : TS H H')
    (q2 : ∀ b ∈ adr A2 W2 S2.ks, b ∉ fq) (qg : gl ∉ fq) (nw : ∀ b ∈ adr A' W' S'.ks, b ∈ adr A W S.ks ∨ H b = none) (wd : Wd C G H' A' W' S') (p : A'.p = A.p) (td : W'.td = W.td) (hd : W'.hd = W.hd) (tl : W'.tl = W.tl) :
    StAt C G H' A' W' S' st gl gs ∧ StAt C G H' A2 W2 S2 sb gl gs ∧ ∀ b ∈ adr A' W' S'.ks, b ∉ adr A2 W2 S2.ks := by
  refine ⟨⟨wd, ?_, D1.g.keep kp ts qg, fun z => ?_⟩, D2.keep kp ts q2 qg, fun b hb z => ?_⟩
  · rw [p, td, hd, tl]
    exact ts _ _ D1.s
  · rcases nw _ z with y | y
    · exact D1.o y
    · rw [D1.g.l] at y
      cases y
  · rcases nw _ hb with y | y
    · exact dj b y z
    · obtain ⟨o, ho, _⟩ := D2.w.there z
      rw [y] at ho
      cases ho
def lwN (d1 d2 l : Addr) : LwA := ⟨d1, d2, l, fun _ => .non, fun _ => 0⟩
/-- a world laid anew -/
theorem world_new {C : Addr} {G : List Kd} {H2 H3 : Hp} {A : ShA} {p dx d1 d2 l st : Addr} {o : HO} (hp : H2 p = none) (hdx : H2 dx = none) (hne : dx ≠ p) (k3 : Keep [p] (upd (upd H2 dx (.own p)) p (.ins C dx [])) H3) (D3 : ShAt C [] H3 A shNil)
    (nw3 : ∀ b ∈ A.fp [], b = p ∨ upd (upd H2 dx (.own p)) p (.ins C dx []) b = none) (h1 : H3 d1 = none) (h2 : upd H3 d1 (.dK []) d2 = none) (h3 : upd (upd H3 d1 (.dK [])) d2 (.dK []) l = none) (h4 : upd (upd (upd H3 d1 (.dK [])) d2 (.dK [])) l (.lst []) st = none) :
    Same H2 (upd (upd (upd (upd H3 d1 (.dK [])) d2 (.dK [])) l (.lst [])) st o) ∧ Wd C G (upd (upd (upd (upd H3 d1 (.dK [])) d2 (.dK [])) l (.lst [])) st o) A (lwN d1 d2 l) shNil ∧ ∀ b ∈ adr A (lwN d1 d2 l) [], H2 b = none := by
  have e1 : Same H2 (upd (upd H2 dx (.own p)) p (.ins C dx [])) := (same_new hdx).trans (same_new (by rw [upd_ne hne.symm]; exact hp))
  have e3 : Same H2 H3 := fun b u hb => k3 b u (e1 b u hb) fun z => by
    rw [List.mem_singleton.mp z, hp] at hb
    cases hb
  have f1 : Same H3 (upd H3 d1 (.dK [])) := same_new h1
  have f2 : Same (upd H3 d1 (.dK [])) (upd (upd H3 d1 (.dK [])) d2 (.dK [])) := same_new h2
  have f3 : Same (upd (upd H3 d1 (.dK [])) d2 (.dK [])) (upd (upd (upd H3 d1 (.dK [])) d2 (.dK [])) l (.lst [])) := same_new h3
  have f4 : Same (upd (upd (upd H3 d1 (.dK [])) d2 (.dK [])) l (.lst [])) (upd (upd (upd (upd H3 d1 (.dK [])) d2 (.dK [])) l (.lst [])) st o) := same_new h4
  have n12 : d1 ≠ d2 := fun z => by
    rw [← z, upd_same] at h2
    cases h2
  have n1l : d1 ≠ l := fun z => by
    rw [← z, f2 _ _ upd_same] at h3
    cases h3
  have n2l : d2 ≠ l := fun z => by
    rw [← z, upd_same] at h3
    cases h3
  have g2 : H3 d2 = none := same_free f1 h2
  have g3 : H3 l = none := same_free (f1.trans f2) h3
  have out3 : ∀ b ∈ [d1, d2, l], H3 b = none := fun b hb => by
    simp only [List.mem_cons, List.not_mem_nil, or_false] at hb
    rcases hb with z | z | z <;> subst z
    · exact h1
    · exact g2
    · exact g3
  refine ⟨e3.trans (f1.trans (f2.trans (f3.trans f4))), ⟨nil_any (D3.same (f1.trans (f2.trans (f3.trans f4)))), ⟨⟨(f2.trans (f3.trans f4)) _ _ upd_same, (fun _ h => by cases h)⟩, (f3.trans f4) _ _ upd_same, f4 _ _ upd_same, n12, n1l, n2l, (fun _ h => by cases h)⟩, fun b hb z => ?_, (fun _ h => by cases h)⟩, fun b hb => ?_⟩
  · obtain ⟨u, hu, _⟩ := D3.there (b := b) hb
    rw [out3 b z] at hu
    cases hu
  · rcases adr_iff.mp hb with z | z | ⟨n, hn, _⟩
    · rcases nw3 b z with y | y
      · rw [y]
        exact hp
      · exact same_free e1 y
    · exact same_free e3 (out3 b z)
    · cases hn
/-- the script on the heap, or behind the top -/
def ScA (K : PySem.W.Frag) (a : Addr) (xs : List V) (bad : List Addr) (H : Hp) : Prop := (∃ (o : Obj) (its : Array Value) (n : Nat), K.lookup a = some o ∧ o.cls = .type "list" ∧ o.dict = none ∧ o.data = .seq its n ∧ its.size ≤ sizeLine ∧ Vals xs its.toList) ∨ (Rd H a (.lst xs) ∧ a ∉ bad)
theorem ScA.sq {K : PySem.W.Frag} {a : Addr} {xs : List V} {bad : List Addr} {H : Hp} (h : ScA K a xs bad H) : SqL K H a xs := h.elim .inr fun x => .inl x.1
theorem ScA.keep {K : PySem.W.Frag} {a : Addr} {xs : List V} {bad bad' fq : List Addr} {H H' : Hp} (h : ScA K a xs bad H) (k : Keep fq H H') (q : a ∉ bad → H a ≠ none → a ∉ fq ∧ a ∉ bad') : ScA K a xs bad' H' := by
  rcases h with h | ⟨h, n⟩
  · exact .inl h
  · have hn : H a ≠ none := by
      rcases h with h | ⟨o, h⟩ <;> rw [h] <;> exact fun z => by cases z
    obtain ⟨q1, q2⟩ := q n hn
    refine .inr ⟨?_, q2⟩
    rcases h with h | ⟨o, h⟩
    · exact .inl (k _ _ h q1)
    · exact .inr ⟨o, k _ _ h q1⟩
def Two (K : PySem.W.Frag) (C : Addr) (G : List Kd) (a : Addr) (is : List Int) (st sb gl : Addr) (gs : List V) (n : Nat) (H : Hp) : Prop := ∃ (A : ShA) (W : LwA) (S : Shk) (A2 : ShA) (W2 : LwA) (S2 : Shk), StAt C G H A W S st gl gs ∧ StAt C G H A2 W2 S2 sb gl gs ∧ Wf S ∧ Wf S2 ∧ S.gv ≤ n ∧ S2.gv ≤ n ∧ A.sn = [] ∧ A2.sn = [] ∧
  (∀ b ∈ adr A W S.ks, b ∉ adr A2 W2 S2.ks) ∧ ScA K a (is.map V.int) (adr A W S.ks ++ adr A2 W2 S2.ks) H
def spLaw (K : PySem.W.Frag) : Sp := fun vs H Q _ => ∃ (a : Addr) (is : List Int), vs = [.ref a] ∧ SqL K H a (is.map V.int) ∧ is.length ≤ 63 ∧ ∀ H', Q (.bl true) H'
section
variable {P : Program} {w : World} {K : PySem.W.Frag} {mg : Str → Option Value} {base : Heap} {C : Addr}
theorem df_law (T : ClsT K C) (B : Bas mg) {fi : Addr} {fdi : FuncData} (M_Shelf : Mk K C fi) (G_init : FnOk P w K mg base CX0 1 fi fdi ["self"] (spInit C [])) (b_init : Binds K fdi ["self"] []) (m_Shelf : mg "Shelf" = some (.ref C))
    (D1 : DfG P w K mg base 1 "_law_well" ["_law_script", "_law_k"] (spWell K)) (D2 : DfG P w K mg base 2 "_law_grid" ["_law_well_here"] spGrid) (D3 : DfM P w K mg base C 1 "many" ["self"] (spMany C [])) (D4 : DfM P w K mg base C 1 "looked" ["self"] (spLooked C [])) (D5 : DfM P w K mg base C 1 "numbers" ["self"] (spNumbers C []))
    (D6 : ∀ G, GridOk G → DfG P w K mg base 9 "_law_deed" ["_law_well_here", "_law_state"] (spDeed C G)) (D7 : ∀ G, GridOk G → DfG P w K mg base 8 "_law_put_leaf" ["_law_well_here", "_law_state", "_law_block"] (spLPutLeaf C G)) (D8 : ∀ G, GridOk G → DfG P w K mg base 7 "_law_exact" ["_law_shelf", "_law_twigs", "_law_holds"] (spExact C G))
    {s6 s7 s8 : Stmt} (R6 : RawG K mg "_law_deed" s6 ["_law_well_here", "_law_state"]) (R7 : RawG K mg "_law_put_leaf" s7 ["_law_well_here", "_law_state", "_law_block"]) (R8 : RawG K mg "_law_exact" s8 ["_law_shelf", "_law_twigs", "_law_holds"])
    {f : Addr} {fd : FuncData} (F : Fun K "law" "law" s_law f fd) : FnOk P w K mg base CX0 10 f fd ["_law_script"] (spLaw K) := by
  obtain ⟨_, _, m_lwell, k_lwell, b_lwell, F_lwell⟩ := D1
  obtain ⟨_, _, m_lgrid, k_lgrid, b_lgrid, F_lgrid⟩ := D2
  obtain ⟨_, _, M_many, b_many, F_many⟩ := D3
  obtain ⟨_, _, M_looked, b_looked, F_looked⟩ := D4
  obtain ⟨_, _, M_numbers, b_numbers, F_numbers⟩ := D5
  obtain ⟨_, _, m_ldeed, k_ldeed, _, _⟩ := R6
  obtain ⟨_, _, m_lput_leaf, k_lput_leaf, _, _⟩ := R7
  obtain ⟨_, _, m_lexact, k_lexact, _, _⟩ := R8
  have F_ldeed := any_fnR D6 m_ldeed
  have F_lput_leaf := any_fnR D7 m_lput_leaf
  have F_lexact := any_fnR D8 m_lexact
  refine F.ok sc_law (fun vs H Q E h => ?_) (fun cdv Ar outer s H vs Q E hr h => ?_)
  · obtain ⟨a, is, rfl, _⟩ := h
    rfl
  · obtain ⟨a, is, rfl, ha, hlen, q⟩ := h
    have hu := hu_of hr
    have cl := T.cl
    have nd := sc_law.nd
    refine ⟨_, (pss_cons (ps_set (i := 1) nd rfl (by first | exact Or.inl rfl | exact Or.inr rfl) (pe_call (F_lgrid.mono (by first | decide | omega)) hr rfl m_lgrid k_lgrid b_lgrid .nil pass0 (pa_cons (pe_call (F_lwell.mono (by first | decide | omega)) hr rfl m_lwell k_lwell b_lwell .nil pass0 (pa_cons (pv 0) (pa_cons pe_int pa_nil))) pa_nil)))
      (pss_cons (ps_set (i := 2) nd rfl (by first | exact Or.inl rfl | exact Or.inr rfl) (pe_tup (pa_cons (pe_make0 M_Shelf (G_init.mono (by first | decide | omega)) hr rfl m_Shelf b_init .nil pass0) (pa_cons pe_dnewK (pa_cons pe_dnewK (pa_cons (pv 1) (pa_cons (pe_lst pa_nil) pa_nil)))))))
      (pss_cons (ps_set (i := 3) nd rfl (by first | exact Or.inl rfl | exact Or.inr rfl) (pe_tup (pa_cons (pe_make0 M_Shelf (G_init.mono (by first | decide | omega)) hr rfl m_Shelf b_init .nil pass0) (pa_cons pe_dnewK (pa_cons pe_dnewK (pa_cons (pv 1) (pa_cons (pe_lst pa_nil) pa_nil)))))))
      (pss_cons (ps_if (PW.pt (pw_or (pt_cmpR op_ne (pe_meth0 (pe_ix ix_tup (pv 2) pe_int (fun _ _ => rfl)) cl M_many (F_many.mono (by first | decide | omega)) hr b_many .nil pass0) pe_int (nomark _)) (pw_or (pt_cmpR (op_neD hr.units) (pe_meth0 (pe_ix ix_tup (pv 2) pe_int (fun _ _ => rfl)) cl M_looked (F_looked.mono (by first | decide | omega)) hr b_looked .nil pass0) (pe_lst pa_nil) (nomark _)) (pw_or1 (pt_cmpR (op_neD hr.units) (pe_meth0 (pe_ix ix_tup (pv 2) pe_int (fun _ _ => rfl)) cl M_numbers (F_numbers.mono (by first | decide | omega)) hr b_numbers .nil pass0) (pe_lst pa_nil) (nomark _))))))
        (pss_one (ps_ret pe_bl))
        pss_nil)
      (pss_cons (ps_for PassesOwn.never rfl (pi_range2 rfl B.b_range (pa_cons pe_int (pa_cons (pe_callB (call_max2 rfl) (by rfl) B.b_max (by decide +kernel) (pa_cons pe_int (pa_cons (pe_callB (call_min2 rfl) (by rfl) B.b_min (by decide +kernel) (pa_cons (pe_callB call_len_seq (by rfl) B.b_len PySem.boot_len (pa_cons (pv 0) pa_nil)) (pa_cons pe_int pa_nil))) pa_nil))) pa_nil))) (pg_name (i := 4) nd rfl (by first | exact Or.inl rfl | exact Or.inr rfl))
        (pss_cons (ps_set (i := 5) nd rfl (by first | exact Or.inl rfl | exact Or.inr rfl) (pe_call (F_lwell.mono (by first | decide | omega)) hr rfl m_lwell k_lwell b_lwell .nil pass0 (pa_cons (pv 0) (pa_cons (pv 4) pa_nil))))
        (pss_cons (ps_if (pt_not (pt_val (pe_callR (F_ldeed.mono (by first | decide | omega)) hr rfl m_ldeed k_ldeed pass0 (pa_cons (pv 5) (pa_cons (pv 2) pa_nil)))))
          (pss_one (ps_ret pe_bl))
          pss_nil)
        (Evl.pss_cut (ps_if (PW.pt (pw_and (pt_cmpR op_eq (pe_op op_mod (pv 4) pe_int) pe_int (nomark _)) (pw_and1 (pt_not (pt_val (pe_callR (F_lput_leaf.mono (by first | decide | omega)) hr rfl m_lput_leaf k_lput_leaf pass0 (pa_cons (pv 5) (pa_cons (pv 3) (pa_cons (pe_op op_mod (pv 4) pe_int) pa_nil)))))))))
          (pss_one (ps_ret pe_bl))
          pss_nil)
        (pss_one (ps_if (PW.pt (pw_and (pt_cmpR op_eq (pe_op op_mod (pv 4) pe_int) pe_int (nomark _)) (pw_and1 (pt_not (pt_val (pe_callR (F_lexact.mono (by first | decide | omega)) hr rfl m_lexact k_lexact pass0 (pa_cons (pe_ix ix_tup (pv 2) pe_int (fun _ _ => rfl)) (pa_cons (pe_ix ix_tup (pv 2) pe_int (fun _ _ => rfl)) (pa_cons (pe_ix ix_tup (pv 2) pe_int (fun _ _ => rfl)) pa_nil)))))))))
          (pss_one (ps_ret pe_bl))
          pss_nil))))))
      (pss_one (ps_ret (pe_and (pe_callR (F_lexact.mono (by first | decide | omega)) hr rfl m_lexact k_lexact pass0 (pa_cons (pe_ix ix_tup (pv 2) pe_int (fun _ _ => rfl)) (pa_cons (pe_ix ix_tup (pv 2) pe_int (fun _ _ => rfl)) (pa_cons (pe_ix ix_tup (pv 2) pe_int (fun _ _ => rfl)) pa_nil)))) (pe_one (pe_callR (F_lexact.mono (by first | decide | omega)) hr rfl m_lexact k_lexact pass0 (pa_cons (pe_ix ix_tup (pv 3) pe_int (fun _ _ => rfl)) (pa_cons (pe_ix ix_tup (pv 3) pe_int (fun _ _ => rfl)) (pa_cons (pe_ix ix_tup (pv 3) pe_int (fun _ _ => rfl)) pa_nil))))))))))))), ?_⟩
    refine ⟨_, rfl, a, is, 0, rfl, ha, hlen, by omega, fun w0 H1 e1 hw0 ww0 => ?_⟩
    refine ⟨w0, rfl, ww0, fun G gl gs H2 gr k2 hgl hgl2 hgp => ?_⟩
    have eH2 : Same H H2 := fun b u hb => k2 b u (e1 b u hb) fun z => by
      rw [List.mem_singleton.mp z, hw0] at hb
      cases hb
    intro p dx hp hdx hne
    refine ⟨p, dx, rfl, upd_same, fun A H3 hAp hAsn D3 k3 nw3 => ⟨rfl, fun d1 h1 d2 h2 => ⟨_, rfl, szn 0, fun l h3 => ⟨szn 5, fun st h4 => ?_⟩⟩⟩⟩
    obtain ⟨e27, wd, fr⟩ := world_new (G := G) (o := .tup [.ref p, .ref d1, .ref d2, .ref gl, .ref l]) hp hdx hne k3 D3 nw3 h1 h2 h3 h4
    have h7s : upd (upd (upd (upd H3 d1 (.dK [])) d2 (.dK [])) l (.lst [])) st (.tup [.ref p, .ref d1, .ref d2, .ref gl, .ref l]) st = some (.tup [.ref p, .ref d1, .ref d2, .ref gl, .ref l]) := upd_same
    show tSeq _ _ _ _ (upd (upd (upd (upd H3 d1 (.dK [])) d2 (.dK [])) l (.lst [])) st (.tup [.ref p, .ref d1, .ref d2, .ref gl, .ref l]))
    generalize upd (upd (upd (upd H3 d1 (.dK [])) d2 (.dK [])) l (.lst [])) st (.tup [.ref p, .ref d1, .ref d2, .ref gl, .ref l]) = H7 at e27 wd h7s
    clear h4 h3 h2 h1 nw3 D3 k3
    intro q2 dy hq2 hdy hne2
    refine ⟨q2, dy, rfl, upd_same, fun A2 H8 hAp2 hAsn2 D8 k8 nw8 => ⟨rfl, fun d3 h1 d4 h2 => ⟨_, rfl, szn 0, fun l2 h3 => ⟨szn 5, fun sb h4 => ?_⟩⟩⟩⟩
    obtain ⟨e712, wd2, fr2⟩ := world_new (G := G) (o := .tup [.ref q2, .ref d3, .ref d4, .ref gl, .ref l2]) hq2 hdy hne2 k8 D8 nw8 h1 h2 h3 h4
    have h12s : upd (upd (upd (upd H8 d3 (.dK [])) d4 (.dK [])) l2 (.lst [])) sb (.tup [.ref q2, .ref d3, .ref d4, .ref gl, .ref l2]) sb = some (.tup [.ref q2, .ref d3, .ref d4, .ref gl, .ref l2]) := upd_same
    show tSeq _ _ _ _ (upd (upd (upd (upd H8 d3 (.dK [])) d4 (.dK [])) l2 (.lst [])) sb (.tup [.ref q2, .ref d3, .ref d4, .ref gl, .ref l2]))
    generalize upd (upd (upd (upd H8 d3 (.dK [])) d4 (.dK [])) l2 (.lst [])) sb (.tup [.ref q2, .ref d3, .ref d4, .ref gl, .ref l2]) = H12 at e712 wd2 h12s
    clear h4 h3 h2 h1 nw8 D8 k8
    have e212 := e27.trans e712
    have known : ∀ {b : Addr} {o : HO}, H2 b = some o → b ∉ adr A (lwN d1 d2 l) [] ∧ b ∉ adr A2 (lwN d3 d4 l2) [] := fun {b o} hb => by
      refine ⟨fun z => ?_, fun z => ?_⟩
      · rw [fr b z] at hb
        cases hb
      · have := e27 _ _ hb
        rw [fr2 b z] at this
        cases this
    have s1 : StAt C G H12 A (lwN d1 d2 l) shNil st gl gs := ⟨wd.same e712, by rw [hAp]; exact e712 _ _ h7s, (⟨hgl2, hgp⟩ : GridL G H2 gl gs).same e212, (known hgl2).1⟩
    have s2 : StAt C G H12 A2 (lwN d3 d4 l2) shNil sb gl gs := ⟨wd2, by rw [hAp2]; exact h12s, (⟨hgl2, hgp⟩ : GridL G H2 gl gs).same e212, (known hgl2).2⟩
    have dj : ∀ b ∈ adr A (lwN d1 d2 l) [], b ∉ adr A2 (lwN d3 d4 l2) [] := fun b hb z => by
      obtain ⟨u, hu, _⟩ := wd.there (b := b) hb
      rw [fr2 b z] at hu
      cases hu
    have two0 : Two K C G a is st sb gl gs 0 H12 := ⟨A, _, shNil, A2, _, shNil, s1, s2, wf_nil, wf_nil, Nat.le_refl _, Nat.le_refl _, hAsn, hAsn2, dj, by
      rcases ha with h | h
      · refine .inr ⟨?_, fun z => ?_⟩
        · rcases h with h | ⟨o, h⟩
          · exact .inl ((eH2.trans e212) _ _ h)
          · exact .inr ⟨o, (eH2.trans e212) _ _ h⟩
        · obtain ⟨u, hu⟩ : ∃ u, H2 a = some u := by
            rcases h with h | ⟨o, h⟩
            · exact ⟨_, eH2 _ _ h⟩
            · exact ⟨_, eH2 _ _ h⟩
          exact (List.mem_append.mp z).elim (known hu).1 (known hu).2
      · exact .inl h⟩
    have sh1 : ShAt C [] H12 A shNil := nil_any s1.w.sh
    have hst := s1.s
    refine ⟨_, rfl, st, _, _, _, rfl, rfl, SqT.of hst, atI_nat (j := 0) rfl, A.p, A.dx, _, rfl, sh1.ob, fl_no _ _ (by decide +kernel), A, shNil, rfl, sh1, rfl, false, blNF rfl, iteF ?_⟩
    refine ⟨_, rfl, st, _, _, _, rfl, rfl, SqT.of hst, atI_nat (j := 0) rfl, A.p, A.dx, _, rfl, sh1.ob, fl_no _ _ (by decide +kernel), A, shNil, rfl, sh1, fun la Ha ea hla hla2 => ?_⟩
    rw [hAsn] at hla2
    refine ⟨szn 0, fun ex hex => ⟨_, _, nats_dp (ks := []) (SqL.of ((same_new hex) _ _ hla2)), nil_dp (SqL.of upd_same), shaped_nats _, shaped_nil, false, congrArg V.bl (by rw [nats_nil]; rfl), iteF ?_⟩⟩
    have eb := ea.trans (same_new (o := .lst []) hex)
    have sh2 := sh1.same eb
    refine ⟨_, rfl, st, _, _, _, rfl, rfl, SqT.of (eb _ _ hst), atI_nat (j := 0) rfl, A.p, A.dx, _, rfl, sh2.ob, fl_no _ _ (by decide +kernel), A, shNil, rfl, sh2, List.Pairwise.nil, (by show 0 < 64; decide), fun lb Hb ec hlb hlb2 => ?_⟩
    refine ⟨szn 0, fun ey hey => ⟨_, _, nats_dp (ks := []) (SqL.of ((same_new hey) _ _ hlb2)), nil_dp (SqL.of upd_same), shaped_nats _, shaped_nil, false, congrArg V.bl (by rw [nats_nil]; rfl), iteF ?_⟩⟩
    have ed := (eb.trans ec).trans (same_new (o := .lst []) hey)
    refine ⟨_, rfl, a, _, rfl, .inl ((eH2.trans (e212.trans ed)).seq ha), _, _, rfl, _, _, rfl, ?_⟩
    rw [List.length_map]
    have two1 : Two K C G a is st sb gl gs 0 (upd Hb ey (.lst [])) := by
      obtain ⟨A, W, S, A2, W2, S2, x1, x2, x3, x4, x5, x6, x7, x8, x9, x10⟩ := two0
      exact ⟨A, W, S, A2, W2, S2, x1.same ed, x2.same ed, x3, x4, x5, x6, x7, x8, x9, x10.keep (fq := []) (Keep.of_same ed) fun h _ => ⟨by simp, h⟩⟩
    refine ⟨_, _, rfl, ⟨by decide, by decide, by split <;> split <;> omega, by split <;> split <;> omega⟩, for_range (lo := 1) (n := _) (fun i σ H' => ∃ v4 v5 : Option V, σ = [some (.ref a), some (.ref gl), some (.ref st), some (.ref sb), v4, v5] ∧ Two K C G a is st sb gl gs i H') ⟨none, none, rfl, two1⟩ ?_ ?_⟩
    · rintro i σ H3 hi ⟨v4, v5, rfl, A, W, S, A2, W2, S2, x1, x2, x3, x4, x5, x6, x7, x8, x9, x10⟩
      have hi62 : i < 62 := by
        have hi3 := hi
        split at hi3 <;> split at hi3 <;> omega
      refine ⟨_, rfl, _, rfl, a, is, 1 + i, rfl, x10.sq, hlen, by omega, fun wl H4 e4 hwl w4 => ?_⟩
      have D1 := x1.same e4
      have D2 := x2.same e4
      have o1 := x1.w.out hwl
      have o2 := x2.w.out hwl
      have ngw : gl ≠ wl := fun z => by
        rw [← z, x1.g.l] at hwl
        cases hwl
      have ha4 : ScA K a (is.map V.int) (wl :: (adr A W S.ks ++ adr A2 W2 S2.ks)) H4 := x10.keep (fq := []) (Keep.of_same e4) fun h hn => ⟨by simp, fun z => (List.mem_cons.mp z).elim (fun u => hn (u ▸ hwl)) h⟩
      -- one deed
      refine ⟨_, rfl, _, rfl, G, gr, A, W, S, st, gl, wl, gs, rfl, D1, x3, by omega, w4, o1, ngw, fun H5 A5 W5 S5 kp nw wd p sn td hd tl wf5 hg wq => ⟨_, rfl, iteF ?_⟩⟩
      have fqn : ∀ b ∈ wl :: wfp A W S.ks, ∀ xs, H4 b ≠ some (.tup xs) := fun b hb => by
        rcases List.mem_cons.mp hb with z | z
        · rw [z]
          exact w4.noT wl (List.mem_singleton.mpr rfl)
        · exact D1.w.noTup b z
      have ts5 := kp.ts fqn
      obtain ⟨y1, y2, y3⟩ := two_step D1 D2 x9 kp ts5 (fun b hb z => by
        rcases List.mem_cons.mp z with u | u
        · exact o2 (u ▸ hb)
        · exact x9 b (List.mem_append.mpr (.inl u)) hb) (fun z => by
        rcases List.mem_cons.mp z with u | u
        · exact ngw u
        · exact D1.o (List.mem_append.mpr (.inl u))) nw wd p td hd tl
      have ha5 : ScA K a (is.map V.int) (wl :: (adr A5 W5 S5.ks ++ adr A2 W2 S2.ks)) H5 := ha4.keep kp fun h hn => ⟨fun z => by
        rcases List.mem_cons.mp z with u | u
        · exact h (List.mem_cons.mpr (.inl u))
        · exact h (List.mem_cons.mpr (.inr (List.mem_append.mpr (.inl (List.mem_append.mpr (.inl u)))))), fun z => by
        rcases List.mem_cons.mp z with u | u
        · exact h (List.mem_cons.mpr (.inl u))
        · rcases List.mem_append.mp u with y | y
          · exact (nw a y).elim (fun x => h (List.mem_cons.mpr (.inr (List.mem_append.mpr (.inl x))))) hn
          · exact h (List.mem_cons.mpr (.inr (List.mem_append.mpr (.inr y))))⟩
      have w5 : WlAt H5 wl := wq w4 o1
      -- the other shelf, at times
      refine ⟨fun σ' H' => σ' = [some (.ref a), some (.ref gl), some (.ref st), some (.ref sb), some (.int (1 + (i : Int))), some (.ref wl)] ∧ Two K C G a is st sb gl gs (i + 1) H', ?_, ?_⟩
      · have stay : Two K C G a is st sb gl gs (i + 1) H5 := ⟨A5, W5, S5, A2, W2, S2, y1, y2, wf5, x4, by omega, by omega, sn.trans x7, x8, y3, ha5.keep (fq := []) (Keep.refl _ _) fun h _ => ⟨by simp, fun z => h (List.mem_cons.mpr (.inr z))⟩⟩
        refine ⟨_, rfl, _, _, rfl, rfl, (by show (0 : Int) < 7; decide), rfl, ?_⟩
        by_cases c1 : (1 + (i : Int)) % 7 = 3
        rotate_left
        · exact ⟨false, blF (fun z => c1 (V.int.inj z)), iteF (iteF ⟨rfl, stay⟩)⟩
        refine ⟨true, blT (congrArg V.int c1), ?_⟩
        have o5 : wl ∉ adr A2 W2 S2.ks := o2
        refine ⟨_, rfl, _, rfl, _, rfl, _, _, rfl, rfl, (by show (0 : Int) < 16; decide), G, gr, A2, W2, S2, sb, gl, wl, gs, (1 + i) % 16, rfl, y2, x4, by omega, by omega, w5, o5, ngw, fun H6 A6 W6 S6 kp6 nw6 wd6 p6 sn6 td6 hd6 tl6 wf6 hg6 _ => ⟨_, rfl, iteF ?_⟩⟩
        have fqn6 : ∀ b ∈ wl :: wfp A2 W2 S2.ks, ∀ xs, H5 b ≠ some (.tup xs) := fun b hb => by
          rcases List.mem_cons.mp hb with z | z
          · rw [z]
            exact w5.noT wl (List.mem_singleton.mpr rfl)
          · exact y2.w.noTup b z
        have ts6 := kp6.ts fqn6
        have nwl5 : wl ∉ adr A5 W5 S5.ks := fun z => (nw wl z).elim o1 fun u => w4.no u
        obtain ⟨z1, z2, z3⟩ := two_step y2 y1 (fun b hb z => y3 b z hb) kp6 ts6 (fun b hb z => by
          rcases List.mem_cons.mp z with u | u
          · exact nwl5 (u ▸ hb)
          · exact y3 b hb (List.mem_append.mpr (.inl u))) (fun z => by
          rcases List.mem_cons.mp z with u | u
          · exact ngw u
          · exact y2.o (List.mem_append.mpr (.inl u))) nw6 wd6 p6 td6 hd6 tl6
        have ha6 : ScA K a (is.map V.int) (adr A5 W5 S5.ks ++ adr A6 W6 S6.ks) H6 := ha5.keep kp6 fun h hn => ⟨fun z => by
          rcases List.mem_cons.mp z with u | u
          · exact h (List.mem_cons.mpr (.inl u))
          · exact h (List.mem_cons.mpr (.inr (List.mem_append.mpr (.inr (List.mem_append.mpr (.inl u)))))), fun z => by
          rcases List.mem_append.mp z with y | y
          · exact h (List.mem_cons.mpr (.inr (List.mem_append.mpr (.inl y))))
          · exact (nw6 a y).elim (fun x => h (List.mem_cons.mpr (.inr (List.mem_append.mpr (.inr x))))) hn⟩
        exact ⟨rfl, A5, W5, S5, A6, W6, S6, z2, z1, wf5, wf6, by omega, by omega, sn.trans x7, sn6.trans x8, fun b hb z => z3 b z hb, ha6⟩
      rintro σ' H6 ⟨rfl, two6⟩
      refine ⟨_, rfl, _, _, rfl, rfl, (by show (0 : Int) < 4; decide), rfl, ?_⟩
      by_cases c2 : (1 + (i : Int)) % 4 = 3
      rotate_left
      · exact ⟨false, blF (fun z => c2 (V.int.inj z)), iteF (iteF ⟨_, _, rfl, two6⟩)⟩
      refine ⟨true, blT (congrArg V.int c2), ?_⟩
      obtain ⟨A7, W7, S7, A8, W8, S8, z1, z2, z3, z4, z5, z6, z7, z8, z9, z10⟩ := two6
      have hst7 := z1.s
      have l7 := z3.len
      refine ⟨_, rfl, st, _, _, _, rfl, rfl, SqT.of hst7, atI_nat (j := 0) rfl, _, rfl, st, _, _, _, rfl, rfl, SqT.of hst7, atI_nat (j := 1) rfl, _, rfl, st, _, _, _, rfl, rfl, SqT.of hst7, atI_nat (j := 2) rfl, G, gr, A7, W7, S7, rfl, z1.w, z3, by omega, z7, fun H9 A9 ws => ⟨_, rfl, iteF ⟨_, _, rfl, ?_⟩⟩⟩
      have ts9 := ws.kp.ts z1.w.noTup
      obtain ⟨u1, u2, u3⟩ := two_step z1 z2 z9 ws.kp ts9 (fun b hb z => z9 b (List.mem_append.mpr (.inl z)) hb) (fun z => z1.o (List.mem_append.mpr (.inl z))) ws.nw ws.at_ ws.p ws.td ws.hd ws.tl
      exact ⟨A9, W7, S7, A8, W8, S8, u1, u2, z3, z4, z5, z6, ws.sn.trans z7, z8, u3, z10.keep ws.kp fun h hn => ⟨fun z => h (List.mem_append.mpr (.inl (List.mem_append.mpr (.inl z)))), fun z => by
        rcases List.mem_append.mp z with y | y
        · exact (ws.nw a y).elim (fun x => h (List.mem_append.mpr (.inl x))) hn
        · exact h (List.mem_append.mpr (.inr y))⟩⟩
    · rintro σ H3 ⟨v4, v5, rfl, A, W, S, A2, W2, S2, x1, x2, x3, x4, x5, x6, x7, x8, x9, x10⟩
      have hn63 : ∀ m : Int, m = (if (if (63 : Int) < (is.length : Int) then (63 : Int) else (is.length : Int)) > 13 then (if (63 : Int) < (is.length : Int) then (63 : Int) else (is.length : Int)) else 13) → (m - 1).toNat ≤ 62 := fun m hm => by
        rw [hm]
        split <;> split <;> omega
      have g62 := hn63 _ rfl
      have l1 := x3.len
      have l2 := x4.len
      have hst := x1.s
      refine ⟨_, rfl, st, _, _, _, rfl, rfl, SqT.of hst, atI_nat (j := 0) rfl, _, rfl, st, _, _, _, rfl, rfl, SqT.of hst, atI_nat (j := 1) rfl, _, rfl, st, _, _, _, rfl, rfl, SqT.of hst, atI_nat (j := 2) rfl, G, gr, A, W, S, rfl, x1.w, x3, by omega, x7, fun H9 A9 ws => ⟨true, rfl, ?_⟩⟩
      have ts9 := ws.kp.ts x1.w.noTup
      obtain ⟨u1, u2, u3⟩ := two_step x1 x2 x9 ws.kp ts9 (fun b hb z => x9 b (List.mem_append.mpr (.inl z)) hb) (fun z => x1.o (List.mem_append.mpr (.inl z))) ws.nw ws.at_ ws.p ws.td ws.hd ws.tl
      have hsb := u2.s
      exact ⟨_, rfl, sb, _, _, _, rfl, rfl, SqT.of hsb, atI_nat (j := 0) rfl, _, rfl, sb, _, _, _, rfl, rfl, SqT.of hsb, atI_nat (j := 1) rfl, _, rfl, sb, _, _, _, rfl, rfl, SqT.of hsb, atI_nat (j := 2) rfl, G, gr, A2, W2, S2, rfl, u2.w, x4, by omega, x8, fun H10 A10 _ => q H10⟩
end
end Tw
end

section
set_option Elab.async false
set_option maxRecDepth 100000
set_option maxHeartbeats 4000000
set_option autoImplicit false
/-! all defs put together; what the top has left; the end -/
namespace Tw
open PySem L2 Twg
theorem law_all {P : Program} {w : World} {K : PySem.W.Frag} {mg : Str → Option Value} {base : Heap} {C : Addr} (T : ClsT K C) (B : Bas mg) {f1 f9 : Addr} {fd1 fd9 : FuncData} (M : Mk K C f1) (F1 : Fun K "__init__" "Shelf.__init__" s_init f1 fd1) (b1 : Binds K fd1 ["self"] []) (mS : mg "Shelf" = some (.ref C))
    (r_is_number : RawG K mg "is_number" s_is_number ["thing"])
    (r_is_text : RawG K mg "is_text" s_is_text ["thing"])
    (r_is_within : RawG K mg "is_within" s_is_within ["thing", "room"])
    (r_is_key : RawG K mg "is_key" s_is_key ["thing"])
    (r_checked : RawG K mg "checked" s_checked ["thing"])
    (r_rank : RawG K mg "rank" s_rank ["key"])
    (r_ahead : RawG K mg "ahead" s_ahead ["one", "other"])
    (r_checked_rows : RawG K mg "checked_rows" s_checked_rows ["rows"])
    (r_label_of_rows : RawG K mg "label_of_rows" s_label_of_rows ["rows"])
    (r_label_over : RawG K mg "label_over" s_label_over ["labels"])
    (r_lwell : RawG K mg "_law_well" s_lwell ["_law_script", "_law_k"])
    (r_lpull : RawG K mg "_law_pull" s_lpull ["_law_well_here", "_law_many"])
    (r_lrank : RawG K mg "_law_rank" s_lrank ["_law_key"])
    (r_lless : RawG K mg "_law_less" s_lless ["_law_one", "_law_other"])
    (r_lalike : RawG K mg "_law_alike" s_lalike ["_law_found", "_law_due"])
    (r_lgrid : RawG K mg "_law_grid" s_lgrid ["_law_well_here"])
    (r_lleaf_rows : RawG K mg "_law_leaf_rows" s_lleaf_rows ["_law_well_here", "_law_grid_here", "_law_block"])
    (r_lrows_of : RawG K mg "_law_rows_of" s_lrows_of ["_law_twigs", "_law_number"])
    (r_llabel : RawG K mg "_law_label" s_llabel ["_law_twigs", "_law_number"])
    (r_labove : RawG K mg "_law_above" s_labove ["_law_twigs", "_law_number"])
    (r_lshared : RawG K mg "_law_shared" s_lshared ["_law_twigs", "_law_holds", "_law_number"])
    (r_lswept : RawG K mg "_law_swept" s_lswept ["_law_twigs", "_law_holds"])
    (r_lcount : RawG K mg "_law_count" s_lcount ["_law_found", "_law_due"])
    (r_lexact : RawG K mg "_law_exact" s_lexact ["_law_shelf", "_law_twigs", "_law_holds"])
    (r_lpicked : RawG K mg "_law_picked" s_lpicked ["_law_well_here", "_law_some"])
    (r_lrun : RawG K mg "_law_run" s_lrun ["_law_well_here", "_law_twigs", "_law_holds", "_law_grid_here"])
    (r_lput_leaf : RawG K mg "_law_put_leaf" s_lput_leaf ["_law_well_here", "_law_state", "_law_block"])
    (r_lfits : RawG K mg "_law_fits" s_lfits ["_law_twigs", "_law_numbers"])
    (r_lput_stem : RawG K mg "_law_put_stem" s_lput_stem ["_law_well_here", "_law_state"])
    (r_lheld : RawG K mg "_law_held" s_lheld ["_law_well_here", "_law_state", "_law_number", "_law_way"])
    (r_lchanged : RawG K mg "_law_changed" s_lchanged ["_law_well_here", "_law_state", "_law_number"])
    (r_ldeed : RawG K mg "_law_deed" s_ldeed ["_law_well_here", "_law_state"])
    (q_need : RawM K C "need" "Shelf.need" s_need ["self", "number"])
    (q_set_down : RawM K C "set_down" "Shelf.set_down" s_set_down ["self", "kind", "what", "tag"])
    (q_put_leaf : RawM K C "put_leaf" "Shelf.put_leaf" s_put_leaf ["self", "rows"])
    (q_put_stem : RawM K C "put_stem" "Shelf.put_stem" s_put_stem ["self", "numbers"])
    (q_need_held : RawM K C "need_held" "Shelf.need_held" s_need_held ["self", "branches"])
    (q_hand_over : RawM K C "hand_over" "Shelf.hand_over" s_hand_over ["self", "branches", "number"])
    (q_hold : RawM K C "hold" "Shelf.hold" s_hold ["self", "number"])
    (q_let_go : RawM K C "let_go" "Shelf.let_go" s_let_go ["self", "number"])
    (q_sweep : RawM K C "sweep" "Shelf.sweep" s_sweep ["self", "number"])
    (q_outside : RawM K C "outside" "Shelf.outside" s_outside ["self", "number"])
    (q_holders : RawM K C "holders" "Shelf.holders" s_holders ["self", "number"])
    (q_shared_above : RawM K C "shared_above" "Shelf.shared_above" s_shared_above ["self", "number"])
    (q_alone : RawM K C "alone" "Shelf.alone" s_alone ["self", "number"])
    (q_need_alone : RawM K C "need_alone" "Shelf.need_alone" s_need_alone ["self", "number"])
    (q_tags_behind : RawM K C "tags_behind" "Shelf.tags_behind" s_tags_behind ["self", "number", "tag"])
    (q_change_leaf : RawM K C "change_leaf" "Shelf.change_leaf" s_change_leaf ["self", "number", "rows"])
    (q_change_stem : RawM K C "change_stem" "Shelf.change_stem" s_change_stem ["self", "number", "numbers"])
    (q_look : RawM K C "look" "Shelf.look" s_look ["self", "number"])
    (q_label : RawM K C "label" "Shelf.label" s_label ["self", "number"])
    (q_looked : RawM K C "looked" "Shelf.looked" s_looked ["self"])
    (q_forget : RawM K C "forget" "Shelf.forget" s_forget ["self"])
    (q_numbers : RawM K C "numbers" "Shelf.numbers" s_numbers ["self"])
    (q_many : RawM K C "many" "Shelf.many" s_many ["self"])
    (F9 : Fun K "law" "law" s_law f9 fd9) : FnOk P w K mg base CX0 10 f9 fd9 ["_law_script"] (spLaw K) := by
  have d_is_number := df_is_number (P := P) (w := w) (mg := mg) (base := base) B r_is_number
  have d_is_text := df_is_text (P := P) (w := w) (mg := mg) (base := base) B r_is_text
  have d_is_withinA := df_is_withinA (P := P) (w := w) (mg := mg) (base := base) B d_is_number d_is_text r_is_within
  have d_is_within := df_is_within (P := P) (w := w) (mg := mg) (base := base) B d_is_number d_is_text d_is_withinA r_is_within
  have d_is_key := df_is_key (P := P) (w := w) (mg := mg) (base := base) B d_is_within r_is_key
  have d_checked := df_checked (P := P) (w := w) (mg := mg) (base := base) d_is_key r_checked
  have d_rankA := df_rankA (P := P) (w := w) (mg := mg) (base := base) B r_rank
  have d_rank := df_rank (P := P) (w := w) (mg := mg) (base := base) B d_rankA r_rank
  have d_lrankA := df_lrankA (P := P) (w := w) (mg := mg) (base := base) B r_lrank
  have d_lrank := df_lrank (P := P) (w := w) (mg := mg) (base := base) B d_lrankA r_lrank
  have d_ahead := df_ahead (P := P) (w := w) (mg := mg) (base := base) d_rank r_ahead
  have d_lless := df_lless (P := P) (w := w) (mg := mg) (base := base) d_lrank r_lless
  have d_checked_rows := fun (G : List Kd) (gr : GridOk G) => df_checked_rows (P := P) (w := w) (mg := mg) (base := base) (G := G) gr B d_checked d_ahead r_checked_rows
  have d_label_of_rows := fun (G : List Kd) (gr : GridOk G) => df_label_of_rows (P := P) (w := w) (mg := mg) (base := base) (G := G) B r_label_of_rows
  have d_label_over := fun (G : List Kd) (gr : GridOk G) => df_label_over (P := P) (w := w) (mg := mg) (base := base) (G := G) gr B d_ahead r_label_over
  have m_need := fun (G : List Kd) (gr : GridOk G) => df_need (P := P) (w := w) (mg := mg) (base := base) (G := G) T q_need
  have m_label := fun (G : List Kd) (gr : GridOk G) => df_label (P := P) (w := w) (mg := mg) (base := base) (G := G) T (m_need G gr) q_label
  have m_outside := fun (G : List Kd) (gr : GridOk G) => df_outside (P := P) (w := w) (mg := mg) (base := base) (G := G) T (m_need G gr) q_outside
  have m_holders := fun (G : List Kd) (gr : GridOk G) => df_holders (P := P) (w := w) (mg := mg) (base := base) (G := G) T B (m_need G gr) q_holders
  have m_many := fun (G : List Kd) (gr : GridOk G) => df_many (P := P) (w := w) (mg := mg) (base := base) (G := G) T B q_many
  have m_looked := fun (G : List Kd) (gr : GridOk G) => df_looked (P := P) (w := w) (mg := mg) (base := base) (G := G) T B q_looked
  have m_numbers := fun (G : List Kd) (gr : GridOk G) => df_numbers (P := P) (w := w) (mg := mg) (base := base) (G := G) T B q_numbers
  have m_forget := fun (G : List Kd) (gr : GridOk G) => df_forget (P := P) (w := w) (mg := mg) (base := base) (G := G) T q_forget
  have m_look := fun (G : List Kd) (gr : GridOk G) => df_look (P := P) (w := w) (mg := mg) (base := base) (G := G) T B (m_need G gr) q_look
  have m_shared_above := fun (G : List Kd) (gr : GridOk G) => df_shared_above (P := P) (w := w) (mg := mg) (base := base) (G := G) T (m_holders G gr) q_shared_above
  have m_alone := fun (G : List Kd) (gr : GridOk G) => df_alone (P := P) (w := w) (mg := mg) (base := base) (G := G) T (m_need G gr) (m_shared_above G gr) q_alone
  have m_need_alone := fun (G : List Kd) (gr : GridOk G) => df_need_alone (P := P) (w := w) (mg := mg) (base := base) (G := G) T (m_shared_above G gr) q_need_alone
  have m_set_down := fun (G : List Kd) (gr : GridOk G) => df_set_down (P := P) (w := w) (mg := mg) (base := base) (G := G) T B q_set_down
  have m_put_leaf := fun (G : List Kd) (gr : GridOk G) => df_put_leaf (P := P) (w := w) (mg := mg) (base := base) (G := G) T B (d_checked_rows G gr) (d_label_of_rows G gr) (m_set_down G gr) q_put_leaf
  have m_need_held := fun (G : List Kd) (gr : GridOk G) => df_need_held (P := P) (w := w) (mg := mg) (base := base) (G := G) T q_need_held
  have m_hand_over := fun (G : List Kd) (gr : GridOk G) => df_hand_over (P := P) (w := w) (mg := mg) (base := base) (G := G) T q_hand_over
  have m_put_stem := fun (G : List Kd) (gr : GridOk G) => df_put_stem (P := P) (w := w) (mg := mg) (base := base) (G := G) T B (m_need G gr) (d_label_over G gr) (m_need_held G gr) (m_set_down G gr) (m_hand_over G gr) q_put_stem
  have m_hold := fun (G : List Kd) (gr : GridOk G) => df_hold (P := P) (w := w) (mg := mg) (base := base) (G := G) T (m_need G gr) q_hold
  have m_sweep := fun (G : List Kd) (gr : GridOk G) => df_sweep (P := P) (w := w) (mg := mg) (base := base) (G := G) T B q_sweep
  have m_let_go := fun (G : List Kd) (gr : GridOk G) => df_let_go (P := P) (w := w) (mg := mg) (base := base) (G := G) T (m_need G gr) (m_sweep G gr) q_let_go
  have m_tags_behind := fun (G : List Kd) (gr : GridOk G) => df_tags_behind (P := P) (w := w) (mg := mg) (base := base) (G := G) T B (d_label_over G gr) q_tags_behind
  have m_change_leaf := fun (G : List Kd) (gr : GridOk G) => df_change_leaf (P := P) (w := w) (mg := mg) (base := base) (G := G) T B (m_need G gr) (m_need_alone G gr) (d_checked_rows G gr) (d_label_of_rows G gr) (m_tags_behind G gr) q_change_leaf
  have m_change_stem := fun (G : List Kd) (gr : GridOk G) => df_change_stem (P := P) (w := w) (mg := mg) (base := base) (G := G) T B (m_need G gr) (m_need_alone G gr) (d_label_over G gr) (m_tags_behind G gr) (m_need_held G gr) (m_hand_over G gr) q_change_stem
  have d_lwell := df_well (P := P) (w := w) (mg := mg) (base := base) B r_lwell
  have d_lpull := df_pull (P := P) (w := w) (mg := mg) (base := base) B r_lpull
  have d_lalike := df_alike (P := P) (w := w) (mg := mg) (base := base) B r_lalike
  have d_lcount := df_count (P := P) (w := w) (mg := mg) (base := base) B r_lcount
  have d_lpicked := df_picked (P := P) (w := w) (mg := mg) (base := base) B d_lpull r_lpicked
  have d_lrows_of := fun (G : List Kd) (gr : GridOk G) => df_rows_of (P := P) (w := w) (mg := mg) (base := base) (G := G) B r_lrows_of
  have d_llabel := fun (G : List Kd) (gr : GridOk G) => df_llabel (P := P) (w := w) (mg := mg) (base := base) (G := G) B (d_lrows_of G gr) r_llabel
  have d_labove := fun (G : List Kd) (gr : GridOk G) => df_labove (P := P) (w := w) (mg := mg) (base := base) (G := G) B r_labove
  have d_lshared := fun (G : List Kd) (gr : GridOk G) => df_lshared (P := P) (w := w) (mg := mg) (base := base) (G := G) B (d_labove G gr) r_lshared
  have d_lswept := fun (G : List Kd) (gr : GridOk G) => df_swept (P := P) (w := w) (mg := mg) (base := base) (G := G) B r_lswept
  have d_lfits := fun (G : List Kd) (gr : GridOk G) => df_fits (P := P) (w := w) (mg := mg) (base := base) (G := G) gr B (d_llabel G gr) d_lless r_lfits
  have d_lgrid := df_grid (P := P) (w := w) (mg := mg) (base := base) B d_lpull r_lgrid
  have d_lleaf_rows := fun (G : List Kd) (gr : GridOk G) => df_leaf_rows (P := P) (w := w) (mg := mg) (base := base) (G := G) gr B d_lpull r_lleaf_rows
  have d_lexact := fun (G : List Kd) (gr : GridOk G) => df_exact (P := P) (w := w) (mg := mg) (base := base) (G := G) T gr B (m_numbers G gr) d_lalike d_lcount (m_many G gr) (m_look G gr) (m_label G gr) (d_llabel G gr) (m_outside G gr) (m_holders G gr) (d_labove G gr) (m_alone G gr) (d_lshared G gr) (m_forget G gr) r_lexact
  have d_lput_leaf := fun (G : List Kd) (gr : GridOk G) => df_lput_leaf (P := P) (w := w) (mg := mg) (base := base) (G := G) T B (d_lleaf_rows G gr) (m_put_leaf G gr) r_lput_leaf
  have d_lheld := fun (G : List Kd) (gr : GridOk G) => df_held (P := P) (w := w) (mg := mg) (base := base) (G := G) T (m_hold G gr) (d_lswept G gr) (m_let_go G gr) r_lheld
  have d_lrun := fun (G : List Kd) (gr : GridOk G) => df_run (P := P) (w := w) (mg := mg) (base := base) (G := G) gr B d_lpull d_lpicked (d_llabel G gr) r_lrun
  have d_lput_stem := fun (G : List Kd) (gr : GridOk G) => df_lput_stem (P := P) (w := w) (mg := mg) (base := base) (G := G) T B (d_lrun G gr) (d_lfits G gr) (m_put_stem G gr) r_lput_stem
  have d_lchanged := fun (G : List Kd) (gr : GridOk G) => df_changed (P := P) (w := w) (mg := mg) (base := base) (G := G) T gr B (d_lshared G gr) d_lpull (m_change_leaf G gr) (d_llabel G gr) (d_lfits G gr) (m_change_stem G gr) r_lchanged
  have d_ldeed := fun (G : List Kd) (gr : GridOk G) => df_deed (P := P) (w := w) (mg := mg) (base := base) (G := G) B d_lpull (d_lput_leaf G gr) (d_lput_stem G gr) (d_lshared G gr) d_lpicked (d_lheld G gr) (d_lchanged G gr) r_ldeed
  have i0 : FnOk P w K mg base CX0 1 f1 fd1 ["self"] (spInit C []) := df_init T F1
  have n1 := df_many (P := P) (w := w) (mg := mg) (base := base) (G := []) T B q_many
  have n2 := df_looked (P := P) (w := w) (mg := mg) (base := base) (G := []) T B q_looked
  have n3 := df_numbers (P := P) (w := w) (mg := mg) (base := base) (G := []) T B q_numbers
  exact df_law T B M i0 b1 mS d_lwell d_lgrid n1 n2 n3 d_ldeed d_lput_leaf d_lexact r_ldeed r_lput_leaf r_lexact F9
theorem raw_g {K : PySem.W.Frag} {mg : Str → Option Value} {h : Heap} (X : K.In h) (N : h.Ns mainGlobals mg) {x : Str} {st : Stmt} {ps : List Str} {f : Addr} {oc : Value} {od an : Option Addr} {sl : Array (Option Value)} {kV dc pm cd ct : Value} (a : PySem.W.nsIn K mainGlobals x = some (some (.ref f)))
    (l : K.lookup f = some ⟨oc, od, .func (PySem.W.fnOf x x (defArgs st) (defBody st) (defScope st) .none kV dc pm an cd ct), sl⟩) (c : PySem.W.codeIn K cd x = true) (k : PySem.W.keepIn K (.ref f) = true)
    (b : ∀ (kV doc pm : Value) (an : Option Addr) (cdv ct : Value) (us : List Value), us.length = ps.length → bindArgs (PySem.W.fnOf x x (defArgs st) (defBody st) (defScope st) .none kV doc pm an cdv ct) ⟨us, []⟩ = pure (ps.zip us)) : RawG K mg x st ps :=
  ⟨f, _, PySem.W.mg_of X N a, k, (fun_mk (st := st) l c k).binds b, fun_mk (st := st) l c k⟩
theorem raw_m {K : PySem.W.Frag} {C : Addr} {m qual : Str} {st : Stmt} {ps : List Str} {f : Addr} {oc : Value} {od an : Option Addr} {sl : Array (Option Value)} {kV dc pm cd ct : Value} (a : PySem.W.findIn K (.ref C) m = some (some (.ref f))) (i : PySem.W.isFn K (.ref f) = true)
    (l : K.lookup f = some ⟨oc, od, .func (PySem.W.fnOf m qual (defArgs st) (defBody st) (defScope st) .none kV dc pm an cd ct), sl⟩) (c : PySem.W.codeIn K cd qual = true) (k : PySem.W.keepIn K (.ref f) = true)
    (b : ∀ (kV doc pm : Value) (an : Option Addr) (cdv ct : Value) (us : List Value), us.length = ps.length → bindArgs (PySem.W.fnOf m qual (defArgs st) (defBody st) (defScope st) .none kV doc pm an cdv ct) ⟨us, []⟩ = pure (ps.zip us)) : RawM K C m qual st ps :=
  ⟨f, _, ⟨a, i, k⟩, (fun_mk (st := st) l c k).binds b, fun_mk (st := st) l c k⟩
theorem walk_ofX {l : PySem.W.OpenLaw} {n k : Nat} {q : Program} {loose : List Str} {XP : (Str → Option Value) → Heap → Prop} {YP : World → Heap → Prop} {d : DefRec} {K : Params → PySem.W.Frag} {CX : World → CXT} {sp : World → Sp} {x : Str}
    (hn : l.most = some n) (hn2 : n ≤ sizeLine) (hdf : d.params.defaults = []) (hr : Room k callerA)
    (hY : ∀ (w : World) (h : Heap), YP w h → (K w.params).In h)
    (F : ∀ (w : World) (mg : Str → Option Value) (fa : Addr) (h : Heap), (K w.params).In h → h.Ns mainGlobals mg → XP mg h → mg d.name = some (.ref fa) →
      ∃ fd : FuncData, (∀ (s : Shared) (u : Value), BindsTo s fd ⟨[u], []⟩ [(x, u)]) ∧
        ∀ base : Heap, (K w.params).In base → base.Ns mainGlobals mg → FnOk l.prog w (K w.params) mg base (CX w) k fa fd [x] (sp w))
    (hsp : ∀ (w : World) (H : Hp) (a : Addr) (ns : List Int), ns.length ≤ n → Only H → SqL (K w.params) H a (ns.map V.int) → sp w [.ref a] H (fun v _ => v = .bl true) fun _ _ _ => False)
    (hCX : ∀ (w : World) (H : Hp) (s : Shared) (e : Value) (s' : Shared), CX w [] H s (fun _ _ _ => False) e s' → False) :
    PySem.W.WalkO q loose XP YP l.row.toRowW d [] (fun f vs => PySem.call f vs) := by
  refine Att.attach_callB hn hdf fun w s₀ s₁ mg mb fa o pm cd doc a vs ns G Y ho hd hcd hmg hobj hints hlen hbits hg => ?_
  have KX := hY w _ Y
  obtain ⟨fd, hb, hF⟩ := F w mg fa _ KX G.T.g G.X hmg
  exact law_call KX G.T.g G.T.b G.T.builtins G.T.nolimit hg hobj hints (Nat.le_trans hlen hn2) hr hF hb (fun H hO hS => hsp w H a ns hlen hO hS) fun H e s' => hCX w H s₁ e s'
theorem walk {l : PySem.W.OpenLaw} {q : Program} {loose : List Str} {XP : (Str → Option Value) → Heap → Prop} {YP : World → Heap → Prop} {d : DefRec} {K : Params → PySem.W.Frag} (hn : l.most = some 63) (hdf : d.params.defaults = [])
    (hY : ∀ (w : World) (h : Heap), YP w h → (K w.params).In h)
    (F : ∀ (w : World) (mg : Str → Option Value) (fa : Addr) (h : Heap), (K w.params).In h → h.Ns mainGlobals mg → XP mg h → mg d.name = some (.ref fa) →
      ∃ fd : FuncData, (∀ (s : Shared) (u : Value), BindsTo s fd ⟨[u], []⟩ [("_law_script", u)]) ∧ ∀ base : Heap, (K w.params).In base → base.Ns mainGlobals mg → FnOk l.prog w (K w.params) mg base CX0 10 fa fd ["_law_script"] (spLaw (K w.params))) :
    PySem.W.WalkO q loose XP YP l.row.toRowW d [] (fun f vs => PySem.call f vs) :=
  walk_ofX (n := 63) (k := 10) (x := "_law_script") (CX := fun _ => CX0) (sp := fun w => spLaw (K w.params)) hn (by decide) hdf ⟨rfl, by decide, by decide⟩ hY F (fun _ _ a ns hl _ hS => ⟨a, ns, rfl, hS, hl, fun _ => rfl⟩) fun _ _ _ _ _ z => z
theorem bound_of {p : Program} {mg : Str → Option Value} {h : Heap} {n : Int} (x : PySem.W.XL p [("BOUND", .int n)] mg h) : ∃ t, mg "BOUND" = some (.int n t) := by
  obtain ⟨v, hv, hr⟩ := x.2.val _ (List.mem_singleton.mpr rfl)
  cases hr
  exact ⟨_, hv⟩
theorem all_mk {l : PySem.W.OpenLaw} {w : World} {K : PySem.W.Frag} {h : Heap} {mg : Str → Option Value} {fa C : Addr} (X : K.In h) (N : h.Ns mainGlobals mg) (hfa : mg "law" = some (.ref fa)) (xb : ∃ t, mg "BOUND" = some (.int (10 ^ 60) t))
    (aC : PySem.W.nsIn K mainGlobals "Shelf" = some (some (.ref C)))
    (pg : PySem.W.plainGet K C Str.empty = true)
    (hd : PySem.W.hasDictIn K C = true)
    (po : PySem.W.plainOver K C = true)
    (sa : PySem.W.findIn K (.ref C) "__setattr__" = some (some (.builtin "object.__setattr__")))
    (mk : PySem.W.makesIn K C = true)
    (kc : PySem.W.keepIn K (.ref C) = true)
    (n_kept : PySem.W.findIn K (.ref C) "kept" = some none)
    (n_tags : PySem.W.findIn K (.ref C) "tags" = some none)
    (n_above : PySem.W.findIn K (.ref C) "above" = some none)
    (n_freely : PySem.W.findIn K (.ref C) "freely" = some none)
    (n_seen : PySem.W.findIn K (.ref C) "seen" = some none)
    (n_given : PySem.W.findIn K (.ref C) "given" = some none)
    (z_len : PySem.W.nsIn K mainGlobals "len" = some none)
    (z_isinstance : PySem.W.nsIn K mainGlobals "isinstance" = some none)
    (z_int : PySem.W.nsIn K mainGlobals "int" = some none)
    (z_bool : PySem.W.nsIn K mainGlobals "bool" = some none)
    (z_str : PySem.W.nsIn K mainGlobals "str" = some none)
    (z_tuple : PySem.W.nsIn K mainGlobals "tuple" = some none)
    (z_list : PySem.W.nsIn K mainGlobals "list" = some none)
    (z_all : PySem.W.nsIn K mainGlobals "all" = some none)
    (z_sum : PySem.W.nsIn K mainGlobals "sum" = some none)
    (z_range : PySem.W.nsIn K mainGlobals "range" = some none)
    (z_sorted : PySem.W.nsIn K mainGlobals "sorted" = some none)
    (z_max : PySem.W.nsIn K mainGlobals "max" = some none)
    (z_min : PySem.W.nsIn K mainGlobals "min" = some none)
    (z_abs : PySem.W.nsIn K mainGlobals "abs" = some none)
    (z_reversed : PySem.W.nsIn K mainGlobals "reversed" = some none)
    {t_SIGNS : Tok}
    (c_SIGNS : PySem.W.nsIn K mainGlobals "SIGNS" = some (some (.int 40 t_SIGNS)))
    {t_WIDE : Tok}
    (c_WIDE : PySem.W.nsIn K mainGlobals "WIDE" = some (some (.int 4 t_WIDE)))
    {t_DEEP : Tok}
    (c_DEEP : PySem.W.nsIn K mainGlobals "DEEP" = some (some (.int 3 t_DEEP)))
    {t_MOST : Tok}
    (c_MOST : PySem.W.nsIn K mainGlobals "MOST" = some (some (.int 4 t_MOST)))
    {t_LEAF : Tok}
    (c_LEAF : PySem.W.nsIn K mainGlobals "LEAF" = some (some (.str "leaf" t_LEAF)))
    {t_STEM : Tok}
    (c_STEM : PySem.W.nsIn K mainGlobals "STEM" = some (some (.str "stem" t_STEM)))
    {f1 : Addr} {oc1 kV1 dc1 pm1 cd1 ct1 : Value} {od1 an1 : Option Addr} {sl1 : Array (Option Value)}
    (a1 : PySem.W.findIn K (.ref C) "__init__" = some (some (.ref f1)))
    (i1 : PySem.W.isFn K (.ref f1) = true)
    (l1 : K.lookup f1 = some ⟨oc1, od1, .func (PySem.W.fnOf "__init__" "Shelf.__init__" (defArgs s_init) (defBody s_init) (defScope s_init) .none kV1 dc1 pm1 an1 cd1 ct1), sl1⟩)
    (e1 : PySem.W.codeIn K cd1 "Shelf.__init__" = true)
    (k1 : PySem.W.keepIn K (.ref f1) = true)
    {f2 : Addr} {oc2 kV2 dc2 pm2 cd2 ct2 : Value} {od2 an2 : Option Addr} {sl2 : Array (Option Value)}
    (a2 : PySem.W.findIn K (.ref C) "need" = some (some (.ref f2)))
    (i2 : PySem.W.isFn K (.ref f2) = true)
    (l2 : K.lookup f2 = some ⟨oc2, od2, .func (PySem.W.fnOf "need" "Shelf.need" (defArgs s_need) (defBody s_need) (defScope s_need) .none kV2 dc2 pm2 an2 cd2 ct2), sl2⟩)
    (e2 : PySem.W.codeIn K cd2 "Shelf.need" = true)
    (k2 : PySem.W.keepIn K (.ref f2) = true)
    {f3 : Addr} {oc3 kV3 dc3 pm3 cd3 ct3 : Value} {od3 an3 : Option Addr} {sl3 : Array (Option Value)}
    (a3 : PySem.W.findIn K (.ref C) "set_down" = some (some (.ref f3)))
    (i3 : PySem.W.isFn K (.ref f3) = true)
    (l3 : K.lookup f3 = some ⟨oc3, od3, .func (PySem.W.fnOf "set_down" "Shelf.set_down" (defArgs s_set_down) (defBody s_set_down) (defScope s_set_down) .none kV3 dc3 pm3 an3 cd3 ct3), sl3⟩)
    (e3 : PySem.W.codeIn K cd3 "Shelf.set_down" = true)
    (k3 : PySem.W.keepIn K (.ref f3) = true)
    {f4 : Addr} {oc4 kV4 dc4 pm4 cd4 ct4 : Value} {od4 an4 : Option Addr} {sl4 : Array (Option Value)}
    (a4 : PySem.W.findIn K (.ref C) "put_leaf" = some (some (.ref f4)))
    (i4 : PySem.W.isFn K (.ref f4) = true)
    (l4 : K.lookup f4 = some ⟨oc4, od4, .func (PySem.W.fnOf "put_leaf" "Shelf.put_leaf" (defArgs s_put_leaf) (defBody s_put_leaf) (defScope s_put_leaf) .none kV4 dc4 pm4 an4 cd4 ct4), sl4⟩)
    (e4 : PySem.W.codeIn K cd4 "Shelf.put_leaf" = true)
    (k4 : PySem.W.keepIn K (.ref f4) = true)
    {f5 : Addr} {oc5 kV5 dc5 pm5 cd5 ct5 : Value} {od5 an5 : Option Addr} {sl5 : Array (Option Value)}
    (a5 : PySem.W.findIn K (.ref C) "put_stem" = some (some (.ref f5)))
    (i5 : PySem.W.isFn K (.ref f5) = true)
    (l5 : K.lookup f5 = some ⟨oc5, od5, .func (PySem.W.fnOf "put_stem" "Shelf.put_stem" (defArgs s_put_stem) (defBody s_put_stem) (defScope s_put_stem) .none kV5 dc5 pm5 an5 cd5 ct5), sl5⟩)
    (e5 : PySem.W.codeIn K cd5 "Shelf.put_stem" = true)
    (k5 : PySem.W.keepIn K (.ref f5) = true)
    {f6 : Addr} {oc6 kV6 dc6 pm6 cd6 ct6 : Value} {od6 an6 : Option Addr} {sl6 : Array (Option Value)}
    (a6 : PySem.W.findIn K (.ref C) "need_held" = some (some (.ref f6)))
    (i6 : PySem.W.isFn K (.ref f6) = true)
    (l6 : K.lookup f6 = some ⟨oc6, od6, .func (PySem.W.fnOf "need_held" "Shelf.need_held" (defArgs s_need_held) (defBody s_need_held) (defScope s_need_held) .none kV6 dc6 pm6 an6 cd6 ct6), sl6⟩)
    (e6 : PySem.W.codeIn K cd6 "Shelf.need_held" = true)
    (k6 : PySem.W.keepIn K (.ref f6) = true)
    {f7 : Addr} {oc7 kV7 dc7 pm7 cd7 ct7 : Value} {od7 an7 : Option Addr} {sl7 : Array (Option Value)}
    (a7 : PySem.W.findIn K (.ref C) "hand_over" = some (some (.ref f7)))
    (i7 : PySem.W.isFn K (.ref f7) = true)
    (l7 : K.lookup f7 = some ⟨oc7, od7, .func (PySem.W.fnOf "hand_over" "Shelf.hand_over" (defArgs s_hand_over) (defBody s_hand_over) (defScope s_hand_over) .none kV7 dc7 pm7 an7 cd7 ct7), sl7⟩)
    (e7 : PySem.W.codeIn K cd7 "Shelf.hand_over" = true)
    (k7 : PySem.W.keepIn K (.ref f7) = true)
    {f8 : Addr} {oc8 kV8 dc8 pm8 cd8 ct8 : Value} {od8 an8 : Option Addr} {sl8 : Array (Option Value)}
    (a8 : PySem.W.findIn K (.ref C) "hold" = some (some (.ref f8)))
    (i8 : PySem.W.isFn K (.ref f8) = true)
    (l8 : K.lookup f8 = some ⟨oc8, od8, .func (PySem.W.fnOf "hold" "Shelf.hold" (defArgs s_hold) (defBody s_hold) (defScope s_hold) .none kV8 dc8 pm8 an8 cd8 ct8), sl8⟩)
    (e8 : PySem.W.codeIn K cd8 "Shelf.hold" = true)
    (k8 : PySem.W.keepIn K (.ref f8) = true)
    {f9 : Addr} {oc9 kV9 dc9 pm9 cd9 ct9 : Value} {od9 an9 : Option Addr} {sl9 : Array (Option Value)}
    (a9 : PySem.W.findIn K (.ref C) "let_go" = some (some (.ref f9)))
    (i9 : PySem.W.isFn K (.ref f9) = true)
    (l9 : K.lookup f9 = some ⟨oc9, od9, .func (PySem.W.fnOf "let_go" "Shelf.let_go" (defArgs s_let_go) (defBody s_let_go) (defScope s_let_go) .none kV9 dc9 pm9 an9 cd9 ct9), sl9⟩)
    (e9 : PySem.W.codeIn K cd9 "Shelf.let_go" = true)
    (k9 : PySem.W.keepIn K (.ref f9) = true)
    {f10 : Addr} {oc10 kV10 dc10 pm10 cd10 ct10 : Value} {od10 an10 : Option Addr} {sl10 : Array (Option Value)}
    (a10 : PySem.W.findIn K (.ref C) "sweep" = some (some (.ref f10)))
    (i10 : PySem.W.isFn K (.ref f10) = true)
    (l10 : K.lookup f10 = some ⟨oc10, od10, .func (PySem.W.fnOf "sweep" "Shelf.sweep" (defArgs s_sweep) (defBody s_sweep) (defScope s_sweep) .none kV10 dc10 pm10 an10 cd10 ct10), sl10⟩)
    (e10 : PySem.W.codeIn K cd10 "Shelf.sweep" = true)
    (k10 : PySem.W.keepIn K (.ref f10) = true)
    {f11 : Addr} {oc11 kV11 dc11 pm11 cd11 ct11 : Value} {od11 an11 : Option Addr} {sl11 : Array (Option Value)}
    (a11 : PySem.W.findIn K (.ref C) "outside" = some (some (.ref f11)))
    (i11 : PySem.W.isFn K (.ref f11) = true)
    (l11 : K.lookup f11 = some ⟨oc11, od11, .func (PySem.W.fnOf "outside" "Shelf.outside" (defArgs s_outside) (defBody s_outside) (defScope s_outside) .none kV11 dc11 pm11 an11 cd11 ct11), sl11⟩)
    (e11 : PySem.W.codeIn K cd11 "Shelf.outside" = true)
    (k11 : PySem.W.keepIn K (.ref f11) = true)
    {f12 : Addr} {oc12 kV12 dc12 pm12 cd12 ct12 : Value} {od12 an12 : Option Addr} {sl12 : Array (Option Value)}
    (a12 : PySem.W.findIn K (.ref C) "holders" = some (some (.ref f12)))
    (i12 : PySem.W.isFn K (.ref f12) = true)
    (l12 : K.lookup f12 = some ⟨oc12, od12, .func (PySem.W.fnOf "holders" "Shelf.holders" (defArgs s_holders) (defBody s_holders) (defScope s_holders) .none kV12 dc12 pm12 an12 cd12 ct12), sl12⟩)
    (e12 : PySem.W.codeIn K cd12 "Shelf.holders" = true)
    (k12 : PySem.W.keepIn K (.ref f12) = true)
    {f13 : Addr} {oc13 kV13 dc13 pm13 cd13 ct13 : Value} {od13 an13 : Option Addr} {sl13 : Array (Option Value)}
    (a13 : PySem.W.findIn K (.ref C) "shared_above" = some (some (.ref f13)))
    (i13 : PySem.W.isFn K (.ref f13) = true)
    (l13 : K.lookup f13 = some ⟨oc13, od13, .func (PySem.W.fnOf "shared_above" "Shelf.shared_above" (defArgs s_shared_above) (defBody s_shared_above) (defScope s_shared_above) .none kV13 dc13 pm13 an13 cd13 ct13), sl13⟩)
    (e13 : PySem.W.codeIn K cd13 "Shelf.shared_above" = true)
    (k13 : PySem.W.keepIn K (.ref f13) = true)
    {f14 : Addr} {oc14 kV14 dc14 pm14 cd14 ct14 : Value} {od14 an14 : Option Addr} {sl14 : Array (Option Value)}
    (a14 : PySem.W.findIn K (.ref C) "alone" = some (some (.ref f14)))
    (i14 : PySem.W.isFn K (.ref f14) = true)
    (l14 : K.lookup f14 = some ⟨oc14, od14, .func (PySem.W.fnOf "alone" "Shelf.alone" (defArgs s_alone) (defBody s_alone) (defScope s_alone) .none kV14 dc14 pm14 an14 cd14 ct14), sl14⟩)
    (e14 : PySem.W.codeIn K cd14 "Shelf.alone" = true)
    (k14 : PySem.W.keepIn K (.ref f14) = true)
    {f15 : Addr} {oc15 kV15 dc15 pm15 cd15 ct15 : Value} {od15 an15 : Option Addr} {sl15 : Array (Option Value)}
    (a15 : PySem.W.findIn K (.ref C) "need_alone" = some (some (.ref f15)))
    (i15 : PySem.W.isFn K (.ref f15) = true)
    (l15 : K.lookup f15 = some ⟨oc15, od15, .func (PySem.W.fnOf "need_alone" "Shelf.need_alone" (defArgs s_need_alone) (defBody s_need_alone) (defScope s_need_alone) .none kV15 dc15 pm15 an15 cd15 ct15), sl15⟩)
    (e15 : PySem.W.codeIn K cd15 "Shelf.need_alone" = true)
    (k15 : PySem.W.keepIn K (.ref f15) = true)
    {f16 : Addr} {oc16 kV16 dc16 pm16 cd16 ct16 : Value} {od16 an16 : Option Addr} {sl16 : Array (Option Value)}
    (a16 : PySem.W.findIn K (.ref C) "tags_behind" = some (some (.ref f16)))
    (i16 : PySem.W.isFn K (.ref f16) = true)
    (l16 : K.lookup f16 = some ⟨oc16, od16, .func (PySem.W.fnOf "tags_behind" "Shelf.tags_behind" (defArgs s_tags_behind) (defBody s_tags_behind) (defScope s_tags_behind) .none kV16 dc16 pm16 an16 cd16 ct16), sl16⟩)
    (e16 : PySem.W.codeIn K cd16 "Shelf.tags_behind" = true)
    (k16 : PySem.W.keepIn K (.ref f16) = true)
    {f17 : Addr} {oc17 kV17 dc17 pm17 cd17 ct17 : Value} {od17 an17 : Option Addr} {sl17 : Array (Option Value)}
    (a17 : PySem.W.findIn K (.ref C) "change_leaf" = some (some (.ref f17)))
    (i17 : PySem.W.isFn K (.ref f17) = true)
    (l17 : K.lookup f17 = some ⟨oc17, od17, .func (PySem.W.fnOf "change_leaf" "Shelf.change_leaf" (defArgs s_change_leaf) (defBody s_change_leaf) (defScope s_change_leaf) .none kV17 dc17 pm17 an17 cd17 ct17), sl17⟩)
    (e17 : PySem.W.codeIn K cd17 "Shelf.change_leaf" = true)
    (k17 : PySem.W.keepIn K (.ref f17) = true)
    {f18 : Addr} {oc18 kV18 dc18 pm18 cd18 ct18 : Value} {od18 an18 : Option Addr} {sl18 : Array (Option Value)}
    (a18 : PySem.W.findIn K (.ref C) "change_stem" = some (some (.ref f18)))
    (i18 : PySem.W.isFn K (.ref f18) = true)
    (l18 : K.lookup f18 = some ⟨oc18, od18, .func (PySem.W.fnOf "change_stem" "Shelf.change_stem" (defArgs s_change_stem) (defBody s_change_stem) (defScope s_change_stem) .none kV18 dc18 pm18 an18 cd18 ct18), sl18⟩)
    (e18 : PySem.W.codeIn K cd18 "Shelf.change_stem" = true)
    (k18 : PySem.W.keepIn K (.ref f18) = true)
    {f19 : Addr} {oc19 kV19 dc19 pm19 cd19 ct19 : Value} {od19 an19 : Option Addr} {sl19 : Array (Option Value)}
    (a19 : PySem.W.findIn K (.ref C) "look" = some (some (.ref f19)))
    (i19 : PySem.W.isFn K (.ref f19) = true)
    (l19 : K.lookup f19 = some ⟨oc19, od19, .func (PySem.W.fnOf "look" "Shelf.look" (defArgs s_look) (defBody s_look) (defScope s_look) .none kV19 dc19 pm19 an19 cd19 ct19), sl19⟩)
    (e19 : PySem.W.codeIn K cd19 "Shelf.look" = true)
    (k19 : PySem.W.keepIn K (.ref f19) = true)
    {f20 : Addr} {oc20 kV20 dc20 pm20 cd20 ct20 : Value} {od20 an20 : Option Addr} {sl20 : Array (Option Value)}
    (a20 : PySem.W.findIn K (.ref C) "label" = some (some (.ref f20)))
    (i20 : PySem.W.isFn K (.ref f20) = true)
    (l20 : K.lookup f20 = some ⟨oc20, od20, .func (PySem.W.fnOf "label" "Shelf.label" (defArgs s_label) (defBody s_label) (defScope s_label) .none kV20 dc20 pm20 an20 cd20 ct20), sl20⟩)
    (e20 : PySem.W.codeIn K cd20 "Shelf.label" = true)
    (k20 : PySem.W.keepIn K (.ref f20) = true)
    {f21 : Addr} {oc21 kV21 dc21 pm21 cd21 ct21 : Value} {od21 an21 : Option Addr} {sl21 : Array (Option Value)}
    (a21 : PySem.W.findIn K (.ref C) "looked" = some (some (.ref f21)))
    (i21 : PySem.W.isFn K (.ref f21) = true)
    (l21 : K.lookup f21 = some ⟨oc21, od21, .func (PySem.W.fnOf "looked" "Shelf.looked" (defArgs s_looked) (defBody s_looked) (defScope s_looked) .none kV21 dc21 pm21 an21 cd21 ct21), sl21⟩)
    (e21 : PySem.W.codeIn K cd21 "Shelf.looked" = true)
    (k21 : PySem.W.keepIn K (.ref f21) = true)
    {f22 : Addr} {oc22 kV22 dc22 pm22 cd22 ct22 : Value} {od22 an22 : Option Addr} {sl22 : Array (Option Value)}
    (a22 : PySem.W.findIn K (.ref C) "forget" = some (some (.ref f22)))
    (i22 : PySem.W.isFn K (.ref f22) = true)
    (l22 : K.lookup f22 = some ⟨oc22, od22, .func (PySem.W.fnOf "forget" "Shelf.forget" (defArgs s_forget) (defBody s_forget) (defScope s_forget) .none kV22 dc22 pm22 an22 cd22 ct22), sl22⟩)
    (e22 : PySem.W.codeIn K cd22 "Shelf.forget" = true)
    (k22 : PySem.W.keepIn K (.ref f22) = true)
    {f23 : Addr} {oc23 kV23 dc23 pm23 cd23 ct23 : Value} {od23 an23 : Option Addr} {sl23 : Array (Option Value)}
    (a23 : PySem.W.findIn K (.ref C) "numbers" = some (some (.ref f23)))
    (i23 : PySem.W.isFn K (.ref f23) = true)
    (l23 : K.lookup f23 = some ⟨oc23, od23, .func (PySem.W.fnOf "numbers" "Shelf.numbers" (defArgs s_numbers) (defBody s_numbers) (defScope s_numbers) .none kV23 dc23 pm23 an23 cd23 ct23), sl23⟩)
    (e23 : PySem.W.codeIn K cd23 "Shelf.numbers" = true)
    (k23 : PySem.W.keepIn K (.ref f23) = true)
    {f24 : Addr} {oc24 kV24 dc24 pm24 cd24 ct24 : Value} {od24 an24 : Option Addr} {sl24 : Array (Option Value)}
    (a24 : PySem.W.findIn K (.ref C) "many" = some (some (.ref f24)))
    (i24 : PySem.W.isFn K (.ref f24) = true)
    (l24 : K.lookup f24 = some ⟨oc24, od24, .func (PySem.W.fnOf "many" "Shelf.many" (defArgs s_many) (defBody s_many) (defScope s_many) .none kV24 dc24 pm24 an24 cd24 ct24), sl24⟩)
    (e24 : PySem.W.codeIn K cd24 "Shelf.many" = true)
    (k24 : PySem.W.keepIn K (.ref f24) = true)
    {f25 : Addr} {oc25 kV25 dc25 pm25 cd25 ct25 : Value} {od25 an25 : Option Addr} {sl25 : Array (Option Value)}
    (a25 : PySem.W.nsIn K mainGlobals "is_number" = some (some (.ref f25)))
    (l25 : K.lookup f25 = some ⟨oc25, od25, .func (PySem.W.fnOf "is_number" "is_number" (defArgs s_is_number) (defBody s_is_number) (defScope s_is_number) .none kV25 dc25 pm25 an25 cd25 ct25), sl25⟩)
    (e25 : PySem.W.codeIn K cd25 "is_number" = true)
    (k25 : PySem.W.keepIn K (.ref f25) = true)
    {f26 : Addr} {oc26 kV26 dc26 pm26 cd26 ct26 : Value} {od26 an26 : Option Addr} {sl26 : Array (Option Value)}
    (a26 : PySem.W.nsIn K mainGlobals "is_text" = some (some (.ref f26)))
    (l26 : K.lookup f26 = some ⟨oc26, od26, .func (PySem.W.fnOf "is_text" "is_text" (defArgs s_is_text) (defBody s_is_text) (defScope s_is_text) .none kV26 dc26 pm26 an26 cd26 ct26), sl26⟩)
    (e26 : PySem.W.codeIn K cd26 "is_text" = true)
    (k26 : PySem.W.keepIn K (.ref f26) = true)
    {f27 : Addr} {oc27 kV27 dc27 pm27 cd27 ct27 : Value} {od27 an27 : Option Addr} {sl27 : Array (Option Value)}
    (a27 : PySem.W.nsIn K mainGlobals "is_within" = some (some (.ref f27)))
    (l27 : K.lookup f27 = some ⟨oc27, od27, .func (PySem.W.fnOf "is_within" "is_within" (defArgs s_is_within) (defBody s_is_within) (defScope s_is_within) .none kV27 dc27 pm27 an27 cd27 ct27), sl27⟩)
    (e27 : PySem.W.codeIn K cd27 "is_within" = true)
    (k27 : PySem.W.keepIn K (.ref f27) = true)
    {f28 : Addr} {oc28 kV28 dc28 pm28 cd28 ct28 : Value} {od28 an28 : Option Addr} {sl28 : Array (Option Value)}
    (a28 : PySem.W.nsIn K mainGlobals "is_key" = some (some (.ref f28)))
    (l28 : K.lookup f28 = some ⟨oc28, od28, .func (PySem.W.fnOf "is_key" "is_key" (defArgs s_is_key) (defBody s_is_key) (defScope s_is_key) .none kV28 dc28 pm28 an28 cd28 ct28), sl28⟩)
    (e28 : PySem.W.codeIn K cd28 "is_key" = true)
    (k28 : PySem.W.keepIn K (.ref f28) = true)
    {f29 : Addr} {oc29 kV29 dc29 pm29 cd29 ct29 : Value} {od29 an29 : Option Addr} {sl29 : Array (Option Value)}
    (a29 : PySem.W.nsIn K mainGlobals "checked" = some (some (.ref f29)))
    (l29 : K.lookup f29 = some ⟨oc29, od29, .func (PySem.W.fnOf "checked" "checked" (defArgs s_checked) (defBody s_checked) (defScope s_checked) .none kV29 dc29 pm29 an29 cd29 ct29), sl29⟩)
    (e29 : PySem.W.codeIn K cd29 "checked" = true)
    (k29 : PySem.W.keepIn K (.ref f29) = true)
    {f30 : Addr} {oc30 kV30 dc30 pm30 cd30 ct30 : Value} {od30 an30 : Option Addr} {sl30 : Array (Option Value)}
    (a30 : PySem.W.nsIn K mainGlobals "rank" = some (some (.ref f30)))
    (l30 : K.lookup f30 = some ⟨oc30, od30, .func (PySem.W.fnOf "rank" "rank" (defArgs s_rank) (defBody s_rank) (defScope s_rank) .none kV30 dc30 pm30 an30 cd30 ct30), sl30⟩)
    (e30 : PySem.W.codeIn K cd30 "rank" = true)
    (k30 : PySem.W.keepIn K (.ref f30) = true)
    {f31 : Addr} {oc31 kV31 dc31 pm31 cd31 ct31 : Value} {od31 an31 : Option Addr} {sl31 : Array (Option Value)}
    (a31 : PySem.W.nsIn K mainGlobals "ahead" = some (some (.ref f31)))
    (l31 : K.lookup f31 = some ⟨oc31, od31, .func (PySem.W.fnOf "ahead" "ahead" (defArgs s_ahead) (defBody s_ahead) (defScope s_ahead) .none kV31 dc31 pm31 an31 cd31 ct31), sl31⟩)
    (e31 : PySem.W.codeIn K cd31 "ahead" = true)
    (k31 : PySem.W.keepIn K (.ref f31) = true)
    {f32 : Addr} {oc32 kV32 dc32 pm32 cd32 ct32 : Value} {od32 an32 : Option Addr} {sl32 : Array (Option Value)}
    (a32 : PySem.W.nsIn K mainGlobals "checked_rows" = some (some (.ref f32)))
    (l32 : K.lookup f32 = some ⟨oc32, od32, .func (PySem.W.fnOf "checked_rows" "checked_rows" (defArgs s_checked_rows) (defBody s_checked_rows) (defScope s_checked_rows) .none kV32 dc32 pm32 an32 cd32 ct32), sl32⟩)
    (e32 : PySem.W.codeIn K cd32 "checked_rows" = true)
    (k32 : PySem.W.keepIn K (.ref f32) = true)
    {f33 : Addr} {oc33 kV33 dc33 pm33 cd33 ct33 : Value} {od33 an33 : Option Addr} {sl33 : Array (Option Value)}
    (a33 : PySem.W.nsIn K mainGlobals "label_of_rows" = some (some (.ref f33)))
    (l33 : K.lookup f33 = some ⟨oc33, od33, .func (PySem.W.fnOf "label_of_rows" "label_of_rows" (defArgs s_label_of_rows) (defBody s_label_of_rows) (defScope s_label_of_rows) .none kV33 dc33 pm33 an33 cd33 ct33), sl33⟩)
    (e33 : PySem.W.codeIn K cd33 "label_of_rows" = true)
    (k33 : PySem.W.keepIn K (.ref f33) = true)
    {f34 : Addr} {oc34 kV34 dc34 pm34 cd34 ct34 : Value} {od34 an34 : Option Addr} {sl34 : Array (Option Value)}
    (a34 : PySem.W.nsIn K mainGlobals "label_over" = some (some (.ref f34)))
    (l34 : K.lookup f34 = some ⟨oc34, od34, .func (PySem.W.fnOf "label_over" "label_over" (defArgs s_label_over) (defBody s_label_over) (defScope s_label_over) .none kV34 dc34 pm34 an34 cd34 ct34), sl34⟩)
    (e34 : PySem.W.codeIn K cd34 "label_over" = true)
    (k34 : PySem.W.keepIn K (.ref f34) = true)
    {f35 : Addr} {oc35 kV35 dc35 pm35 cd35 ct35 : Value} {od35 an35 : Option Addr} {sl35 : Array (Option Value)}
    (a35 : PySem.W.nsIn K mainGlobals "_law_well" = some (some (.ref f35)))
    (l35 : K.lookup f35 = some ⟨oc35, od35, .func (PySem.W.fnOf "_law_well" "_law_well" (defArgs s_lwell) (defBody s_lwell) (defScope s_lwell) .none kV35 dc35 pm35 an35 cd35 ct35), sl35⟩)
    (e35 : PySem.W.codeIn K cd35 "_law_well" = true)
    (k35 : PySem.W.keepIn K (.ref f35) = true)
    {f36 : Addr} {oc36 kV36 dc36 pm36 cd36 ct36 : Value} {od36 an36 : Option Addr} {sl36 : Array (Option Value)}
    (a36 : PySem.W.nsIn K mainGlobals "_law_pull" = some (some (.ref f36)))
    (l36 : K.lookup f36 = some ⟨oc36, od36, .func (PySem.W.fnOf "_law_pull" "_law_pull" (defArgs s_lpull) (defBody s_lpull) (defScope s_lpull) .none kV36 dc36 pm36 an36 cd36 ct36), sl36⟩)
    (e36 : PySem.W.codeIn K cd36 "_law_pull" = true)
    (k36 : PySem.W.keepIn K (.ref f36) = true)
    {f37 : Addr} {oc37 kV37 dc37 pm37 cd37 ct37 : Value} {od37 an37 : Option Addr} {sl37 : Array (Option Value)}
    (a37 : PySem.W.nsIn K mainGlobals "_law_rank" = some (some (.ref f37)))
    (l37 : K.lookup f37 = some ⟨oc37, od37, .func (PySem.W.fnOf "_law_rank" "_law_rank" (defArgs s_lrank) (defBody s_lrank) (defScope s_lrank) .none kV37 dc37 pm37 an37 cd37 ct37), sl37⟩)
    (e37 : PySem.W.codeIn K cd37 "_law_rank" = true)
    (k37 : PySem.W.keepIn K (.ref f37) = true)
    {f38 : Addr} {oc38 kV38 dc38 pm38 cd38 ct38 : Value} {od38 an38 : Option Addr} {sl38 : Array (Option Value)}
    (a38 : PySem.W.nsIn K mainGlobals "_law_less" = some (some (.ref f38)))
    (l38 : K.lookup f38 = some ⟨oc38, od38, .func (PySem.W.fnOf "_law_less" "_law_less" (defArgs s_lless) (defBody s_lless) (defScope s_lless) .none kV38 dc38 pm38 an38 cd38 ct38), sl38⟩)
    (e38 : PySem.W.codeIn K cd38 "_law_less" = true)
    (k38 : PySem.W.keepIn K (.ref f38) = true)
    {f39 : Addr} {oc39 kV39 dc39 pm39 cd39 ct39 : Value} {od39 an39 : Option Addr} {sl39 : Array (Option Value)}
    (a39 : PySem.W.nsIn K mainGlobals "_law_alike" = some (some (.ref f39)))
    (l39 : K.lookup f39 = some ⟨oc39, od39, .func (PySem.W.fnOf "_law_alike" "_law_alike" (defArgs s_lalike) (defBody s_lalike) (defScope s_lalike) .none kV39 dc39 pm39 an39 cd39 ct39), sl39⟩)
    (e39 : PySem.W.codeIn K cd39 "_law_alike" = true)
    (k39 : PySem.W.keepIn K (.ref f39) = true)
    {f40 : Addr} {oc40 kV40 dc40 pm40 cd40 ct40 : Value} {od40 an40 : Option Addr} {sl40 : Array (Option Value)}
    (a40 : PySem.W.nsIn K mainGlobals "_law_grid" = some (some (.ref f40)))
    (l40 : K.lookup f40 = some ⟨oc40, od40, .func (PySem.W.fnOf "_law_grid" "_law_grid" (defArgs s_lgrid) (defBody s_lgrid) (defScope s_lgrid) .none kV40 dc40 pm40 an40 cd40 ct40), sl40⟩)
    (e40 : PySem.W.codeIn K cd40 "_law_grid" = true)
    (k40 : PySem.W.keepIn K (.ref f40) = true)
    {f41 : Addr} {oc41 kV41 dc41 pm41 cd41 ct41 : Value} {od41 an41 : Option Addr} {sl41 : Array (Option Value)}
    (a41 : PySem.W.nsIn K mainGlobals "_law_leaf_rows" = some (some (.ref f41)))
    (l41 : K.lookup f41 = some ⟨oc41, od41, .func (PySem.W.fnOf "_law_leaf_rows" "_law_leaf_rows" (defArgs s_lleaf_rows) (defBody s_lleaf_rows) (defScope s_lleaf_rows) .none kV41 dc41 pm41 an41 cd41 ct41), sl41⟩)
    (e41 : PySem.W.codeIn K cd41 "_law_leaf_rows" = true)
    (k41 : PySem.W.keepIn K (.ref f41) = true)
    {f42 : Addr} {oc42 kV42 dc42 pm42 cd42 ct42 : Value} {od42 an42 : Option Addr} {sl42 : Array (Option Value)}
    (a42 : PySem.W.nsIn K mainGlobals "_law_rows_of" = some (some (.ref f42)))
    (l42 : K.lookup f42 = some ⟨oc42, od42, .func (PySem.W.fnOf "_law_rows_of" "_law_rows_of" (defArgs s_lrows_of) (defBody s_lrows_of) (defScope s_lrows_of) .none kV42 dc42 pm42 an42 cd42 ct42), sl42⟩)
    (e42 : PySem.W.codeIn K cd42 "_law_rows_of" = true)
    (k42 : PySem.W.keepIn K (.ref f42) = true)
    {f43 : Addr} {oc43 kV43 dc43 pm43 cd43 ct43 : Value} {od43 an43 : Option Addr} {sl43 : Array (Option Value)}
    (a43 : PySem.W.nsIn K mainGlobals "_law_label" = some (some (.ref f43)))
    (l43 : K.lookup f43 = some ⟨oc43, od43, .func (PySem.W.fnOf "_law_label" "_law_label" (defArgs s_llabel) (defBody s_llabel) (defScope s_llabel) .none kV43 dc43 pm43 an43 cd43 ct43), sl43⟩)
    (e43 : PySem.W.codeIn K cd43 "_law_label" = true)
    (k43 : PySem.W.keepIn K (.ref f43) = true)
    {f44 : Addr} {oc44 kV44 dc44 pm44 cd44 ct44 : Value} {od44 an44 : Option Addr} {sl44 : Array (Option Value)}
    (a44 : PySem.W.nsIn K mainGlobals "_law_above" = some (some (.ref f44)))
    (l44 : K.lookup f44 = some ⟨oc44, od44, .func (PySem.W.fnOf "_law_above" "_law_above" (defArgs s_labove) (defBody s_labove) (defScope s_labove) .none kV44 dc44 pm44 an44 cd44 ct44), sl44⟩)
    (e44 : PySem.W.codeIn K cd44 "_law_above" = true)
    (k44 : PySem.W.keepIn K (.ref f44) = true)
    {f45 : Addr} {oc45 kV45 dc45 pm45 cd45 ct45 : Value} {od45 an45 : Option Addr} {sl45 : Array (Option Value)}
    (a45 : PySem.W.nsIn K mainGlobals "_law_shared" = some (some (.ref f45)))
    (l45 : K.lookup f45 = some ⟨oc45, od45, .func (PySem.W.fnOf "_law_shared" "_law_shared" (defArgs s_lshared) (defBody s_lshared) (defScope s_lshared) .none kV45 dc45 pm45 an45 cd45 ct45), sl45⟩)
    (e45 : PySem.W.codeIn K cd45 "_law_shared" = true)
    (k45 : PySem.W.keepIn K (.ref f45) = true)
    {f46 : Addr} {oc46 kV46 dc46 pm46 cd46 ct46 : Value} {od46 an46 : Option Addr} {sl46 : Array (Option Value)}
    (a46 : PySem.W.nsIn K mainGlobals "_law_swept" = some (some (.ref f46)))
    (l46 : K.lookup f46 = some ⟨oc46, od46, .func (PySem.W.fnOf "_law_swept" "_law_swept" (defArgs s_lswept) (defBody s_lswept) (defScope s_lswept) .none kV46 dc46 pm46 an46 cd46 ct46), sl46⟩)
    (e46 : PySem.W.codeIn K cd46 "_law_swept" = true)
    (k46 : PySem.W.keepIn K (.ref f46) = true)
    {f47 : Addr} {oc47 kV47 dc47 pm47 cd47 ct47 : Value} {od47 an47 : Option Addr} {sl47 : Array (Option Value)}
    (a47 : PySem.W.nsIn K mainGlobals "_law_count" = some (some (.ref f47)))
    (l47 : K.lookup f47 = some ⟨oc47, od47, .func (PySem.W.fnOf "_law_count" "_law_count" (defArgs s_lcount) (defBody s_lcount) (defScope s_lcount) .none kV47 dc47 pm47 an47 cd47 ct47), sl47⟩)
    (e47 : PySem.W.codeIn K cd47 "_law_count" = true)
    (k47 : PySem.W.keepIn K (.ref f47) = true)
    {f48 : Addr} {oc48 kV48 dc48 pm48 cd48 ct48 : Value} {od48 an48 : Option Addr} {sl48 : Array (Option Value)}
    (a48 : PySem.W.nsIn K mainGlobals "_law_exact" = some (some (.ref f48)))
    (l48 : K.lookup f48 = some ⟨oc48, od48, .func (PySem.W.fnOf "_law_exact" "_law_exact" (defArgs s_lexact) (defBody s_lexact) (defScope s_lexact) .none kV48 dc48 pm48 an48 cd48 ct48), sl48⟩)
    (e48 : PySem.W.codeIn K cd48 "_law_exact" = true)
    (k48 : PySem.W.keepIn K (.ref f48) = true)
    {f49 : Addr} {oc49 kV49 dc49 pm49 cd49 ct49 : Value} {od49 an49 : Option Addr} {sl49 : Array (Option Value)}
    (a49 : PySem.W.nsIn K mainGlobals "_law_picked" = some (some (.ref f49)))
    (l49 : K.lookup f49 = some ⟨oc49, od49, .func (PySem.W.fnOf "_law_picked" "_law_picked" (defArgs s_lpicked) (defBody s_lpicked) (defScope s_lpicked) .none kV49 dc49 pm49 an49 cd49 ct49), sl49⟩)
    (e49 : PySem.W.codeIn K cd49 "_law_picked" = true)
    (k49 : PySem.W.keepIn K (.ref f49) = true)
    {f50 : Addr} {oc50 kV50 dc50 pm50 cd50 ct50 : Value} {od50 an50 : Option Addr} {sl50 : Array (Option Value)}
    (a50 : PySem.W.nsIn K mainGlobals "_law_run" = some (some (.ref f50)))
    (l50 : K.lookup f50 = some ⟨oc50, od50, .func (PySem.W.fnOf "_law_run" "_law_run" (defArgs s_lrun) (defBody s_lrun) (defScope s_lrun) .none kV50 dc50 pm50 an50 cd50 ct50), sl50⟩)
    (e50 : PySem.W.codeIn K cd50 "_law_run" = true)
    (k50 : PySem.W.keepIn K (.ref f50) = true)
    {f51 : Addr} {oc51 kV51 dc51 pm51 cd51 ct51 : Value} {od51 an51 : Option Addr} {sl51 : Array (Option Value)}
    (a51 : PySem.W.nsIn K mainGlobals "_law_put_leaf" = some (some (.ref f51)))
    (l51 : K.lookup f51 = some ⟨oc51, od51, .func (PySem.W.fnOf "_law_put_leaf" "_law_put_leaf" (defArgs s_lput_leaf) (defBody s_lput_leaf) (defScope s_lput_leaf) .none kV51 dc51 pm51 an51 cd51 ct51), sl51⟩)
    (e51 : PySem.W.codeIn K cd51 "_law_put_leaf" = true)
    (k51 : PySem.W.keepIn K (.ref f51) = true)
    {f52 : Addr} {oc52 kV52 dc52 pm52 cd52 ct52 : Value} {od52 an52 : Option Addr} {sl52 : Array (Option Value)}
    (a52 : PySem.W.nsIn K mainGlobals "_law_fits" = some (some (.ref f52)))
    (l52 : K.lookup f52 = some ⟨oc52, od52, .func (PySem.W.fnOf "_law_fits" "_law_fits" (defArgs s_lfits) (defBody s_lfits) (defScope s_lfits) .none kV52 dc52 pm52 an52 cd52 ct52), sl52⟩)
    (e52 : PySem.W.codeIn K cd52 "_law_fits" = true)
    (k52 : PySem.W.keepIn K (.ref f52) = true)
    {f53 : Addr} {oc53 kV53 dc53 pm53 cd53 ct53 : Value} {od53 an53 : Option Addr} {sl53 : Array (Option Value)}
    (a53 : PySem.W.nsIn K mainGlobals "_law_put_stem" = some (some (.ref f53)))
    (l53 : K.lookup f53 = some ⟨oc53, od53, .func (PySem.W.fnOf "_law_put_stem" "_law_put_stem" (defArgs s_lput_stem) (defBody s_lput_stem) (defScope s_lput_stem) .none kV53 dc53 pm53 an53 cd53 ct53), sl53⟩)
    (e53 : PySem.W.codeIn K cd53 "_law_put_stem" = true)
    (k53 : PySem.W.keepIn K (.ref f53) = true)
    {f54 : Addr} {oc54 kV54 dc54 pm54 cd54 ct54 : Value} {od54 an54 : Option Addr} {sl54 : Array (Option Value)}
    (a54 : PySem.W.nsIn K mainGlobals "_law_held" = some (some (.ref f54)))
    (l54 : K.lookup f54 = some ⟨oc54, od54, .func (PySem.W.fnOf "_law_held" "_law_held" (defArgs s_lheld) (defBody s_lheld) (defScope s_lheld) .none kV54 dc54 pm54 an54 cd54 ct54), sl54⟩)
    (e54 : PySem.W.codeIn K cd54 "_law_held" = true)
    (k54 : PySem.W.keepIn K (.ref f54) = true)
    {f55 : Addr} {oc55 kV55 dc55 pm55 cd55 ct55 : Value} {od55 an55 : Option Addr} {sl55 : Array (Option Value)}
    (a55 : PySem.W.nsIn K mainGlobals "_law_changed" = some (some (.ref f55)))
    (l55 : K.lookup f55 = some ⟨oc55, od55, .func (PySem.W.fnOf "_law_changed" "_law_changed" (defArgs s_lchanged) (defBody s_lchanged) (defScope s_lchanged) .none kV55 dc55 pm55 an55 cd55 ct55), sl55⟩)
    (e55 : PySem.W.codeIn K cd55 "_law_changed" = true)
    (k55 : PySem.W.keepIn K (.ref f55) = true)
    {f56 : Addr} {oc56 kV56 dc56 pm56 cd56 ct56 : Value} {od56 an56 : Option Addr} {sl56 : Array (Option Value)}
    (a56 : PySem.W.nsIn K mainGlobals "_law_deed" = some (some (.ref f56)))
    (l56 : K.lookup f56 = some ⟨oc56, od56, .func (PySem.W.fnOf "_law_deed" "_law_deed" (defArgs s_ldeed) (defBody s_ldeed) (defScope s_ldeed) .none kV56 dc56 pm56 an56 cd56 ct56), sl56⟩)
    (e56 : PySem.W.codeIn K cd56 "_law_deed" = true)
    (k56 : PySem.W.keepIn K (.ref f56) = true)
    {f57 : Addr} {oc57 kV57 dc57 pm57 cd57 ct57 : Value} {od57 an57 : Option Addr} {sl57 : Array (Option Value)}
    (a57 : PySem.W.nsIn K mainGlobals "law" = some (some (.ref f57)))
    (l57 : K.lookup f57 = some ⟨oc57, od57, .func (PySem.W.fnOf "law" "law" (defArgs s_law) (defBody s_law) (defScope s_law) .none kV57 dc57 pm57 an57 cd57 ct57), sl57⟩)
    (e57 : PySem.W.codeIn K cd57 "law" = true)
    (k57 : PySem.W.keepIn K (.ref f57) = true)
    : ∃ fd : FuncData, (∀ (s : Shared) (v : Value), BindsTo s fd ⟨[v], []⟩ [("_law_script", v)]) ∧ ∀ base : Heap, K.In base → base.Ns mainGlobals mg → FnOk l.prog w K mg base CX0 10 fa fd ["_law_script"] (spLaw K) := by
  have e := hfa.symm.trans (PySem.W.mg_of X N a57)
  cases e
  have T : ClsT K C := ⟨⟨pg, hd, po, sa⟩, n_kept, n_tags, n_above, n_freely, n_seen, n_given⟩
  have B : Bas mg := ⟨PySem.W.mg_none_of X N z_len, PySem.W.mg_none_of X N z_isinstance, PySem.W.mg_none_of X N z_int, PySem.W.mg_none_of X N z_bool, PySem.W.mg_none_of X N z_str, PySem.W.mg_none_of X N z_tuple, PySem.W.mg_none_of X N z_list, PySem.W.mg_none_of X N z_all, PySem.W.mg_none_of X N z_sum, PySem.W.mg_none_of X N z_range, PySem.W.mg_none_of X N z_sorted, PySem.W.mg_none_of X N z_max, PySem.W.mg_none_of X N z_min, PySem.W.mg_none_of X N z_abs, PySem.W.mg_none_of X N z_reversed, ⟨_, PySem.W.mg_of X N c_SIGNS⟩, ⟨_, PySem.W.mg_of X N c_WIDE⟩, ⟨_, PySem.W.mg_of X N c_DEEP⟩, xb, ⟨_, PySem.W.mg_of X N c_MOST⟩, ⟨_, PySem.W.mg_of X N c_LEAF⟩, ⟨_, PySem.W.mg_of X N c_STEM⟩⟩
  have F1 := fun_mk (st := s_init) l1 e1 k1
  have b1 := F1.binds (ps := ["self"]) (fun _ _ _ _ _ _ us hl => match us, hl with | [_], _ => rfl)
  have F9 := fun_mk (st := s_law) l57 e57 k57
  refine ⟨PySem.W.fnOf "law" "law" (defArgs s_law) (defBody s_law) (defScope s_law) .none kV57 dc57 pm57 an57 cd57 ct57, fun s v => .of_eq rfl, fun base _ _ => ?_⟩
  have r_is_number : RawG K mg "is_number" s_is_number ["thing"] := raw_g X N a25 l25 e25 k25 (fun _ _ _ _ _ _ us hl => match us, hl with | [_], _ => rfl)
  have r_is_text : RawG K mg "is_text" s_is_text ["thing"] := raw_g X N a26 l26 e26 k26 (fun _ _ _ _ _ _ us hl => match us, hl with | [_], _ => rfl)
  have r_is_within : RawG K mg "is_within" s_is_within ["thing", "room"] := raw_g X N a27 l27 e27 k27 (fun _ _ _ _ _ _ us hl => match us, hl with | [_, _], _ => rfl)
  have r_is_key : RawG K mg "is_key" s_is_key ["thing"] := raw_g X N a28 l28 e28 k28 (fun _ _ _ _ _ _ us hl => match us, hl with | [_], _ => rfl)
  have r_checked : RawG K mg "checked" s_checked ["thing"] := raw_g X N a29 l29 e29 k29 (fun _ _ _ _ _ _ us hl => match us, hl with | [_], _ => rfl)
  have r_rank : RawG K mg "rank" s_rank ["key"] := raw_g X N a30 l30 e30 k30 (fun _ _ _ _ _ _ us hl => match us, hl with | [_], _ => rfl)
  have r_ahead : RawG K mg "ahead" s_ahead ["one", "other"] := raw_g X N a31 l31 e31 k31 (fun _ _ _ _ _ _ us hl => match us, hl with | [_, _], _ => rfl)
  have r_checked_rows : RawG K mg "checked_rows" s_checked_rows ["rows"] := raw_g X N a32 l32 e32 k32 (fun _ _ _ _ _ _ us hl => match us, hl with | [_], _ => rfl)
  have r_label_of_rows : RawG K mg "label_of_rows" s_label_of_rows ["rows"] := raw_g X N a33 l33 e33 k33 (fun _ _ _ _ _ _ us hl => match us, hl with | [_], _ => rfl)
  have r_label_over : RawG K mg "label_over" s_label_over ["labels"] := raw_g X N a34 l34 e34 k34 (fun _ _ _ _ _ _ us hl => match us, hl with | [_], _ => rfl)
  have r_lwell : RawG K mg "_law_well" s_lwell ["_law_script", "_law_k"] := raw_g X N a35 l35 e35 k35 (fun _ _ _ _ _ _ us hl => match us, hl with | [_, _], _ => rfl)
  have r_lpull : RawG K mg "_law_pull" s_lpull ["_law_well_here", "_law_many"] := raw_g X N a36 l36 e36 k36 (fun _ _ _ _ _ _ us hl => match us, hl with | [_, _], _ => rfl)
  have r_lrank : RawG K mg "_law_rank" s_lrank ["_law_key"] := raw_g X N a37 l37 e37 k37 (fun _ _ _ _ _ _ us hl => match us, hl with | [_], _ => rfl)
  have r_lless : RawG K mg "_law_less" s_lless ["_law_one", "_law_other"] := raw_g X N a38 l38 e38 k38 (fun _ _ _ _ _ _ us hl => match us, hl with | [_, _], _ => rfl)
  have r_lalike : RawG K mg "_law_alike" s_lalike ["_law_found", "_law_due"] := raw_g X N a39 l39 e39 k39 (fun _ _ _ _ _ _ us hl => match us, hl with | [_, _], _ => rfl)
  have r_lgrid : RawG K mg "_law_grid" s_lgrid ["_law_well_here"] := raw_g X N a40 l40 e40 k40 (fun _ _ _ _ _ _ us hl => match us, hl with | [_], _ => rfl)
  have r_lleaf_rows : RawG K mg "_law_leaf_rows" s_lleaf_rows ["_law_well_here", "_law_grid_here", "_law_block"] := raw_g X N a41 l41 e41 k41 (fun _ _ _ _ _ _ us hl => match us, hl with | [_, _, _], _ => rfl)
  have r_lrows_of : RawG K mg "_law_rows_of" s_lrows_of ["_law_twigs", "_law_number"] := raw_g X N a42 l42 e42 k42 (fun _ _ _ _ _ _ us hl => match us, hl with | [_, _], _ => rfl)
  have r_llabel : RawG K mg "_law_label" s_llabel ["_law_twigs", "_law_number"] := raw_g X N a43 l43 e43 k43 (fun _ _ _ _ _ _ us hl => match us, hl with | [_, _], _ => rfl)
  have r_labove : RawG K mg "_law_above" s_labove ["_law_twigs", "_law_number"] := raw_g X N a44 l44 e44 k44 (fun _ _ _ _ _ _ us hl => match us, hl with | [_, _], _ => rfl)
  have r_lshared : RawG K mg "_law_shared" s_lshared ["_law_twigs", "_law_holds", "_law_number"] := raw_g X N a45 l45 e45 k45 (fun _ _ _ _ _ _ us hl => match us, hl with | [_, _, _], _ => rfl)
  have r_lswept : RawG K mg "_law_swept" s_lswept ["_law_twigs", "_law_holds"] := raw_g X N a46 l46 e46 k46 (fun _ _ _ _ _ _ us hl => match us, hl with | [_, _], _ => rfl)
  have r_lcount : RawG K mg "_law_count" s_lcount ["_law_found", "_law_due"] := raw_g X N a47 l47 e47 k47 (fun _ _ _ _ _ _ us hl => match us, hl with | [_, _], _ => rfl)
  have r_lexact : RawG K mg "_law_exact" s_lexact ["_law_shelf", "_law_twigs", "_law_holds"] := raw_g X N a48 l48 e48 k48 (fun _ _ _ _ _ _ us hl => match us, hl with | [_, _, _], _ => rfl)
  have r_lpicked : RawG K mg "_law_picked" s_lpicked ["_law_well_here", "_law_some"] := raw_g X N a49 l49 e49 k49 (fun _ _ _ _ _ _ us hl => match us, hl with | [_, _], _ => rfl)
  have r_lrun : RawG K mg "_law_run" s_lrun ["_law_well_here", "_law_twigs", "_law_holds", "_law_grid_here"] := raw_g X N a50 l50 e50 k50 (fun _ _ _ _ _ _ us hl => match us, hl with | [_, _, _, _], _ => rfl)
  have r_lput_leaf : RawG K mg "_law_put_leaf" s_lput_leaf ["_law_well_here", "_law_state", "_law_block"] := raw_g X N a51 l51 e51 k51 (fun _ _ _ _ _ _ us hl => match us, hl with | [_, _, _], _ => rfl)
  have r_lfits : RawG K mg "_law_fits" s_lfits ["_law_twigs", "_law_numbers"] := raw_g X N a52 l52 e52 k52 (fun _ _ _ _ _ _ us hl => match us, hl with | [_, _], _ => rfl)
  have r_lput_stem : RawG K mg "_law_put_stem" s_lput_stem ["_law_well_here", "_law_state"] := raw_g X N a53 l53 e53 k53 (fun _ _ _ _ _ _ us hl => match us, hl with | [_, _], _ => rfl)
  have r_lheld : RawG K mg "_law_held" s_lheld ["_law_well_here", "_law_state", "_law_number", "_law_way"] := raw_g X N a54 l54 e54 k54 (fun _ _ _ _ _ _ us hl => match us, hl with | [_, _, _, _], _ => rfl)
  have r_lchanged : RawG K mg "_law_changed" s_lchanged ["_law_well_here", "_law_state", "_law_number"] := raw_g X N a55 l55 e55 k55 (fun _ _ _ _ _ _ us hl => match us, hl with | [_, _, _], _ => rfl)
  have r_ldeed : RawG K mg "_law_deed" s_ldeed ["_law_well_here", "_law_state"] := raw_g X N a56 l56 e56 k56 (fun _ _ _ _ _ _ us hl => match us, hl with | [_, _], _ => rfl)
  have q_need : RawM K C "need" "Shelf.need" s_need ["self", "number"] := raw_m a2 i2 l2 e2 k2 (fun _ _ _ _ _ _ us hl => match us, hl with | [_, _], _ => rfl)
  have q_set_down : RawM K C "set_down" "Shelf.set_down" s_set_down ["self", "kind", "what", "tag"] := raw_m a3 i3 l3 e3 k3 (fun _ _ _ _ _ _ us hl => match us, hl with | [_, _, _, _], _ => rfl)
  have q_put_leaf : RawM K C "put_leaf" "Shelf.put_leaf" s_put_leaf ["self", "rows"] := raw_m a4 i4 l4 e4 k4 (fun _ _ _ _ _ _ us hl => match us, hl with | [_, _], _ => rfl)
  have q_put_stem : RawM K C "put_stem" "Shelf.put_stem" s_put_stem ["self", "numbers"] := raw_m a5 i5 l5 e5 k5 (fun _ _ _ _ _ _ us hl => match us, hl with | [_, _], _ => rfl)
  have q_need_held : RawM K C "need_held" "Shelf.need_held" s_need_held ["self", "branches"] := raw_m a6 i6 l6 e6 k6 (fun _ _ _ _ _ _ us hl => match us, hl with | [_, _], _ => rfl)
  have q_hand_over : RawM K C "hand_over" "Shelf.hand_over" s_hand_over ["self", "branches", "number"] := raw_m a7 i7 l7 e7 k7 (fun _ _ _ _ _ _ us hl => match us, hl with | [_, _, _], _ => rfl)
  have q_hold : RawM K C "hold" "Shelf.hold" s_hold ["self", "number"] := raw_m a8 i8 l8 e8 k8 (fun _ _ _ _ _ _ us hl => match us, hl with | [_, _], _ => rfl)
  have q_let_go : RawM K C "let_go" "Shelf.let_go" s_let_go ["self", "number"] := raw_m a9 i9 l9 e9 k9 (fun _ _ _ _ _ _ us hl => match us, hl with | [_, _], _ => rfl)
  have q_sweep : RawM K C "sweep" "Shelf.sweep" s_sweep ["self", "number"] := raw_m a10 i10 l10 e10 k10 (fun _ _ _ _ _ _ us hl => match us, hl with | [_, _], _ => rfl)
  have q_outside : RawM K C "outside" "Shelf.outside" s_outside ["self", "number"] := raw_m a11 i11 l11 e11 k11 (fun _ _ _ _ _ _ us hl => match us, hl with | [_, _], _ => rfl)
  have q_holders : RawM K C "holders" "Shelf.holders" s_holders ["self", "number"] := raw_m a12 i12 l12 e12 k12 (fun _ _ _ _ _ _ us hl => match us, hl with | [_, _], _ => rfl)
  have q_shared_above : RawM K C "shared_above" "Shelf.shared_above" s_shared_above ["self", "number"] := raw_m a13 i13 l13 e13 k13 (fun _ _ _ _ _ _ us hl => match us, hl with | [_, _], _ => rfl)
  have q_alone : RawM K C "alone" "Shelf.alone" s_alone ["self", "number"] := raw_m a14 i14 l14 e14 k14 (fun _ _ _ _ _ _ us hl => match us, hl with | [_, _], _ => rfl)
  have q_need_alone : RawM K C "need_alone" "Shelf.need_alone" s_need_alone ["self", "number"] := raw_m a15 i15 l15 e15 k15 (fun _ _ _ _ _ _ us hl => match us, hl with | [_, _], _ => rfl)
  have q_tags_behind : RawM K C "tags_behind" "Shelf.tags_behind" s_tags_behind ["self", "number", "tag"] := raw_m a16 i16 l16 e16 k16 (fun _ _ _ _ _ _ us hl => match us, hl with | [_, _, _], _ => rfl)
  have q_change_leaf : RawM K C "change_leaf" "Shelf.change_leaf" s_change_leaf ["self", "number", "rows"] := raw_m a17 i17 l17 e17 k17 (fun _ _ _ _ _ _ us hl => match us, hl with | [_, _, _], _ => rfl)
  have q_change_stem : RawM K C "change_stem" "Shelf.change_stem" s_change_stem ["self", "number", "numbers"] := raw_m a18 i18 l18 e18 k18 (fun _ _ _ _ _ _ us hl => match us, hl with | [_, _, _], _ => rfl)
  have q_look : RawM K C "look" "Shelf.look" s_look ["self", "number"] := raw_m a19 i19 l19 e19 k19 (fun _ _ _ _ _ _ us hl => match us, hl with | [_, _], _ => rfl)
  have q_label : RawM K C "label" "Shelf.label" s_label ["self", "number"] := raw_m a20 i20 l20 e20 k20 (fun _ _ _ _ _ _ us hl => match us, hl with | [_, _], _ => rfl)
  have q_looked : RawM K C "looked" "Shelf.looked" s_looked ["self"] := raw_m a21 i21 l21 e21 k21 (fun _ _ _ _ _ _ us hl => match us, hl with | [_], _ => rfl)
  have q_forget : RawM K C "forget" "Shelf.forget" s_forget ["self"] := raw_m a22 i22 l22 e22 k22 (fun _ _ _ _ _ _ us hl => match us, hl with | [_], _ => rfl)
  have q_numbers : RawM K C "numbers" "Shelf.numbers" s_numbers ["self"] := raw_m a23 i23 l23 e23 k23 (fun _ _ _ _ _ _ us hl => match us, hl with | [_], _ => rfl)
  have q_many : RawM K C "many" "Shelf.many" s_many ["self"] := raw_m a24 i24 l24 e24 k24 (fun _ _ _ _ _ _ us hl => match us, hl with | [_], _ => rfl)
  exact law_all T B ⟨mk, a1, i1, kc⟩ F1 b1 (PySem.W.mg_of X N aC) r_is_number r_is_text r_is_within r_is_key r_checked r_rank r_ahead r_checked_rows r_label_of_rows r_label_over r_lwell r_lpull r_lrank r_lless r_lalike r_lgrid r_lleaf_rows r_lrows_of r_llabel r_labove r_lshared r_lswept r_lcount r_lexact r_lpicked r_lrun r_lput_leaf r_lfits r_lput_stem r_lheld r_lchanged r_ldeed q_need q_set_down q_put_leaf q_put_stem q_need_held q_hand_over q_hold q_let_go q_sweep q_outside q_holders q_shared_above q_alone q_need_alone q_tags_behind q_change_leaf q_change_stem q_look q_label q_looked q_forget q_numbers q_many F9
end Tw
end

section
set_option Elab.async false
set_option maxRecDepth 100000
open PySem PySem.W PyProof.Rows
set_option maxRecDepth 100000 in
set_option maxHeartbeats 0 in
theorem PySem.Challenge.cw_twigmap_k28_whole_shelf_exact_holds : PySem.Challenge.rw_twigmap_k28_whole_shelf_exact.Holds := by
  w_on; o_law; k_head; (case hw => w_witness2)
  k_fill
  refine Tw.walk (l := PySem.Challenge.rw_twigmap_k28_whole_shelf_exact) rfl rfl (fun w h Y => PySem.W.kIn_of Y) ?F
  case F =>
    intro w mg fa h KX N XB hmg
    refine' Tw.all_mk KX N hmg (Tw.bound_of XB) ?aC ?pg ?hd ?po ?sa ?mk ?kc ?n_kept ?n_tags ?n_above ?n_freely ?n_seen ?n_given ?z_len ?z_isinstance ?z_int ?z_bool ?z_str ?z_tuple ?z_list ?z_all ?z_sum ?z_range ?z_sorted ?z_max ?z_min ?z_abs ?z_reversed ?c_SIGNS ?c_WIDE ?c_DEEP ?c_MOST ?c_LEAF ?c_STEM ?a1 ?i1 ?l1 ?e1 ?k1 ?a2 ?i2 ?l2 ?e2 ?k2 ?a3 ?i3 ?l3 ?e3 ?k3 ?a4 ?i4 ?l4 ?e4 ?k4 ?a5 ?i5 ?l5 ?e5 ?k5 ?a6 ?i6 ?l6 ?e6 ?k6 ?a7 ?i7 ?l7 ?e7 ?k7 ?a8 ?i8 ?l8 ?e8 ?k8 ?a9 ?i9 ?l9 ?e9 ?k9 ?a10 ?i10 ?l10 ?e10 ?k10 ?a11 ?i11 ?l11 ?e11 ?k11 ?a12 ?i12 ?l12 ?e12 ?k12 ?a13 ?i13 ?l13 ?e13 ?k13 ?a14 ?i14 ?l14 ?e14 ?k14 ?a15 ?i15 ?l15 ?e15 ?k15 ?a16 ?i16 ?l16 ?e16 ?k16 ?a17 ?i17 ?l17 ?e17 ?k17 ?a18 ?i18 ?l18 ?e18 ?k18 ?a19 ?i19 ?l19 ?e19 ?k19 ?a20 ?i20 ?l20 ?e20 ?k20 ?a21 ?i21 ?l21 ?e21 ?k21 ?a22 ?i22 ?l22 ?e22 ?k22 ?a23 ?i23 ?l23 ?e23 ?k23 ?a24 ?i24 ?l24 ?e24 ?k24 ?a25 ?l25 ?e25 ?k25 ?a26 ?l26 ?e26 ?k26 ?a27 ?l27 ?e27 ?k27 ?a28 ?l28 ?e28 ?k28 ?a29 ?l29 ?e29 ?k29 ?a30 ?l30 ?e30 ?k30 ?a31 ?l31 ?e31 ?k31 ?a32 ?l32 ?e32 ?k32 ?a33 ?l33 ?e33 ?k33 ?a34 ?l34 ?e34 ?k34 ?a35 ?l35 ?e35 ?k35 ?a36 ?l36 ?e36 ?k36 ?a37 ?l37 ?e37 ?k37 ?a38 ?l38 ?e38 ?k38 ?a39 ?l39 ?e39 ?k39 ?a40 ?l40 ?e40 ?k40 ?a41 ?l41 ?e41 ?k41 ?a42 ?l42 ?e42 ?k42 ?a43 ?l43 ?e43 ?k43 ?a44 ?l44 ?e44 ?k44 ?a45 ?l45 ?e45 ?k45 ?a46 ?l46 ?e46 ?k46 ?a47 ?l47 ?e47 ?k47 ?a48 ?l48 ?e48 ?k48 ?a49 ?l49 ?e49 ?k49 ?a50 ?l50 ?e50 ?k50 ?a51 ?l51 ?e51 ?k51 ?a52 ?l52 ?e52 ?k52 ?a53 ?l53 ?e53 ?k53 ?a54 ?l54 ?e54 ?k54 ?a55 ?l55 ?e55 ?k55 ?a56 ?l56 ?e56 ?k56 ?a57 ?l57 ?e57 ?k57
    (case aC => k_is)
    (case pg => k_is)
    (case hd => k_is)
    (case po => k_is)
    (case sa => k_is)
    (case mk => k_is)
    (case kc => k_is)
    (case n_kept => k_is)
    (case n_tags => k_is)
    (case n_above => k_is)
    (case n_freely => k_is)
    (case n_seen => k_is)
    (case n_given => k_is)
    (case z_len => k_is)
    (case z_isinstance => k_is)
    (case z_int => k_is)
    (case z_bool => k_is)
    (case z_str => k_is)
    (case z_tuple => k_is)
    (case z_list => k_is)
    (case z_all => k_is)
    (case z_sum => k_is)
    (case z_range => k_is)
    (case z_sorted => k_is)
    (case z_max => k_is)
    (case z_min => k_is)
    (case z_abs => k_is)
    (case z_reversed => k_is)
    (case c_SIGNS => k_is)
    (case c_WIDE => k_is)
    (case c_DEEP => k_is)
    (case c_MOST => k_is)
    (case c_LEAF => k_is)
    (case c_STEM => k_is)
    (case a1 => k_is)
    (case i1 => k_is)
    (case l1 => k_is)
    (case e1 => k_is)
    (case k1 => k_is)
    (case a2 => k_is)
    (case i2 => k_is)
    (case l2 => k_is)
    (case e2 => k_is)
    (case k2 => k_is)
    (case a3 => k_is)
    (case i3 => k_is)
    (case l3 => k_is)
    (case e3 => k_is)
    (case k3 => k_is)
    (case a4 => k_is)
    (case i4 => k_is)
    (case l4 => k_is)
    (case e4 => k_is)
    (case k4 => k_is)
    (case a5 => k_is)
    (case i5 => k_is)
    (case l5 => k_is)
    (case e5 => k_is)
    (case k5 => k_is)
    (case a6 => k_is)
    (case i6 => k_is)
    (case l6 => k_is)
    (case e6 => k_is)
    (case k6 => k_is)
    (case a7 => k_is)
    (case i7 => k_is)
    (case l7 => k_is)
    (case e7 => k_is)
    (case k7 => k_is)
    (case a8 => k_is)
    (case i8 => k_is)
    (case l8 => k_is)
    (case e8 => k_is)
    (case k8 => k_is)
    (case a9 => k_is)
    (case i9 => k_is)
    (case l9 => k_is)
    (case e9 => k_is)
    (case k9 => k_is)
    (case a10 => k_is)
    (case i10 => k_is)
    (case l10 => k_is)
    (case e10 => k_is)
    (case k10 => k_is)
    (case a11 => k_is)
    (case i11 => k_is)
    (case l11 => k_is)
    (case e11 => k_is)
    (case k11 => k_is)
    (case a12 => k_is)
    (case i12 => k_is)
    (case l12 => k_is)
    (case e12 => k_is)
    (case k12 => k_is)
    (case a13 => k_is)
    (case i13 => k_is)
    (case l13 => k_is)
    (case e13 => k_is)
    (case k13 => k_is)
    (case a14 => k_is)
    (case i14 => k_is)
    (case l14 => k_is)
    (case e14 => k_is)
    (case k14 => k_is)
    (case a15 => k_is)
    (case i15 => k_is)
    (case l15 => k_is)
    (case e15 => k_is)
    (case k15 => k_is)
    (case a16 => k_is)
    (case i16 => k_is)
    (case l16 => k_is)
    (case e16 => k_is)
    (case k16 => k_is)
    (case a17 => k_is)
    (case i17 => k_is)
    (case l17 => k_is)
    (case e17 => k_is)
    (case k17 => k_is)
    (case a18 => k_is)
    (case i18 => k_is)
    (case l18 => k_is)
    (case e18 => k_is)
    (case k18 => k_is)
    (case a19 => k_is)
    (case i19 => k_is)
    (case l19 => k_is)
    (case e19 => k_is)
    (case k19 => k_is)
    (case a20 => k_is)
    (case i20 => k_is)
    (case l20 => k_is)
    (case e20 => k_is)
    (case k20 => k_is)
    (case a21 => k_is)
    (case i21 => k_is)
    (case l21 => k_is)
    (case e21 => k_is)
    (case k21 => k_is)
    (case a22 => k_is)
    (case i22 => k_is)
    (case l22 => k_is)
    (case e22 => k_is)
    (case k22 => k_is)
    (case a23 => k_is)
    (case i23 => k_is)
    (case l23 => k_is)
    (case e23 => k_is)
    (case k23 => k_is)
    (case a24 => k_is)
    (case i24 => k_is)
    (case l24 => k_is)
    (case e24 => k_is)
    (case k24 => k_is)
    (case a25 => k_is)
    (case l25 => k_is)
    (case e25 => k_is)
    (case k25 => k_is)
    (case a26 => k_is)
    (case l26 => k_is)
    (case e26 => k_is)
    (case k26 => k_is)
    (case a27 => k_is)
    (case l27 => k_is)
    (case e27 => k_is)
    (case k27 => k_is)
    (case a28 => k_is)
    (case l28 => k_is)
    (case e28 => k_is)
    (case k28 => k_is)
    (case a29 => k_is)
    (case l29 => k_is)
    (case e29 => k_is)
    (case k29 => k_is)
    (case a30 => k_is)
    (case l30 => k_is)
    (case e30 => k_is)
    (case k30 => k_is)
    (case a31 => k_is)
    (case l31 => k_is)
    (case e31 => k_is)
    (case k31 => k_is)
    (case a32 => k_is)
    (case l32 => k_is)
    (case e32 => k_is)
    (case k32 => k_is)
    (case a33 => k_is)
    (case l33 => k_is)
    (case e33 => k_is)
    (case k33 => k_is)
    (case a34 => k_is)
    (case l34 => k_is)
    (case e34 => k_is)
    (case k34 => k_is)
    (case a35 => k_is)
    (case l35 => k_is)
    (case e35 => k_is)
    (case k35 => k_is)
    (case a36 => k_is)
    (case l36 => k_is)
    (case e36 => k_is)
    (case k36 => k_is)
    (case a37 => k_is)
    (case l37 => k_is)
    (case e37 => k_is)
    (case k37 => k_is)
    (case a38 => k_is)
    (case l38 => k_is)
    (case e38 => k_is)
    (case k38 => k_is)
    (case a39 => k_is)
    (case l39 => k_is)
    (case e39 => k_is)
    (case k39 => k_is)
    (case a40 => k_is)
    (case l40 => k_is)
    (case e40 => k_is)
    (case k40 => k_is)
    (case a41 => k_is)
    (case l41 => k_is)
    (case e41 => k_is)
    (case k41 => k_is)
    (case a42 => k_is)
    (case l42 => k_is)
    (case e42 => k_is)
    (case k42 => k_is)
    (case a43 => k_is)
    (case l43 => k_is)
    (case e43 => k_is)
    (case k43 => k_is)
    (case a44 => k_is)
    (case l44 => k_is)
    (case e44 => k_is)
    (case k44 => k_is)
    (case a45 => k_is)
    (case l45 => k_is)
    (case e45 => k_is)
    (case k45 => k_is)
    (case a46 => k_is)
    (case l46 => k_is)
    (case e46 => k_is)
    (case k46 => k_is)
    (case a47 => k_is)
    (case l47 => k_is)
    (case e47 => k_is)
    (case k47 => k_is)
    (case a48 => k_is)
    (case l48 => k_is)
    (case e48 => k_is)
    (case k48 => k_is)
    (case a49 => k_is)
    (case l49 => k_is)
    (case e49 => k_is)
    (case k49 => k_is)
    (case a50 => k_is)
    (case l50 => k_is)
    (case e50 => k_is)
    (case k50 => k_is)
    (case a51 => k_is)
    (case l51 => k_is)
    (case e51 => k_is)
    (case k51 => k_is)
    (case a52 => k_is)
    (case l52 => k_is)
    (case e52 => k_is)
    (case k52 => k_is)
    (case a53 => k_is)
    (case l53 => k_is)
    (case e53 => k_is)
    (case k53 => k_is)
    (case a54 => k_is)
    (case l54 => k_is)
    (case e54 => k_is)
    (case k54 => k_is)
    (case a55 => k_is)
    (case l55 => k_is)
    (case e55 => k_is)
    (case k55 => k_is)
    (case a56 => k_is)
    (case l56 => k_is)
    (case e56 => k_is)
    (case k56 => k_is)
    (case a57 => k_is)
    (case l57 => k_is)
    (case e57 => k_is)
    (case k57 => k_is)
end
