import PyProof.Rows.All
import Wide.All
import OpenK.AllK
import Wide.FinOn
import HandS.ForMost
import HandS.Walk
import HandS.DictComp
import KE.KDictWalk
import KE.KDictCopyH
import HandS.Zip
import KE.GoesEnum
import KE.KDictZip
import HandS.Conv
import HandS.SortInts
import HandS.SortRule
import KE.KDictSum
import KE.KDictOf
import PyProof.Rows.TupDisplay
import HandS.IsInst
import HandS.Property
import HandS.TupAny
import HandS.Star
import HandS.Defaults
import PySem.Challenge.RW_blindweirs_k10_whole_tables_and_all_smal
set_option Elab.async false
set_option linter.all false
set_option maxRecDepth 100000
/-! Tables of bounds as functions on some pairs of points; waters by their levels. No program here. -/
namespace Bw
abbrev Fn := Int → Int → Option Int

/-- the levels keep every bound -/
def Fit (f : Fn) (L : Int → Int) : Prop := ∀ a b v, f a b = some v → L a - L b ≤ v
/-- points within, and different -/
def Dom (n : Int) (f : Fn) : Prop := ∀ a b v, f a b = some v → 0 ≤ a ∧ a ≤ n ∧ 0 ≤ b ∧ b ≤ n ∧ a ≠ b
def Imp (f h : Fn) : Prop := ∀ L, Fit f L → Fit h L
/-- g is a closure of f -/
structure Clo (n : Int) (f g : Fn) : Prop where
  dom : Dom n g
  snd : ∀ L, Fit f L → Fit g L
  le : ∀ a b v, f a b = some v → ∃ w, g a b = some w ∧ w ≤ v
  rnd : ∀ a b u v, g a b = some u → g b a = some v → 0 ≤ u + v
  tri : ∀ a b c u v, g a b = some u → g b c = some v → a ≠ c → ∃ w, g a c = some w ∧ w ≤ u + v

theorem Clo.fit {n : Int} {f g : Fn} (c : Clo n f g) (L : Int → Int) : Fit g L ↔ Fit f L := by
  constructor
  · intro h a b v e
    obtain ⟨w, e1, e2⟩ := c.le a b v e
    have := h a b w e1
    omega
  · exact c.snd L

/-- the table that no water fits -/
def fNone : Fn := fun a b => if a = 0 ∧ b = 1 then some (-1) else if a = 1 ∧ b = 0 then some 0 else none
theorem fNone01 : fNone 0 1 = some (-1) := by decide
theorem fNone10 : fNone 1 0 = some 0 := by decide
theorem fNone_no (L : Int → Int) : ¬ Fit fNone L := by
  intro h
  have h1 := h 0 1 (-1) fNone01
  have h2 := h 1 0 0 fNone10
  omega
theorem fNone_dom {n : Int} (hn : 1 ≤ n) : Dom n fNone := by
  intro a b v e
  unfold fNone at e
  split at e
  · omega
  · split at e
    · omega
    · cases e

/-! ### a number between two lists -/
theorem between : ∀ (lo hi : List Int), (∀ l ∈ lo, ∀ h ∈ hi, l ≤ h) → ∃ t, (∀ l ∈ lo, l ≤ t) ∧ ∀ h ∈ hi, t ≤ h
  | [], [], _ => ⟨0, by simp, by simp⟩
  | [], h :: hs, _ => by
    obtain ⟨t, _, h2⟩ := between [] hs (by simp)
    by_cases e : t ≤ h
    · refine ⟨t, by simp, fun x hx => ?_⟩
      rcases List.mem_cons.mp hx with r | r
      · omega
      · exact h2 x r
    · refine ⟨h, by simp, fun x hx => ?_⟩
      rcases List.mem_cons.mp hx with r | r
      · omega
      · have := h2 x r; omega
  | l :: ls, hi, H => by
    obtain ⟨t, h1, h2⟩ := between ls hi (fun x hx => H x (List.mem_cons_of_mem _ hx))
    by_cases e : l ≤ t
    · refine ⟨t, fun x hx => ?_, h2⟩
      rcases List.mem_cons.mp hx with r | r
      · omega
      · exact h1 x r
    · refine ⟨l, fun x hx => ?_, fun x hx => H l List.mem_cons_self x hx⟩
      rcases List.mem_cons.mp hx with r | r
      · omega
      · have := h1 x r; omega

/-- the levels of the points in S keep the bounds among them -/
def Part (g : Fn) (S : List Int) (L : Int → Int) : Prop := ∀ a ∈ S, ∀ b ∈ S, ∀ v, g a b = some v → L a - L b ≤ v

theorem Clo.more {n : Int} {f g : Fn} (c : Clo n f g) {S : List Int} {L : Int → Int} (h : Part g S L) (k : Int) :
    ∃ L', Part g (k :: S) L' ∧ ∀ x ∈ S, L' x = L x := by
  by_cases hk : k ∈ S
  · refine ⟨L, fun a ha b hb v e => ?_, fun _ _ => rfl⟩
    have ha' : a ∈ S := by rcases List.mem_cons.mp ha with r | r; exact r ▸ hk; exact r
    have hb' : b ∈ S := by rcases List.mem_cons.mp hb with r | r; exact r ▸ hk; exact r
    exact h a ha' b hb' v e
  · obtain ⟨t, h1, h2⟩ := between (S.filterMap fun x => (g x k).map fun v => L x - v) (S.filterMap fun x => (g k x).map fun v => L x + v) (by
      intro l hl u hu
      obtain ⟨x, hx, ex⟩ := List.mem_filterMap.mp hl
      obtain ⟨y, hy, ey⟩ := List.mem_filterMap.mp hu
      cases e1 : g x k with
      | none => rw [e1] at ex; cases ex
      | some v =>
        cases e2 : g k y with
        | none => rw [e2] at ey; cases ey
        | some w =>
          rw [e1] at ex; rw [e2] at ey
          simp only [Option.map_some, Option.some.injEq] at ex ey
          by_cases exy : x = y
          · subst exy
            have := c.rnd x k v w e1 e2
            omega
          · obtain ⟨z, e3, e4⟩ := c.tri x k y v w e1 e2 exy
            have := h x hx y hy z e3
            omega)
    refine ⟨fun x => if x = k then t else L x, fun a ha b hb v e => ?_, fun x hx => ?_⟩
    · have ne := (c.dom a b v e).2.2.2.2
      by_cases ea : a = k
      · have hb' : b ∈ S := by
          rcases List.mem_cons.mp hb with r | r
          · exact absurd (ea.trans r.symm) ne
          · exact r
        have eb : b ≠ k := fun z => hk (z ▸ hb')
        show (if a = k then t else L a) - (if b = k then t else L b) ≤ v
        rw [if_pos ea, if_neg eb]
        have := h2 (L b + v) (List.mem_filterMap.mpr ⟨b, hb', by rw [← ea, e]; rfl⟩)
        omega
      · have ha' : a ∈ S := by
          rcases List.mem_cons.mp ha with r | r
          · exact absurd r ea
          · exact r
        by_cases eb : b = k
        · show (if a = k then t else L a) - (if b = k then t else L b) ≤ v
          rw [if_neg ea, if_pos eb]
          have := h1 (L a - v) (List.mem_filterMap.mpr ⟨a, ha', by rw [← eb, e]; rfl⟩)
          omega
        · have hb' : b ∈ S := by
            rcases List.mem_cons.mp hb with r | r
            · exact absurd r eb
            · exact r
          show (if a = k then t else L a) - (if b = k then t else L b) ≤ v
          rw [if_neg ea, if_neg eb]
          exact h a ha' b hb' v e
    · show (if x = k then t else L x) = L x
      rw [if_neg fun (z : x = k) => hk (z ▸ hx)]

theorem Clo.all {n : Int} {f g : Fn} (c : Clo n f g) : ∀ (R S : List Int) (L : Int → Int), Part g S L → ∃ L', Part g (R ++ S) L' ∧ ∀ x ∈ S, L' x = L x
  | [], S, L, h => ⟨L, h, fun _ _ => rfl⟩
  | k :: R, S, L, h => by
    obtain ⟨L1, h1, e1⟩ := c.all R S L h
    obtain ⟨L2, h2, e2⟩ := c.more h1 k
    exact ⟨L2, h2, fun x hx => (e2 x (List.mem_append_right _ hx)).trans (e1 x hx)⟩

/-- the numbers from 0 to n -/
def pts (n : Int) : List Int := (List.range (n.toNat + 1)).map fun (i : Nat) => (i : Int)
theorem mem_pts {n x : Int} (h0 : 0 ≤ x) (h1 : x ≤ n) : x ∈ pts n :=
  List.mem_map.mpr ⟨x.toNat, List.mem_range.mpr (by omega), by omega⟩

theorem Clo.levels {n : Int} {f g : Fn} (c : Clo n f g) {S : List Int} {L : Int → Int} (h : Part g S L) : ∃ L', Fit f L' ∧ ∀ x ∈ S, L' x = L x := by
  obtain ⟨L', h1, h2⟩ := c.all (pts n) S L h
  refine ⟨L', (c.fit L').mp fun a b v e => ?_, h2⟩
  obtain ⟨a0, a1, b0, b1, _⟩ := c.dom a b v e
  exact h1 a (List.mem_append_left _ (mem_pts a0 a1)) b (List.mem_append_left _ (mem_pts b0 b1)) v e

theorem Clo.some {n : Int} {f g : Fn} (c : Clo n f g) : ∃ L, Fit f L := by
  obtain ⟨L, h, _⟩ := c.levels (S := []) (L := fun _ => 0) (fun a ha => nomatch ha)
  exact ⟨L, h⟩

/-- where a bound of the closure is lacking, or greater, some levels that fit pass it -/
theorem Clo.past {n : Int} {f g : Fn} (c : Clo n f g) {a b cap : Int} (ne : a ≠ b) (h : ∀ d, g a b = Option.some d → cap < d) :
    ∃ L, Fit f L ∧ cap + 1 ≤ L a - L b := by
  obtain ⟨t, h1, h2, h3⟩ : ∃ t, cap + 1 ≤ t ∧ (∀ d, g a b = Option.some d → t ≤ d) ∧ ∀ d, g b a = Option.some d → -t ≤ d := by
    cases e : g b a with
    | none =>
      exact ⟨cap + 1, by omega, fun d hd => by have := h d hd; omega, fun d hd => by cases hd⟩
    | some w =>
      by_cases q : cap + 1 ≤ -w
      · refine ⟨-w, q, fun d hd => ?_, fun d hd => ?_⟩
        · have := c.rnd a b d w hd e; omega
        · cases hd; omega
      · refine ⟨cap + 1, by omega, fun d hd => by have := h d hd; omega, fun d hd => ?_⟩
        cases hd; omega
  obtain ⟨L, k1, k2⟩ := c.levels (S := [a, b]) (L := fun x => if x = a then t else 0) (by
    intro x hx y hy v e
    have nxy := (c.dom x y v e).2.2.2.2
    have hx' : x = a ∨ x = b := by simpa using hx
    have hy' : y = a ∨ y = b := by simpa using hy
    show (if x = a then t else 0) - (if y = a then t else 0) ≤ v
    rcases hx' with rfl | rfl
    · rcases hy' with rfl | rfl
      · exact absurd rfl nxy
      · rw [if_pos rfl, if_neg (Ne.symm ne)]
        have := h2 v e; omega
    · rcases hy' with rfl | rfl
      · rw [if_neg (Ne.symm ne), if_pos rfl]
        have := h3 v e; omega
      · exact absurd rfl nxy)
  refine ⟨L, k1, ?_⟩
  have ea : L a = t := (k2 a (by simp)).trans (if_pos rfl)
  have eb : L b = 0 := (k2 b (by simp)).trans (if_neg (Ne.symm ne))
  omega

/-- the one bound (b, a): -cap - 1 -/
def fOne (a b v : Int) : Fn := fun x y => if x = a ∧ y = b then some v else none
theorem fit_one {a b v : Int} {L : Int → Int} : Fit (fOne a b v) L ↔ L a - L b ≤ v := by
  constructor
  · intro h; exact h a b v (if_pos ⟨rfl, rfl⟩)
  · intro h x y w e
    unfold fOne at e
    split at e
    · rename_i q
      obtain ⟨rfl, rfl⟩ := q
      cases e; exact h
    · cases e

/-- the lesser bounds of two -/
def fBoth (f h : Fn) : Fn := fun a b => match f a b, h a b with
  | some u, some v => some (if v < u then v else u)
  | some u, none => some u
  | none, o => o
theorem fit_both {f h : Fn} {L : Int → Int} : Fit (fBoth f h) L ↔ Fit f L ∧ Fit h L := by
  constructor
  · intro q
    refine ⟨fun a b v e => ?_, fun a b v e => ?_⟩
    · cases e2 : h a b with
      | none => exact q a b v (by unfold fBoth; rw [e, e2])
      | some w =>
        have := q a b (if w < v then w else v) (by unfold fBoth; rw [e, e2])
        split at this <;> omega
    · cases e2 : f a b with
      | none => exact q a b v (by unfold fBoth; rw [e, e2])
      | some w =>
        have := q a b (if v < w then v else w) (by unfold fBoth; rw [e, e2])
        split at this <;> omega
  · rintro ⟨q1, q2⟩ a b v e
    unfold fBoth at e
    cases e1 : f a b with
    | none =>
      rw [e1] at e
      exact q2 a b v e
    | some u =>
      cases e2 : h a b with
      | none => rw [e1, e2] at e; cases e; exact q1 a b _ e1
      | some w =>
        rw [e1, e2] at e
        simp only [Option.some.injEq] at e
        subst e
        have h1 := q1 a b u e1
        have h2 := q2 a b w e2
        split <;> omega
theorem dom_both {n : Int} {f h : Fn} (d1 : Dom n f) (d2 : Dom n h) : Dom n (fBoth f h) := by
  intro a b v e
  unfold fBoth at e
  cases e1 : f a b with
  | none => rw [e1] at e; exact d2 a b v e
  | some u => exact d1 a b u e1

/-! ### least ways -/
/-- one point taken as a stop between -/
def relaxF (D : Fn) (k : Int) : Fn := fun x y => match D x k, D k y with
  | some u, some v => match D x y with
    | some w => some (if u + v < w then u + v else w)
    | none => some (u + v)
  | _, _ => D x y
/-- the bounds, and 0 from each point to itself -/
def diagF (n : Int) (f : Fn) : Fn := fun a b => if a = b ∧ 0 ≤ a ∧ a ≤ n then some 0 else f a b

theorem relax_le {D : Fn} {k x y w : Int} (e : D x y = some w) : ∃ w', relaxF D k x y = some w' ∧ w' ≤ w := by
  unfold relaxF
  cases e1 : D x k with
  | none => exact ⟨w, by simpa using e, Int.le_refl _⟩
  | some u =>
    cases e2 : D k y with
    | none => exact ⟨w, by simpa using e, Int.le_refl _⟩
    | some v =>
      simp only [e]
      exact ⟨_, rfl, by split <;> omega⟩
theorem relax_sum {D : Fn} {k x y u v : Int} (e1 : D x k = some u) (e2 : D k y = some v) : ∃ w', relaxF D k x y = some w' ∧ w' ≤ u + v := by
  unfold relaxF
  rw [e1, e2]
  cases e : D x y with
  | none => exact ⟨_, rfl, Int.le_refl _⟩
  | some w => exact ⟨_, rfl, by split <;> omega⟩
/-- what stands behind a relaxed value -/
theorem relax_cases {D : Fn} {k x y w : Int} (e : relaxF D k x y = some w) : D x y = some w ∨ ∃ u v, D x k = some u ∧ D k y = some v ∧ w = u + v := by
  unfold relaxF at e
  cases e1 : D x k with
  | none => rw [e1] at e; exact .inl (by simpa using e)
  | some u =>
    cases e2 : D k y with
    | none => rw [e1, e2] at e; exact .inl (by simpa using e)
    | some v =>
      rw [e1, e2] at e
      cases e3 : D x y with
      | none =>
        rw [e3] at e
        exact .inr ⟨u, v, rfl, rfl, (Option.some.inj e).symm⟩
      | some z =>
        rw [e3] at e
        have e4 := Option.some.inj e
        split at e4
        · exact .inr ⟨u, v, rfl, rfl, e4.symm⟩
        · exact .inl (congrArg some e4)

def Tri (m : Int) (D : Fn) : Prop := ∀ c, 0 ≤ c → c < m → ∀ a b u v, D a c = some u → D c b = some v → ∃ w, D a b = some w ∧ w ≤ u + v
theorem tri_step {m : Int} {D : Fn} {z : Int} (T : Tri m D) (e0 : D m m = some z) (h0 : 0 ≤ z) : Tri (m + 1) (relaxF D m) := by
  have edge : ∀ a u, relaxF D m a m = some u → ∃ u', D a m = some u' ∧ u' ≤ u := by
    intro a u e
    rcases relax_cases e with q | ⟨p, q, e1, e2, rfl⟩
    · exact ⟨u, q, Int.le_refl _⟩
    · rw [e0] at e2; cases e2
      exact ⟨p, e1, by omega⟩
  have edge2 : ∀ b u, relaxF D m m b = some u → ∃ u', D m b = some u' ∧ u' ≤ u := by
    intro b u e
    rcases relax_cases e with q | ⟨p, q, e1, e2, rfl⟩
    · exact ⟨u, q, Int.le_refl _⟩
    · rw [e0] at e1; cases e1
      exact ⟨q, e2, by omega⟩
  intro c c0 c1 a b u v e1 e2
  by_cases hc : c = m
  · subst hc
    obtain ⟨u', f1, g1⟩ := edge a u e1
    obtain ⟨v', f2, g2⟩ := edge2 b v e2
    obtain ⟨w, f3, g3⟩ := relax_sum (x := a) (y := b) f1 f2
    exact ⟨w, f3, by omega⟩
  · have hcm : c < m := by omega
    rcases relax_cases e1 with q1 | ⟨p1, r1, f1, g1, rfl⟩
    · rcases relax_cases e2 with q2 | ⟨p2, r2, f2, g2, rfl⟩
      · obtain ⟨w, f3, g3⟩ := T c c0 hcm a b u v q1 q2
        obtain ⟨w', f4, g4⟩ := relax_le (k := m) f3
        exact ⟨w', f4, by omega⟩
      · obtain ⟨w, f3, g3⟩ := T c c0 hcm a m u p2 q1 f2
        obtain ⟨w', f4, g4⟩ := relax_sum (x := a) (y := b) f3 g2
        exact ⟨w', f4, by omega⟩
    · rcases relax_cases e2 with q2 | ⟨p2, r2, f2, g2, rfl⟩
      · obtain ⟨w, f3, g3⟩ := T c c0 hcm m b r1 v g1 q2
        obtain ⟨w', f4, g4⟩ := relax_sum (x := a) (y := b) f1 f3
        exact ⟨w', f4, by omega⟩
      · obtain ⟨w, f3, g3⟩ := T c c0 hcm m m r1 p2 g1 f2
        rw [e0] at f3; cases f3
        obtain ⟨w', f4, g4⟩ := relax_sum (x := a) (y := b) f1 g2
        exact ⟨w', f4, by omega⟩
theorem fit_relax {D : Fn} {k : Int} {L : Int → Int} (h : Fit D L) : Fit (relaxF D k) L := by
  intro a b v e
  rcases relax_cases e with q | ⟨u, w, e1, e2, rfl⟩
  · exact h a b v q
  · have := h a k u e1
    have := h k b w e2
    omega
theorem fit_diag {n : Int} {f : Fn} {L : Int → Int} (h : Fit f L) : Fit (diagF n f) L := by
  intro a b v e
  unfold diagF at e
  split at e
  · rename_i q
    cases e
    obtain ⟨rfl, _⟩ := q
    omega
  · exact h a b v e
/-- the state of the walk: what is kept from stop to stop -/
structure Way (n m : Int) (f D : Fn) : Prop where
  rng : ∀ a b v, D a b = some v → 0 ≤ a ∧ a ≤ n ∧ 0 ≤ b ∧ b ≤ n
  snd : ∀ L, Fit f L → Fit D L
  le : ∀ a b v, f a b = some v → ∃ w, D a b = some w ∧ w ≤ v
  dg : ∀ a, 0 ≤ a → a ≤ n → ∃ v, D a a = some v
  tri : (∀ a v, D a a = some v → 0 ≤ v) → Tri m D
theorem way_start {n : Int} {f : Fn} (d : Dom n f) : Way n 0 f (diagF n f) where
  rng := fun a b v e => by
    unfold diagF at e
    split at e
    · omega
    · have := d a b v e; omega
  snd := fun L h => fit_diag h
  le := fun a b v e => ⟨v, by
    unfold diagF
    rw [if_neg fun q => (d a b v e).2.2.2.2 q.1]
    exact e, Int.le_refl _⟩
  dg := fun a h0 h1 => ⟨0, if_pos ⟨rfl, h0, h1⟩⟩
  tri := fun _ c c0 c1 => by omega
theorem way_step {n m : Int} {f D : Fn} (w : Way n m f D) (hm0 : 0 ≤ m) (hm : m ≤ n) (hn : ∀ a v, D a a = some v → 0 ≤ v) : Way n (m + 1) f (relaxF D m) where
  rng := fun a b v e => by
    rcases relax_cases e with q | ⟨u, x, e1, e2, _⟩
    · exact w.rng a b v q
    · have h1 := w.rng a m u e1
      have h2 := w.rng m b x e2
      omega
  snd := fun L h => fit_relax (w.snd L h)
  le := fun a b v e => by
    obtain ⟨x, e1, h1⟩ := w.le a b v e
    obtain ⟨y, e2, h2⟩ := relax_le (k := m) e1
    exact ⟨y, e2, by omega⟩
  dg := fun a h0 h1 => by
    obtain ⟨v, e⟩ := w.dg a h0 h1
    obtain ⟨y, e2, _⟩ := relax_le (k := m) e
    exact ⟨y, e2⟩
  tri := fun _ => by
    obtain ⟨z, e⟩ := w.dg m hm0 hm
    exact tri_step (w.tri hn) e (hn m z e)
/-- without the diagonal -/
def offD (D : Fn) : Fn := fun a b => if a = b then none else D a b
theorem off_some {D : Fn} {a b v : Int} (e : offD D a b = some v) : a ≠ b ∧ D a b = some v := by
  unfold offD at e
  split at e
  · cases e
  · rename_i q; exact ⟨q, e⟩
theorem off_ne {D : Fn} {a b : Int} (h : a ≠ b) : offD D a b = D a b := if_neg h
theorem way_clo {n : Int} {f D : Fn} (d : Dom n f) (w : Way n (n + 1) f D) (hn : ∀ a v, D a a = some v → 0 ≤ v) : Clo n f (offD D) where
  dom := fun a b v e => by
    obtain ⟨ne, e1⟩ := off_some e
    have := w.rng a b v e1
    omega
  snd := fun L h a b v e => w.snd L h a b v (off_some e).2
  le := fun a b v e => by
    rw [off_ne (d a b v e).2.2.2.2]
    exact w.le a b v e
  rnd := fun a b u v e1 e2 => by
    have r := w.rng a b u (off_some e1).2
    obtain ⟨x, e3, h3⟩ := w.tri hn b (by omega) (by omega) a a u v (off_some e1).2 (off_some e2).2
    have := hn a x e3
    omega
  tri := fun a b c u v e1 e2 ne => by
    have r := w.rng a b u (off_some e1).2
    rw [off_ne ne]
    exact w.tri hn b (by omega) (by omega) a c u v (off_some e1).2 (off_some e2).2
/-- a loop below 0: no water fits -/
theorem way_no {n m : Int} {f D : Fn} (w : Way n m f D) {a v : Int} (e : D a a = some v) (h : v < 0) (L : Int → Int) : ¬ Fit f L := fun q => by
  have := w.snd L q a a v e
  omega
end Bw

/-! Dicts whose keys are tuples: their items and values walked, dict comprehensions that make them. -/
namespace Bw
open PySem PySem.Spec PyProof.Rows L2

section
variable {X : Cx} {pins : List (Addr × Obj)} {σ : L2.St} {H : Hp} {s : Shared} {d : Addr} {o : Obj}
/-- what a locked dict with tuple keys is, entry by entry -/
theorem frz_full {kvs : List (List Key × V)} (I : Inv X pins σ H s) (h : H d = some (.frz o (.dT kvs))) :
    (d == sysModules) = false ∧ ∃ es ep, s.heap.DictRaw d es ep ∧ o.data = .dict es ep ∧ es.size = kvs.length ∧
      ∀ (i : Nat) (hi : i < es.size), ∃ k v q, kvs[i]? = some (k, v) ∧ es[i].key = .ref q ∧ RelV v es[i].val ∧ H q = some (.tup (k.map kV)) := by
  obtain ⟨hd, _, hs, xs, pr, o2, es, ep, ho, hx, hdt, he, _⟩ := I.hok d _ h
  have eo : o2 = o := Option.some.inj (ho.symm.trans hd)
  subst eo
  have l1 : es.size = xs.length := size_of_entries he
  have l2 : kvs.length = xs.length := Paired.length pr
  refine ⟨hs, es, ep, ⟨_, ho, hx, hdt⟩, hdt, by omega, fun i hi => ?_⟩
  have hk : i < kvs.length := by omega
  obtain ⟨b, hb, e1, e2, e3⟩ := paired_get pr (List.getElem?_eq_getElem hk)
  have q := entry_at he i
  rw [hb, Array.getElem?_eq_getElem hi] at q
  have q2 := Option.some.inj q
  exact ⟨kvs[i].1, kvs[i].2, b.2.1, List.getElem?_eq_getElem hk, by rw [q2]; rfl, by rw [q2]; exact e3, e2⟩
end

/-- the items: each a new pair of the key's own tuple and the value -/
def ItPairs (d : Addr) (o : Obj) (kvs : List (List Key × V)) : It :=
  ⟨fun i H => H d = some (.frz o (.dT kvs)) ∧ i < kvs.length,
   fun i H x H' => ∃ T k v q, kvs[i]? = some (k, v) ∧ x = .ref T ∧ H q = some (.tup (k.map kV)) ∧ H T = none ∧ H' = upd H T (.tup [.ref q, v]),
   fun i H => H d = some (.frz o (.dT kvs)) ∧ kvs.length ≤ i⟩
/-- the values -/
def ItVals (d : Addr) (o : Obj) (kvs : List (List Key × V)) : It :=
  ⟨fun i H => H d = some (.frz o (.dT kvs)) ∧ i < kvs.length,
   fun i H x H' => H' = H ∧ ∃ k, kvs[i]? = some (k, x),
   fun i H => H d = some (.frz o (.dT kvs)) ∧ kvs.length ≤ i⟩

section
variable {P : Program} {w : World} {K : PySem.W.Frag} {tg : Expr} {d : Addr} {o : Obj} {es : Array DictEntry} {ep : Nat}
theorem turn_pairs {kvs : List (List Key × V)} {elts : List Expr} {kk : Nat} {tpos : Pos} (it : Addr) (hod : o.data = .dict es ep) :
    Turn P w K (.Tuple elts kk tpos) (ItPairs d o kvs) [it] it (fun i h => ∃ ok ov, IsItemIter h it d i kvs.length ep ok ov) where
  mem := List.mem_singleton.mpr rfl
  obj := fun i h ⟨_, _, e⟩ b hb => by
    cases List.mem_singleton.mp hb
    exact ⟨_, e, fun v z => nomatch z⟩
  keep := fun i h h' ⟨ok, ov, e⟩ k => ⟨ok, ov, k it (List.mem_singleton.mpr rfl) _ e⟩
  item := by
    rintro X rfl rfl rfl hc i pins s σ H E I hf ⟨ok, ov, he⟩ ⟨hd, hi⟩
    obtain ⟨hs, es1, ep1, raw, hdt, hsz, en⟩ := frz_full I hd
    obtain ⟨rfl, rfl⟩ := dict_ep hod hdt
    rw [← hsz] at he hi ⊢
    obtain ⟨k, v, q, hkv, ekey, rv, hq⟩ := en i hi
    refine wpAny_pyNext_items_item_raw he raw hi fun h1 ho hT hz hk => ⟨_, rfl, ?_⟩
    refine wpAny_letOwnedTupleGo_items (s := { s with heap := h1 }) ho fun h2 he2 sb => ?_
    have hlt : it < s.heap.objs.size := Heap.lt_size he
    have hT2 := (sb.2 s.heap.objs.size (Nat.ne_of_gt hlt)).trans hT
    rw [ekey] at hT2
    have I1 : Inv X pins σ (upd H s.heap.objs.size (.tup [.ref q, v])) { s with heap := h2 } := by
      refine I.turnedNew (t' := s.toks) (ch := [it]) (fun b ob hb e => ?_) hf (Nat.le_refl _) ⟨?_, _, .cons rfl (.cons rv .nil), ⟨_, hT2, rfl, _, rfl⟩⟩
      · have nb : b ≠ it := fun z => hb (List.mem_singleton.mpr z)
        exact (sb.2 b nb).trans (hk b ob nb e)
      · show 2 ≤ sizeLine
        decide
    refine ⟨V.ref s.heap.objs.size, _, I1, rfl, ⟨_, k, v, q, hkv, rfl, hq, I.hok.fresh (Nat.le_refl _), rfl⟩, ⟨_, _, he2⟩, fun b hb => ?_⟩
    cases List.mem_singleton.mp hb
    rw [upd_ne (Nat.ne_of_lt hlt)]
    exact (hf it (List.mem_singleton.mpr rfl)).1
  done := by
    rintro X rfl rfl rfl hc i pins s σ H E I hf ⟨ok, ov, he⟩ ⟨hd, hi⟩
    obtain ⟨f0, f1, f2, f3, f4, f5⟩ := hf it (List.mem_singleton.mpr rfl)
    obtain ⟨hs, es1, ep1, raw, hdt, hsz, en⟩ := frz_full I hd
    obtain ⟨rfl, rfl⟩ := dict_ep hod hdt
    rw [← hsz] at he hi
    refine wpAny_pyNext_items_end_raw (I.ok.hd hc) he raw hi fun h1 eb => ⟨rfl, ?_⟩
    exact I.turned (t' := s.toks) (fun b ob hb e => eb b ob hb e) f0 f1 f3 f4 f5
  self := fun A i s Q E ⟨_, _, e⟩ h => wpAny_pyIter_itemiter e h
theorem turn_vals {kvs : List (List Key × V)} (it : Addr) (hod : o.data = .dict es ep) :
    Turn P w K tg (ItVals d o kvs) [it] it (fun i h => h.IsValIter it d i kvs.length ep) where
  mem := List.mem_singleton.mpr rfl
  obj := fun i h ⟨ob, e, _, z⟩ b hb => by
    cases List.mem_singleton.mp hb
    exact ⟨_, e, fun v y => by rw [z] at y; cases y⟩
  keep := fun i h h' ⟨ob, e, z⟩ k => ⟨ob, k it (List.mem_singleton.mpr rfl) _ e, z⟩
  item := by
    rintro X rfl rfl rfl hc i pins s σ H E I hf he ⟨hd, hi⟩
    obtain ⟨f0, f1, f2, f3, f4, f5⟩ := hf it (List.mem_singleton.mpr rfl)
    obtain ⟨hs, es1, ep1, raw, hdt, hsz, en⟩ := frz_full I hd
    obtain ⟨rfl, rfl⟩ := dict_ep hod hdt
    rw [← hsz] at he hi ⊢
    obtain ⟨k, v, q, hkv, ekey, rv, hq⟩ := en i hi
    refine wpAny_pyNext_values_item_raw he raw hi fun h1 he1 sb => ⟨_, rfl, ?_⟩
    have I1 : Inv X pins σ H { s with heap := h1 } := I.turned (t' := s.toks) (fun b ob hb e => (sb.2 b hb).trans e) f0 f1 f3 f4 f5
    obtain ⟨oi, hoi, hci, hdi⟩ := id he1
    refine go_of (n := "dict_valueiterator") hoi hci hdi (by decide) ?_
    refine ⟨v, H, I1, rv, ⟨rfl, k, hkv⟩, he1, fun b hb => ?_⟩
    cases List.mem_singleton.mp hb
    exact f0
  done := by
    rintro X rfl rfl rfl hc i pins s σ H E I hf he ⟨hd, hi⟩
    obtain ⟨f0, f1, f2, f3, f4, f5⟩ := hf it (List.mem_singleton.mpr rfl)
    obtain ⟨hs, es1, ep1, raw, hdt, hsz, en⟩ := frz_full I hd
    obtain ⟨rfl, rfl⟩ := dict_ep hod hdt
    rw [← hsz] at he hi
    refine wpAny_pyNext_values_end_raw (I.ok.hd hc) he raw hi fun h1 eb => ⟨rfl, ?_⟩
    exact I.turned (t' := s.toks) (fun b ob hb e => eb b ob hb e) f0 f1 f3 f4 f5
  self := fun A i s Q E e h => wpAny_pyIter_valiter e h
end

def iPairs (td : TE) : TI := fun σ H R => td σ H fun x H1 => ∃ d o kvs, x = .ref d ∧ H1 d = some (.frz o (.dT kvs)) ∧ R (ItPairs d o kvs) H1
def iVals (td : TE) : TI := fun σ H R => td σ H fun x H1 => ∃ d o kvs, x = .ref d ∧ H1 d = some (.frz o (.dT kvs)) ∧ R (ItVals d o kvs) H1
section
variable {X : Cx} {tg e : Expr} {td : TE} {apos cpos : Pos}
/-- d.items() of a locked dict -/
theorem pi_pairs {elts : List Expr} {kk : Nat} {tpos : Pos} (he : PE X e td) (hbase : attributeBase e "items" X.env (eval e X.env) = eval e X.env := by rfl) (hline : (apos.endLine == cpos.line) = true := by rfl) :
    PI X (.Tuple elts kk tpos) (.Call (.Attribute e "items" apos) [] [] cpos) (iPairs td) := by
  constructor
  intro pins s σ H R I h
  refine wpAny_Call_method (T := "dict") (id := "dict.items") hbase rfl hline F.plainAttrs_dict F.slot_dict_items F.type_dict_items (thn (he.run pins s σ H _ I h) ?_)
  rintro u s1 ⟨x, H1, I1, rx, d, o, kvs, rfl, hd, q⟩
  cases (show u = Value.ref d from rx)
  obtain ⟨hs, es, ep, raw, hdt, hsz, en⟩ := frz_full I1 hd
  refine ⟨raw.typeIs, fun b hb => ?_, ?_⟩
  · cases hb
    obtain ⟨ob, hob, hx, _⟩ := raw
    exact ⟨ob, hob, hx.2.1⟩
  · have I2 : Inv X pins σ H1 { s1 with heap := s1.heap.push { cls := .type "dict_items", data := .fields #[.ref d] } } := I1.kept (t' := s1.toks) fun b ob z => Heap.get?_push_of_some _ z
    have fin : wpAny (model X.prog X.w) X.A (pyIter (.ref s1.heap.objs.size)) (PIE X pins σ (.Tuple elts kk tpos) R) X.xe { s1 with heap := s1.heap.push { cls := .type "dict_items", data := .fields #[.ref d] } } := by
      refine wpAny_pyIter_items_raw (d := d) (es := es) (ep := ep) ⟨_, Heap.get?_push_size _ rfl, rfl, rfl⟩ (raw.push _) ?_
      refine pi_one (tk := s1.toks) I2 _ (turn_pairs _ hdt) ⟨.none, .none, ?_⟩ q
      rw [← hsz]
      exact Heap.get?_push_size _ rfl
    show wpAny _ _ (callWith cpos (.builtin "dict.items") [.ref d] [] []) _ X.xe s1
    exact method_meetsIn F.slot_dict_items F.entry_dict_items rfl (PySem.evalArgs_none ⟨rfl, raw.typeIs, F.args_dict_items_1 _, _, meets_dict_items_raw d hs, ⟨es, ep, raw⟩, fin⟩)
/-- d.values() of a locked dict -/
theorem pi_vals (he : PE X e td) (hbase : attributeBase e "values" X.env (eval e X.env) = eval e X.env := by rfl) (hline : (apos.endLine == cpos.line) = true := by rfl) :
    PI X tg (.Call (.Attribute e "values" apos) [] [] cpos) (iVals td) := by
  constructor
  intro pins s σ H R I h
  refine wpAny_Call_method (T := "dict") (id := "dict.values") hbase rfl hline F.plainAttrs_dict F.slot_dict_values F.type_dict_values (thn (he.run pins s σ H _ I h) ?_)
  rintro u s1 ⟨x, H1, I1, rx, d, o, kvs, rfl, hd, q⟩
  cases (show u = Value.ref d from rx)
  obtain ⟨hs, es, ep, raw, hdt, hsz, en⟩ := frz_full I1 hd
  refine ⟨raw.typeIs, fun b hb => ?_, ?_⟩
  · cases hb
    obtain ⟨ob, hob, hx, _⟩ := raw
    exact ⟨ob, hob, hx.2.1⟩
  · have I2 : Inv X pins σ H1 { s1 with heap := s1.heap.push { cls := .type "dict_values", data := .fields #[.ref d] } } := I1.kept (t' := s1.toks) fun b ob z => Heap.get?_push_of_some _ z
    have fin : wpAny (model X.prog X.w) X.A (pyIter (.ref s1.heap.objs.size)) (PIE X pins σ tg R) X.xe { s1 with heap := s1.heap.push { cls := .type "dict_values", data := .fields #[.ref d] } } := by
      refine wpAny_pyIter_values_raw (d := d) (es := es) (ep := ep) ⟨_, Heap.get?_push_size _ rfl, rfl, rfl⟩ (raw.push _) ?_
      refine pi_one (tk := s1.toks) I2 _ (turn_vals _ hdt) ?_ q
      rw [← hsz]
      exact ⟨_, Heap.get?_push_size _ rfl, rfl, rfl⟩
    show wpAny _ _ (callWith cpos (.builtin "dict.values") [.ref d] [] []) _ X.xe s1
    exact method_meetsIn F.slot_dict_values F.entry_dict_values rfl (PySem.evalArgs_none ⟨rfl, raw.typeIs, F.args_dict_values_1 _, _, meets_dict_values_raw d hs, ⟨es, ep, raw⟩, fin⟩)
end
theorem walk_pairs {d : Addr} {o : Obj} {kvs : List (List Key × V)} : Walk (ItPairs d o kvs) kvs.length (fun H => H d = some (.frz o (.dT kvs)))
    (fun i H x H' => ∃ T k v q, kvs[i]? = some (k, v) ∧ x = .ref T ∧ H q = some (.tup (k.map kV)) ∧ H T = none ∧ H' = upd H T (.tup [.ref q, v])) where
  goes := fun _ _ hi h => ⟨h, hi⟩
  stops := fun _ h => ⟨h, Nat.le_refl _⟩
  yields := fun _ _ _ _ _ _ y => y
theorem walk_vals {d : Addr} {o : Obj} {kvs : List (List Key × V)} : Walk (ItVals d o kvs) kvs.length (fun H => H d = some (.frz o (.dT kvs)))
    (fun i H x H' => H' = H ∧ ∃ k, kvs[i]? = some (k, x)) where
  goes := fun _ _ hi h => ⟨h, hi⟩
  stops := fun _ h => ⟨h, Nat.le_refl _⟩
  yields := fun _ _ _ _ _ _ y => y
end Bw

/-! Dict comprehensions whose keys may be tuples. -/
namespace Bw
open PySem PySem.Spec PyProof.Rows L2

section
variable {X : Cx} {pins : List (Addr × Obj)} {σ : L2.St} {H : Hp} {s : Shared}
/-- an entry put by a comprehension or a display -/
theorem d_put {A : Around} {E : Value → Shared → Prop} {D : Addr} {y z : V} {u r : Value} {H1 : Hp} {Q : Unit → Shared → Prop} (hu : A.units < cLine) (I : Inv X pins σ H s) (g : DPut H D y z H1) (ry : RelV y u) (rz : RelV z r)
    (h : ∀ s1, Inv X pins σ H1 s1 → Q () s1) : wpAny (model X.prog X.w) A (dictSet D u r) Q E s := by
  rcases g with ⟨kvs, k, hD, rfl, hl, rfl⟩ | ⟨kvs, k, b, hD, rfl, hb, hl, rfl⟩
  · obtain ⟨lz, hd, vs, rel, dd⟩ := dk_of I.hok hD
    have hz : vs.length ≤ sizeLine := rel.length ▸ lz
    have hp : (putK kvs k z).length ≤ sizeLine := Nat.le_trans (length_putK kvs k z) hl
    refine wpAny_dictSet_pairs (hsz := hz) (kV_is ry) dd fun h1 dd1 sb => h _ ?_
    obtain ⟨q, _, _, hq, _⟩ := id dd1
    exact d_write I (by rw [hD]; exact True.intro) sb ⟨q, hq⟩ (dk_new hp hd (rel.put k rz) dd1)
  · cases (show u = Value.ref b from ry)
    obtain ⟨lz, hd, xs, rel, dd⟩ := dt_of I.hok hD
    have hz : xs.length ≤ sizeLine := Paired.length rel ▸ lz
    have hp : (putK kvs k z).length ≤ sizeLine := Nat.le_trans (length_putK kvs k z) hl
    refine wpAny_dictSet_heap (knd := tupleKind (mixKind X.prog X.w)) (hsz := hz) hu (key_of I.hok hb) dd fun h1 dd1 sb => h _ ?_
    obtain ⟨q, es, ep, hq, h2, h3, h4, _, h5⟩ := dd1
    refine d_write I (by rw [hD]; exact True.intro) sb ⟨q, hq⟩ ⟨hp, hd, _, (rel.put k hb rz).keeps fun c ys ec => ?_, q, es, ep, hq, h2, h3, h4, h5⟩
    have nc : c ≠ D := ne_of ec hD (fun e => nomatch e)
    rw [upd_ne nc]
    exact ec
/-- the empty dict, of either kind -/
def NewD (o : HO) : Prop := o = .dK [] ∨ o = .dT []
theorem newD_ok {P : Program} {w : World} {H : Hp} {h : Heap} {o : HO} (hn : NewD o) (hb : sysModules < h.objs.size) : ObjOk P w H (h.push { cls := .type "dict", data := .dict #[] }) h.objs.size o := by
  rcases hn with rfl | rfl
  · exact dk_empty h hb
  · exact dt_empty h hb
theorem newD_mut {o : HO} (hn : NewD o) : Mut (some o) := by
  rcases hn with rfl | rfl <;> exact True.intro
end

/-- the parts of a dict comprehension with one clause, each with its reading, in the block's context -/
def DcParts (X : Cx) (scope : Scope) (tg : Expr) (ifs : List Expr) (kx vx : Expr) (g : TG) (tt : TT) (tk tv : TE) : Prop :=
  ∀ (s : Shared) (H : Hp) (C : Addr) (cl : List (Str × Addr)) (fp : List Addr),
    PG (X.blk s H scope (compEnvC scope cl C X.env) fp) tg g ∧ PTs (X.blk s H scope (compEnvC scope cl C X.env) fp) ifs tt ∧
    PE (X.blk s H scope (compEnvC scope cl C X.env) fp) kx tk ∧ PE (X.blk s H scope (compEnvC scope cl C X.env) fp) vx tv

/-- one turn's reading: from the item x on, up to Nx of the heap behind the turn -/
def DcTurn (g : TG) (tt : TT) (tk tv : TE) (vs : List Nat) (σ : L2.St) (D : Addr) (x : V) (H : Hp) (Nx : Hp → Prop) : Prop :=
  g x (wipe σ vs) H fun σ2 H2 => wipe σ2 vs = wipe σ vs ∧ tt σ2 H2 fun b H3 =>
    if b = true then tk σ2 H3 fun y H4 => tv σ2 H4 fun z H5 => ∃ H6, DPut H5 D y z H6 ∧ Nx H6 else Nx H3
/-- {k: v for target in iter if ..}: D the new dict -/
def tDcA (wi : TI) (g : TG) (tt : TT) (tk tv : TE) (vs : List Nat) : TE := fun σ H Q => wi σ H fun J H1 => ∃ o0, NewD o0 ∧ ∀ D, H1 D = none → ∃ W : Nat → Nat → Hp → Prop, (∃ m, W 0 m (upd H1 D o0)) ∧
  ∀ i m H, W i m H → (J.stop i H ∧ Q (.ref D) H) ∨ (J.go i H ∧ ∃ Nx : Hp → Prop, (∀ H', Nx H' → ∃ m', m' < m ∧ W (i + 1) m' H') ∧ ∀ x H', J.yld i H x H' → DcTurn g tt tk tv vs σ D x H' Nx)

section
variable {X : Cx}
theorem dcA_core {pins : List (Addr × Obj)} {s : Shared} {σ : L2.St} {H : Hp} {Q : VK} {kx vx tg iter : Expr} {ifs : List Expr} {scope : Scope} {own : List (Str × Nat)} {pos pos' : Pos} {wi : TI} {g : TG} {tt : TT} {tk tv : TE}
    {use : Option (Value → Sem Unit)} {Qf : Value → Shared → Prop} (hu : X.A.units < cLine)
    (hc : X.calm = true) (hN : X.N.Nodup) (I : Inv X pins σ H s) (hi : PI X tg iter wi) (ok : BlkOk X.N X.env.scope scope own) (parts : DcParts X scope tg ifs kx vx g tt tk tv) (hs : ∀ x, foldedSetIterable iter X.env x = pure x)
    (h : tDcA wi g tt tk tv (own.map (·.2)) σ H Q)
    (hRR : ∀ D C s' m H', Inv X pins σ H' s' → Q (.ref D) H' → s'.heap.Ns C m → FpOk X pins H' C → compPost (model X.prog X.w) X.A X.xe use Qf (.ref D) C (.ok .next) s') :
    wpAny (model X.prog X.w) X.A (comprehension (.DictComp kx vx [⟨tg, iter, ifs, 0⟩] scope pos) scope X.env pos' newDict false (eval iter X.env) use) Qf X.xe s := by
  -- the free names have their cells
  have cells : closureFor scope X.env = pure (cloFrom X.env.cells scope.names []) := closure_ok fun y hy e => (ok.free y hy e).elim (fun k => I.ok.has _ (.inl k)) fun k => I.ok.has _ (.inr k)
  refine wpAny_comprehension_free (use := use) rfl hs cells ok.kind (fun y hy e => (ok.uniq y hy).trans (congrArg some e)) ?_
  refine thn (hi.run pins s σ H _ I h) fun xv s1 hx => thn hx ?_
  rintro itv s2 ⟨it, fp, tn, J, H2, rfl, I2, T, st2, f2, o0, hn0, q⟩
  refine wpAny_newObj_type (newEnv_comp ?_)
  -- the new dict stands at the heap's end
  have old : ∀ b ∈ fp, b < s2.heap.objs.size := fun b hb => (T.obj _ _ st2 b hb).elim fun o e => Heap.lt_size e.1
  have fresh : H2 s2.heap.objs.size = none := I2.hok.fresh (Nat.le_refl _)
  obtain ⟨W, ⟨m0, w0⟩, turn⟩ := q s2.heap.objs.size fresh
  obtain ⟨s3, e3⟩ : ∃ z : Shared, z = { s2 with heap := s2.heap.push { cls := .type "dict", data := .dict #[] } } := ⟨_, rfl⟩
  obtain ⟨D, eD⟩ : ∃ D : Addr, D = s2.heap.objs.size := ⟨_, rfl⟩
  have h3 : s3.heap = s2.heap.push { cls := .type "dict", data := .dict #[] } := by rw [e3]
  have I3 : Inv X pins σ (upd H2 s2.heap.objs.size o0) s3 := by
    rw [e3]
    exact I2.laid (t' := s2.toks) (fun b o e => Heap.get?_push_of_some _ e) (Nat.le_refl _) (newD_ok hn0 I2.big)
  have f3 : ∀ b ∈ fp, FpOk X pins (upd H2 s2.heap.objs.size o0) b ∧ b < s3.heap.objs.size := fun b hb => by
    refine ⟨⟨?_, (f2 b hb).2⟩, ?_⟩
    · rw [upd_ne (Nat.ne_of_lt (old b hb))]
      exact (f2 b hb).1
    · rw [h3, Heap.size_push]
      exact Nat.lt_succ_of_lt (old b hb)
  have st3 : tn 0 s3.heap := T.keep _ _ _ st2 fun b _ o e => by
    rw [h3]
    exact Heap.get?_push_of_some _ e
  rw [← eD] at I3 f3 w0 turn
  have goalIs : codeAny (model X.prog X.w) X.A
      (.compStart (.DictComp kx vx [⟨tg, iter, ifs, 0⟩] scope pos) 0 (.ref it) (.ref D) (compEnvC scope (cellsFrom (s3.heap.objs.size + 1) scope.names (cloFrom X.env.cells scope.names [])) s3.heap.objs.size X.env))
      (compPost (model X.prog X.w) X.A X.xe use Qf (.ref D) s3.heap.objs.size) { s3 with heap := pushCells (s3.heap.push { cls := .type "dict", data := .dict #[] }) scope.names } := ?_
  · rw [e3, eD] at goalIs
    exact goalIs
  clear e3 h3 eD fresh old
  obtain ⟨H3, eH3⟩ : ∃ z : Hp, z = upd H2 D o0 := ⟨_, rfl⟩
  rw [← eH3] at I3 f3 w0
  -- the block's context
  obtain ⟨ce, ece⟩ : ∃ ce : Env, ce = compEnvC scope (cellsFrom (s3.heap.objs.size + 1) scope.names (cloFrom X.env.cells scope.names [])) s3.heap.objs.size X.env := ⟨_, rfl⟩
  have loc : ce.locals = s3.heap.objs.size := by rw [ece]; rfl
  have I4 := block_start I3 ok hN f3
  obtain ⟨pg, pt, pk, pv⟩ := parts s3 H3 s3.heap.objs.size (cellsFrom (s3.heap.objs.size + 1) scope.names (cloFrom X.env.cells scope.names [])) fp
  rw [← ece] at I4 pg pt pk pv ⊢
  obtain ⟨s4, e4⟩ : ∃ z : Shared, z = { s3 with heap := pushCells (s3.heap.push { cls := .type "dict", data := .dict #[] }) scope.names } := ⟨_, rfl⟩
  have st4 : tn 0 s4.heap := T.keep _ _ _ st3 fun b _ o e => by
    rw [e4]
    exact pushCells_keeps _ _ _ _ (Heap.get?_push_of_some _ e)
  rw [← e4] at I4 ⊢
  clear e4
  have ownFp : ∀ {σ1 : L2.St} {H1 : Hp} {s1 : Shared}, Inv (X.blk s3 H3 scope ce fp) [] σ1 H1 s1 → (∀ b ∈ fp, H1 b = none) → ∀ b ∈ fp, FpOk (X.blk s3 H3 scope ce fp) [] H1 b := fun {σ1 H1 s1} I1 hn b hb =>
    ⟨hn b hb, (I1.ok.exf b hb).1, I1.ok.exfs b hb, .inl hb, (I1.ok.exf b hb).2, fun p hp => nomatch hp⟩
  -- the state ahead of a turn, by the measure
  obtain ⟨Sta, eSta⟩ : ∃ Sta : Nat → Shared → Prop, Sta = fun n s1 => ∃ i H1, Inv (X.blk s3 H3 scope ce fp) [] (wipe σ (own.map (·.2))) H1 s1 ∧ tn i s1.heap ∧ (∀ b ∈ fp, H1 b = none) ∧ W i n H1 := ⟨_, rfl⟩
  have loop : codeAny (model X.prog X.w) X.A (.compLoop (.DictComp kx vx [⟨tg, iter, ifs, 0⟩] scope pos) 0 (.ref it) (.ref D) ce) (compPost (model X.prog X.w) X.A X.xe use Qf (.ref D) s3.heap.objs.size) s4 := by
    refine compLoop_anyD Sta ?_ m0 (by rw [eSta]; exact ⟨0, H3, I4, st4, fun b hb => (f3 b hb).1.1, w0⟩)
    rw [eSta]
    rintro n s5 ⟨i, H5, I5, st5, n5, w5⟩
    rcases turn i n H5 w5 with ⟨stop, qq⟩ | ⟨go, Nx, hNx, step⟩
    · refine thnF (T.done (X.blk s3 H3 scope ce fp) rfl rfl rfl hc i [] s5 _ H5 (fun _ _ => False) I5 (ownFp I5 n5) st5 stop) ?_
      rintro r s6 ⟨rfl, I6⟩
      have I7 : Inv X pins σ H5 s6 := I3.call' (ch := fp) I6.os I6.base I6.hok I6.bare fun b hb =>
        let z := (f3 b hb).1
        ⟨z.2.2.2.1, z.2.1, z.2.2.2.2.1, z.2.2.2.2.2⟩
      obtain ⟨m, hn, _⟩ := I6.loc
      have hn : s6.heap.Ns ce.locals m := hn
      have nC : H5 ce.locals = none := I6.free
      rw [loc] at hn nC
      exact hRR D _ s6 m H5 I7 qq hn (I3.fpOk (Nat.le_refl _) nC)
    · refine thnF (T.item (X.blk s3 H3 scope ce fp) rfl rfl rfl hc i [] s5 _ H5 (fun _ _ => False) I5 (ownFp I5 n5) st5 go) ?_
      rintro r s6 ⟨u, rfl, h6⟩
      refine thnF h6 ?_
      rintro _ s7 ⟨x, H7, I7, r7, y7, st7, n7⟩
      -- what a turn reaches is a state again
      have fin : ∀ {σ8 : L2.St} {s1 : Shared} {H1 : Hp}, wipe σ8 (own.map (·.2)) = wipe σ (own.map (·.2)) → Inv (X.blk s3 H3 scope ce fp) ([] ++ pinsAt fp s7.heap) σ8 H1 s1 → Nx H1 → ∃ m, m < n ∧ Sta m s1 := fun {σ8 s1 H1} hw I1 nx => by
        obtain ⟨m1, hm, w1⟩ := hNx H1 nx
        have pinned : ∀ b ∈ fp, ∀ o, s7.heap.get? b = some o → s1.heap.get? b = some o ∧ H1 b = none := fun b hb o e =>
          let z := I1.pin (b, o) (List.mem_append_right _ (List.mem_append_right _ (mem_pinsAt hb e)))
          ⟨z.1, z.2.1⟩
        have len : (wipe σ (own.map (·.2))).length = σ8.length := by rw [← hw, wipe_length]
        rw [eSta]
        refine ⟨m1, hm, i + 1, H1, (I1.unpinned (pins := [])).weak len (fun j v e => ?_), T.keep _ _ _ st7 fun b hb o e => (pinned b hb o e).1, fun b hb => ?_, w1⟩
        · rw [← hw] at e
          exact (wipe_some e).1
        · exact (T.obj _ _ st7 b hb).elim fun o e => (pinned b hb o e.1).2
      rw [← eSta]
      refine thnF (pg.run _ s7 _ H7 x u _ (I7.pinned (ownFp I7 n7) (T.obj _ _ st7)) r7 (step x H7 y7)) ?_
      rintro _ s8 ⟨σ8, H8, I8, hw8, q8⟩
      refine thnF (pt.run _ s8 σ8 H8 _ I8 q8) ?_
      rintro b s9 ⟨H9, I9, q9⟩
      cases b with
      | false => exact fin hw8 I9 q9
      | true =>
        refine thnF (pk.run _ s9 σ8 H9 _ I9 q9) ?_
        rintro z s10 ⟨yk, H10, I10, r10, q10⟩
        refine thnF (pv.run _ s10 σ8 H10 _ I10 q10) ?_
        rintro z2 s11 ⟨yv, H11, I11, r11, H12, put, nx⟩
        exact d_put (X := X.blk s3 H3 scope ce fp) hu I11 put r10 r11 fun s12 I12 => fin hw8 I12 nx
  exact codeAny_compStart_dict loop (T.self X.A 0 _ _ _ st4 loop)
/-- a dict comprehension as a value -/
theorem pe_dcA {kx vx tg iter : Expr} {ifs : List Expr} {scope : Scope} {own : List (Str × Nat)} {pos : Pos} {wi : TI} {g : TG} {tt : TT} {tk tv : TE} (hu : X.A.units < cLine) (hc : X.calm = true) (hN : X.N.Nodup)
    (hi : PI X tg iter wi) (ok : BlkOk X.N X.env.scope scope own) (parts : DcParts X scope tg ifs kx vx g tt tk tv) (hs : ∀ x, foldedSetIterable iter X.env x = pure x := by intro _; rfl) :
    PE X (.DictComp kx vx [⟨tg, iter, ifs, 0⟩] scope pos) (tDcA wi g tt tk tv (own.map (·.2))) := by
  constructor
  intro pins s σ H Q I h
  rw [arm_eval_DictComp]
  refine dcA_core hu hc hN I hi ok parts hs h ?_
  rintro D C s1 m H1 I1 q hn ⟨f0, f1, f2, f3, f4, f5⟩
  exact ⟨m, hn, fun h2 sb => ⟨.ref D, H1, I1.turned (t' := s1.toks) (fun b o hb e => (sb.2 b hb).trans e) f0 f1 f3 f4 f5, rfl, q⟩⟩
theorem swD_true {kx vx : Expr} {gs : List Comprehension} {scope : Scope} {pos py : Pos} {y : Str} {l : Nat} {env : Env} (hk : env.scope.kind = .function) (hy : env.scope.names.lookup y = some .local)
    (hl : (py.line == pos.line) = true) (ha : (scope.names.any fun (n, k) => n == y && (k == .local || k == .cell)) = false) : swapsWith (.DictComp kx vx gs scope pos) (some (.Name y py)) l env = pure true := by
  show (pure (env.blockKind == .function && env.kindOf y == some .local && py.line == pos.line && !(scope.names.any fun (n, k) => n == y && (k == .local || k == .cell))) : Sem Bool) = pure true
  have e1 : (env.blockKind == ScopeKind.function) = true := by
    unfold Env.blockKind
    rw [hk]
    rfl
  have e2 : (env.kindOf y == some NameKind.local) = true := by
    show (env.scope.names.lookup y == some NameKind.local) = true
    rw [hy]; rfl
  rw [e1, e2, hl, ha]
  rfl
/-- name = {..} on one line -/
theorem ps_setDcA {i : Nat} {y : Str} {py : Pos} {kx vx tg iter : Expr} {ifs : List Expr} {scope : Scope} {own : List (Str × Nat)} {pos spos : Pos} {wi : TI} {g : TG} {tt : TT} {tk tv : TE} (hu : X.A.units < cLine) (hc : X.calm = true) (hN : X.N.Nodup)
    (hy : X.N[i]? = some y) (hyl : X.env.scope.names.lookup y = some .local) (hsw : swapsWith (.DictComp kx vx [⟨tg, iter, ifs, 0⟩] scope pos) (some (.Name y py)) spos.line X.env = pure true)
    (hi : PI X tg iter wi) (ok : BlkOk X.N X.env.scope scope own) (parts : DcParts X scope tg ifs kx vx g tt tk tv) (hs : ∀ x, foldedSetIterable iter X.env x = pure x := by intro _; rfl) :
    PS X (.Assign [.Name y py] (.DictComp kx vx [⟨tg, iter, ifs, 0⟩] scope pos) spos) (tAsg (tDcA wi g tt tk tv (own.map (·.2))) (gName i)) := by
  constructor
  intro pins s σ H D I h
  rw [exec_Assign_Name_used _ _ _ _ hsw]
  refine wpAny_bind (wpAny_standAt (wpAny_bind ?_))
  show wpAny _ X.A (do let _ ← comprehension (.DictComp kx vx [⟨tg, iter, ifs, 0⟩] scope pos) scope X.env (firstIterPos [⟨tg, iter, ifs, 0⟩] pos) newDict false (eval iter X.env) (some (assign (.Name y py) X.env))) _ _ s
  have h : tDcA wi g tt tk tv (own.map (·.2)) σ H (fun x H1 => gName i x σ H1 D.nx) := h
  refine wpAny_bind (thn (dcA_core (Qf := fun _ s' => SP X pins D .next s') hu hc hN I hi ok parts hs h ?_) fun _ s1 hq => wpAny_pure (wpAny_pure hq))
  rintro L C s1 m H1 I1 q hn ⟨f0, f1, f2, f3, f4, f5⟩
  refine wpAny_assign_Name (store_ok2 (v := V.ref L) I1 hN hy (.inl hyl) rfl ?_ (.inr hyl))
  rintro s2 I2 ⟨a, sb, ha⟩
  have haC : C ≠ a := ha.elim (fun z => z ▸ f1) fun z e => f4 y a z e.symm
  exact ⟨m, hn.sameBut sb haC, fun h3 sb3 => ⟨_, H1, I2.turned (t' := s2.toks) (fun b o hb e => (sb3.2 b hb).trans e) f0 f1 f3 f4 f5, q⟩⟩
/-- a dict comprehension's reading over a walk: Pv by the turn and the heap -/
theorem dc_it {J : It} {n : Nat} {G : Hp → Prop} {Y : Nat → Hp → V → Hp → Prop} (w : Walk J n G Y) {g : TG} {tt : TT} {tk tv : TE} {vs : List Nat} {σ : L2.St} {H0 : Hp} {D : Addr} {Qd : Hp → Prop} (Pv : Nat → Hp → Prop) (h0 : Pv 0 H0)
    (hG : ∀ i H, i ≤ n → Pv i H → G H) (hs : ∀ i x H H', i < n → Pv i H → Y i H x H' → DcTurn g tt tk tv vs σ D x H' (Pv (i + 1))) (hd : ∀ H, Pv n H → Qd H) :
    ∃ W : Nat → Nat → Hp → Prop, (∃ m, W 0 m H0) ∧ ∀ i m H, W i m H → (J.stop i H ∧ Qd H) ∨ (J.go i H ∧ ∃ Nx : Hp → Prop, (∀ H', Nx H' → ∃ m', m' < m ∧ W (i + 1) m' H') ∧
      ∀ x H', J.yld i H x H' → DcTurn g tt tk tv vs σ D x H' Nx) := by
  refine ⟨fun i m H => i + m = n ∧ Pv i H, ⟨n, Nat.zero_add n, h0⟩, ?_⟩
  rintro i m H ⟨e, hP⟩
  by_cases hi : i < n
  · refine .inr ⟨w.goes i H hi (hG i H (Nat.le_of_lt hi) hP), Pv (i + 1), fun H1 h1 => ⟨m - 1, by omega, by omega, h1⟩, fun x H1 hy => hs i x H H1 hi hP (w.yields i H x H1 hi (hG i H (Nat.le_of_lt hi) hP) hy)⟩
  · have ei : i = n := by omega
    subst ei
    exact .inl ⟨w.stops H (hG i H (Nat.le_refl _) hP), hd H hP⟩
end
end Bw

/-! zip walked to ONE name: the tuple that was given out may still be there at the next turn, or not; both ways a new one comes. -/
namespace Bw
open PySem PySem.Spec PyProof.Rows L2

/-- a zip object whose first two fields (the tuple it knows of, a mark) are anything -/
abbrev ZipS (h : Heap) (z TI TO : Addr) (v f : Value) : Prop :=
  h.get? z = some { cls := .type "zip", dict := none, data := .fields #[v, f, .bool false, .ref TI, .ref TO], slots := #[] }
/-- what the first field may be: nothing, or a tuple's address -/
def Owns (v : Value) : Prop := v = .none ∨ ∃ T : Addr, v = rawInt T

section
variable {prog : Program} {w : World} {A : Around} {E : Value → Shared → Prop} {s : Shared} {z TI TO i1 i2 : Addr} {fp1 fp2 : List Addr} {n1 n2 i : Nat} {P1 P2 : Nat → Value → Prop} {St1 St2 : Nat → Heap → Prop}
theorem own_free {v f : Value} {Q : Bool → Shared → Prop} (hz : ZipS s.heap z TI TO v f) (ho : Owns v) (h1 : Q true s)
    (h2 : ∀ h1 f1, ZipS h1 z TI TO v f1 → Heap.SameBut z s.heap h1 → Q false { s with heap := h1 }) : wpAny (model prog w) A (Builtin.SmallTypes.ownedTupleIsFree (.ref z)) Q E s := by
  unfold Builtin.SmallTypes.ownedTupleIsFree
  refine wpAny_bind (wpAny_field hz rfl (x := v) rfl ?_)
  rcases ho with rfl | ⟨T, rfl⟩
  · exact wpAny_pure h1
  · show wpAny _ _ (loadIfAlive ((T : Int).toNat) >>= _) _ _ _
    rw [Int.toNat_natCast]
    have alive : wpAny (model prog w) A (loadIfAlive T) (fun o s1 => o = s.heap.get? T ∧ s1 = s) E s := fun _ _ _ => ⟨rfl, rfl⟩
    refine wpAny_bind (wpAny_mono alive ?_ fun _ _ e => e)
    rintro o s1 ⟨rfl, rfl⟩
    cases hT : s1.heap.get? T with
    | none =>
      simp only [Option.isNone_none, if_true]
      exact wpAny_pure h1
    | some oT =>
      simp only [Option.isNone_some, Bool.false_eq_true, if_false]
      refine wpAny_bind (wpAny_field hz rfl (x := f) rfl ?_)
      refine wpAny_ite_split (fun _ => ?_) (fun _ => wpAny_pure (h2 _ f hz (Heap.SameBut.refl _ _)))
      exact wpAny_bind (wpAny_setField_rec hz (by simp) fun h1 hz1 sb => wpAny_pure (h2 h1 _ hz1 sb))

/-- one turn -/
theorem zipS_item {v f a1 a2 : Value} {Q : Value → Shared → Prop} (S : ZipSep2 z TI TO i1 i2 fp1 fp2) (D1 : Draws prog w A i1 fp1 n1 P1 St1) (D2 : Draws prog w A i2 fp2 n2 P2 St2)
    (hz : ZipS s.heap z TI TO v f) (ho : Owns v) (hTI : IsTupOf2 s.heap TI (.ref i1) (.ref i2)) (hTO : IsTupOf2 s.heap TO a1 a2) (st1 : St1 i s.heap) (st2 : St2 i s.heap) (hlt1 : i < n1) (hlt2 : i < n2)
    (hQ : ∀ x1 x2 h1 tk v1 f1, P1 i x1 → P2 i x2 → ZipS h1 z TI TO v1 f1 → Owns v1 → (∃ b1 b2, IsTupOf2 h1 TO b1 b2) → St1 (i + 1) h1 → St2 (i + 1) h1 → IsTupOf2 h1 s.heap.objs.size x1 x2 →
      (∀ c o, c ≠ z → c ≠ TO → c ≠ i1 → c ≠ i2 → s.heap.get? c = some o → h1.get? c = some o) → Q (.ref s.heap.objs.size) { s with heap := h1, toks := tk }) :
    wpAny (model prog w) A (Builtin.«zip.__next__» ⟨[.ref z], []⟩) (fun fin s1 => ∃ u, fin = .done (.ret u) ∧ Q u s1) E s := by
  obtain ⟨hp, g, d, tk0, os⟩ := s
  show wpAny _ _ (field (.ref z) 2 >>= _) _ _ _
  refine wpAny_bind (wpAny_field hz rfl (x := .bool false) rfl ?_)
  show wpAny _ _ (field (.ref z) 3 >>= _) _ _ _
  refine wpAny_bind (wpAny_field hz rfl (x := .ref TI) rfl ?_)
  refine wpAny_bind (wpAny_seqItems hTI rfl ?_)
  show wpAny _ _ (Builtin.SmallTypes.ownedTupleIsFree (.ref z) >>= _) _ _ _
  refine wpAny_bind (own_free hz ho ?_ ?_)
  · -- its own tuple is taken again: filled, then copied
    simp only [if_true]
    refine wpAny_bind (wpAny_rule ?_)
    refine wpAny_bind (wpAny_field hz rfl (x := .ref TO) rfl ?_)
    refine wpAny_bind (wpAny_setField_rec hz (by simp) fun g0 hz0 hs0 => ?_)
    replace hz0 : ZipS g0 z TI TO .ellipsis f := hz0
    replace hs0 : Heap.SameBut z hp g0 := hs0
    refine wpAny_bind ?_
    simp only [List.zipIdx_cons, List.zipIdx_nil, List.forIn_cons, List.forIn_nil]
    refine wpAny_bind (wpAny_bind (wpAny_onRaise ?_))
    show wpAny _ _ (Builtin.SmallTypes.nextOf (.ref i1) >>= _) _ _ ⟨g0, g, d, tk0, os⟩
    refine wpAny_bind (D1.item i _ _ _ hlt1 (D1.over st1 hs0 S.zf1) fun x1 p1 tk1 hx1 sn1 hp1 => wpAny_pure ?_)
    replace hp1 : Heap.SameBut i1 g0 p1 := hp1
    have o1 : IsTupOf2 p1 TO a1 a2 := hp1.extBut _ _ S.Ti1 (hs0.extBut _ _ S.TOz hTO)
    refine wpAny_bind (wpAny_seqItems (s := ⟨p1, g, d, tk1, os⟩) o1 rfl ?_)
    refine wpAny_bind (updateSeq_IsTupOf2 (s := ⟨p1, g, d, tk1, os⟩) o1 fun g1 hT1 hs1 => ?_)
    replace hT1 : IsTupOf2 g1 TO x1 a2 := hT1
    replace hs1 : Heap.SameBut TO p1 g1 := hs1
    refine wpAny_bind (wpAny_letGo (wpAny_pure ?_))
    refine wpAny_bind (wpAny_bind (wpAny_onRaise ?_))
    show wpAny _ _ (Builtin.SmallTypes.nextOf (.ref i2) >>= _) _ _ ⟨g1, g, d, tk1, os⟩
    refine wpAny_bind (D2.item i _ _ _ hlt2 (D2.over (D2.over (D2.over st2 hs0 S.zf2) hp1 S.sep1_2) hs1 S.Tf2) fun x2 p2 tk2 hx2 sn2 hp2 => wpAny_pure ?_)
    replace hp2 : Heap.SameBut i2 g1 p2 := hp2
    have o2 : IsTupOf2 p2 TO x1 a2 := hp2.extBut _ _ S.Ti2 hT1
    refine wpAny_bind (wpAny_seqItems (s := ⟨p2, g, d, tk2, os⟩) o2 rfl ?_)
    refine wpAny_bind (updateSeq_IsTupOf2 (s := ⟨p2, g, d, tk2, os⟩) o2 fun g2 hT2 hs2 => ?_)
    replace hT2 : IsTupOf2 g2 TO x1 x2 := hT2
    replace hs2 : Heap.SameBut TO p2 g2 := hs2
    refine wpAny_bind (wpAny_letGo (wpAny_pure (wpAny_pure ?_)))
    refine wpAny_bind (wpAny_seqItems (s := ⟨g2, g, d, tk2, os⟩) hT2 rfl ?_)
    refine wpAny_bind (wpAny_newTuple ?_)
    have sz : g2.objs.size = hp.objs.size := by rw [hs2.1, hp2.1, hs1.1, hp1.1, hs0.1]
    have z2 : ZipS g2 z TI TO .ellipsis f := hs2.extBut _ _ S.TOz.symm (hp2.extBut _ _ S.zi2 (hs1.extBut _ _ S.TOz.symm (hp1.extBut _ _ S.zi1 hz0)))
    have kp : ∀ c o, c ≠ z → c ≠ TO → c ≠ i1 → c ≠ i2 → hp.get? c = some o → g2.get? c = some o := fun c o cz cT c1 c2 e =>
      hs2.extBut _ _ cT (hp2.extBut _ _ c2 (hs1.extBut _ _ cT (hp1.extBut _ _ c1 (hs0.extBut _ _ cz e))))
    have j1 : St1 (i + 1) g2 := D1.over (D1.over (D1.over sn1 hs1 S.Tf1) hp2 S.sep2_1) hs2 S.Tf1
    have j2 : St2 (i + 1) g2 := D2.over sn2 hs2 S.Tf2
    have zlt : z < g2.objs.size := Heap.lt_size z2
    show wpAny _ _ (Builtin.SmallTypes.ownedTupleHandOut (.ref z) (.ref g2.objs.size) >>= _) _ _ ⟨g2.push { cls := .type "tuple", data := .seq #[x1, x2] }, g, d, tk2, os⟩
    refine wpAny_bind ?_
    unfold Builtin.SmallTypes.ownedTupleHandOut
    have z6 : ZipS (g2.push { cls := .type "tuple", data := .seq #[x1, x2] }) z TI TO .ellipsis f := Heap.get?_push_of_some _ z2
    refine wpAny_bind (wpAny_setField_rec z6 (by simp) fun h7 z7 s7 => ?_)
    replace z7 : ZipS h7 z TI TO (rawInt g2.objs.size) f := z7
    replace s7 : Heap.SameBut z (g2.push { cls := .type "tuple", data := .seq #[x1, x2] }) h7 := s7
    refine wpAny_setField_rec z7 (by simp) fun h8 z8 s8 => ?_
    replace z8 : ZipS h8 z TI TO (rawInt g2.objs.size) (.bool false) := z8
    replace s8 : Heap.SameBut z h7 h8 := s8
    have up : ∀ c o, c ≠ z → g2.get? c = some o → h8.get? c = some o := fun c o c1 e => s8.extBut _ _ c1 (s7.extBut _ _ c1 (Heap.get?_push_of_some _ e))
    have t8 : IsTupOf2 h8 g2.objs.size x1 x2 := s8.extBut _ _ (Nat.ne_of_gt zlt) (s7.extBut _ _ (Nat.ne_of_gt zlt) (Heap.get?_push_size _ rfl))
    refine wpAny_pure ⟨_, rfl, ?_⟩
    show Q (.ref g2.objs.size) ⟨h8, g, d, tk2, os⟩
    rw [sz] at t8 z8 ⊢
    exact hQ x1 x2 h8 tk2 _ _ hx1 hx2 z8 (.inr ⟨_, rfl⟩) ⟨_, _, up _ _ S.TOz hT2⟩ (D1.frame _ _ _ j1 fun b hb o e => up b o (fun q => S.zf1 (q ▸ hb)) e) (D2.frame _ _ _ j2 fun b hb o e => up b o (fun q => S.zf2 (q ▸ hb)) e) t8
      fun c o cz cT c1 c2 e => up c o cz (kp c o cz cT c1 c2 e)
  · -- the tuple given out before is still there
    intro g0 f0 hz0 hs0
    replace hs0 : Heap.SameBut z hp g0 := hs0
    simp only [Bool.false_eq_true, if_false]
    refine wpAny_bind ?_
    rw [← Array.forIn_toList]
    simp only [List.forIn_cons, List.forIn_nil]
    refine wpAny_bind (wpAny_bind (wpAny_holding ?_))
    show wpAny _ _ (Builtin.SmallTypes.nextOf (.ref i1) >>= _) _ _ ⟨g0, g, d, tk0, os⟩
    refine wpAny_bind (D1.item i _ _ _ hlt1 (D1.over st1 hs0 S.zf1) fun x1 p1 tk1 hx1 sn1 hp1 => wpAny_pure ?_)
    replace hp1 : Heap.SameBut i1 g0 p1 := hp1
    refine wpAny_pure ?_
    refine wpAny_bind (wpAny_bind (wpAny_holding ?_))
    show wpAny _ _ (Builtin.SmallTypes.nextOf (.ref i2) >>= _) _ _ ⟨p1, g, d, tk1, os⟩
    refine wpAny_bind (D2.item i _ _ _ hlt2 (D2.over (D2.over st2 hs0 S.zf2) hp1 S.sep1_2) fun x2 p2 tk2 hx2 sn2 hp2 => wpAny_pure ?_)
    replace hp2 : Heap.SameBut i2 p1 p2 := hp2
    refine wpAny_pure (wpAny_pure ?_)
    show wpAny _ _ (newTuple [x1, x2] >>= _) _ _ ⟨p2, g, d, tk2, os⟩
    refine wpAny_bind (wpAny_newTuple ?_)
    have sz : p2.objs.size = hp.objs.size := by rw [hp2.1, hp1.1, hs0.1]
    have z2 : ZipS p2 z TI TO v f0 := hp2.extBut _ _ S.zi2 (hp1.extBut _ _ S.zi1 hz0)
    have kp : ∀ c o, c ≠ z → c ≠ i1 → c ≠ i2 → hp.get? c = some o → p2.get? c = some o := fun c o cz c1 c2 e => hp2.extBut _ _ c2 (hp1.extBut _ _ c1 (hs0.extBut _ _ cz e))
    have t8 : IsTupOf2 (p2.push { cls := .type "tuple", data := .seq #[x1, x2] }) p2.objs.size x1 x2 := Heap.get?_push_size _ rfl
    have up : ∀ c o, p2.get? c = some o → (p2.push { cls := .type "tuple", data := .seq #[x1, x2] }).get? c = some o := fun c o e => Heap.get?_push_of_some _ e
    refine wpAny_pure ⟨_, rfl, ?_⟩
    show Q (.ref p2.objs.size) ⟨p2.push { cls := .type "tuple", data := .seq #[x1, x2] }, g, d, tk2, os⟩
    rw [sz] at t8 ⊢
    exact hQ x1 x2 _ tk2 v f0 hx1 hx2 (up _ _ z2) ho ⟨_, _, up _ _ (kp _ _ S.TOz S.Ti1 S.Ti2 hTO)⟩ (D1.frame _ _ _ (D1.over sn1 hp2 S.sep2_1) fun b hb o e => up b o e) (D2.frame _ _ _ sn2 fun b hb o e => up b o e) t8
      fun c o cz _ c1 c2 e => up c o (kp c o cz c1 c2 e)

/-- the end -/
theorem zipS_end {v f a1 a2 : Value} {Q : Fin → Shared → Prop} (S : ZipSep2 z TI TO i1 i2 fp1 fp2) (D1 : Draws prog w A i1 fp1 n1 P1 St1) (D2 : Draws prog w A i2 fp2 n2 P2 St2)
    (hz : ZipS s.heap z TI TO v f) (ho : Owns v) (hTI : IsTupOf2 s.heap TI (.ref i1) (.ref i2)) (hTO : IsTupOf2 s.heap TO a1 a2) (st1 : St1 i s.heap) (st2 : St2 i s.heap) (hle1 : i ≤ n1) (hle2 : i ≤ n2) (hend : i = n1 ∨ i = n2)
    (hE : ∀ h1 tk e, (∀ c o, c ≠ z → c ≠ TO → c ≠ i1 → c ≠ i2 → s.heap.get? c = some o → h1.get? c = some o) → (∃ o, h1.get? e = some o ∧ o.cls = .type "StopIteration") → E (.ref e) { s with heap := h1, toks := tk }) :
    wpAny (model prog w) A (Builtin.«zip.__next__» ⟨[.ref z], []⟩) Q E s := by
  obtain ⟨hp, g, d, tk0, os⟩ := s
  show wpAny _ _ (field (.ref z) 2 >>= _) _ _ _
  refine wpAny_bind (wpAny_field hz rfl (x := .bool false) rfl ?_)
  show wpAny _ _ (field (.ref z) 3 >>= _) _ _ _
  refine wpAny_bind (wpAny_field hz rfl (x := .ref TI) rfl ?_)
  refine wpAny_bind (wpAny_seqItems hTI rfl ?_)
  show wpAny _ _ (Builtin.SmallTypes.ownedTupleIsFree (.ref z) >>= _) _ _ _
  refine wpAny_bind (own_free hz ho ?_ ?_)
  · simp only [if_true]
    refine wpAny_bind (wpAny_rule ?_)
    refine wpAny_bind (wpAny_field hz rfl (x := .ref TO) rfl ?_)
    refine wpAny_bind (wpAny_setField_rec hz (by simp) fun g0 hz0 hs0 => ?_)
    replace hz0 : ZipS g0 z TI TO .ellipsis f := hz0
    replace hs0 : Heap.SameBut z hp g0 := hs0
    refine wpAny_bind ?_
    simp only [List.zipIdx_cons, List.zipIdx_nil, List.forIn_cons, List.forIn_nil]
    refine wpAny_bind (wpAny_bind (wpAny_onRaise ?_))
    show wpAny _ _ (Builtin.SmallTypes.nextOf (.ref i1) >>= _) _ _ ⟨g0, g, d, tk0, os⟩
    -- the mark is taken back, then the error goes on
    have back : ∀ (q : Heap) (tk : Nat) (e : Addr), ZipS q z TI TO .ellipsis f → (∀ c o, c ≠ z → c ≠ TO → c ≠ i1 → c ≠ i2 → hp.get? c = some o → q.get? c = some o) → (∃ o, q.get? e = some o ∧ o.cls = .type "StopIteration") →
        wpAny (model prog w) A (setField (.ref z) 0 .none) (fun _ s1 => E (.ref e) s1) E ⟨q, g, d, tk, os⟩ := by
      rintro q tk e hzq kq ⟨oe, hoe, hce⟩
      have ez : e ≠ z := fun x => by
        rw [x, hzq] at hoe
        cases hoe
        simp at hce
      refine wpAny_setField_rec (s := ⟨q, g, d, tk, os⟩) hzq (by simp) fun q1 _ hq1 => ?_
      replace hq1 : Heap.SameBut z q q1 := hq1
      exact hE q1 tk e (fun c o cz cT c1 c2 x => hq1.extBut _ _ cz (kq c o cz cT c1 c2 x)) ⟨oe, hq1.extBut _ _ ez hoe, hce⟩
    by_cases hlt1 : i < n1
    · refine wpAny_bind (D1.item i _ _ _ hlt1 (D1.over st1 hs0 S.zf1) fun x1 p1 tk1 hx1 sn1 hp1 => wpAny_pure ?_)
      replace hp1 : Heap.SameBut i1 g0 p1 := hp1
      have o1 : IsTupOf2 p1 TO a1 a2 := hp1.extBut _ _ S.Ti1 (hs0.extBut _ _ S.TOz hTO)
      refine wpAny_bind (wpAny_seqItems (s := ⟨p1, g, d, tk1, os⟩) o1 rfl ?_)
      refine wpAny_bind (updateSeq_IsTupOf2 (s := ⟨p1, g, d, tk1, os⟩) o1 fun g1 hT1 hs1 => ?_)
      replace hs1 : Heap.SameBut TO p1 g1 := hs1
      refine wpAny_bind (wpAny_letGo (wpAny_pure ?_))
      have hi2 : i = n2 := by omega
      refine wpAny_bind (wpAny_bind (wpAny_onRaise ?_))
      show wpAny _ _ (Builtin.SmallTypes.nextOf (.ref i2) >>= _) _ _ ⟨g1, g, d, tk1, os⟩
      refine wpAny_bind (D2.done ⟨g1, g, d, tk1, os⟩ _ _ (by rw [← hi2]; exact D2.over (D2.over (D2.over st2 hs0 S.zf2) hp1 S.sep1_2) hs1 S.Tf2) fun q e hq he => ?_)
      replace hq : Heap.ExtBut i2 g1 q := hq
      exact back q tk1 e (hq _ _ S.zi2 (hs1.extBut _ _ S.TOz.symm (hp1.extBut _ _ S.zi1 hz0))) (fun c o cz cT c1 c2 x => hq _ _ c2 (hs1.extBut _ _ cT (hp1.extBut _ _ c1 (hs0.extBut _ _ cz x)))) he
    · have hi1 : i = n1 := by omega
      refine wpAny_bind (D1.done ⟨g0, g, d, tk0, os⟩ _ _ (by rw [← hi1]; exact D1.over st1 hs0 S.zf1) fun q e hq he => ?_)
      replace hq : Heap.ExtBut i1 g0 q := hq
      exact back q tk0 e (hq _ _ S.zi1 hz0) (fun c o cz cT c1 c2 x => hq _ _ c1 (hs0.extBut _ _ cz x)) he
  · intro g0 f0 hz0 hs0
    replace hs0 : Heap.SameBut z hp g0 := hs0
    simp only [Bool.false_eq_true, if_false]
    refine wpAny_bind ?_
    rw [← Array.forIn_toList]
    simp only [List.forIn_cons, List.forIn_nil]
    refine wpAny_bind (wpAny_bind (wpAny_holding ?_))
    show wpAny _ _ (Builtin.SmallTypes.nextOf (.ref i1) >>= _) _ _ ⟨g0, g, d, tk0, os⟩
    by_cases hlt1 : i < n1
    · refine wpAny_bind (D1.item i _ _ _ hlt1 (D1.over st1 hs0 S.zf1) fun x1 p1 tk1 hx1 sn1 hp1 => wpAny_pure ?_)
      replace hp1 : Heap.SameBut i1 g0 p1 := hp1
      have hi2 : i = n2 := by omega
      refine wpAny_pure ?_
      refine wpAny_bind (wpAny_bind (wpAny_holding ?_))
      show wpAny _ _ (Builtin.SmallTypes.nextOf (.ref i2) >>= _) _ _ ⟨p1, g, d, tk1, os⟩
      refine wpAny_bind (D2.done ⟨p1, g, d, tk1, os⟩ _ _ (by rw [← hi2]; exact D2.over (D2.over st2 hs0 S.zf2) hp1 S.sep1_2) fun q e hq he => ?_)
      replace hq : Heap.ExtBut i2 p1 q := hq
      exact hE q tk1 e (fun c o cz _ c1 c2 x => hq _ _ c2 (hp1.extBut _ _ c1 (hs0.extBut _ _ cz x))) he
    · have hi1 : i = n1 := by omega
      refine wpAny_bind (D1.done ⟨g0, g, d, tk0, os⟩ _ _ (by rw [← hi1]; exact D1.over st1 hs0 S.zf1) fun q e hq he => ?_)
      replace hq : Heap.ExtBut i1 g0 q := hq
      exact hE q tk0 e (fun c o cz _ c1 c2 x => hq _ _ c1 (hs0.extBut _ _ cz x)) he
theorem next_zipS {v f a1 a2 : Value} {Q : Option Value → Shared → Prop} (S : ZipSep2 z TI TO i1 i2 fp1 fp2) (D1 : Draws prog w A.in1 i1 fp1 n1 P1 St1) (D2 : Draws prog w A.in1 i2 fp2 n2 P2 St2)
    (hz : ZipS s.heap z TI TO v f) (ho : Owns v) (hTI : IsTupOf2 s.heap TI (.ref i1) (.ref i2)) (hTO : IsTupOf2 s.heap TO a1 a2) (st1 : St1 i s.heap) (st2 : St2 i s.heap) (hlt1 : i < n1) (hlt2 : i < n2)
    (hQ : ∀ x1 x2 h1 tk v1 f1, P1 i x1 → P2 i x2 → ZipS h1 z TI TO v1 f1 → Owns v1 → (∃ b1 b2, IsTupOf2 h1 TO b1 b2) → St1 (i + 1) h1 → St2 (i + 1) h1 → IsTupOf2 h1 s.heap.objs.size x1 x2 →
      (∀ c o, c ≠ z → c ≠ TO → c ≠ i1 → c ≠ i2 → s.heap.get? c = some o → h1.get? c = some o) → Q (some (.ref s.heap.objs.size)) { s with heap := h1, toks := tk }) : wpAny (model prog w) A (pyNext (.ref z)) Q E s := by
  have hT : s.TypeIs (.ref z) "zip" := ⟨_, hz, rfl⟩
  unfold pyNext
  refine wpAny_bind (wpAny_attempt (wpAny_callSpecial?_slot (name := Str.ofString "__next__") hT F.slot_zip_next (wpAny_call_entry F.slot_zip_next hT F.entry_zip_next ?_ (F.args_zip_next_1 _))))
  exact zipS_item S D1 D2 hz ho hTI hTO st1 st2 hlt1 hlt2 fun x1 x2 h1 tk v1 f1 b1 b2 b3 b4 b5 b6 b7 b8 b9 => wpAny_pure (hQ x1 x2 h1 tk v1 f1 b1 b2 b3 b4 b5 b6 b7 b8 b9)
theorem stop_zipS {v f a1 a2 : Value} {Q : Option Value → Shared → Prop} (S : ZipSep2 z TI TO i1 i2 fp1 fp2) (D1 : Draws prog w A.in1 i1 fp1 n1 P1 St1) (D2 : Draws prog w A.in1 i2 fp2 n2 P2 St2)
    (hz : ZipS s.heap z TI TO v f) (ho : Owns v) (hTI : IsTupOf2 s.heap TI (.ref i1) (.ref i2)) (hTO : IsTupOf2 s.heap TO a1 a2) (st1 : St1 i s.heap) (st2 : St2 i s.heap) (hle1 : i ≤ n1) (hle2 : i ≤ n2) (hend : i = n1 ∨ i = n2)
    (hQ : ∀ h1 tk, (∀ c o, c ≠ z → c ≠ TO → c ≠ i1 → c ≠ i2 → s.heap.get? c = some o → h1.get? c = some o) → Q none { s with heap := h1, toks := tk }) : wpAny (model prog w) A (pyNext (.ref z)) Q E s := by
  have hT : s.TypeIs (.ref z) "zip" := ⟨_, hz, rfl⟩
  unfold pyNext
  refine wpAny_bind (wpAny_attempt (wpAny_callSpecial?_slot (name := Str.ofString "__next__") hT F.slot_zip_next (wpAny_call_entry F.slot_zip_next hT F.entry_zip_next ?_ (F.args_zip_next_1 _))))
  refine zipS_end S D1 D2 hz ho hTI hTO st1 st2 hle1 hle2 hend ?_
  rintro h1 tk e kp ⟨o, hoe, hc⟩
  exact wpAny_bind (wpAny_isInstance (T := "StopIteration") (b := true) ⟨o, hoe, hc⟩ isSubtype_stop (wpAny_pure (hQ h1 tk kp)))
theorem iter_zipS {v f : Value} {Q : Value → Shared → Prop} (hz : ZipS s.heap z TI TO v f) (h : Q (.ref z) s) : wpAny (model prog w) A (pyIter (.ref z)) Q E s := by
  have hT : s.TypeIs (.ref z) "zip" := ⟨_, hz, rfl⟩
  refine wpAny_pyIter_slot hT F.slot_zip_iter (wpAny_call_entry F.slot_zip_iter hT F.entry_zip_iter ?_ (F.args_zip_iter_1 _))
  show wpAny _ _ (ret (.ref z)) _ _ s
  exact wpAny_pure ⟨_, rfl, "zip", _, hT, F.slot_zip_next.lookup, h⟩
end
end Bw

/-! zip to one name, over two lists or two tuples; enumerate of a tuple. -/
namespace Bw
open PySem PySem.Spec PyProof.Rows L2

/-- a list (l) or a tuple, by the abstract heap; by the heap; its iterator -/
def SqB (l : Bool) (K : PySem.W.Frag) (H : Hp) (a : Addr) (xs : List V) : Prop := if l = true then SqL K H a xs else SqT K H a xs
def ObB (l : Bool) (h : Heap) (a : Addr) (its : Array Value) : Prop := if l = true then h.IsList a its else h.IsTuple a its
def ItB (l : Bool) (h : Heap) (it a : Addr) (i : Nat) : Prop := if l = true then h.IsListIter it a i else h.IsTupleIter it a i
theorem SqB.ob {l : Bool} {X : Cx} {pins : List (Addr × Obj)} {σ : L2.St} {H : Hp} {s : Shared} {a : Addr} {xs : List V} (I : Inv X pins σ H s) (h : SqB l X.K H a xs) :
    ∃ its : List Value, Vals xs its ∧ ObB l s.heap a its.toArray ∧ ∃ o vs n, s.heap.get? a = some o ∧ o.data = .seq vs n := by
  cases l with
  | true =>
    obtain ⟨its, rv, p, _⟩ := I.list h
    obtain ⟨o, n, ho, _, _, hd⟩ := id p
    exact ⟨its, rv, p.isList, o, _, n, ho, hd⟩
  | false =>
    obtain ⟨its, rv, p, _⟩ := I.tuple h
    obtain ⟨o, ho, hc, n, hd⟩ := id p
    exact ⟨its, rv, p, o, _, n, ho, hd⟩
theorem SqB.inj {l : Bool} {X : Cx} {pins : List (Addr × Obj)} {σ : L2.St} {H : Hp} {s : Shared} {a : Addr} {xs ys : List V} (I : Inv X pins σ H s) (h : SqB l X.K H a xs) (h' : SqB l X.K H a ys) : xs = ys := by
  cases l with
  | true => exact I.list_inj h h'
  | false => exact I.tuple_inj h h'
theorem ItB.obj {l : Bool} {h : Heap} {it a : Addr} {i : Nat} (x : ItB l h it a i) : ∃ o vs, h.get? it = some o ∧ o.data = .fields vs := by
  cases l with
  | true => obtain ⟨o, ho, _, hd⟩ := (show h.IsListIter it a i from x); exact ⟨o, _, ho, hd⟩
  | false => obtain ⟨o, ho, _, hd⟩ := (show h.IsTupleIter it a i from x); exact ⟨o, _, ho, hd⟩
theorem ItB.at {l : Bool} {h h' : Heap} {it a : Addr} {i : Nat} (x : ItB l h it a i) (e : ∀ o, h.get? it = some o → h'.get? it = some o) : ItB l h' it a i := by
  cases l with
  | true => exact (show h.IsListIter it a i from x).at e
  | false => obtain ⟨o, ho, r⟩ := (show h.IsTupleIter it a i from x); exact ⟨o, e o ho, r⟩
theorem drawsB (l : Bool) {prog : Program} {w : World} {A : Around} (hh : A.handled = none) (it a : Addr) (hne : a ≠ it) (its : Array Value) :
    Draws prog w A it [it, a] its.size (fun i v => its[i]? = some v) (fun i h => ItB l h it a i ∧ ObB l h a its) := by
  cases l with
  | true => exact Draws.list hh it a hne its
  | false => exact Draws.tuple hh it a hne its
theorem ObB.lt {l : Bool} {h : Heap} {a : Addr} {its : Array Value} (x : ObB l h a its) : a < h.objs.size := by
  cases l with
  | true => obtain ⟨o, ho, _⟩ := (show h.IsList a its from x); exact Heap.lt_size ho
  | false => obtain ⟨o, ho, _⟩ := (show h.IsTuple a its from x); exact Heap.lt_size ho
/-- how its iterator begins -/
def beginsB (l : Bool) (a : Addr) : Obj := if l = true then { cls := .type "list_iterator", data := .fields #[.ref a, .int 0 0] } else { cls := .type "tuple_iterator", data := .fields #[.ref a, .int 0 0] }
theorem begins_B (l : Bool) (a : Addr) (its : Array Value) : Begins (.ref a) (beginsB l a) fun h => ObB l h a its := by
  cases l with
  | true => exact begins_list a its
  | false => exact begins_tuple a its
theorem begun_B (l : Bool) {h : Heap} {it a : Addr} (e : h.get? it = some (beginsB l a)) : ItB l h it a 0 := by
  cases l with
  | true => exact ⟨_, e, rfl, rfl⟩
  | false => exact ⟨_, e, rfl, rfl⟩

/-- the pairs of two sequences, each a new tuple, by a name -/
def ItZip (l : Bool) (K : PySem.W.Frag) (a b : Addr) : It :=
  ⟨fun i H => ∃ (xs ys : List V) (x y : V), SqB l K H a xs ∧ SqB l K H b ys ∧ xs[i]? = some x ∧ ys[i]? = some y,
   fun i H v H' => ∃ T x y, v = .ref T ∧ H T = none ∧ H' = upd H T (.tup [x, y]) ∧ (∀ xs, SqB l K H a xs → xs[i]? = some x) ∧ ∀ ys, SqB l K H b ys → ys[i]? = some y,
   fun i H => ∃ xs ys : List V, SqB l K H a xs ∧ SqB l K H b ys ∧ i ≤ xs.length ∧ i ≤ ys.length ∧ (i = xs.length ∨ i = ys.length)⟩
def zipSt (l : Bool) (z TI TO i1 i2 a b : Addr) (i : Nat) (h : Heap) : Prop :=
  (∃ v f, ZipS h z TI TO v f ∧ Owns v) ∧ IsTupOf2 h TI (.ref i1) (.ref i2) ∧ (∃ x y, IsTupOf2 h TO x y) ∧ ItB l h i1 a i ∧ ItB l h i2 b i
theorem turn_zipName {P : Program} {w : World} {K : PySem.W.Frag} {nm : Str} {np : Pos} {l : Bool} {a b z TI TO i1 i2 : Addr} (S : ZipSep2 z TI TO i1 i2 [i1, a] [i2, b]) (ha : a ≠ i1) (hb : b ≠ i2) :
    Turn P w K (.Name nm np) (ItZip l K a b) [z, TI, TO, i1, i2] z (zipSt l z TI TO i1 i2 a b) where
  mem := List.mem_cons_self
  obj := by
    rintro i h ⟨⟨v, f, hz, _⟩, hTI, ⟨x, y, hTO⟩, h1, h2⟩ c hc
    simp only [List.mem_cons, List.mem_nil_iff, or_false] at hc
    rcases hc with rfl | rfl | rfl | rfl | rfl
    · exact ⟨_, hz, fun v q => nomatch q⟩
    · exact ⟨_, hTI, fun v q => nomatch q⟩
    · exact ⟨_, hTO, fun v q => nomatch q⟩
    · obtain ⟨o, vs, ho, hd⟩ := h1.obj
      exact ⟨o, ho, fun v q => by rw [hd] at q; cases q⟩
    · obtain ⟨o, vs, ho, hd⟩ := h2.obj
      exact ⟨o, ho, fun v q => by rw [hd] at q; cases q⟩
  keep := by
    rintro i h h' ⟨⟨v, f, hz, ho⟩, hTI, ⟨x, y, hTO⟩, h1, h2⟩ k
    exact ⟨⟨v, f, k z (by simp) _ hz, ho⟩, k TI (by simp) _ hTI, ⟨x, y, k TO (by simp) _ hTO⟩, h1.at (k i1 (by simp)), h2.at (k i2 (by simp))⟩
  item := by
    rintro X rfl rfl rfl hc i pins s σ H E I hf ⟨⟨v, f, hz, ho⟩, hTI, ⟨u1, u2, hTO⟩, h1, h2⟩ ⟨xs, ys, x, y, hx, hy, ex, ey⟩
    obtain ⟨its, rv, ob1, _⟩ := hx.ob I
    obtain ⟨its2, rv2, ob2, _⟩ := hy.ob I
    have hh : X.A.in1.handled = none := I.ok.hd hc
    have l1 : i < its.toArray.size := by
      obtain ⟨q, _⟩ := List.getElem?_eq_some_iff.mp ex
      rw [List.size_toArray, ← rv.length]; exact q
    have l2 : i < its2.toArray.size := by
      obtain ⟨q, _⟩ := List.getElem?_eq_some_iff.mp ey
      rw [List.size_toArray, ← rv2.length]; exact q
    have low : ∀ c ∈ [z, TI, TO, i1, i2], c < s.heap.objs.size := by
      intro c hcm
      simp only [List.mem_cons, List.mem_nil_iff, or_false] at hcm
      rcases hcm with rfl | rfl | rfl | rfl | rfl
      · exact Heap.lt_size hz
      · exact Heap.lt_size hTI
      · exact Heap.lt_size hTO
      · obtain ⟨o, _, q, _⟩ := h1.obj; exact Heap.lt_size q
      · obtain ⟨o, _, q, _⟩ := h2.obj; exact Heap.lt_size q
    refine next_zipS S (drawsB l hh i1 a ha its.toArray) (drawsB l hh i2 b hb its2.toArray) hz ho hTI hTO ⟨h1, ob1⟩ ⟨h2, ob2⟩ l1 l2 ?_
    rintro x1 x2 h' tk v1 f1 e1 e2 hz1 ho1 hTO1 ⟨n1, _⟩ ⟨n2, _⟩ hT kp
    refine ⟨_, rfl, ?_⟩
    show wpAny _ _ (pure ()) _ _ _
    refine wpAny_pure ?_
    obtain ⟨w1, f1', r1⟩ := rv.get ex
    obtain ⟨w2, f2', r2⟩ := rv2.get ey
    have q1 : w1 = x1 := by
      rw [List.getElem?_toArray] at e1
      exact Option.some.inj (f1'.symm.trans e1)
    have q2 : w2 = x2 := by
      rw [List.getElem?_toArray] at e2
      exact Option.some.inj (f2'.symm.trans e2)
    subst q1 q2
    have I1 : Inv X pins σ (upd H s.heap.objs.size (.tup [x, y])) { s with heap := h', toks := tk } := by
      refine I.turnedNew (ch := [z, TI, TO, i1, i2]) (fun c ob hcm e => ?_) hf (Nat.le_refl _) ⟨by show 2 ≤ sizeLine; decide, _, .cons r1 (.cons r2 .nil), ⟨_, hT, rfl, _, rfl⟩⟩
      simp only [List.mem_cons, List.mem_nil_iff, or_false, not_or] at hcm
      exact kp c ob hcm.1 hcm.2.2.1 hcm.2.2.2.1 hcm.2.2.2.2 e
    refine ⟨V.ref s.heap.objs.size, _, I1, rfl, ⟨_, x, y, rfl, I.hok.fresh (Nat.le_refl _), rfl, fun zs hzs => by rw [hzs.inj I hx]; exact ex, fun zs hzs => by rw [hzs.inj I hy]; exact ey⟩, ⟨⟨v1, f1, hz1, ho1⟩, ?_, hTO1, n1, n2⟩, fun c hcm => ?_⟩
    · exact kp _ _ S.TIz S.TITO S.TIi1 S.TIi2 hTI
    · rw [upd_ne (Nat.ne_of_lt (low c hcm))]
      exact (hf c hcm).1
  done := by
    rintro X rfl rfl rfl hc i pins s σ H E I hf ⟨⟨v, f, hz, ho⟩, hTI, ⟨u1, u2, hTO⟩, h1, h2⟩ ⟨xs, ys, hx, hy, hl1, hl2, hend⟩
    obtain ⟨its, rv, ob1, _⟩ := hx.ob I
    obtain ⟨its2, rv2, ob2, _⟩ := hy.ob I
    have hh : X.A.in1.handled = none := I.ok.hd hc
    have l1 : its.toArray.size = xs.length := by rw [List.size_toArray, ← rv.length]
    have l2 : its2.toArray.size = ys.length := by rw [List.size_toArray, ← rv2.length]
    refine stop_zipS S (drawsB l hh i1 a ha its.toArray) (drawsB l hh i2 b hb its2.toArray) hz ho hTI hTO ⟨h1, ob1⟩ ⟨h2, ob2⟩ (by omega) (by omega) (by omega) fun h' tk kp => ⟨rfl, ?_⟩
    refine I.turnedL (ch := [z, TI, TO, i1, i2]) (fun c ob hcm e => ?_) hf
    simp only [List.mem_cons, List.mem_nil_iff, or_false, not_or] at hcm
    exact kp c ob hcm.1 hcm.2.2.1 hcm.2.2.2.1 hcm.2.2.2.2 e
  self := by
    rintro A i s Q E ⟨⟨v, f, hz, _⟩, _⟩ h
    exact iter_zipS hz h
def iZipN (l : Bool) (K : PySem.W.Frag) (ta : TA) : TI := fun σ H R => ta σ H fun vs H1 => ∃ a b xs ys, vs = [.ref a, .ref b] ∧ SqB l K H1 a xs ∧ SqB l K H1 b ys ∧ R (ItZip l K a b) H1
theorem pi_zipN {l : Bool} {X : Cx} {e e2 : Expr} {ta : TA} {p pos np : Pos} {nm : Str} (hg : Gl X "zip") (hm : X.mg "zip" = none) (ha : PA X [e, e2] ta)
    (hs : starEach [e, e2] X.env = (false, eval e X.env) :: starEach [e2] X.env := by rfl) (hpl : (backTo pos (starEach [e2] X.env)).any (·.1) = false := by rfl) :
    PI X (.Name nm np) (.Call (.Name "zip" p) [e, e2] [] pos) (iZipN l X.K ta) := by
  constructor
  intro pins s σ H R I h
  refine Call_ (ld_blt I hg hm PyProof.Rows.boot_zip (PyProof.Rows.callWith_type1 (thn (ha.run pos pins s σ H _ I h) ?_) hs hpl))
  rintro us s1 ⟨vs, H1, I1, r1, a, b, xs, ys, rfl, hx, hy, q⟩
  obtain ⟨u, u2, rfl, ru, ru2⟩ := Vals.two r1
  cases (show u = Value.ref a from ru)
  cases (show u2 = Value.ref b from ru2)
  obtain ⟨its, rv, ob1, oa, va, na, hoa, hda⟩ := hx.ob I1
  obtain ⟨its2, rv2, ob2, ob, vb, nb, hob, hdb⟩ := hy.ob I1
  refine zip_begins2 (begins_B l a its.toArray) (begins_B l b its2.toArray) ob1 ob2 fun h' hz hTI hTO h1 h2 hsz kp => iter_zipS hz ?_
  have I2 : Inv X pins σ H1 { s1 with heap := h' } := I1.kept (t' := s1.toks) kp
  have A1 := ob1.lt
  have A2 := ob2.lt
  have neN : ∀ {m n : Nat}, m ≠ n → (m : Addr) ≠ (n : Addr) := fun h => h
  refine ⟨s1.heap.objs.size + 4, [s1.heap.objs.size + 4, s1.heap.objs.size + 2, s1.heap.objs.size + 3, s1.heap.objs.size, s1.heap.objs.size + 1], _, _, H1, rfl, I2,
    turn_zipName (zip_sep2 (N := s1.heap.objs.size) (fp1 := [a]) (fp2 := [b]) (fun c hc => by cases List.mem_singleton.mp hc; exact A1) (fun c hc => by cases List.mem_singleton.mp hc; exact A2)) (Nat.ne_of_lt A1) (Nat.ne_of_lt (Nat.lt_succ_of_lt A2)),
    ⟨⟨_, _, hz, .inl rfl⟩, hTI, ⟨_, _, hTO⟩, begun_B l h1, begun_B l h2⟩, fun c hcm => ?_, q⟩
  have hle : s1.heap.objs.size ≤ c := by
    simp only [List.mem_cons, List.mem_nil_iff, or_false] at hcm
    rcases hcm with rfl | rfl | rfl | rfl | rfl
    · exact Nat.le_add_right _ _
    · exact Nat.le_add_right _ _
    · exact Nat.le_add_right _ _
    · exact Nat.le_refl _
    · exact Nat.le_add_right _ _
  exact I1.fpOk hle (I1.hok.fresh hle)
theorem walk_zipN {l : Bool} {K : PySem.W.Frag} {a b : Addr} {xs ys : List V} (hl : xs.length = ys.length) :
    Walk (ItZip l K a b) xs.length (fun H => SqB l K H a xs ∧ SqB l K H b ys) (YPair (fun i => xs[i]?) (fun i => ys[i]?)) where
  goes := fun i H hi h => ⟨xs, ys, xs[i], ys[i]'(by omega), h.1, h.2, List.getElem?_eq_getElem hi, List.getElem?_eq_getElem (by omega)⟩
  stops := fun H h => ⟨xs, ys, h.1, h.2, Nat.le_refl _, Nat.le_of_eq hl, .inl rfl⟩
  yields := by
    rintro i H v H' hi h ⟨T, x, y, rfl, hT, rfl, e1, e2⟩
    exact ⟨T, x, y, rfl, hT, rfl, e1 _ h.1, e2 _ h.2⟩

/-! ### enumerate(t), t a tuple -/
theorem meets_enumB {l : Bool} (a : Addr) (its : Array Value) :
    Meets (Builtin.«enumerate.__new__» ⟨[.type "enumerate", .ref a], []⟩) (fun _ R s => ObB l s.heap a its ∧
      R (.ok (.ret (.ref (s.heap.push (beginsB l a)).objs.size))) { s with heap := (s.heap.push (beginsB l a)).push { cls := .type "enumerate", data := .fields #[.none, .bool false, .ref s.heap.objs.size, rawInt 0, .none, .none] } }) :=
  .of_wp fun prog w A R s h => by
    obtain ⟨hp, g, d, tk, os⟩ := s
    obtain ⟨h1, h⟩ := h
    have hsub := sub_enumerate
    have q1 : ∀ {A' : Around} {E : Value → Shared → Prop} {Q : Value → Shared → Prop}, Q (.ref hp.objs.size) ⟨hp.push (beginsB l a), g, d, tk, os⟩ → wpAny (model prog w) A' (pyIter (.ref a)) Q E ⟨hp, g, d, tk, os⟩ :=
      fun q => (begins_B l a its).iter prog w _ _ ⟨hp, g, d, tk, os⟩ _ h1 q
    wp_walk using q1
    refine wpAny_stack_any fun st => wpAny_pure ?_
    split
    · rename_i c _ _ _ _ _
      generalize (c == Value.type "enumerate") = sh
      cases sh <;> (wp_walk using q1; exact ⟨_, rfl, h⟩)
    · wp_walk using q1
      exact ⟨_, rfl, h⟩
section
variable {prog : Program} {w : World} {A : Around} {E : Value → Shared → Prop} {s : Shared}
theorem call_enumB {l : Bool} {a : Addr} {its : Array Value} {Q : Value → Shared → Prop} (h1 : ObB l s.heap a its)
    (h : ∀ h', IsEnum h' (s.heap.objs.size + 1) s.heap.objs.size 0 .none → h'.get? s.heap.objs.size = some (beginsB l a) → (∀ b o, s.heap.get? b = some o → h'.get? b = some o) → Q (.ref (s.heap.objs.size + 1)) { s with heap := h' }) :
    wpAny (model prog w) A (call (.type "enumerate") [.ref a]) Q E s := by
  refine callType_new F.called_enumerate (by decide) (F.typeCall_enumerate_1 _) (F.newCall_enumerate_1 _) (fun obj => F.args_object_init_2 obj _) F.entry_enumerate_new (meets_enumB (l := l) a its) ⟨h1, ?_⟩
  have hz : (s.heap.push (beginsB l a)).objs.size = s.heap.objs.size + 1 := Heap.size_push ..
  show _ ∧ _
  rw [hz]
  have he : IsEnum ((s.heap.push (beginsB l a)).push { cls := .type "enumerate", data := .fields #[.none, .bool false, .ref s.heap.objs.size, rawInt 0, .none, .none] }) (s.heap.objs.size + 1) s.heap.objs.size 0 .none := by
    have := Heap.get?_push_size (s.heap.push (beginsB l a)) (o := { cls := .type "enumerate", data := .fields #[.none, .bool false, .ref s.heap.objs.size, rawInt 0, .none, .none] }) rfl
    rw [hz] at this
    exact this
  exact ⟨⟨_, he, rfl⟩, h _ he (Heap.get?_push_of_some _ (Heap.get?_push_size _ (begins_B l a its).free)) fun b o x => Heap.get?_push_of_some _ (Heap.get?_push_of_some _ x)⟩
end
/-- the sequence at a, each item in a new pair behind its place -/
def ItEnum (l : Bool) (K : PySem.W.Frag) (a : Addr) : It :=
  ⟨fun i H => ∃ (xs : List V) (x : V), SqB l K H a xs ∧ xs[i]? = some x,
   fun i H v H' => ∃ T x, v = .ref T ∧ H T = none ∧ H' = upd H T (.tup [.int (i : Nat), x]) ∧ ∀ xs, SqB l K H a xs → xs[i]? = some x,
   fun i H => ∃ xs : List V, SqB l K H a xs ∧ xs.length = i⟩
theorem turn_enumB {P : Program} {w : World} {K : PySem.W.Frag} {elts : List Expr} {kk : Nat} {tpos : Pos} {l : Bool} {a e it : Addr} (hei : e ≠ it) (hea : e ≠ a) (hai : a ≠ it) :
    Turn P w K (.Tuple elts kk tpos) (ItEnum l K a) [e, it] e (fun i h => (∃ old, IsEnum h e it ((i : Nat) : Int) old) ∧ ItB l h it a i) where
  mem := List.mem_cons_self
  obj := by
    rintro i h ⟨⟨old, he⟩, hi⟩ c hc
    simp only [List.mem_cons, List.mem_nil_iff, or_false] at hc
    rcases hc with rfl | rfl
    · exact ⟨_, he, fun v q => nomatch q⟩
    · obtain ⟨o, vs, ho, hd⟩ := hi.obj
      exact ⟨o, ho, fun v q => by rw [hd] at q; cases q⟩
  keep := by
    rintro i h h' ⟨⟨old, he⟩, hi⟩ k
    exact ⟨⟨old, k e (by simp) _ he⟩, hi.at (k it (by simp))⟩
  item := by
    rintro X rfl rfl rfl hc i pins s σ H E I hf ⟨⟨old, he⟩, hi⟩ ⟨xs, x, hx, ex⟩
    obtain ⟨its, rv, ob, _⟩ := hx.ob I
    have hh : X.A.in1.handled = none := I.ok.hd hc
    have l1 : i < its.toArray.size := by
      obtain ⟨q, _⟩ := List.getElem?_eq_some_iff.mp ex
      rw [List.size_toArray, ← rv.length]; exact q
    have e1 : e < s.heap.objs.size := Heap.lt_size he
    have e2 : it < s.heap.objs.size := by obtain ⟨o, _, q, _⟩ := hi.obj; exact Heap.lt_size q
    refine wpAny_pyNext_enum_itemD (drawsB l hh it a hai its.toArray) he ⟨hi, ob⟩ l1 hei (by simp [hei, hea]) ?_
    rintro y h' tk ey ho ⟨hi', _⟩ hT hsz hk
    refine ⟨_, rfl, ?_⟩
    refine wpAny_letOwnedTupleGo_enum (s := { s with heap := h', toks := tk + 1 }) ho fun h2 he2 sb => ?_
    obtain ⟨u, fu, ru⟩ := rv.get ex
    have q1 : u = y := by
      rw [List.getElem?_toArray] at ey
      exact Option.some.inj (fu.symm.trans ey)
    subst q1
    have hT2 := (sb.2 s.heap.objs.size (Nat.ne_of_gt e1)).trans hT
    have I1 : Inv X pins σ (upd H s.heap.objs.size (.tup [.int (i : Nat), x])) { s with heap := h2, toks := tk + 1 } := by
      refine I.turnedNew (ch := [e, it]) (fun c ob' hcm q => ?_) hf (Nat.le_refl _) ⟨by show 2 ≤ sizeLine; decide, _, .cons ⟨_, rfl⟩ (.cons ru .nil), ⟨_, hT2, rfl, _, rfl⟩⟩
      simp only [List.mem_cons, List.mem_nil_iff, or_false, not_or] at hcm
      exact (sb.2 c hcm.1).trans (hk c ob' hcm.1 hcm.2 q)
    refine ⟨V.ref s.heap.objs.size, _, I1, rfl, ⟨_, x, rfl, I.hok.fresh (Nat.le_refl _), rfl, fun zs hzs => by rw [hzs.inj I hx]; exact ex⟩, ⟨⟨u, ?_⟩, hi'.at fun o q => (sb.2 it (Ne.symm hei)).trans q⟩, fun c hcm => ?_⟩
    · have : ((i + 1 : Nat) : Int) = (i : Int) + 1 := by omega
      rw [this]; exact he2
    · have lc : c < s.heap.objs.size := by
        simp only [List.mem_cons, List.mem_nil_iff, or_false] at hcm
        rcases hcm with rfl | rfl
        · exact e1
        · exact e2
      rw [upd_ne (Nat.ne_of_lt lc)]
      exact (hf c hcm).1
  done := by
    rintro X rfl rfl rfl hc i pins s σ H E I hf ⟨⟨old, he⟩, hi⟩ ⟨xs, hx, rfl⟩
    obtain ⟨its, rv, ob, _⟩ := hx.ob I
    have hh : X.A.in1.handled = none := I.ok.hd hc
    have hl : its.toArray.size = xs.length := by rw [List.size_toArray, ← rv.length]
    obtain ⟨f0, f1, f2, f3, f4, f5⟩ := hf it (by simp)
    refine wpAny_pyNext_enum_endD (drawsB l hh it a hai its.toArray) he (by rw [hl]; exact ⟨hi, ob⟩) fun h' eb => ⟨rfl, ?_⟩
    exact I.turned (t' := s.toks) (fun b o hb q => eb b o hb q) f0 f1 f3 f4 f5
  self := by
    rintro A i s Q E ⟨⟨old, he⟩, _⟩ h
    exact wpAny_pyIter_enum he h
def iEnumB (l : Bool) (K : PySem.W.Frag) (ta : TA) : TI := fun σ H R => ta σ H fun vs H1 => ∃ a xs, vs = [.ref a] ∧ SqB l K H1 a xs ∧ R (ItEnum l K a) H1
theorem pi_enumB {l : Bool} {X : Cx} {e : Expr} {ta : TA} {p pos tpos : Pos} {elts : List Expr} {kk : Nat} (hg : Gl X "enumerate") (hm : X.mg "enumerate" = none) (ha : PA X [e] ta) (hs : starEach [e] X.env = [(false, eval e X.env)] := by rfl) :
    PI X (.Tuple elts kk tpos) (.Call (.Name "enumerate" p) [e] [] pos) (iEnumB l X.K ta) := by
  constructor
  intro pins s σ H R I h
  refine Call_ (ld_blt I hg hm boot_enumerate (PyProof.Rows.callWith_type1 (thn (ha.run pos pins s σ H _ I h) ?_) hs rfl))
  rintro us s1 ⟨vs, H1, I1, r1, a, xs, rfl, hx, q⟩
  obtain ⟨u, rfl, ru⟩ := Vals.one r1
  cases (show u = Value.ref a from ru)
  obtain ⟨its, rv, ob, _⟩ := hx.ob I1
  have lt := ob.lt
  refine call_enumB ob fun h' he hi kp => wpAny_pyIter_enum he ?_
  have I2 : Inv X pins σ H1 { s1 with heap := h' } := I1.kept (t' := s1.toks) kp
  refine ⟨s1.heap.objs.size + 1, [s1.heap.objs.size + 1, s1.heap.objs.size], _, _, H1, rfl, I2, turn_enumB (Nat.succ_ne_self _) (Nat.ne_of_gt (Nat.lt_succ_of_lt lt)) (Nat.ne_of_lt lt), ⟨⟨_, he⟩, begun_B l hi⟩, fun c hcm => ?_, q⟩
  have hle : s1.heap.objs.size ≤ c := by
    simp only [List.mem_cons, List.mem_nil_iff, or_false] at hcm
    rcases hcm with rfl | rfl
    · exact Nat.le_add_right _ _
    · exact Nat.le_refl _
  exact I1.fpOk hle (I1.hok.fresh hle)
theorem walk_enumB {l : Bool} {K : PySem.W.Frag} {a : Addr} {xs : List V} : Walk (ItEnum l K a) xs.length (fun H => SqB l K H a xs) (YPair (fun i => some (.int (i : Nat))) (fun i => xs[i]?)) where
  goes := fun i H hi h => ⟨xs, xs[i], h, List.getElem?_eq_getElem hi⟩
  stops := fun H h => ⟨xs, h, rfl⟩
  yields := by
    rintro i H v H' hi h ⟨T, x, rfl, hT, rfl, e⟩
    exact ⟨T, _, x, rfl, hT, rfl, rfl, e _ h⟩
end Bw

/-! dict(d), displays and merges of dicts with tuple keys; sorted(d). -/
namespace Bw
open PySem PySem.Spec PyProof.Rows L2

/-! ### at the library's level -/
section
variable {prog : Program} {w : World} {K : Type} [DecidableEq K] {knd : HeapKind prog w K} {A : Around} {E : Value → Shared → Prop} {s : Shared}
/-- an entry put by its hash -/
theorem dictPut_heap {d a : Addr} {xs : List (K × Addr × Value)} {k : K} {v : Value} {Q : Unit → Shared → Prop} (hu : knd.room A) (hkey : knd.is s.heap k a) (hm : s.heap.DictOfH knd d xs) (hsz : xs.length ≤ sizeLine)
    (hQ : ∀ h', h'.DictOfH knd d (storedH xs k a v) → Heap.SameBut d s.heap h' → Q () { s with heap := h' }) : wpAny (model prog w) A (dictPut d (knd.hash k) (.ref a) v) Q E s := by
  obtain ⟨o, es, ep, ho, hc, hd, he, his, hn⟩ := hm
  have le : es.size ≤ sizeLine := by rw [size_of_entries he]; exact hsz
  unfold dictPut
  refine wpAny_bind (wpAny_dictFind_heap hu hkey ho hd he his hn (fun hno => ?_) fun j p hj => ?_)
  · have fresh := atKey_none_of_get hno
    refine wpAny_updateDictKeys (hz := le) ho hd (hQ _ ?_ (Heap.SameBut.update ..))
    rw [storedH_new fresh]
    refine ⟨_, _, ep + 1, Heap.get?_update_self _ ho (Obj.isFreed_of_dict (Obj.data_mapDictKeys hd _)), hc.mapDictKeys _, Obj.data_mapDictKeys hd _, by simp [he, entryOfKey], fun x hx => ?_, ?_⟩
    · rcases List.mem_append.mp hx with hx | hx
      · exact knd.keeps (his x hx) ho hd (Heap.SameBut.update ..)
      · cases List.mem_singleton.mp hx
        exact knd.keeps hkey ho hd (Heap.SameBut.update ..)
    · rw [List.map_append, List.nodup_append]
      refine ⟨hn, by simp, fun x hx y hy e => ?_⟩
      have ey : y = k := by simpa using hy
      exact not_mem_keys_of_get hno (by rw [← ey, ← e]; exact hx)
  · refine wpAny_updateDict ho hd (hQ _ ?_ (Heap.SameBut.update ..))
    rw [storedH_old (atKey_of_get hn hj)]
    refine ⟨_, _, ep, Heap.get?_update_self _ ho (Obj.isFreed_of_dict (Obj.data_mapDict hd _)), hc.mapDict _, Obj.data_mapDict hd _, ?_, fun x hx => ?_, by rw [keys_map_putAt]; exact hn⟩
    · have m := modify_map_putAt (entryOfKey knd) (fun e : DictEntry => { e with val := v }) k v (fun _ _ => rfl) hn hj
      rw [← he] at m
      obtain ⟨l⟩ := es
      simpa using m
    · obtain ⟨y, hy, rfl⟩ := List.mem_map.mp hx
      unfold putAt
      split <;> exact knd.keeps (his y hy) ho hd (Heap.SameBut.update ..)
/-- the entries of o put into d, one after the other -/
theorem merge_loop {d o : Addr} {oo : Obj} {eso : Array DictEntry} {epo : Nat} {kvs more : List (K × Addr × Value)} {Q : PUnit → Shared → Prop} (hu : knd.room A) (hdo : d ≠ o)
    (hoo : s.heap.get? o = some oo) (hdd : oo.data = .dict eso epo) (heo : eso.toList = more.map (entryOfKey knd)) (hd : s.heap.DictOfH knd d kvs) (ho : s.heap.DictOfH knd o more) (hsz : kvs.length + more.length ≤ sizeLine)
    (hQ : ∀ h', h'.DictOfH knd d (storedAllH kvs more) → h'.DictOfH knd o more → Heap.SameBut d s.heap h' → Q PUnit.unit { s with heap := h' }) :
    wpAny (model prog w) A (forIn (List.range eso.size) PUnit.unit fun i (_ : PUnit) => (do
      let l ← dictEntries o
      match l[i]? with
        | some e => do
          holding [e.key, e.val] (dictPut d e.hash e.key e.val)
          let ep ← dictEpoch o
          if (ep != epo) = true then do
              (unsupported "dict.changed-during-merge" : Sem PUnit)
              pure (ForInStep.yield PUnit.unit)
            else pure (ForInStep.yield PUnit.unit)
        | _ => do
          (unsupported "dict.changed-during-merge" : Sem PUnit)
          pure (ForInStep.yield PUnit.unit) : Sem (ForInStep PUnit))) Q E s := by
  have lo : eso.size = more.length := size_of_entries heo
  refine wpAny_forIn_list _ (fun rest _ s1 => ∃ h1 i, s1 = { s with heap := h1 } ∧ rest = List.range' i (eso.size - i) ∧ i ≤ eso.size ∧ h1.DictOfH knd d (storedAllH kvs (more.take i)) ∧ h1.DictOfH knd o more ∧ h1.get? o = some oo ∧ Heap.SameBut d s.heap h1)
    _ ?_ ?_ _ _ ⟨s.heap, 0, rfl, by simp [List.range_eq_range'], Nat.zero_le _, by simpa [storedAllH] using hd, ho, hoo, Heap.SameBut.refl _ _⟩
  · rintro x rest b s1 ⟨h1, i, rfl, hr, hi, hd1, ho1, hoo1, sb⟩
    have hlt : i < eso.size := by
      rcases Nat.lt_or_ge i eso.size with q | q
      · exact q
      · rw [Nat.sub_eq_zero_of_le q] at hr
        simp at hr
    obtain ⟨rfl, hrest⟩ : x = i ∧ rest = List.range' (i + 1) (eso.size - (i + 1)) := by
      have e : eso.size - i = (eso.size - (i + 1)) + 1 := by omega
      rw [e, List.range'_succ] at hr
      injection hr with q1 q2
      exact ⟨q1, q2⟩
    refine wpAny_bind (wpAny_dictEntries hoo1 hdd ?_)
    obtain ⟨⟨k, a, v⟩, hkv⟩ : ∃ kv, more[x]? = some kv := ⟨more[x]'(by omega), List.getElem?_eq_getElem _⟩
    rw [entry_at heo x, hkv]
    show wpAny _ _ (holding [.ref a, v] (dictPut d (knd.hash k) (.ref a) v) >>= _) _ _ _
    have hmx : (storedAllH kvs (more.take x)).length ≤ sizeLine := by
      have q1 := storedAllH_length (more.take x) kvs
      have q2 : (more.take x).length ≤ more.length := by rw [List.length_take]; omega
      omega
    have hkey : knd.is h1 k a := by
      obtain ⟨_, _, _, _, _, _, _, his, _⟩ := ho1
      exact his (k, a, v) (List.mem_of_getElem? hkv)
    refine wpAny_bind (wpAny_holding (dictPut_heap (s := { s with heap := h1 }) hu hkey hd1 hmx fun h2 hd2 sb2 => ?_))
    have hoo2 : h2.get? o = some oo := (sb2.2 o (Ne.symm hdo)).trans hoo1
    refine wpAny_bind (wpAny_dictEpoch hoo2 hdd ?_)
    rw [if_neg (by simp)]
    exact wpAny_pure ⟨h2, x + 1, rfl, hrest, hlt, by rw [storedAllH_take_succ kvs more x (k, a, v) hkv]; exact hd2, ho1.notHere hd1 hdo sb2, hoo2, sb.trans sb2⟩
  · rintro b s1 ⟨h1, i, rfl, hr, hi, hd1, ho1, hoo1, sb⟩
    have hin : i = eso.size := by
      rcases Nat.lt_or_ge i eso.size with q | q
      · have e : eso.size - i = (eso.size - (i + 1)) + 1 := by omega
        rw [e, List.range'_succ] at hr
        exact nomatch hr
      · exact Nat.le_antisymm hi q
    rw [hin, lo, List.take_length] at hd1
    exact hQ h1 hd1 ho1 sb
/-- a dict merged into another one by a display's ** -/
theorem mergeMapping_heap {d o : Addr} {kvs more : List (K × Addr × Value)} {Q : Unit → Shared → Prop} (hu : knd.room A) (hdo : d ≠ o) (hoS : (o == sysModules) = false)
    (hd : s.heap.DictOfH knd d kvs) (ho : s.heap.DictOfH knd o more) (hty : ∀ x ∈ more, s.TypeIs (.ref x.2.1) "tuple") (hap : kvs ≠ [] ∨ (more.map fun x => knd.hash x.1).Nodup) (hsz : kvs.length + more.length ≤ sizeLine)
    (hQ : ∀ h', h'.DictOfH knd d (storedAllH kvs more) → h'.DictOfH knd o more → Heap.SameBut d s.heap h' → Q () { s with heap := h' }) : wpAny (model prog w) A (mergeMapping d (.ref o) false) Q E s := by
  obtain ⟨od, esd, epd, hod, hcd, hdd, hed, hisd, hnd⟩ := id hd
  obtain ⟨oo, eso, epo, hoo, hco, hdo', heo, hiso, hno⟩ := id ho
  have ld : esd.size = kvs.length := size_of_entries hed
  have lo : eso.size = more.length := size_of_entries heo
  unfold mergeMapping
  refine wpAny_bind (wpAny_isInstance ho.typeIs isSubtype_dict_dict ?_)
  simp only [if_true]
  refine wpAny_bind (wpAny_specialOf ho.typeIs F.slot_dict_iter.lookup ?_)
  refine wpAny_bind (wpAny_pure ?_)
  simp only [beq_self_eq_true, hoS, Bool.false_eq_true, if_false]
  refine wpAny_bind (wpAny_dictEntries hod hdd ?_)
  by_cases hemp : esd.isEmpty = true
  · rw [if_pos hemp]
    have hk : kvs = [] := by
      have : esd.size = 0 := by simpa using hemp
      exact List.length_eq_zero_iff.mp (by omega)
    have hn := hap.resolve_left (fun q => q hk)
    refine wpAny_bind (wpAny_dictEntries hoo hdo' ?_)
    refine wpAny_bind ?_
    have apart := keysApart (s := s) heo hty hn
    rw [← Array.forIn_toList]
    refine wpAny_forIn_list _ (fun rest _ s1 => s1 = s ∧ ∀ e ∈ rest, KeyApart s eso e) _ ?_ ?_ _ _ ⟨rfl, apart⟩
    · rintro e rest b s1 ⟨rfl, hall⟩
      have hrest : ∀ x ∈ rest, KeyApart s1 eso x := fun x hx => hall x (List.mem_cons_of_mem _ hx)
      rcases hall e List.mem_cons_self with hv | ⟨a, hk, hT, h1⟩
      · cases ek : e.key <;> first
          | exact wpAny_pure ⟨rfl, hrest⟩
          | (rw [ek] at hv; cases hv)
      · rw [hk]
        refine wpAny_bind (wpAny_specialOf hT F.slot_tuple_eq.lookup ?_)
        refine wpAny_ite_split (fun _ => ?_) (fun _ => wpAny_pure ⟨rfl, hrest⟩)
        rw [if_neg (by omega)]
        exact wpAny_pure ⟨rfl, hrest⟩
    · rintro b s1 ⟨rfl, _⟩
      refine wpAny_bind (wpAny_dictEntries hoo hdo' ?_)
      refine wpAny_bind (wpAny_dictEpoch hoo hdo' ?_)
      exact wpAny_bind (merge_loop hu hdo hoo hdo' heo hd ho hsz fun h' h1 h2 h3 => wpAny_pure (hQ h' h1 h2 h3))
  · rw [if_neg hemp]
    refine wpAny_bind (wpAny_dictEntries hoo hdo' ?_)
    refine wpAny_bind (wpAny_dictEpoch hoo hdo' ?_)
    exact wpAny_bind (merge_loop hu hdo hoo hdo' heo hd ho hsz fun h' h1 h2 h3 => wpAny_pure (hQ h' h1 h2 h3))
end
end Bw

/-! Lists of bounds: what a dict of bounds holds, as data; the function that it is. -/
namespace Bw
open PySem PySem.Spec PyProof.Rows L2

abbrev Pt := Int × Int
abbrev Bd := List (Pt × Int)
def keyT (p : Pt) : List Key := [Sum.inl p.1, Sum.inl p.2]
def kvT (B : Bd) : List (List Key × V) := B.map fun e => (keyT e.1, V.int e.2)
theorem keyT_inj {p q : Pt} (h : keyT p = keyT q) : p = q := by
  obtain ⟨a, b⟩ := p
  obtain ⟨c, d⟩ := q
  unfold keyT at h
  simp only [List.cons.injEq, Sum.inl.injEq, and_true] at h
  exact Prod.ext h.1 h.2
theorem keyT_dec (p q : Pt) : decide (keyT p = keyT q) = decide (p = q) := by
  by_cases e : p = q
  · rw [e, decide_eq_true rfl, decide_eq_true rfl]
  · rw [decide_eq_false e, decide_eq_false fun z => e (keyT_inj z)]
theorem keyT_kV (p : Pt) : (keyT p).map kV = [V.int p.1, V.int p.2] := rfl
theorem kvT_len (B : Bd) : (kvT B).length = B.length := List.length_map _
theorem kvT_get {B : Bd} {i : Nat} {k : List Key} {v : V} (h : (kvT B)[i]? = some (k, v)) : ∃ p z, B[i]? = some (p, z) ∧ k = keyT p ∧ v = V.int z := by
  unfold kvT at h
  rw [List.getElem?_map] at h
  cases e : B[i]? with
  | none => rw [e] at h; cases h
  | some x =>
    rw [e] at h
    cases h
    exact ⟨x.1, x.2, rfl, rfl, rfl⟩
theorem kvT_snoc (B : Bd) (p : Pt) (z : Int) : kvT (B ++ [(p, z)]) = kvT B ++ [(keyT p, V.int z)] := by
  unfold kvT
  rw [List.map_append]
  rfl

/-- the value at a pair -/
def look (B : Bd) (p : Pt) : Option Int := (B.find? fun e => decide (e.1 = p)).map (·.2)
/-- the table's function -/
def fn (B : Bd) : Fn := fun a b => look B (a, b)
theorem look_nil (p : Pt) : look [] p = none := rfl
theorem look_cons (e : Pt × Int) (B : Bd) (p : Pt) : look (e :: B) p = if e.1 = p then some e.2 else look B p := by
  unfold look
  rw [List.find?_cons]
  by_cases h : e.1 = p
  · rw [if_pos h, decide_eq_true h]; rfl
  · rw [if_neg h, decide_eq_false h]
theorem valV_kvT : ∀ (B : Bd) (p : Pt), valV (kvT B) (keyT p) = (look B p).map V.int
  | [], p => rfl
  | e :: B, p => by
    show valV ((keyT e.1, V.int e.2) :: kvT B) (keyT p) = _
    rw [look_cons]
    by_cases h : e.1 = p
    · rw [if_pos h, h, valV_pos rfl]; rfl
    · rw [if_neg h, valV_neg fun z => h (keyT_inj z)]
      exact valV_kvT B p
/-- in its place, or at the end -/
def putB (B : Bd) (p : Pt) (z : Int) : Bd := if (B.any fun e => decide (e.1 = p)) = true then B.map (fun e => if e.1 = p then (e.1, z) else e) else B ++ [(p, z)]
theorem any_look : ∀ (B : Bd) (p : Pt), (B.any fun e => decide (e.1 = p)) = (look B p).isSome
  | [], p => rfl
  | e :: B, p => by
    rw [List.any_cons, look_cons, any_look B p]
    by_cases h : e.1 = p
    · rw [if_pos h, decide_eq_true h]; rfl
    · rw [if_neg h, decide_eq_false h, Bool.false_or]
theorem putK_kvT (B : Bd) (p : Pt) (z : Int) : putK (kvT B) (keyT p) (V.int z) = kvT (putB B p z) := by
  have ea : ((kvT B).any fun kv => decide (kv.1 = keyT p)) = B.any fun e => decide (e.1 = p) := by
    unfold kvT
    rw [List.any_map]
    congr 1
    funext e
    exact keyT_dec e.1 p
  unfold putK putB
  rw [ea]
  split
  · unfold kvT
    rw [List.map_map, List.map_map]
    congr 1
    funext e
    show (if keyT e.1 = keyT p then (keyT e.1, V.int z) else (keyT e.1, V.int e.2)) = _
    by_cases h : e.1 = p
    · rw [if_pos (congrArg keyT h)]
      show _ = (keyT (if e.1 = p then (e.1, z) else e).1, V.int (if e.1 = p then (e.1, z) else e).2)
      rw [if_pos h]
    · rw [if_neg fun q => h (keyT_inj q)]
      show _ = (keyT (if e.1 = p then (e.1, z) else e).1, V.int (if e.1 = p then (e.1, z) else e).2)
      rw [if_neg h]
  · rw [kvT_snoc]
theorem look_map (p q : Pt) (z : Int) : ∀ B : Bd, look (B.map fun e => if e.1 = p then (e.1, z) else e) q = (look B q).map fun x => if q = p then z else x
  | [] => rfl
  | e :: B => by
    rw [List.map_cons, look_cons, look_cons, look_map p q z B]
    by_cases h : e.1 = p
    · rw [if_pos h]
      show (if e.1 = q then some z else _) = _
      by_cases h2 : e.1 = q
      · rw [if_pos h2, if_pos h2, Option.map_some, if_pos (h2.symm.trans h)]
      · rw [if_neg h2, if_neg h2]
    · rw [if_neg h]
      by_cases h2 : e.1 = q
      · rw [if_pos h2, if_pos h2, Option.map_some, if_neg fun x => h (h2.trans x)]
      · rw [if_neg h2, if_neg h2]
theorem look_snoc (p q : Pt) (z : Int) : ∀ B : Bd, look B p = none → look (B ++ [(p, z)]) q = if q = p then some z else look B q
  | [], _ => by
    show look [(p, z)] q = _
    rw [look_cons]
    by_cases h : q = p
    · rw [if_pos h.symm, if_pos h]
    · rw [if_neg fun x => h x.symm, if_neg h]
  | e :: B, hn => by
    rw [look_cons] at hn
    split at hn
    · cases hn
    · rename_i h
      show look (e :: (B ++ [(p, z)])) q = _
      rw [look_cons, look_cons, look_snoc p q z B hn]
      by_cases h2 : e.1 = q
      · rw [if_pos h2, if_pos h2, if_neg fun x => h (h2.trans x)]
      · rw [if_neg h2, if_neg h2]
theorem look_put (B : Bd) (p q : Pt) (z : Int) : look (putB B p z) q = if q = p then some z else look B q := by
  unfold putB
  rw [any_look]
  cases h : look B p with
  | some w =>
    rw [Option.isSome_some, if_pos rfl, look_map]
    by_cases e : q = p
    · rw [if_pos e, e, h, Option.map_some, if_pos rfl]
    · rw [if_neg e]
      cases look B q with
      | none => rfl
      | some x => rw [Option.map_some, if_neg e]
  | none =>
    rw [Option.isSome_none, if_neg Bool.false_ne_true]
    exact look_snoc p q z B h
/-- the pairs -/
def keysB (B : Bd) : List Pt := B.map (·.1)
theorem look_mem {B : Bd} {p : Pt} {z : Int} (h : look B p = some z) : (p, z) ∈ B := by
  unfold look at h
  cases e : B.find? fun e => decide (e.1 = p) with
  | none => rw [e] at h; cases h
  | some x =>
    rw [e] at h
    cases h
    have h1 := List.mem_of_find?_eq_some e
    have h2 : x.1 = p := by simpa using List.find?_some e
    rw [← h2]
    exact h1
theorem look_none {B : Bd} {p : Pt} (h : look B p = none) : p ∉ keysB B := by
  intro hm
  obtain ⟨e, he, rfl⟩ := List.mem_map.mp hm
  have := any_look B e.1
  rw [h, Option.isSome_none] at this
  have t : (B.any fun e' => decide (e'.1 = e.1)) = true := List.any_eq_true.mpr ⟨e, he, decide_eq_true rfl⟩
  rw [t] at this
  cases this
theorem look_of_mem : ∀ {B : Bd} {p : Pt} {z : Int}, (keysB B).Nodup → (p, z) ∈ B → look B p = some z
  | e :: B, p, z, hn, hm => by
    rw [look_cons]
    have hn' : e.1 ∉ keysB B ∧ (keysB B).Nodup := List.nodup_cons.mp hn
    rcases List.mem_cons.mp hm with rfl | hm
    · rw [if_pos rfl]
    · have ne : e.1 ≠ p := fun x => hn'.1 (by rw [x]; exact List.mem_map.mpr ⟨(p, z), hm, rfl⟩)
      rw [if_neg ne]
      exact look_of_mem hn'.2 hm
theorem keys_put_mem {B : Bd} {p : Pt} {z : Int} (h : (look B p).isSome = true) : keysB (putB B p z) = keysB B := by
  unfold putB
  rw [any_look, if_pos h]
  unfold keysB
  rw [List.map_map]
  congr 1
  funext e
  show (if e.1 = p then (e.1, z) else e).1 = e.1
  split <;> rfl
theorem keys_put_new {B : Bd} {p : Pt} {z : Int} (h : look B p = none) : putB B p z = B ++ [(p, z)] := by
  unfold putB
  rw [any_look, h, Option.isSome_none, if_neg Bool.false_ne_true]
theorem nodup_put {B : Bd} (p : Pt) (z : Int) (h : (keysB B).Nodup) : (keysB (putB B p z)).Nodup := by
  cases e : look B p with
  | some w => rw [keys_put_mem (by rw [e]; rfl)]; exact h
  | none =>
    rw [keys_put_new e]
    unfold keysB
    rw [List.map_append, List.nodup_append]
    refine ⟨h, by simp, fun x hx y hy q => ?_⟩
    have ey : y = p := by simpa using hy
    exact look_none e (by rw [← ey, ← q]; exact hx)

/-! ### how many pairs of points there are -/
theorem nodup_len {α : Type} [DecidableEq α] : ∀ (l d : List α), l.Nodup → (∀ x ∈ l, x ∈ d) → l.length ≤ d.length
  | [], _, _, _ => Nat.zero_le _
  | x :: l, d, hn, hs => by
    have hx : x ∈ d := hs x List.mem_cons_self
    have h2 : x ∉ l ∧ l.Nodup := List.nodup_cons.mp hn
    have h3 := nodup_len l (d.erase x) h2.2 fun y hy => (List.mem_erase_of_ne fun (e : y = x) => h2.1 (e ▸ hy)).mpr (hs y (List.mem_cons_of_mem _ hy))
    rw [List.length_erase_of_mem hx] at h3
    have h4 : 0 < d.length := List.length_pos_of_mem hx
    simp only [List.length_cons]
    omega
/-- the points are from 0 to n, no pair twice -/
structure Good (n : Int) (B : Bd) : Prop where
  nd : (keysB B).Nodup
  rg : ∀ e ∈ B, 0 ≤ e.1.1 ∧ e.1.1 ≤ n ∧ 0 ≤ e.1.2 ∧ e.1.2 ≤ n
def allPts : List Pt := (List.range 4).flatMap fun (a : Nat) => (List.range 4).map fun (b : Nat) => ((a : Int), (b : Int))
theorem mem_allPts {p : Pt} (h0 : 0 ≤ p.1) (h1 : p.1 ≤ 3) (h2 : 0 ≤ p.2) (h3 : p.2 ≤ 3) : p ∈ allPts := by
  unfold allPts
  refine List.mem_flatMap.mpr ⟨p.1.toNat, List.mem_range.mpr (by omega), List.mem_map.mpr ⟨p.2.toNat, List.mem_range.mpr (by omega), ?_⟩⟩
  exact Prod.ext (by show ((p.1.toNat : Nat) : Int) = p.1; omega) (by show ((p.2.toNat : Nat) : Int) = p.2; omega)
theorem Good.len {n : Int} {B : Bd} (g : Good n B) (hn : n ≤ 3) : B.length ≤ 16 := by
  have h := nodup_len (keysB B) allPts g.nd fun p hp => by
    obtain ⟨e, he, rfl⟩ := List.mem_map.mp hp
    have := g.rg e he
    exact mem_allPts this.1 (by omega) this.2.2.1 (by omega)
  unfold keysB at h
  rw [List.length_map] at h
  exact h
theorem Good.nil {n : Int} : Good n [] := ⟨List.nodup_nil, fun e h => nomatch h⟩
theorem Good.put {n : Int} {B : Bd} (g : Good n B) {p : Pt} (z : Int) (h0 : 0 ≤ p.1) (h1 : p.1 ≤ n) (h2 : 0 ≤ p.2) (h3 : p.2 ≤ n) : Good n (putB B p z) where
  nd := nodup_put p z g.nd
  rg := fun e he => by
    unfold putB at he
    split at he
    · obtain ⟨x, hx, rfl⟩ := List.mem_map.mp he
      split
      · exact g.rg x hx
      · exact g.rg x hx
    · rcases List.mem_append.mp he with h | h
      · exact g.rg e h
      · cases List.mem_singleton.mp h
        exact ⟨h0, h1, h2, h3⟩
theorem Good.some {n : Int} {B : Bd} (g : Good n B) {p : Pt} {z : Int} (h : look B p = Option.some z) : 0 ≤ p.1 ∧ p.1 ≤ n ∧ 0 ≤ p.2 ∧ p.2 ≤ n := g.rg _ (look_mem h)
theorem look_mem_iff {n : Int} {B : Bd} (g : Good n B) {p : Pt} {z : Int} : (p, z) ∈ B ↔ look B p = Option.some z := ⟨look_of_mem g.nd, look_mem⟩
/-! ### the pairs' hashes differ -/
def hashP (p : Pt) : Int := reduceHash (Builtin.Tuple.tupleHashOf [hashInt p.1, hashInt p.2])
theorem hash_apart : (allPts.map hashP).Nodup := by decide +kernel
theorem nodup_map_inj {α β : Type} (f : α → β) : ∀ {l : List α}, (l.map f).Nodup → ∀ {x y}, x ∈ l → y ∈ l → f x = f y → x = y
  | z :: l, h, x, y, hx, hy, e => by
    have h2 : f z ∉ l.map f ∧ (l.map f).Nodup := List.nodup_cons.mp h
    rcases List.mem_cons.mp hx with ex | mx
    · rcases List.mem_cons.mp hy with ey | my
      · exact ex.trans ey.symm
      · exact absurd (List.mem_map.mpr ⟨y, my, by rw [← e, ex]⟩) h2.1
    · rcases List.mem_cons.mp hy with ey | my
      · exact absurd (List.mem_map.mpr ⟨x, mx, by rw [e, ey]⟩) h2.1
      · exact nodup_map_inj f h2.2 mx my e
theorem map_nodup {α β : Type} (f : α → β) : ∀ {l : List α}, l.Nodup → (∀ x ∈ l, ∀ y ∈ l, f x = f y → x = y) → (l.map f).Nodup
  | [], _, _ => List.nodup_nil
  | x :: l, h, hi => by
    have h2 : x ∉ l ∧ l.Nodup := List.nodup_cons.mp h
    refine List.nodup_cons.mpr ⟨fun hm => ?_, map_nodup f h2.2 fun y hy z hz => hi y (List.mem_cons_of_mem _ hy) z (List.mem_cons_of_mem _ hz)⟩
    obtain ⟨y, hy, e⟩ := List.mem_map.mp hm
    have := hi y (List.mem_cons_of_mem _ hy) x List.mem_cons_self e
    exact h2.1 (this ▸ hy)
theorem Good.apart {n : Int} {B : Bd} (g : Good n B) (hn : n ≤ 3) : (B.map fun e => hashP e.1).Nodup := by
  have e : (B.map fun e => hashP e.1) = (keysB B).map hashP := by
    unfold keysB
    rw [List.map_map]
    rfl
  rw [e]
  have mem : ∀ p ∈ keysB B, p ∈ allPts := fun p hp => by
    obtain ⟨x, hx, rfl⟩ := List.mem_map.mp hp
    have := g.rg x hx
    exact mem_allPts this.1 (by omega) this.2.2.1 (by omega)
  exact map_nodup hashP g.nd fun x hx y hy q => nodup_map_inj hashP hash_apart (mem x hx) (mem y hy) q
end Bw

/-! The same as rules of the layer. -/
namespace Bw
open PySem PySem.Spec PyProof.Rows L2

/-- what a dict of bounds is at the heap -/
theorem hash_keyT {P : Program} {w : World} (p : Pt) : (tupleKind (mixKind P w)).hash (keyT p) = hashP p := rfl
section
variable {P : Program} {w : World} {H : Hp} {h : Heap} {a : Addr} {B : Bd}
theorem bd_at (ok : HOk P w H h) (e : Rd H a (.dT (kvT B))) : B.length ≤ sizeLine ∧ (a == sysModules) = false ∧ ∃ xs, KT H (kvT B) xs ∧ h.DictOfH (tupleKind (mixKind P w)) a xs ∧
    (∀ x ∈ xs, IsTup h x.2.1 ((fun (_ : Unit) => (match h.get? x.2.1 with | some o => (match o.data with | .seq vs _ => vs | _ => #[]) | none => #[])) ())) ∧ (xs.map fun x => (tupleKind (mixKind P w)).hash x.1) = B.map fun e => hashP e.1 := by
  obtain ⟨z, hd, xs, rel, dd⟩ := dt_rd ok e
  rw [kvT_len] at z
  refine ⟨z, hd, xs, rel, dd, fun x hx => ?_, ?_⟩
  · obtain ⟨i, hi, rfl⟩ := List.mem_iff_getElem.mp hx
    have hl : (kvT B).length = xs.length := Paired.length rel
    obtain ⟨b, hb, _, hq, _⟩ := paired_get rel (List.getElem?_eq_getElem (show i < (kvT B).length by omega))
    rw [List.getElem?_eq_getElem hi] at hb
    cases hb
    obtain ⟨_, its, _, o, ho, hc, n, hdat⟩ := ok _ _ hq
    exact ⟨o, ho, hc, n, by rw [ho]; simp only [hdat]⟩
  · have : ∀ {kvs : List (List Key × V)} {ys : List (List Key × Addr × Value)}, KT H kvs ys → (ys.map fun x => (tupleKind (mixKind P w)).hash x.1) = kvs.map fun e => (tupleKind (mixKind P w)).hash e.1 := by
      intro kvs ys r
      induction r with
      | nil => rfl
      | cons q t ih =>
        rw [List.map_cons, List.map_cons, ih, q.1]
    rw [this rel]
    unfold kvT
    rw [List.map_map]
    rfl
theorem tup_type {s : Shared} {b : Addr} {vs : Array Value} (t : IsTup s.heap b vs) : s.TypeIs (.ref b) "tuple" := let ⟨o, ho, hc, _⟩ := t; ⟨o, ho, hc⟩
end

section
variable {X : Cx}
/-! ### dict(d) -/
def rCopyT : List V → Hp → VK → Prop := fun vs H Q => ∃ (d : Addr) (B : Bd), vs = [V.ref d] ∧ Rd H d (.dT (kvT B)) ∧ (B.map fun e => hashP e.1).Nodup ∧ ∀ p, H p = none → Q (.ref p) (upd H p (.dT (kvT B)))
/-- a dict of bounds that has come to stand at a new place -/
theorem bd_new {P : Program} {w : World} {H : Hp} {h : Heap} {p : Addr} {kvs : List (List Key × V)} {xs : List (List Key × Addr × Value)} (z : kvs.length ≤ sizeLine) (hp : (p == sysModules) = false)
    (rel : KT (upd H p (.dT kvs)) kvs xs) (dd : h.DictOfH (tupleKind (mixKind P w)) p xs) : ObjOk P w (upd H p (.dT kvs)) h p (.dT kvs) := by
  obtain ⟨q, es, ep, hq, h2, h3, h4, _, h5⟩ := dd
  exact ⟨z, hp, xs, rel, q, es, ep, hq, h2, h3, h4, h5⟩
theorem call_dictT (hu : X.A.units + 2 < cLine) : CallR X (.type "dict") rCopyT := by
  intro pins s σ H vs us Q I r h
  obtain ⟨d, B, rfl, hd, hap, q⟩ := h
  obtain ⟨u, rfl, ru⟩ := Vals.one r
  cases (show u = Value.ref d from ru)
  have I2 : Inv X pins σ H { s with heap := s.heap.push { cls := .type "dict", data := .dict #[] } } := I.kept (t' := s.toks) fun b o e => Heap.get?_push_of_some _ e
  obtain ⟨hz, hdS, xs, rel, old, tup, hh⟩ := bd_at I2.hok hd
  have hl : xs.length = B.length := by rw [← kvT_len B]; exact (Paired.length rel).symm
  have fresh : H s.heap.objs.size = none := I.hok.fresh (Nat.le_refl _)
  have ne : s.heap.objs.size ≠ d := fun e => by
    rcases hd with z | ⟨o, z⟩
    · rw [← e, fresh] at z; cases z
    · rw [← e, fresh] at z; cases z
  refine callType_codes (Q₁ := fun obj s₁ => obj = .ref s.heap.objs.size ∧ s₁ = { s with heap := s.heap.push { cls := .type "dict", data := .dict #[] } }) F.kt_called_dict (F.kt_typeCall_dict_1 _) F.entry_dict_init (kt_code_dict_new _ ⟨rfl, rfl⟩) ?_
  rintro obj s₁ ⟨rfl, rfl⟩
  have new : (s.heap.push { cls := .type "dict", data := .dict #[] }).DictOfH (tupleKind (mixKind X.prog X.w)) s.heap.objs.size [] := Heap.DictOfH.new s.heap
  refine ⟨new.typeIs, F.args_dict_init_2 _ _, ?_⟩
  unfold Builtin.«dict.__init__»
  refine wpAny_bind ?_
  unfold Builtin.Dict.selfAndRest
  refine wpAny_bind (wpAny_notOrdered_dict new.typeIs ?_)
  show wpAny _ _ (pure (s.heap.objs.size, [Value.ref d])) _ _ _
  refine wpAny_pure ?_
  refine updateFrom_dictH (A := X.A.in1) .none ?_ ne hdS new old (.inr ⟨fun x hx => tup_type (tup x hx), by rw [hh]; exact hap⟩) (by rw [List.length_nil, hl]; omega) fun h' h1 h2 sb => ?_
  · show X.A.in1.in1.units < cLine
    exact hu
  · rw [storedAllH_nil_of_nodup xs old.nodup] at h1
    have hs : (s.heap.objs.size == sysModules) = false := beq_eq_false_iff_ne.mpr (Ne.symm (Nat.ne_of_lt I.big))
    have I3 : Inv X pins σ (upd H s.heap.objs.size (.dT (kvT B))) { s with heap := h' } := by
      refine I.laid (t' := s.toks) (fun b o e => (sb.2 b (Nat.ne_of_lt (Heap.lt_size e))).trans (Heap.get?_push_of_some _ e)) (Nat.le_refl _) (bd_new (by rw [kvT_len]; exact hz) hs (rel.keeps fun c ys ec => ?_) h1)
      rw [upd_ne (ne_of_none ec fresh)]
      exact ec
    exact ⟨rfl, V.ref s.heap.objs.size, _, I3, rfl, q _ fresh⟩
/-! ### displays -/
def tPuts (p : Addr) : List (V × V) → Hp → (Hp → Prop) → Prop
  | [], H, R => R H
  | (y, z) :: r, H, R => ∃ H1, DPut H p y z H1 ∧ tPuts p r H1 R
/-- {k: v, ..} of any keys; the new dict stands empty while the pairs are made -/
def tDispA (trs : List (TE × TE)) : TE := fun σ H Q => ∃ o0, NewD o0 ∧ ∀ p, H p = none → tPairs trs σ (upd H p o0) fun ps H2 => tPuts p ps H2 (Q (.ref p))
theorem puts_ok {p : Addr} {E : Value → Shared → Prop} {Q : PUnit → Shared → Prop} {R : Hp → Prop} {pins : List (Addr × Obj)} {σ : L2.St} (hu : X.A.units < cLine) (k : ∀ H1 s1, Inv X pins σ H1 s1 → R H1 → Q PUnit.unit s1) (ps : List (V × V)) :
    ∀ (vs : List (Value × Value)) (H : Hp) (s : Shared), Inv X pins σ H s → VV ps vs → tPuts p ps H R → wpAny (model X.prog X.w) X.A (storeAll p vs) Q E s := by
  induction ps with
  | nil =>
    intro vs H s I r h
    cases r
    unfold storeAll
    rw [List.forIn_nil]
    exact wpAny_pure (k H s I h)
  | cons e ps ih =>
    intro vs H s I r h
    cases r with
    | cons r t =>
      obtain ⟨H1, hput, h1⟩ := h
      unfold storeAll
      rw [List.forIn_cons]
      refine wpAny_bind (wpAny_bind (d_put hu I hput r.1 r.2 fun s1 I1 => wpAny_pure ?_))
      exact ih _ H1 s1 I1 t h1
theorem pe_dispA {pos : Pos} {keys : List (Option Expr)} {values : List Expr} {trs : List (TE × TE)} (hu : X.A.units < cLine) (h : PPs X pos keys values trs) (hall : keys.all (·.isSome) = true) (hl : keys.length = values.length) (h0 : keys ≠ [])
    (h15 : keys.length ≤ 15) : PE X (.Dict keys values pos) (tDispA trs) := by
  constructor
  rintro pins s σ H Q I ⟨o0, hn, hq⟩
  have hq := hq _ (I.hok.fresh (Nat.le_refl s.heap.objs.size))
  have I1 : Inv X pins σ (upd H s.heap.objs.size o0) { s with heap := s.heap.push { cls := .type "dict", data := .dict #[] } } :=
    I.laid (t' := s.toks) (fun b o e => Heap.get?_push_of_some _ e) (Nat.le_refl _) (newD_ok hn I.big)
  refine wpAny_Dict_any hall hl h0 h15 (thn (h.run pins _ σ _ _ I1 hq) ?_)
  rintro vs s1 ⟨ps, H2, I2, rel, hp⟩
  exact puts_ok hu (fun H3 s3 I3 hr => ⟨V.ref s.heap.objs.size, H3, I3, rfl, hr⟩) ps vs H2 s1 I2 rel hp
/-! ### {**a, **b} of dicts of bounds -/
def mergeB (B C : Bd) : Bd := C.foldl (fun acc e => putB acc e.1 e.2) B
theorem KT.mergeB {H : Hp} : ∀ {C : Bd} {ys : List (List Key × Addr × Value)} {B : Bd} {xs : List (List Key × Addr × Value)}, KT H (kvT C) ys → KT H (kvT B) xs → KT H (kvT (mergeB B C)) (storedAllH xs ys)
  | [], _, _, _, .nil, h => h
  | e :: C, y :: ys, B, xs, .cons ⟨e1, e2, e3⟩ t, h => by
    have h1 := KT.put h (keyT e.1) e2 e3
    rw [putK_kvT] at h1
    have e1' : keyT e.1 = y.1 := e1
    show KT H (kvT (Bw.mergeB (putB B e.1 e.2) C)) (storedAllH (storedH xs y.1 y.2.1 y.2.2) ys)
    rw [← e1']
    exact KT.mergeB t h1
theorem merge_len : ∀ (C B : Bd), (mergeB B C).length ≤ B.length + C.length
  | [], B => Nat.le_refl _
  | e :: C, B => by
    have h := merge_len C (putB B e.1 e.2)
    have h2 : (putB B e.1 e.2).length ≤ B.length + 1 := by
      have := length_putK (kvT B) (keyT e.1) (V.int e.2)
      rw [putK_kvT, kvT_len, kvT_len] at this
      exact this
    show (mergeB (putB B e.1 e.2) C).length ≤ B.length + (C.length + 1)
    omega
/-- one ** : the dict at p takes those of x -/
def tTake (p : Addr) (x : V) (H : Hp) (R : Hp → Prop) : Prop := ∃ (o : Addr) (B C : Bd), x = .ref o ∧ p ≠ o ∧ Rd H o (.dT (kvT C)) ∧ H p = some (.dT (kvT B)) ∧ (C.map fun e => hashP e.1).Nodup ∧ B.length + C.length ≤ sizeLine ∧ R (upd H p (.dT (kvT (mergeB B C))))
def tMerge2 (ta tb : TE) : TE := fun σ H Q => ∀ p, H p = none → ta σ (upd H p (.dT [])) fun x H1 => tTake p x H1 fun H2 => tb σ H2 fun y H3 => tTake p y H3 (Q (.ref p))
theorem take_ok {p : Addr} {x : V} {u : Value} {R : Hp → Prop} {E : Value → Shared → Prop} {Q : Unit → Shared → Prop} {pins : List (Addr × Obj)} {σ : L2.St} {H : Hp} {s : Shared} (hu : X.A.units < cLine) (I : Inv X pins σ H s) (rx : RelV x u) (h : tTake p x H R)
    (k : ∀ H1 s1, Inv X pins σ H1 s1 → R H1 → Q () s1) : wpAny (model X.prog X.w) X.A (mergeMapping p u false) Q E s := by
  obtain ⟨o, B, C, rfl, ne, ho, hp, hap, hz, hr⟩ := h
  cases (show u = Value.ref o from rx)
  obtain ⟨zc, hoS, ys, relC, oldC, tup, hh⟩ := bd_at I.hok ho
  obtain ⟨zb, hpS, xs, relB, oldB, _, _⟩ := bd_at I.hok (.inl hp)
  have l1 : xs.length = B.length := by rw [← kvT_len B]; exact (Paired.length relB).symm
  have l2 : ys.length = C.length := by rw [← kvT_len C]; exact (Paired.length relC).symm
  refine mergeMapping_heap hu ne hoS oldB oldC (fun x hx => tup_type (tup x hx)) (.inr (by rw [hh]; exact hap)) (by omega) fun h' h1 h2 sb => k _ _ ?_ hr
  obtain ⟨q, es, ep, hq, g2, g3, g4, _, g5⟩ := h1
  refine d_write (t' := s.toks) I (by rw [hp]; exact True.intro) sb ⟨q, hq⟩ ⟨by rw [kvT_len]; exact Nat.le_trans (merge_len C B) hz, hpS, _, (KT.mergeB relC relB).keeps fun c zs ec => ?_, q, es, ep, hq, g2, g3, g4, g5⟩
  rw [upd_ne (ne_of ec hp (fun z => nomatch z))]
  exact ec
theorem pe_merge2 {a b : Expr} {ta tb : TE} {pos : Pos} (hu : X.A.units < cLine) (ha : PE X a ta) (hb : PE X b tb) : PE X (.Dict [none, none] [a, b] pos) (tMerge2 ta tb) := by
  constructor
  intro pins s σ H Q I h
  rw [arm_eval_Dict]
  refine wpAny_bind (wpAny_standAt ?_)
  show wpAny _ _ (dictDisplay [(none, do let x ← eval a X.env; standAt pos; pure x), (none, do let x ← eval b X.env; standAt pos; pure x)]) _ _ s
  unfold dictDisplay
  simp only [List.forIn_cons, List.forIn_nil, List.isEmpty_nil, if_true]
  have hf : H s.heap.objs.size = none := I.hok.fresh (Nat.le_refl _)
  have h1 := h _ hf
  have I1 : Inv X pins σ (upd H s.heap.objs.size (.dT [])) { s with heap := s.heap.push { cls := .type "dict", data := .dict #[] } } :=
    I.laid (t' := s.toks) (fun b o e => Heap.get?_push_of_some _ e) (Nat.le_refl _) (dt_empty s.heap I.big)
  refine wpAny_bind (wpAny_bind (wpAny_bind (wpAny_pure ?_)))
  refine wpAny_bind (wpAny_alloc ?_)
  refine wpAny_bind (wpAny_holding (wpAny_bind (thn (ha.run pins _ σ _ _ I1 h1) ?_)))
  rintro u s1 ⟨x, H1, I2, rx, tk⟩
  refine wpAny_bind (wpAny_standAt (wpAny_pure ?_))
  refine wpAny_bind (wpAny_onRaise (wpAny_tryCatch (wpAny_onRaise (wpAny_holding (take_ok hu I2 rx tk ?_)))))
  intro H2 s2 I3 h2
  refine wpAny_pure ?_
  dsimp only
  refine wpAny_bind (wpAny_bind ?_)
  show wpAny _ _ (pure (some s.heap.objs.size)) _ _ _
  refine wpAny_pure ?_
  dsimp only
  refine wpAny_bind (wpAny_pure ?_)
  refine wpAny_bind (wpAny_holding (wpAny_bind (thn (hb.run pins _ σ _ _ I3 h2) ?_)))
  rintro u2 s3 ⟨y, H3, I4, ry, tk2⟩
  refine wpAny_bind (wpAny_standAt (wpAny_pure ?_))
  refine wpAny_bind (wpAny_onRaise (wpAny_tryCatch (wpAny_onRaise (wpAny_holding (take_ok hu I4 ry tk2 ?_)))))
  intro H4 s4 I5 h4
  refine wpAny_pure (wpAny_pure ?_)
  dsimp only
  refine wpAny_bind ?_
  show wpAny _ _ (pure (some s.heap.objs.size)) _ _ _
  refine wpAny_pure ?_
  exact wpAny_pure ⟨V.ref s.heap.objs.size, H4, I5, rfl, h4⟩
end
end Bw

/-! sorted of a dict: its keys, a new list. -/
namespace Bw
open PySem PySem.Spec PyProof.Rows L2

section
variable {prog : Program} {w : World} {A : Around} {E : Value → Shared → Prop} {s : Shared} {T : String} {r d : Addr} {n : Nat} {P : Nat → Value → Prop} {OK : Heap → Prop}
theorem sorted_src {Q : Value → Shared → Prop} (K : PySem.W.KdlSrc prog w T r d n P OK) (hh : A.handled = none) (hok : OK s.heap) (hn : n ≤ sizeLine)
    (h : ∀ (h' : Heap) (tk : Nat) (vs : List Value), (∀ b o, s.heap.get? b = some o → h'.get? b = some o) → vs.length = n → (∀ j v, vs[j]? = some v → P j v) →
      wpAny (model prog w) A.in1 (call (.builtin "list.sort") [.ref h'.objs.size]) (fun _ s1 => Q (.ref h'.objs.size) s1) E { s with heap := h'.push { cls := .type "list", data := .seq vs.toArray }, toks := tk }) :
    wpAny (model prog w) A (call (.builtin "sorted") [.ref r]) Q E s := by
  refine PySem.Calls.call_function_entry kind_sorted plain_sorted entry_sorted (args_sorted1 _) ?_
  unfold Builtin.«sorted»
  refine wpAny_bind (m := checkCount "sorted" 1 1 _) (wpAny_pure ?_)
  refine wpAny_bind (PySem.W.kdu_collect (A := A.in1) K hh hok hn fun h' tk acc hk hacc => ?_)
  have hl : acc.toList.length = n := by rw [Array.length_toList]; exact hacc.1
  refine wpAny_bind (wpAny_newList ?_ (by rw [hl]; exact hn))
  refine wpAny_bind (wpAny_holding (wpAny_mono (h h' tk acc.toList hk hl fun j v e => hacc.2 j v (by rw [← Array.getElem?_toList]; exact e)) (fun _ s1 x => ?_) fun _ _ e => e))
  exact wpAny_pure ⟨_, rfl, x⟩
/-- the sort of the new list, by an order of the values -/
theorem sort_new {l : Addr} {h1 : Heap} {vs : List Value} {ltv : Value → Value → Bool} {Q : Value → Shared → Prop} (O : SrtO.Swo ltv) (ho : h1.get? l = some { cls := .type "list", data := .seq vs.toArray }) (hz : vs.length ≤ sizeLine)
    (hS : 2 ≤ vs.length → SrtO.SortableO prog w A.in1 { s with heap := h1 } l vs ltv)
    (h : ∀ (out : List Value) (h2 : Heap), out.Perm vs → (∃ ep, h2.get? l = some { cls := .type "list", data := .seq out.toArray ep }) → (∀ b o, b ≠ l → h1.get? b = some o → h2.get? b = some o) → Q .none { s with heap := h2 }) :
    wpAny (model prog w) A (call (.builtin "list.sort") [.ref l]) Q E { s with heap := h1 } := by
  refine wpAny_call_entry PyProof.Rows.slot_list_sort ⟨_, ho, rfl⟩ PyProof.Rows.entry_list_sort (SrtO.list_sort_ord O ho hz hS fun out k1 k2 => ⟨.none, rfl, ?_⟩) (PyProof.Rows.args_list_sort _)
  obtain ⟨ep, he⟩ := PyProof.Rows.sortedHeap_at (vs := vs) (out := out.toArray) ho
  exact h out _ k2.perm ⟨ep, he⟩ fun b o hb e => by rw [PyProof.Rows.sortedHeap_old hb (Heap.lt_size e)]; exact e
end

section
variable {X : Cx}
/-- sorted(d), d a dict of bounds: its keys' own tuples, in some order -/
def rSortT : List V → Hp → VK → Prop := fun vs H Q => ∃ (d : Addr) (B : Bd), vs = [V.ref d] ∧ Rd H d (.dT (kvT B)) ∧
  ∀ (ys : List (Addr × Pt)) p, (ys.map (·.2)).Perm (keysB B) → (∀ y ∈ ys, H y.1 = some (.tup [.int y.2.1, .int y.2.2])) → H p = none → Q (.ref p) (upd H p (.lst (ys.map fun y => V.ref y.1)))
theorem perm_map {α β : Type} (f : α → β) {m l : List β} (hp : m.Perm l) : ∀ k : List α, k.map f = l → ∃ k' : List α, k'.map f = m ∧ k'.Perm k := by
  induction hp with
  | nil => intro k e; exact ⟨k, e, .refl _⟩
  | cons x _ ih =>
    intro k e
    cases k with
    | nil => cases e
    | cons y k =>
      rw [List.map_cons] at e
      injection e with e1 e2
      obtain ⟨k', h1, h2⟩ := ih k e2
      exact ⟨y :: k', by rw [List.map_cons, h1, e1], h2.cons y⟩
  | swap x y l =>
    intro k e
    match k, e with
    | u :: v :: k, e =>
      simp only [List.map_cons, List.cons.injEq] at e
      exact ⟨v :: u :: k, by simp only [List.map_cons, e.1, e.2.1, e.2.2], .swap _ _ _⟩
  | trans _ _ ih1 ih2 =>
    intro k e
    obtain ⟨k1, h1, p1⟩ := ih2 k e
    obtain ⟨k2, h2, p2⟩ := ih1 k1 h1
    exact ⟨k2, h2, p2.trans p1⟩
theorem cr_sortT (hc : X.calm = true) : CallR X (.builtin "sorted") rSortT := by
  intro pins s σ H vs us Q I r h
  obtain ⟨d, B, rfl, hd, q⟩ := h
  obtain ⟨u, rfl, ru⟩ := Vals.one r
  cases (show u = Value.ref d from ru)
  obtain ⟨z, hs, ks, pr, o, es, ep, ho, hx, hdt, he, hn⟩ := (show ObjOk X.prog X.w H s.heap d (.dT (kvT B)) from hd.ok I.hok)
  have l1 : es.size = ks.length := size_of_entries he
  have l2 : (kvT B).length = ks.length := Paired.length pr
  -- the keys' tuples, with what they are
  obtain ⟨xs, hxs⟩ : ∃ xs : List (Addr × Pt), xs = (ks.zip B).map fun e => (e.1.2.1, e.2.1) := ⟨_, rfl⟩
  have lx : xs.length = es.size := by
    rw [hxs, List.length_map, List.length_zip]
    rw [kvT_len] at l2
    omega
  have at_ : ∀ j, j < xs.length → ∃ k e, ks[j]? = some k ∧ B[j]? = some e ∧ xs[j]? = some (k.2.1, e.1) ∧ H k.2.1 = some (.tup [.int e.1.1, .int e.1.2]) := by
    intro j hj
    have j1 : j < ks.length := by omega
    have j2 : j < B.length := by rw [kvT_len] at l2; omega
    obtain ⟨b, hb, e1, e2, _⟩ := paired_get pr (show (kvT B)[j]? = some (keyT B[j].1, V.int B[j].2) by unfold kvT; rw [List.getElem?_map, List.getElem?_eq_getElem j2]; rfl)
    rw [List.getElem?_eq_getElem j1] at hb
    cases hb
    refine ⟨ks[j], B[j], List.getElem?_eq_getElem j1, List.getElem?_eq_getElem j2, ?_, e2⟩
    have hz : (ks.zip B)[j]? = some (ks[j], B[j]) := List.getElem?_zip_eq_some.mpr ⟨List.getElem?_eq_getElem j1, List.getElem?_eq_getElem j2⟩
    rw [hxs, List.getElem?_map, hz]
    rfl
  have tup : ∀ y ∈ xs, H y.1 = some (.tup [.int y.2.1, .int y.2.2]) := fun y hy => by
    obtain ⟨j, hj, rfl⟩ := List.mem_iff_getElem.mp hy
    obtain ⟨k, e, _, _, h3, h4⟩ := at_ j hj
    rw [List.getElem?_eq_getElem hj] at h3
    rw [Option.some.inj h3]
    exact h4
  have keys : xs.map (·.2) = keysB B := by
    apply List.ext_getElem?
    intro j
    rw [List.getElem?_map]
    unfold keysB
    rw [List.getElem?_map]
    by_cases hj : j < xs.length
    · obtain ⟨k, e, _, h2, h3, _⟩ := at_ j hj
      rw [h3, h2]
      rfl
    · rw [List.getElem?_eq_none (by omega), List.getElem?_eq_none (by rw [kvT_len] at l2; omega)]
      rfl
  refine sorted_src (kdl_raw hs hx hdt) (I.ok.hd hc) ho (by omega) fun h' tk ws kp wl wat => ?_
  have ews : ws = xs.map fun y => Value.ref y.1 := by
    apply List.ext_getElem?
    intro j
    rw [List.getElem?_map]
    by_cases hj : j < xs.length
    · obtain ⟨k, e, h1, _, h3, _⟩ := at_ j hj
      obtain ⟨en, hen, hv⟩ := wat j ws[j] (List.getElem?_eq_getElem (by omega))
      have qe := entry_at he j
      rw [hen, h1] at qe
      rw [h3, List.getElem?_eq_getElem (show j < ws.length by omega), hv, Option.some.inj qe]
      rfl
    · rw [List.getElem?_eq_none (by omega), List.getElem?_eq_none (by omega)]
      rfl
  have I1 : Inv X pins σ H { s with heap := h', toks := tk } := I.kept kp
  have nw : (h'.push { cls := .type "list", data := .seq ws.toArray }).get? h'.objs.size = some { cls := .type "list", data := .seq ws.toArray } := Heap.get?_push_size _ rfl
  have up : ∀ b o, h'.get? b = some o → (h'.push { cls := .type "list", data := .seq ws.toArray }).get? b = some o := fun b o e => Heap.get?_push_of_some _ e
  -- which pair a value is
  obtain ⟨kk, hkk⟩ : ∃ kk : Value → Int × Int, ∀ y ∈ xs, kk (.ref y.1) = y.2 := by
    refine ⟨fun v => match v with | .ref a => (match H a with | some (.tup [.int i, .int j]) => (i, j) | _ => (0, 0)) | _ => (0, 0), fun y hy => ?_⟩
    show (match H y.1 with | some (.tup [.int i, .int j]) => (i, j) | _ => (0, 0)) = y.2
    rw [tup y hy]
  have pairs : ∀ v ∈ ws, Srt.IsPair (h'.push { cls := .type "list", data := .seq ws.toArray }) v (kk v).1 (kk v).2 := fun v hv => by
    rw [ews] at hv
    obtain ⟨y, hy, rfl⟩ := List.mem_map.mp hv
    obtain ⟨_, its, r2, ob, hob, hcl, m, hdat⟩ := I1.hok _ _ (tup y hy)
    obtain ⟨u1, u2, rfl, ri, rj⟩ := vals2 r2
    obtain ⟨t1, rfl⟩ := ri
    obtain ⟨t2, rfl⟩ := rj
    rw [hkk y hy]
    exact ⟨y.1, ob, t1, t2, m, rfl, up _ _ hob, hcl, hdat⟩
  refine sort_new (A := X.A.in1) (s := { s with toks := tk }) (SrtO.swo_lex kk) nw (by omega) (fun h2 => SrtO.pairs_sortableO (by omega) pairs fun ob e c => ?_) fun out h2 perm new old => ?_
  · rw [nw] at e
    cases e
    exact absurd (Value.type.inj c) (by decide)
  · obtain ⟨ep2, hnew⟩ := new
    rw [ews] at perm
    obtain ⟨ys, e1, e2⟩ := perm_map (fun y : Addr × Pt => Value.ref y.1) perm xs rfl
    have mem : ∀ y ∈ ys, y ∈ xs := fun y hy => e2.mem_iff.mp hy
    have hf : H h'.objs.size = none := I1.hok.fresh (Nat.le_refl _)
    have rv : Vals (ys.map fun y => V.ref y.1) out := by
      rw [← e1]
      have : ∀ l : List (Addr × Pt), Vals (l.map fun y => V.ref y.1) (l.map fun y => Value.ref y.1) := fun l => by
        induction l with
        | nil => exact .nil
        | cons y l ih => exact .cons rfl ih
      exact this ys
    have hlen : (ys.map fun y => V.ref y.1).length ≤ sizeLine := by
      rw [List.length_map, e2.length_eq, lx, l1, ← l2]
      exact z
    have I2 : Inv X pins σ (upd H h'.objs.size (.lst (ys.map fun y => V.ref y.1))) { s with heap := h2, toks := tk } :=
      I1.laid (t' := tk) (fun b o e => old b o (Nat.ne_of_lt (Heap.lt_size e)) (up b o e)) (Nat.le_refl _) ⟨hlen, out, ep2, rv, hnew⟩
    exact ⟨V.ref h'.objs.size, _, I2, rfl, q ys _ (by rw [← keys]; exact e2.map _) (fun y hy => tup y (mem y hy)) hf⟩
/-- sorted(d), d a dict whose keys are numbers -/
def kvI (S : List (Int × V)) : List (Key × V) := S.map fun e => (Sum.inl e.1, e.2)
def rSortK : List V → Hp → VK → Prop := fun vs H Q => ∃ (d : Addr) (S : List (Int × V)), vs = [V.ref d] ∧ H d = some (.dK (kvI S)) ∧
  ∀ (ns : List Int) p, ns.Perm (S.map (·.1)) → H p = none → Q (.ref p) (upd H p (.lst (ns.map V.int)))
theorem cr_sortK (hc : X.calm = true) : CallR X (.builtin "sorted") rSortK := by
  intro pins s σ H vs us Q I r h
  obtain ⟨d, S, rfl, hd, q⟩ := h
  obtain ⟨u, rfl, ru⟩ := Vals.one r
  cases (show u = Value.ref d from ru)
  obtain ⟨z, hs, ps, rel, dd⟩ := dk_of I.hok hd
  obtain ⟨es, ep, ⟨o, ho, hx, hdt⟩, l1, en⟩ := dd.raw
  have l2 : (kvI S).length = ps.length := rel.length
  have l3 : (kvI S).length = S.length := List.length_map _
  refine sorted_src (kdl_raw hs hx hdt) (I.ok.hd hc) ho (by omega) fun h' tk ws kp wl wat => ?_
  have intAt : ∀ j, j < S.length → ∃ e t, S[j]? = some e ∧ ws[j]? = some (Value.int e.1 t) := by
    intro j hj
    have he : (kvI S)[j]? = some (Sum.inl S[j].1, S[j].2) := by
      unfold kvI
      rw [List.getElem?_map, List.getElem?_eq_getElem hj]
      rfl
    obtain ⟨b, hb, e1, _⟩ := paired_get rel he
    have hje : j < es.size := by omega
    have k1 := (en j hje b.1 b.2 hb).1
    rw [← e1] at k1
    obtain ⟨t, ek⟩ := Value.isInt_shape (k := S[j].1) (v := es[j].key) k1
    obtain ⟨en2, hen, hv⟩ := wat j (ws[j]'(by omega)) (List.getElem?_eq_getElem (by omega))
    rw [Array.getElem?_eq_getElem hje] at hen
    refine ⟨S[j], t, List.getElem?_eq_getElem hj, ?_⟩
    rw [List.getElem?_eq_getElem (show j < ws.length by omega), hv, ← Option.some.inj hen, ek]
  have lw : ws.length = S.length := by omega
  have vI : Vals (S.map fun e => V.int e.1) ws := by
    refine vals_of_at (by rw [List.length_map, lw]) fun j x u hx hu => ?_
    by_cases hj : j < S.length
    · obtain ⟨e, t, h1, h2⟩ := intAt j hj
      rw [List.getElem?_map, h1] at hx
      rw [h2] at hu
      cases hx
      cases hu
      exact ⟨t, rfl⟩
    · rw [List.getElem?_map, List.getElem?_eq_none (by omega)] at hx
      cases hx
  have em : (S.map fun e => V.int e.1) = (S.map (·.1)).map V.int := by rw [List.map_map]; rfl
  rw [em] at vI
  have hI := vI.ints
  have I1 : Inv X pins σ H { s with heap := h', toks := tk } := I.kept kp
  have nw : (h'.push { cls := .type "list", data := .seq ws.toArray }).get? h'.objs.size = some { cls := .type "list", data := .seq ws.toArray } := Heap.get?_push_size _ rfl
  refine sort_new (A := X.A.in1) (s := { s with toks := tk }) SrtO.swo_int nw (by omega) (fun h2 => SrtO.ints_sortable hI h2) fun out h2 perm new old => ?_
  obtain ⟨ep2, hnew⟩ := new
  have outI : ∀ v ∈ out, ∃ i t, v = Value.int i t := fun v hv => SrtO.ints_mem hI v (perm.mem_iff.mp hv)
  have oi := SrtO.ints_iv outI
  have pm : (out.map SrtO.iv).Perm (S.map (·.1)) := by
    rw [← SrtO.iv_ints hI]
    exact perm.map _
  have hf : H h'.objs.size = none := I1.hok.fresh (Nat.le_refl _)
  have hlen : ((out.map SrtO.iv).map V.int).length ≤ sizeLine := by
    rw [List.length_map, pm.length_eq, List.length_map, ← l3]
    exact z
  have I2 : Inv X pins σ (upd H h'.objs.size (.lst ((out.map SrtO.iv).map V.int))) { s with heap := h2, toks := tk } :=
    I1.laid (t' := tk) (fun b o e => old b o (Nat.ne_of_lt (Heap.lt_size e)) (Heap.get?_push_of_some _ e)) (Nat.le_refl _) ⟨hlen, out, ep2, vals_of_ints oi, hnew⟩
  exact ⟨V.ref h'.objs.size, _, I2, rfl, q _ _ pm hf⟩
end
end Bw

/-! The text by places; what a def of the text is, and what it promises; what a table is. -/
namespace Bw
open PySem PySem.Spec PyProof.Rows L2
def topS (i : Nat) : Stmt := PySem.Challenge.pw_blindweirs_k10_whole_tables_and_all_smal.main.body.getD i (.Pass ⟨0, 0, 0, 0⟩)
abbrev s_is_number : Stmt := topS 8
theorem sc_is_number : FnScope ["thing"] ["thing"] (defScope s_is_number) := ⟨rfl, rfl, rfl, by decide +kernel, rfl, by decide +kernel, by decide +kernel⟩
abbrev s_is_water : Stmt := topS 9
theorem sc_is_water : FnScope ["thing", "part"] ["thing"] (defScope s_is_water) := ⟨rfl, rfl, rfl, by decide +kernel, rfl, by decide +kernel, by decide +kernel⟩
abbrev s_sums_of : Stmt := topS 10
theorem sc_sums_of : FnScope ["water", "found", "part"] ["water"] (defScope s_sums_of) := ⟨rfl, rfl, rfl, by decide +kernel, rfl, by decide +kernel, by decide +kernel⟩
abbrev s_sums : Stmt := topS 11
theorem sc_sums : FnScope ["water"] ["water"] (defScope s_sums) := ⟨rfl, rfl, rfl, by decide +kernel, rfl, by decide +kernel, by decide +kernel⟩
abbrev s_water_of : Stmt := topS 12
theorem sc_water_of : FnScope ["levels", "above", "below"] ["levels"] (defScope s_water_of) := ⟨rfl, rfl, rfl, by decide +kernel, rfl, by decide +kernel, by decide +kernel⟩
abbrev s_is_point : Stmt := topS 13
theorem sc_is_point : FnScope ["thing", "size"] ["thing", "size"] (defScope s_is_point) := ⟨rfl, rfl, rfl, by decide +kernel, rfl, by decide +kernel, by decide +kernel⟩
abbrev s_is_pair : Stmt := topS 14
theorem sc_is_pair : FnScope ["thing", "size", "part"] ["thing", "size"] (defScope s_is_pair) := ⟨rfl, rfl, rfl, by decide +kernel, rfl, by decide +kernel, by decide +kernel⟩
abbrev s_fits_sums : Stmt := topS 16
theorem sc_fits_sums : FnScope ["table", "levels", "pair", "bound"] ["table", "levels"] (defScope s_fits_sums) := ⟨rfl, rfl, rfl, by decide +kernel, rfl, by decide +kernel, by decide +kernel⟩
abbrev s_need_table : Stmt := topS 17
theorem sc_need_table : FnScope ["table"] ["table"] (defScope s_need_table) := ⟨rfl, rfl, rfl, by decide +kernel, rfl, by decide +kernel, by decide +kernel⟩
abbrev s_need_same : Stmt := topS 18
theorem sc_need_same : FnScope ["one", "other"] ["one", "other"] (defScope s_need_same) := ⟨rfl, rfl, rfl, by decide +kernel, rfl, by decide +kernel, by decide +kernel⟩
abbrev s_nothing : Stmt := topS 19
theorem sc_nothing : FnScope ["size"] ["size"] (defScope s_nothing) := ⟨rfl, rfl, rfl, by decide +kernel, rfl, by decide +kernel, by decide +kernel⟩
abbrev s_least_ways : Stmt := topS 20
theorem sc_least_ways : FnScope ["size", "bounds", "found", "point", "a", "b", "begins", "ends", "one", "two"] ["size", "bounds"] (defScope s_least_ways) := ⟨rfl, rfl, rfl, by decide +kernel, rfl, by decide +kernel, by decide +kernel⟩
abbrev s_bounds_of : Stmt := topS 21
theorem sc_bounds_of : FnScope ["table", "found", "point", "pair", "bound"] ["table"] (defScope s_bounds_of) := ⟨rfl, rfl, rfl, by decide +kernel, rfl, by decide +kernel, by decide +kernel⟩
abbrev s_table_of : Stmt := topS 22
theorem sc_table_of : FnScope ["size", "bounds"] ["size", "bounds"] (defScope s_table_of) := ⟨rfl, rfl, rfl, by decide +kernel, rfl, by decide +kernel, by decide +kernel⟩
abbrev s_closed_of : Stmt := topS 23
theorem sc_closed_of : FnScope ["table"] ["table"] (defScope s_closed_of) := ⟨rfl, rfl, rfl, by decide +kernel, rfl, by decide +kernel, by decide +kernel⟩
abbrev s_closed : Stmt := topS 24
theorem sc_closed : FnScope ["table"] ["table"] (defScope s_closed) := ⟨rfl, rfl, rfl, by decide +kernel, rfl, by decide +kernel, by decide +kernel⟩
abbrev s_ring_from : Stmt := topS 25
theorem sc_ring_from : FnScope ["steps", "bounds", "start", "way", "at", "found", "pair"] ["steps", "bounds"] (defScope s_ring_from) := ⟨rfl, rfl, rfl, by decide +kernel, rfl, by decide +kernel, by decide +kernel⟩
abbrev s_ring_of : Stmt := topS 26
theorem sc_ring_of : FnScope ["nodes", "bounds", "levels", "steps", "turn", "is_still", "a", "b", "bound", "found", "node"] ["nodes", "bounds"] (defScope s_ring_of) := ⟨rfl, rfl, rfl, by decide +kernel, rfl, by decide +kernel, by decide +kernel⟩
abbrev s_ring : Stmt := topS 27
theorem sc_ring : FnScope ["table"] ["table"] (defScope s_ring) := ⟨rfl, rfl, rfl, by decide +kernel, rfl, by decide +kernel, by decide +kernel⟩
abbrev s_is_in : Stmt := topS 28
theorem sc_is_in : FnScope ["one", "other", "known", "pair", "bound"] ["one", "other"] (defScope s_is_in) := ⟨rfl, rfl, rfl, by decide +kernel, rfl, by decide +kernel, by decide +kernel⟩
abbrev s_need_two : Stmt := topS 29
theorem sc_need_two : FnScope ["one", "other"] ["one", "other"] (defScope s_need_two) := ⟨rfl, rfl, rfl, by decide +kernel, rfl, by decide +kernel, by decide +kernel⟩
abbrev s_is_within : Stmt := topS 30
theorem sc_is_within : FnScope ["one", "other"] ["one", "other"] (defScope s_is_within) := ⟨rfl, rfl, rfl, by decide +kernel, rfl, by decide +kernel, by decide +kernel⟩
abbrev s_is_same : Stmt := topS 31
theorem sc_is_same : FnScope ["one", "other"] ["one", "other"] (defScope s_is_same) := ⟨rfl, rfl, rfl, by decide +kernel, rfl, by decide +kernel, by decide +kernel⟩
abbrev s_both_of : Stmt := topS 32
theorem sc_both_of : FnScope ["one", "other", "found", "pair", "bound"] ["one", "other"] (defScope s_both_of) := ⟨rfl, rfl, rfl, by decide +kernel, rfl, by decide +kernel, by decide +kernel⟩
abbrev s_both : Stmt := topS 33
theorem sc_both : FnScope ["one", "other"] ["one", "other"] (defScope s_both) := ⟨rfl, rfl, rfl, by decide +kernel, rfl, by decide +kernel, by decide +kernel⟩
abbrev s_end_water : Stmt := topS 34
theorem sc_end_water : FnScope ["table", "sign", "known", "levels", "point", "pair"] ["table", "sign"] (defScope s_end_water) := ⟨rfl, rfl, rfl, by decide +kernel, rfl, by decide +kernel, by decide +kernel⟩
abbrev s_highest : Stmt := topS 35
theorem sc_highest : FnScope ["table"] ["table"] (defScope s_highest) := ⟨rfl, rfl, rfl, by decide +kernel, rfl, by decide +kernel, by decide +kernel⟩
abbrev s_lowest : Stmt := topS 36
theorem sc_lowest : FnScope ["table"] ["table"] (defScope s_lowest) := ⟨rfl, rfl, rfl, by decide +kernel, rfl, by decide +kernel, by decide +kernel⟩
abbrev s_hidden : Stmt := topS 37
theorem sc_hidden : FnScope ["table", "points", "left", "known", "places", "kept", "point", "one", "other", "at", "pair", "bound", "a", "b"] ["table", "points"] (defScope s_hidden) := ⟨rfl, rfl, rfl, by decide +kernel, rfl, by decide +kernel, by decide +kernel⟩
abbrev s__law_begun : Stmt := topS 39
theorem sc__law_begun : FnScope ["_law_script", "_law_cells", "_law_cell"] ["_law_script"] (defScope s__law_begun) := ⟨rfl, rfl, rfl, by decide +kernel, rfl, by decide +kernel, by decide +kernel⟩
abbrev s__law_draw : Stmt := topS 40
theorem sc__law_draw : FnScope ["_law_state", "_law_many", "_law_found", "_law_turn", "_law_cell", "_law_mixed"] ["_law_state", "_law_many"] (defScope s__law_draw) := ⟨rfl, rfl, rfl, by decide +kernel, rfl, by decide +kernel, by decide +kernel⟩
abbrev s__law_pick : Stmt := topS 41
theorem sc__law_pick : FnScope ["_law_state", "_law_several"] ["_law_state", "_law_several"] (defScope s__law_pick) := ⟨rfl, rfl, rfl, by decide +kernel, rfl, by decide +kernel, by decide +kernel⟩
abbrev s__law_caps : Stmt := topS 42
theorem sc__law_caps : FnScope ["_law_state", "_law_many", "_law_thick", "_law_wide", "_law_found", "_law_a_here", "_law_b_here"] ["_law_state", "_law_many", "_law_thick", "_law_wide"] (defScope s__law_caps) := ⟨rfl, rfl, rfl, by decide +kernel, rfl, by decide +kernel, by decide +kernel⟩
abbrev s__law_waters : Stmt := topS 43
theorem sc__law_waters : FnScope ["_law_many", "_law_found", "_law_spot", "_law_longer", "_law_pool", "_law_part"] ["_law_many"] (defScope s__law_waters) := ⟨rfl, rfl, rfl, by decide +kernel, rfl, by decide +kernel, by decide +kernel⟩
abbrev s__law_is_passed : Stmt := topS 44
theorem sc__law_is_passed : FnScope ["_law_pool", "_law_top", "_law_low", "_law_levels", "_law_pair"] ["_law_pool", "_law_top", "_law_low"] (defScope s__law_is_passed) := ⟨rfl, rfl, rfl, by decide +kernel, rfl, by decide +kernel, by decide +kernel⟩
abbrev s__law_out : Stmt := topS 45
theorem sc__law_out : FnScope ["_law_left", "_law_right", "_law_many", "_law_known", "_law_pair", "_law_cap", "_law_a_here", "_law_b_here", "_law_near"] ["_law_left", "_law_right", "_law_many"] (defScope s__law_out) := ⟨rfl, rfl, rfl, by decide +kernel, rfl, by decide +kernel, by decide +kernel⟩
abbrev s_law : Stmt := topS 46
theorem sc_law : FnScope ["_law_script", "_law_state", "_law_turn", "_law_many", "_law_left", "_law_right", "_law_shared", "_law_known", "_law_top", "_law_low", "_law_spot", "_law_slim", "_law_is_in", "_law_fitting", "_law_pool", "_law_fits_here", "_law_levels", "_law_k", "_law_level"] ["_law_script"] (defScope s_law) := ⟨rfl, rfl, rfl, by decide +kernel, rfl, by decide +kernel, by decide +kernel⟩
abbrev sT___init__ : Stmt := inClass (topS 15) 0
theorem scT___init__ : FnScope ["self", "size", "bounds", "told", "pair", "bound"] ["self", "size", "bounds"] (defScope sT___init__) := ⟨rfl, rfl, rfl, by decide +kernel, rfl, by decide +kernel, by decide +kernel⟩
abbrev sT_bounds : Stmt := inClass (topS 15) 2
theorem scT_bounds : FnScope ["self"] ["self"] (defScope sT_bounds) := ⟨rfl, rfl, rfl, by decide +kernel, rfl, by decide +kernel, by decide +kernel⟩
abbrev sT_fits : Stmt := inClass (topS 15) 5
theorem scT_fits : FnScope ["self", "water"] ["self", "water"] (defScope sT_fits) := ⟨rfl, rfl, rfl, by decide +kernel, rfl, by decide +kernel, by decide +kernel⟩

/-- a def of the top: where it stands -/
def Def (K : PySem.W.Frag) (mg : Str → Option Value) (x : Str) (st : Stmt) (ps : List Str) : Prop :=
  ∃ (f : Addr) (fd : FuncData), Fun K x x st f fd ∧ Binds K fd ps [] ∧ mg x = some (.ref f)
/-- a def of the top keeps a promise -/
def Prom (P : Program) (w : World) (K : PySem.W.Frag) (mg : Str → Option Value) (base : Heap) (x : Str) (k : Nat) (ps : List Str) (sp : Sp) : Prop :=
  ∃ (f : Addr) (fd : FuncData), FnOk P w K mg base CX0 k f fd ps sp ∧ mg x = some (.ref f) ∧ PySem.W.keepIn K (.ref f) = true ∧ Binds K fd ps []
section
variable {P : Program} {w : World} {K : PySem.W.Frag} {mg : Str → Option Value} {base : Heap}
/-- THE RULE for a def of the top -/
theorem Def.ok {x : Str} {st : Stmt} {N ps : List Str} {k : Nat} {sp : Sp} (D : Def K mg x st ps) (S : FnScope N ps (defScope st)) (len : ∀ vs H Q E, sp vs H Q E → vs.length = ps.length)
    (hbody : ∀ (f : Addr) (cdv : Value) (A : Around) (outer : List Env) (s : Shared) (H : Hp) (vs : List V) (Q : VK) (E : XK), Room k (A.deeper (envOfC x (defScope st) s.heap.objs.size f cdv)) → sp vs H Q E →
      ∃ t, PSs (cxOf CX0 P w K mg base N x (defScope st) f cdv A outer s H E).nox (defBody st) t ∧ t { nx := fun _ H' => Q .non H', rt := Q } (start N vs) H) : Prom P w K mg base x (k + 1) ps sp := by
  obtain ⟨f, fd, F, b, g⟩ := D
  exact ⟨f, fd, F.ok S len (hbody f), g, F.kp, b⟩
end
section
variable {X : Cx} {x : Str} {k : Nat} {ps : List Str} {sp : Sp} {p pos : Pos} {e : Expr} {es : List Expr} {t : TA}
theorem pe_p (h : Prom X.prog X.w X.K X.mg X.base x k ps sp) (hr : Room k X.A) (hg : Gl X x) (ha : PA X (e :: es) t) (hdb : (x == ("__debug__" : Str)) = false := by decide)
    (he : starEach (e :: es) X.env = (false, eval e X.env) :: starEach es X.env := by rfl) (hpl : (backTo pos (starEach es X.env)).any (·.1) = false := by rfl) :
    PE X (.Call (.Name x p) (e :: es) [] pos) (tCall sp [] E0 t) := by
  obtain ⟨f, fd, F, g, kp, b⟩ := h
  exact pe_call F hr hg g kp b .nil pass0 ha hdb he hpl
end
end Bw
namespace L2
open PySem PySem.Spec PyProof.Rows
/-! ### heaps -/
theorem same_new {H : Hp} {p : Addr} {o : HO} (h : H p = none) : Same H (upd H p o) := fun b x e => by
  rw [upd_ne (ne_of_none e h)]
  exact e
theorem Same.upd_new {H H1 : Hp} {p : Addr} {o : HO} (s : Same H H1) (h : H1 p = none) : Same H (upd H1 p o) := s.trans (same_new h)
/-- a write at a place that was not tracked at the start -/
theorem Same.upd_own {H H1 : Hp} {p : Addr} {o : HO} (s : Same H H1) (h : H p = none) : Same H (upd H1 p o) := fun b x e => by
  rw [upd_ne (ne_of_none e h)]
  exact s b x e
theorem Same.at {H H1 : Hp} (s : Same H H1) {p : Addr} {o : HO} (h : H p = some o) : H1 p = some o := s p o h
/-- a lock and its end -/
theorem Same.lock {H H' : Hp} {d : Addr} {u : HO} {od : Obj} (e : H d = some u) (s : Same (upd H d (.frz od u)) H') : Same H (upd H' d u) := fun b o h => by
  by_cases hb : b = d
  · subst hb
    rw [upd_same, ← h, e]
  · rw [upd_ne hb]
    exact s b o (by rw [upd_ne hb]; exact h)
end L2
namespace Bw
open PySem PySem.Spec PyProof.Rows L2
/-! ### a table -/
def flds (n : Int) (d : Addr) : List (Str × V) := [("own_size", V.int n), ("own_bounds", V.ref d)]
theorem flds_size (n : Int) (d : Addr) : (flds n d).lookup ("own_size" : Str) = some (.int n) := by
  unfold flds
  simp [List.lookup]
theorem flds_bounds (n : Int) (d : Addr) : (flds n d).lookup ("own_bounds" : Str) = some (.ref d) := by
  unfold flds
  rw [List.lookup_cons, show (("own_bounds" : Str) == ("own_size" : Str)) = false by decide +kernel]
  simp [List.lookup]
theorem flds_fits (n : Int) (d : Addr) : (flds n d).lookup ("fits" : Str) = none := by
  unfold flds
  rw [List.lookup_cons, show (("fits" : Str) == ("own_size" : Str)) = false by decide +kernel]
  simp only []
  rw [List.lookup_cons, show (("fits" : Str) == ("own_bounds" : Str)) = false by decide +kernel]
  rfl
/-- a table: its own object, its bounds -/
def TabAt (C : Addr) (H : Hp) (p : Addr) (n : Int) (f : Fn) : Prop := ∃ dx d B, H p = some (.ins C dx (flds n d)) ∧ H d = some (.dT (kvT B)) ∧ Good n B ∧ Dom n (fn B) ∧ 1 ≤ n ∧ n ≤ 3 ∧ fn B = f
theorem TabAt.keeps {C : Addr} {H H' : Hp} {p : Addr} {n : Int} {f : Fn} (t : TabAt C H p n f) (s : Same H H') : TabAt C H' p n f := by
  obtain ⟨dx, d, B, h1, h2, r⟩ := t
  exact ⟨dx, d, B, s _ _ h1, s _ _ h2, r⟩
theorem TabAt.rng {C : Addr} {H : Hp} {p : Addr} {n : Int} {f : Fn} (t : TabAt C H p n f) : 1 ≤ n ∧ n ≤ 3 ∧ Dom n f := by
  obtain ⟨dx, d, B, h1, h2, g, dm, a, b, rfl⟩ := t
  exact ⟨a, b, dm⟩
/-- the class's facts, and the names that stand for built-ins -/
structure Txt (K : PySem.W.Frag) (mg : Str → Option Value) (C : Addr) : Prop where
  cl : Cls K C
  nS : NoAttr K C "own_size"
  nB : NoAttr K C "own_bounds"
  mgC : mg "Table" = some (.ref C)
  y1 : PySem.W.findIn K (.ref C) "__class__" = some (some (.builtin "object.__class__"))
  y2 : PySem.W.specialIn K (.builtin "object.__class__") "__get__" = some (some (.builtin "getset_descriptor.__get__"))
  y3 : PySem.W.takesIn K (.builtin "object.__class__") = some true
  y4 : PySem.W.mroIn K C (.type "object") = some true
  cells : ∃ t, mg "MOST_CELLS" = some (.int 12 t)
  b_isinstance : mg "isinstance" = none
  b_int : mg "int" = none
  b_bool : mg "bool" = none
  b_tuple : mg "tuple" = none
  b_len : mg "len" = none
  b_all : mg "all" = none
  b_any : mg "any" = none
  b_dict : mg "dict" = none
  b_sorted : mg "sorted" = none
  b_range : mg "range" = none
  b_sum : mg "sum" = none
  b_zip : mg "zip" = none
  b_list : mg "list" = none
  b_min : mg "min" = none
  b_enumerate : mg "enumerate" = none
  b_abs : mg "abs" = none
theorem Txt.ty {K : PySem.W.Frag} {mg : Str → Option Value} {C : Addr} (T : Txt K mg C) {H : Hp} {a dx : Addr} {fs : List (Str × V)} (e : H a = some (.ins C dx fs)) : TyX K H (.ref a) (.ref C) := .base (.ins e T.cl T.y1 T.y2 T.y3 T.y4)
theorem kit_own {K : PySem.W.Frag} {C : Addr} : PySem.W.kitOne K (.ref C) (.ref C) = some true := by
  unfold PySem.W.kitOne
  rw [if_pos (beq_self_eq_true _)]
end Bw

/-! Numbers, waters, points, pairs. -/
namespace Bw
open PySem PySem.Spec PyProof.Rows L2
/-- the list at D grows, the rest stays -/
structure LcP (H1 : Hp) (D : Addr) (out : List V) (H : Hp) : Prop where
  sm : Same H1 H
  el : H D = some (.lst out)
theorem LcP.start {H1 : Hp} {D : Addr} (h : H1 D = none) : LcP H1 D [] (upd H1 D (.lst [])) := ⟨same_new h, upd_same⟩
theorem LcP.start' {H1 : Hp} {D : Addr} {l : List V} (h : H1 D = none) : LcP H1 D l (upd H1 D (.lst l)) := ⟨same_new h, upd_same⟩
theorem LcP.put {H1 H4 : Hp} {D : Addr} {out out' : List V} {y : V} (p : LcP H1 D out H4) (h0 : H1 D = none) (l : out.length < sizeLine) (e : out' = out ++ [y]) :
    ∃ acc, H4 D = some (.lst acc) ∧ acc.length < sizeLine ∧ LcP H1 D out' (upd H4 D (.lst (acc ++ [y]))) :=
  ⟨out, p.2, l, Same.upd_own p.1 h0, by rw [upd_same, e]⟩
theorem LcP.keeps {H1 H H' : Hp} {D : Addr} {out : List V} (p : LcP H1 D out H) (s : Same H H') : LcP H1 D out H' := ⟨p.1.trans s, s _ _ p.2⟩
theorem take_snoc {α : Type} {xs : List α} {i : Nat} {x : α} (h : xs[i]? = some x) : xs.take (i + 1) = xs.take i ++ [x] := by
  rw [List.take_add_one, h]
  rfl
theorem map_at {α : Type} {f : α → V} {xs : List α} {i : Nat} {v : V} (h : (xs.map f)[i]? = some v) : ∃ x, xs[i]? = some x ∧ v = f x := by
  rw [List.getElem?_map] at h
  cases e : xs[i]? with
  | none => rw [e] at h; cases h
  | some x => rw [e] at h; exact ⟨x, rfl, (Option.some.inj h).symm⟩
theorem len_lt {n m : Nat} (h : n ≤ m) (hm : m ≤ 100000 := by decide) : n < sizeLine := by
  rw [sizeLine_eq]
  omega
theorem iteD {p : Prop} [Decidable p] {A B : Prop} (h : p) (a : A) : if decide p = true then A else B := by
  rw [decide_eq_true h]
  exact iteT a
theorem iteN {p : Prop} [Decidable p] {A B : Prop} (h : ¬ p) (a : B) : if decide p = true then A else B := by
  rw [decide_eq_false h]
  exact iteF a
theorem rep_true (n : Nat) : List.replicate n (V.bl true) = (List.replicate n true).map V.bl := by
  rw [List.map_replicate]
theorem all_rep (n : Nat) : (List.replicate n true).all id = true := by
  rw [List.all_eq_true]
  intro x hx
  exact List.eq_of_mem_replicate hx
section
variable {P : Program} {w : World} {K : PySem.W.Frag} {mg : Str → Option Value} {base : Heap} {C : Addr}
def spNumber : Sp := fun vs H Q _ => ∃ i, vs = [.int i] ∧ Q (.bl true) H
theorem ok_is_number (T : Txt K mg C) (D : Def K mg "is_number" s_is_number ["thing"]) : Prom P w K mg base "is_number" 1 ["thing"] spNumber := by
  refine D.ok sc_is_number (fun vs H Q E h => by obtain ⟨i, rfl, _⟩ := h; rfl) (fun f cdv A outer s H vs Q E hr h => ?_)
  obtain ⟨i, rfl, k⟩ := h
  refine ⟨_, pss_one (ps_ret (pe_and (pe_callB call_isi (by rfl) T.b_isinstance (by decide +kernel) (pa_cons (pv 0) (pa_cons (pe_bltn (v := .ty "int") (u := .type "int") (by rfl) T.b_int (by decide +kernel) rfl) pa_nil)))
    (pe_one (pe_not (pe_callB call_isi (by rfl) T.b_isinstance (by decide +kernel) (pa_cons (pv 0) (pa_cons (pe_bltn (v := .ty "bool") (u := .type "bool") (by rfl) T.b_bool (by decide +kernel) rfl) pa_nil))))))), ?_⟩
  refine ⟨_, rfl, .int i, .ty "int", .type "int", .type "int", true, rfl, .ty _, .base (.int i), kit_ty (by decide +kernel), ?_⟩
  refine ⟨_, rfl, iteT ?_⟩
  refine ⟨_, rfl, .int i, .ty "bool", .type "int", .type "bool", false, rfl, .ty _, .base (.int i), kit_ty (by decide +kernel), ?_⟩
  refine ⟨_, rfl, ?_⟩
  exact k
def spWater : Sp := fun vs H Q _ => ∃ (p : Addr) (ns : List Int), vs = [.ref p] ∧ H p = some (.tup (ns.map V.int)) ∧ 1 ≤ ns.length ∧ ns.length ≤ 12 ∧ ∀ H', Same H H' → Q (.bl true) H'
theorem ok_is_water (T : Txt K mg C) (pN : Prom P w K mg base "is_number" 1 ["thing"] spNumber) (D : Def K mg "is_water" s_is_water ["thing"]) : Prom P w K mg base "is_water" 2 ["thing"] spWater := by
  refine D.ok sc_is_water (fun vs H Q E h => by obtain ⟨p, ns, rfl, _⟩ := h; rfl) (fun f cdv A outer s H vs Q E hr h => ?_)
  obtain ⟨p, ns, rfl, hp, h1, h12, k⟩ := h
  obtain ⟨t12, mgM⟩ := T.cells
  have nd := sc_is_water.nd
  refine ⟨_, pss_one (ps_ret (pe_and (pe_callB call_isi (by rfl) T.b_isinstance (by decide +kernel) (pa_cons (pv 0) (pa_cons (pe_bltn (v := .ty "tuple") (u := .type "tuple") (by rfl) T.b_tuple (by decide +kernel) rfl) pa_nil)))
    (pe_and (pe_chain op_le op_le pe_int (pe_callB call_len_seq (by rfl) T.b_len PySem.boot_len (pa_cons (pv 0) pa_nil)) (pe_glob (v := .int 12) rfl mgM ⟨_, rfl⟩))
    (pe_one (pe_callB (cr_all rfl) (by rfl) T.b_all (by decide +kernel) (pa_cons (pe_lc (own := [("part", 1)]) (g := gName 1) (tt := tYes) rfl nd (pi_tup (pv 0)) (blkOk_by (N := ["thing", "part"]) (sc := defScope s_is_water) (by decide +kernel))
      (fun _ _ _ _ _ => pg_name (i := 1) nd rfl (Or.inl rfl)) (fun _ _ _ _ _ => pts_nil) (fun _ _ _ _ _ => pe_p pN hr (by rfl) (pa_cons (pv 1) pa_nil))) pa_nil)))))), ?_⟩
  refine ⟨_, rfl, .ref p, .ty "tuple", .type "tuple", .type "tuple", true, rfl, .ty _, .base (.tup hp), kit_ty (by decide +kernel), ?_⟩
  refine ⟨_, rfl, iteT ?_⟩
  refine ⟨_, rfl, p, _, rfl, .inr (SqT.of hp), ?_⟩
  refine ⟨_, _, rfl, rfl, ?_⟩
  refine ⟨_, rfl, ?_⟩
  refine iteD (by rw [List.length_map]; omega) ?_
  refine ⟨_, _, rfl, rfl, _, rfl, iteD (by simp; omega) ?_⟩
  refine ⟨_, rfl, p, rfl, ⟨_, SqT.of hp⟩, fun L hL => ?_⟩
  refine lc_tup (K := K) (a := p) (xs := ns.map V.int) (fun i H' => LcP H L (List.replicate i (.bl true)) H') (LcP.start hL) (fun i H' _ z => SqT.of (z.1 _ _ hp)) ?_ ?_
  · intro i x H' hx z
    obtain ⟨y, hy, rfl⟩ := map_at hx
    have hi := (List.getElem?_eq_some_iff.mp hy).1
    refine ⟨rfl, _, rfl, y, rfl, z.put hL (len_lt (by rw [List.length_replicate]; omega : _ ≤ 12)) List.replicate_succ'⟩
  · intro H' z
    rw [List.length_map] at z
    refine ⟨L, List.replicate ns.length true, rfl, SqL.of (by rw [← rep_true]; exact z.2), ?_⟩
    rw [all_rep]
    exact k H' z.1
/-- the sums from 0 on -/
def pre (ns : List Int) : List Int := (List.range (ns.length + 1)).map fun i => (ns.take i).sum
def spSums : Sp := fun vs H Q _ => ∃ (p : Addr) (ns : List Int), vs = [.ref p] ∧ H p = some (.tup (ns.map V.int)) ∧ 1 ≤ ns.length ∧ ns.length ≤ 12 ∧ ∀ t H', Same H H' → H' t = some (.tup ((pre ns).map V.int)) → Q (.ref t) H'
theorem ok_sums_of (T : Txt K mg C) (D : Def K mg "sums_of" s_sums_of ["water"]) : Prom P w K mg base "sums_of" 1 ["water"] spSums := by
  refine D.ok sc_sums_of (fun vs H Q E h => by obtain ⟨p, ns, rfl, _⟩ := h; rfl) (fun f cdv A outer s H vs Q E hr h => ?_)
  obtain ⟨p, ns, rfl, hp, h1, h12, k⟩ := h
  have nd := sc_sums_of.nd
  refine ⟨_, pss_cons (ps_set (i := 1) nd rfl (.inl rfl) (pe_lst (pa_cons pe_int pa_nil)))
    (pss_cons (ps_for PassesOwn.never rfl (pi_tup (pv 0)) (pg_name (i := 2) nd rfl (Or.inl rfl))
      (pss_one (ps_expr (pe_bm PySem.F.plainAttrs_list PySem.F.slot_list_append PySem.F.type_list_append mt_append (pv 1) (pa_cons (pe_op op_add (pe_ix ix_list (pv 1) (pe_un un_neg pe_int) (fun _ _ => rfl)) (pv 2)) pa_nil)))))
    (pss_one (ps_ret (pe_callTy call_tuple_of (by rfl) T.b_tuple (by decide +kernel) (pa_cons (pv 1) pa_nil))))), ?_⟩
  refine ⟨Nat.le_of_lt (len_lt (by decide : 1 ≤ 12)), fun L hL => ?_⟩
  refine ⟨_, rfl, p, rfl, ⟨_, SqT.of ((same_new hL) _ _ hp)⟩, ?_⟩
  refine for_tup (K := K) (a := p) (xs := ns.map V.int) (fun i σ H' => ∃ v, σ = [some (.ref p), some (.ref L), v] ∧ LcP H L (((List.range (i + 1)).map fun j => (ns.take j).sum).map V.int) H')
    ⟨_, rfl, LcP.start' hL⟩ (fun i σ H' _ ⟨v, _, z⟩ => SqT.of (z.1 _ _ hp)) ?_ ?_
  · rintro i x σ H' hx ⟨v, rfl, z⟩
    obtain ⟨y, hy, rfl⟩ := map_at hx
    have hi := (List.getElem?_eq_some_iff.mp hy).1
    have e1 : ((List.range (i + 1)).map fun j => (ns.take j).sum) = ((List.range i).map fun j => (ns.take j).sum) ++ [(ns.take i).sum] := by
      rw [List.range_succ, List.map_append]
      rfl
    have e2 : ((List.range (i + 1 + 1)).map fun j => (ns.take j).sum) = ((List.range (i + 1)).map fun j => (ns.take j).sum) ++ [(ns.take i).sum + y] := by
      rw [List.range_succ, List.map_append, List.map_singleton, take_snoc hy, List.sum_append]
      simp
    refine ⟨_, rfl, .inl ⟨rfl, _, SqL.of z.2⟩, _, rfl, 1, rfl, L, _, _, .int (ns.take i).sum, rfl, rfl, SqL.of z.2, (by rw [e1, List.map_append]; exact atI_last _ _), _, rfl, _, _, rfl, rfl, ?_⟩
    refine ⟨L, _, _, rfl, rfl, z.2, len_lt (by simp; omega : _ ≤ 20), _, rfl, Same.upd_own z.1 hL, ?_⟩
    rw [upd_same, e2, List.map_append]
    rfl
  · rintro σ H' ⟨v, rfl, z⟩
    rw [List.length_map] at z
    refine ⟨_, rfl, L, _, rfl, .inl ⟨SqL.of z.2, fun t ht => ?_⟩⟩
    exact k t _ (z.1.upd_new ht) upd_same
theorem ok_sums (T : Txt K mg C) (pW : Prom P w K mg base "is_water" 2 ["thing"] spWater) (pS : Prom P w K mg base "sums_of" 1 ["water"] spSums) (D : Def K mg "sums" s_sums ["water"]) : Prom P w K mg base "sums" 3 ["water"] spSums := by
  refine D.ok sc_sums (fun vs H Q E h => by obtain ⟨p, ns, rfl, _⟩ := h; rfl) (fun f cdv A outer s H vs Q E hr h => ?_)
  obtain ⟨p, ns, rfl, hp, h1, h12, k⟩ := h
  refine ⟨_, pss_cons (ps_if (pt_not (pt_val (pe_p pW hr (by rfl) (pa_cons (pv 0) pa_nil)))) pss_never pss_nil)
    (pss_one (ps_ret (pe_p pS (hr.mono (by decide)) (by rfl) (pa_cons (pv 0) pa_nil)))), ?_⟩
  refine ⟨_, rfl, p, ns, rfl, hp, h1, h12, fun H1 s1 => ⟨true, rfl, iteF ?_⟩⟩
  exact ⟨_, rfl, p, ns, rfl, s1 _ _ hp, h1, h12, fun t H2 s2 ht => k t H2 (s1.trans s2) ht⟩
/-- from one sum to the next -/
def dif (ls : List Int) : List Int := (List.range (ls.length - 1)).map fun i => (ls[i + 1]?.getD 0) - (ls[i]?.getD 0)
def spWaterOf : Sp := fun vs H Q _ => ∃ (p : Addr) (ls : List Int), vs = [.ref p] ∧ H p = some (.lst (ls.map V.int)) ∧ 1 ≤ ls.length ∧ ls.length ≤ 12 ∧ ∀ t H', Same H H' → H' t = some (.tup ((dif ls).map V.int)) → Q (.ref t) H'
theorem ok_water_of (T : Txt K mg C) (D : Def K mg "water_of" s_water_of ["levels"]) : Prom P w K mg base "water_of" 1 ["levels"] spWaterOf := by
  refine D.ok sc_water_of (fun vs H Q E h => by obtain ⟨p, ns, rfl, _⟩ := h; rfl) (fun f cdv A outer s H vs Q E hr h => ?_)
  obtain ⟨p, ls, rfl, hp, h1, h12, k⟩ := h
  have nd := sc_water_of.nd
  refine ⟨_, pss_one (ps_ret (pe_callTy call_tuple_of (by rfl) T.b_tuple (by decide +kernel) (pa_cons (pe_lc (own := [("above", 1), ("below", 2)]) (g := gTup K 2 (gCons (gName 1) (gCons (gName 2) gNil))) (tt := tYes) rfl nd
    (RZ.pi_zipA (by rfl) T.b_zip (pa_cons (pv 0) (pa_cons (pe_slice sl_list (pv 0) (po_some pe_int) po_none) pa_nil))) (blkOk_by (N := ["levels", "above", "below"]) (sc := defScope s_water_of) (by decide +kernel))
      (fun _ _ _ _ _ => pg_tup rfl (pgs_cons (pg_name (i := 1) nd rfl (Or.inl rfl)) (pgs_cons (pg_name (i := 2) nd rfl (Or.inl rfl)) pgs_nil))) (fun _ _ _ _ _ => pts_nil) (fun _ _ _ _ _ => pe_op op_sub (pv 2) (pv 1))) pa_nil))), ?_⟩
  refine ⟨_, rfl, _, rfl, 1, rfl, p, _, rfl, SqL.of hp, fun q hq => ?_⟩
  have ecut : cutV (ls.map V.int) (some 1) none = (ls.drop 1).map V.int := by
    have h0 : HT.sIx (ls.map V.int).length 0 (some 1) = 1 := by
      unfold HT.sIx
      simp
      omega
    unfold cutV
    rw [h0]
    simp only [HT.sIx, List.length_map, ← List.map_drop]
    rw [List.take_of_length_le (by simp)]
  rw [ecut]
  refine ⟨p, q, ls.map V.int, (ls.drop 1).map V.int, rfl, .inl ⟨SqL.of (same_new hq _ _ hp), SqL.of upd_same, fun L hL => ?_⟩⟩
  have hLH : H L = none := (same_new hq).free hL
  refine lc_it (walk_zip (n := ls.length - 1) (by simp)) (fun i H' => LcP (upd H q (.lst ((ls.drop 1).map V.int))) L (((List.range i).map fun i => (ls[i + 1]?.getD 0) - (ls[i]?.getD 0)).map V.int) H') (LcP.start hL)
    (fun i H' _ z => ⟨SqL.of (z.1 _ _ (same_new hq _ _ hp)), SqL.of (z.1 _ _ upd_same)⟩) ?_ ?_
  · rintro i x H1 H2 hi z ⟨T, x1, y1, rfl, hT, rfl, hx, hy⟩
    obtain ⟨x, hx1, rfl⟩ := map_at hx
    obtain ⟨y, hy1, rfl⟩ := map_at hy
    have z2 := z.keeps (same_new (o := .tup [V.int x, V.int y]) hT)
    refine ⟨T, _, rfl, SqT.of upd_same, rfl, _, _, rfl, _, _, rfl, rfl, rfl, _, rfl, _, rfl, y, x, rfl, rfl, ?_⟩
    refine z2.put hL (len_lt (by simp; omega : _ ≤ 20)) ?_
    rw [List.getElem?_drop, Nat.add_comm] at hy1
    rw [List.range_succ, List.map_append, List.map_append, List.map_singleton, List.map_singleton, hx1, hy1]
    rfl
  · intro H1 z
    refine ⟨L, _, rfl, .inl ⟨SqL.of z.2, fun t ht => ?_⟩⟩
    exact k t _ (((same_new hq).trans z.1).upd_new ht) upd_same
def spPoint : Sp := fun vs H Q _ => ∃ i n : Int, vs = [.int i, .int n] ∧ 0 ≤ i ∧ i ≤ n ∧ Q (.bl true) H
theorem ok_is_point (T : Txt K mg C) (pN : Prom P w K mg base "is_number" 1 ["thing"] spNumber) (D : Def K mg "is_point" s_is_point ["thing", "size"]) : Prom P w K mg base "is_point" 2 ["thing", "size"] spPoint := by
  refine D.ok sc_is_point (fun vs H Q E h => by obtain ⟨i, n, rfl, _⟩ := h; rfl) (fun f cdv A outer s H vs Q E hr h => ?_)
  obtain ⟨i, n, rfl, h0, h1, k⟩ := h
  refine ⟨_, pss_one (ps_ret (pe_and (pe_p pN hr (by rfl) (pa_cons (pv 0) pa_nil)) (pe_one (pe_chain op_le op_le pe_int (pv 0) (pv 1))))), ?_⟩
  refine ⟨_, rfl, i, rfl, true, rfl, iteT ?_⟩
  refine ⟨_, rfl, _, _, rfl, rfl, _, rfl, iteD h0 ?_⟩
  refine ⟨_, rfl, _, _, rfl, rfl, ?_⟩
  show Q (V.bl (decide (i ≤ n))) H
  rw [decide_eq_true h1]
  exact k
def spPair : Sp := fun vs H Q _ => ∃ (p : Addr) (i j n : Int), vs = [.ref p, .int n] ∧ H p = some (.tup [.int i, .int j]) ∧ 0 ≤ i ∧ i ≤ n ∧ 0 ≤ j ∧ j ≤ n ∧ i ≠ j ∧ ∀ H', Same H H' → Q (.bl true) H'
theorem ok_is_pair (T : Txt K mg C) (pP : Prom P w K mg base "is_point" 2 ["thing", "size"] spPoint) (D : Def K mg "is_pair" s_is_pair ["thing", "size"]) : Prom P w K mg base "is_pair" 3 ["thing", "size"] spPair := by
  refine D.ok sc_is_pair (fun vs H Q E h => by obtain ⟨p, i, j, n, rfl, _⟩ := h; rfl) (fun f cdv A outer s H vs Q E hr h => ?_)
  obtain ⟨p, i, j, n, rfl, hp, a1, a2, b1, b2, ne, k⟩ := h
  have nd := sc_is_pair.nd
  refine ⟨_, pss_cons (ps_if (PW.pt (pw_or (pt_not (pt_val (pe_callB call_isi (by rfl) T.b_isinstance (by decide +kernel) (pa_cons (pv 0) (pa_cons (pe_bltn (v := .ty "tuple") (u := .type "tuple") (by rfl) T.b_tuple (by decide +kernel) rfl) pa_nil)))))
      (pw_or (pt_cmpR op_ne (pe_callB call_len_seq (by rfl) T.b_len PySem.boot_len (pa_cons (pv 0) pa_nil)) pe_int (nomark _))
      (pw_or1 (pt_not (pt_val (pe_callB (cr_all rfl) (by rfl) T.b_all (by decide +kernel) (pa_cons (pe_lc (own := [("part", 2)]) (g := gName 2) (tt := tYes) rfl nd (pi_tup (pv 0)) (blkOk_by (N := ["thing", "size", "part"]) (sc := defScope s_is_pair) (by decide +kernel))
      (fun _ _ _ _ _ => pg_name (i := 2) nd rfl (Or.inl rfl)) (fun _ _ _ _ _ => pts_nil) (fun _ _ _ _ _ => pe_p pP hr (by rfl) (pa_cons (pv 2) (pa_cons (pv 1) pa_nil)))) pa_nil)))))))) pss_never pss_nil)
    (pss_one (ps_ret (pe_cmpR op_ne (pe_ix ix_tup (pv 0) pe_int (fun _ _ => rfl)) (pe_ix ix_tup (pv 0) pe_int (fun _ _ => rfl)) (nomark _)))), ?_⟩
  refine ⟨_, rfl, .ref p, .ty "tuple", .type "tuple", .type "tuple", true, rfl, .ty _, .base (.tup hp), kit_ty (by decide +kernel), ?_⟩
  refine ⟨true, rfl, iteF ?_⟩
  refine ⟨_, rfl, p, _, rfl, .inr (SqT.of hp), rfl, _, rfl, iteF ?_⟩
  refine ⟨_, rfl, p, rfl, ⟨_, SqT.of hp⟩, fun L hL => ?_⟩
  refine lc_tup (K := K) (a := p) (xs := [V.int i, V.int j]) (fun m H' => LcP H L (List.replicate m (.bl true)) H') (LcP.start hL) (fun i H' _ z => SqT.of (z.1 _ _ hp)) ?_ ?_
  · intro m x H' hx z
    have hm := (List.getElem?_eq_some_iff.mp hx).1
    obtain ⟨y, rfl, y0, y1⟩ : ∃ y, x = V.int y ∧ 0 ≤ y ∧ y ≤ n := by
      rcases m with _ | _ | m
      · exact ⟨i, (Option.some.inj hx).symm, a1, a2⟩
      · exact ⟨j, (Option.some.inj hx).symm, b1, b2⟩
      · cases hx
    refine ⟨rfl, _, rfl, _, rfl, y, n, rfl, y0, y1, z.put hL (len_lt (by rw [List.length_replicate]; exact Nat.le_of_lt hm : _ ≤ 2)) List.replicate_succ'⟩
  · intro H' z
    refine ⟨L, List.replicate 2 true, rfl, SqL.of z.2, ?_⟩
    rw [all_rep]
    refine ⟨true, rfl, iteF ?_⟩
    refine ⟨_, rfl, p, _, 0, .int i, rfl, rfl, SqT.of (z.1 _ _ hp), atI_nat (j := 0) rfl, ?_⟩
    refine ⟨_, rfl, p, _, 1, .int j, rfl, rfl, SqT.of (z.1 _ _ hp), atI_nat (j := 1) rfl, ?_⟩
    refine ⟨rfl, ?_⟩
    show Q (V.bl (!decide (V.int i = V.int j))) H'
    rw [decide_eq_false (by intro e; exact ne (V.int.inj e))]
    exact k H' z.1
end
end Bw

/-! A table made, its bounds given out, what fits it. -/
namespace Bw
open PySem PySem.Spec PyProof.Rows L2
/-! ### dicts of bounds, read and written -/
theorem get_bdO {H : Hp} {d q : Addr} {B : Bd} {p : Pt} (hd : Rd H d (.dT (kvT B))) (hq : H q = some (.tup [.int p.1, .int p.2])) : DGet H d (.ref q) ((look B p).map V.int) :=
  .inr ⟨_, keyT p, q, hd, rfl, (by rw [keyT_kV]; exact hq), (valV_kvT B p).symm⟩
theorem get_bd {H : Hp} {d q : Addr} {B : Bd} {p : Pt} {z : Int} (hd : Rd H d (.dT (kvT B))) (hq : H q = some (.tup [.int p.1, .int p.2])) (e : look B p = some z) : DGet H d (.ref q) (some (.int z)) := by
  have g := get_bdO hd hq
  rw [e] at g
  exact g
theorem put_bd {H : Hp} {d q : Addr} {B : Bd} {p : Pt} {z : Int} (hd : H d = some (.dT (kvT B))) (hq : H q = some (.tup [.int p.1, .int p.2])) (l : B.length ≤ 1000) : DPut H d (.ref q) (.int z) (upd H d (.dT (kvT (putB B p z)))) := by
  rw [← putK_kvT]
  exact .inr ⟨_, keyT p, q, hd, rfl, (by rw [keyT_kV]; exact hq), (by rw [kvT_len]; exact small1000 l), rfl⟩
theorem Good.l1000 {n : Int} {B : Bd} (g : Good n B) (hn : n ≤ 3) : B.length ≤ 1000 := Nat.le_trans (g.len hn) (by decide)
/-- an item of the dict -/
theorem kvT_at {B : Bd} {i : Nat} {k : List Key} {v : V} {q : Addr} {H : Hp} (h : (kvT B)[i]? = some (k, v)) (hq : H q = some (.tup (k.map kV))) :
    ∃ p z, B[i]? = some (p, z) ∧ v = V.int z ∧ H q = some (.tup [.int p.1, .int p.2]) := by
  obtain ⟨p, z, h1, rfl, rfl⟩ := kvT_get h
  exact ⟨p, z, h1, rfl, by rw [← keyT_kV]; exact hq⟩
/-! ### a table that is being made -/
theorem keys_ne : ¬ (("own_size" : Str) = "own_bounds") := by decide +kernel
theorem flds_put (n : Int) (d : Addr) : putF "own_bounds" (.ref d) (putF "own_size" (.int n) []) = flds n d := by
  show (if ("own_size" : Str) = "own_bounds" then _ else (("own_size" : Str), V.int n) :: putF "own_bounds" (V.ref d) []) = _
  rw [if_neg keys_ne]
  rfl
def spInit (C : Addr) : Sp := fun vs H Q _ => ∃ (p dx d : Addr) (n : Int) (B : Bd), vs = [.ref p, .int n, .ref d] ∧ H p = some (.ins C dx []) ∧ 1 ≤ n ∧ n ≤ 3 ∧ H d = some (.dT (kvT B)) ∧ Good n B ∧ Dom n (fn B) ∧
  ∀ H', (∀ b o, H b = some o → b ≠ p → H' b = some o) → TabAt C H' p n (fn B) → Q .non H'
/-- a def that may have defaults -/
structure FunD (K : PySem.W.Frag) (x qual : Str) (st : Stmt) (f : Addr) (fd : FuncData) : Prop where
  ex : ∃ (oc : Value) (od : Option Addr) (dV kV doc pm : Value) (an : Option Addr) (cdv ct : Value) (osl : Array (Option Value)),
    fd = PySem.W.fnOf x qual (defArgs st) (defBody st) (defScope st) dV kV doc pm an cdv ct ∧ K.lookup f = some ⟨oc, od, .func fd, osl⟩ ∧ PySem.W.codeIn K cdv qual = true
section
variable {P : Program} {w : World} {K : PySem.W.Frag} {mg : Str → Option Value} {base : Heap}
theorem FunD.ok {x qual : Str} {st : Stmt} {f : Addr} {fd : FuncData} {N ps : List Str} {k : Nat} {sp : Sp} (F : Bw.FunD K x qual st f fd) (S : FnScope N ps (defScope st)) (len : ∀ vs H Q E, sp vs H Q E → vs.length = ps.length)
    (hbody : ∀ (cdv : Value) (A : Around) (outer : List Env) (s : Shared) (H : Hp) (vs : List V) (Q : VK) (E : XK), Room k (A.deeper (envOfC qual (defScope st) s.heap.objs.size f cdv)) → sp vs H Q E →
      ∃ t, PSs (cxOf CX0 P w K mg base N qual (defScope st) f cdv A outer s H E).nox (defBody st) t ∧ t { nx := fun _ H' => Q .non H', rt := Q } (start N vs) H) : FnOk P w K mg base CX0 (k + 1) f fd ps sp := by
  obtain ⟨oc, od, dV, kV, doc, pm, an, cdv, ct, osl, rfl, lk, hcd⟩ := F.ex
  refine fn_of lk hcd S len fun A outer s H vs Q E hr hsp => ?_
  obtain ⟨t, h, q⟩ := hbody cdv A outer s H vs Q E hr hsp
  exact ⟨t, h.nox, q⟩
end
section
variable {P : Program} {w : World} {K : PySem.W.Frag} {mg : Str → Option Value} {base : Heap} {C : Addr}
theorem ok_init (T : Txt K mg C) (pN : Prom P w K mg base "is_number" 1 ["thing"] spNumber) (pP : Prom P w K mg base "is_pair" 3 ["thing", "size"] spPair)
    {f : Addr} {fd : FuncData} (F : Bw.FunD K "__init__" "Table.__init__" sT___init__ f fd) : FnOk P w K mg base CX0 4 f fd ["self", "size", "bounds"] (spInit C) := by
  refine F.ok scT___init__ (fun vs H Q E h => by obtain ⟨p, dx, d, n, B, rfl, _⟩ := h; rfl) (fun cdv A outer s H vs Q E hr h => ?_)
  obtain ⟨p, dx, d, n, B, rfl, hp, n1, n3, hd, gd, dm, k⟩ := h
  obtain ⟨t12, mgM⟩ := T.cells
  have nd := scT___init__.nd
  have hu := hu_of hr
  have npd : p ≠ d := ne_of hp hd (by intro z; cases z)
  refine ⟨_, pss_cons (ps_if (PW.pt (pw_or (pt_not (pt_val (pe_p pN (hr.mono (by decide)) (by rfl) (pa_cons (pv 1) pa_nil)))) (pw_or1 (pt_not (pt_chain op_le op_le pe_int (pv 1) (pe_glob (v := .int 12) rfl mgM ⟨_, rfl⟩)))))) pss_never pss_nil)
    (pss_cons (ps_set (i := 3) nd rfl (.inr rfl) (pe_ifExp (pt_cmp (pc_isN (pv 2))) pe_dnewK (pv 2)))
    (pss_cons (ps_if (PW.pt (pw_or (pt_not (pt_val (pe_callB call_isi (by rfl) T.b_isinstance (by decide +kernel) (pa_cons (pv 3) (pa_cons (pe_bltn (v := .ty "dict") (u := .type "dict") (by rfl) T.b_dict (by decide +kernel) rfl) pa_nil)))))
      (pw_or1 (pt_not (pt_val (pe_callB (cr_all rfl) (by rfl) T.b_all (by decide +kernel) (pa_cons (pe_lock (pe_lc (own := [("pair", 4)]) (g := gName 4) (tt := tYes) rfl nd (pi_keys (pv 3)) (blkOk_by (N := ["self", "size", "bounds", "told", "pair", "bound"]) (sc := defScope sT___init__) (by decide +kernel))
      (fun _ _ _ _ _ => pg_name (i := 4) nd rfl (Or.inl rfl)) (fun _ _ _ _ _ => pts_nil) (fun _ _ _ _ _ => pe_p pP (hr.mono (by decide)) (by rfl) (pa_cons (pv 4) (pa_cons (pv 1) pa_nil))))) pa_nil))))))) pss_never pss_nil)
    (pss_cons (ps_if (pt_not (pt_val (pe_callB (cr_all rfl) (by rfl) T.b_all (by decide +kernel) (pa_cons (pe_lock (pe_lc (own := [("bound", 5)]) (g := gName 5) (tt := tYes) rfl nd (pi_vals (pv 3)) (blkOk_by (N := ["self", "size", "bounds", "told", "pair", "bound"]) (sc := defScope sT___init__) (by decide +kernel))
      (fun _ _ _ _ _ => pg_name (i := 5) nd rfl (Or.inl rfl)) (fun _ _ _ _ _ => pts_nil) (fun _ _ _ _ _ => pe_p pN (hr.mono (by decide)) (by rfl) (pa_cons (pv 5) pa_nil)))) pa_nil)))) pss_never pss_nil)
    (pss_cons (ps_fld (pv 0) (pv 1) rfl)
    (pss_one (ps_fld (pv 0) (pe_dcA (own := [("pair", 4)]) (g := gName 4) (tt := tYes) hr.units0 rfl nd (pi_list (pe_callB (cr_sortT rfl) (by rfl) T.b_sorted (by decide +kernel) (pa_cons (pv 3) pa_nil))) (blkOk_by (N := ["self", "size", "bounds", "told", "pair", "bound"]) (sc := defScope sT___init__) (by decide +kernel))
      (fun _ _ _ _ _ => ⟨pg_name (i := 4) nd rfl (Or.inl rfl), pts_nil, pv 4, pe_dget hu (pv 3) (pv 4) (fun _ _ => rfl)⟩)) rfl)))))), ?_⟩
  refine ⟨_, rfl, n, rfl, true, rfl, iteF ?_⟩
  refine ⟨_, rfl, _, _, rfl, rfl, _, rfl, iteD n1 ⟨_, _, rfl, rfl, _, rfl, ?_⟩⟩
  rw [decide_eq_true (by omega : n ≤ 12)]
  refine iteF ⟨_, rfl, _, rfl, iteF ⟨_, rfl, ?_⟩⟩
  refine ⟨_, rfl, .ref d, .ty "dict", .type "dict", .type "dict", true, rfl, .ty _, .base (.dT hd), kit_ty (by decide +kernel), true, rfl, iteF ?_⟩
  refine ⟨d, _, hd, trivial, fun od => ⟨_, rfl, d, od, rfl, .inr ⟨_, upd_same, fun L hL => ?_⟩⟩⟩
  refine lc_it walk_keysT (fun m H' => LcP (upd H d (.frz od (.dT (kvT B)))) L (List.replicate m (.bl true)) H') (LcP.start hL) (fun i H' _ z => z.1 _ _ upd_same) ?_ ?_
  · rintro i x H1 H2 hi z ⟨rfl, k1, v1, q, e1, rfl, hq⟩
    obtain ⟨pt, zz, e2, rfl, hq⟩ := kvT_at e1 hq
    have hm := gd.rg _ (List.mem_of_getElem? e2)
    have hne := (dm pt.1 pt.2 zz (look_of_mem gd.nd (List.mem_of_getElem? e2))).2.2.2.2
    rw [kvT_len] at hi
    refine ⟨rfl, _, rfl, _, rfl, q, pt.1, pt.2, n, rfl, hq, hm.1, hm.2.1, hm.2.2.1, hm.2.2.2, hne, fun H3 s3 => ?_⟩
    exact (z.keeps s3).put hL (len_lt (by rw [List.length_replicate]; have := gd.len n3; omega : _ ≤ 16)) List.replicate_succ'
  intro H1 z
  refine ⟨z.1 _ _ upd_same, L, List.replicate B.length true, rfl, SqL.of ?_, ?_⟩
  · rw [upd_ne (ne_of (z.2) (z.1 _ _ upd_same) (by intro z; cases z)), ← rep_true, ← kvT_len]
    exact z.2
  have s1 : Same H (upd H1 d (.dT (kvT B))) := z.1.lock hd
  clear z hL
  generalize upd H1 d (.dT (kvT B)) = H2 at s1 ⊢
  rw [all_rep]
  refine ⟨true, rfl, iteF ?_⟩
  refine ⟨d, _, s1 _ _ hd, trivial, fun od => ⟨_, rfl, d, od, _, rfl, upd_same, fun L hL => ?_⟩⟩
  refine lc_it walk_vals (fun m H' => LcP (upd H2 d (.frz od (.dT (kvT B)))) L (List.replicate m (.bl true)) H') (LcP.start hL) (fun i H' _ z => z.1 _ _ upd_same) ?_ ?_
  · rintro i x H1 H2 hi z ⟨rfl, k1, e1⟩
    obtain ⟨pt, zz, e2, _, rfl⟩ := kvT_get e1
    rw [kvT_len] at hi
    refine ⟨rfl, _, rfl, zz, rfl, ?_⟩
    exact z.put hL (len_lt (by rw [List.length_replicate]; have := gd.len n3; omega : _ ≤ 16)) List.replicate_succ'
  intro H3 z
  refine ⟨z.1 _ _ upd_same, L, List.replicate B.length true, rfl, SqL.of ?_, ?_⟩
  · rw [upd_ne (ne_of (z.2) (z.1 _ _ upd_same) (by intro z; cases z)), ← rep_true, ← kvT_len]
    exact z.2
  have s2 : Same H (upd H3 d (.dT (kvT B))) := s1.trans (z.1.lock (s1 _ _ hd))
  clear z hL s1
  generalize upd H3 d (.dT (kvT B)) = H4 at s2 ⊢
  rw [all_rep]
  refine ⟨true, rfl, iteF ?_⟩
  refine ⟨_, rfl, _, rfl, p, C, dx, [], rfl, s2 _ _ hp, T.cl, T.nS, (by decide), ?_⟩
  refine ⟨_, rfl, d, B, rfl, .inl (by rw [upd_ne npd.symm]; exact s2 _ _ hd), fun ys L hperm hys hL => ⟨L, rfl, ⟨_, SqL.of upd_same⟩, ?_⟩⟩
  generalize hH5 : upd H4 p (.ins C dx (putF "own_size" (.int n) [])) = H5 at hys hL ⊢
  have h5 : ∀ b o, H b = some o → b ≠ p → H5 b = some o := fun b o e ne => by rw [← hH5, upd_ne ne]; exact s2 _ _ e
  have h5p : H5 p = some (.ins C dx (putF "own_size" (.int n) [])) := by rw [← hH5, upd_same]
  have s6 := same_new (o := .lst (ys.map fun y => V.ref y.1)) hL
  generalize hH6 : upd H5 L (.lst (ys.map fun y => V.ref y.1)) = H6 at s6
  have h6L : H6 L = some (.lst (ys.map fun y => V.ref y.1)) := by rw [← hH6, upd_same]
  refine ⟨.dT [], .inr rfl, fun Dn hDn => ?_⟩
  have hy6 : ∀ y ∈ ys, H6 y.1 = some (.tup [.int y.2.1, .int y.2.2]) := fun y hy => s6 _ _ (hys y hy)
  refine dc_it (walk_list (K := K) (a := L) (xs := ys.map fun y => V.ref y.1)) (fun i H' => Same H6 H' ∧ ∃ B', H' Dn = some (.dT (kvT B')) ∧ Good n B' ∧ ∀ q, look B' q = if q ∈ (ys.take i).map (·.2) then look B q else none)
    ⟨same_new hDn, [], upd_same, Good.nil, fun q => by simp [look_nil]⟩ (fun i H' _ z => SqL.of (z.1 _ _ h6L)) ?_ ?_
  · rintro i x H7 H8 hi ⟨s7, B', hB', g', e'⟩ ⟨rfl, hx⟩
    obtain ⟨⟨a, pt⟩, hy, rfl⟩ := map_at hx
    have hym := List.mem_of_getElem? hy
    have hpt : pt ∈ keysB B := hperm.subset (List.mem_map_of_mem hym)
    obtain ⟨e, he, rfl⟩ := List.mem_map.mp hpt
    have lk := look_of_mem gd.nd he
    have rg := gd.rg _ he
    refine ⟨rfl, _, rfl, _, rfl, _, rfl, d, .int e.2, rfl, get_bd (.inl (s7 _ _ (s6 _ _ (h5 _ _ hd npd.symm)))) (s7 _ _ (hy6 _ hym)) lk, _, put_bd hB' (s7 _ _ (hy6 _ hym)) (g'.l1000 n3), ?_⟩
    refine ⟨s7.upd_own hDn, _, upd_same, g'.put _ rg.1 rg.2.1 rg.2.2.1 rg.2.2.2, fun q => ?_⟩
    rw [look_put, e', take_snoc hy, List.map_append, List.map_singleton]
    by_cases hq : q = e.1
    · subst hq
      rw [if_pos rfl, if_pos (by simp), ← lk]
    · rw [if_neg hq]
      simp only [List.mem_append, List.mem_singleton, hq, or_false]
  · rintro H7 ⟨s7, B', hB', g', e'⟩
    rw [List.length_map, List.take_of_length_le (Nat.le_refl _)] at e'
    have ef : fn B' = fn B := by
      funext a b
      show look B' (a, b) = look B (a, b)
      rw [e']
      by_cases hm : (a, b) ∈ ys.map (·.2)
      · rw [if_pos hm]
      · rw [if_neg hm]
        cases e : look B (a, b) with
        | none => rfl
        | some z => exact absurd (hperm.symm.subset (List.mem_map_of_mem (f := (·.1)) (look_mem e))) hm
    have n7 : H7 p = some (.ins C dx (putF "own_size" (.int n) [])) := s7 _ _ (s6 _ _ h5p)
    refine ⟨_, rfl, p, C, dx, _, rfl, n7, T.cl, T.nB, (by show 1 < 1000; decide), ?_⟩
    refine k _ (fun b o e ne => ?_) ⟨dx, Dn, B', ?_, ?_, g', by rw [ef]; exact dm, n1, n3, ef⟩
    · rw [upd_ne ne]
      exact s7 _ _ (s6 _ _ (h5 _ _ e ne))
    · rw [upd_same, flds_put]
    · rw [upd_ne (ne_of hB' n7 (by intro z; cases z))]
      exact hB'
end
end Bw

/-! What fits a table; the needs; the making by name. -/
namespace Bw
open PySem PySem.Spec PyProof.Rows L2
def MakeT (P : Program) (w : World) (K : PySem.W.Frag) (mg : Str → Option Value) (base : Heap) (C : Addr) : Prop :=
  ∃ fI fd, FnOk P w K mg base CX0 4 fI fd ["self", "size", "bounds"] (spInit C) ∧ Mk K C fI ∧ Binds K fd ["self", "size", "bounds"] []
section
variable {X : Cx} {C : Addr} {p pos : Pos} {a b : Expr} {t : TA}
theorem pe_tab (M : MakeT X.prog X.w X.K X.mg X.base C) (hm : X.mg "Table" = some (.ref C)) (hr : Room 5 X.A) (hg : Gl X "Table") (ha : PA X [a, b] t)
    (he : starEach (a :: [b]) X.env = (false, eval a X.env) :: starEach [b] X.env := by rfl) (hpl : (backTo pos (starEach [b] X.env)).any (·.1) = false := by rfl) :
    PE X (.Call (.Name "Table" p) [a, b] [] pos) (tMake C (spInit C) [] E0 t) := by
  obtain ⟨fI, fd, F, M, b⟩ := M
  exact pe_make M F hr hg hm b .nil pass0 ha (by decide) he hpl
end
theorem make_read {C : Addr} {H : Hp} {n : Int} {d : Addr} {B : Bd} {Q : VK} (n1 : 1 ≤ n) (n3 : n ≤ 3) (hd : H d = some (.dT (kvT B))) (g : Good n B) (dm : Dom n (fn B))
    (k : ∀ p H', Same H H' → TabAt C H' p n (fn B) → Q (.ref p) H') : ∀ x dx, H x = none → H dx = none → dx ≠ x →
    spInit C (.ref x :: ([.int n, .ref d] ++ [])) (upd (upd H dx (.own x)) x (.ins C dx [])) (fun v H2 => v = .non ∧ Q (.ref x) H2) E0 := fun x dx hx hdx ne => by
  have s1 : Same H (upd (upd H dx (.own x)) x (.ins C dx [])) := fun b o e => by
    rw [upd_ne (ne_of_none e hx), upd_ne (ne_of_none e hdx)]
    exact e
  exact ⟨x, dx, d, n, B, rfl, upd_same, n1, n3, s1 _ _ hd, g, dm, fun H' kp t => ⟨rfl, k x H' (fun b o e => kp _ _ (s1 _ _ e) (ne_of_none e hx)) t⟩⟩
theorem ix_tupK {X : Cx} {K : PySem.W.Frag} (h : X.K = K) : IxR X (rIxT K) := by
  subst h
  exact ix_tup
theorem ix_listK {X : Cx} {K : PySem.W.Frag} (h : X.K = K) : IxR X (rIxL K) := by
  subst h
  exact ix_list
/-! ### levels -/
def lv (ls : List Int) : Int → Int := fun i => ls[i.toNat]?.getD 0
theorem atI_lv {ls : List Int} {a : Int} (h0 : 0 ≤ a) (h1 : a < ls.length) : atI (ls.map V.int) a = some (.int (lv ls a)) := by
  obtain ⟨j, rfl⟩ := Int.eq_ofNat_of_zero_le h0
  have hj : j < ls.length := by omega
  have e : ls[j]? = some ls[j] := List.getElem?_eq_getElem hj
  have e2 : lv ls (j : Int) = ls[j] := by
    unfold lv
    rw [Int.toNat_natCast, e]
    rfl
  rw [e2]
  refine atI_nat ?_
  rw [List.getElem?_map, e]
  rfl
theorem all_fit {n : Int} {B : Bd} {L : Int → Int} (g : Good n B) : ((B.map fun e => decide (L e.1.1 - L e.1.2 ≤ e.2)).all id = true) ↔ Fit (fn B) L := by
  rw [List.all_map, List.all_eq_true]
  constructor
  · intro h a b v e
    exact of_decide_eq_true (h _ ((look_mem_iff g).mpr e))
  · intro h e he
    exact decide_eq_true (h e.1.1 e.1.2 e.2 ((look_mem_iff g).mp he))
def spFits (C : Addr) : Sp := fun vs H Q _ => ∃ (p t : Addr) (n : Int) (f : Fn) (ls : List Int), vs = [.ref p, .ref t] ∧ TabAt C H p n f ∧ H t = some (.tup (ls.map V.int)) ∧ (ls.length : Int) = n + 1 ∧ ∀ b H', Same H H' → (b = true ↔ Fit f (lv ls)) → Q (.bl b) H'
def spFit (C : Addr) : Sp := fun vs H Q _ => ∃ (p t : Addr) (n : Int) (f : Fn) (ns : List Int), vs = [.ref p, .ref t] ∧ TabAt C H p n f ∧ H t = some (.tup (ns.map V.int)) ∧ (ns.length : Int) = n ∧ ∀ b H', Same H H' → (b = true ↔ Fit f (lv (pre ns))) → Q (.bl b) H'
def spBounds (C : Addr) : Sp := fun vs H Q _ => ∃ (p : Addr) (n : Int) (f : Fn), vs = [.ref p] ∧ TabAt C H p n f ∧ ∀ d B H', Same H H' → H d = none → H' d = some (.dT (kvT B)) → Good n B → fn B = f → Q (.ref d) H'
def spNeed1 (C : Addr) : Sp := fun vs H Q _ => ∃ (p dx : Addr) (fs : List (Str × V)), vs = [.ref p] ∧ H p = some (.ins C dx fs) ∧ Q .non H
def spNeed2 (C : Addr) : Sp := fun vs H Q _ => ∃ (p q : Addr) (n : Int) (f g : Fn), vs = [.ref p, .ref q] ∧ TabAt C H p n f ∧ TabAt C H q n g ∧ Q .non H
def spNothing (C : Addr) : Sp := fun vs H Q _ => ∃ n : Int, vs = [.int n] ∧ 1 ≤ n ∧ n ≤ 3 ∧ ∀ p H', Same H H' → TabAt C H' p n fNone → Q (.ref p) H'
section
variable {P : Program} {w : World} {K : PySem.W.Frag} {mg : Str → Option Value} {base : Heap} {C : Addr}
theorem ok_bounds (T : Txt K mg C) {f : Addr} {fd : FuncData} (F : Fun K "bounds" "Table.bounds" sT_bounds f fd) : FnOk P w K mg base CX0 1 f fd ["self"] (spBounds C) := by
  refine F.ok scT_bounds (fun vs H Q E h => by obtain ⟨p, n, f, rfl, _⟩ := h; rfl) (fun cdv A outer s H vs Q E hr h => ?_)
  obtain ⟨p, n, f, rfl, ⟨dx, d, B, h1, h2, g, dm, n1, n3, rfl⟩, k⟩ := h
  refine ⟨_, pss_one (ps_ret (pe_callTy (call_dictT (Nat.lt_of_le_of_lt (Nat.add_le_add_left (by decide : 2 ≤ 64) _) hr.units)) (by rfl) T.b_dict (by decide +kernel) (pa_cons (pe_fld (pv 0) rfl) pa_nil))), ?_⟩
  refine ⟨_, rfl, p, C, dx, _, _, rfl, h1, T.cl, T.nB, flds_bounds _ _, d, B, rfl, .inl h2, g.apart n3, fun q hq => ?_⟩
  exact k q B _ (same_new hq) hq upd_same g rfl
theorem ok_fits_sums (T : Txt K mg C) (D : Def K mg "fits_sums" s_fits_sums ["table", "levels"]) : Prom P w K mg base "fits_sums" 1 ["table", "levels"] (spFits C) := by
  refine D.ok sc_fits_sums (fun vs H Q E h => by obtain ⟨p, t, n, f, ls, rfl, _⟩ := h; rfl) (fun f cdv A outer s H vs Q E hr h => ?_)
  obtain ⟨p, t, n, f, ls, rfl, ⟨dx, d, B, h1, h2, g, dm, n1, n3, rfl⟩, ht, hl, k⟩ := h
  have nd := sc_fits_sums.nd
  refine ⟨_, pss_one (ps_ret (pe_callB (cr_all rfl) (by rfl) T.b_all (by decide +kernel) (pa_cons (pe_lock (pe_lc (own := [("pair", 2), ("bound", 3)]) (g := gTup K 2 (gCons (gName 2) (gCons (gName 3) gNil))) (tt := tYes) rfl nd (pi_pairs (pe_fld (pv 0) rfl))
    (blkOk_by (N := ["table", "levels", "pair", "bound"]) (sc := defScope s_fits_sums) (by decide +kernel)) (fun _ _ _ _ _ => pg_tup rfl (pgs_cons (pg_name (i := 2) nd rfl (Or.inl rfl)) (pgs_cons (pg_name (i := 3) nd rfl (Or.inl rfl)) pgs_nil))) (fun _ _ _ _ _ => pts_nil)
    (fun _ _ _ _ _ => pe_cmpR op_le (pe_op op_sub (pe_ix (ix_tupK (K := K) rfl) (pv 1) (pe_ix (ix_tupK (K := K) rfl) (pv 2) pe_int (fun _ _ => rfl)) (fun _ _ => rfl)) (pe_ix (ix_tupK (K := K) rfl) (pv 1) (pe_ix (ix_tupK (K := K) rfl) (pv 2) pe_int (fun _ _ => rfl)) (fun _ _ => rfl))) (pv 3) (nomark _)))) pa_nil))), ?_⟩
  have npd : p ≠ d := ne_of h1 h2 (by intro z; cases z)
  refine ⟨d, _, h2, trivial, fun od => ⟨_, rfl, p, C, dx, _, _, rfl, (by rw [upd_ne npd]; exact h1), T.cl, T.nB, flds_bounds _ _, d, od, _, rfl, upd_same, fun L hL => ?_⟩⟩
  refine lc_it walk_pairs (fun m H' => LcP (upd H d (.frz od (.dT (kvT B)))) L (((B.take m).map fun e => decide (lv ls e.1.1 - lv ls e.1.2 ≤ e.2)).map V.bl) H') (LcP.start hL) (fun i H' _ z => z.1 _ _ upd_same) ?_ ?_
  · rintro i x H1 H2 hi z ⟨T1, k1, v1, q, e1, rfl, hq, hT, rfl⟩
    obtain ⟨pt, zz, e2, rfl, hq⟩ := kvT_at e1 hq
    have hm : 0 ≤ pt.1 ∧ pt.1 ≤ n ∧ 0 ≤ pt.2 ∧ pt.2 ≤ n := g.rg _ (List.mem_of_getElem? e2)
    have s2 := same_new (o := .tup [.ref q, V.int zz]) hT
    have z2 := z.keeps s2
    have hq2 := s2 _ _ hq
    have htd : t ≠ d := ne_of ht h2 (by intro z; cases z)
    have ht2 := z2.1 _ _ (show upd H d _ t = _ by rw [upd_ne htd]; exact ht)
    refine ⟨T1, _, rfl, SqT.of upd_same, rfl, _, _, rfl, _, _, rfl, rfl, rfl, ?_⟩
    refine ⟨_, rfl, _, rfl, q, _, 0, _, rfl, rfl, SqT.of hq2, atI_nat (j := 0) rfl, t, _, pt.1, _, rfl, rfl, SqT.of ht2, atI_lv hm.1 (by omega), ?_⟩
    refine ⟨_, rfl, _, rfl, q, _, 1, _, rfl, rfl, SqT.of hq2, atI_nat (j := 1) rfl, t, _, pt.2, _, rfl, rfl, SqT.of ht2, atI_lv hm.2.2.1 (by omega), ?_⟩
    refine ⟨_, _, rfl, rfl, _, rfl, _, _, rfl, rfl, ?_⟩
    refine z2.put hL (len_lt (by rw [List.length_map, List.length_map, List.length_take]; have := g.len n3; omega : _ ≤ 16)) ?_
    rw [take_snoc e2, List.map_append, List.map_append]
    rfl
  · intro H1 z
    rw [kvT_len, List.take_of_length_le (Nat.le_refl _)] at z
    refine ⟨z.1 _ _ upd_same, L, _, rfl, SqL.of (by rw [upd_ne (ne_of (z.2) (z.1 _ _ upd_same) (by intro z; cases z))]; exact z.2), ?_⟩
    exact k _ _ (z.1.lock h2) (all_fit g)
theorem pre_len (ns : List Int) : (pre ns).length = ns.length + 1 := by
  unfold pre
  simp
theorem ok_fits (T : Txt K mg C) (pW : Prom P w K mg base "is_water" 2 ["thing"] spWater) (pS : Prom P w K mg base "sums_of" 1 ["water"] spSums) (pF : Prom P w K mg base "fits_sums" 1 ["table", "levels"] (spFits C))
    {f : Addr} {fd : FuncData} (F : Fun K "fits" "Table.fits" sT_fits f fd) : FnOk P w K mg base CX0 3 f fd ["self", "water"] (spFit C) := by
  refine F.ok scT_fits (fun vs H Q E h => by obtain ⟨p, t, n, f, ns, rfl, _⟩ := h; rfl) (fun cdv A outer s H vs Q E hr h => ?_)
  obtain ⟨p, t, n, f, ns, rfl, tb, ht, hl, k⟩ := h
  refine ⟨_, pss_cons (ps_if (pt_not (pt_val (pe_p pW hr (by rfl) (pa_cons (pv 1) pa_nil)))) pss_never pss_nil)
    (pss_cons (ps_if (pt_cmpR op_ne (pe_callB call_len_seq (by rfl) T.b_len PySem.boot_len (pa_cons (pv 1) pa_nil)) (pe_fld (pv 0) rfl) (nomark _)) pss_never pss_nil)
    (pss_one (ps_ret (pe_p pF (hr.mono (by decide)) (by rfl) (pa_cons (pv 0) (pa_cons (pe_p pS (hr.mono (by decide)) (by rfl) (pa_cons (pv 1) pa_nil)) pa_nil)))))), ?_⟩
  have hrg := tb.rng
  refine ⟨_, rfl, t, ns, rfl, ht, by omega, by omega, fun H1 s1 => ⟨true, rfl, iteF ?_⟩⟩
  have ht1 := s1 _ _ ht
  have tb1 := tb.keeps s1
  obtain ⟨dx, d, B, h1, h2, _⟩ := id tb1
  refine ⟨_, rfl, t, _, rfl, .inr (SqT.of ht1), _, rfl, p, C, dx, _, _, rfl, h1, T.cl, T.nS, flds_size _ _, ?_⟩
  refine ⟨rfl, _, rfl, iteNS (by rw [List.length_map, hl]) ?_⟩
  refine ⟨_, rfl, _, rfl, t, ns, rfl, ht1, by omega, by omega, fun q H2 s2 hq => ?_⟩
  refine ⟨p, q, n, f, pre ns, rfl, tb1.keeps s2, hq, (by rw [pre_len]; omega), fun b H3 s3 hb => ?_⟩
  exact k b H3 ((s1.trans s2).trans s3) hb
theorem ok_need_table (T : Txt K mg C) (D : Def K mg "need_table" s_need_table ["table"]) : Prom P w K mg base "need_table" 1 ["table"] (spNeed1 C) := by
  refine D.ok sc_need_table (fun vs H Q E h => by obtain ⟨p, dx, fs, rfl, _⟩ := h; rfl) (fun f cdv A outer s H vs Q E hr h => ?_)
  obtain ⟨p, dx, fs, rfl, h1, k⟩ := h
  refine ⟨_, pss_one (ps_if (pt_not (pt_val (pe_callB call_isi (by rfl) T.b_isinstance (by decide +kernel) (pa_cons (pv 0) (pa_cons (pe_glob (v := .ref C) rfl T.mgC rfl) pa_nil))))) pss_never pss_nil), ?_⟩
  refine ⟨_, rfl, .ref p, .ref C, .ref C, .ref C, true, rfl, .own _, T.ty h1, kit_own, true, rfl, iteF ?_⟩
  exact k
theorem ok_need_same (T : Txt K mg C) (D : Def K mg "need_same" s_need_same ["one", "other"]) : Prom P w K mg base "need_same" 1 ["one", "other"] (spNeed2 C) := by
  refine D.ok sc_need_same (fun vs H Q E h => by obtain ⟨p, q, n, f, g, rfl, _⟩ := h; rfl) (fun f cdv A outer s H vs Q E hr h => ?_)
  obtain ⟨p, q, n, f, g, rfl, ⟨dx, d, B, h1, _⟩, ⟨dx2, d2, B2, h2, _⟩, k⟩ := h
  refine ⟨_, pss_one (ps_if (pt_cmpR op_ne (pe_fld (pv 0) rfl) (pe_fld (pv 1) rfl) (nomark _)) pss_never pss_nil), ?_⟩
  refine ⟨_, rfl, p, C, dx, _, _, rfl, h1, T.cl, T.nS, flds_size _ _, _, rfl, q, C, dx2, _, _, rfl, h2, T.cl, T.nS, flds_size _ _, rfl, _, rfl, iteNS rfl k⟩
theorem ok_need_two (T : Txt K mg C) (pS : Prom P w K mg base "need_same" 1 ["one", "other"] (spNeed2 C)) (D : Def K mg "need_two" s_need_two ["one", "other"]) : Prom P w K mg base "need_two" 2 ["one", "other"] (spNeed2 C) := by
  refine D.ok sc_need_two (fun vs H Q E h => by obtain ⟨p, q, n, f, g, rfl, _⟩ := h; rfl) (fun f cdv A outer s H vs Q E hr h => ?_)
  obtain ⟨p, q, n, f, g, rfl, t1, t2, k⟩ := h
  obtain ⟨dx, d, B, h1, _⟩ := id t1
  obtain ⟨dx2, d2, B2, h2, _⟩ := id t2
  refine ⟨_, pss_cons (ps_if (pt_not (pt_val (pe_callB call_isi (by rfl) T.b_isinstance (by decide +kernel) (pa_cons (pv 0) (pa_cons (pe_glob (v := .ref C) rfl T.mgC rfl) pa_nil))))) pss_never pss_nil)
    (pss_cons (ps_if (pt_not (pt_val (pe_callB call_isi (by rfl) T.b_isinstance (by decide +kernel) (pa_cons (pv 1) (pa_cons (pe_glob (v := .ref C) rfl T.mgC rfl) pa_nil))))) pss_never pss_nil)
    (pss_one (ps_expr (pe_p pS hr (by rfl) (pa_cons (pv 0) (pa_cons (pv 1) pa_nil)))))), ?_⟩
  refine ⟨_, rfl, .ref p, .ref C, .ref C, .ref C, true, rfl, .own _, T.ty h1, kit_own, true, rfl, iteF ?_⟩
  refine ⟨_, rfl, .ref q, .ref C, .ref C, .ref C, true, rfl, .own _, T.ty h2, kit_own, true, rfl, iteF ?_⟩
  exact ⟨_, rfl, _, rfl, p, q, n, f, g, rfl, t1, t2, k⟩
theorem ok_nothing (T : Txt K mg C) (M : MakeT P w K mg base C) (D : Def K mg "nothing" s_nothing ["size"]) : Prom P w K mg base "nothing" 6 ["size"] (spNothing C) := by
  refine D.ok sc_nothing (fun vs H Q E h => by obtain ⟨n, rfl, _⟩ := h; rfl) (fun f cdv A outer s H vs Q E hr h => ?_)
  obtain ⟨n, rfl, n1, n3, k⟩ := h
  refine ⟨_, pss_one (ps_ret (pe_tab M T.mgC hr (by rfl) (pa_cons (pv 0) (pa_cons (pe_dispA hr.units0 (pps_cons (pe_tup (pa_cons pe_int (pa_cons pe_int pa_nil))) (pe_un un_neg pe_int) (pps_cons (pe_tup (pa_cons pe_int (pa_cons pe_int pa_nil))) pe_int pps_nil)) rfl rfl (by simp) (by decide)) pa_nil)))), ?_⟩
  refine ⟨_, rfl, .dT [], .inr rfl, fun d hd => ?_⟩
  refine ⟨(by show 2 ≤ sizeLine; exact Nat.le_of_lt (len_lt (by decide : 2 ≤ 12))), fun t1 h1 => ⟨1, rfl, ?_⟩⟩
  refine ⟨(by show 2 ≤ sizeLine; exact Nat.le_of_lt (len_lt (by decide : 2 ≤ 12))), fun t2 h2 => ?_⟩
  have s1 := same_new (o := .dT []) hd
  have s2 := s1.upd_new (o := .tup [.int 0, .int 1]) h1
  have s3 := s2.upd_new (o := .tup [.int 1, .int 0]) h2
  have k1 := same_new (o := .tup [.int 0, .int 1]) h1
  have k2 := same_new (o := .tup [.int 1, .int 0]) h2
  have d3 := k2 _ _ (k1 _ _ (upd_same (H := H) (a := d) (o := HO.dT [])))
  have t13 := k2 _ _ (upd_same (H := upd H d (.dT [])) (a := t1) (o := HO.tup [.int 0, .int 1]))
  have t23 := upd_same (H := upd (upd H d (.dT [])) t1 (.tup [.int 0, .int 1])) (a := t2) (o := HO.tup [.int 1, .int 0])
  refine ⟨_, put_bd (B := []) (p := (0, 1)) d3 t13 (by decide), ?_⟩
  refine ⟨_, put_bd (B := putB [] (0, 1) (-1)) (p := (1, 0)) upd_same (by rw [upd_ne (ne_of t23 d3 (by intro z; cases z))]; exact t23) (by decide), ?_⟩
  have g1 : Good n (putB [] (0, 1) (-1)) := Good.nil.put _ (by decide) (by show (0:Int) ≤ n; omega) (by decide) n1
  have g2 : Good n (putB (putB [] (0, 1) (-1)) (1, 0) 0) := g1.put _ (by decide) n1 (by decide) (by show (0:Int) ≤ n; omega)
  have ef : fn (putB (putB [] (0, 1) (-1)) (1, 0) 0) = fNone := by
    funext a b
    show look _ (a, b) = _
    rw [look_put, look_put, look_nil]
    unfold fNone
    simp only [Prod.mk.injEq]
    by_cases c1 : a = 0 ∧ b = 1
    · obtain ⟨rfl, rfl⟩ := c1
      rfl
    · rw [if_neg c1, if_neg c1]
  refine make_read n1 n3 (Eq.trans upd_same rfl) g2 (by rw [ef]; exact fNone_dom n1) fun p H' s' t => ?_
  rw [ef] at t
  exact k p H' (((s3.upd_own hd).upd_own hd).trans s') t
end
end Bw

/-! Least ways. -/
namespace Bw
open PySem PySem.Spec PyProof.Rows L2
/-! ### merges -/
theorem look_merge : ∀ {C : Bd} {B : Bd} {p : Pt}, (keysB C).Nodup → look (mergeB B C) p = (look C p).or (look B p)
  | [], B, p, _ => rfl
  | e :: C, B, p, h => by
    have h' : e.1 ∉ keysB C ∧ (keysB C).Nodup := List.nodup_cons.mp h
    show look (mergeB (putB B e.1 e.2) C) p = _
    rw [look_merge h'.2, look_put, look_cons]
    by_cases hp : e.1 = p
    · subst hp
      rw [if_pos rfl, if_pos rfl]
      cases ec : look C e.1 with
      | none => rfl
      | some z => exact absurd (List.mem_map_of_mem (f := (·.1)) (look_mem ec)) h'.1
    · rw [if_neg hp, if_neg (fun z => hp z.symm)]
theorem good_merge {n : Int} : ∀ {C : Bd} {B : Bd}, Good n B → (∀ e ∈ C, 0 ≤ e.1.1 ∧ e.1.1 ≤ n ∧ 0 ≤ e.1.2 ∧ e.1.2 ≤ n) → Good n (mergeB B C)
  | [], B, g, _ => g
  | e :: C, B, g, h => by
    have he := h e (List.mem_cons_self)
    show Good n (mergeB (putB B e.1 e.2) C)
    exact good_merge (C := C) (g.put e.2 he.1 he.2.1 he.2.2.1 he.2.2.2) fun x hx => h x (List.mem_cons_of_mem _ hx)
/-! ### lists of pairs -/
/-- the list at L holds new tuples of the pairs ys -/
def PairsAt (H : Hp) (L : Addr) (ys : List (Addr × Pt)) : Prop := H L = some (.lst (ys.map fun y => V.ref y.1)) ∧ ∀ y ∈ ys, H y.1 = some (.tup [.int y.2.1, .int y.2.2])
theorem PairsAt.keeps {H H' : Hp} {L : Addr} {ys : List (Addr × Pt)} (p : PairsAt H L ys) (s : Same H H') : PairsAt H' L ys := ⟨s _ _ p.1, fun y hy => s _ _ (p.2 y hy)⟩
/-- all but d stays -/
def But (d : Addr) (H H' : Hp) : Prop := ∀ b o, H b = some o → b ≠ d → H' b = some o
theorem But.refl {d : Addr} {H : Hp} : But d H H := fun _ _ e _ => e
theorem But.upd {d : Addr} {H H' : Hp} {o : HO} (b : But d H H') : But d H (upd H' d o) := fun c u e ne => by
  rw [upd_ne ne]
  exact b c u e ne
theorem But.new {d : Addr} {H H' : Hp} {p : Addr} {o : HO} (b : But d H H') (h : H' p = none) : But d H (L2.upd H' p o) := fun c u e ne => by
  have x := b c u e ne
  rw [upd_ne (ne_of_none x h)]
  exact x
theorem But.same {d : Addr} {H H1 H' : Hp} (b : But d H1 H') (s : Same H H1) (h : H d = none) : Same H H' := fun c u e => b c u (s c u e) (ne_of_none e h)
theorem But.trans {d : Addr} {H H1 H' : Hp} (b : But d H H1) (c : But d H1 H') : But d H H' := fun x u e ne => c x u (b x u e ne) ne
theorem Same.but {d : Addr} {H H' : Hp} (s : Same H H') : But d H H' := fun c u e _ => s c u e
theorem PairsAt.but {d : Addr} {H H' : Hp} {L : Addr} {ys : List (Addr × Pt)} {kvs : List (List Key × V)} (p : PairsAt H L ys) (s : But d H H') (hd : H d = some (.dT kvs)) : PairsAt H' L ys :=
  ⟨s _ _ p.1 (ne_of p.1 hd (by intro z; cases z)), fun y hy => s _ _ (p.2 y hy) (ne_of (p.2 y hy) hd (by intro z; cases z))⟩
/-! ### one row, one stop -/
/-- the rows of the first stops are done, of row a the first ends -/
def midF (D : Fn) (m : Int) (R : List Int) (a : Int) (S : List Int) : Fn := fun x y => if x ∈ R ∨ (x = a ∧ y ∈ S) then relaxF D m x y else D x y
theorem mid_put {D : Fn} {m a b u v : Int} {R S : List Int} {B : Bd} (hB : fn B = midF D m R a S) (e1 : D a m = some u) (e2 : D m b = some v) :
    (look B (a, b) = none ∨ (∃ w, look B (a, b) = some w ∧ u + v < w) → fn (putB B (a, b) (u + v)) = midF D m R a (S ++ [b])) ∧
    ((∃ w, look B (a, b) = some w ∧ ¬ u + v < w) → fn B = midF D m R a (S ++ [b])) := by
  have hlk : look B (a, b) = midF D m R a S a b := congrFun (congrFun hB a) b
  have hlk2 : look B (a, b) = if a ∈ R ∨ b ∈ S then relaxF D m a b else D a b := by
    rw [hlk]
    unfold midF
    simp
  have hrel : relaxF D m a b = match D a b with
    | some w => some (if u + v < w then u + v else w)
    | none => some (u + v) := by
    first
      | (unfold relaxF; rw [e1, e2]; done)
      | (unfold relaxF; rw [e1, e2]; cases D a b <;> rfl)
  have other : ∀ x y, ¬ (x = a ∧ y = b) → midF D m R a S x y = midF D m R a (S ++ [b]) x y := by
    intro x y hne
    unfold midF
    have : (x ∈ R ∨ x = a ∧ y ∈ S) ↔ (x ∈ R ∨ x = a ∧ y ∈ S ++ [b]) := by
      rw [List.mem_append, List.mem_singleton]
      constructor
      · rintro (h | ⟨h1, h2⟩)
        · exact .inl h
        · exact .inr ⟨h1, .inl h2⟩
      · rintro (h | ⟨h1, h2 | h2⟩)
        · exact .inl h
        · exact .inr ⟨h1, h2⟩
        · exact absurd ⟨h1, h2⟩ hne
    simp only [this]
  have hit : midF D m R a (S ++ [b]) a b = relaxF D m a b := by
    unfold midF
    rw [if_pos (.inr ⟨rfl, by simp⟩)]
  by_cases hin : a ∈ R ∨ b ∈ S
  · rw [if_pos hin] at hlk2
    obtain ⟨w', hw', hle⟩ := relax_sum e1 e2
    rw [hw'] at hlk2
    constructor
    · rintro (h | ⟨w, h, hlt⟩)
      · rw [h] at hlk2; cases hlk2
      · rw [h] at hlk2
        have := Option.some.inj hlk2
        omega
    · intro _
      rw [hB]
      funext x y
      by_cases hxy : x = a ∧ y = b
      · obtain ⟨rfl, rfl⟩ := hxy
        rw [hit, ← hlk, hlk2, hw']
      · exact other x y hxy
  · rw [if_neg hin] at hlk2
    constructor
    · intro h
      funext x y
      show look (putB B (a, b) (u + v)) (x, y) = _
      rw [look_put]
      by_cases hxy : x = a ∧ y = b
      · obtain ⟨rfl, rfl⟩ := hxy
        rw [if_pos rfl, hit, hrel, ← hlk2]
        rcases h with h | ⟨w, h, hlt⟩
        · rw [h]
        · rw [h]
          simp [hlt]
      · rw [if_neg (by intro z; exact hxy ⟨congrArg Prod.fst z, congrArg Prod.snd z⟩), ← other x y hxy]
        exact congrFun (congrFun hB x) y
    · rintro ⟨w, h, hlt⟩
      rw [hB]
      funext x y
      by_cases hxy : x = a ∧ y = b
      · obtain ⟨rfl, rfl⟩ := hxy
        rw [hit, hrel, ← hlk2, h, ← hlk, h]
        simp [hlt]
      · exact other x y hxy
theorem mid_row {D : Fn} {m a : Int} {R S : List Int} (hS : ∀ b v, D m b = some v → b ∈ S) (a' : Int) : midF D m R a S = midF D m (R ++ [a]) a' [] := by
  funext x y
  unfold midF
  by_cases h : x ∈ R
  · rw [if_pos (.inl h), if_pos (.inl (by simp [h]))]
  · by_cases hx : x = a
    · subst hx
      rw [if_pos (.inl (by simp) : x ∈ R ++ [x] ∨ x = a' ∧ y ∈ [])]
      by_cases hy : y ∈ S
      · rw [if_pos (.inr ⟨rfl, hy⟩)]
      · rw [if_neg (by rintro (z | z); exact h z; exact hy z.2)]
        unfold relaxF
        cases e : D m y with
        | some v => exact absurd (hS y v e) hy
        | none => cases D x m <;> rfl
    · rw [if_neg (by rintro (z | z); exact h z; exact hx z.1), if_neg (by rintro (z | z); (rcases List.mem_append.mp z with z | z; exact h z; exact hx (List.mem_singleton.mp z)); cases z.2)]
theorem mid_end {D : Fn} {m a' : Int} {R : List Int} (hR : ∀ a v, D a m = some v → a ∈ R) : midF D m R a' [] = relaxF D m := by
  funext x y
  unfold midF
  by_cases h : x ∈ R
  · rw [if_pos (.inl h)]
  · rw [if_neg (by rintro (z | z); exact h z; cases z.2)]
    unfold relaxF
    cases e : D x m with
    | some v => exact absurd (hR x v e) h
    | none => rfl
theorem mid_start {D : Fn} {m a' : Int} : midF D m [] a' [] = D := by
  funext x y
  unfold midF
  rw [if_neg (by rintro (z | z); cases z; cases z.2)]
end Bw

/-! Least ways: the walk. -/
namespace Bw
open PySem PySem.Spec PyProof.Rows L2
theorem walk_rg {n : Nat} : Walk (Itr 0 n) n (fun _ => True) (fun i H x H' => H' = H ∧ x = V.int (i : Int)) :=
  walk_range.mono (fun _ h => h) fun i H x H' _ _ h => ⟨h.1, h.2.trans (congrArg V.int (Int.zero_add _))⟩
theorem l2 : 2 ≤ sizeLine := Nat.le_of_lt (len_lt (by decide : 2 ≤ 12))
theorem l1 : 1 ≤ sizeLine := Nat.le_of_lt (len_lt (by decide : 1 ≤ 12))
theorem mid_any {D : Fn} {m a a' : Int} {R : List Int} : midF D m R a [] = midF D m R a' [] := by
  funext x y
  unfold midF
  simp
theorem mid_start' {D : Fn} {m a' : Int} {ys : List (Addr × Pt)} : midF D m ((ys.take 0).map fun y => y.2.1) a' [] = D := mid_start
def spLeast : Sp := fun vs H Q _ => ∃ (n : Int) (d : Addr) (B : Bd), vs = [.int n, .ref d] ∧ 1 ≤ n ∧ n ≤ 3 ∧ H d = some (.dT (kvT B)) ∧ Good n B ∧ Dom n (fn B) ∧
  ∀ q B' H', Same H H' → H q = none → H' q = some (.dT (kvT B')) → Good n B' → (∃ m, Way n m (fn B) (fn B') ∧ ((m = n + 1 ∧ ∀ a v, fn B' a a = some v → 0 ≤ v) ∨ ∃ a v, fn B' a a = some v ∧ v < 0)) → Q (.ref q) H'
section
variable {P : Program} {w : World} {K : PySem.W.Frag} {mg : Str → Option Value} {base : Heap} {C : Addr}
theorem ok_least_ways (T : Txt K mg C) (D : Def K mg "least_ways" s_least_ways ["size", "bounds"]) : Prom P w K mg base "least_ways" 1 ["size", "bounds"] spLeast := by
  refine D.ok sc_least_ways (fun vs H Q E h => by obtain ⟨n, d, B, rfl, _⟩ := h; rfl) (fun f cdv A outer s H vs Q E hr h => ?_)
  obtain ⟨n, d, B, rfl, n1, n3, hd, g, dm, k⟩ := h
  have nd := sc_least_ways.nd
  have hu := hu_of hr
  refine ⟨_, pss_cons (ps_set (i := 2) nd rfl (.inr rfl) (pe_merge2 hr.units0 (pv 1) (pe_dcA (own := [("point", 3)]) (g := gName 3) (tt := tYes) hr.units0 rfl nd (pi_range1 (by rfl) T.b_range (pa_cons (pe_op op_add (pv 0) pe_int) pa_nil))
      (blkOk_by (N := ["size", "bounds", "found", "point", "a", "b", "begins", "ends", "one", "two"]) (sc := defScope s_least_ways) (by decide +kernel)) (fun _ _ _ _ _ => ⟨pg_name (i := 3) nd rfl (Or.inl rfl), pts_nil, pe_tup (pa_cons (pv 3) (pa_cons (pv 3) pa_nil)), pe_int⟩))))
    (pss_cons (ps_for PassesOwn.never rfl (pi_range1 (by rfl) T.b_range (pa_cons (pe_op op_add (pv 0) pe_int) pa_nil)) (pg_name (i := 3) nd rfl (Or.inr rfl))
      (pss_cons (ps_setLc (i := 6) (own := [("a", 4)]) (g := gName 4) rfl nd rfl rfl (sw_true rfl rfl rfl (by decide +kernel)) (pi_range1 (by rfl) T.b_range (pa_cons (pe_op op_add (pv 0) pe_int) pa_nil))
        (blkOk_by (N := ["size", "bounds", "found", "point", "a", "b", "begins", "ends", "one", "two"]) (sc := defScope s_least_ways) (by decide +kernel)) (fun _ _ _ _ _ => pg_name (i := 4) nd rfl (Or.inl rfl))
        (fun _ _ _ _ _ => pts_one (pt_cmp (pc_din hu (pe_tup (pa_cons (pv 4) (pa_cons (pv 3) pa_nil))) (pv 2))))
        (fun _ _ _ _ _ => pe_tup (pa_cons (pv 4) (pa_cons (pe_dget hu (pv 2) (pe_tup (pa_cons (pv 4) (pa_cons (pv 3) pa_nil))) (fun _ _ => rfl)) pa_nil))))
      (pss_cons (ps_setLc (i := 7) (own := [("b", 5)]) (g := gName 5) rfl nd rfl rfl (sw_true rfl rfl rfl (by decide +kernel)) (pi_range1 (by rfl) T.b_range (pa_cons (pe_op op_add (pv 0) pe_int) pa_nil))
        (blkOk_by (N := ["size", "bounds", "found", "point", "a", "b", "begins", "ends", "one", "two"]) (sc := defScope s_least_ways) (by decide +kernel)) (fun _ _ _ _ _ => pg_name (i := 5) nd rfl (Or.inl rfl))
        (fun _ _ _ _ _ => pts_one (pt_cmp (pc_din hu (pe_tup (pa_cons (pv 3) (pa_cons (pv 5) pa_nil))) (pv 2))))
        (fun _ _ _ _ _ => pe_tup (pa_cons (pv 5) (pa_cons (pe_dget hu (pv 2) (pe_tup (pa_cons (pv 3) (pa_cons (pv 5) pa_nil))) (fun _ _ => rfl)) pa_nil))))
      (pss_cons (ps_for PassesOwn.never rfl (pi_list (pv 6)) (pg_tup rfl (pgs_cons (pg_name (i := 4) nd rfl (Or.inl rfl)) (pgs_cons (pg_name (i := 8) nd rfl (Or.inl rfl)) pgs_nil)))
        (pss_one (ps_for PassesOwn.never rfl (pi_list (pv 7)) (pg_tup rfl (pgs_cons (pg_name (i := 5) nd rfl (Or.inl rfl)) (pgs_cons (pg_name (i := 9) nd rfl (Or.inl rfl)) pgs_nil)))
          (pss_one (ps_if (PW.pt (pw_or (pt_cmp (pc_dnotin hu (pe_tup (pa_cons (pv 4) (pa_cons (pv 5) pa_nil))) (pv 2)))
              (pw_or1 (pt_cmpR op_lt (pe_op op_add (pv 8) (pv 9)) (pe_dget hu (pv 2) (pe_tup (pa_cons (pv 4) (pa_cons (pv 5) pa_nil))) (fun _ _ => rfl)) (nomark _)))))
            (pss_one (ps_dput hu (pv 2) (pe_tup (pa_cons (pv 4) (pa_cons (pv 5) pa_nil))) (pe_op op_add (pv 8) (pv 9)) rfl)) pss_nil)))))
      (pss_one (ps_if (pt_val (pe_callB (cr_any rfl) (by rfl) T.b_any (by decide +kernel) (pa_cons (pe_lc (own := [("a", 4)]) (g := gName 4) (tt := tYes) rfl nd (pi_range1 (by rfl) T.b_range (pa_cons (pe_op op_add (pv 0) pe_int) pa_nil))
          (blkOk_by (N := ["size", "bounds", "found", "point", "a", "b", "begins", "ends", "one", "two"]) (sc := defScope s_least_ways) (by decide +kernel)) (fun _ _ _ _ _ => pg_name (i := 4) nd rfl (Or.inl rfl)) (fun _ _ _ _ _ => pts_nil)
          (fun _ _ _ _ _ => pe_cmpR op_lt (pe_dget hu (pv 2) (pe_tup (pa_cons (pv 4) (pa_cons (pv 4) pa_nil))) (fun _ _ => rfl)) pe_int (nomark _))) pa_nil)))
        (pss_one (ps_ret (pv 2))) pss_nil))))))
    (pss_one (ps_ret (pv 2)))), ?_⟩
  -- the start
  intro Dd hDd
  have nDd : d ≠ Dd := ne_of_none hd hDd
  refine ⟨_, rfl, d, [], B, rfl, nDd.symm, .inl (by rw [upd_ne nDd]; exact hd), upd_same, g.apart n3, (by show 0 + B.length ≤ _; have := g.len n3; exact Nat.le_of_lt (len_lt (by omega : _ ≤ 16))), ?_⟩
  have ef0 : fn (mergeB [] B) = fn B := by
    funext a b
    show look _ _ = look _ _
    rw [look_merge g.nd, look_nil]
    cases look B (a, b) <;> rfl
  have g0 : Good n (mergeB [] B) := good_merge Good.nil g.rg
  have s0 : Same H (upd (upd H Dd (.dT [])) Dd (.dT (kvT (mergeB [] B)))) := (same_new hDd).upd_own hDd
  have d0 : upd (upd H Dd (.dT [])) Dd (.dT (kvT (mergeB [] B))) Dd = some (.dT (kvT (mergeB [] B))) := upd_same
  generalize upd (upd H Dd (.dT [])) Dd (.dT (kvT (mergeB [] B))) = H1 at s0 d0 ⊢
  refine ⟨_, rfl, _, _, rfl, rfl, n + 1, rfl, by omega, by omega, .dT [], .inr rfl, fun De hDe => ?_⟩
  refine dc_it walk_rg (fun i H' => Same H1 H' ∧ ∃ B', H' De = some (.dT (kvT B')) ∧ Good n B' ∧ ∀ q, look B' q = if q.1 = q.2 ∧ 0 ≤ q.1 ∧ q.1 < i then some 0 else none)
    ⟨same_new hDe, [], upd_same, Good.nil, fun q => by rw [look_nil, if_neg (by omega)]⟩ (fun _ _ _ _ => trivial) ?_ ?_
  · rintro i x H2 H3 hi ⟨s1, B', h1, g1, e1⟩ ⟨rfl, rfl⟩
    refine ⟨rfl, _, rfl, _, rfl, l2, fun t ht => ?_⟩
    refine ⟨_, put_bd (p := ((i : Int), (i : Int))) (same_new ht _ _ h1) upd_same (g1.l1000 n3), ?_⟩
    refine ⟨(s1.upd_new ht).upd_own hDe, _, upd_same, g1.put _ (by show (0 : Int) ≤ i; omega) (by show (i : Int) ≤ n; omega) (by show (0 : Int) ≤ i; omega) (by show (i : Int) ≤ n; omega), fun q => ?_⟩
    rw [look_put, e1]
    obtain ⟨qa, qb⟩ := q
    by_cases hq : qa = i ∧ qb = i
    · obtain ⟨rfl, rfl⟩ := hq
      rw [if_pos rfl, if_pos ⟨rfl, by show (0 : Int) ≤ i; omega, by show (i : Int) < ((i + 1 : Nat) : Int); omega⟩]
    · rw [if_neg (by intro z; injection z with z1 z2; omega)]
      have : (qa = qb ∧ 0 ≤ qa ∧ qa < (i : Int)) ↔ (qa = qb ∧ 0 ≤ qa ∧ qa < ((i + 1 : Nat) : Int)) := by omega
      simp only [this]
  rintro H2 ⟨s1, Dg, h1, g1, e1⟩
  have hDDe : Dd ≠ De := ne_of_none d0 hDe
  have nhash := g1.apart n3
  have gl1 := g0.len n3
  have gl2 := g1.len n3
  refine ⟨De, _, Dg, rfl, hDDe, .inl h1, s1 _ _ d0, nhash, Nat.le_of_lt (len_lt (by omega : _ ≤ 32)), ?_⟩
  have g2 : Good n (mergeB (mergeB [] B) Dg) := good_merge g0 g1.rg
  have ef : fn (mergeB (mergeB [] B) Dg) = diagF n (fn B) := by
    funext a b
    show look _ _ = _
    rw [look_merge g1.nd, e1]
    unfold diagF
    have hab : look (mergeB [] B) (a, b) = fn B a b := congrFun (congrFun ef0 a) b
    rw [hab]
    by_cases h : a = b ∧ 0 ≤ a ∧ a ≤ n
    · rw [if_pos h, if_pos ⟨h.1, h.2.1, by show a < _; omega⟩]
      rfl
    · rw [if_neg h, if_neg (by rintro ⟨z1, z2, z3⟩; exact h ⟨z1, z2, by have : a < ((n + 1).toNat : Int) := z3; omega⟩)]
      cases fn B a b <;> rfl
  have w0 : Way n 0 (fn B) (fn (mergeB (mergeB [] B) Dg)) := by
    rw [ef]
    exact way_start dm
  have p0 : ∀ a v, fn (mergeB (mergeB [] B) Dg) a a = some v → 0 ≤ v := by
    intro a v e
    rw [ef] at e
    unfold diagF at e
    by_cases h : a = a ∧ 0 ≤ a ∧ a ≤ n
    · rw [if_pos h] at e
      cases e
      exact Int.le_refl _
    · rw [if_neg h] at e
      exact absurd rfl (dm a a v e).2.2.2.2
  have s2 : Same H (upd H2 Dd (.dT (kvT (mergeB (mergeB [] B) Dg)))) := (s0.trans s1).upd_own hDd
  have d2 : upd H2 Dd (.dT (kvT (mergeB (mergeB [] B) Dg))) Dd = some (.dT (kvT (mergeB (mergeB [] B) Dg))) := upd_same
  generalize upd H2 Dd (.dT (kvT (mergeB (mergeB [] B) Dg))) = H3 at s2 d2 ⊢
  generalize mergeB (mergeB [] B) Dg = Bs at d2 g2 w0 p0 ⊢
  -- the stops
  refine ⟨_, rfl, _, _, rfl, rfl, n + 1, rfl, by omega, by omega, ?_⟩
  refine for_it walk_rg (fun i σ H' => ∃ o3 o4 o5 o6 o7 o8 o9, σ = [some (.int n), some (.ref d), some (.ref Dd), o3, o4, o5, o6, o7, o8, o9] ∧ Same H H' ∧ ∃ B', H' Dd = some (.dT (kvT B')) ∧ Good n B' ∧ Way n i (fn B) (fn B') ∧ ∀ a v, fn B' a a = some v → 0 ≤ v)
    ⟨_, _, _, _, _, _, _, rfl, s2, _, d2, g2, w0, p0⟩ (fun _ _ _ _ _ => trivial) ?_ ?_
  · rintro i x σ H4 H5 hi ⟨o3, o4, o5, o6, o7, o8, o9, rfl, s4, B', h4, g4, w4, p4⟩ ⟨rfl, rfl⟩
    have him : (i : Int) ≤ n := by omega
    -- begins
    refine ⟨_, rfl, _, _, rfl, rfl, n + 1, rfl, by omega, by omega, fun L1 hL1 => ?_⟩
    refine lc_it walk_rg (fun j H' => Same H5 H' ∧ ∃ ys, PairsAt H' L1 ys ∧ ys.length ≤ j ∧ ∀ a v : Int, ((a, v) : Pt) ∈ ys.map (·.2) ↔ (0 ≤ a ∧ a < j ∧ fn B' a i = some v))
      ⟨same_new hL1, [], ⟨upd_same, fun y hy => nomatch hy⟩, Nat.le_refl _, fun a v => ⟨(fun z => nomatch z), fun z => by omega⟩⟩ (fun _ _ _ _ => trivial) ?_ ?_
    · rintro j x H6 H7 hj ⟨s6, ys, ⟨a1, a2⟩, a3, a4⟩ ⟨rfl, rfl⟩
      refine ⟨rfl, _, rfl, _, rfl, l2, fun t ht => ⟨_, rfl, Dd, (look B' ((j : Int), (i : Int))).map V.int, rfl, get_bdO (.inl (same_new ht _ _ (s6 _ _ h4))) upd_same, _, rfl, ?_⟩⟩
      have st := same_new (o := .tup [V.int (j : Int), V.int (i : Int)]) ht
      cases e : look B' ((j : Int), (i : Int)) with
      | none =>
        refine iteF ⟨s6.upd_new ht, ys, ⟨st _ _ a1, fun y hy => st _ _ (a2 y hy)⟩, by omega, fun a v => ?_⟩
        rw [a4]
        constructor
        · rintro ⟨z1, z2, z3⟩
          exact ⟨z1, by omega, z3⟩
        · rintro ⟨z1, z2, z3⟩
          refine ⟨z1, ?_, z3⟩
          by_cases hz : a = j
          · subst hz
            rw [show fn B' (j : Int) i = look B' (j, i) from rfl, e] at z3
            cases z3
          · omega
      | some z =>
        refine iteT ⟨_, rfl, _, rfl, _, rfl, _, rfl, l2, fun t2 ht2 => ⟨Dd, .int z, rfl, get_bd (.inl (same_new ht2 _ _ (st _ _ (s6 _ _ h4)))) upd_same e, l2, fun t3 ht3 => ?_⟩⟩
        have st2 := st.upd_new (o := .tup [V.int (j : Int), V.int (i : Int)]) ht2
        have st3 := st2.upd_new (o := .tup [V.int (j : Int), V.int z]) ht3
        refine ⟨_, st3 _ _ a1, len_lt (by rw [List.length_map]; omega : _ ≤ 5), (s6.trans st3).upd_own hL1, ys ++ [(t3, ((j : Int), z))], ⟨?_, ?_⟩, ?_, ?_⟩
        · rw [upd_same, List.map_append]
          rfl
        · intro y hy
          have hf : upd (upd (upd H7 t (.tup [V.int (j : Int), V.int (i : Int)])) t2 (.tup [V.int (j : Int), V.int (i : Int)])) t3 (.tup [V.int (j : Int), V.int z]) y.1 = some (.tup [.int y.2.1, .int y.2.2]) := by
            rcases List.mem_append.mp hy with hy | hy
            · exact st3 _ _ (a2 y hy)
            · rw [List.mem_singleton.mp hy]
              exact upd_same
          rw [upd_ne (ne_of hf (st3 _ _ a1) (by intro z; cases z))]
          exact hf
        · rw [List.length_append]
          exact Nat.add_le_add_right a3 1
        · intro a v
          rw [List.map_append, List.mem_append, a4]
          constructor
          · rintro (⟨z1, z2, z3⟩ | hm)
            · exact ⟨z1, by omega, z3⟩
            · have := List.mem_singleton.mp hm
              injection this with x1 x2
              subst x1 x2
              exact ⟨by omega, by omega, e⟩
          · rintro ⟨z1, z2, z3⟩
            by_cases hz : a = j
            · subst hz
              rw [show fn B' (j : Int) i = look B' (j, i) from rfl, e] at z3
              cases z3
              exact .inr (List.mem_singleton.mpr rfl)
            · exact .inl ⟨z1, by omega, z3⟩
    rintro Hb ⟨sb, ys, pa1, la1, ma1⟩
    have hb4 := sb _ _ h4
    -- ends
    refine ⟨_, rfl, _, _, rfl, rfl, n + 1, rfl, by omega, by omega, fun L2a hL2 => ?_⟩
    refine lc_it walk_rg (fun j H' => Same Hb H' ∧ ∃ ys, PairsAt H' L2a ys ∧ ys.length ≤ j ∧ ∀ a v : Int, ((a, v) : Pt) ∈ ys.map (·.2) ↔ (0 ≤ a ∧ a < j ∧ fn B' i a = some v))
      ⟨same_new hL2, [], ⟨upd_same, fun y hy => nomatch hy⟩, Nat.le_refl _, fun a v => ⟨(fun z => nomatch z), fun z => by omega⟩⟩ (fun _ _ _ _ => trivial) ?_ ?_
    · rintro j x H6 H7 hj ⟨s6, ys, ⟨a1, a2⟩, a3, a4⟩ ⟨rfl, rfl⟩
      refine ⟨rfl, _, rfl, _, rfl, l2, fun t ht => ⟨_, rfl, Dd, (look B' ((i : Int), (j : Int))).map V.int, rfl, get_bdO (.inl (same_new ht _ _ (s6 _ _ hb4))) upd_same, _, rfl, ?_⟩⟩
      have st := same_new (o := .tup [V.int (i : Int), V.int (j : Int)]) ht
      cases e : look B' ((i : Int), (j : Int)) with
      | none =>
        refine iteF ⟨s6.upd_new ht, ys, ⟨st _ _ a1, fun y hy => st _ _ (a2 y hy)⟩, by omega, fun a v => ?_⟩
        rw [a4]
        constructor
        · rintro ⟨z1, z2, z3⟩
          exact ⟨z1, by omega, z3⟩
        · rintro ⟨z1, z2, z3⟩
          refine ⟨z1, ?_, z3⟩
          by_cases hz : a = j
          · subst hz
            rw [show fn B' i (j : Int) = look B' (i, j) from rfl, e] at z3
            cases z3
          · omega
      | some z =>
        refine iteT ⟨_, rfl, _, rfl, _, rfl, _, rfl, l2, fun t2 ht2 => ⟨Dd, .int z, rfl, get_bd (.inl (same_new ht2 _ _ (st _ _ (s6 _ _ hb4)))) upd_same e, l2, fun t3 ht3 => ?_⟩⟩
        have st2 := st.upd_new (o := .tup [V.int (i : Int), V.int (j : Int)]) ht2
        have st3 := st2.upd_new (o := .tup [V.int (j : Int), V.int z]) ht3
        refine ⟨_, st3 _ _ a1, len_lt (by rw [List.length_map]; omega : _ ≤ 5), (s6.trans st3).upd_own hL2, ys ++ [(t3, ((j : Int), z))], ⟨?_, ?_⟩, ?_, ?_⟩
        · rw [upd_same, List.map_append]
          rfl
        · intro y hy
          have hf : upd (upd (upd H7 t (.tup [V.int (i : Int), V.int (j : Int)])) t2 (.tup [V.int (i : Int), V.int (j : Int)])) t3 (.tup [V.int (j : Int), V.int z]) y.1 = some (.tup [.int y.2.1, .int y.2.2]) := by
            rcases List.mem_append.mp hy with hy | hy
            · exact st3 _ _ (a2 y hy)
            · rw [List.mem_singleton.mp hy]
              exact upd_same
          rw [upd_ne (ne_of hf (st3 _ _ a1) (by intro z; cases z))]
          exact hf
        · rw [List.length_append]
          exact Nat.add_le_add_right a3 1
        · intro a v
          rw [List.map_append, List.mem_append, a4]
          constructor
          · rintro (⟨z1, z2, z3⟩ | hm)
            · exact ⟨z1, by omega, z3⟩
            · have := List.mem_singleton.mp hm
              injection this with x1 x2
              subst x1 x2
              exact ⟨by omega, by omega, e⟩
          · rintro ⟨z1, z2, z3⟩
            by_cases hz : a = j
            · subst hz
              rw [show fn B' i (j : Int) = look B' (i, j) from rfl, e] at z3
              cases z3
              exact .inr (List.mem_singleton.mpr rfl)
            · exact .inl ⟨z1, by omega, z3⟩
    rintro Hc ⟨sc, zs, pc1, lc1, mc1⟩
    have hc4 := sc _ _ hb4
    have pb1 := pa1.keeps sc
    have sHc : Same H Hc := (s4.trans sb).trans sc
    have wr := w4.rng
    have mR : ∀ a v, fn B' a i = some v → a ∈ (ys.take ys.length).map fun y => y.2.1 := by
      intro a v e
      rw [List.take_of_length_le (Nat.le_refl _)]
      have hr := wr a i v e
      have hm := (ma1 a v).mpr ⟨hr.1, by have := hr.2.1; omega, e⟩
      obtain ⟨y, hy, ey⟩ := List.mem_map.mp hm
      exact List.mem_map.mpr ⟨y, hy, by rw [ey]⟩
    have mS : ∀ b v, fn B' i b = some v → b ∈ (zs.take zs.length).map fun y => y.2.1 := by
      intro a v e
      rw [List.take_of_length_le (Nat.le_refl _)]
      have hr := wr i a v e
      have hm := (mc1 a v).mpr ⟨hr.2.2.1, by have := hr.2.2.2; omega, e⟩
      obtain ⟨y, hy, ey⟩ := List.mem_map.mp hm
      exact List.mem_map.mpr ⟨y, hy, by rw [ey]⟩
    -- the rows
    refine ⟨_, rfl, L1, rfl, ⟨_, SqL.of pb1.1⟩, ?_⟩
    refine for_list (K := K) (a := L1) (xs := ys.map fun y => V.ref y.1) (fun p σ H' => ∃ va vb v8 v9, σ = [some (.int n), some (.ref d), some (.ref Dd), some (.int (i : Int)), va, vb, some (.ref L1), some (.ref L2a), v8, v9] ∧ But Dd Hc H' ∧
      ∃ B2, H' Dd = some (.dT (kvT B2)) ∧ Good n B2 ∧ fn B2 = midF (fn B') i ((ys.take p).map fun y => y.2.1) 0 [])
      ⟨_, _, _, _, rfl, But.refl, _, hc4, g4, by rw [mid_start']⟩ (fun p σ H' _ ⟨_, _, _, _, _, b, _⟩ => SqL.of (pb1.but b hc4).1) ?_ ?_
    · rintro p x σ H6 hx ⟨va, vb, v8, v9, rfl, b6, B2, h6, g6, e6⟩
      obtain ⟨⟨t, a, u⟩, hy, rfl⟩ := map_at hx
      have hym := List.mem_of_getElem? hy
      have eau : fn B' a i = some u := ((ma1 a u).mp (List.mem_map.mpr ⟨_, hym, rfl⟩)).2.2
      have rau := wr a i u eau
      refine ⟨t, _, rfl, SqT.of ((pb1.but b6 hc4).2 _ hym), rfl, _, _, rfl, _, _, rfl, rfl, _, rfl, L2a, rfl, ⟨_, SqL.of (pc1.but b6 hc4).1⟩, ?_⟩
      refine for_list (K := K) (a := L2a) (xs := zs.map fun y => V.ref y.1) (fun q σ H' => ∃ vb v9, σ = [some (.int n), some (.ref d), some (.ref Dd), some (.int (i : Int)), some (.int a), vb, some (.ref L1), some (.ref L2a), some (.int u), v9] ∧ But Dd Hc H' ∧
        ∃ B2, H' Dd = some (.dT (kvT B2)) ∧ Good n B2 ∧ fn B2 = midF (fn B') i ((ys.take p).map fun y => y.2.1) a ((zs.take q).map fun y => y.2.1))
        ⟨_, _, rfl, b6, B2, h6, g6, by rw [e6]; exact mid_any⟩ (fun q σ H' _ ⟨_, _, _, b, _⟩ => SqL.of (pc1.but b hc4).1) ?_ ?_
      · rintro q x σ H7 hx ⟨vb, v9, rfl, b7, B3, h7, g7, e7⟩
        obtain ⟨⟨t2, b, v⟩, hz, rfl⟩ := map_at hx
        have hzm := List.mem_of_getElem? hz
        have ebv : fn B' i b = some v := ((mc1 b v).mp (List.mem_map.mpr ⟨_, hzm, rfl⟩)).2.2
        have rbv := wr i b v ebv
        have eS : (zs.take (q + 1)).map (fun y => y.2.1) = (zs.take q).map (fun y => y.2.1) ++ [b] := by
          rw [take_snoc hz, List.map_append]
          rfl
        obtain ⟨mp1, mp2⟩ := mid_put e7 eau ebv
        refine ⟨t2, _, rfl, SqT.of ((pc1.but b7 hc4).2 _ hzm), rfl, _, _, rfl, _, _, rfl, rfl, ?_⟩
        refine ⟨_, rfl, _, rfl, l2, fun t3 ht3 => ⟨_, rfl, Dd, (look B3 (a, b)).map V.int, rfl, get_bdO (.inl (same_new ht3 _ _ h7)) upd_same, _, rfl, ?_⟩⟩
        have b8 : But Dd Hc (upd H7 t3 (.tup [.int a, .int b])) := b7.new ht3
        have h8 := same_new (o := .tup [V.int a, V.int b]) ht3 _ _ h7
        generalize upd H7 t3 (.tup [.int a, .int b]) = H8 at b8 h8 ⊢
        -- the put
        have hput : ∀ H9, But Dd Hc H9 → H9 Dd = some (.dT (kvT B3)) → (look B3 (a, b) = none ∨ ∃ w, look B3 (a, b) = some w ∧ u + v < w) →
            ∀ t4, H9 t4 = none → ∃ (a_1 : Addr) (H4_1 : Hp), V.ref Dd = V.ref a_1 ∧ DPut (upd H9 t4 (.tup [.int a, .int b])) a_1 (.ref t4) (.int (u + v)) H4_1 ∧
              ∃ vb' v9', [some (V.int n), some (.ref d), some (.ref Dd), some (.int (i : Int)), some (.int a), some (.int b), some (.ref L1), some (.ref L2a), some (.int u), some (.int v)] = [some (.int n), some (.ref d), some (.ref Dd), some (.int (i : Int)), some (.int a), vb', some (.ref L1), some (.ref L2a), some (.int u), v9'] ∧ But Dd Hc H4_1 ∧
                ∃ B2, H4_1 Dd = some (.dT (kvT B2)) ∧ Good n B2 ∧ fn B2 = midF (fn B') i ((ys.take p).map fun y => y.2.1) a ((zs.take (q + 1)).map fun y => y.2.1) := by
          intro H9 b9 h9 hc t4 ht4
          refine ⟨Dd, _, rfl, put_bd (p := (a, b)) (same_new ht4 _ _ h9) upd_same (g7.l1000 n3), _, _, rfl, (b9.new ht4).upd, _, upd_same, g7.put _ rau.1 rau.2.1 rbv.2.2.1 rbv.2.2.2, ?_⟩
          rw [eS]
          exact mp1 hc
        cases e : look B3 (a, b) with
        | none =>
          refine iteT (iteT ?_)
          exact ⟨_, rfl, _, rfl, _, _, rfl, rfl, _, rfl, _, rfl, _, rfl, l2, fun t4 ht4 => hput H8 b8 h8 (.inl e) t4 ht4⟩
        | some w' =>
          refine iteF ?_
          refine ⟨_, rfl, _, rfl, _, _, rfl, rfl, _, rfl, _, rfl, _, rfl, l2, fun t5 ht5 => ⟨Dd, .int w', rfl, get_bd (.inl (same_new ht5 _ _ h8)) upd_same e, _, _, rfl, rfl, _, rfl, ?_⟩⟩
          have b9 := b8.new (o := .tup [V.int a, V.int b]) ht5
          have h9 := same_new (o := .tup [V.int a, V.int b]) ht5 _ _ h8
          by_cases hlt : u + v < w'
          · refine iteD hlt ?_
            exact ⟨_, rfl, _, rfl, _, _, rfl, rfl, _, rfl, _, rfl, _, rfl, l2, fun t4 ht4 => hput _ b9 h9 (.inr ⟨w', e, hlt⟩) t4 ht4⟩
          · refine iteN hlt ?_
            exact ⟨_, _, rfl, b9, B3, h9, g7, by rw [eS]; exact mp2 ⟨w', e, hlt⟩⟩
      · rintro σ H7 ⟨vb, v9, rfl, b7, B3, h7, g7, e7⟩
        refine ⟨_, _, _, _, rfl, b7, B3, h7, g7, ?_⟩
        rw [e7, List.length_map, mid_row mS 0, take_snoc hy, List.map_append]
        rfl
    rintro σ H6 ⟨va, vb, v8, v9, rfl, b6, B2, h6, g6, e6⟩
    rw [List.length_map, mid_end mR] at e6
    have s6 : Same H H6 := b6.same sHc hDd
    have w6 : Way n (i + 1 : Nat) (fn B) (fn B2) := by
      rw [e6]
      exact way_step w4 (by omega) him p4
    -- any below 0
    refine ⟨_, rfl, _, _, rfl, rfl, n + 1, rfl, by omega, by omega, fun L3 hL3 => ?_⟩
    refine lc_it walk_rg (fun j H' => LcP H6 L3 (((List.range j).map fun (c : Nat) => decide ((look B2 ((c : Int), (c : Int))).getD 0 < 0)).map V.bl) H') (LcP.start hL3) (fun _ _ _ _ => trivial) ?_ ?_
    · rintro j x H7 H8 hj z ⟨rfl, rfl⟩
      obtain ⟨y, hy⟩ := w6.dg j (by omega) (by omega)
      refine ⟨rfl, _, rfl, _, rfl, _, rfl, l2, fun t ht => ⟨Dd, .int y, rfl, get_bd (p := ((j : Int), (j : Int))) (.inl (same_new ht _ _ (z.1 _ _ h6))) upd_same hy, _, _, rfl, rfl, ?_⟩⟩
      refine (z.keeps (same_new ht)).put hL3 (len_lt (by rw [List.length_map, List.length_map, List.length_range]; omega : _ ≤ 5)) ?_
      rw [List.range_succ, List.map_append, List.map_append, List.map_singleton, List.map_singleton, show look B2 ((j : Int), (j : Int)) = some y from hy]
      rfl
    rintro H7 z
    refine ⟨L3, _, rfl, SqL.of z.2, _, rfl, ?_⟩
    have s7 : Same H H7 := s6.trans z.1
    have h7 := z.1 _ _ h6
    by_cases hany : (((List.range (n + 1).toNat).map fun (c : Nat) => decide ((look B2 ((c : Int), (c : Int))).getD 0 < 0)).any id) = true
    · rw [hany]
      refine iteT ⟨_, rfl, ?_⟩
      refine k Dd B2 H7 s7 hDd h7 g6 ⟨_, w6, .inr ?_⟩
      rw [List.any_map, List.any_eq_true] at hany
      obtain ⟨c, hc, hneg⟩ := hany
      have hc' := List.mem_range.mp hc
      obtain ⟨y, hy⟩ := w6.dg c (by omega) (by omega)
      refine ⟨c, y, hy, ?_⟩
      have hneg' := of_decide_eq_true hneg
      rw [show look B2 ((c : Int), (c : Int)) = some y from hy] at hneg'
      exact hneg'
    · rw [Bool.not_eq_true] at hany
      rw [hany]
      refine iteF ⟨_, _, _, _, _, _, _, rfl, s7, B2, h7, g6, w6, fun a v e => ?_⟩
      have ra := w6.rng a a v e
      rw [List.any_map, List.any_eq_false] at hany
      have := hany a.toNat (List.mem_range.mpr (by omega))
      have ha : ((a.toNat : Nat) : Int) = a := by omega
      have e2 : look B2 (a, a) = some v := e
      simp only [Function.comp, ha, e2, id, decide_eq_true_eq, Option.getD_some] at this
      omega
  · rintro σ H4 ⟨o3, o4, o5, o6, o7, o8, o9, rfl, s4, B', h4, g4, w4, p4⟩
    refine ⟨_, rfl, ?_⟩
    refine k Dd B' H4 s4 hDd h4 g4 ⟨_, w4, .inl ⟨by omega, p4⟩⟩
end
end Bw

/-! Bounds, closures, whether one table is in another. -/
namespace Bw
open PySem PySem.Spec PyProof.Rows L2
def spBoundsOf (C : Addr) : Sp := fun vs H Q _ => ∃ (p : Addr) (n : Int) (f : Fn), vs = [.ref p] ∧ TabAt C H p n f ∧ (∀ H', Same H H' → (∀ L, ¬ Fit f L) → Q .non H') ∧
  ∀ d B H', Same H H' → H d = none → H' d = some (.dT (kvT B)) → Good n B → Clo n f (fn B) → Q (.ref d) H'
def spTableOf (C : Addr) : Sp := fun vs H Q _ => ∃ (n : Int) (v : V), vs = [.int n, v] ∧ 1 ≤ n ∧ n ≤ 3 ∧ ((v = .non ∧ ∀ p H', Same H H' → TabAt C H' p n fNone → Q (.ref p) H') ∨
  ∃ d B, v = .ref d ∧ H d = some (.dT (kvT B)) ∧ Good n B ∧ Dom n (fn B) ∧ ∀ p H', Same H H' → TabAt C H' p n (fn B) → Q (.ref p) H')
/-- what a closure of f may be -/
def CloOr (n : Int) (f g : Fn) : Prop := ((∀ L, ¬ Fit f L) ∧ g = fNone) ∨ Clo n f g
def spClosed (C : Addr) : Sp := fun vs H Q _ => ∃ (p : Addr) (n : Int) (f : Fn), vs = [.ref p] ∧ TabAt C H p n f ∧ ∀ q g H', Same H H' → TabAt C H' q n g → CloOr n f g → Q (.ref q) H'
def spIn (C : Addr) : Sp := fun vs H Q _ => ∃ (p q : Addr) (n : Int) (f g : Fn), vs = [.ref p, .ref q] ∧ TabAt C H p n f ∧ TabAt C H q n g ∧ ∀ b H', Same H H' → (b = true ↔ Imp f g) → Q (.bl b) H'
def spSame (C : Addr) : Sp := fun vs H Q _ => ∃ (p q : Addr) (n : Int) (f g : Fn), vs = [.ref p, .ref q] ∧ TabAt C H p n f ∧ TabAt C H q n g ∧ ∀ b H', Same H H' → (b = true ↔ Imp f g ∧ Imp g f) → Q (.bl b) H'
theorem all_in {n : Int} {f : Fn} {B G : Bd} (c : Clo n f (fn B)) (g : Good n G) (dm : Dom n (fn G)) :
    ((G.map fun e => (look B e.1).isSome && decide ((look B e.1).getD 0 ≤ e.2)).all id = true) ↔ Imp f (fn G) := by
  rw [List.all_map, List.all_eq_true]
  constructor
  · intro h L hL a b v e
    have hx := h _ ((look_mem_iff g).mpr e)
    simp only [Function.comp, id, Bool.and_eq_true, decide_eq_true_eq] at hx
    obtain ⟨u, hu⟩ := Option.isSome_iff_exists.mp hx.1
    have := c.snd L hL a b u hu
    rw [hu] at hx
    have h2 := hx.2
    simp only [Option.getD_some] at h2
    omega
  · intro h e he
    have el := (look_mem_iff g).mp he
    have ne := (dm e.1.1 e.1.2 e.2 el).2.2.2.2
    simp only [Function.comp, id]
    cases eb : look B e.1 with
    | none =>
      obtain ⟨L, hL, hp⟩ := c.past (cap := e.2) ne (fun d hd => by rw [show fn B e.1.1 e.1.2 = look B e.1 from rfl, eb] at hd; cases hd)
      have := h L hL e.1.1 e.1.2 e.2 el
      omega
    | some u =>
      by_cases hle : u ≤ e.2
      · simp [hle]
      · obtain ⟨L, hL, hp⟩ := c.past (cap := e.2) ne (fun d hd => by rw [show fn B e.1.1 e.1.2 = look B e.1 from rfl, eb] at hd; have := Option.some.inj hd; omega)
        have := h L hL e.1.1 e.1.2 e.2 el
        omega
section
variable {P : Program} {w : World} {K : PySem.W.Frag} {mg : Str → Option Value} {base : Heap} {C : Addr}
theorem ok_bounds_of (T : Txt K mg C) (pL : Prom P w K mg base "least_ways" 1 ["size", "bounds"] spLeast) (D : Def K mg "bounds_of" s_bounds_of ["table"]) : Prom P w K mg base "bounds_of" 2 ["table"] (spBoundsOf C) := by
  refine D.ok sc_bounds_of (fun vs H Q E h => by obtain ⟨p, n, f, rfl, _⟩ := h; rfl) (fun f cdv A outer s H vs Q E hr h => ?_)
  obtain ⟨p, n, f, rfl, ⟨dx, d, B, h1, h2, g, dm, n1, n3, rfl⟩, kN, kS⟩ := h
  have nd := sc_bounds_of.nd
  have hu := hu_of hr
  refine ⟨_, pss_cons (ps_set (i := 1) nd rfl (.inr rfl) (pe_p pL hr (by rfl) (pa_cons (pe_fld (pv 0) rfl) (pa_cons (pe_fld (pv 0) rfl) pa_nil))))
    (pss_cons (ps_if (pt_val (pe_callB (cr_any rfl) (by rfl) T.b_any (by decide +kernel) (pa_cons (pe_lc (own := [("point", 2)]) (g := gName 2) (tt := tYes) rfl nd (pi_range1 (by rfl) T.b_range (pa_cons (pe_op op_add (pe_fld (pv 0) rfl) pe_int) pa_nil))
          (blkOk_by (N := ["table", "found", "point", "pair", "bound"]) (sc := defScope s_bounds_of) (by decide +kernel)) (fun _ _ _ _ _ => pg_name (i := 2) nd rfl (Or.inl rfl)) (fun _ _ _ _ _ => pts_nil)
          (fun _ _ _ _ _ => pe_cmpR op_lt (pe_dget hu (pv 1) (pe_tup (pa_cons (pv 2) (pa_cons (pv 2) pa_nil))) (fun _ _ => rfl)) pe_int (nomark _))) pa_nil)))
        (pss_one (ps_ret pe_non)) pss_nil)
    (pss_one (ps_ret (pe_lock (pe_dcA (own := [("pair", 3), ("bound", 4)]) (g := gTup K 2 (gCons (gName 3) (gCons (gName 4) gNil))) hr.units0 rfl nd (pi_pairs (pv 1)) (blkOk_by (N := ["table", "found", "point", "pair", "bound"]) (sc := defScope s_bounds_of) (by decide +kernel))
      (fun _ _ _ _ _ => ⟨pg_tup rfl (pgs_cons (pg_name (i := 3) nd rfl (Or.inl rfl)) (pgs_cons (pg_name (i := 4) nd rfl (Or.inl rfl)) pgs_nil)),
        pts_one (pt_cmpR op_ne (pe_ix (ix_tupK (K := K) rfl) (pv 3) pe_int (fun _ _ => rfl)) (pe_ix (ix_tupK (K := K) rfl) (pv 3) pe_int (fun _ _ => rfl)) (nomark _)), pv 3, pv 4⟩)))))), ?_⟩
  refine ⟨_, rfl, p, C, dx, _, _, rfl, h1, T.cl, T.nS, flds_size _ _, _, rfl, p, C, dx, _, _, rfl, h1, T.cl, T.nB, flds_bounds _ _, ?_⟩
  refine ⟨n, d, B, rfl, n1, n3, h2, g, dm, fun Dd B' H1 s1 fD hD g' ⟨m, wy, hm⟩ => ?_⟩
  refine ⟨_, rfl, p, C, dx, _, _, rfl, s1 _ _ h1, T.cl, T.nS, flds_size _ _, _, _, rfl, rfl, n + 1, rfl, by omega, by omega, fun L3 hL3 => ?_⟩
  refine lc_it walk_rg (fun j H' => LcP H1 L3 (((List.range j).map fun (c : Nat) => decide ((look B' ((c : Int), (c : Int))).getD 0 < 0)).map V.bl) H') (LcP.start hL3) (fun _ _ _ _ => trivial) ?_ ?_
  · rintro j x H7 H8 hj z ⟨rfl, rfl⟩
    obtain ⟨y, hy⟩ := wy.dg j (by omega) (by omega)
    refine ⟨rfl, _, rfl, _, rfl, _, rfl, l2, fun t ht => ⟨Dd, .int y, rfl, get_bd (p := ((j : Int), (j : Int))) (.inl (same_new ht _ _ (z.1 _ _ hD))) upd_same hy, _, _, rfl, rfl, ?_⟩⟩
    refine (z.keeps (same_new ht)).put hL3 (len_lt (by rw [List.length_map, List.length_map, List.length_range]; omega : _ ≤ 5)) ?_
    rw [List.range_succ, List.map_append, List.map_append, List.map_singleton, List.map_singleton, show look B' ((j : Int), (j : Int)) = some y from hy]
    rfl
  rintro H7 z
  refine ⟨L3, _, rfl, SqL.of z.2, _, rfl, ?_⟩
  have s7 : Same H H7 := s1.trans z.1
  have h7 := z.1 _ _ hD
  by_cases hany : (((List.range (n + 1).toNat).map fun (c : Nat) => decide ((look B' ((c : Int), (c : Int))).getD 0 < 0)).any id) = true
  · rw [hany]
    refine iteT (kN H7 s7 ?_)
    rw [List.any_map, List.any_eq_true] at hany
    obtain ⟨c, hc, hneg⟩ := hany
    have hc' := List.mem_range.mp hc
    obtain ⟨y, hy⟩ := wy.dg c (by omega) (by omega)
    have hneg' := of_decide_eq_true hneg
    rw [show look B' ((c : Int), (c : Int)) = some y from hy] at hneg'
    exact way_no wy hy hneg'
  · rw [Bool.not_eq_true] at hany
    rw [hany]
    have hp : ∀ a v, fn B' a a = some v → 0 ≤ v := fun a v e => by
      have ra := wy.rng a a v e
      rw [List.any_map, List.any_eq_false] at hany
      have := hany a.toNat (List.mem_range.mpr (by omega))
      have ha : ((a.toNat : Nat) : Int) = a := by omega
      have e2 : look B' (a, a) = some v := e
      simp only [Function.comp, ha, e2, id, decide_eq_true_eq, Option.getD_some] at this
      omega
    have hm1 : m = n + 1 := by
      rcases hm with hm | ⟨a, v, e, hlt⟩
      · exact hm.1
      · have := hp a v e
        omega
    subst hm1
    have clo := way_clo dm wy hp
    refine iteF ⟨Dd, _, h7, trivial, fun od => ⟨_, rfl, Dd, od, _, rfl, upd_same, .dT [], .inr rfl, fun De hDe => ?_⟩⟩
    generalize hH8 : upd H7 Dd (.frz od (.dT (kvT B'))) = H8 at hDe ⊢
    have h8 : H8 Dd = some (.frz od (.dT (kvT B'))) := by rw [← hH8, upd_same]
    refine dc_it walk_pairs (fun i H' => Same H8 H' ∧ ∃ B2, H' De = some (.dT (kvT B2)) ∧ Good n B2 ∧ ∀ q, look B2 q = if q ∈ (B'.take i).map (·.1) ∧ q.1 ≠ q.2 then look B' q else none)
      ⟨same_new hDe, [], upd_same, Good.nil, fun q => by rw [look_nil, if_neg (by rintro ⟨z, _⟩; cases z)]⟩ (fun i H' _ z => z.1 _ _ h8) ?_ ?_
    · rintro i x H9 H10 hi ⟨s9, B2, hB2, g2, e2⟩ ⟨T1, k1, v1, q, e1, rfl, hq, hT, rfl⟩
      obtain ⟨pt, zz, ee, rfl, hq⟩ := kvT_at e1 hq
      have hrg : 0 ≤ pt.1 ∧ pt.1 ≤ n ∧ 0 ≤ pt.2 ∧ pt.2 ≤ n := g'.rg _ (List.mem_of_getElem? ee)
      have s10 := same_new (o := .tup [.ref q, V.int zz]) hT
      have lk := look_of_mem g'.nd (List.mem_of_getElem? ee)
      have hq10 := s10 _ _ hq
      refine ⟨T1, _, rfl, SqT.of upd_same, rfl, _, _, rfl, _, _, rfl, rfl, rfl, ?_⟩
      refine ⟨_, rfl, q, _, 0, _, rfl, rfl, SqT.of hq10, atI_nat (j := 0) rfl, ?_⟩
      refine ⟨_, rfl, q, _, 1, _, rfl, rfl, SqT.of hq10, atI_nat (j := 1) rfl, rfl, _, rfl, ?_⟩
      have key : ∀ r : Pt, r ≠ pt → ((r ∈ (B'.take (i + 1)).map (·.1) ∧ r.1 ≠ r.2) ↔ (r ∈ (B'.take i).map (·.1) ∧ r.1 ≠ r.2)) := by
        intro r hr
        rw [take_snoc ee, List.map_append, List.mem_append, List.map_singleton, List.mem_singleton]
        simp only [hr, or_false]
      by_cases hne : pt.1 = pt.2
      · rw [show decide (V.int pt.1 = V.int pt.2) = true from decide_eq_true (by rw [hne])]
        refine iteF ⟨s9.trans s10, B2, s10 _ _ hB2, g2, fun r => ?_⟩
        rw [e2]
        by_cases hr : r = pt
        · subst hr
          rw [if_neg (fun z => z.2 hne), if_neg (fun z => z.2 hne)]
        · simp only [key r hr]
      · rw [show decide (V.int pt.1 = V.int pt.2) = false from decide_eq_false (fun z => hne (V.int.inj z))]
        refine iteT ⟨_, rfl, _, rfl, _, put_bd (s10 _ _ hB2) hq10 (g2.l1000 n3), ?_⟩
        refine ⟨(s9.trans s10).upd_own hDe, _, upd_same, g2.put _ hrg.1 hrg.2.1 hrg.2.2.1 hrg.2.2.2, fun r => ?_⟩
        rw [look_put, e2]
        by_cases hr : r = pt
        · subst hr
          rw [if_pos rfl, if_pos ⟨by rw [take_snoc ee, List.map_append]; simp, hne⟩, lk]
        · rw [if_neg hr]
          simp only [key r hr]
    · rintro H9 ⟨s9, B2, hB2, g2, e2⟩
      rw [kvT_len, List.take_of_length_le (Nat.le_refl _)] at e2
      have hn : Dd ≠ De := ne_of_none h8 hDe
      refine ⟨s9 _ _ h8, kS De B2 _ ?_ ?_ ?_ g2 ?_⟩
      · exact s7.trans (Same.lock h7 (by rw [hH8]; exact s9))
      · have : H7 De = none := by rw [← hH8, upd_ne hn.symm] at hDe; exact hDe
        exact s7.free this
      · rw [upd_ne hn.symm]
        exact hB2
      · have ef : fn B2 = offD (fn B') := by
          funext a b
          show look B2 (a, b) = _
          rw [e2]
          unfold offD
          by_cases hab : a = b
          · rw [if_pos hab, if_neg (fun z => z.2 hab)]
          · rw [if_neg hab]
            by_cases hk : (a, b) ∈ B'.map (·.1)
            · rw [if_pos ⟨hk, hab⟩]
              rfl
            · rw [if_neg (fun z => hk z.1)]
              cases e : fn B' a b with
              | none => rfl
              | some z => exact absurd (List.mem_map_of_mem (f := (·.1)) (look_mem e)) hk
        rw [ef]
        exact clo
theorem ok_table_of (T : Txt K mg C) (M : MakeT P w K mg base C) (pN : Prom P w K mg base "nothing" 6 ["size"] (spNothing C)) (D : Def K mg "table_of" s_table_of ["size", "bounds"]) : Prom P w K mg base "table_of" 7 ["size", "bounds"] (spTableOf C) := by
  refine D.ok sc_table_of (fun vs H Q E h => by obtain ⟨n, v, rfl, _⟩ := h; rfl) (fun f cdv A outer s H vs Q E hr h => ?_)
  obtain ⟨n, v, rfl, n1, n3, h⟩ := h
  refine ⟨_, pss_one (ps_ret (pe_ifExp (pt_cmp (pc_isN (pv 1))) (pe_p pN hr (by rfl) (pa_cons (pv 0) pa_nil)) (pe_tab M T.mgC (hr.mono (by decide)) (by rfl) (pa_cons (pv 0) (pa_cons (pv 1) pa_nil))))), ?_⟩
  rcases h with ⟨rfl, k⟩ | ⟨d, B, rfl, hd, g, dm, k⟩
  · exact ⟨_, rfl, _, rfl, iteT ⟨_, rfl, n, rfl, n1, n3, k⟩⟩
  · exact ⟨_, rfl, _, rfl, iteF ⟨_, rfl, _, rfl, make_read n1 n3 hd g dm k⟩⟩
theorem ok_closed_of (T : Txt K mg C) (pB : Prom P w K mg base "bounds_of" 2 ["table"] (spBoundsOf C)) (pT : Prom P w K mg base "table_of" 7 ["size", "bounds"] (spTableOf C)) (D : Def K mg "closed_of" s_closed_of ["table"]) :
    Prom P w K mg base "closed_of" 8 ["table"] (spClosed C) := by
  refine D.ok sc_closed_of (fun vs H Q E h => by obtain ⟨p, n, f, rfl, _⟩ := h; rfl) (fun f cdv A outer s H vs Q E hr h => ?_)
  obtain ⟨p, n, f, rfl, tb, k⟩ := h
  obtain ⟨n1, n3, dm⟩ := tb.rng
  obtain ⟨dx, d, B, h1, h2, _⟩ := id tb
  refine ⟨_, pss_one (ps_ret (pe_p pT hr (by rfl) (pa_cons (pe_fld (pv 0) rfl) (pa_cons (pe_p pB (hr.mono (by decide)) (by rfl) (pa_cons (pv 0) pa_nil)) pa_nil)))), ?_⟩
  refine ⟨_, rfl, p, C, dx, _, _, rfl, h1, T.cl, T.nS, flds_size _ _, _, rfl, p, n, f, rfl, tb, fun H1 s1 no => ?_, fun d B H1 s1 _ hd g c => ?_⟩
  · exact ⟨n, _, rfl, n1, n3, .inl ⟨rfl, fun q H2 s2 t => k q _ H2 (s1.trans s2) t (.inl ⟨no, rfl⟩)⟩⟩
  · exact ⟨n, _, rfl, n1, n3, .inr ⟨d, B, rfl, hd, g, c.dom, fun q H2 s2 t => k q _ H2 (s1.trans s2) t (.inr c)⟩⟩
theorem ok_closed (T : Txt K mg C) (pN : Prom P w K mg base "need_table" 1 ["table"] (spNeed1 C)) (pC : Prom P w K mg base "closed_of" 8 ["table"] (spClosed C)) (D : Def K mg "closed" s_closed ["table"]) : Prom P w K mg base "closed" 9 ["table"] (spClosed C) := by
  refine D.ok sc_closed (fun vs H Q E h => by obtain ⟨p, n, f, rfl, _⟩ := h; rfl) (fun f cdv A outer s H vs Q E hr h => ?_)
  obtain ⟨p, n, f, rfl, tb, k⟩ := h
  obtain ⟨dx, d, B, h1, _⟩ := id tb
  refine ⟨_, pss_cons (ps_expr (pe_p pN (hr.mono (by decide)) (by rfl) (pa_cons (pv 0) pa_nil))) (pss_one (ps_ret (pe_p pC hr (by rfl) (pa_cons (pv 0) pa_nil)))), ?_⟩
  exact ⟨_, rfl, p, dx, _, rfl, h1, _, rfl, p, n, f, rfl, tb, k⟩
theorem ok_is_in (T : Txt K mg C) (pB : Prom P w K mg base "bounds_of" 2 ["table"] (spBoundsOf C)) (D : Def K mg "is_in" s_is_in ["one", "other"]) : Prom P w K mg base "is_in" 3 ["one", "other"] (spIn C) := by
  refine D.ok sc_is_in (fun vs H Q E h => by obtain ⟨p, q, n, f, g, rfl, _⟩ := h; rfl) (fun f cdv A outer s H vs Q E hr h => ?_)
  obtain ⟨p, q, n, f, gf, rfl, tb, ⟨dx, d, G, h1, h2, gG, dm, n1, n3, rfl⟩, k⟩ := h
  have nd := sc_is_in.nd
  have hu := hu_of hr
  refine ⟨_, pss_cons (ps_set (i := 2) nd rfl (.inr rfl) (pe_p pB hr (by rfl) (pa_cons (pv 0) pa_nil)))
    (pss_cons (ps_if (pt_cmp (pc_isN (pv 2))) (pss_one (ps_ret pe_bl)) pss_nil)
    (pss_one (ps_ret (pe_callB (cr_all rfl) (by rfl) T.b_all (by decide +kernel) (pa_cons (pe_lock (pe_lc (own := [("pair", 3), ("bound", 4)]) (g := gTup K 2 (gCons (gName 3) (gCons (gName 4) gNil))) (tt := tYes) rfl nd (pi_pairs (pe_fld (pv 1) rfl))
      (blkOk_by (N := ["one", "other", "known", "pair", "bound"]) (sc := defScope s_is_in) (by decide +kernel)) (fun _ _ _ _ _ => pg_tup rfl (pgs_cons (pg_name (i := 3) nd rfl (Or.inl rfl)) (pgs_cons (pg_name (i := 4) nd rfl (Or.inl rfl)) pgs_nil))) (fun _ _ _ _ _ => pts_nil)
      (fun _ _ _ _ _ => pe_and (pe_cmp (pc_din hu (pv 3) (pv 2)) rfl) (pe_one (pe_cmpR op_le (pe_dget hu (pv 2) (pv 3) (fun _ _ => rfl)) (pv 4) (nomark _)))))) pa_nil))))), ?_⟩
  refine ⟨_, rfl, p, n, f, rfl, tb, fun H1 s1 no => ?_, fun dk B H1 s1 fk hk g c => ?_⟩
  · refine ⟨_, rfl, _, rfl, iteT ?_⟩
    exact k true H1 s1 ⟨fun _ L hL => absurd hL (no L), fun _ => rfl⟩
  · refine ⟨_, rfl, _, rfl, iteF ?_⟩
    have h1' := s1 _ _ h1
    have h2' := s1 _ _ h2
    have nqd : q ≠ d := ne_of h1 h2 (by intro z; cases z)
    have ndk : dk ≠ d := (ne_of_none h2 fk).symm
    refine ⟨d, _, h2', trivial, fun od => ⟨_, rfl, q, C, dx, _, _, rfl, (by rw [upd_ne nqd]; exact h1'), T.cl, T.nB, flds_bounds _ _, d, od, _, rfl, upd_same, fun L hL => ?_⟩⟩
    refine lc_it walk_pairs (fun m H' => LcP (upd H1 d (.frz od (.dT (kvT G)))) L (((G.take m).map fun e => (look B e.1).isSome && decide ((look B e.1).getD 0 ≤ e.2)).map V.bl) H') (LcP.start hL) (fun i H' _ z => z.1 _ _ upd_same) ?_ ?_
    · rintro i x H2 H3 hi z ⟨T1, k1, v1, t, e1, rfl, hq, hT, rfl⟩
      obtain ⟨pt, zz, e2, rfl, hq⟩ := kvT_at e1 hq
      have s2 := same_new (o := .tup [.ref t, V.int zz]) hT
      have z2 := z.keeps s2
      have hq2 := s2 _ _ hq
      have hk2 := z2.1 _ _ (show upd H1 d _ dk = _ by rw [upd_ne ndk]; exact hk)
      refine ⟨T1, _, rfl, SqT.of upd_same, rfl, _, _, rfl, _, _, rfl, rfl, rfl, ?_⟩
      have eo : ((G.take (i + 1)).map fun e => (look B e.1).isSome && decide ((look B e.1).getD 0 ≤ e.2)).map V.bl = ((G.take i).map fun e => (look B e.1).isSome && decide ((look B e.1).getD 0 ≤ e.2)).map V.bl ++ [V.bl ((look B pt).isSome && decide ((look B pt).getD 0 ≤ zz))] := by
        rw [take_snoc e2, List.map_append, List.map_append]
        rfl
      have hll : (((G.take i).map fun e => (look B e.1).isSome && decide ((look B e.1).getD 0 ≤ e.2)).map V.bl).length < sizeLine := len_lt (by rw [List.length_map, List.length_map, List.length_take]; have := gG.len n3; omega : _ ≤ 16)
      refine ⟨_, rfl, _, rfl, dk, _, rfl, get_bdO (.inl hk2) hq2, _, rfl, ?_⟩
      cases e : look B pt with
      | none =>
        refine iteF ?_
        rw [e] at eo
        exact z2.put hL hll eo
      | some u =>
        rw [e] at eo
        refine iteT ⟨_, rfl, _, rfl, dk, .int u, rfl, get_bd (.inl hk2) hq2 e, _, rfl, _, _, rfl, rfl, ?_⟩
        exact z2.put hL hll eo
    · intro H2 z
      rw [kvT_len, List.take_of_length_le (Nat.le_refl _)] at z
      refine ⟨z.1 _ _ upd_same, L, _, rfl, SqL.of (by rw [upd_ne (ne_of (z.2) (z.1 _ _ upd_same) (by intro z; cases z))]; exact z.2), ?_⟩
      exact k _ _ (s1.trans (z.1.lock h2')) (all_in c gG dm)
theorem ok_is_within (T : Txt K mg C) (pN : Prom P w K mg base "need_two" 2 ["one", "other"] (spNeed2 C)) (pI : Prom P w K mg base "is_in" 3 ["one", "other"] (spIn C)) (D : Def K mg "is_within" s_is_within ["one", "other"]) :
    Prom P w K mg base "is_within" 4 ["one", "other"] (spIn C) := by
  refine D.ok sc_is_within (fun vs H Q E h => by obtain ⟨p, q, n, f, g, rfl, _⟩ := h; rfl) (fun f cdv A outer s H vs Q E hr h => ?_)
  obtain ⟨p, q, n, f, g, rfl, t1, t2, k⟩ := h
  refine ⟨_, pss_cons (ps_expr (pe_p pN (hr.mono (by decide)) (by rfl) (pa_cons (pv 0) (pa_cons (pv 1) pa_nil)))) (pss_one (ps_ret (pe_p pI hr (by rfl) (pa_cons (pv 0) (pa_cons (pv 1) pa_nil))))), ?_⟩
  exact ⟨_, rfl, _, rfl, p, q, n, f, g, rfl, t1, t2, _, rfl, _, rfl, p, q, n, f, g, rfl, t1, t2, k⟩
theorem ok_is_same (T : Txt K mg C) (pN : Prom P w K mg base "need_two" 2 ["one", "other"] (spNeed2 C)) (pI : Prom P w K mg base "is_in" 3 ["one", "other"] (spIn C)) (D : Def K mg "is_same" s_is_same ["one", "other"]) :
    Prom P w K mg base "is_same" 4 ["one", "other"] (spSame C) := by
  refine D.ok sc_is_same (fun vs H Q E h => by obtain ⟨p, q, n, f, g, rfl, _⟩ := h; rfl) (fun f cdv A outer s H vs Q E hr h => ?_)
  obtain ⟨p, q, n, f, g, rfl, t1, t2, k⟩ := h
  refine ⟨_, pss_cons (ps_expr (pe_p pN (hr.mono (by decide)) (by rfl) (pa_cons (pv 0) (pa_cons (pv 1) pa_nil)))) (pss_one (ps_ret (pe_and (pe_p pI hr (by rfl) (pa_cons (pv 0) (pa_cons (pv 1) pa_nil))) (pe_one (pe_p pI hr (by rfl) (pa_cons (pv 1) (pa_cons (pv 0) pa_nil))))))), ?_⟩
  refine ⟨_, rfl, _, rfl, p, q, n, f, g, rfl, t1, t2, _, rfl, _, rfl, p, q, n, f, g, rfl, t1, t2, fun b H1 s1 hb => ⟨b, rfl, ?_⟩⟩
  cases b with
  | false => exact iteF (k false H1 s1 ⟨fun z => (nomatch z), fun z => hb.mpr z.1⟩)
  | true =>
    refine iteT ⟨_, rfl, _, rfl, q, p, n, g, f, rfl, t2.keeps s1, t1.keeps s1, fun b2 H2 s2 hb2 => ?_⟩
    exact k b2 H2 (s1.trans s2) ⟨fun z => ⟨hb.mp rfl, hb2.mp z⟩, fun z => hb2.mpr z.2⟩
end
end Bw

/-! Both tables; the ends. -/
namespace Bw
open PySem PySem.Spec PyProof.Rows L2
def PropT (P : Program) (w : World) (K : PySem.W.Frag) (mg : Str → Option Value) (base : Heap) (C : Addr) : Prop :=
  ∃ p g fd, PropOf K C "bounds" p g ∧ FnOk P w K mg base CX0 1 g fd ["self"] (spBounds C) ∧ Binds K fd ["self"] []
section
variable {X : Cx} {C : Addr} {pos : Pos} {e : Expr} {ta : TE}
theorem pe_bounds (M : PropT X.prog X.w X.K X.mg X.base C) (c : Cls X.K C) (he : PE X e ta) (hr : Room 2 X.A) (hab : attributeBase e "bounds" X.env (eval e X.env) = eval e X.env := by rfl) :
    PE X (.Attribute e "bounds" pos) (tProp C (spBounds C) [] E0 ta) := by
  obtain ⟨p, g, fd, hp, F, b⟩ := M
  exact pe_prop he c hp F hr b .nil pass0 hab
end
theorem Same.lock' {H H' : Hp} {d e : Addr} {u : HO} {od : Obj} (h : H d = some u) (s : But e (upd H d (.frz od u)) H') : But e H (upd H' d u) := fun b o hb ne => by
  by_cases hd : b = d
  · subst hd
    rw [upd_same, ← hb, h]
  · rw [upd_ne hd]
    exact s b o (by rw [upd_ne hd]; exact hb) ne
def spBoth (C : Addr) : Sp := fun vs H Q _ => ∃ (p q : Addr) (n : Int) (f g : Fn), vs = [.ref p, .ref q] ∧ TabAt C H p n f ∧ TabAt C H q n g ∧ ∀ r H', Same H H' → TabAt C H' r n (fBoth f g) → Q (.ref r) H'
/-- the bounds of the first pairs -/
def cutF (G : Bd) (i : Nat) : Fn := fun a b => if (a, b) ∈ (G.take i).map (·.1) then look G (a, b) else none
theorem cut_end {G : Bd} : cutF G G.length = fn G := by
  funext a b
  unfold cutF
  rw [List.take_of_length_le (Nat.le_refl _)]
  by_cases h : (a, b) ∈ G.map (·.1)
  · rw [if_pos h]
    rfl
  · rw [if_neg h]
    cases e : fn G a b with
    | none => rfl
    | some z => exact absurd (List.mem_map_of_mem (f := (·.1)) (look_mem e)) h
theorem cut_new {G : Bd} {i : Nat} {p : Pt} {z : Int} (hn : (keysB G).Nodup) (h : G[i]? = some (p, z)) : cutF G i p.1 p.2 = none := by
  unfold cutF
  rw [if_neg]
  intro hm
  obtain ⟨e, he, ee⟩ := List.mem_map.mp hm
  obtain ⟨j, hj⟩ := List.getElem?_of_mem he
  have hji : j < i := by
    have := (List.getElem?_eq_some_iff.mp hj).1
    rw [List.length_take] at this
    omega
  rw [List.getElem?_take_of_lt hji] at hj
  have h1 : (keysB G)[j]? = some p := by
    show (G.map _)[j]? = _
    rw [List.getElem?_map, hj]
    show some e.1 = some p
    rw [ee]
  have h2 : (keysB G)[i]? = some p := by
    show (G.map _)[i]? = _
    rw [List.getElem?_map, h]
    rfl
  have hi := (List.getElem?_eq_some_iff.mp h1).1
  have := (List.getElem?_inj hi hn).mp (h1.trans h2.symm)
  omega
theorem cut_step {f : Fn} {G B : Bd} {i : Nat} {p : Pt} {z : Int} (hn : (keysB G).Nodup) (h : G[i]? = some (p, z)) (hB : fn B = fBoth f (cutF G i)) :
    fn (putB B p (if z < (look B p).getD z then z else (look B p).getD z)) = fBoth f (cutF G (i + 1)) := by
  have hc := cut_new hn h
  have hl := look_of_mem hn (List.mem_of_getElem? h)
  have hp : look B p = f p.1 p.2 := by
    have : look B (p.1, p.2) = fBoth f (cutF G i) p.1 p.2 := congrFun (congrFun hB p.1) p.2
    rw [show (p.1, p.2) = p from rfl] at this
    rw [this]
    unfold fBoth
    rw [hc]
    cases f p.1 p.2 <;> rfl
  funext a b
  show look (putB _ _ _) (a, b) = _
  rw [look_put]
  have htk : (G.take (i + 1)).map (·.1) = (G.take i).map (·.1) ++ [p] := by
    rw [take_snoc h, List.map_append]
    rfl
  by_cases hab : (a, b) = p
  · subst hab
    rw [if_pos rfl, hp]
    have e2 : cutF G (i + 1) a b = some z := by
      unfold cutF
      rw [if_pos (by rw [htk]; simp), hl]
    unfold fBoth
    rw [e2]
    cases f a b with
    | none =>
      show some (if z < (none : Option Int).getD z then z else (none : Option Int).getD z) = some z
      simp
    | some u => rfl
  · rw [if_neg hab]
    have e2 : cutF G (i + 1) a b = cutF G i a b := by
      unfold cutF
      have : ((a, b) ∈ (G.take (i + 1)).map (·.1)) ↔ ((a, b) ∈ (G.take i).map (·.1)) := by
        rw [htk, List.mem_append, List.mem_singleton]
        simp only [hab, or_false]
      simp only [this]
    have h3 : look B (a, b) = fBoth f (cutF G i) a b := congrFun (congrFun hB a) b
    rw [h3]
    unfold fBoth
    rw [e2]
theorem both_start {f : Fn} {G : Bd} : fBoth f (cutF G 0) = f := by
  funext a b
  unfold fBoth cutF
  rw [if_neg (by intro z; cases z)]
  cases f a b <;> rfl
section
variable {P : Program} {w : World} {K : PySem.W.Frag} {mg : Str → Option Value} {base : Heap} {C : Addr}
theorem ok_both_of (T : Txt K mg C) (M : MakeT P w K mg base C) (pB : PropT P w K mg base C) (D : Def K mg "both_of" s_both_of ["one", "other"]) : Prom P w K mg base "both_of" 6 ["one", "other"] (spBoth C) := by
  refine D.ok sc_both_of (fun vs H Q E h => by obtain ⟨p, q, n, f, g, rfl, _⟩ := h; rfl) (fun f cdv A outer s H vs Q E hr h => ?_)
  obtain ⟨p, q, n, f, gf, rfl, t1, t2, k⟩ := h
  have nd := sc_both_of.nd
  have hu := hu_of hr
  refine ⟨_, pss_cons (ps_set (i := 2) nd rfl (.inl rfl) (pe_bounds pB T.cl (pv 0) (hr.mono (by decide))))
    (pss_cons (ps_lock (ps_for PassesOwn.never rfl (pi_pairs (pe_fld (pv 1) rfl)) (pg_tup rfl (pgs_cons (pg_name (i := 3) nd rfl (Or.inl rfl)) (pgs_cons (pg_name (i := 4) nd rfl (Or.inl rfl)) pgs_nil)))
      (pss_one (ps_dput hu (pv 2) (pv 3) (pe_callB (call_min2 rfl) (by rfl) T.b_min (by decide +kernel) (pa_cons (pe_dget2 hu (pv 2) (pv 3) (pv 4) ⟨rfl, rfl, rfl, rfl⟩) (pa_cons (pv 4) pa_nil))) rfl))))
    (pss_one (ps_ret (pe_tab M T.mgC hr (by rfl) (pa_cons (pe_fld (pv 0) rfl) (pa_cons (pv 2) pa_nil)))))), ?_⟩
  have hrg := t1.rng
  obtain ⟨dxp, _, _, hp1, _⟩ := id t1
  refine ⟨_, rfl, p, dxp, _, rfl, hp1, p, n, f, rfl, t1, fun Dd B H1 s1 fD hD gB eB => ?_⟩
  obtain ⟨dx, d, G, h1, h2, gG, dm, n1, n3, rfl⟩ := t2.keeps s1
  have nqd : q ≠ d := ne_of h1 h2 (by intro z; cases z)
  have ndD : d ≠ Dd := by
    obtain ⟨dx', d', G', h1', h2', _⟩ := id t2
    have : d = d' := by
      have e := (s1 _ _ h1').symm.trans h1
      injection e with e
      injection e with _ _ e
      unfold flds at e
      injection e with _ e
      injection e with e _
      injection e with _ e
      exact (V.ref.inj e).symm
    rw [this]
    exact ne_of_none h2' fD
  refine ⟨d, _, h2, trivial, fun od => ⟨_, rfl, q, C, dx, _, _, rfl, (by rw [upd_ne nqd]; exact h1), T.cl, T.nB, flds_bounds _ _, d, od, _, rfl, upd_same, ?_⟩⟩
  generalize hH2 : upd H1 d (.frz od (.dT (kvT G))) = H2
  have h2d : H2 d = some (.frz od (.dT (kvT G))) := by rw [← hH2, upd_same]
  have h2D : H2 Dd = some (.dT (kvT B)) := by rw [← hH2, upd_ne ndD.symm]; exact hD
  refine for_it walk_pairs (fun i σ H' => ∃ o3 o4, σ = [some (.ref p), some (.ref q), some (.ref Dd), o3, o4] ∧ But Dd H2 H' ∧ ∃ B', H' Dd = some (.dT (kvT B')) ∧ Good n B' ∧ fn B' = fBoth f (cutF G i))
    ⟨_, _, rfl, But.refl, B, h2D, gB, by rw [both_start]; exact eB⟩ (fun i σ H' _ ⟨_, _, _, b, _⟩ => b _ _ h2d ndD) ?_ ?_
  · rintro i x σ H3 H4 hi ⟨o3, o4, rfl, b3, B', h3, g3, e3⟩ ⟨T1, k1, v1, t, e1, rfl, hq, hT, rfl⟩
    obtain ⟨pt, zz, e2, rfl, hq⟩ := kvT_at e1 hq
    have hm : 0 ≤ pt.1 ∧ pt.1 ≤ n ∧ 0 ≤ pt.2 ∧ pt.2 ≤ n := gG.rg _ (List.mem_of_getElem? e2)
    have s4 := same_new (o := .tup [.ref t, V.int zz]) hT
    have hD4 := s4 _ _ h3
    have hq4 := s4 _ _ hq
    refine ⟨T1, _, rfl, SqT.of upd_same, rfl, _, _, rfl, _, _, rfl, rfl, ?_⟩
    refine ⟨_, rfl, Dd, rfl, .inr ⟨_, .inl hD4⟩, _, rfl, _, rfl, _, get_bdO (.inl hD4) hq4, _, rfl, (look B' pt).getD zz, zz, ?_, ?_⟩
    · cases look B' pt <;> rfl
    · refine ⟨_, rfl, _, rfl, Dd, _, rfl, put_bd hD4 hq4 (g3.l1000 n3), _, _, rfl, (b3.new hT).upd, _, upd_same, g3.put _ hm.1 hm.2.1 hm.2.2.1 hm.2.2.2, ?_⟩
      exact cut_step gG.nd e2 e3
  · rintro σ H3 ⟨o3, o4, rfl, b3, B', h3, g3, e3⟩
    rw [kvT_len, cut_end] at e3
    have h3d := b3 _ _ h2d ndD
    refine ⟨h3d, ?_⟩
    have s3 : Same H (upd H3 d (.dT (kvT G))) := by
      refine But.same (d := Dd) (Same.lock' (od := od) h2 ?_) s1 fD
      rw [hH2]
      exact b3
    obtain ⟨dx0, d0, B0, hp0, _, _, _, _, _, _⟩ := t1.keeps s3
    refine ⟨_, rfl, p, C, dx0, _, _, rfl, hp0, T.cl, T.nS, flds_size _ _, _, rfl, ?_⟩
    refine make_read n1 n3 (by rw [upd_ne ndD.symm]; exact h3) g3 (by rw [e3]; exact dom_both hrg.2.2 dm) fun r H4 s4 t => ?_
    rw [e3] at t
    exact k r H4 (s3.trans s4) t
theorem ok_both (T : Txt K mg C) (pN : Prom P w K mg base "need_two" 2 ["one", "other"] (spNeed2 C)) (pB : Prom P w K mg base "both_of" 6 ["one", "other"] (spBoth C)) (D : Def K mg "both" s_both ["one", "other"]) : Prom P w K mg base "both" 7 ["one", "other"] (spBoth C) := by
  refine D.ok sc_both (fun vs H Q E h => by obtain ⟨p, q, n, f, g, rfl, _⟩ := h; rfl) (fun f cdv A outer s H vs Q E hr h => ?_)
  obtain ⟨p, q, n, f, g, rfl, t1, t2, k⟩ := h
  refine ⟨_, pss_cons (ps_expr (pe_p pN (hr.mono (by decide)) (by rfl) (pa_cons (pv 0) (pa_cons (pv 1) pa_nil)))) (pss_one (ps_ret (pe_p pB hr (by rfl) (pa_cons (pv 0) (pa_cons (pv 1) pa_nil))))), ?_⟩
  exact ⟨_, rfl, _, rfl, p, q, n, f, g, rfl, t1, t2, _, rfl, _, rfl, p, q, n, f, g, rfl, t1, t2, k⟩
end
end Bw

/-! The ends of a table. -/
namespace Bw
open PySem PySem.Spec PyProof.Rows L2
theorem pre_at {ns : List Int} {j : Nat} (h : j ≤ ns.length) : (pre ns)[j]? = some (ns.take j).sum := by
  unfold pre
  rw [List.getElem?_map, List.getElem?_range (by omega)]
  rfl
theorem dif_len (ls : List Int) : (dif ls).length = ls.length - 1 := by
  unfold dif
  simp
theorem dif_sum {ls : List Int} : ∀ j, j + 1 ≤ ls.length → ((dif ls).take j).sum = ls[j]?.getD 0 - ls[0]?.getD 0
  | 0, _ => by simp
  | j + 1, h => by
    have hd : (dif ls)[j]? = some (ls[j + 1]?.getD 0 - ls[j]?.getD 0) := by
      unfold dif
      rw [List.getElem?_map, List.getElem?_range (by omega)]
      rfl
    rw [take_snoc hd, List.sum_append, dif_sum j (by omega)]
    simp
    omega
theorem lv_dif {ls : List Int} (h0 : ls[0]? = some 0) {i : Int} (hi0 : 0 ≤ i) (hi : i < ls.length) : lv (pre (dif ls)) i = lv ls i := by
  unfold lv
  rw [pre_at (by rw [dif_len]; omega), Option.getD_some, dif_sum _ (by omega), h0]
  simp
/-- what an end is: nothing, or a water that no fitting water passes -/
def EndIs (H : Hp) (n s : Int) (f : Fn) (v : V) : Prop := v = .non ∨ ∃ (t : Addr) (ts : List Int), v = .ref t ∧ H t = some (.tup (ts.map V.int)) ∧ (ts.length : Int) = n ∧
  ∀ L, Fit f L → ∀ i, 0 ≤ i → i ≤ n → s * (L i - L 0) ≤ s * lv (pre ts) i
def spEnd (C : Addr) : Sp := fun vs H Q _ => ∃ (p : Addr) (n s : Int) (f : Fn), vs = [.ref p, .int s] ∧ (s = 1 ∨ s = -1) ∧ TabAt C H p n f ∧ ∀ v H', Same H H' → EndIs H' n s f v → Q v H'
def spTop (C : Addr) (s : Int) : Sp := fun vs H Q _ => ∃ (p : Addr) (n : Int) (f : Fn), vs = [.ref p] ∧ TabAt C H p n f ∧ ∀ v H', Same H H' → EndIs H' n s f v → Q v H'
section
variable {P : Program} {w : World} {K : PySem.W.Frag} {mg : Str → Option Value} {base : Heap} {C : Addr}
theorem ok_end_water (T : Txt K mg C) (pB : Prom P w K mg base "bounds_of" 2 ["table"] (spBoundsOf C)) (pW : Prom P w K mg base "water_of" 1 ["levels"] spWaterOf) (D : Def K mg "end_water" s_end_water ["table", "sign"]) :
    Prom P w K mg base "end_water" 3 ["table", "sign"] (spEnd C) := by
  refine D.ok sc_end_water (fun vs H Q E h => by obtain ⟨p, n, s, f, rfl, _⟩ := h; rfl) (fun f cdv A outer s H vs Q E hr h => ?_)
  obtain ⟨p, n, sg, f, rfl, hs, tb, k⟩ := h
  have nd := sc_end_water.nd
  have hu := hu_of hr
  obtain ⟨n1, n3, dm⟩ := tb.rng
  refine ⟨_, pss_cons (ps_par (i := 2) (j := 3) rfl nd rfl rfl (by decide) rfl rfl (pa_cons (pe_p pB hr (by rfl) (pa_cons (pv 0) pa_nil)) (pa_cons (pe_lst (pa_cons pe_int pa_nil)) pa_nil)) (by rfl))
    (pss_cons (ps_for PassesOwn.never rfl (pi_range2 (by rfl) T.b_range (pa_cons pe_int (pa_cons (pe_op op_add (pe_fld (pv 0) rfl) pe_int) pa_nil))) (pg_name (i := 4) nd rfl (Or.inl rfl))
      (pss_cons (ps_set (i := 5) nd rfl (.inl rfl) (pe_ifExp (pt_cmpR op_gt (pv 1) pe_int (nomark _)) (pe_tup (pa_cons (pv 4) (pa_cons pe_int pa_nil))) (pe_tup (pa_cons pe_int (pa_cons (pv 4) pa_nil)))))
      (pss_cons (ps_if (PW.pt (pw_or (pt_cmp (pc_isN (pv 2))) (pw_or1 (pt_cmp (pc_dnotin hu (pv 5) (pv 2)))))) (pss_one (ps_ret pe_non)) pss_nil)
      (pss_one (ps_expr (pe_bm PySem.F.plainAttrs_list PySem.F.slot_list_append PySem.F.type_list_append mt_append (pv 3) (pa_cons (pe_op op_mul (pv 1) (pe_dget hu (pv 2) (pv 5) (fun _ _ => rfl))) pa_nil)))))))
    (pss_one (ps_ret (pe_p pW (hr.mono (by decide)) (by rfl) (pa_cons (pv 3) pa_nil))))), ?_⟩
  -- the pair of a turn
  refine ⟨_, rfl, p, n, f, rfl, tb, fun H1 s1 no => ?_, fun dk B H1 s1 fk hk g c => ?_⟩
  · obtain ⟨dx, d, B, h1, h2, _⟩ := tb.keeps s1
    refine ⟨l1, fun L hL => ⟨_, _, rfl, ?_⟩⟩
    have sL := same_new (o := .lst [V.int 0]) hL
    refine ⟨_, rfl, p, C, dx, _, _, rfl, sL _ _ h1, T.cl, T.nS, flds_size _ _, _, _, rfl, rfl, 1, n + 1, rfl, ⟨by decide, by decide, by omega, by omega⟩, ?_⟩
    refine for_it walk_range (fun i σ H' => i = 0 ∧ σ = [some (.ref p), some (.int sg), some .non, some (.ref L), none, none] ∧ Same H H') ⟨rfl, rfl, s1.upd_new hL⟩ (fun _ _ _ _ _ => trivial) ?_ ?_
    · rintro i x σ H2 H3 hi ⟨rfl, rfl, s2⟩ ⟨rfl, rfl⟩
      refine ⟨_, rfl, _, _, rfl, rfl, _, rfl, ?_⟩
      rcases hs with rfl | rfl
      · refine iteT ⟨_, rfl, l2, fun t ht => ?_⟩
        exact ⟨_, rfl, _, rfl, iteT (iteT (k .non _ (s2.upd_new ht) (.inl rfl)))⟩
      · refine iteF ⟨_, rfl, l2, fun t ht => ?_⟩
        exact ⟨_, rfl, _, rfl, iteT (iteT (k .non _ (s2.upd_new ht) (.inl rfl)))⟩
    · rintro σ H2 ⟨h0, _⟩
      omega
  · obtain ⟨dx, d, B0, h1, h2, _⟩ := tb.keeps s1
    refine ⟨l1, fun L hL => ⟨_, _, rfl, ?_⟩⟩
    have sL := same_new (o := .lst [V.int 0]) hL
    refine ⟨_, rfl, p, C, dx, _, _, rfl, sL _ _ h1, T.cl, T.nS, flds_size _ _, _, _, rfl, rfl, 1, n + 1, rfl, ⟨by decide, by decide, by omega, by omega⟩, ?_⟩
    refine for_it walk_range (fun i σ H' => ∃ o4 o5, σ = [some (.ref p), some (.int sg), some (.ref dk), some (.ref L), o4, o5] ∧ ∃ ls : List Int, LcP H1 L (ls.map V.int) H' ∧ ls.length = i + 1 ∧ ls[0]? = some 0 ∧ ∀ Lv, Fit f Lv → ∀ j : Nat, j < i + 1 → sg * (Lv j - Lv 0) ≤ sg * (ls[j]?.getD 0))
      ⟨_, _, rfl, [0], LcP.start' hL, rfl, rfl, fun Lv _ j hj => ?_⟩ (fun _ _ _ _ _ => trivial) ?_ ?_
    · obtain rfl : j = 0 := by omega
      simp
    · rintro i x σ H2 H3 hi ⟨o4, o5, rfl, ls, z, hl, hl0, hb⟩ ⟨rfl, rfl⟩
      refine ⟨_, rfl, _, _, rfl, rfl, _, rfl, ?_⟩
      have step : ∀ (a b : Int) (t : Addr) H3, LcP H1 L (ls.map V.int) H3 → H3 t = some (.tup [.int a, .int b]) → (∀ Lv : Int → Int, sg * (Lv (1 + i : Int) - Lv 0) = Lv a - Lv b) →
          (∃ v, some (V.ref t) = some v ∧ True) ∧ (look B (a, b) = none → Q .non H3) ∧ (∀ u, look B (a, b) = some u → H3 dk = some (.dT (kvT B)) ∧ ∃ acc, H3 L = some (.lst acc) ∧ acc.length < sizeLine ∧ ∃ ls : List Int, LcP H1 L (ls.map V.int) (upd H3 L (.lst (acc ++ [V.int (sg * u)]))) ∧ ls.length = (i + 1) + 1 ∧ ls[0]? = some 0 ∧ ∀ Lv, Fit f Lv → ∀ j : Nat, j < (i + 1) + 1 → sg * (Lv j - Lv 0) ≤ sg * (ls[j]?.getD 0)) := by
        intro a b t H3 z3 ht hab
        refine ⟨⟨_, rfl, trivial⟩, fun _ => k .non _ (s1.trans z3.1) (.inl rfl), fun u hu => ⟨z3.1 _ _ hk, _, z3.2, len_lt (by rw [List.length_map]; omega : _ ≤ 10), ls ++ [sg * u], ⟨z3.1.upd_own hL, ?_⟩, ?_, ?_, ?_⟩⟩
        · rw [upd_same, List.map_append]
          rfl
        · rw [List.length_append, hl]
          rfl
        · rw [List.getElem?_append_left (by omega)]
          exact hl0
        · intro Lv hLv j hj
          by_cases hji : j < i + 1
          · rw [List.getElem?_append_left (by omega)]
            exact hb Lv hLv j hji
          · obtain rfl : j = i + 1 := by omega
            rw [show i + 1 = ls.length from hl.symm, List.getElem?_concat_length, hl]
            have e1 := c.snd Lv hLv a b u hu
            have e2 := hab Lv
            rw [show ((i + 1 : Nat) : Int) = 1 + (i : Int) by omega, e2]
            simp only [Option.getD_some]
            rcases hs with rfl | rfl <;> omega
      rcases hs with rfl | rfl
      · refine iteT ⟨_, rfl, l2, fun t ht => ?_⟩
        have z3 := z.keeps (same_new (o := .tup [V.int (1 + i : Int), V.int 0]) ht)
        obtain ⟨_, c1, c2⟩ := step (1 + i) 0 t _ z3 upd_same (fun Lv => by omega)
        refine ⟨_, rfl, _, rfl, iteF ⟨_, rfl, _, rfl, dk, _, rfl, get_bdO (p := (1 + (i : Int), 0)) (.inl (z3.1 _ _ hk)) upd_same, _, rfl, ?_⟩⟩
        cases e : look B (1 + (i : Int), 0) with
        | none => exact iteT (c1 e)
        | some u =>
          obtain ⟨hd3, acc, e1, e2, e3⟩ := c2 u e
          refine iteF ⟨_, rfl, .inl ⟨rfl, _, SqL.of z3.2⟩, _, rfl, _, rfl, _, rfl, dk, .int u, rfl, get_bd (p := (1 + (i : Int), 0)) (.inl hd3) upd_same e, _, _, rfl, rfl, .inl ⟨by decide, by decide⟩, L, acc, _, rfl, rfl, e1, e2, _, _, rfl, e3⟩
      · refine iteF ⟨_, rfl, l2, fun t ht => ?_⟩
        have z3 := z.keeps (same_new (o := .tup [V.int 0, V.int (1 + i : Int)]) ht)
        obtain ⟨_, c1, c2⟩ := step 0 (1 + i) t _ z3 upd_same (fun Lv => by omega)
        refine ⟨_, rfl, _, rfl, iteF ⟨_, rfl, _, rfl, dk, _, rfl, get_bdO (p := (0, 1 + (i : Int))) (.inl (z3.1 _ _ hk)) upd_same, _, rfl, ?_⟩⟩
        cases e : look B (0, 1 + (i : Int)) with
        | none => exact iteT (c1 e)
        | some u =>
          obtain ⟨hd3, acc, e1, e2, e3⟩ := c2 u e
          refine iteF ⟨_, rfl, .inl ⟨rfl, _, SqL.of z3.2⟩, _, rfl, _, rfl, _, rfl, dk, .int u, rfl, get_bd (p := (0, 1 + (i : Int))) (.inl hd3) upd_same e, _, _, rfl, rfl, .inl ⟨by decide, by decide⟩, L, acc, _, rfl, rfl, e1, e2, _, _, rfl, e3⟩
    · rintro σ H2 ⟨o4, o5, rfl, ls, z, hl, hl0, hb⟩
      refine ⟨_, rfl, L, ls, rfl, z.2, by omega, by omega, fun t H3 s3 ht => ?_⟩
      refine k _ H3 ((s1.trans z.1).trans s3) (.inr ⟨t, dif ls, rfl, ht, by rw [dif_len]; omega, fun Lv hLv i hi0 hin => ?_⟩)
      rw [lv_dif hl0 hi0 (by omega)]
      have := hb Lv hLv i.toNat (by omega)
      rw [show ((i.toNat : Nat) : Int) = i by omega] at this
      exact this
theorem ok_highest (T : Txt K mg C) (pN : Prom P w K mg base "need_table" 1 ["table"] (spNeed1 C)) (pE : Prom P w K mg base "end_water" 3 ["table", "sign"] (spEnd C)) (D : Def K mg "highest" s_highest ["table"]) : Prom P w K mg base "highest" 4 ["table"] (spTop C 1) := by
  refine D.ok sc_highest (fun vs H Q E h => by obtain ⟨p, n, f, rfl, _⟩ := h; rfl) (fun f cdv A outer s H vs Q E hr h => ?_)
  obtain ⟨p, n, f, rfl, tb, k⟩ := h
  obtain ⟨dx, d, B, h1, _⟩ := id tb
  refine ⟨_, pss_cons (ps_expr (pe_p pN (hr.mono (by decide)) (by rfl) (pa_cons (pv 0) pa_nil))) (pss_one (ps_ret (pe_p pE hr (by rfl) (pa_cons (pv 0) (pa_cons pe_int pa_nil))))), ?_⟩
  exact ⟨_, rfl, p, dx, _, rfl, h1, _, rfl, p, n, 1, f, rfl, .inl rfl, tb, k⟩
theorem ok_lowest (T : Txt K mg C) (pN : Prom P w K mg base "need_table" 1 ["table"] (spNeed1 C)) (pE : Prom P w K mg base "end_water" 3 ["table", "sign"] (spEnd C)) (D : Def K mg "lowest" s_lowest ["table"]) : Prom P w K mg base "lowest" 4 ["table"] (spTop C (-1)) := by
  refine D.ok sc_lowest (fun vs H Q E h => by obtain ⟨p, n, f, rfl, _⟩ := h; rfl) (fun f cdv A outer s H vs Q E hr h => ?_)
  obtain ⟨p, n, f, rfl, tb, k⟩ := h
  obtain ⟨dx, d, B, h1, _⟩ := id tb
  refine ⟨_, pss_cons (ps_expr (pe_p pN (hr.mono (by decide)) (by rfl) (pa_cons (pv 0) pa_nil))) (pss_one (ps_ret (pe_p pE hr (by rfl) (pa_cons (pv 0) (pa_cons (pe_un un_neg pe_int) pa_nil))))), ?_⟩
  exact ⟨_, rfl, p, dx, _, rfl, h1, _, rfl, 1, rfl, p, n, -1, f, rfl, .inr rfl, tb, k⟩
end
end Bw

/-! A spot hidden. -/
namespace Bw
open PySem PySem.Spec PyProof.Rows L2
theorem pe_fldK {X : Cx} {K : PySem.W.Frag} {e : Expr} {f : Str} {pos : Pos} {ta : TE} (h : X.K = K) (he : PE X e ta) (hb : attributeBase e f X.env (eval e X.env) = eval e X.env) : PE X (.Attribute e f pos) (tFld K ta f) := by
  subst h
  exact pe_fld he hb
theorem op_notInK {X : Cx} {K : PySem.W.Frag} (h : X.K = K) : OpR X (compareOp .NotIn) (rIn K true) := by
  subst h
  exact op_notIn_seq
theorem walk_zipT0 {K : PySem.W.Frag} {a b : Addr} {xs : List V} : Walk (RZ.ItzT K a b) 0 (fun H => SqT K H a xs ∧ SqT K H b []) (fun _ _ _ _ => False) where
  goes := fun i H h => absurd h (Nat.not_lt_zero i)
  stops := fun H h => ⟨xs, [], h.1, h.2, .inr (Nat.le_refl _)⟩
  yields := fun i H x H' h => absurd h (Nat.not_lt_zero i)
/-- the places of the points that stay -/
def skip (s i : Int) : Int := if i < s then i else i + 1
def unskip (s a : Int) : Int := if a < s then a else a - 1
theorem un_skip {s i : Int} : unskip s (skip s i) = i := by
  unfold unskip skip
  (repeat' split) <;> omega
theorem skip_ne {s i : Int} : skip s i ≠ s := by
  unfold skip
  split <;> omega
theorem skip_un {s a : Int} (h : a ≠ s) : skip s (unskip s a) = a := by
  unfold unskip skip
  (repeat' split) <;> omega
theorem skip_eq {s i a : Int} (h : a ≠ s) : skip s i = a ↔ i = unskip s a := ⟨fun z => by rw [← z, un_skip], fun z => by rw [z, skip_un h]⟩
/-- the numbers below i but s -/
def stay (s : Int) (i : Nat) : List Int := ((List.range i).map fun (c : Nat) => (c : Int)).filter fun a => decide (a ≠ s)
theorem stay_step {s : Int} {i : Nat} : stay s (i + 1) = if (i : Int) = s then stay s i else stay s i ++ [(i : Int)] := by
  unfold stay
  rw [List.range_succ, List.map_append, List.filter_append]
  by_cases h : (i : Int) = s
  · rw [if_pos h]
    simp [h]
  · rw [if_neg h]
    simp [h]
theorem stay_len {s : Int} {i : Nat} : (stay s i).length ≤ i := by
  unfold stay
  refine Nat.le_trans (List.length_filter_le _ _) ?_
  simp
theorem stay_all {n s : Int} (h2 : 2 ≤ n) (h3 : n ≤ 3) (s1 : 1 ≤ s) (sn : s ≤ n) : stay s (n + 1).toNat = (List.range n.toNat).map fun (i : Nat) => skip s i := by
  have hn : n = 2 ∨ n = 3 := by omega
  rcases hn with rfl | rfl
  · have hs : s = 1 ∨ s = 2 := by omega
    rcases hs with rfl | rfl <;> decide
  · have hs : s = 1 ∨ s = 2 ∨ s = 3 := by omega
    rcases hs with rfl | rfl | rfl <;> decide
theorem in_one (a s : Int) : inV (.int a) [.int s] = decide (a = s) := by
  show (eqV (.int s) (.int a) || false) = _
  rw [Bool.or_false]
  show (s == a) = _
  by_cases h : a = s
  · subst h
    simp
  · rw [decide_eq_false h]
    simpa using fun z => h z.symm
def spHidden (C : Addr) : Sp := fun vs H Q _ => ∃ (p t : Addr) (n s : Int) (f : Fn), vs = [.ref p, .ref t] ∧ TabAt C H p n f ∧ H t = some (.tup [.int s]) ∧ 2 ≤ n ∧ 1 ≤ s ∧ s ≤ n ∧
  ∀ r h H', Same H H' → TabAt C H' r (n - 1) h → (∀ L, Fit f L → Fit h fun i => L (skip s i)) → Q (.ref r) H'
section
variable {P : Program} {w : World} {K : PySem.W.Frag} {mg : Str → Option Value} {base : Heap} {C : Addr}
set_option maxHeartbeats 0 in
theorem ok_hidden (T : Txt K mg C) (M : MakeT P w K mg base C) (pN : Prom P w K mg base "need_table" 1 ["table"] (spNeed1 C)) (pP : Prom P w K mg base "is_point" 2 ["thing", "size"] spPoint)
    (pB : Prom P w K mg base "bounds_of" 2 ["table"] (spBoundsOf C)) (pO : Prom P w K mg base "nothing" 6 ["size"] (spNothing C)) (D : Def K mg "hidden" s_hidden ["table", "points"]) :
    Prom P w K mg base "hidden" 7 ["table", "points"] (spHidden C) := by
  refine D.ok sc_hidden (fun vs H Q E h => by obtain ⟨p, t, n, s, f, rfl, _⟩ := h; rfl) (fun f cdv A outer s H vs Q E hr h => ?_)
  obtain ⟨p, t, n, sp, f, rfl, tb, ht, n2, s1, sn, k⟩ := h
  have nd := sc_hidden.nd
  have hu := hu_of hr
  obtain ⟨n1, n3, dm⟩ := tb.rng
  obtain ⟨dx, d, B0, h1, h2, _⟩ := id tb
  refine ⟨_, pss_cons (ps_expr (pe_p pN (hr.mono (by decide)) (by rfl) (pa_cons (pv 0) pa_nil)))
    (pss_cons (ps_if (PW.pt (pw_or (pt_not (pt_val (pe_callB call_isi (by rfl) T.b_isinstance (by decide +kernel) (pa_cons (pv 1) (pa_cons (pe_bltn (v := .ty "tuple") (u := .type "tuple") (by rfl) T.b_tuple (by decide +kernel) rfl) pa_nil)))))
      (pw_or1 (pt_not (pt_val (pe_callB (cr_all rfl) (by rfl) T.b_all (by decide +kernel) (pa_cons (pe_lc (own := [("point", 6)]) (g := gName 6) (tt := tYes) rfl nd (pi_tup (pv 1)) (blkOk_by (N := ["table", "points", "left", "known", "places", "kept", "point", "one", "other", "at", "pair", "bound", "a", "b"]) (sc := defScope s_hidden) (by decide +kernel))
        (fun _ _ _ _ _ => pg_name (i := 6) nd rfl (Or.inl rfl)) (fun _ _ _ _ _ => pts_nil) (fun _ _ _ _ _ => pe_and (pe_p pP (hr.mono (by decide)) (by rfl) (pa_cons (pv 6) (pa_cons (pe_fldK (K := K) rfl (pv 0) rfl) pa_nil))) (pe_one (pe_cmpR op_gt (pv 6) pe_int (nomark _))))) pa_nil))))))) pss_never pss_nil)
    (pss_cons (ps_if (PW.pt (pw_or (pt_not (pt_val (pe_callB (cr_all rfl) (by rfl) T.b_all (by decide +kernel) (pa_cons (pe_lc (own := [("one", 7), ("other", 8)]) (g := gTup K 2 (gCons (gName 7) (gCons (gName 8) gNil))) (tt := tYes) rfl nd
        (RZ.pi_zipA (by rfl) T.b_zip (pa_cons (pv 1) (pa_cons (pe_slice sl_tupA (pv 1) (po_some pe_int) po_none) pa_nil))) (blkOk_by (N := ["table", "points", "left", "known", "places", "kept", "point", "one", "other", "at", "pair", "bound", "a", "b"]) (sc := defScope s_hidden) (by decide +kernel))
        (fun _ _ _ _ _ => pg_tup rfl (pgs_cons (pg_name (i := 7) nd rfl (Or.inl rfl)) (pgs_cons (pg_name (i := 8) nd rfl (Or.inl rfl)) pgs_nil))) (fun _ _ _ _ _ => pts_nil) (fun _ _ _ _ _ => pe_cmpR op_lt (pv 7) (pv 8) (nomark _))) pa_nil))))
      (pw_or1 (pt_cmpR op_eq (pe_callB call_len_seq (by rfl) T.b_len PySem.boot_len (pa_cons (pv 1) pa_nil)) (pe_fld (pv 0) rfl) (nomark _))))) pss_never pss_nil)
    (pss_cons (ps_setLc (i := 2) (own := [("point", 6)]) (g := gName 6) rfl nd rfl rfl (sw_true rfl rfl rfl (by decide +kernel)) (pi_range1 (by rfl) T.b_range (pa_cons (pe_op op_add (pe_fld (pv 0) rfl) pe_int) pa_nil))
        (blkOk_by (N := ["table", "points", "left", "known", "places", "kept", "point", "one", "other", "at", "pair", "bound", "a", "b"]) (sc := defScope s_hidden) (by decide +kernel)) (fun _ _ _ _ _ => pg_name (i := 6) nd rfl (Or.inl rfl))
        (fun _ _ _ _ _ => pts_one (pt_cmpR (op_notInK (K := K) rfl) (pv 6) (pv 1) (by rfl))) (fun _ _ _ _ _ => pv 6))
    (pss_cons (ps_asg (pe_tup (pa_cons (pe_p pB (hr.mono (by decide)) (by rfl) (pa_cons (pv 0) pa_nil)) (pa_cons (pe_dcA (own := [("point", 6), ("at", 9)]) (g := gTup K 2 (gCons (gName 9) (gCons (gName 6) gNil))) (tt := tYes) hr.units0 rfl nd (pi_enum (by rfl) T.b_enumerate (pa_cons (pv 2) pa_nil))
        (blkOk_by (N := ["table", "points", "left", "known", "places", "kept", "point", "one", "other", "at", "pair", "bound", "a", "b"]) (sc := defScope s_hidden) (by decide +kernel))
        (fun _ _ _ _ _ => ⟨pg_tup rfl (pgs_cons (pg_name (i := 9) nd rfl (Or.inl rfl)) (pgs_cons (pg_name (i := 6) nd rfl (Or.inl rfl)) pgs_nil)), pts_nil, pv 6, pv 9⟩)) pa_nil)))
        (pg_tup rfl (pgs_cons (pg_name (i := 3) nd rfl (.inl rfl)) (pgs_cons (pg_name (i := 4) nd rfl (.inr rfl)) pgs_nil))))
    (pss_cons (ps_if (pt_cmp (pc_isN (pv 3))) (pss_one (ps_ret (pe_p pO hr (by rfl) (pa_cons (pe_op op_sub (pe_callB call_len_seq (by rfl) T.b_len PySem.boot_len (pa_cons (pv 2) pa_nil)) pe_int) pa_nil)))) pss_nil)
    (pss_cons (ps_lock (ps_setDcA (i := 5) (own := [("pair", 10), ("bound", 11)]) (g := gTup K 2 (gCons (gName 10) (gCons (gName 11) gNil))) hr.units0 rfl nd rfl rfl (swD_true rfl rfl rfl (by decide +kernel)) (pi_pairs (pv 3))
        (blkOk_by (N := ["table", "points", "left", "known", "places", "kept", "point", "one", "other", "at", "pair", "bound", "a", "b"]) (sc := defScope s_hidden) (by decide +kernel))
        (fun _ _ _ _ _ => ⟨pg_tup rfl (pgs_cons (pg_name (i := 10) nd rfl (Or.inl rfl)) (pgs_cons (pg_name (i := 11) nd rfl (Or.inl rfl)) pgs_nil)),
          pts_one (PW.pt (pw_and (pt_cmp (pc_din hu (pe_ix (ix_tupK (K := K) rfl) (pv 10) pe_int (fun _ _ => rfl)) (pv 4))) (pw_and1 (pt_cmp (pc_din hu (pe_ix (ix_tupK (K := K) rfl) (pv 10) pe_int (fun _ _ => rfl)) (pv 4)))))), pv 10, pv 11⟩)))
    (pss_one (ps_ret (pe_tab M T.mgC (hr.mono (by decide)) (by rfl) (pa_cons (pe_op op_sub (pe_callB call_len_seq (by rfl) T.b_len PySem.boot_len (pa_cons (pv 2) pa_nil)) pe_int)
      (pa_cons (pe_lock (pe_dcA (own := [("bound", 11), ("a", 12), ("b", 13)]) (g := gTup K 2 (gCons (gTup K 2 (gCons (gName 12) (gCons (gName 13) gNil))) (gCons (gName 11) gNil))) (tt := tYes) hr.units0 rfl nd (pi_pairs (pv 5))
        (blkOk_by (N := ["table", "points", "left", "known", "places", "kept", "point", "one", "other", "at", "pair", "bound", "a", "b"]) (sc := defScope s_hidden) (by decide +kernel))
        (fun _ _ _ _ _ => ⟨pg_tup rfl (pgs_cons (pg_tup rfl (pgs_cons (pg_name (i := 12) nd rfl (Or.inl rfl)) (pgs_cons (pg_name (i := 13) nd rfl (Or.inl rfl)) pgs_nil))) (pgs_cons (pg_name (i := 11) nd rfl (Or.inl rfl)) pgs_nil)), pts_nil,
          pe_tup (pa_cons (pe_dget hu (pv 4) (pv 12) (fun _ _ => rfl)) (pa_cons (pe_dget hu (pv 4) (pv 13) (fun _ _ => rfl)) pa_nil)), pv 11⟩))) pa_nil))))))))))), ?_⟩
  refine ⟨_, rfl, p, dx, _, rfl, h1, ?_⟩
  refine ⟨_, rfl, .ref t, .ty "tuple", .type "tuple", .type "tuple", true, rfl, .ty _, .base (.tup ht), kit_ty (by decide +kernel), true, rfl, iteF ⟨_, rfl, t, rfl, ⟨_, SqT.of ht⟩, fun L hL => ?_⟩⟩
  refine lc_tup (K := K) (a := t) (xs := [V.int sp]) (fun m H' => LcP H L (List.replicate m (.bl true)) H') (LcP.start hL) (fun i H' _ z => SqT.of (z.1 _ _ ht)) ?_ ?_
  · intro m x H' hx z
    have hm := (List.getElem?_eq_some_iff.mp hx).1
    obtain rfl : m = 0 := by
      have : m < 1 := hm
      omega
    obtain rfl := Option.some.inj hx
    refine ⟨rfl, _, rfl, _, rfl, p, C, dx, _, _, rfl, z.1 _ _ h1, T.cl, T.nS, flds_size _ _, sp, n, rfl, by omega, sn, true, rfl, iteT ⟨_, rfl, _, _, rfl, rfl, ?_⟩⟩
    refine z.put hL (len_lt (by decide : 0 ≤ 5)) ?_
    show _ = _ ++ [V.bl (decide (0 < sp))]
    rw [decide_eq_true (by omega)]
    rfl
  intro Ha za
  have sa := za.1
  refine ⟨L, [true], rfl, SqL.of za.2, true, rfl, iteF ?_⟩
  clear za hL
  -- the zip
  have ht1 := sa _ _ ht
  refine ⟨_, rfl, _, rfl, 1, rfl, t, _, rfl, SqT.of ht1, (fun z => by cases z.1), fun _ q hq => ?_⟩
  have sb := sa.upd_new (o := .tup (cutV [V.int sp] (some 1) none)) hq
  have hqq : upd Ha q (.tup (cutV [V.int sp] (some 1) none)) q = some (.tup []) := upd_same
  generalize upd Ha q (.tup (cutV [V.int sp] (some 1) none)) = Hb at sb hqq ⊢
  refine ⟨t, q, [V.int sp], [], rfl, .inr ⟨SqT.of (sb _ _ ht), SqT.of hqq, fun L hL => ?_⟩⟩
  refine lc_it walk_zipT0 (fun _ H' => LcP Hb L [] H') (LcP.start hL) (fun i H' _ z => ⟨SqT.of (z.1 _ _ (sb _ _ ht)), SqT.of (z.1 _ _ hqq)⟩) (fun i x H1 H2 hi => absurd hi (Nat.not_lt_zero _)) ?_
  intro Hc zc
  have sc : Same H Hc := sb.trans zc.1
  refine ⟨L, [], rfl, SqL.of zc.2, true, rfl, iteF ?_⟩
  clear zc hL hqq sb hq ht1
  refine ⟨_, rfl, t, _, rfl, .inr (SqT.of (sc _ _ ht)), _, rfl, p, C, dx, _, _, rfl, sc _ _ h1, T.cl, T.nS, flds_size _ _, rfl, _, rfl, iteN (by intro z; have := V.int.inj z; simp at this; omega) ?_⟩
  -- the points that stay
  refine ⟨_, rfl, p, C, dx, _, _, rfl, sc _ _ h1, T.cl, T.nS, flds_size _ _, _, _, rfl, rfl, n + 1, rfl, by omega, by omega, fun LL hLL => ?_⟩
  refine lc_it walk_rg (fun j H' => LcP Hc LL ((stay sp j).map V.int) H') (LcP.start hLL) (fun _ _ _ _ => trivial) ?_ ?_
  · rintro j x H7 H8 hj z ⟨rfl, rfl⟩
    refine ⟨rfl, _, rfl, _, rfl, t, _, rfl, .inr (SqT.of (z.1 _ _ (sc _ _ ht))), rfl, rfl, _, rfl, ?_⟩
    rw [in_one]
    by_cases hjs : (j : Int) = sp
    · rw [decide_eq_true hjs]
      refine iteF ?_
      rw [stay_step, if_pos hjs]
      exact z
    · rw [decide_eq_false hjs]
      refine iteT ⟨_, rfl, ?_⟩
      refine z.put hLL (len_lt (by rw [List.length_map]; have := stay_len (s := sp) (i := j); omega : _ ≤ 5)) ?_
      rw [stay_step, if_neg hjs, List.map_append]
      rfl
  intro Hd zd
  rw [stay_all n2 n3 s1 sn] at zd
  have hLd := zd.2
  have sd : Same H Hd := sc.trans zd.1
  clear zd
  have eLL : ((List.range n.toNat).map fun (i : Nat) => skip sp i).map V.int = (List.range n.toNat).map fun (i : Nat) => V.int (skip sp i) := by
    rw [List.map_map]
    rfl
  rw [eLL] at hLd
  have lenLL : ((List.range n.toNat).map fun (i : Nat) => V.int (skip sp i)).length = n.toNat := by simp
  -- the places
  have mkPl : ∀ He, Same Hd He → ∀ (Dp : Addr), He Dp = none → ∀ R : Hp → Prop, (∀ Hf kvs, Same He Hf → Hf Dp = some (.dK kvs) → (∀ a : Int, a ≠ sp → 0 ≤ a → a ≤ n → valV kvs (Sum.inl a : Key) = some (.int (unskip sp a))) → (valV kvs (Sum.inl sp : Key) = none) → R Hf) →
      ∃ W : Nat → Nat → Hp → Prop, (∃ m, W 0 m (upd He Dp (.dK []))) ∧ ∀ i m H, W i m H → ((Ite K LL).stop i H ∧ R H) ∨ ((Ite K LL).go i H ∧ ∃ Nx : Hp → Prop, (∀ H', Nx H' → ∃ m', m' < m ∧ W (i + 1) m' H') ∧
        ∀ x H', (Ite K LL).yld i H x H' → DcTurn (gTup K 2 (gCons (gName 9) (gCons (gName 6) gNil))) tYes (tVar 6) (tVar 9) [6, 9] [some (.ref p), some (.ref t), some (.ref LL), none, none, none, none, none, none, none, none, none, none, none] Dp x H' Nx) := by
    intro He se Dp hDp R kR
    refine dc_it (walk_enum (K := K) (a := LL) (xs := (List.range n.toNat).map fun (i : Nat) => V.int (skip sp i))) (fun i H' => Same He H' ∧ ∃ kvs, H' Dp = some (.dK kvs) ∧ kvs.length ≤ i ∧ ∀ a : Int, valV kvs (Sum.inl a : Key) = if a ≠ sp ∧ 0 ≤ a ∧ unskip sp a < i then some (.int (unskip sp a)) else none)
      ⟨same_new hDp, [], upd_same, Nat.le_refl _, fun a => by rw [valV_nil, if_neg]; rintro ⟨z1, z2, z3⟩; unfold unskip at z3; split at z3 <;> omega⟩ (fun i H' _ z => SqL.of (z.1 _ _ (se _ _ hLd))) ?_ ?_
    · rintro i x H7 H8 hi ⟨s7, kvs, hk, hkl, hkv⟩ ⟨T1, x1, y1, rfl, hT, rfl, hx, hy⟩
      rw [lenLL] at hi
      cases hx
      have hy' : y1 = V.int (skip sp i) := by
        simp only [List.getElem?_map, List.getElem?_range hi] at hy
        exact (Option.some.inj hy).symm
      subst hy'
      have s8 := same_new (o := .tup [V.int (i : Int), V.int (skip sp i)]) hT
      refine ⟨T1, _, rfl, SqT.of upd_same, rfl, _, _, rfl, _, _, rfl, rfl, rfl, _, rfl, _, rfl, _, DPut.k (k := Sum.inl (skip sp i)) (s8 _ _ hk) (len_lt (by omega : _ ≤ 5)), ?_⟩
      refine ⟨(s7.trans s8).upd_own hDp, _, upd_same, Nat.le_trans (length_putK _ _ _) (by omega), fun a => ?_⟩
      rw [valV_put, hkv]
      by_cases ha : a = skip sp i
      · subst ha
        rw [if_pos rfl, if_pos, un_skip]
        refine ⟨skip_ne, ?_, by rw [un_skip]; omega⟩
        unfold skip
        split <;> omega
      · rw [if_neg (by intro z; injection z with z; exact ha z)]
        have : (a ≠ sp ∧ 0 ≤ a ∧ unskip sp a < (i : Int)) ↔ (a ≠ sp ∧ 0 ≤ a ∧ unskip sp a < ((i + 1 : Nat) : Int)) := by
          constructor
          · rintro ⟨z1, z2, z3⟩
            exact ⟨z1, z2, by omega⟩
          · rintro ⟨z1, z2, z3⟩
            refine ⟨z1, z2, ?_⟩
            have : (i : Int) ≠ unskip sp a := fun z => ha ((skip_eq z1).mpr z).symm
            omega
        simp only [this]
    · rintro Hf ⟨s7, kvs, hk, hkl, hkv⟩
      rw [lenLL] at hkv
      refine kR Hf kvs s7 hk (fun a a1 a2 a3 => ?_) ?_
      · rw [hkv, if_pos]
        refine ⟨a1, a2, ?_⟩
        unfold unskip
        split <;> omega
      · rw [hkv, if_neg (fun z => z.1 rfl)]
  refine ⟨_, rfl, p, n, f, rfl, tb.keeps sd, fun He se no => ?_, fun dk B He se fk hk g c => ?_⟩
  · refine ⟨_, rfl, LL, _, rfl, SqL.of (se _ _ hLd), .dK [], .inl rfl, fun Dp hDp => mkPl He se Dp hDp _ fun Hf kvs sf _ _ _ => ?_⟩
    refine ⟨l2, fun tt htt => ⟨tt, _, rfl, SqT.of upd_same, rfl, _, _, rfl, _, _, rfl, rfl, ?_⟩⟩
    have sg := ((sd.trans se).trans sf).upd_new (o := .tup [V.non, .ref Dp]) htt
    refine ⟨_, rfl, _, rfl, iteT ?_⟩
    refine ⟨_, rfl, LL, _, rfl, .inl (SqL.of (same_new htt _ _ (sf _ _ (se _ _ hLd)))), _, _, rfl, rfl, n - 1, ?_, by omega, by omega, fun r H9 s9 t9 => ?_⟩
    · rw [lenLL]
      show [V.int ((n.toNat : Int) - 1)] ++ [] = _
      rw [show (n.toNat : Int) = n by omega]
      rfl
    · exact k r _ H9 (sg.trans s9) t9 fun L hL => absurd hL (no L)
  · refine ⟨_, rfl, LL, _, rfl, SqL.of (se _ _ hLd), .dK [], .inl rfl, fun Dp hDp => mkPl He se Dp hDp _ fun Hf kvs sf hkp hpl hpn => ?_⟩
    refine ⟨l2, fun tt htt => ⟨tt, _, rfl, SqT.of upd_same, rfl, _, _, rfl, _, _, rfl, rfl, ?_⟩⟩
    have sg := ((sd.trans se).trans sf).upd_new (o := .tup [V.ref dk, .ref Dp]) htt
    have hLg := same_new (o := .tup [V.ref dk, .ref Dp]) htt _ _ (sf _ _ (se _ _ hLd))
    have hkg := same_new (o := .tup [V.ref dk, .ref Dp]) htt _ _ (sf _ _ hk)
    have hpg := same_new (o := .tup [V.ref dk, .ref Dp]) htt _ _ hkp
    generalize upd Hf tt (.tup [V.ref dk, .ref Dp]) = Hg at sg hLg hkg hpg ⊢
    refine ⟨_, rfl, _, rfl, iteF ?_⟩
    -- what is kept
    refine ⟨dk, _, hkg, trivial, fun od => ⟨_, rfl, dk, od, _, rfl, upd_same, .dT [], .inr rfl, fun De hDe => ?_⟩⟩
    generalize hHh : upd Hg dk (.frz od (.dT (kvT B))) = Hh at hDe ⊢
    have hkh : Hh dk = some (.frz od (.dT (kvT B))) := by rw [← hHh, upd_same]
    have hph : Hh Dp = some (.dK kvs) := by rw [← hHh, upd_ne (ne_of hpg hkg (by intro z; cases z))]; exact hpg
    have plc : ∀ a : Int, 0 ≤ a → a ≤ n → (valV kvs (Sum.inl a : Key)).isSome = decide (a ≠ sp) := by
      intro a a0 a1
      by_cases ha : a = sp
      · subst ha
        rw [hpn]
        simp
      · rw [hpl a ha a0 a1]
        simp [ha]
    refine dc_it walk_pairs (fun i H' => Same Hh H' ∧ ∃ B2, H' De = some (.dT (kvT B2)) ∧ Good n B2 ∧ ∀ q, look B2 q = if q ∈ (B.take i).map (·.1) ∧ q.1 ≠ sp ∧ q.2 ≠ sp then look B q else none)
      ⟨same_new hDe, [], upd_same, Good.nil, fun q => by rw [look_nil, if_neg (by rintro ⟨z, _⟩; cases z)]⟩ (fun i H' _ z => z.1 _ _ hkh) ?_ ?_
    · rintro i x H9 H10 hi ⟨s9, B2, hB2, g2, e2⟩ ⟨T1, k1, v1, q, e1, rfl, hq, hT, rfl⟩
      obtain ⟨pt, zz, ee, rfl, hq⟩ := kvT_at e1 hq
      have hrg : 0 ≤ pt.1 ∧ pt.1 ≤ n ∧ 0 ≤ pt.2 ∧ pt.2 ≤ n := g.rg _ (List.mem_of_getElem? ee)
      have s10 := same_new (o := .tup [.ref q, V.int zz]) hT
      have lk := look_of_mem g.nd (List.mem_of_getElem? ee)
      have hq10 := s10 _ _ hq
      have hp10 := s10 _ _ (s9 _ _ hph)
      refine ⟨T1, _, rfl, SqT.of upd_same, rfl, _, _, rfl, _, _, rfl, rfl, rfl, ?_⟩
      have key : ∀ r : Pt, r ≠ pt → ((r ∈ (B.take (i + 1)).map (·.1) ∧ r.1 ≠ sp ∧ r.2 ≠ sp) ↔ (r ∈ (B.take i).map (·.1) ∧ r.1 ≠ sp ∧ r.2 ≠ sp)) := by
        intro r hr
        rw [take_snoc ee, List.map_append, List.mem_append, List.map_singleton, List.mem_singleton]
        simp only [hr, or_false]
      have bad : ¬ (pt.1 ≠ sp ∧ pt.2 ≠ sp) → Same Hh (upd H9 T1 (.tup [.ref q, V.int zz])) ∧ ∃ B2, (upd H9 T1 (.tup [.ref q, V.int zz])) De = some (.dT (kvT B2)) ∧ Good n B2 ∧ ∀ q, look B2 q = if q ∈ (B.take (i + 1)).map (·.1) ∧ q.1 ≠ sp ∧ q.2 ≠ sp then look B q else none := by
        intro hb
        refine ⟨s9.trans s10, B2, s10 _ _ hB2, g2, fun r => ?_⟩
        rw [e2]
        by_cases hr : r = pt
        · subst hr
          rw [if_neg (fun z => hb z.2), if_neg (fun z => hb z.2)]
        · simp only [key r hr]
      refine ⟨_, rfl, q, _, 0, _, rfl, rfl, SqT.of hq10, atI_nat (j := 0) rfl, _, rfl, Dp, _, rfl, DGet.k (k := Sum.inl pt.1) hp10, _, rfl, ?_⟩
      rw [plc pt.1 hrg.1 hrg.2.1]
      by_cases c1 : pt.1 = sp
      · rw [decide_eq_false (fun z => z c1)]
        exact iteF (bad fun z => z.1 c1)
      · rw [decide_eq_true (p := pt.1 ≠ sp) c1]
        refine iteT ⟨_, rfl, q, _, 1, _, rfl, rfl, SqT.of hq10, atI_nat (j := 1) rfl, _, rfl, Dp, _, rfl, DGet.k (k := Sum.inl pt.2) hp10, _, rfl, ?_⟩
        rw [plc pt.2 hrg.2.2.1 hrg.2.2.2]
        by_cases c2 : pt.2 = sp
        · rw [decide_eq_false (fun z => z c2)]
          exact iteF (bad fun z => z.2 c2)
        · rw [decide_eq_true (p := pt.2 ≠ sp) c2]
          refine iteT ⟨_, rfl, _, rfl, _, put_bd (s10 _ _ hB2) hq10 (g2.l1000 n3), ?_⟩
          refine ⟨(s9.trans s10).upd_own hDe, _, upd_same, g2.put _ hrg.1 hrg.2.1 hrg.2.2.1 hrg.2.2.2, fun r => ?_⟩
          rw [look_put, e2]
          by_cases hr : r = pt
          · subst hr
            rw [if_pos rfl, if_pos ⟨by rw [take_snoc ee, List.map_append]; simp, c1, c2⟩, lk]
          · rw [if_neg hr]
            simp only [key r hr]
    rintro H9 ⟨s9, B2, hB2, g2, e2⟩
    rw [kvT_len, List.take_of_length_le (Nat.le_refl _)] at e2
    have hnk : dk ≠ De := ne_of_none hkh hDe
    refine ⟨s9 _ _ hkh, ?_⟩
    have s10 : Same Hg (upd H9 dk (.dT (kvT B))) := Same.lock hkg (by rw [hHh]; exact s9)
    have hB10 : upd H9 dk (.dT (kvT B)) De = some (.dT (kvT B2)) := by rw [upd_ne hnk.symm]; exact hB2
    have hL10 := s10 _ _ hLg
    have hp10 := s10 _ _ hpg
    have sH10 := sg.trans s10
    generalize upd H9 dk (.dT (kvT B)) = Hi at s10 hB10 hL10 hp10 sH10 ⊢
    have ek : ∀ q : Pt, look B2 q = if q.1 ≠ sp ∧ q.2 ≠ sp then look B q else none := by
      intro q
      rw [e2]
      by_cases hm : q ∈ B.map (·.1)
      · simp only [hm, true_and]
      · have : look B q = none := by
          cases e : look B q with
          | none => rfl
          | some z => exact absurd (List.mem_map_of_mem (f := (·.1)) (look_mem e)) hm
        rw [this]
        split <;> split <;> rfl
    -- the new bounds
    refine ⟨_, rfl, LL, _, rfl, .inl (SqL.of hL10), _, _, rfl, rfl, De, _, hB10, trivial, fun od2 => ⟨_, rfl, De, od2, _, rfl, upd_same, .dT [], .inr rfl, fun Dq hDq => ?_⟩⟩
    generalize hHj : upd Hi De (.frz od2 (.dT (kvT B2))) = Hj at hDq ⊢
    have hkj : Hj De = some (.frz od2 (.dT (kvT B2))) := by rw [← hHj, upd_same]
    have hpj : Hj Dp = some (.dK kvs) := by rw [← hHj, upd_ne (ne_of hp10 hB10 (by intro z; cases z))]; exact hp10
    refine dc_it walk_pairs (fun i H' => Same Hj H' ∧ ∃ B3, H' Dq = some (.dT (kvT B3)) ∧ Good (n - 1) B3 ∧ ∀ q : Pt, look B3 q = if (skip sp q.1, skip sp q.2) ∈ (B2.take i).map (·.1) then look B2 (skip sp q.1, skip sp q.2) else none)
      ⟨same_new hDq, [], upd_same, Good.nil, fun q => by rw [look_nil, if_neg (by intro z; cases z)]⟩ (fun i H' _ z => z.1 _ _ hkj) ?_ ?_
    · rintro i x H11 H12 hi ⟨s11, B3, hB3, g3, e3⟩ ⟨T1, k1, v1, q, e1, rfl, hq, hT, rfl⟩
      obtain ⟨pt, zz, ee, rfl, hq⟩ := kvT_at e1 hq
      have hrg : 0 ≤ pt.1 ∧ pt.1 ≤ n ∧ 0 ≤ pt.2 ∧ pt.2 ≤ n := g2.rg _ (List.mem_of_getElem? ee)
      have s12 := same_new (o := .tup [.ref q, V.int zz]) hT
      have lk := look_of_mem g2.nd (List.mem_of_getElem? ee)
      have hpp : pt.1 ≠ sp ∧ pt.2 ≠ sp := by
        rw [ek] at lk
        by_cases z : pt.1 ≠ sp ∧ pt.2 ≠ sp
        · exact z
        · rw [if_neg z] at lk
          cases lk
      have hq12 := s12 _ _ hq
      have hp12 := s12 _ _ (s11 _ _ hpj)
      refine ⟨T1, _, rfl, SqT.of upd_same, rfl, _, _, rfl, ⟨q, _, rfl, SqT.of hq12, rfl, _, _, rfl, _, _, rfl, rfl, _, _, rfl, rfl, rfl, ?_⟩⟩
      have v1 := hpl pt.1 hpp.1 hrg.1 hrg.2.1
      have v2 := hpl pt.2 hpp.2 hrg.2.2.1 hrg.2.2.2
      refine ⟨_, rfl, _, rfl, Dp, .int (unskip sp pt.1), rfl, by rw [← v1]; exact DGet.k (k := Sum.inl pt.1) hp12, ?_⟩
      refine ⟨_, rfl, _, rfl, Dp, .int (unskip sp pt.2), rfl, by rw [← v2]; exact DGet.k (k := Sum.inl pt.2) hp12, l2, fun t2 ht2 => ?_⟩
      have s13 := same_new (o := .tup [V.int (unskip sp pt.1), V.int (unskip sp pt.2)]) ht2
      refine ⟨_, rfl, _, put_bd (p := (unskip sp pt.1, unskip sp pt.2)) (s13 _ _ (s12 _ _ hB3)) upd_same (Nat.le_trans (g3.len (by omega)) (by decide)), ?_⟩
      have ub : ∀ a : Int, a ≠ sp → 0 ≤ a → a ≤ n → 0 ≤ unskip sp a ∧ unskip sp a ≤ n - 1 := by
        intro a z1 z2 z3
        unfold unskip
        split <;> omega
      have u1 := ub _ hpp.1 hrg.1 hrg.2.1
      have u2 := ub _ hpp.2 hrg.2.2.1 hrg.2.2.2
      refine ⟨((s11.trans s12).trans s13).upd_own hDq, _, upd_same, g3.put _ u1.1 u1.2 u2.1 u2.2, fun r => ?_⟩
      rw [look_put, e3, take_snoc ee, List.map_append, List.map_singleton]
      by_cases hr : r = (unskip sp pt.1, unskip sp pt.2)
      · subst hr
        have es : ((skip sp (unskip sp pt.1), skip sp (unskip sp pt.2)) : Pt) = pt := by rw [skip_un hpp.1, skip_un hpp.2]
        rw [if_pos rfl]
        simp only [es]
        rw [if_pos (by simp), lk]
      · rw [if_neg hr]
        have hne : ((skip sp r.1, skip sp r.2) : Pt) ≠ pt := by
          intro z
          apply hr
          rw [← z]
          simp only [un_skip]
        simp only [List.mem_append, List.mem_singleton, hne, or_false]
    rintro H11 ⟨s11, B3, hB3, g3, e3⟩
    rw [kvT_len, List.take_of_length_le (Nat.le_refl _)] at e3
    refine ⟨s11 _ _ hkj, ?_⟩
    have hnq : De ≠ Dq := ne_of_none hkj hDq
    have s12 : Same Hi (upd H11 De (.dT (kvT B2))) := Same.lock hB10 (by rw [hHj]; exact s11)
    have e4 : ∀ i j : Int, fn B3 i j = fn B (skip sp i) (skip sp j) := by
      intro i j
      show look B3 (i, j) = look B (skip sp i, skip sp j)
      rw [e3]
      have : look B2 (skip sp i, skip sp j) = look B (skip sp i, skip sp j) := by
        rw [ek, if_pos ⟨skip_ne, skip_ne⟩]
      by_cases hm : ((skip sp i, skip sp j) : Pt) ∈ B2.map (·.1)
      · rw [if_pos hm, this]
      · rw [if_neg hm, ← this]
        cases e : look B2 (skip sp i, skip sp j) with
        | none => rfl
        | some z => exact absurd (List.mem_map_of_mem (f := (·.1)) (look_mem e)) hm
    have dmB : Dom (n - 1) (fn B3) := by
      intro i j v e
      rw [e4] at e
      have := c.dom _ _ _ e
      obtain ⟨z1, z2, z3, z4, z5⟩ := this
      have sk : ∀ i : Int, 0 ≤ skip sp i → skip sp i ≤ n → 0 ≤ i ∧ i ≤ n - 1 := by
        intro i y1 y2
        unfold skip at y1 y2
        split at y1 <;> omega
      have q1 := sk i z1 z2
      have q2 := sk j z3 z4
      exact ⟨q1.1, q1.2, q2.1, q2.2, fun z => z5 (by rw [z])⟩
    have eN : ((List.range n.toNat).map fun (i : Nat) => V.int (skip sp i)).length = n.toNat := lenLL
    intro x dx3 hx3 hdx3 hne3
    show spInit C (V.ref x :: ([V.int (((((List.range n.toNat).map fun (i : Nat) => V.int (skip sp i)).length : Nat) : Int) - 1), V.ref Dq] ++ [])) _ _ _
    rw [show ((((List.range n.toNat).map fun (i : Nat) => V.int (skip sp i)).length : Nat) : Int) - 1 = n - 1 by rw [eN]; omega]
    refine make_read (by omega) (by omega) (by rw [upd_ne hnq.symm]; exact hB3) g3 dmB (fun r H13 s13 t13 => ?_) x dx3 hx3 hdx3 hne3
    refine k r _ H13 ((sH10.trans s12).trans s13) t13 fun L hL i j v e => ?_
    rw [e4] at e
    exact c.snd L hL _ _ _ e
end
end Bw

/-! Rings. -/
namespace Bw
open PySem PySem.Spec PyProof.Rows L2
/-- a dict from points to points -/
def kvS (S : List (Int × Int)) : List (Key × V) := S.map fun e => (Sum.inl e.1, V.int e.2)
theorem kvS_kvI (S : List (Int × Int)) : kvS S = kvI (S.map fun e => (e.1, V.int e.2)) := by
  unfold kvS kvI
  rw [List.map_map]
  rfl
theorem putK_kvS (S : List (Int × Int)) (a b : Int) : ∃ S' : List (Int × Int), putK (kvS S) (Sum.inl a : Key) (V.int b) = kvS S' := by
  unfold putK
  split
  · refine ⟨S.map fun e => if e.1 = a then (e.1, b) else e, ?_⟩
    unfold kvS
    rw [List.map_map, List.map_map]
    refine List.map_congr_left fun e _ => ?_
    simp only [Function.comp]
    by_cases h : e.1 = a
    · rw [if_pos h, if_pos (by rw [h])]
    · rw [if_neg h, if_neg (by intro z; injection z with z; exact h z)]
  · exact ⟨S ++ [(a, b)], by unfold kvS; rw [List.map_append]; rfl⟩
/-- the step from a goes to b -/
def St1 (S : List (Int × Int)) (a b : Int) : Prop := valV (kvS S) (Sum.inl a : Key) = some (V.int b)
theorem kvS_val {S : List (Int × Int)} {a : Int} {v : V} (h : valV (kvS S) (Sum.inl a : Key) = some v) : ∃ b, v = V.int b := by
  unfold valV at h
  cases e : (kvS S).find? fun kv => decide (kv.1 = (Sum.inl a : Key)) with
  | none => rw [e] at h; cases h
  | some x =>
    rw [e] at h
    obtain ⟨y, _, rfl⟩ := List.mem_map.mp (List.mem_of_find?_eq_some e)
    exact ⟨y.2, (Option.some.inj h).symm⟩
/-- all steps are bounds -/
def StOk (n : Int) (B : Bd) (S : List (Int × Int)) : Prop := ∀ a b, St1 S a b → 0 ≤ a ∧ a ≤ n ∧ ∃ z, look B (a, b) = some z
/-- the way: each to the next, the last to at -/
def Chn (S : List (Int × Int)) (ws : List Int) (at_ : Int) : Prop := ∀ i a b, (ws ++ [at_])[i]? = some a → (ws ++ [at_])[i + 1]? = some b → St1 S a b
theorem Chn.nil {S : List (Int × Int)} {a : Int} : Chn S [] a := fun i x y _ h => by
  have := (List.getElem?_eq_some_iff.mp h).1
  simp at this
theorem Chn.snoc {S : List (Int × Int)} {ws : List Int} {a b : Int} (c : Chn S ws a) (h : St1 S a b) : Chn S (ws ++ [a]) b := fun i x y hx hy => by
  have hl := (List.getElem?_eq_some_iff.mp hy).1
  simp at hl
  by_cases hi : i + 1 < (ws ++ [a]).length
  · rw [List.getElem?_append_left (by omega)] at hx
    rw [List.getElem?_append_left hi] at hy
    exact c i x y hx hy
  · simp at hi
    have hi2 : i = ws.length := by omega
    subst hi2
    rw [List.getElem?_append_left (by simp)] at hx
    rw [List.getElem?_concat_length] at hx
    rw [show ws.length + 1 = (ws ++ [a]).length by simp, List.getElem?_concat_length] at hy
    cases hx
    cases hy
    exact h
theorem sum_le {B : Bd} {L : Int → Int} (hL : Fit (fn B) L) : ∀ l : List Pt, (∀ e ∈ l, ∃ z, look B e = some z) → (l.map fun e => L e.1).sum - (l.map fun e => L e.2).sum ≤ (l.map fun e => (look B e).getD 0).sum
  | [], _ => by simp
  | e :: l, h => by
    obtain ⟨z, hz⟩ := h e List.mem_cons_self
    have := sum_le hL l fun x hx => h x (List.mem_cons_of_mem _ hx)
    have h2 := hL e.1 e.2 z hz
    simp only [List.map_cons, List.sum_cons, hz, Option.getD_some]
    omega
/-- the ring's pairs -/
def ringP (ws : List Int) (at_ : Int) (j : Nat) : List Pt := (ws.drop j).zip ((ws ++ [at_]).drop (j + 1))
theorem ring_neg {n : Int} {B : Bd} {S : List (Int × Int)} {ws : List Int} {at_ : Int} {j : Nat} (ok : StOk n B S) (c : Chn S ws at_) (hj : ws[j]? = some at_) :
    (∀ e ∈ ringP ws at_ j, ∃ z, look B e = some z) ∧ (((ringP ws at_ j).map fun e => (look B e).getD 0).sum < 0 → ∀ L, ¬ Fit (fn B) L) := by
  have hlt := (List.getElem?_eq_some_iff.mp hj).1
  have hall : ∀ e ∈ ringP ws at_ j, ∃ z, look B e = some z := by
    intro e he
    obtain ⟨i, hi⟩ := List.getElem?_of_mem he
    unfold ringP at hi
    rw [List.getElem?_zip_eq_some] at hi
    rw [List.getElem?_drop, List.getElem?_drop] at hi
    have hl := (List.getElem?_eq_some_iff.mp hi.1).1
    have h1 : (ws ++ [at_])[j + i]? = some e.1 := by rw [List.getElem?_append_left hl]; exact hi.1
    have h2 : (ws ++ [at_])[j + i + 1]? = some e.2 := by rw [show j + i + 1 = j + 1 + i by omega]; exact hi.2
    exact (ok e.1 e.2 (c _ _ _ h1 h2)).2.2
  refine ⟨hall, fun hneg L hL => ?_⟩
  have h := sum_le hL _ hall
  have e1 : ws.drop j = at_ :: ws.drop (j + 1) := by
    rw [List.drop_eq_getElem_cons hlt]
    congr 1
    exact Option.some.inj ((List.getElem?_eq_getElem hlt).symm.trans hj)
  have e2 : (ws ++ [at_]).drop (j + 1) = ws.drop (j + 1) ++ [at_] := by
    rw [List.drop_append_of_le_length (by omega)]
  have hf : (ringP ws at_ j).map (fun e => L e.1) = (ws.drop j).map L := by
    unfold ringP
    have : (fun e : Pt => L e.1) = L ∘ Prod.fst := rfl
    rw [this, ← List.map_map, List.map_fst_zip (by rw [List.length_drop, List.length_drop, List.length_append]; simp)]
  have hs : (ringP ws at_ j).map (fun e => L e.2) = ((ws ++ [at_]).drop (j + 1)).map L := by
    unfold ringP
    have : (fun e : Pt => L e.2) = L ∘ Prod.snd := rfl
    rw [this, ← List.map_map, List.map_snd_zip (by rw [List.length_drop, List.length_drop, List.length_append]; simp)]
  rw [hf, hs, e1, e2, List.map_cons, List.map_append, List.sum_cons, List.sum_append] at h
  simp at h
  omega
/-- nothing, or a list: then nothing fits -/
def RingIs (f : Fn) (v : V) : Prop := v = .non ∨ ∃ q, v = .ref q ∧ ∀ L, ¬ Fit f L
def spRingFrom : Sp := fun vs H Q _ => ∃ (ds db : Addr) (n : Int) (S : List (Int × Int)) (B : Bd), vs = [.ref ds, .ref db] ∧ H ds = some (.dK (kvS S)) ∧ H db = some (.dT (kvT B)) ∧ n ≤ 3 ∧ StOk n B S ∧ ∀ v H', Same H H' → RingIs (fn B) v → Q v H'
theorem in_int (a : Int) (xs : List Int) : inV (.int a) (xs.map V.int) = decide (a ∈ xs) := by
  unfold inV
  rw [List.any_map]
  by_cases h : a ∈ xs
  · rw [decide_eq_true h, List.any_eq_true]
    exact ⟨a, h, by show (a == a) = true; simp⟩
  · rw [decide_eq_false h, List.any_eq_false]
    intro x hx hq
    have : (x == a) = true := hq
    exact h (by rw [← eq_of_beq this]; exact hx)
theorem flat_ints (xs : List Int) : (xs.map V.int).all flatV = true := by
  rw [List.all_map, List.all_eq_true]
  intro x _
  rfl
theorem sIx_nat (xs : List V) (j : Nat) (h : j ≤ xs.length) : HT.sIx xs.length 0 (some (j : Int)) = j := by
  unfold HT.sIx
  simp only []
  rw [if_neg (by omega)]
  simp
  omega
theorem cut_from (xs : List V) (j : Nat) (h : j ≤ xs.length) : cutV xs (some (j : Int)) none = xs.drop j := by
  unfold cutV
  rw [sIx_nat xs j h]
  simp only [HT.sIx]
  rw [List.take_of_length_le (by rw [List.length_drop]; exact Nat.le_refl _)]
section
variable {P : Program} {w : World} {K : PySem.W.Frag} {mg : Str → Option Value} {base : Heap} {C : Addr}
theorem ok_ring_from (T : Txt K mg C) (D : Def K mg "ring_from" s_ring_from ["steps", "bounds"]) : Prom P w K mg base "ring_from" 1 ["steps", "bounds"] spRingFrom := by
  refine D.ok sc_ring_from (fun vs H Q E h => by obtain ⟨ds, db, n, S, B, rfl, _⟩ := h; rfl) (fun f cdv A outer s H vs Q E hr h => ?_)
  obtain ⟨ds, db, n, S, B, rfl, hs, hb, n3, ok, k⟩ := h
  have nd := sc_ring_from.nd
  have hu := hu_of hr
  refine ⟨_, pss_cons (ps_for PassesOwn.never rfl (pi_list (pe_callB (cr_sortK rfl) (by rfl) T.b_sorted (by decide +kernel) (pa_cons (pv 0) pa_nil))) (pg_name (i := 2) nd rfl (Or.inl rfl))
      (pss_cons (ps_par (i := 3) (j := 4) rfl nd rfl rfl (by decide) rfl rfl (pa_cons (pe_lst pa_nil) (pa_cons (pv 2) pa_nil)) (by rfl))
      (pss_cons (ps_while PassesOwn.never (PW.pt (pw_and (pt_cmp (pc_din hu (pv 4) (pv 0))) (pw_and1 (pt_cmpR op_notIn_seq (pv 4) (pv 3) (by rfl)))))
        (pss_cons (ps_expr (pe_bm PySem.F.plainAttrs_list PySem.F.slot_list_append PySem.F.type_list_append mt_append (pv 3) (pa_cons (pv 4) pa_nil)))
        (pss_one (ps_set (i := 4) nd rfl (.inl rfl) (pe_dget hu (pv 0) (pv 4) (fun _ _ => rfl))))))
      (pss_one (ps_if (pt_cmpR op_in_seq (pv 4) (pv 3) (by rfl))
        (pss_cons (ps_set (i := 5) nd rfl (.inl rfl) (pe_slice sl_list (pv 3) (po_some (pe_bm PySem.F.plainAttrs_list PySem.F.slot_list_index PySem.F.type_list_index mt_index (pv 3) (pa_cons (pv 4) pa_nil))) po_none))
        (pss_one (ps_if (pt_cmpR op_lt (pe_callB (cr_sum rfl) (by rfl) T.b_sum (by decide +kernel) (pa_cons (pe_lc (own := [("pair", 6)]) (g := gName 6) (tt := tYes) rfl nd
            (pi_zipN (l := true) (by rfl) T.b_zip (pa_cons (pv 5) (pa_cons (pe_lst (StX.pa_star (pe_slice sl_list (pv 5) (po_some pe_int) po_none) (pa_cons (pe_ix ix_list (pv 5) pe_int (fun _ _ => rfl)) pa_nil))) pa_nil)))
            (blkOk_by (N := ["steps", "bounds", "start", "way", "at", "found", "pair"]) (sc := defScope s_ring_from) (by decide +kernel)) (fun _ _ _ _ _ => pg_name (i := 6) nd rfl (Or.inl rfl)) (fun _ _ _ _ _ => pts_nil)
            (fun _ _ _ _ _ => pe_dget hu (pv 1) (pv 6) (fun _ _ => rfl))) pa_nil)) pe_int (nomark _)) (pss_one (ps_ret (pv 5))) pss_nil))) pss_nil)))))
    (pss_one (ps_ret pe_non)), ?_⟩
  refine ⟨_, rfl, ds, S.map fun e => (e.1, V.int e.2), rfl, (by rw [← kvS_kvI]; exact hs), fun ns L0 hperm hL0 => ⟨L0, rfl, ⟨_, SqL.of upd_same⟩, ?_⟩⟩
  have s0 := same_new (o := .lst (ns.map V.int)) hL0
  have hL00 : upd H L0 (.lst (ns.map V.int)) L0 = some (.lst (ns.map V.int)) := upd_same
  generalize upd H L0 (.lst (ns.map V.int)) = H1 at s0 hL00 ⊢
  have hs1 := s0 _ _ hs
  have hb1 := s0 _ _ hb
  refine for_list (K := K) (a := L0) (xs := ns.map V.int) (fun i σ H' => ∃ o2 o3 o4 o5 o6, σ = [some (.ref ds), some (.ref db), o2, o3, o4, o5, o6] ∧ Same H1 H')
    ⟨_, _, _, _, _, rfl, Same.refl _⟩ (fun i σ H' _ ⟨_, _, _, _, _, _, z⟩ => SqL.of (z _ _ hL00)) ?_ ?_
  · rintro i x σ H2 hx ⟨o2, o3, o4, o5, o6, rfl, s2⟩
    obtain ⟨a, ha, rfl⟩ := map_at hx
    refine ⟨Nat.zero_le _, fun Lw hLw => ⟨_, rfl, _, _, rfl, ?_⟩⟩
    refine while_by (fun σ H' => ∃ ws at_, σ = [some (.ref ds), some (.ref db), some (.int a), some (.ref Lw), some (.int at_), o5, o6] ∧ LcP H2 Lw (ws.map V.int) H' ∧ Chn S ws at_ ∧ ws.Nodup ∧ ∀ x ∈ ws, ∃ b, St1 S x b)
      (fun σ H' => match H' Lw with | some (.lst l) => 10 - l.length | _ => 0) ⟨[], a, rfl, LcP.start hLw, Chn.nil, List.nodup_nil, fun x hx => (nomatch hx)⟩ ?_ ?_
    · rintro σ H3 ⟨ws, at_, rfl, z, c, nw, rg⟩
      have hs3 := z.1 _ _ (s2 _ _ hs1)
      have hb3 := z.1 _ _ (s2 _ _ hb1)
      refine ⟨_, rfl, _, rfl, ds, _, rfl, DGet.k (k := Sum.inl at_) hs3, _, rfl, ?_⟩
      have lenws : ws.length ≤ 4 := nodup_len ws [0, 1, 2, 3] nw fun x hx => by
        obtain ⟨b, hb'⟩ := rg _ hx
        have := ok _ _ hb'
        have h4 : x = 0 ∨ x = 1 ∨ x = 2 ∨ x = 3 := by omega
        rcases h4 with rfl | rfl | rfl | rfl <;> simp
      cases e : valV (kvS S) (Sum.inl at_ : Key) with
      | none =>
        refine iteF (iteF ?_)
        have hni : at_ ∉ ws := fun hm => by
          obtain ⟨b, hb'⟩ := rg _ hm
          unfold St1 at hb'
          rw [e] at hb'
          cases hb'
        refine ⟨_, rfl, _, rfl, Lw, _, rfl, .inl (SqL.of z.2), rfl, flat_ints ws, _, rfl, ?_⟩
        rw [in_int]
        exact iteN hni ⟨_, _, _, _, _, rfl, s2.trans z.1⟩
      | some v =>
        obtain ⟨b, rfl⟩ := kvS_val e
        refine iteT ⟨_, rfl, _, rfl, Lw, _, rfl, .inl (SqL.of z.2), rfl, flat_ints ws, _, rfl, ?_⟩
        rw [in_int]
        have hst := ok at_ b e
        by_cases hm : at_ ∈ ws
        · rw [decide_eq_true hm]
          refine iteF ⟨_, rfl, _, rfl, Lw, _, rfl, .inl (SqL.of z.2), rfl, flat_ints ws, _, rfl, ?_⟩
          rw [in_int]
          refine iteD hm ?_
          obtain ⟨j, hj⟩ := List.getElem?_of_mem hm
          have hjl := (List.getElem?_eq_some_iff.mp hj).1
          have hjv : (ws.map V.int)[j]? = some (V.int at_) := by
            rw [List.getElem?_map, hj]
            rfl
          have hahead : ∀ (m : Nat) (z' : V), m < j → (ws.map V.int)[m]? = some z' → eqV z' (V.int at_) = false := by
            intro m z' hmj hz'
            obtain ⟨y, hy, rfl⟩ := map_at hz'
            show (y == at_) = false
            rw [beq_eq_false_iff_ne]
            intro hya
            subst hya
            have := (List.getElem?_inj (List.getElem?_eq_some_iff.mp hy).1 nw).mp (hy.trans hj.symm)
            omega
          refine ⟨_, rfl, _, rfl, .inl ⟨rfl, _, SqL.of z.2⟩, _, rfl, Lw, _, .int at_, j, .int at_, rfl, rfl, SqL.of z.2, rfl, flat_ints ws, hjv, beq_self_eq_true at_, hahead, (j : Int), rfl, Lw, _, rfl, SqL.of z.2, fun p hp => ?_⟩
          rw [cut_from _ j (by rw [List.length_map]; omega), ← List.map_drop]
          obtain ⟨hall, hneg⟩ := ring_neg ok c hj
          have s4 : Same H3 (upd H3 p (.lst ((ws.drop j).map V.int))) := same_new hp
          have h4 : upd H3 p (.lst ((ws.drop j).map V.int)) p = some (.lst ((ws.drop j).map V.int)) := upd_same
          generalize upd H3 p (.lst ((ws.drop j).map V.int)) = H4 at s4 h4 ⊢
          refine ⟨_, rfl, _, rfl, 1, rfl, p, _, rfl, SqL.of h4, fun q hq => ?_⟩
          rw [show ((1 : Int)) = ((1 : Nat) : Int) from rfl, cut_from _ 1 (by rw [List.length_map, List.length_drop]; omega), ← List.map_drop, List.drop_drop]
          have s5 := s4.upd_new (o := .lst ((ws.drop (j + 1)).map V.int)) hq
          have h5 : upd H4 q (.lst ((ws.drop (j + 1)).map V.int)) q = some (.lst ((ws.drop (j + 1)).map V.int)) := upd_same
          have h45 := same_new (o := .lst ((ws.drop (j + 1)).map V.int)) hq _ _ h4
          generalize upd H4 q (.lst ((ws.drop (j + 1)).map V.int)) = H5 at s5 h5 h45 ⊢
          have h0 : ((ws.drop j).map V.int)[0]? = some (V.int at_) := by
            rw [List.getElem?_map, List.getElem?_drop, Nat.add_zero, hj]
            rfl
          refine ⟨q, _, rfl, .inr (SqL.of h5), _, rfl, p, _, 0, V.int at_, rfl, rfl, SqL.of h45, atI_nat (j := 0) h0, Nat.le_of_lt (len_lt (by simp; omega : _ ≤ 10001)), fun r hr => ?_⟩
          have erot : (ws.drop (j + 1)).map V.int ++ [V.int at_] = ((ws ++ [at_]).drop (j + 1)).map V.int := by
            rw [List.drop_append_of_le_length (by omega), List.map_append]
            rfl
          rw [erot]
          have s6 := s5.upd_new (o := .lst (((ws ++ [at_]).drop (j + 1)).map V.int)) hr
          have h6 : upd H5 r (.lst (((ws ++ [at_]).drop (j + 1)).map V.int)) r = some (.lst (((ws ++ [at_]).drop (j + 1)).map V.int)) := upd_same
          have h46 := same_new (o := .lst (((ws ++ [at_]).drop (j + 1)).map V.int)) hr _ _ h45
          generalize upd H5 r (.lst (((ws ++ [at_]).drop (j + 1)).map V.int)) = H6 at s6 h6 h46 ⊢
          refine ⟨p, r, _, _, rfl, SqL.of h46, SqL.of h6, fun Dz hDz => ?_⟩
          refine lc_it (walk_zipN (l := true) (xs := (ws.drop j).map V.int) (ys := ((ws ++ [at_]).drop (j + 1)).map V.int) (by simp)) (fun m H' => LcP H6 Dz ((((ringP ws at_ j).take m).map fun e => (look B e).getD 0).map V.int) H') (LcP.start hDz)
            (fun m H' _ z => ⟨SqL.of (z.1 _ _ h46), SqL.of (z.1 _ _ h6)⟩) ?_ ?_
          · rintro m x H7 H8 hm zz ⟨T1, x1, y1, rfl, hT, rfl, hx1, hy1⟩
            obtain ⟨x1, hx1', rfl⟩ := map_at hx1
            obtain ⟨y1, hy1', rfl⟩ := map_at hy1
            have hpr : (ringP ws at_ j)[m]? = some (x1, y1) := by
              unfold ringP
              rw [List.getElem?_zip_eq_some]
              exact ⟨hx1', hy1'⟩
            obtain ⟨zv, hzv⟩ := hall _ (List.mem_of_getElem? hpr)
            have zz2 := zz.keeps (same_new (o := .tup [V.int x1, V.int y1]) hT)
            refine ⟨rfl, _, rfl, _, rfl, db, .int zv, rfl, get_bd (p := (x1, y1)) (.inl (zz2.1 _ _ (s6 _ _ hb3))) upd_same hzv, ?_⟩
            refine zz2.put hDz (len_lt (by rw [List.length_map, List.length_map, List.length_take]; rw [List.length_map, List.length_drop] at hm; omega : _ ≤ 10)) ?_
            rw [take_snoc hpr, List.map_append, List.map_append]
            simp only [List.map_singleton, hzv, Option.getD_some]
          · intro H7 zz
            rw [List.take_of_length_le (by unfold ringP; rw [List.length_zip, List.length_map]; omega)] at zz
            refine ⟨Dz, _, rfl, SqL.of zz.2, _, _, rfl, rfl, _, rfl, ?_⟩
            have sAll : Same H H7 := ((s0.trans s2).trans z.1).trans (s6.trans zz.1)
            refine ite2 (fun hlt => ?_) (fun _ => ?_)
            · exact ⟨_, rfl, k _ H7 sAll (.inr ⟨p, rfl, hneg (of_decide_eq_true hlt)⟩)⟩
            · exact ⟨_, _, _, _, _, rfl, (s2.trans z.1).trans (s6.trans zz.1)⟩
        · rw [decide_eq_false hm]
          refine iteT ⟨_, rfl, .inl ⟨rfl, _, SqL.of z.2⟩, _, rfl, Lw, _, _, rfl, rfl, z.2, len_lt (by rw [List.length_map]; omega : _ ≤ 10), ?_⟩
          have hds : upd H3 Lw (.lst (ws.map V.int ++ [V.int at_])) ds = some (.dK (kvS S)) := by
            rw [upd_ne (ne_of hs3 z.2 (by intro z; cases z))]
            exact hs3
          refine ⟨_, rfl, _, rfl, ds, .int b, rfl, (by rw [← e]; exact DGet.k (k := Sum.inl at_) hds), ⟨ws ++ [at_], b, rfl, ⟨z.1.upd_own hLw, ?_⟩, c.snoc e, ?_, ?_⟩, ?_⟩
          · rw [upd_same, List.map_append]
            rfl
          · rw [List.nodup_append]
            exact ⟨nw, by simp, fun x hx y hy => by rw [List.mem_singleton] at hy; subst hy; intro hxy; subst hxy; exact hm hx⟩
          · intro x hx
            rcases List.mem_append.mp hx with hx | hx
            · exact rg x hx
            · rw [List.mem_singleton] at hx
              subst hx
              exact ⟨b, e⟩
          · rw [upd_same, z.2]
            simp only [List.length_append, List.length_map, List.length_singleton]
            omega
    · rintro σ H3 Q1 Q2 hq ⟨v, e1, v2, e2, a, o, e3, g, k, e4, h⟩
      refine ⟨v, e1, v2, e2, a, o, e3, g, k, e4, ?_⟩
      by_cases hk : k = true
      · rw [if_pos hk] at h ⊢
        obtain ⟨v3, e5, v4, e6, p, xs, e7, h8, h9, h10, k2, e11, h12⟩ := h
        exact ⟨v3, e5, v4, e6, p, xs, e7, h8, h9, h10, k2, e11, hq _ _ h12⟩
      · rw [if_neg hk] at h ⊢
        exact hq _ _ h
  · rintro σ H2 ⟨o2, o3, o4, o5, o6, rfl, s2⟩
    exact k .non H2 (s0.trans s2) (.inl rfl)
end
end Bw

/-! Rings: the rounds. -/
namespace Bw
open PySem PySem.Spec PyProof.Rows L2
theorem len_put_in {κ : Type} [DecidableEq κ] {kvs : List (κ × V)} {k : κ} {v y : V} (h : valV kvs k = some y) : (putK kvs k v).length = kvs.length := by
  unfold putK
  rw [valV_any, h, if_pos (show (some y).isSome = true from rfl), List.length_map]
/-- every point has a level -/
def LvOk (n : Int) (kl : List (Key × V)) : Prop := (∀ a : Int, 0 ≤ a → a ≤ n → ∃ z, valV kl (Sum.inl a : Key) = some (V.int z)) ∧ kl.length ≤ 10
theorem LvOk.put {n : Int} {kl : List (Key × V)} (h : LvOk n kl) {a : Int} (z : Int) (h0 : 0 ≤ a) (h1 : a ≤ n) : LvOk n (putK kl (Sum.inl a) (V.int z)) := by
  obtain ⟨y, hy⟩ := h.1 a h0 h1
  refine ⟨fun b b0 b1 => ?_, by rw [len_put_in hy]; exact h.2⟩
  rw [valV_put]
  by_cases hb : (Sum.inl b : Key) = Sum.inl a
  · rw [if_pos hb]
    exact ⟨z, rfl⟩
  · rw [if_neg hb]
    exact h.1 b b0 b1
theorem StOk.put {n : Int} {B : Bd} {S S' : List (Int × Int)} {a b z : Int} (ok : StOk n B S) (e : putK (kvS S) (Sum.inl a : Key) (V.int b) = kvS S') (h0 : 0 ≤ a) (h1 : a ≤ n) (hz : look B (a, b) = some z) : StOk n B S' := by
  intro x y hxy
  unfold St1 at hxy
  rw [← e, valV_put] at hxy
  by_cases hx : (Sum.inl x : Key) = Sum.inl a
  · rw [if_pos hx] at hxy
    injection hx with hx
    subst hx
    cases hxy
    exact ⟨h0, h1, z, hz⟩
  · rw [if_neg hx] at hxy
    exact ok x y hxy
def spRingOf : Sp := fun vs H Q _ => ∃ (ln db : Addr) (n : Int) (B : Bd), vs = [.ref ln, .ref db] ∧ H ln = some (.lst ((List.range (n + 1).toNat).map fun (i : Nat) => V.int (i : Int))) ∧ H db = some (.dT (kvT B)) ∧ 1 ≤ n ∧ n ≤ 3 ∧ Good n B ∧ ∀ v H', Same H H' → RingIs (fn B) v → Q v H'
def spRing (C : Addr) : Sp := fun vs H Q _ => ∃ (p : Addr) (n : Int) (f : Fn), vs = [.ref p] ∧ TabAt C H p n f ∧ ∀ v H', Same H H' → RingIs f v → Q v H'
section
variable {P : Program} {w : World} {K : PySem.W.Frag} {mg : Str → Option Value} {base : Heap} {C : Addr}
theorem ok_ring_of (T : Txt K mg C) (pR : Prom P w K mg base "ring_from" 1 ["steps", "bounds"] spRingFrom) (D : Def K mg "ring_of" s_ring_of ["nodes", "bounds"]) : Prom P w K mg base "ring_of" 2 ["nodes", "bounds"] spRingOf := by
  refine D.ok sc_ring_of (fun vs H Q E h => by obtain ⟨ln, db, n, B, rfl, _⟩ := h; rfl) (fun f cdv A outer s H vs Q E hr h => ?_)
  obtain ⟨ln, db, n, B, rfl, hn, hb, n1, n3, g, k⟩ := h
  have nd := sc_ring_of.nd
  have hu := hu_of hr
  refine ⟨_, pss_cons (ps_par (i := 2) (j := 3) rfl nd rfl rfl (by decide) rfl rfl (pa_cons (pe_dcA (own := [("node", 10)]) (g := gName 10) (tt := tYes) hr.units0 rfl nd (pi_list (pv 0))
        (blkOk_by (N := ["nodes", "bounds", "levels", "steps", "turn", "is_still", "a", "b", "bound", "found", "node"]) (sc := defScope s_ring_of) (by decide +kernel)) (fun _ _ _ _ _ => ⟨pg_name (i := 10) nd rfl (Or.inl rfl), pts_nil, pv 10, pe_int⟩)) (pa_cons pe_dnewK pa_nil)) (by rfl))
    (pss_cons (ps_for PassesOwn.never rfl (pi_range1 (by rfl) T.b_range (pa_cons (pe_op op_add (pe_callB call_len_seq (by rfl) T.b_len PySem.boot_len (pa_cons (pv 0) pa_nil)) pe_int) pa_nil)) (pg_name (i := 4) nd rfl (Or.inl rfl))
      (pss_cons (ps_set (i := 5) nd rfl (.inl rfl) pe_bl)
      (pss_cons (ps_lock (ps_for PassesOwn.never rfl (pi_pairs (pv 1)) (pg_tup rfl (pgs_cons (pg_tup rfl (pgs_cons (pg_name (i := 6) nd rfl (Or.inl rfl)) (pgs_cons (pg_name (i := 7) nd rfl (Or.inl rfl)) pgs_nil))) (pgs_cons (pg_name (i := 8) nd rfl (Or.inl rfl)) pgs_nil)))
        (pss_one (ps_if (pt_cmpR op_lt (pe_op op_add (pe_dget hu (pv 2) (pv 7) (fun _ _ => rfl)) (pv 8)) (pe_dget hu (pv 2) (pv 6) (fun _ _ => rfl)) (nomark _))
          (pss_cons (ps_dput hu (pv 2) (pv 6) (pe_op op_add (pe_dget hu (pv 2) (pv 7) (fun _ _ => rfl)) (pv 8)) rfl)
          (pss_cons (ps_dput hu (pv 3) (pv 6) (pv 7) rfl)
          (pss_one (ps_set (i := 5) nd rfl (.inl rfl) pe_bl)))) pss_nil))))
      (pss_cons (ps_if (pt_val (pv 5)) (pss_one (ps_ret pe_non)) pss_nil)
      (pss_cons (ps_set (i := 9) nd rfl (.inl rfl) (pe_p pR hr (by rfl) (pa_cons (pv 3) (pa_cons (pv 1) pa_nil))))
      (pss_one (ps_if (pt_cmp (pc_notN (pv 9))) (pss_one (ps_ret (pv 9))) pss_nil)))))))
    (pss_one (ps_ret pe_non))), ?_⟩
  have lenN : ((List.range (n + 1).toNat).map fun (i : Nat) => V.int (i : Int)).length = (n + 1).toNat := by simp
  refine ⟨_, rfl, ln, rfl, ⟨_, SqL.of hn⟩, .dK [], .inl rfl, fun dl hdl => ?_⟩
  refine dc_it (walk_list (K := K) (a := ln) (xs := (List.range (n + 1).toNat).map fun (i : Nat) => V.int (i : Int))) (fun i H' => Same H H' ∧ ∃ kl, H' dl = some (.dK kl) ∧ kl.length ≤ i ∧ ∀ a : Int, 0 ≤ a → a < i → ∃ z, valV kl (Sum.inl a : Key) = some (V.int z))
    ⟨same_new hdl, [], upd_same, Nat.le_refl _, fun a h0 h1 => by omega⟩ (fun i H' _ z => SqL.of (z.1 _ _ hn)) ?_ ?_
  · rintro i x H2 H3 hi ⟨s2, kl, hk, hkl, hkv⟩ ⟨rfl, hx⟩
    rw [lenN] at hi
    have hx' : x = V.int (i : Int) := by
      rw [List.getElem?_map, List.getElem?_range hi] at hx
      exact (Option.some.inj hx).symm
    subst hx'
    refine ⟨rfl, _, rfl, _, DPut.k (k := Sum.inl (i : Int)) hk (len_lt (by omega : _ ≤ 10)), s2.upd_own hdl, _, upd_same, Nat.le_trans (length_putK _ _ _) (by omega), fun a h0 h1 => ?_⟩
    rw [valV_put]
    by_cases ha : (Sum.inl a : Key) = Sum.inl (i : Int)
    · rw [if_pos ha]
      exact ⟨0, rfl⟩
    · rw [if_neg ha]
      refine hkv a h0 ?_
      have : a ≠ i := fun z => ha (by rw [z])
      omega
  rintro H2 ⟨s2, kl, hk, hkl, hkv⟩
  rw [lenN] at hkl hkv
  have lok : LvOk n kl := ⟨fun a h0 h1 => hkv a h0 (by omega), by omega⟩
  intro ds hds
  have s3 := s2.upd_new (o := .dK []) hds
  have k3 := same_new (o := .dK []) hds _ _ hk
  have d3 : upd H2 ds (.dK []) ds = some (.dK (kvS [])) := upd_same
  have fds : H ds = none := s2.free hds
  have nls : dl ≠ ds := ne_of_none hk hds
  clear hkl hkv
  generalize upd H2 ds (.dK []) = H3 at s3 k3 d3 ⊢
  refine ⟨_, _, rfl, ?_⟩
  refine ⟨_, rfl, ln, _, rfl, .inl (SqL.of (s3 _ _ hn)), _, _, rfl, rfl, n + 2, ?_, by omega, by omega, ?_⟩
  · rw [lenN]
    show [V.int (((n + 1).toNat : Int) + 1)] ++ [] = _
    rw [show (((n + 1).toNat : Nat) : Int) + 1 = n + 2 by omega]
    rfl
  refine for_it walk_rg (fun i σ H' => ∃ o4 o5 o6 o7 o8 o9, σ = [some (.ref ln), some (.ref db), some (.ref dl), some (.ref ds), o4, o5, o6, o7, o8, o9, none] ∧ Same H H' ∧ ∃ kl S, H' dl = some (.dK kl) ∧ LvOk n kl ∧ H' ds = some (.dK (kvS S)) ∧ StOk n B S ∧ S.length ≤ 16 * i)
    ⟨_, _, _, _, _, _, rfl, s3, kl, [], k3, lok, d3, fun a b h => (nomatch h), Nat.le_refl _⟩ (fun _ _ _ _ _ => trivial) ?_ ?_
  · rintro i x σ H4 H5 hi ⟨o4, o5, o6, o7, o8, o9, rfl, s4, kl, S, h4, lok, h5, sok, hS⟩ ⟨rfl, rfl⟩
    have hb4 := s4 _ _ hb
    refine ⟨db, _, hb4, trivial, fun od => ⟨_, rfl, db, od, _, rfl, upd_same, ?_⟩⟩
    have nlb : dl ≠ db := (ne_of_none hb hdl).symm
    have nsb : ds ≠ db := (ne_of_none hb fds).symm
    have s6 : Same (upd H db (.frz od (.dT (kvT B)))) (upd H5 db (.frz od (.dT (kvT B)))) := fun b o e => by
      by_cases hbd : b = db
      · subst hbd
        rw [upd_same] at e ⊢
        exact e
      · rw [upd_ne hbd] at e ⊢
        exact s4 _ _ e
    have fl : upd H db (.frz od (.dT (kvT B))) dl = none := by rw [upd_ne nlb]; exact hdl
    have fs : upd H db (.frz od (.dT (kvT B))) ds = none := by rw [upd_ne nsb]; exact fds
    have hf : upd H db (.frz od (.dT (kvT B))) db = some (.frz od (.dT (kvT B))) := upd_same
    have l6 : upd H5 db (.frz od (.dT (kvT B))) dl = some (.dK kl) := by rw [upd_ne nlb]; exact h4
    have t6 : upd H5 db (.frz od (.dT (kvT B))) ds = some (.dK (kvS S)) := by rw [upd_ne nsb]; exact h5
    generalize hHf : upd H db (.frz od (.dT (kvT B))) = Hf at s6 fl fs hf
    generalize upd H5 db (.frz od (.dT (kvT B))) = H6 at s6 l6 t6 ⊢
    refine for_it walk_pairs (fun j σ H' => ∃ st o6 o7 o8, σ = [some (.ref ln), some (.ref db), some (.ref dl), some (.ref ds), some (.int (i : Int)), some (.bl st), o6, o7, o8, o9, none] ∧ Same Hf H' ∧
      ∃ kl S, H' dl = some (.dK kl) ∧ LvOk n kl ∧ H' ds = some (.dK (kvS S)) ∧ StOk n B S ∧ S.length ≤ 16 * i + j)
      ⟨true, _, _, _, rfl, s6, kl, S, l6, lok, t6, sok, hS⟩ (fun j σ H' _ ⟨_, _, _, _, _, z, _⟩ => z _ _ hf) ?_ ?_
    · rintro j x σ H7 H8 hj ⟨st, p6, p7, p8, rfl, s7, kl, S, h7, lok, t7, sok, hS⟩ ⟨T1, k1, v1, q, e1, rfl, hq, hT, rfl⟩
      obtain ⟨pt, zz, e2, rfl, hq⟩ := kvT_at e1 hq
      have hm : 0 ≤ pt.1 ∧ pt.1 ≤ n ∧ 0 ≤ pt.2 ∧ pt.2 ≤ n := g.rg _ (List.mem_of_getElem? e2)
      have lk : look B (pt.1, pt.2) = some zz := look_of_mem g.nd (List.mem_of_getElem? e2)
      rw [kvT_len] at hj
      have gl := g.len n3
      have s8 := same_new (o := .tup [.ref q, V.int zz]) hT
      have s78 : Same Hf (upd H7 T1 (.tup [.ref q, V.int zz])) := s7.trans s8
      have h8 := s8 _ _ h7
      have t8 := s8 _ _ t7
      have hq8 := s8 _ _ hq
      have hT8 : upd H7 T1 (.tup [.ref q, V.int zz]) T1 = some (.tup [.ref q, V.int zz]) := upd_same
      obtain ⟨za, hza⟩ := lok.1 pt.1 hm.1 hm.2.1
      obtain ⟨zb, hzb⟩ := lok.1 pt.2 hm.2.2.1 hm.2.2.2
      refine ⟨T1, _, rfl, SqT.of hT8, rfl, _, _, rfl, ⟨q, _, rfl, SqT.of hq8, rfl, _, _, rfl, _, _, rfl, rfl, _, _, rfl, rfl, ?_⟩⟩
      generalize upd H7 T1 (.tup [.ref q, V.int zz]) = H8 at s78 h8 t8 ⊢
      have gb : DGet H8 dl (.int pt.2) (some (.int zb)) := by rw [← hzb]; exact DGet.k (k := Sum.inl pt.2) h8
      have ga : DGet H8 dl (.int pt.1) (some (.int za)) := by rw [← hza]; exact DGet.k (k := Sum.inl pt.1) h8
      refine ⟨_, rfl, _, rfl, dl, .int zb, rfl, gb, _, rfl, _, _, rfl, rfl, _, rfl, _, rfl, dl, .int za, rfl, ga, _, _, rfl, rfl, _, rfl, ?_⟩
      refine ite2 (fun _ => ?_) (fun _ => ?_)
      · refine ⟨_, rfl, _, rfl, dl, .int zb, rfl, gb, _, rfl, _, _, rfl, rfl, _, rfl, _, rfl, dl, _, rfl, DPut.k (k := Sum.inl pt.1) h8 (len_lt lok.2), ?_⟩
        have t9 : upd H8 dl (.dK (putK kl (Sum.inl pt.1) (V.int (zb + zz)))) ds = some (.dK (kvS S)) := by rw [upd_ne nls.symm]; exact t8
        obtain ⟨S', hS'⟩ := putK_kvS S pt.1 pt.2
        refine ⟨_, rfl, _, rfl, _, rfl, ds, _, rfl, DPut.k (k := Sum.inl pt.1) t9 (len_lt (by unfold kvS; rw [List.length_map]; omega : _ ≤ 1000)), ?_⟩
        refine ⟨false, _, _, _, rfl, (s78.upd_own fl).upd_own fs, _, S', ?_, lok.put (zb + zz) hm.1 hm.2.1, ?_, sok.put hS' hm.1 hm.2.1 lk, ?_⟩
        · rw [upd_ne nls, upd_same]
        · rw [upd_same, hS']
        · have := length_putK (kvS S) (Sum.inl pt.1) (V.int pt.2)
          rw [hS'] at this
          unfold kvS at this
          rw [List.length_map, List.length_map] at this
          omega
      · exact ⟨st, _, _, _, rfl, s78, kl, S, h8, lok, t8, sok, by omega⟩
    · rintro σ H7 ⟨st, p6, p7, p8, rfl, s7, kl, S, h7, lok, t7, sok, hS⟩
      rw [kvT_len] at hS
      have gl := g.len n3
      refine ⟨s7 _ _ hf, ?_⟩
      have s8 : Same H (upd H7 db (.dT (kvT B))) := Same.lock (od := od) hb (by rw [hHf]; exact s7)
      have h8 : upd H7 db (.dT (kvT B)) dl = some (.dK kl) := by rw [upd_ne nlb]; exact h7
      have t8 : upd H7 db (.dT (kvT B)) ds = some (.dK (kvS S)) := by rw [upd_ne nsb]; exact t7
      generalize upd H7 db (.dT (kvT B)) = H8 at s8 h8 t8 ⊢
      refine ⟨_, rfl, st, rfl, ?_⟩
      cases st with
      | true => exact iteT (k .non H8 s8 (.inl rfl))
      | false =>
        refine iteF ⟨_, rfl, _, rfl, ds, db, n, S, B, rfl, t8, s8 _ _ hb, n3, sok, fun v H9 s9 hv => ⟨_, rfl, _, rfl, ?_⟩⟩
        rcases hv with rfl | ⟨q, rfl, no⟩
        · exact iteF ⟨_, _, _, _, _, _, rfl, s8.trans s9, kl, S, s9 _ _ h8, lok, s9 _ _ t8, sok, by omega⟩
        · exact iteT ⟨_, rfl, k _ H9 (s8.trans s9) (.inr ⟨q, rfl, no⟩)⟩
  · rintro σ H4 ⟨o4, o5, o6, o7, o8, o9, rfl, s4, _⟩
    exact k .non H4 s4 (.inl rfl)
theorem ok_ring (T : Txt K mg C) (pN : Prom P w K mg base "need_table" 1 ["table"] (spNeed1 C)) (pR : Prom P w K mg base "ring_of" 2 ["nodes", "bounds"] spRingOf) (D : Def K mg "ring" s_ring ["table"]) : Prom P w K mg base "ring" 3 ["table"] (spRing C) := by
  refine D.ok sc_ring (fun vs H Q E h => by obtain ⟨p, n, f, rfl, _⟩ := h; rfl) (fun f cdv A outer s H vs Q E hr h => ?_)
  obtain ⟨p, n, f, rfl, ⟨dx, d, B, h1, h2, g, dm, n1, n3, rfl⟩, k⟩ := h
  refine ⟨_, pss_cons (ps_expr (pe_p pN (hr.mono (by decide)) (by rfl) (pa_cons (pv 0) pa_nil)))
    (pss_one (ps_ret (pe_p pR hr (by rfl) (pa_cons (pe_listRg rfl (by rfl) T.b_list (prg_1 (by rfl) T.b_range (pe_op op_add (pe_fld (pv 0) rfl) pe_int))) (pa_cons (pe_fld (pv 0) rfl) pa_nil))))), ?_⟩
  refine ⟨_, rfl, p, dx, _, rfl, h1, _, rfl, p, C, dx, _, _, rfl, h1, T.cl, T.nS, flds_size _ _, _, _, rfl, rfl, n + 1, rfl, RgOk.of_le (Int.le_refl _) (by omega) (by decide) (by omega), fun q hq => ?_⟩
  have sq := same_new (o := .lst (rgV 0 (n + 1))) hq
  refine ⟨_, rfl, p, C, dx, _, _, rfl, sq _ _ h1, T.cl, T.nB, flds_bounds _ _, q, d, n, B, rfl, ?_, sq _ _ h2, n1, n3, g, fun v H' s' hv => k v H' (sq.trans s') hv⟩
  rw [upd_same]
  unfold rgV
  rw [show (n + 1 - 0) = n + 1 by omega]
  congr 2
  refine List.map_congr_left fun i _ => ?_
  rw [Int.zero_add]
end
end Bw

/-! The script's state: begun, drawn from, picked by. -/
namespace Bw
open PySem PySem.Spec PyProof.Rows L2
theorem mod_rng {i m : Int} (h : 0 < m) : 0 ≤ i % m ∧ i % m < m := ⟨Int.emod_nonneg i (by omega), Int.emod_lt_of_pos i h⟩
/-! ### the state -/
def kL : Key := Sum.inr "large"
def kC : Key := Sum.inr "cells"
def kR : Key := Sum.inr "rest"
def kT : Key := Sum.inr "turn"
theorem kLC : kL ≠ kC := by decide +kernel
theorem kLR : kL ≠ kR := by decide +kernel
theorem kLT : kL ≠ kT := by decide +kernel
theorem kCR : kC ≠ kR := by decide +kernel
theorem kCT : kC ≠ kT := by decide +kernel
theorem kRT : kR ≠ kT := by decide +kernel
def stK (la ca : Addr) (r t : Int) : List (Key × V) := [(kL, .ref la), (kC, .ref ca), (kR, .int r), (kT, .int t)]
theorem stK_L (la ca : Addr) (r t : Int) : valV (stK la ca r t) kL = some (.ref la) := valV_pos rfl
theorem stK_C (la ca : Addr) (r t : Int) : valV (stK la ca r t) kC = some (.ref ca) := (valV_neg kLC).trans (valV_pos rfl)
theorem stK_R (la ca : Addr) (r t : Int) : valV (stK la ca r t) kR = some (.int r) := (valV_neg kLR).trans ((valV_neg kCR).trans (valV_pos rfl))
theorem stK_T (la ca : Addr) (r t : Int) : valV (stK la ca r t) kT = some (.int t) := (valV_neg kLT).trans ((valV_neg kCT).trans ((valV_neg kRT).trans (valV_pos rfl)))
theorem stK_putR (la ca : Addr) (r t r' : Int) : putK (stK la ca r t) kR (.int r') = stK la ca r' t := by
  unfold putK
  rw [valV_any, stK_R, if_pos (show (some (V.int r)).isSome = true from rfl)]
  unfold stK
  simp [kLR, kCR, kRT.symm]
theorem stK_putT (la ca : Addr) (r t t' : Int) : putK (stK la ca r t) kT (.int t') = stK la ca r t' := by
  unfold putK
  rw [valV_any, stK_T, if_pos (show (some (V.int t)).isSome = true from rfl)]
  unfold stK
  simp [kLT, kCT, kRT]
theorem stK_made (la ca : Addr) : putK (putK (putK (putK [] kL (.ref la)) kC (.ref ca)) kR (.int 0)) kT (.int 0) = stK la ca 0 0 := by
  have e1 : putK ([] : List (Key × V)) kL (.ref la) = [(kL, .ref la)] := rfl
  have e2 : putK [(kL, V.ref la)] kC (.ref ca) = [(kL, .ref la), (kC, .ref ca)] := putK_new _ ((valV_neg kLC).trans valV_nil)
  have e3 : putK [(kL, V.ref la), (kC, V.ref ca)] kR (.int 0) = [(kL, .ref la), (kC, .ref ca), (kR, .int 0)] := putK_new _ ((valV_neg kLR).trans ((valV_neg kCR).trans valV_nil))
  have e4 : putK [(kL, V.ref la), (kC, V.ref ca), (kR, V.int 0)] kT (.int 0) = stK la ca 0 0 := putK_new _ ((valV_neg kLT).trans ((valV_neg kCT).trans ((valV_neg kRT).trans valV_nil)))
  rw [e1, e2, e3, e4]
/-- the state stands at p, its lists at la, ca; at most t turns were taken -/
def StAt (H : Hp) (p la ca : Addr) (t : Int) : Prop := la ≠ ca ∧ ∃ (r u : Int) (ls cs : List Int), H p = some (.dK (stK la ca r u)) ∧ H la = some (.lst (ls.map V.int)) ∧ H ca = some (.lst (cs.map V.int)) ∧ 0 ≤ u ∧ u ≤ t
/-- all but the state's two stays -/
def Btw (p la : Addr) (H H' : Hp) : Prop := ∀ b o, H b = some o → b ≠ p → b ≠ la → H' b = some o
theorem Btw.refl {p la : Addr} {H : Hp} : Btw p la H H := fun _ _ e _ _ => e
theorem Btw.trans {p la : Addr} {H H1 H2 : Hp} (a : Btw p la H H1) (b : Btw p la H1 H2) : Btw p la H H2 := fun c o e x y => b c o (a c o e x y) x y
theorem Same.btw {p la : Addr} {H H' : Hp} (s : Same H H') : Btw p la H H' := fun c o e _ _ => s c o e
theorem Btw.new {p la q : Addr} {H H' : Hp} {o : HO} (b : Btw p la H H') (h : H' q = none) : Btw p la H (upd H' q o) := b.trans (Same.btw (same_new h))
theorem Btw.putP {p la : Addr} {H H' : Hp} {o : HO} (b : Btw p la H H') : Btw p la H (upd H' p o) := fun c u e x y => by
  rw [upd_ne x]
  exact b c u e x y
theorem Btw.putL {p la : Addr} {H H' : Hp} {o : HO} (b : Btw p la H H') : Btw p la H (upd H' la o) := fun c u e x y => by
  rw [upd_ne y]
  exact b c u e x y
theorem StAt.keeps {H H' : Hp} {p la ca : Addr} {t : Int} (h : StAt H p la ca t) (s : Same H H') : StAt H' p la ca t := by
  obtain ⟨hn, r, u, ls, cs, h1, h2, h3, h4⟩ := h
  exact ⟨hn, r, u, ls, cs, s _ _ h1, s _ _ h2, s _ _ h3, h4⟩
theorem StAt.mono {H : Hp} {p la ca : Addr} {t t' : Int} (h : StAt H p la ca t) (l : t ≤ t') : StAt H p la ca t' := by
  obtain ⟨hn, r, u, ls, cs, h1, h2, h3, h4, h5⟩ := h
  exact ⟨hn, r, u, ls, cs, h1, h2, h3, h4, by omega⟩
/-- what is neither a dict of the state's kind nor a list is none of the state's two -/
theorem StAt.ne {H : Hp} {p la ca b : Addr} {t : Int} {o : HO} (h : StAt H p la ca t) (e : H b = some o) (n1 : ∀ kvs, o ≠ .dK kvs) (n2 : ∀ xs, o ≠ .lst xs) : b ≠ p ∧ b ≠ la := by
  obtain ⟨hn, r, u, ls, cs, h1, h2, h3, h4, h5⟩ := h
  exact ⟨fun z => by subst z; rw [e] at h1; exact n1 _ (Option.some.inj h1), fun z => by subst z; rw [e] at h2; exact n2 _ (Option.some.inj h2)⟩
theorem Btw.tab {C : Addr} {H H' : Hp} {p la ca q : Addr} {t n : Int} {f : Fn} (b : Btw p la H H') (h : StAt H p la ca t) (tb : TabAt C H q n f) : TabAt C H' q n f := by
  obtain ⟨dx, d, B, h1, h2, r⟩ := tb
  have e1 := h.ne h1 (fun _ z => by cases z) (fun _ z => by cases z)
  have e2 := h.ne h2 (fun _ z => by cases z) (fun _ z => by cases z)
  exact ⟨dx, d, B, b _ _ h1 e1.1 e1.2, b _ _ h2 e2.1 e2.2, r⟩
def spBegun (K : PySem.W.Frag) : Sp := fun vs H Q _ => ∃ (a : Addr) (ns : List Int), vs = [.ref a] ∧ SqL K H a (ns.map V.int) ∧ ns.length ≤ 63 ∧ ∀ p la ca H', Same H H' → H p = none → H la = none → StAt H' p la ca 0 → Q (.ref p) H'
def spDraw : Sp := fun vs H Q _ => ∃ (p la ca : Addr) (t m : Int), vs = [.ref p, .int m] ∧ StAt H p la ca t ∧ t ≤ 100000 ∧ 1 ≤ m ∧ m < 1073741824 ∧
  ∀ r H', 0 ≤ r → r < m → Btw p la H H' → StAt H' p la ca (t + 1) → Q (.int r) H'
def spPick : Sp := fun vs H Q _ => ∃ (p la ca l : Addr) (t : Int) (xs : List Int), vs = [.ref p, .ref l] ∧ StAt H p la ca t ∧ t ≤ 100000 ∧ H l = some (.lst (xs.map V.int)) ∧ l ≠ la ∧ 1 ≤ xs.length ∧ xs.length ≤ 100 ∧
  ∀ x H', x ∈ xs → Btw p la H H' → StAt H' p la ca (t + 1) → Q (.int x) H'
theorem eqv_nil (xs : List Int) : PyData.eqv (.list (xs.map PyData.int)) (.list []) = decide (xs = []) := by
  cases xs with
  | nil => rfl
  | cons x r => rfl
theorem dp_ints {K : PySem.W.Frag} {H : Hp} : ∀ xs : List Int, DpAll K H (xs.map V.int) (xs.map PyData.int)
  | [] => .nil
  | x :: r => .cons (.int x) (dp_ints r)
section
variable {P : Program} {w : World} {K : PySem.W.Frag} {mg : Str → Option Value} {base : Heap} {C : Addr}
theorem ok_law_begun (T : Txt K mg C) (D : Def K mg "_law_begun" s__law_begun ["_law_script"]) : Prom P w K mg base "_law_begun" 1 ["_law_script"] (spBegun K) := by
  refine D.ok sc__law_begun (fun vs H Q E h => by obtain ⟨a, ns, rfl, _⟩ := h; rfl) (fun f cdv A outer s H vs Q E hr h => ?_)
  obtain ⟨a, ns, rfl, ha, hl, k⟩ := h
  have nd := sc__law_begun.nd
  refine ⟨_, pss_cons (ps_setLc (i := 1) (own := [("_law_cell", 2)]) (g := gName 2) (tt := tYes) rfl nd rfl rfl (sw_true rfl rfl rfl (by decide +kernel)) (pi_list (pv 0)) (blkOk_by (N := ["_law_script", "_law_cells", "_law_cell"]) (sc := defScope s__law_begun) (by decide +kernel))
      (fun _ _ _ _ _ => pg_name (i := 2) nd rfl (Or.inl rfl)) (fun _ _ _ _ _ => pts_nil) (fun _ _ _ _ _ => pe_callB call_abs (by rfl) T.b_abs (by decide +kernel) (pa_cons (pv 2) pa_nil)))
    (pss_one (ps_ret (pe_dispA hr.units0 (pps_cons pe_str (pe_lc (own := [("_law_cell", 2)]) (g := gName 2) rfl nd (pi_list (pv 1)) (blkOk_by (N := ["_law_script", "_law_cells", "_law_cell"]) (sc := defScope s__law_begun) (by decide +kernel))
      (fun _ _ _ _ _ => pg_name (i := 2) nd rfl (Or.inl rfl)) (fun _ _ _ _ _ => pts_one (pt_cmpR op_ge (pv 2) (pe_op op_pow pe_int pe_int) (nomark _))) (fun _ _ _ _ _ => pe_op op_sub (pv 2) (pe_op op_pow pe_int pe_int)))
      (pps_cons pe_str (pv 1) (pps_cons pe_str pe_int (pps_cons pe_str pe_int pps_nil)))) rfl rfl (by simp) (by decide)))), ?_⟩
  refine ⟨_, rfl, a, rfl, ⟨_, ha⟩, fun ca hca => ?_⟩
  refine lc_it (walk_list (K := K) (a := a) (xs := ns.map V.int)) (fun i H' => ∃ cs : List Int, LcP H ca (cs.map V.int) H' ∧ cs.length = i) ⟨[], LcP.start hca, rfl⟩ (fun i H' _ ⟨_, z, _⟩ => z.1.seq ha) ?_ ?_
  · rintro i x H1 H2 hi ⟨cs, z, hc⟩ ⟨rfl, hx⟩
    obtain ⟨v, hv, rfl⟩ := map_at hx
    rw [List.length_map] at hi
    refine ⟨rfl, _, rfl, v, rfl, ?_⟩
    obtain ⟨acc, e1, e2, e3⟩ := z.put (y := V.int (if v < 0 then -v else v)) hca (len_lt (by rw [List.length_map]; omega : _ ≤ 63)) rfl
    exact ⟨acc, e1, e2, cs ++ [if v < 0 then -v else v], by rw [List.map_append]; exact e3, by rw [List.length_append, hc]; rfl⟩
  rintro H1 ⟨cs, z, hc⟩
  rw [List.length_map] at hc
  refine ⟨.dK [], .inl rfl, fun p hp => ?_⟩
  have s2 := z.1.upd_new (o := .dK []) hp
  have c2 := same_new (o := .dK []) hp _ _ z.2
  have p2 : upd H1 p (.dK []) p = some (.dK []) := upd_same
  have fp : H p = none := z.1.free hp
  generalize upd H1 p (.dK []) = H2 at s2 c2 p2 ⊢
  refine ⟨_, rfl, ca, rfl, ⟨_, SqL.of c2⟩, fun la hla => ?_⟩
  refine lc_it (walk_list (K := K) (a := ca) (xs := cs.map V.int)) (fun i H' => ∃ ls : List Int, LcP H2 la (ls.map V.int) H' ∧ ls.length ≤ i) ⟨[], LcP.start hla, Nat.le_refl _⟩ (fun i H' _ ⟨_, z, _⟩ => SqL.of (z.1 _ _ c2)) ?_ ?_
  · rintro i x H3 H4 hi ⟨ls, z, hlen⟩ ⟨rfl, hx⟩
    obtain ⟨v, hv, rfl⟩ := map_at hx
    rw [List.length_map] at hi
    refine ⟨rfl, _, rfl, _, _, rfl, rfl, ⟨by decide, by decide, by decide⟩, _, _, rfl, rfl, _, rfl, ?_⟩
    refine ite2 (fun _ => ?_) (fun _ => ?_)
    · refine ⟨_, rfl, _, _, rfl, rfl, ⟨by decide, by decide, by decide⟩, _, _, rfl, rfl, ?_⟩
      obtain ⟨acc, e1, e2, e3⟩ := z.put (y := V.int (v - (10 : Int) ^ (18 : Int).toNat)) hla (len_lt (by rw [List.length_map]; omega : _ ≤ 63)) rfl
      exact ⟨acc, e1, e2, ls ++ [v - (10 : Int) ^ (18 : Int).toNat], by rw [List.map_append]; exact e3, by rw [List.length_append]; exact Nat.add_le_add_right hlen 1⟩
    · exact ⟨ls, z, by omega⟩
  rintro H3 ⟨ls, z3, _⟩
  refine ⟨_, rfl, ?_⟩
  have p3 := z3.1 _ _ p2
  refine ⟨_, DPut.k (k := kL) p3 (len_lt (by decide : 0 ≤ 5)), _, DPut.k (k := kC) upd_same (len_lt (Nat.le_trans (length_putK _ _ _) (by decide) : _ ≤ 5)), _,
    DPut.k (k := kR) upd_same (len_lt (Nat.le_trans (length_putK _ _ _) (Nat.succ_le_succ (Nat.le_trans (length_putK _ _ _) (by decide : _ ≤ 4))) : _ ≤ 5)), _,
    DPut.k (k := kT) upd_same (len_lt (Nat.le_trans (length_putK _ _ _) (Nat.succ_le_succ (Nat.le_trans (length_putK _ _ _) (Nat.succ_le_succ (Nat.le_trans (length_putK _ _ _) (by decide : _ ≤ 4))))) : _ ≤ 6)), ?_⟩
  have nlc : la ≠ ca := (ne_of_none c2 hla).symm
  have npl : p ≠ la := ne_of_none p2 hla
  have npc : p ≠ ca := ne_of p2 c2 (by intro z; cases z)
  refine k p la ca _ (((((s2.trans z3.1).upd_own fp).upd_own fp).upd_own fp).upd_own fp) fp (s2.free hla) ⟨nlc, 0, 0, ls, cs, ?_, ?_, ?_, Int.le_refl _, Int.le_refl _⟩
  · rw [upd_same, stK_made]
  · rw [upd_ne npl.symm, upd_ne npl.symm, upd_ne npl.symm, upd_ne npl.symm]
    exact z3.2
  · rw [upd_ne npc.symm, upd_ne npc.symm, upd_ne npc.symm, upd_ne npc.symm]
    exact z3.1 _ _ c2
end
end Bw

/-! Drawn, picked. -/
namespace Bw
open PySem PySem.Spec PyProof.Rows L2
section
variable {H : Hp} {p la ca : Addr} {r u : Int}
theorem gL (h : H p = some (.dK (stK la ca r u))) : DGet H p (.str "large") (some (.ref la)) := by
  rw [← stK_L la ca r u]
  exact DGet.k (k := kL) h
theorem gC (h : H p = some (.dK (stK la ca r u))) : DGet H p (.str "cells") (some (.ref ca)) := by
  rw [← stK_C la ca r u]
  exact DGet.k (k := kC) h
theorem gR (h : H p = some (.dK (stK la ca r u))) : DGet H p (.str "rest") (some (.int r)) := by
  rw [← stK_R la ca r u]
  exact DGet.k (k := kR) h
theorem gT (h : H p = some (.dK (stK la ca r u))) : DGet H p (.str "turn") (some (.int u)) := by
  rw [← stK_T la ca r u]
  exact DGet.k (k := kT) h
theorem pR (h : H p = some (.dK (stK la ca r u))) (r' : Int) : DPut H p (.str "rest") (.int r') (upd H p (.dK (stK la ca r' u))) := by
  rw [← stK_putR la ca r u r']
  exact DPut.k (k := kR) h (len_lt (by decide : 4 ≤ 5))
theorem pT (h : H p = some (.dK (stK la ca r u))) (u' : Int) : DPut H p (.str "turn") (.int u') (upd H p (.dK (stK la ca r u'))) := by
  rw [← stK_putT la ca r u u']
  exact DPut.k (k := kT) h (len_lt (by decide : 4 ≤ 5))
end
theorem shaped_ints (xs : List Int) : SeqAt.shaped (.list (xs.map PyData.int)) = true := by
  have h1 : ∀ ys : List Int, PyData.canLayAll0 (ys.map PyData.int) = true := fun ys => by
    induction ys with
    | nil => rfl
    | cons y r ih =>
      show (true && PyData.canLayAll0 (r.map PyData.int)) = true
      rw [ih]
      rfl
  have h2 : ∀ ys : List Int, PyData.depthAll (ys.map PyData.int) = 0 := fun ys => by
    induction ys with
    | nil => rfl
    | cons y r ih =>
      show max 0 (PyData.depthAll (r.map PyData.int)) = 0
      rw [ih]
      rfl
  unfold SeqAt.shaped
  rw [Bool.and_eq_true]
  refine ⟨h1 xs, decide_eq_true ?_⟩
  show PyData.depthAll (xs.map PyData.int) + 1 ≤ 64
  rw [h2]
  decide
theorem pow_ok (c : Int) {u : Int} (h0 : 0 ≤ u) (h1 : u ≤ 100000) : (0 : Int) ≤ 3 ∧ (3 : Int) ≤ 1000000 ∧ (c % 2147483563 + 40692 * (u + 1) + 24681).natAbs < 2 ^ 64 := by
  have := mod_rng (i := c) (m := 2147483563) (by decide)
  refine ⟨by decide, by decide, ?_⟩
  omega
theorem pow_ok2 (c : Int) {u : Int} (h0 : 0 ≤ u) (h1 : u ≤ 100000) : (0 : Int) ≤ 5 ∧ (5 : Int) ≤ 1000000 ∧ (c % 2147483629 + 104917 * (u + 1)).natAbs < 2 ^ 64 := by
  have := mod_rng (i := c) (m := 2147483629) (by decide)
  refine ⟨by decide, by decide, ?_⟩
  omega
/-- a while whose way out is shown once -/
theorem while_nx {c : TT} {tb : TS} {D : Ends} {σ : L2.St} {H : Hp} (Pv Po : L2.St → Hp → Prop) (μ : L2.St → Hp → Nat) (h0 : Pv σ H)
    (hs : ∀ σ H, Pv σ H → c σ H fun b H1 => if b = true then tb { D with nx := fun σ' H' => Pv σ' H' ∧ μ σ' H' < μ σ H, ct := fun σ' H' => Pv σ' H' ∧ μ σ' H' < μ σ H, bk := D.nx } σ H1 else Po σ H1)
    (mono : ∀ σ H Q Q', (∀ b H1, Q b H1 → Q' b H1) → c σ H Q → c σ H Q') (ho : ∀ σ H, Po σ H → D.nx σ H) : tWhile c tb D σ H := by
  refine while_by Pv μ h0 (fun σ H p => mono σ H _ _ (fun b H1 q => ?_) (hs σ H p)) mono
  cases b with
  | true => exact q
  | false => exact ho _ _ q
section
variable {P : Program} {w : World} {K : PySem.W.Frag} {mg : Str → Option Value} {base : Heap} {C : Addr}
theorem ok_law_draw (T : Txt K mg C) (D : Def K mg "_law_draw" s__law_draw ["_law_state", "_law_many"]) : Prom P w K mg base "_law_draw" 1 ["_law_state", "_law_many"] spDraw := by
  refine D.ok sc__law_draw (fun vs H Q E h => by obtain ⟨p, la, ca, t, m, rfl, _⟩ := h; rfl) (fun f cdv A outer s H vs Q E hr h => ?_)
  obtain ⟨p, la, ca, t, m, rfl, ⟨nlc, r, u, ls, cs, hp, hla, hca, u0, ut⟩, t1, m1, mN, k⟩ := h
  have nd := sc__law_draw.nd
  have hu := hu_of hr
  refine ⟨_, pss_cons (ps_while PassesOwn.never (PW.pt (pw_and (pt_cmpR op_eq (pe_dget hu (pv 0) pe_str (fun _ _ => rfl)) pe_int (nomark _)) (pw_and1 (pt_cmpR (op_neD hr.units) (pe_dget hu (pv 0) pe_str (fun _ _ => rfl)) (pe_lst pa_nil) (nomark _)))))
      (pss_one (ps_dput hu (pv 0) pe_str (pe_bm PySem.F.plainAttrs_list PySem.F.slot_list_pop PySem.F.type_list_pop mt_popAt (pe_dget hu (pv 0) pe_str (fun _ _ => rfl)) (pa_cons pe_int pa_nil)) rfl)))
    (pss_cons (ps_if (pt_cmpR op_gt (pe_dget hu (pv 0) pe_str (fun _ _ => rfl)) pe_int (nomark _))
      (pss_cons (ps_set (i := 2) nd rfl (.inl rfl) (pe_op op_mod (pe_callTy call_int1 (by rfl) T.b_int (by decide +kernel) (pa_cons (pe_dget hu (pv 0) pe_str (fun _ _ => rfl)) pa_nil)) (pv 1)))
      (pss_cons (ps_dput hu (pv 0) pe_str (pe_op op_fdiv (pe_dget hu (pv 0) pe_str (fun _ _ => rfl)) (pv 1)) rfl)
      (pss_one (ps_ret (pv 2))))) pss_nil)
    (pss_cons (ps_set (i := 3) nd rfl (.inl rfl) (pe_op op_add (pe_dget hu (pv 0) pe_str (fun _ _ => rfl)) pe_int))
    (pss_cons (ps_dput hu (pv 0) pe_str (pv 3) rfl)
    (pss_cons (ps_set (i := 4) nd rfl (.inl rfl) (pe_ifExp (pt_cmpR (op_neD hr.units) (pe_dget hu (pv 0) pe_str (fun _ _ => rfl)) (pe_lst pa_nil) (nomark _))
      (pe_ix ix_list (pe_dget hu (pv 0) pe_str (fun _ _ => rfl)) (pe_op op_mod (pe_callTy call_int1 (by rfl) T.b_int (by decide +kernel) (pa_cons (pv 3) pa_nil)) (pe_callB call_len_seq (by rfl) T.b_len PySem.boot_len (pa_cons (pe_dget hu (pv 0) pe_str (fun _ _ => rfl)) pa_nil))) (fun _ _ => rfl)) pe_int))
    (pss_cons (ps_set (i := 5) nd rfl (.inl rfl) (pe_op op_mod (pe_callTy call_int1 (by rfl) T.b_int (by decide +kernel) (pa_cons (pe_op op_pow (pe_op op_add (pe_op op_add (pe_op op_mod (pe_callTy call_int1 (by rfl) T.b_int (by decide +kernel) (pa_cons (pv 4) pa_nil)) pe_int) (pe_op op_mul pe_int (pv 3))) pe_int) pe_int) pa_nil)) pe_int))
    (pss_one (ps_ret (pe_op op_mod (pe_callTy call_int1 (by rfl) T.b_int (by decide +kernel) (pa_cons (pe_op op_fdiv (pe_op op_mod (pe_callTy call_int1 (by rfl) T.b_int (by decide +kernel) (pa_cons (pe_op op_pow (pe_op op_add (pv 5) (pe_op op_mul pe_int (pv 3))) pe_int) pa_nil)) pe_int) pe_int) pa_nil)) (pv 1))))))))), ?_⟩
  -- what follows the while
  have npc : p ≠ ca := ne_of hp hca (by intro z; cases z)
  have npl : p ≠ la := ne_of hp hla (by intro z; cases z)
  refine while_nx (fun σ H' => σ = [some (.ref p), some (.int m), none, none, none, none] ∧ Btw p la H H' ∧ ∃ (r : Int) (ls : List Int), H' p = some (.dK (stK la ca r u)) ∧ H' la = some (.lst (ls.map V.int)))
    (fun σ H' => σ = [some (.ref p), some (.int m), none, none, none, none] ∧ Btw p la H H' ∧ ∃ (r : Int) (ls : List Int), H' p = some (.dK (stK la ca r u)) ∧ H' la = some (.lst (ls.map V.int)))
    (fun σ H' => match H' la with | some (.lst l) => l.length | _ => 0) ⟨rfl, Btw.refl, r, ls, hp, hla⟩ ?_ ?_ ?_
  · rintro σ H1 ⟨rfl, b1, r, ls, hp, hla⟩
    refine ⟨_, rfl, p, .int r, rfl, gR hp, rfl, _, rfl, ?_⟩
    by_cases h0 : (V.int r) = V.int 0
    · refine iteD h0 ⟨_, rfl, p, .ref la, rfl, gL hp, Nat.zero_le _, fun l hl => ⟨_, _, .lst (SqL.of (same_new hl _ _ hla)) (dp_ints ls), .lst (SqL.of upd_same) .nil, shaped_ints ls, rfl, _, rfl, ?_⟩⟩
      · rw [eqv_nil]
        have b2 := b1.new (o := .lst []) hl
        have hp2 := same_new (o := .lst []) hl _ _ hp
        have hl2 := same_new (o := .lst []) hl _ _ hla
        generalize upd H1 l (.lst []) = H2 at b2 hp2 hl2 ⊢
        cases ls with
        | nil => exact iteF ⟨rfl, b2, r, [], hp2, hl2⟩
        | cons y ls =>
          refine iteT ⟨_, rfl, p, .ref la, rfl, gL hp2, .inl ⟨rfl, _, SqL.of hl2⟩, la, _, 0, 0, .int y, rfl, rfl, hl2, by decide, by decide, ?_, rfl, _, rfl, p, _, rfl, pR (r := r) (u := u) (la := la) (ca := ca) (by rw [upd_ne npl]; exact hp2) y, ⟨rfl, b2.putL.putP, y, ls, upd_same, ?_⟩, ?_⟩
          · simp [seqIndex?]
          · rw [upd_ne npl.symm, upd_same]
            rfl
          · rw [upd_ne npl.symm, upd_same, hla]
            show (ls.map V.int).length < ((y :: ls).map V.int).length
            simp
    · exact iteN h0 (iteF ⟨rfl, b1, r, ls, hp, hla⟩)
  · rintro σ H1 Q1 Q2 hq ⟨v, e1, a, v2, e3, g, e4, k, e5, h⟩
    refine ⟨v, e1, a, v2, e3, g, e4, k, e5, ?_⟩
    by_cases hk : k = true
    · rw [if_pos hk] at h ⊢
      obtain ⟨v, e1, a, v2, e3, g, hz, h⟩ := h
      refine ⟨v, e1, a, v2, e3, g, hz, fun l hl => ?_⟩
      obtain ⟨d, e, h1, h2, h3, h4, k, e5, h⟩ := h l hl
      exact ⟨d, e, h1, h2, h3, h4, k, e5, hq _ _ h⟩
    · rw [if_neg hk] at h ⊢
      exact hq _ _ h
  rintro σ H1 ⟨rfl, b1, r, ls, hp, hla⟩
  have hc1 := b1 _ _ hca npc.symm nlc.symm
  refine ⟨_, rfl, p, .int r, rfl, gR hp, _, _, rfl, rfl, _, rfl, ?_⟩
  refine ite2 (fun _ => ?_) (fun _ => ?_)
  · have rg := mod_rng (i := r) (show 0 < m by omega)
    refine ⟨_, rfl, p, .int r, rfl, gR hp, .inl ⟨_, rfl, _, rfl, _, _, rfl, rfl, (show 0 < m by omega), ?_⟩⟩
    refine ⟨_, rfl, p, .int r, rfl, gR hp, _, rfl, _, _, rfl, rfl, ⟨(show 0 < m by omega), mN⟩, _, rfl, p, _, rfl, pR hp (r / m), ?_⟩
    refine ⟨_, rfl, k (r % m) _ rg.1 rg.2 b1.putP ⟨nlc, r / m, u, ls, cs, upd_same, ?_, ?_, u0, by omega⟩⟩
    · rw [upd_ne npl.symm]
      exact hla
    · rw [upd_ne npc.symm]
      exact hc1
  · refine ⟨_, rfl, p, .int u, rfl, gT hp, _, _, rfl, rfl, ?_⟩
    refine ⟨_, rfl, _, rfl, p, _, rfl, pT hp (u + 1), ?_⟩
    have b2 : Btw p la H (upd H1 p (.dK (stK la ca r (u + 1)))) := b1.putP
    have hp2 : upd H1 p (.dK (stK la ca r (u + 1))) p = some (.dK (stK la ca r (u + 1))) := upd_same
    have hl2 : upd H1 p (.dK (stK la ca r (u + 1))) la = some (.lst (ls.map V.int)) := by rw [upd_ne npl.symm]; exact hla
    have hc2 : upd H1 p (.dK (stK la ca r (u + 1))) ca = some (.lst (cs.map V.int)) := by rw [upd_ne npc.symm]; exact hc1
    generalize upd H1 p (.dK (stK la ca r (u + 1))) = H2 at b2 hp2 hl2 hc2 ⊢
    refine ⟨_, rfl, p, .ref ca, rfl, gC hp2, Nat.zero_le _, fun l hl => ⟨_, _, .lst (SqL.of (same_new hl _ _ hc2)) (dp_ints cs), .lst (SqL.of upd_same) .nil, shaped_ints cs, rfl, _, rfl, ?_⟩⟩
    rw [eqv_nil]
    have b3 := b2.new (o := .lst []) hl
    have hp3 := same_new (o := .lst []) hl _ _ hp2
    have hl3 := same_new (o := .lst []) hl _ _ hl2
    have hc3 := same_new (o := .lst []) hl _ _ hc2
    generalize upd H2 l (.lst []) = H3 at b3 hp3 hl3 hc3 ⊢
    cases cs with
    | nil => 
      refine iteF ?_
      refine ⟨_, rfl, .inl ⟨_, rfl, _, _, rfl, rfl, (show (0 : Int) < 2147483563 by decide), _, rfl, _, _, rfl, rfl, .inl ⟨by decide, by decide⟩, _, _, rfl, rfl, _, _, rfl, rfl, _, _, rfl, rfl, pow_ok _ u0 (by omega), .inl ⟨_, rfl, _, _, rfl, rfl, (show (0 : Int) < 2147483629 by decide), ?_⟩⟩⟩
      refine ⟨_, rfl, _, rfl, _, _, rfl, rfl, .inl ⟨by decide, by decide⟩, _, _, rfl, rfl, _, _, rfl, rfl, pow_ok2 _ u0 (by omega), .inl ⟨_, rfl, _, _, rfl, rfl, (show (0 : Int) < 2147483579 by decide), _, _, rfl, rfl, ⟨by decide, by decide⟩, .inl ⟨_, rfl, _, rfl, _, _, rfl, rfl, (show 0 < m by omega), ?_⟩⟩⟩
      have rg := fun i => mod_rng (i := i) (show 0 < m by omega)
      exact k _ _ (rg _).1 (rg _).2 b3 ⟨nlc, r, u + 1, ls, [], hp3, hl3, hc3, by omega, by omega⟩
    | cons c0 cs =>
      have hmr := mod_rng (i := u + 1) (m := ((c0 :: cs).map V.int).length) (by simp)
      refine iteT ⟨_, rfl, p, .ref ca, rfl, gC hp3, _, rfl, .inl ⟨_, rfl, _, rfl, p, .ref ca, rfl, gC hp3, ca, _, rfl, .inl (SqL.of hc3), _, _, rfl, rfl, (by simp), ca, _, _, _, rfl, rfl, SqL.of hc3, atI_lv hmr.1 (by simpa using hmr.2), ?_⟩⟩
      refine ⟨_, rfl, .inl ⟨_, rfl, _, _, rfl, rfl, (show (0 : Int) < 2147483563 by decide), _, rfl, _, _, rfl, rfl, .inl ⟨by decide, by decide⟩, _, _, rfl, rfl, _, _, rfl, rfl, _, _, rfl, rfl, pow_ok _ u0 (by omega), .inl ⟨_, rfl, _, _, rfl, rfl, (show (0 : Int) < 2147483629 by decide), ?_⟩⟩⟩
      refine ⟨_, rfl, _, rfl, _, _, rfl, rfl, .inl ⟨by decide, by decide⟩, _, _, rfl, rfl, _, _, rfl, rfl, pow_ok2 _ u0 (by omega), .inl ⟨_, rfl, _, _, rfl, rfl, (show (0 : Int) < 2147483579 by decide), _, _, rfl, rfl, ⟨by decide, by decide⟩, .inl ⟨_, rfl, _, rfl, _, _, rfl, rfl, (show 0 < m by omega), ?_⟩⟩⟩
      have rg := fun i => mod_rng (i := i) (show 0 < m by omega)
      exact k _ _ (rg _).1 (rg _).2 b3 ⟨nlc, r, u + 1, ls, c0 :: cs, hp3, hl3, hc3, by omega, by omega⟩
end
end Bw

/-! Picked, caps, waters. -/
namespace Bw
open PySem PySem.Spec PyProof.Rows L2
theorem lv_mem {xs : List Int} {r : Int} (h0 : 0 ≤ r) (h1 : r < xs.length) : lv xs r ∈ xs := by
  unfold lv
  have h : r.toNat < xs.length := by omega
  rw [List.getElem?_eq_getElem h]
  exact List.getElem_mem h
theorem Btw.own {p la d : Addr} {H H' : Hp} {o : HO} (b : Btw p la H H') (h : H d = none) : Btw p la H (upd H' d o) := fun c u e x y => by
  rw [upd_ne (ne_of_none e h)]
  exact b c u e x y
theorem op_catAK {X : Cx} {K : PySem.W.Frag} (h : X.K = K) : OpR X (binaryOp .Add) (rCatA K) := by
  subst h
  exact op_catA
def spCaps : Sp := fun vs H Q _ => ∃ (p la ca : Addr) (t n th : Int), vs = [.ref p, .int n, .int th, .int 4] ∧ StAt H p la ca t ∧ t ≤ 50000 ∧ 1 ≤ n ∧ n ≤ 3 ∧ 1 ≤ th ∧ th ≤ 1000 ∧
  ∀ d B H', Btw p la H H' → H' d = some (.dT (kvT B)) → Good n B → Dom n (fn B) → StAt H' p la ca (t + 48) → Q (.ref d) H'
/-- a list of waters of m cells -/
def WatAt (H : Hp) (L : Addr) (m N : Nat) : Prop := ∃ ps : List (Addr × List Int), H L = some (.lst (ps.map fun y => V.ref y.1)) ∧ (∀ y ∈ ps, H y.1 = some (.tup (y.2.map V.int)) ∧ y.2.length = m) ∧ ps.length ≤ N
theorem WatAt.keeps {H H' : Hp} {L : Addr} {m N : Nat} (h : WatAt H L m N) (s : Same H H') : WatAt H' L m N := by
  obtain ⟨ps, h1, h2, h3⟩ := h
  exact ⟨ps, s _ _ h1, fun y hy => ⟨s _ _ (h2 y hy).1, (h2 y hy).2⟩, h3⟩
def spWaters : Sp := fun vs H Q _ => ∃ n : Nat, vs = [.int (n : Int)] ∧ n ≤ 3 ∧ ∀ L H', Same H H' → WatAt H' L n (9 ^ n) → Q (.ref L) H'
section
variable {P : Program} {w : World} {K : PySem.W.Frag} {mg : Str → Option Value} {base : Heap} {C : Addr}
theorem ok_law_pick (T : Txt K mg C) (pD : Prom P w K mg base "_law_draw" 1 ["_law_state", "_law_many"] spDraw) (D : Def K mg "_law_pick" s__law_pick ["_law_state", "_law_several"]) : Prom P w K mg base "_law_pick" 2 ["_law_state", "_law_several"] spPick := by
  refine D.ok sc__law_pick (fun vs H Q E h => by obtain ⟨p, la, ca, l, t, xs, rfl, _⟩ := h; rfl) (fun f cdv A outer s H vs Q E hr h => ?_)
  obtain ⟨p, la, ca, l, t, xs, rfl, st, ht, hl, nl, x1, x2, k⟩ := h
  refine ⟨_, pss_one (ps_ret (pe_ix ix_list (pv 1) (pe_p pD hr (by rfl) (pa_cons (pv 0) (pa_cons (pe_callB call_len_seq (by rfl) T.b_len PySem.boot_len (pa_cons (pv 1) pa_nil)) pa_nil))) (fun _ _ => rfl))), ?_⟩
  have np : l ≠ p := by
    obtain ⟨_, r, u, ls, cs, hp, _⟩ := st
    exact ne_of hl hp (by intro z; cases z)
  refine ⟨_, rfl, _, rfl, _, rfl, l, _, rfl, .inl (SqL.of hl), p, la, ca, t, (xs.length : Int), (by rw [List.length_map]; rfl), st, ht, by omega, by omega, fun r H' r0 r1 b s' => ?_⟩
  refine ⟨l, _, r, _, rfl, rfl, SqL.of (b _ _ hl np nl), atI_lv r0 r1, ?_⟩
  exact k _ H' (lv_mem r0 r1) b s'
theorem ok_law_caps (T : Txt K mg C) (pD : Prom P w K mg base "_law_draw" 1 ["_law_state", "_law_many"] spDraw) (pP : Prom P w K mg base "_law_pick" 2 ["_law_state", "_law_several"] spPick)
    (D : Def K mg "_law_caps" s__law_caps ["_law_state", "_law_many", "_law_thick", "_law_wide"]) : Prom P w K mg base "_law_caps" 3 ["_law_state", "_law_many", "_law_thick", "_law_wide"] spCaps := by
  refine D.ok sc__law_caps (fun vs H Q E h => by obtain ⟨p, la, ca, t, n, th, rfl, _⟩ := h; rfl) (fun f cdv A outer s H vs Q E hr h => ?_)
  obtain ⟨p, la, ca, t, n, th, rfl, st, ht, n1, n3, th1, th2, k⟩ := h
  have nd := sc__law_caps.nd
  have hu := hu_of hr
  refine ⟨_, pss_cons (ps_set (i := 4) nd rfl (.inl rfl) pe_dnewT)
    (pss_cons (ps_for PassesOwn.never rfl (pi_range1 (by rfl) T.b_range (pa_cons (pe_op op_add (pv 1) pe_int) pa_nil)) (pg_name (i := 5) nd rfl (Or.inl rfl))
      (pss_one (ps_for PassesOwn.never rfl (pi_range1 (by rfl) T.b_range (pa_cons (pe_op op_add (pv 1) pe_int) pa_nil)) (pg_name (i := 6) nd rfl (Or.inl rfl))
        (pss_one (ps_if (PW.pt (pw_and (pt_cmpR op_ne (pv 5) (pv 6) (nomark _)) (pw_and1 (pt_cmpR op_eq (pe_p pD (hr.mono (by decide)) (by rfl) (pa_cons (pv 0) (pa_cons (pv 2) pa_nil))) pe_int (nomark _)))))
          (pss_one (ps_dput hu (pv 4) (pe_tup (pa_cons (pv 5) (pa_cons (pv 6) pa_nil))) (pe_op op_sub (pe_p pD (hr.mono (by decide)) (by rfl) (pa_cons (pv 0) (pa_cons (pe_op op_add (pe_op op_mul pe_int (pv 3)) pe_int) pa_nil)))
            (pe_p pP hr (by rfl) (pa_cons (pv 0) (pa_cons (pe_lst (pa_cons pe_int (pa_cons (pv 3) (pa_cons (pe_op op_fdiv (pv 3) pe_int) pa_nil)))) pa_nil)))) rfl)) pss_nil)))))
    (pss_one (ps_ret (pv 4)))), ?_⟩
  intro d hd
  have s0 := same_new (o := .dT []) hd
  refine ⟨_, rfl, _, _, rfl, rfl, n + 1, rfl, by omega, by omega, ?_⟩
  refine for_it walk_rg (fun i σ H' => ∃ o5 o6, σ = [some (.ref p), some (.int n), some (.int th), some (.int 4), some (.ref d), o5, o6] ∧ Btw p la H H' ∧ StAt H' p la ca (t + 12 * i) ∧ ∃ B, H' d = some (.dT (kvT B)) ∧ Good n B ∧ Dom n (fn B))
    ⟨_, _, rfl, Same.btw s0, (st.keeps s0).mono (by omega), [], upd_same, Good.nil, fun a b v e => by rw [show fn [] a b = none from rfl] at e; cases e⟩ (fun _ _ _ _ _ => trivial) ?_ ?_
  · rintro i x σ H1 H2 hi ⟨o5, o6, rfl, b1, st1, B, hB, gB, dB⟩ ⟨rfl, rfl⟩
    refine ⟨_, rfl, _, _, rfl, rfl, n + 1, rfl, by omega, by omega, ?_⟩
    refine for_it walk_rg (fun j σ H' => ∃ o6, σ = [some (.ref p), some (.int n), some (.int th), some (.int 4), some (.ref d), some (.int (i : Int)), o6] ∧ Btw p la H H' ∧ StAt H' p la ca (t + 12 * i + 3 * j) ∧ ∃ B, H' d = some (.dT (kvT B)) ∧ Good n B ∧ Dom n (fn B))
      ⟨_, rfl, b1, st1.mono (by omega), B, hB, gB, dB⟩ (fun _ _ _ _ _ => trivial) ?_ ?_
    · rintro j x σ H3 H4 hj ⟨o6, rfl, b3, st3, B, hB, gB, dB⟩ ⟨rfl, rfl⟩
      refine ⟨_, rfl, _, rfl, rfl, _, rfl, ?_⟩
      by_cases hij : (V.int (i : Int)) = V.int (j : Int)
      · rw [decide_eq_true hij]
        exact iteF (iteF ⟨_, rfl, b3, st3.mono (by omega), B, hB, gB, dB⟩)
      · rw [decide_eq_false hij]
        have hne : (i : Int) ≠ j := fun z => hij (by rw [z])
        refine iteT ⟨_, rfl, _, rfl, p, la, ca, _, th, rfl, st3, by omega, th1, by omega, fun r H5 r0 r1 b5 st5 => ⟨rfl, _, rfl, ?_⟩⟩
        have e5 := st3.ne hB (fun _ z => by cases z) (fun _ z => by cases z)
        have hB5 := b5 _ _ hB e5.1 e5.2
        refine ite2 (fun _ => ?_) (fun _ => ?_)
        · refine ⟨_, rfl, _, rfl, _, _, rfl, rfl, .inl ⟨by decide, by decide⟩, _, _, rfl, rfl, p, la, ca, _, 2 * 4 + 1, rfl, st5, by omega, by decide, by decide, fun r2 H6 r20 r21 b6 st6 => ?_⟩
          have hB6 := b6 _ _ hB5 e5.1 e5.2
          refine ⟨_, rfl, _, rfl, _, rfl, _, _, rfl, rfl, ⟨by decide, by decide⟩, Nat.le_of_lt (len_lt (by decide : 3 ≤ 5)), fun l hl => ?_⟩
          have s7 := same_new (o := .lst ([V.int 0] ++ [V.int 4, V.int (4 / 2)])) hl
          have nla : l ≠ la := by
            obtain ⟨_, r, u, ls, cs, _, hla, _⟩ := st6
            exact (ne_of_none hla hl).symm
          refine ⟨p, la, ca, l, _, [0, 4, 4 / 2], rfl, st6.keeps s7, by omega, upd_same, nla, by decide, by decide, fun x H8 _ b8 st8 => ?_⟩
          have hB8 := b8 _ _ (s7 _ _ hB6) e5.1 e5.2
          refine ⟨_, _, rfl, rfl, _, rfl, _, rfl, _, rfl, l2, fun tt htt => ?_⟩
          have s9 := same_new (o := .tup [V.int (i : Int), V.int (j : Int)]) htt
          have hB9 := s9 _ _ hB8
          have st9 := st8.keeps s9
          refine ⟨d, _, rfl, put_bd (p := ((i : Int), (j : Int))) hB9 upd_same (gB.l1000 n3), ?_⟩
          refine ⟨_, rfl, ?_, ?_, _, upd_same, gB.put _ (by show (0 : Int) ≤ i; omega) (by show (i : Int) ≤ n; omega) (by show (0 : Int) ≤ j; omega) (by show (j : Int) ≤ n; omega), ?_⟩
          · exact (((b3.trans b5).trans b6).trans ((Same.btw s7).trans (b8.trans (Same.btw s9)))).own hd
          · obtain ⟨hn, r, u, ls, cs, q1, q2, q3, q4, q5⟩ := st9
            exact ⟨hn, r, u, ls, cs, by rw [upd_ne (ne_of q1 hB9 (by intro z; cases z))]; exact q1, by rw [upd_ne (ne_of q2 hB9 (by intro z; cases z))]; exact q2, by rw [upd_ne (ne_of q3 hB9 (by intro z; cases z))]; exact q3, q4, by omega⟩
          · intro a b v e
            rw [show fn (putB B ((i : Int), (j : Int)) _) a b = look (putB B ((i : Int), (j : Int)) _) (a, b) from rfl, look_put] at e
            by_cases hab : ((a, b) : Pt) = ((i : Int), (j : Int))
            · injection hab with h1 h2
              subst h1 h2
              exact ⟨by omega, by omega, by omega, by omega, hne⟩
            · rw [if_neg hab] at e
              exact dB a b v e
        · exact ⟨_, rfl, b3.trans b5, st5.mono (by omega), B, hB5, gB, dB⟩
    · rintro σ H3 ⟨o6, rfl, b3, st3, B, hB, gB, dB⟩
      exact ⟨_, _, rfl, b3, st3.mono (by omega), B, hB, gB, dB⟩
  · rintro σ H1 ⟨o5, o6, rfl, b1, st1, B, hB, gB, dB⟩
    exact ⟨_, rfl, k d B H1 b1 hB gB dB (st1.mono (by omega))⟩
theorem ok_law_waters (T : Txt K mg C) (D : Def K mg "_law_waters" s__law_waters ["_law_many"]) : Prom P w K mg base "_law_waters" 1 ["_law_many"] spWaters := by
  refine D.ok sc__law_waters (fun vs H Q E h => by obtain ⟨n, rfl, _⟩ := h; rfl) (fun f cdv A outer s H vs Q E hr h => ?_)
  obtain ⟨n, rfl, n3, k⟩ := h
  have nd := sc__law_waters.nd
  refine ⟨_, pss_cons (ps_set (i := 1) nd rfl (.inl rfl) (pe_lst (pa_cons (pe_tup pa_nil) pa_nil)))
    (pss_cons (ps_for PassesOwn.never rfl (pi_range1 (by rfl) T.b_range (pa_cons (pv 0) pa_nil)) (pg_name (i := 2) nd rfl (Or.inl rfl))
      (pss_cons (ps_set (i := 3) nd rfl (.inl rfl) (pe_lst pa_nil))
      (pss_cons (ps_for PassesOwn.never rfl (pi_list (pv 1)) (pg_name (i := 4) nd rfl (Or.inr rfl))
        (pss_one (ps_set (i := 3) nd rfl (.inl rfl) (pe_op op_cat (pv 3) (pe_lc (own := [("_law_part", 5)]) (g := gName 5) (tt := tYes) rfl nd (pi_range2 (by rfl) T.b_range (pa_cons (pe_un un_neg pe_int) (pa_cons pe_int pa_nil)))
          (blkOk_by (N := ["_law_many", "_law_found", "_law_spot", "_law_longer", "_law_pool", "_law_part"]) (sc := defScope s__law_waters) (by decide +kernel)) (fun _ _ _ _ _ => pg_name (i := 5) nd rfl (Or.inl rfl)) (fun _ _ _ _ _ => pts_nil)
          (fun _ _ _ _ _ => pe_op (op_catAK (K := K) rfl) (pv 4) (pe_tup (pa_cons (pv 5) pa_nil))))))))
      (pss_one (ps_set (i := 1) nd rfl (.inl rfl) (pv 3))))))
    (pss_one (ps_ret (pv 1)))), ?_⟩
  refine ⟨Nat.zero_le _, fun t0 ht0 => ⟨l1, fun L0 hL0 => ?_⟩⟩
  have s0 := (same_new (o := .tup []) ht0).upd_new (o := .lst ([V.ref t0] ++ [])) hL0
  have hw0 : WatAt (upd (upd H t0 (.tup [])) L0 (.lst ([V.ref t0] ++ []))) L0 0 (9 ^ 0) := ⟨[(t0, [])], upd_same, fun y hy => by
    rw [List.mem_singleton] at hy
    subst hy
    exact ⟨same_new hL0 _ _ upd_same, rfl⟩, Nat.le_refl _⟩
  refine ⟨_, rfl, (n : Int), rfl, by omega, by omega, ?_⟩
  refine for_it walk_rg (fun i σ H' => ∃ L1 o2 o3 o4 o5, σ = [some (.int (n : Int)), some (.ref L1), o2, o3, o4, o5] ∧ Same H H' ∧ WatAt H' L1 i (9 ^ i)) ⟨_, _, _, _, _, rfl, s0, hw0⟩ (fun _ _ _ _ _ => trivial) ?_ ?_
  · rintro i x σ H1 H2 hi ⟨L1, o2, o3, o4, o5, rfl, s1, ps, w1, w2, w3⟩ ⟨rfl, rfl⟩
    refine ⟨Nat.zero_le _, fun L2a hL2 => ?_⟩
    have s2 := same_new (o := .lst []) hL2
    have hi3 : i ≤ 2 := by
      have : i < n := by omega
      omega
    have h9 : 9 ^ i ≤ 81 := Nat.le_trans (Nat.pow_le_pow_right (by decide) hi3) (by decide)
    refine ⟨_, rfl, L1, rfl, ⟨_, SqL.of (s2 _ _ w1)⟩, ?_⟩
    refine for_list (K := K) (a := L1) (xs := ps.map fun y => V.ref y.1) (fun j σ H' => ∃ L2b o4 o5, σ = [some (.int (n : Int)), some (.ref L1), some (.int (i : Int)), some (.ref L2b), o4, o5] ∧ Same H2 H' ∧ WatAt H' L2b (i + 1) (9 * j))
      ⟨L2a, _, _, rfl, s2, [], upd_same, fun y hy => (nomatch hy), Nat.le_refl _⟩ (fun j σ H' _ ⟨_, _, _, _, z, _⟩ => SqL.of (z _ _ w1)) ?_ ?_
    · rintro j x σ H3 hx ⟨L2b, o4, o5, rfl, s3, qs, v1, v2, v3⟩
      obtain ⟨⟨tp, ns⟩, hy, rfl⟩ := map_at hx
      have hym := List.mem_of_getElem? hy
      have hyl := (List.getElem?_eq_some_iff.mp hy).1
      obtain ⟨htp, hnl⟩ := w2 _ hym
      have htp3 := s3 _ _ htp
      refine ⟨_, rfl, 4, rfl, -4, 5, rfl, ⟨by decide, by decide, by decide, by decide⟩, fun Dn hDn => ?_⟩
      refine lc_it (walk_range (lo := -4)) (fun k H' => Same H3 H' ∧ ∃ rs : List (Addr × List Int), H' Dn = some (.lst (rs.map fun y => V.ref y.1)) ∧ (∀ y ∈ rs, H' y.1 = some (.tup (y.2.map V.int)) ∧ y.2.length = i + 1) ∧ rs.length = k)
        ⟨same_new hDn, [], upd_same, fun y hy => (nomatch hy), rfl⟩ (fun _ _ _ _ => trivial) ?_ ?_
      · rintro kk x H4 H5 hk ⟨s4, rs, r1, r2, r3⟩ ⟨rfl, rfl⟩
        have hk9 : kk < 9 := hk
        refine ⟨rfl, _, rfl, _, rfl, l1, fun u hu' => ?_⟩
        have s5 := same_new (o := .tup [V.int (-4 + (kk : Int))]) hu'
        have hput : ∀ H6 q, Same H5 H6 → H6 q = some (.tup ((ns ++ [-4 + (kk : Int)]).map V.int)) → ∃ acc, H6 Dn = some (.lst acc) ∧ acc.length < sizeLine ∧ Same H3 (upd H6 Dn (.lst (acc ++ [V.ref q]))) ∧ ∃ rs : List (Addr × List Int),
            (upd H6 Dn (.lst (acc ++ [V.ref q]))) Dn = some (.lst (rs.map fun y => V.ref y.1)) ∧ (∀ y ∈ rs, (upd H6 Dn (.lst (acc ++ [V.ref q]))) y.1 = some (.tup (y.2.map V.int)) ∧ y.2.length = i + 1) ∧ rs.length = kk + 1 := by
          intro H6 q s6 hq
          refine ⟨_, s6 _ _ r1, len_lt (by rw [List.length_map]; omega : _ ≤ 10), (s4.trans s6).upd_own hDn, rs ++ [(q, ns ++ [-4 + (kk : Int)])], ?_, fun y hy => ?_, by rw [List.length_append, r3]; rfl⟩
          · rw [upd_same, List.map_append]
            rfl
          · rcases List.mem_append.mp hy with hy | hy
            · obtain ⟨z1, z2⟩ := r2 y hy
              exact ⟨by rw [upd_ne (ne_of (s6 _ _ z1) (s6 _ _ r1) (by intro z; cases z))]; exact s6 _ _ z1, z2⟩
            · rw [List.mem_singleton] at hy
              subst hy
              exact ⟨by rw [upd_ne (ne_of hq (s6 _ _ r1) (by intro z; cases z))]; exact hq, by rw [List.length_append, hnl]; rfl⟩
        refine ⟨tp, u, ns.map V.int, [V.int (-4 + (kk : Int))], rfl, rfl, SqT.of (s5 _ _ (s4 _ _ htp3)), SqT.of upd_same, Nat.le_of_lt (len_lt (by rw [List.length_map, hnl]; show i + 1 ≤ 10; omega)), fun hnil => ?_, fun _ z => (nomatch z), fun _ _ q hq => ?_⟩
        · have : ns = [] := List.map_eq_nil_iff.mp hnil
          subst this
          exact hput _ u s5 upd_same
        · exact hput _ q (s5.upd_new hq) (by rw [upd_same, List.map_append]; rfl)
      · rintro H4 ⟨s4, rs, r1, r2, r3⟩
        have r9 : rs.length = 9 := r3
        refine ⟨L2b, Dn, _, _, rfl, rfl, s4 _ _ v1, r1, Nat.le_of_lt (len_lt (by rw [List.length_map, List.length_map]; omega : _ ≤ 1000)), fun q hq => ?_⟩
        have s5 := same_new (o := .lst ((qs.map fun y => V.ref y.1) ++ rs.map fun y => V.ref y.1)) hq
        refine ⟨q, _, _, rfl, (s3.trans s4).trans s5, qs ++ rs, by rw [upd_same, List.map_append], fun y hy => ?_, by rw [List.length_append]; omega⟩
        rcases List.mem_append.mp hy with hy | hy
        · exact ⟨s5 _ _ (s4 _ _ (v2 y hy).1), (v2 y hy).2⟩
        · exact ⟨s5 _ _ (r2 y hy).1, (r2 y hy).2⟩
    · rintro σ H3 ⟨L2b, o4, o5, rfl, s3, qs, v1, v2, v3⟩
      rw [List.length_map] at v3
      refine ⟨_, rfl, L2b, _, _, _, _, rfl, s1.trans s3, qs, v1, v2, ?_⟩
      rw [Nat.pow_succ]
      omega
  · rintro σ H1 ⟨L1, o2, o3, o4, o5, rfl, s1, w1⟩
    exact ⟨_, rfl, k L1 H1 s1 (by rw [Int.toNat_natCast] at w1; exact w1)⟩
end
end Bw

/-! Passed; out. -/
namespace Bw
open PySem PySem.Spec PyProof.Rows L2
def spPassed : Sp := fun vs H Q _ => ∃ (t : Addr) (v1 v2 : V) (n : Int) (f : Fn) (ns : List Int), vs = [.ref t, v1, v2] ∧ H t = some (.tup (ns.map V.int)) ∧ (ns.length : Int) = n ∧ 1 ≤ n ∧ n ≤ 3 ∧ EndIs H n 1 f v1 ∧ EndIs H n (-1) f v2 ∧ Fit f (lv (pre ns)) ∧
  ∀ H', Same H H' → Q (.bl false) H'
theorem EndIs.keeps {H H' : Hp} {n s : Int} {f : Fn} {v : V} (h : EndIs H n s f v) (k : Same H H') : EndIs H' n s f v := by
  rcases h with h | ⟨t, ts, h1, h2, h3⟩
  · exact .inl h
  · exact .inr ⟨t, ts, h1, k _ _ h2, h3⟩
theorem pre_zero (ns : List Int) : lv (pre ns) 0 = 0 := by
  unfold lv
  rw [show (pre ns)[(0 : Int).toNat]? = some (ns.take 0).sum from pre_at (Nat.zero_le _)]
  simp
theorem pre_get {ns : List Int} {j : Nat} (h : j ≤ ns.length) : (pre ns)[j]? = some (lv (pre ns) (j : Int)) := by
  unfold lv
  rw [Int.toNat_natCast, pre_at h]
  rfl
/-- the dict that has just been made is locked -/
def tLockN (td : TE) : TE := fun σ H Q => td σ H fun x H1 => ∃ d kvs, x = .ref d ∧ H1 d = some (.dT kvs) ∧ ∀ od, Q x (upd H1 d (.frz od (.dT kvs)))
section
variable {X : Cx} {tg e : Expr} {td : TE} {apos cpos : Pos}
theorem pi_pairsN {elts : List Expr} {kk : Nat} {tpos : Pos} (he : PE X e td) (hbase : attributeBase e "items" X.env (eval e X.env) = eval e X.env := by rfl) (hline : (apos.endLine == cpos.line) = true := by rfl) :
    PI X (.Tuple elts kk tpos) (.Call (.Attribute e "items" apos) [] [] cpos) (iPairs (tLockN td)) := by
  have he2 : PE X e (tLockN td) := by
    refine ⟨fun pins s σ H Q I h => ?_⟩
    refine thn (he.run pins s σ H _ I h) fun v s1 ⟨x, H1, I1, r, d, kvs, e1, hd, q⟩ => ?_
    obtain ⟨od, I2⟩ := I1.lock hd trivial
    exact ⟨x, _, I2, r, q od⟩
  exact pi_pairs he2 hbase hline
end
section
variable {P : Program} {w : World} {K : PySem.W.Frag} {mg : Str → Option Value} {base : Heap} {C : Addr}
theorem ok_law_is_passed (T : Txt K mg C) (pS : Prom P w K mg base "sums" 3 ["water"] spSums) (D : Def K mg "_law_is_passed" s__law_is_passed ["_law_pool", "_law_top", "_law_low"]) :
    Prom P w K mg base "_law_is_passed" 4 ["_law_pool", "_law_top", "_law_low"] spPassed := by
  refine D.ok sc__law_is_passed (fun vs H Q E h => by obtain ⟨t, v1, v2, n, f, ns, rfl, _⟩ := h; rfl) (fun f cdv A outer s H vs Q E hr h => ?_)
  obtain ⟨t, v1, v2, n, f, ns, rfl, ht, hl, n1, n3, e1, e2, fit, k⟩ := h
  have nd := sc__law_is_passed.nd
  refine ⟨_, pss_cons (ps_set (i := 3) nd rfl (.inl rfl) (pe_p pS hr (by rfl) (pa_cons (pv 0) pa_nil)))
    (pss_cons (ps_if (PW.pt (pw_and (pt_cmp (pc_notN (pv 1))) (pw_and1 (pt_cmpR (op_neD hr.units) (pe_lc (own := [("_law_pair", 4)]) (g := gName 4) rfl nd (pi_zipN (l := false) (by rfl) T.b_zip (pa_cons (pv 3) (pa_cons (pe_p pS hr (by rfl) (pa_cons (pv 1) pa_nil)) pa_nil)))
        (blkOk_by (N := ["_law_pool", "_law_top", "_law_low", "_law_levels", "_law_pair"]) (sc := defScope s__law_is_passed) (by decide +kernel)) (fun _ _ _ _ _ => pg_name (i := 4) nd rfl (Or.inl rfl))
        (fun _ _ _ _ _ => pts_one (pt_cmpR op_gt (pe_ix (ix_tupK (K := K) rfl) (pv 4) pe_int (fun _ _ => rfl)) (pe_ix (ix_tupK (K := K) rfl) (pv 4) pe_int (fun _ _ => rfl)) (nomark _))) (fun _ _ _ _ _ => pe_int)) (pe_lst pa_nil) (nomark _)))))
      (pss_one (ps_ret pe_bl)) pss_nil)
    (pss_one (ps_ret (pe_and (pe_cmp (pc_notN (pv 2)) rfl) (pe_one (pe_cmpR (op_neD hr.units) (pe_lc (own := [("_law_pair", 4)]) (g := gName 4) rfl nd (pi_zipN (l := false) (by rfl) T.b_zip (pa_cons (pv 3) (pa_cons (pe_p pS hr (by rfl) (pa_cons (pv 2) pa_nil)) pa_nil)))
        (blkOk_by (N := ["_law_pool", "_law_top", "_law_low", "_law_levels", "_law_pair"]) (sc := defScope s__law_is_passed) (by decide +kernel)) (fun _ _ _ _ _ => pg_name (i := 4) nd rfl (Or.inl rfl))
        (fun _ _ _ _ _ => pts_one (pt_cmpR op_lt (pe_ix (ix_tupK (K := K) rfl) (pv 4) pe_int (fun _ _ => rfl)) (pe_ix (ix_tupK (K := K) rfl) (pv 4) pe_int (fun _ _ => rfl)) (nomark _))) (fun _ _ _ _ _ => pe_int)) (pe_lst pa_nil) (nomark _))))))), ?_⟩
  have z0 : ∀ i : Int, lv (pre ns) i - lv (pre ns) 0 = lv (pre ns) i := fun i => by rw [pre_zero]; omega
  refine ⟨_, rfl, t, ns, rfl, ht, by omega, by omega, fun tl H1 s1 htl => ?_⟩
  have e1' := e1.keeps s1
  have e2' := e2.keeps s1
  refine ⟨_, rfl, ?_⟩
  have go : ∀ (sg : Int) (ts : List Int) (t1 : Addr) (H2 : Hp), (ts.length : Int) = n → (∀ L, Fit f L → ∀ i, 0 ≤ i → i ≤ n → sg * (L i - L 0) ≤ sg * lv (pre ts) i) → ∀ m, m < (pre ns).length → sg * lv (pre ns) m ≤ sg * lv (pre ts) m := by
    intro sg ts t1 H2 hts hb m hm
    rw [pre_len] at hm
    have := hb _ fit m (by omega) (by omega)
    rw [z0] at this
    exact this
  rcases e1' with rfl | ⟨t1, ts, rfl, ht1, hts, hb⟩
  · have sX := s1
    have tX := htl
    have eX := e2'
    refine ⟨_, rfl, iteF (iteF ?_)⟩
    refine ⟨_, rfl, _, rfl, ?_⟩
    rcases eX with rfl | ⟨t1, ts, rfl, ht1, hts, hb⟩
    · exact iteF (k _ sX)
    · refine iteT ⟨_, rfl, _, rfl, t1, ts, rfl, ht1, by omega, by omega, fun tl2 H2 s2 htl2 => ⟨tl, tl2, _, _, rfl, SqT.of (s2 _ _ tX), SqT.of htl2, fun Dn hDn => ?_⟩⟩
      refine lc_it (walk_zipN (l := false) (xs := (pre ns).map V.int) (ys := (pre ts).map V.int) (by rw [List.length_map, List.length_map, pre_len, pre_len]; omega)) (fun _ H' => LcP H2 Dn [] H') (LcP.start hDn) (fun _ H' _ z => ⟨SqT.of (z.1 _ _ (s2 _ _ tX)), SqT.of (z.1 _ _ htl2)⟩) ?_ ?_
      · rintro m x H3 H4 hm z ⟨T1, x1, y1, rfl, hT, rfl, hx, hy⟩
        rw [List.length_map] at hm
        have g := go (-1) ts t1 H2 hts hb m hm
        rw [pre_len] at hm
        obtain ⟨x2, hx2, rfl⟩ := map_at hx
        obtain ⟨y2, hy2, rfl⟩ := map_at hy
        rw [pre_get (by omega)] at hx2 hy2
        cases hx2
        cases hy2
        refine ⟨rfl, _, rfl, T1, _, 0, _, rfl, rfl, SqT.of upd_same, atI_nat (j := 0) rfl, _, rfl, T1, _, 1, _, rfl, rfl, SqT.of upd_same, atI_nat (j := 1) rfl, _, _, rfl, rfl, _, rfl, ?_⟩
        exact iteN (by omega) (z.keeps (same_new hT))
      · intro H3 z
        refine ⟨Nat.zero_le _, fun l hl => ⟨_, _, .lst (SqL.of (same_new hl _ _ z.2)) (dp_ints []), .lst (SqL.of upd_same) .nil, shaped_ints [], rfl, ?_⟩⟩
        exact k _ ((sX.trans s2).trans (z.1.upd_new hl))
  · refine ⟨_, rfl, iteT ⟨_, rfl, _, rfl, t1, ts, rfl, ht1, by omega, by omega, fun tl2 H2 s2 htl2 => ⟨tl, tl2, _, _, rfl, SqT.of (s2 _ _ htl), SqT.of htl2, fun Dn hDn => ?_⟩⟩⟩
    refine lc_it (walk_zipN (l := false) (xs := (pre ns).map V.int) (ys := (pre ts).map V.int) (by rw [List.length_map, List.length_map, pre_len, pre_len]; omega)) (fun _ H' => LcP H2 Dn [] H') (LcP.start hDn) (fun _ H' _ z => ⟨SqT.of (z.1 _ _ (s2 _ _ htl)), SqT.of (z.1 _ _ htl2)⟩) ?_ ?_
    · rintro m x H3 H4 hm z ⟨T1, x1, y1, rfl, hT, rfl, hx, hy⟩
      rw [List.length_map] at hm
      have g := go 1 ts t1 H2 hts hb m hm
      rw [pre_len] at hm
      obtain ⟨x2, hx2, rfl⟩ := map_at hx
      obtain ⟨y2, hy2, rfl⟩ := map_at hy
      rw [pre_get (by omega)] at hx2 hy2
      cases hx2
      cases hy2
      refine ⟨rfl, _, rfl, T1, _, 0, _, rfl, rfl, SqT.of upd_same, atI_nat (j := 0) rfl, _, rfl, T1, _, 1, _, rfl, rfl, SqT.of upd_same, atI_nat (j := 1) rfl, _, _, rfl, rfl, _, rfl, ?_⟩
      exact iteN (by omega) (z.keeps (same_new hT))
    · intro H3 z
      refine ⟨Nat.zero_le _, fun l hl => ⟨_, _, .lst (SqL.of (same_new hl _ _ z.2)) (dp_ints []), .lst (SqL.of upd_same) .nil, shaped_ints [], rfl, _, rfl, iteF ?_⟩⟩
      have s5 : Same H1 (upd H3 l (.lst [])) := (s2.trans z.1).upd_new hl
      have sX := s1.trans s5
      have tX := s5 _ _ htl
      have eX := e2'.keeps s5
      generalize upd H3 l (.lst []) = HX at sX tX eX ⊢
      refine ⟨_, rfl, _, rfl, ?_⟩
      rcases eX with rfl | ⟨t1, ts, rfl, ht1, hts, hb⟩
      · exact iteF (k _ sX)
      · refine iteT ⟨_, rfl, _, rfl, t1, ts, rfl, ht1, by omega, by omega, fun tl2 H2 s2 htl2 => ⟨tl, tl2, _, _, rfl, SqT.of (s2 _ _ tX), SqT.of htl2, fun Dn hDn => ?_⟩⟩
        refine lc_it (walk_zipN (l := false) (xs := (pre ns).map V.int) (ys := (pre ts).map V.int) (by rw [List.length_map, List.length_map, pre_len, pre_len]; omega)) (fun _ H' => LcP H2 Dn [] H') (LcP.start hDn) (fun _ H' _ z => ⟨SqT.of (z.1 _ _ (s2 _ _ tX)), SqT.of (z.1 _ _ htl2)⟩) ?_ ?_
        · rintro m x H3 H4 hm z ⟨T1, x1, y1, rfl, hT, rfl, hx, hy⟩
          rw [List.length_map] at hm
          have g := go (-1) ts t1 H2 hts hb m hm
          rw [pre_len] at hm
          obtain ⟨x2, hx2, rfl⟩ := map_at hx
          obtain ⟨y2, hy2, rfl⟩ := map_at hy
          rw [pre_get (by omega)] at hx2 hy2
          cases hx2
          cases hy2
          refine ⟨rfl, _, rfl, T1, _, 0, _, rfl, rfl, SqT.of upd_same, atI_nat (j := 0) rfl, _, rfl, T1, _, 1, _, rfl, rfl, SqT.of upd_same, atI_nat (j := 1) rfl, _, _, rfl, rfl, _, rfl, ?_⟩
          exact iteN (by omega) (z.keeps (same_new hT))
        · intro H3 z
          refine ⟨Nat.zero_le _, fun l hl => ⟨_, _, .lst (SqL.of (same_new hl _ _ z.2)) (dp_ints []), .lst (SqL.of upd_same) .nil, shaped_ints [], rfl, ?_⟩⟩
          exact k _ ((sX.trans s2).trans (z.1.upd_new hl))
theorem make_read1 {C : Addr} {H : Hp} {n : Int} {d x dx : Addr} {B : Bd} {R : Hp → Prop} (n1 : 1 ≤ n) (n3 : n ≤ 3) (hd : H d = some (.dT (kvT B))) (g : Good n B) (dm : Dom n (fn B)) (hx : H x = none) (hdx : H dx = none) (ne : dx ≠ x)
    (k : ∀ H', Same H H' → TabAt C H' x n (fn B) → R H') : spInit C (.ref x :: ([.int n, .ref d] ++ [])) (upd (upd H dx (.own x)) x (.ins C dx [])) (fun v H2 => v = .non ∧ R H2) E0 := by
  have s1 : Same H (upd (upd H dx (.own x)) x (.ins C dx [])) := fun b o e => by
    rw [upd_ne (ne_of_none e hx), upd_ne (ne_of_none e hdx)]
    exact e
  exact ⟨x, dx, d, n, B, rfl, upd_same, n1, n3, s1 _ _ hd, g, dm, fun H' kp t => ⟨rfl, k H' (fun b o e => kp _ _ (s1 _ _ e) (ne_of_none e hx)) t⟩⟩
theorem tor_split {t u : TT} {σ : L2.St} {H : Hp} {F : Bool → Hp → Prop} (Past : Prop) (hb : Past → F true H) (h : (Past → F true H) → tOr t u σ H F) : tOr t u σ H F := h hb
def spOut (C : Addr) : Sp := fun vs H Q _ => ∃ (p q : Addr) (n : Int) (f g : Fn), vs = [.ref p, .ref q, .int n] ∧ TabAt C H p n f ∧ TabAt C H q n g ∧ ¬ Imp f g ∧ ∀ H', Same H H' → Q (.bl true) H'
theorem ok_law_out (T : Txt K mg C) (M : MakeT P w K mg base C) (pB : PropT P w K mg base C) (pC : Prom P w K mg base "closed" 9 ["table"] (spClosed C)) (pBo : Prom P w K mg base "both" 7 ["one", "other"] (spBoth C))
    (pRi : Prom P w K mg base "ring" 3 ["table"] (spRing C)) (pWi : Prom P w K mg base "is_within" 4 ["one", "other"] (spIn C)) (D : Def K mg "_law_out" s__law_out ["_law_left", "_law_right", "_law_many"]) :
    Prom P w K mg base "_law_out" 10 ["_law_left", "_law_right", "_law_many"] (spOut C) := by
  refine D.ok sc__law_out (fun vs H Q E h => by obtain ⟨p, q, n, f, g, rfl, _⟩ := h; rfl) (fun f cdv A outer s H vs Q E hr h => ?_)
  obtain ⟨p, q, n, f, gf, rfl, t1, t2, nimp, k⟩ := h
  have nd := sc__law_out.nd
  have hu := hu_of hr
  obtain ⟨n1, n3, dm⟩ := t1.rng
  refine ⟨_, pss_cons (ps_set (i := 3) nd rfl (.inl rfl) (pe_bounds pB T.cl (pe_p pC hr (by rfl) (pa_cons (pv 0) pa_nil)) (hr.mono (by decide))))
    (pss_cons (ps_for PassesOwn.never rfl (pi_pairsN (pe_bounds pB T.cl (pv 1) (hr.mono (by decide)))) (pg_tup rfl (pgs_cons (pg_name (i := 4) nd rfl (Or.inl rfl)) (pgs_cons (pg_name (i := 5) nd rfl (Or.inl rfl)) pgs_nil)))
      (pss_one (ps_if (PW.pt (pw_or (pt_cmp (pc_dnotin hu (pv 4) (pv 3))) (pw_or1 (pt_cmpR op_gt (pe_dget hu (pv 3) (pv 4) (fun _ _ => rfl)) (pv 5) (nomark _)))))
        (pss_cons (ps_asg (pv 4) (pg_tup rfl (pgs_cons (pg_name (i := 6) nd rfl (Or.inl rfl)) (pgs_cons (pg_name (i := 7) nd rfl (Or.inl rfl)) pgs_nil))))
        (pss_cons (ps_set (i := 8) nd rfl (.inl rfl) (pe_p pBo (hr.mono (by decide)) (by rfl) (pa_cons (pv 0) (pa_cons (pe_tab M T.mgC (hr.mono (by decide)) (by rfl) (pa_cons (pv 2) (pa_cons (pe_dispA hr.units0
            (pps_cons (pe_tup (pa_cons (pv 7) (pa_cons (pv 6) pa_nil))) (pe_op op_sub (pe_op op_sub pe_int (pv 5)) pe_int) pps_nil) rfl rfl (by simp) (by decide)) pa_nil))) pa_nil))))
        (pss_one (ps_if (PW.pt (pw_and (pt_cmp (pc_isN (pe_p pRi (hr.mono (by decide)) (by rfl) (pa_cons (pv 8) pa_nil)))) (pw_and1 (pt_val (pe_p pWi (hr.mono (by decide)) (by rfl) (pa_cons (pv 8) (pa_cons (pv 0) pa_nil)))))))
          (pss_one (ps_ret pe_bl)) pss_nil)))) pss_nil)))
    (pss_one (ps_ret pe_bl))), ?_⟩
  refine ⟨_, rfl, p, n, f, rfl, t1, fun qc gk H1 s1 tq hc => ?_⟩
  have clo : Clo n f gk := by
    rcases hc with ⟨no, _⟩ | c
    · exact absurd (fun L hL => absurd hL (no L)) nimp
    · exact c
  obtain ⟨dxq, _, _, hq1, _⟩ := id tq
  refine ⟨qc, dxq, _, rfl, hq1, qc, n, gk, rfl, tq, fun dk B H2 s2 fk hk gB eB => ?_⟩
  subst eB
  have t2' := (t2.keeps s1).keeps s2
  obtain ⟨dx2, _, _, h21, _⟩ := id t2'
  refine ⟨_, rfl, q, dx2, _, rfl, h21, q, n, gf, rfl, t2', fun dg G H3 s3 fg hg gG eG => ⟨dg, _, rfl, hg, fun od => ⟨dg, od, _, rfl, upd_same, ?_⟩⟩⟩
  subst eG
  obtain ⟨_, _, dmG⟩ := t2.rng
  have s4 : Same H2 (upd H3 dg (.frz od (.dT (kvT G)))) := s3.upd_own fg
  have h4g : upd H3 dg (.frz od (.dT (kvT G))) dg = some (.frz od (.dT (kvT G))) := upd_same
  generalize upd H3 dg (.frz od (.dT (kvT G))) = H4 at s4 h4g ⊢
  have sH4 := (s1.trans s2).trans s4
  have hk4 := s4 _ _ hk
  refine for_it walk_pairs (fun i σ H' => ∃ o4 o5 o6 o7 o8, σ = [some (.ref p), some (.ref q), some (.int n), some (.ref dk), o4, o5, o6, o7, o8] ∧ Same H4 H' ∧ ∀ e ∈ G.take i, ((look B e.1).isSome && decide ((look B e.1).getD 0 ≤ e.2)) = true)
    ⟨_, _, _, _, _, rfl, Same.refl _, fun e he => (nomatch he)⟩ (fun i σ H' _ ⟨_, _, _, _, _, _, z, _⟩ => z _ _ h4g) ?_ ?_
  · rintro i x σ H5 H6 hi ⟨o4, o5, o6, o7, o8, rfl, s5, hall⟩ ⟨T1, k1, v1, t, e1, rfl, hq, hT, rfl⟩
    obtain ⟨pt, zz, e2, rfl, hq⟩ := kvT_at e1 hq
    have s6 := same_new (o := .tup [.ref t, V.int zz]) hT
    have hq6 := s6 _ _ hq
    have hk6 := s6 _ _ (s5 _ _ hk4)
    have hm : 0 ≤ pt.1 ∧ pt.1 ≤ n ∧ 0 ≤ pt.2 ∧ pt.2 ≤ n := gG.rg _ (List.mem_of_getElem? e2)
    have lkG : fn G pt.1 pt.2 = some zz := look_of_mem gG.nd (List.mem_of_getElem? e2)
    have hne := (dmG _ _ _ lkG).2.2.2.2
    have sH6 := (sH4.trans s5).trans s6
    refine ⟨T1, _, rfl, SqT.of upd_same, rfl, _, _, rfl, _, _, rfl, rfl, ?_⟩
    generalize upd H5 T1 (.tup [.ref t, V.int zz]) = H6 at s6 hq6 hk6 sH6 ⊢
    have next : ∀ u, look B pt = some u → u ≤ zz → ∀ e ∈ G.take (i + 1), ((look B e.1).isSome && decide ((look B e.1).getD 0 ≤ e.2)) = true := by
      intro u hu hle e he
      rw [take_snoc e2] at he
      rcases List.mem_append.mp he with he | he
      · exact hall e he
      · rw [List.mem_singleton] at he
        subst he
        simp [hu, hle]
    refine tor_split (∀ d, look B pt = some d → zz < d) (fun past => ?_) (fun hb => ?_)
    · obtain ⟨L, hL, hLp⟩ := clo.past (a := pt.1) (b := pt.2) (cap := zz) hne past
      refine iteT ⟨_, rfl, t, _, rfl, SqT.of hq6, rfl, _, _, rfl, _, _, rfl, rfl, ?_⟩
      refine ⟨_, rfl, _, rfl, .dT [], .inr rfl, fun dn hdn => ⟨_, rfl, _, rfl, l2, fun tn htn => ⟨_, rfl, _, _, rfl, rfl, _, _, rfl, rfl, ?_⟩⟩⟩
      have s7 := (same_new (o := .dT []) hdn).upd_new (o := .tup [V.int pt.2, V.int pt.1]) htn
      have hd7 := same_new (o := .tup [V.int pt.2, V.int pt.1]) htn _ _ (upd_same (H := H6) (a := dn) (o := HO.dT []))
      refine ⟨_, put_bd (B := []) (p := (pt.2, pt.1)) hd7 upd_same (by decide), ?_⟩
      have g1 : Good n (putB [] (pt.2, pt.1) (0 - zz - 1)) := Good.nil.put _ hm.2.2.1 hm.2.2.2 hm.1 hm.2.1
      have ef : fn (putB [] (pt.2, pt.1) (0 - zz - 1)) = fOne pt.2 pt.1 (0 - zz - 1) := by
        funext a b
        show look _ (a, b) = _
        rw [look_put, look_nil]
        unfold fOne
        simp only [Prod.mk.injEq]
      have dm1 : Dom n (fOne pt.2 pt.1 (0 - zz - 1)) := by
        intro a b v e
        unfold fOne at e
        by_cases h : a = pt.2 ∧ b = pt.1
        · obtain ⟨rfl, rfl⟩ := h
          exact ⟨hm.2.2.1, hm.2.2.2, hm.1, hm.2.1, fun z => hne z.symm⟩
        · rw [if_neg h] at e
          cases e
      intro r dxr hr0 hdxr hner
      refine make_read1 n1 n3 upd_same g1 (by rw [ef]; exact dm1) hr0 hdxr hner fun H8 s8 tr => ?_
      rw [ef] at tr
      have s78 : Same H6 H8 := (s7.upd_own hdn).trans s8
      have sH8 := sH6.trans s78
      refine ⟨p, r, n, f, _, rfl, t1.keeps sH8, tr, fun near H9 s9 tnr => ?_⟩
      have sH9 := sH8.trans s9
      have hfit : Fit (fBoth f (fOne pt.2 pt.1 (0 - zz - 1))) L := fit_both.mpr ⟨hL, fit_one.mpr (by omega)⟩
      refine ⟨_, rfl, near, n, _, rfl, tnr, fun v H10 s10 hv => ?_⟩
      rcases hv with rfl | ⟨qq, rfl, no⟩
      · refine ⟨_, rfl, iteT ⟨_, rfl, _, rfl, near, p, n, _, f, rfl, tnr.keeps s10, t1.keeps (sH9.trans s10), fun b H11 s11 hb => ⟨b, rfl, ?_⟩⟩⟩
        have hbt : b = true := hb.mpr fun L' hL' => (fit_both.mp hL').1
        subst hbt
        exact iteT (k H11 ((sH9.trans s10).trans s11))
      · exact absurd hfit (no L)
    · refine ⟨_, rfl, _, rfl, dk, _, rfl, get_bdO (.inl hk6) hq6, _, rfl, ?_⟩
      cases e : look B pt with
      | none => exact iteT (hb fun d hd => by rw [e] at hd; cases hd)
      | some u =>
        refine iteF ⟨_, rfl, _, rfl, dk, .int u, rfl, get_bd (.inl hk6) hq6 e, _, rfl, _, _, rfl, rfl, _, rfl, ?_⟩
        by_cases hlt : zz < u
        · rw [show decide (u > zz) = true from decide_eq_true hlt]
          exact hb fun d hd => by rw [e] at hd; cases hd; exact hlt
        · exact iteN hlt ⟨_, _, _, _, _, rfl, s5.trans s6, next u e (by omega)⟩
  · rintro σ H5 ⟨o4, o5, o6, o7, o8, rfl, s5, hall⟩
    rw [kvT_len, List.take_of_length_le (Nat.le_refl _)] at hall
    refine absurd ((all_in clo gG dmG).mp ?_) nimp
    rw [List.all_map, List.all_eq_true]
    intro e he
    exact hall e he
end
end Bw

/-! The law. -/
namespace Bw
open PySem PySem.Spec PyProof.Rows L2
/-- a statement whose ways meet again: what holds there is said once -/
def tJoin (t : TS) : TS := fun D σ H => ∃ J : L2.St → Hp → Prop, (∀ σ' H', J σ' H' → D.nx σ' H') ∧ t { D with nx := J } σ H
theorem ps_join {X : Cx} {st : Stmt} {t : TS} (h : PS X st t) : PS X st (tJoin t) := by
  refine ⟨fun pins s σ H D I ⟨J, hj, hw⟩ => ?_⟩
  refine thn (h.run pins s σ H _ I hw) fun f s1 q => ?_
  cases f with
  | next => obtain ⟨σ', H', I2, q⟩ := q; exact ⟨σ', H', I2, hj _ _ q⟩
  | brk => exact q
  | cont => exact q
  | ret v => exact q
def FitT (P : Program) (w : World) (K : PySem.W.Frag) (mg : Str → Option Value) (base : Heap) (C : Addr) : Prop :=
  ∃ f fd, Meth K C "fits" f ∧ FnOk P w K mg base CX0 3 f fd ["self", "water"] (spFit C) ∧ Binds K fd ["self", "water"] []
section
variable {X : Cx} {C : Addr} {pos apos : Pos} {o a : Expr} {ta : TE} {t : TA}
theorem pe_fits {pl : Sem Bool} (M : FitT X.prog X.w X.K X.mg X.base C) (c : Cls X.K C) (he : PE X o ta) (ha : PA X [a] t) (hr : Room 3 X.A)
    (hst : starEach (a :: []) X.env = (false, eval a X.env) :: starEach [] X.env := by rfl) (hpl : (backTo pos (starEach [] X.env)).any (·.1) = false := by rfl)
    (ht : eval (.Call (.Attribute o "fits" apos) (a :: []) [] pos) X.env = (do
      let ov ← eval o X.env
      standAt apos.atName
      let (f, first) ← holding [ov] (getMethod ov "fits" pl)
      callWith pos f first (backTo pos (starEach (a :: []) X.env)) (backToKw pos (keywordEach [] X.env))) := by rfl) :
    PE X (.Call (.Attribute o "fits" apos) [a] [] pos) (tMeth C "fits" (spFit C) [] E0 ta t) := by
  obtain ⟨f, fd, hm, F, b⟩ := M
  exact pe_meth he c hm F hr b .nil pass0 ha hst hpl ht
end
theorem fit_congr {n : Int} {h : Fn} {L L' : Int → Int} (d : Dom n h) (e : ∀ i, 0 ≤ i → i ≤ n → L' i = L i) (f : Fit h L) : Fit h L' := fun a b v hv => by
  have := d a b v hv
  rw [e a this.1 this.2.1, e b this.2.2.1 this.2.2.2.1]
  exact f a b v hv
theorem CloOr.fit {n : Int} {f g : Fn} (c : CloOr n f g) (L : Int → Int) : Fit g L ↔ Fit f L := by
  rcases c with ⟨no, rfl⟩ | c
  · exact ⟨fun h => absurd h (fNone_no L), fun h => absurd h (no L)⟩
  · exact c.fit L
theorem StAt.nla {H : Hp} {p la ca l : Addr} {t : Int} (st : StAt H p la ca t) (h : H l = none) : l ≠ la := by
  obtain ⟨_, r, u, ls, cs, _, hla, _⟩ := st
  exact (ne_of_none hla h).symm
def spLaw (K : PySem.W.Frag) : Sp := fun vs H Q _ => ∃ (a : Addr) (ns : List Int), vs = [.ref a] ∧ SqL K H a (ns.map V.int) ∧ ns.length ≤ 63 ∧ ∀ H', Q (.bl true) H'
section
variable {P : Program} {w : World} {K : PySem.W.Frag} {mg : Str → Option Value} {base : Heap} {C : Addr}
abbrev LN : List Str := ["_law_script", "_law_state", "_law_turn", "_law_many", "_law_left", "_law_right", "_law_shared", "_law_known", "_law_top", "_law_low", "_law_spot", "_law_slim", "_law_is_in", "_law_fitting", "_law_pool", "_law_fits_here", "_law_levels", "_law_k", "_law_level"]
set_option maxHeartbeats 0 in
theorem ok_law (T : Txt K mg C) (M : MakeT P w K mg base C) (MF : FitT P w K mg base C) (pBe : Prom P w K mg base "_law_begun" 1 ["_law_script"] (spBegun K)) (pD : Prom P w K mg base "_law_draw" 1 ["_law_state", "_law_many"] spDraw)
    (pP : Prom P w K mg base "_law_pick" 2 ["_law_state", "_law_several"] spPick) (pCa : Prom P w K mg base "_law_caps" 3 ["_law_state", "_law_many", "_law_thick", "_law_wide"] spCaps) (pWa : Prom P w K mg base "_law_waters" 1 ["_law_many"] spWaters)
    (pPa : Prom P w K mg base "_law_is_passed" 4 ["_law_pool", "_law_top", "_law_low"] spPassed) (pOu : Prom P w K mg base "_law_out" 10 ["_law_left", "_law_right", "_law_many"] (spOut C)) (pBo : Prom P w K mg base "both" 7 ["one", "other"] (spBoth C))
    (pC : Prom P w K mg base "closed" 9 ["table"] (spClosed C)) (pHi : Prom P w K mg base "highest" 4 ["table"] (spTop C 1)) (pLo : Prom P w K mg base "lowest" 4 ["table"] (spTop C (-1))) (pH : Prom P w K mg base "hidden" 7 ["table", "points"] (spHidden C))
    (pWi : Prom P w K mg base "is_within" 4 ["one", "other"] (spIn C)) (pSa : Prom P w K mg base "is_same" 4 ["one", "other"] (spSame C)) (pRi : Prom P w K mg base "ring" 3 ["table"] (spRing C)) (pSu : Prom P w K mg base "sums" 3 ["water"] spSums)
    {fl : Addr} {fdl : FuncData} (F : Fun K "law" "law" s_law fl fdl) : FnOk P w K mg base CX0 11 fl fdl ["_law_script"] (spLaw K) := by
  refine F.ok sc_law (fun vs H Q E h => by obtain ⟨a, ns, rfl, _⟩ := h; rfl) (fun cdv A outer s H vs Q E hr h => ?_)
  obtain ⟨a, ns, rfl, ha, hl, k⟩ := h
  have nd := sc_law.nd
  have hu := hu_of hr
  refine ⟨_, pss_cons (ps_set (i := 1) nd rfl (.inl rfl) (pe_p pBe (hr.mono (by decide)) (by rfl) (pa_cons (pv 0) pa_nil)))
      (pss_cons (ps_for PassesOwn.never rfl (pi_range1 (by rfl) T.b_range (pa_cons (pe_op op_add pe_int (pe_callB (call_min2 rfl) (by rfl) T.b_min (by decide +kernel) (pa_cons (pe_callB call_len_seq (by rfl) T.b_len PySem.boot_len (pa_cons (pv 0) pa_nil)) (pa_cons pe_int pa_nil)))) pa_nil)) (pg_name (i := 2) nd rfl (.inl rfl)) (pss_cons (ps_set (i := 3) nd rfl (.inl rfl) (pe_p pP (hr.mono (by decide)) (by rfl) (pa_cons (pv 1) (pa_cons (pe_lst (pa_cons pe_int (pa_cons pe_int (pa_cons pe_int (pa_cons pe_int pa_nil))))) pa_nil))))
      (pss_cons (ps_set (i := 4) nd rfl (.inl rfl) (pe_tab M T.mgC (hr.mono (by decide)) (by rfl) (pa_cons (pv 3) (pa_cons (pe_p pCa (hr.mono (by decide)) (by rfl) (pa_cons (pv 1) (pa_cons (pv 3) (pa_cons (pe_p pP (hr.mono (by decide)) (by rfl) (pa_cons (pv 1) (pa_cons (pe_lst (pa_cons pe_int (pa_cons pe_int pa_nil))) pa_nil))) (pa_cons pe_int pa_nil))))) pa_nil))))
      (pss_cons (ps_set (i := 5) nd rfl (.inl rfl) (pe_tab M T.mgC (hr.mono (by decide)) (by rfl) (pa_cons (pv 3) (pa_cons (pe_p pCa (hr.mono (by decide)) (by rfl) (pa_cons (pv 1) (pa_cons (pv 3) (pa_cons (pe_p pP (hr.mono (by decide)) (by rfl) (pa_cons (pv 1) (pa_cons (pe_lst (pa_cons pe_int (pa_cons pe_int pa_nil))) pa_nil))) (pa_cons pe_int pa_nil))))) pa_nil))))
      (pss_cons (ps_join (ps_if (pt_cmpR op_eq (pe_p pD (hr.mono (by decide)) (by rfl) (pa_cons (pv 1) (pa_cons pe_int pa_nil))) pe_int (nomark _)) (pss_one (ps_set (i := 5) nd rfl (.inl rfl) (pe_ifExp (pt_cmpR op_eq (pe_p pD (hr.mono (by decide)) (by rfl) (pa_cons (pv 1) (pa_cons pe_int pa_nil))) pe_int (nomark _)) (pe_p pBo (hr.mono (by decide)) (by rfl) (pa_cons (pv 4) (pa_cons (pv 5) pa_nil))) (pe_p pC (hr.mono (by decide)) (by rfl) (pa_cons (pv 4) pa_nil))))) pss_nil))
      (pss_cons (ps_asg (pe_tup (pa_cons (pe_p pBo (hr.mono (by decide)) (by rfl) (pa_cons (pv 4) (pa_cons (pv 5) pa_nil))) (pa_cons (pe_p pC (hr.mono (by decide)) (by rfl) (pa_cons (pv 4) pa_nil)) (pa_cons (pe_p pHi (hr.mono (by decide)) (by rfl) (pa_cons (pv 4) pa_nil)) (pa_cons (pe_p pLo (hr.mono (by decide)) (by rfl) (pa_cons (pv 4) pa_nil)) pa_nil))))) (pg_tup rfl (pgs_cons (pg_name (i := 6) nd rfl (.inl rfl)) (pgs_cons (pg_name (i := 7) nd rfl (.inl rfl)) (pgs_cons (pg_name (i := 8) nd rfl (.inl rfl)) (pgs_cons (pg_name (i := 9) nd rfl (.inl rfl)) pgs_nil))))))
      (pss_cons (ps_set (i := 10) nd rfl (.inr rfl) (pe_op op_add pe_int (pe_p pD (hr.mono (by decide)) (by rfl) (pa_cons (pv 1) (pa_cons (pv 3) pa_nil)))))
      (pss_cons (ps_join (ps_set (i := 11) nd rfl (.inl rfl) (pe_ifExp (pt_cmpR op_gt (pv 3) pe_int (nomark _)) (pe_p pH (hr.mono (by decide)) (by rfl) (pa_cons (pv 4) (pa_cons (pe_tup (pa_cons (pv 10) pa_nil)) pa_nil))) (pv 4))))
      (pss_cons (ps_par (i := 12) (j := 13) rfl nd rfl rfl (by decide) rfl rfl (pa_cons (pe_p pWi (hr.mono (by decide)) (by rfl) (pa_cons (pv 4) (pa_cons (pv 5) pa_nil))) (pa_cons pe_int pa_nil)) (by rfl))
      (pss_cons (ps_for PassesOwn.never rfl (pi_list (pe_p pWa (hr.mono (by decide)) (by rfl) (pa_cons (pv 3) pa_nil))) (pg_name (i := 14) nd rfl (.inl rfl)) (pss_cons (ps_set (i := 15) nd rfl (.inl rfl) (pe_fits MF T.cl (pv 4) (pa_cons (pv 14) pa_nil) (hr.mono (by decide))))
      (pss_cons (ps_set (i := 13) nd rfl (.inl rfl) (pe_op op_add (pv 13) (pe_callTy call_int1 (by rfl) T.b_int (by decide +kernel) (pa_cons (pv 15) pa_nil))))
      (pss_cons (ps_join (ps_if (PW.pt (pw_or (pt_cmpR op_ne (pe_fits MF T.cl (pv 7) (pa_cons (pv 14) pa_nil) (hr.mono (by decide))) (pv 15) (nomark _)) (pw_or1 (pt_cmpR op_ne (pe_fits MF T.cl (pv 6) (pa_cons (pv 14) pa_nil) (hr.mono (by decide))) (pe_and (pv 15) (pe_one (pe_fits MF T.cl (pv 5) (pa_cons (pv 14) pa_nil) (hr.mono (by decide))))) (nomark _))))) (pss_one (ps_ret pe_bl)) pss_nil))
      (pss_cons (ps_join (ps_if (PW.pt (pw_and (pt_val (pv 15)) (pw_and1 (PW.pt (pw_or (PW.pt (pw_and (pt_val (pv 12)) (pw_and1 (pt_not (pt_val (pe_fits MF T.cl (pv 5) (pa_cons (pv 14) pa_nil) (hr.mono (by decide)))))))) (pw_or1 (pt_val (pe_p pPa (hr.mono (by decide)) (by rfl) (pa_cons (pv 14) (pa_cons (pv 8) (pa_cons (pv 9) pa_nil))))))))))) (pss_one (ps_ret pe_bl)) pss_nil))
      (pss_one (ps_if (PW.pt (pw_and (pt_val (pv 15)) (pw_and1 (pt_cmpR op_gt (pv 3) pe_int (nomark _))))) (pss_cons (ps_set (i := 16) nd rfl (.inr rfl) (pe_lc (own := [("_law_k", 17), ("_law_level", 18)]) (g := gTup K 2 (gCons (gName 17) (gCons (gName 18) gNil))) rfl nd (pi_enumB (l := false) (by rfl) T.b_enumerate (pa_cons (pe_p pSu (hr.mono (by decide)) (by rfl) (pa_cons (pv 14) pa_nil)) pa_nil)) (blkOk_by (N := LN) (sc := defScope s_law) (by decide +kernel)) (fun _ _ _ _ _ => pg_tup rfl (pgs_cons (pg_name (i := 17) nd rfl (.inl rfl)) (pgs_cons (pg_name (i := 18) nd rfl (.inl rfl)) pgs_nil))) (fun _ _ _ _ _ => pts_one (pt_cmpR op_ne (pv 17) (pv 10) (nomark _))) (fun _ _ _ _ _ => (pv 18))))
      (pss_one (ps_if (pt_not (pt_val (pe_fits MF T.cl (pv 11) (pa_cons (pe_callTy call_tuple_of (by rfl) T.b_tuple (by decide +kernel) (pa_cons (pe_lc (own := [("_law_k", 17)]) (g := gName 17) rfl nd (pi_range1 (by rfl) T.b_range (pa_cons (pe_op op_sub (pv 3) pe_int) pa_nil)) (blkOk_by (N := LN) (sc := defScope s_law) (by decide +kernel)) (fun _ _ _ _ _ => (pg_name (i := 17) nd rfl (.inl rfl))) (fun _ _ _ _ _ => pts_nil) (fun _ _ _ _ _ => (pe_op op_sub (pe_ix (ix_listK (K := K) rfl) (pv 16) (pe_op op_add (pv 17) pe_int) (fun _ _ => rfl)) (pe_ix (ix_listK (K := K) rfl) (pv 16) (pv 17) (fun _ _ => rfl))))) pa_nil)) pa_nil) (hr.mono (by decide))))) (pss_one (ps_ret pe_bl)) pss_nil))) pss_nil)))))))
      (pss_cons (ps_join (ps_if (PW.pt (pw_or (PW.pt (pw_and (pt_cmp (pc_notN (pe_p pRi (hr.mono (by decide)) (by rfl) (pa_cons (pv 4) pa_nil)))) (pw_and1 (pt_cmpR op_gt (pv 13) pe_int (nomark _))))) (pw_or1 (PW.pt (pw_and (pt_not (pt_val (pv 12))) (pw_and1 (pt_not (pt_val (pe_p pOu hr (by rfl) (pa_cons (pv 4) (pa_cons (pv 5) (pa_cons (pv 3) pa_nil)))))))))))) (pss_one (ps_ret pe_bl)) pss_nil))
      (pss_one (ps_if (PW.pt (pw_or (pt_not (pt_val (pe_p pSa (hr.mono (by decide)) (by rfl) (pa_cons (pv 7) (pa_cons (pv 4) pa_nil))))) (pw_or (pt_not (pt_val (pe_p pWi (hr.mono (by decide)) (by rfl) (pa_cons (pv 6) (pa_cons (pv 4) pa_nil))))) (pw_or1 (pt_not (pt_val (pe_p pWi (hr.mono (by decide)) (by rfl) (pa_cons (pv 6) (pa_cons (pv 5) pa_nil))))))))) (pss_one (ps_ret pe_bl)) pss_nil)))))))))))))
      (pss_one (ps_ret pe_bl))), ?_⟩
  refine ⟨_, rfl, a, ns, rfl, ha, hl, fun p la ca H1 s1 fp fla st0 => ?_⟩
  have ha1 := s1.seq ha
  refine ⟨_, rfl, a, _, rfl, .inl ha1, _, _, rfl, _, _, rfl, rfl, _, rfl, (by split <;> omega), (by split <;> omega), ?_⟩
  refine for_it walk_rg (fun i σ H' => ∃ o2 o3 o4 o5 o6 o7 o8 o9 o10 o11 o12 o13 o14 o15 o16 o17 o18, σ = [some (.ref a), some (.ref p), o2, o3, o4, o5, o6, o7, o8, o9, o10, o11, o12, o13, o14, o15, o16, o17, o18] ∧ StAt H' p la ca (200 * i)) ⟨_, _, _, _, _, _, _, _, _, _, _, _, _, _, _, _, _, rfl, st0.mono (by omega)⟩ (fun _ _ _ _ _ => trivial) ?_ ?_
  · rintro i x σ H2 H3 hi ⟨o2, o3, o4, o5, o6, o7, o8, o9, o10, o11, o12, o13, o14, o15, o16, o17, o18, rfl, st2⟩ ⟨rfl, rfl⟩
    have hi2 : i ≤ 2 := by
      have hx : (1 + (if (2 : Int) < ((ns.map V.int).length : Int) then (2 : Int) else ((ns.map V.int).length : Int))).toNat ≤ 3 := by split <;> omega
      have : i < _ := hi
      omega
    refine ⟨_, rfl, Nat.le_of_lt (len_lt (by decide : 4 ≤ 5)), fun l1' hl1 => ?_⟩
    have s3 := same_new (o := .lst ([V.int 1, V.int 2, V.int 2, V.int 3])) hl1
    refine ⟨p, la, ca, l1', _, [1, 2, 2, 3], rfl, st2.keeps s3, by omega, upd_same, st2.nla hl1, by decide, by decide, fun n H4 hn b4 st4 => ?_⟩
    obtain ⟨nn, rfl, nn1, nn3⟩ : ∃ nn : Nat, n = (nn : Int) ∧ 1 ≤ nn ∧ nn ≤ 3 := by
      have : n = 1 ∨ n = 2 ∨ n = 3 := by
        simp at hn
        omega
      rcases this with rfl | rfl | rfl
      · exact ⟨1, rfl, by decide, by decide⟩
      · exact ⟨2, rfl, by decide, by decide⟩
      · exact ⟨3, rfl, by decide, by decide⟩
    have n1 : (1 : Int) ≤ nn := by omega
    have n3 : (nn : Int) ≤ 3 := by omega
    -- left
    refine ⟨_, rfl, _, rfl, _, rfl, _, rfl, l2, fun l2' hl2 => ?_⟩
    have s5 := same_new (o := .lst ([V.int 1, V.int 2])) hl2
    refine ⟨p, la, ca, l2', _, [1, 2], rfl, st4.keeps s5, by omega, upd_same, st4.nla hl2, by decide, by decide, fun th H5 hth b5 st5 => ?_⟩
    have hth2 : 1 ≤ th ∧ th ≤ 1000 := by
      simp at hth
      omega
    refine ⟨p, la, ca, _, nn, th, rfl, st5, by omega, n1, n3, hth2.1, hth2.2, fun d1 B1 H6 b6 hd1 g1 dm1 st6 => ?_⟩
    intro tp dxp htp0 hdxp hnep
    refine make_read1 n1 n3 hd1 g1 dm1 htp0 hdxp hnep fun H7 s7 tl7 => ?_
    have st7 := st6.keeps s7
    clear st6 st5 hth2 hth b5 b6 s5 hl2
    -- right
    refine ⟨_, rfl, _, rfl, _, rfl, _, rfl, l2, fun l3' hl3 => ?_⟩
    have s8 := same_new (o := .lst ([V.int 2, V.int 4])) hl3
    refine ⟨p, la, ca, l3', _, [2, 4], rfl, st7.keeps s8, by omega, upd_same, st7.nla hl3, by decide, by decide, fun th H8 hth b8 st8 => ?_⟩
    have hth2 : 1 ≤ th ∧ th ≤ 1000 := by
      simp at hth
      omega
    refine ⟨p, la, ca, _, nn, th, rfl, st8, by omega, n1, n3, hth2.1, hth2.2, fun d2 B2 H9 b9 hd2 g2 dm2 st9 => ?_⟩
    intro tq dxq htq0 hdxq hneq
    refine make_read1 n1 n3 hd2 g2 dm2 htq0 hdxq hneq fun H10 s10 tr10 => ?_
    have tl10 := (b9.tab st8 (b8.tab (st7.keeps s8) (tl7.keeps s8))).keeps s10
    have st10 := st9.keeps s10
    clear st9 st8 hth2 hth b8 b9 s8 hl3 st7 tl7
    generalize fn B1 = f at tl10
    generalize fn B2 = g at tr10
    -- right again
    refine ⟨fun σ' H' => ∃ q g, σ' = [some (.ref a), some (.ref p), some (.int (i : Int)), some (.int (nn : Int)), some (.ref tp), some (.ref q), o6, o7, o8, o9, o10, o11, o12, o13, o14, o15, o16, o17, o18] ∧ TabAt C H' tp nn f ∧ TabAt C H' q nn g ∧ StAt H' p la ca (200 * i + 160), ?_, ?_⟩
    rotate_left
    · refine ⟨_, rfl, p, la, ca, _, 2, rfl, st10, by omega, by decide, by decide, fun r H11 _ _ b11 st11 => ⟨rfl, _, rfl, ?_⟩⟩
      have tl11 := b11.tab st10 tl10
      have tr11 := b11.tab st10 tr10
      refine ite2 (fun _ => ?_) (fun _ => ?_)
      · refine ⟨_, rfl, p, la, ca, _, 2, rfl, st11, by omega, by decide, by decide, fun r H12 _ _ b12 st12 => ⟨rfl, _, rfl, ?_⟩⟩
        have tl12 := b12.tab st11 tl11
        have tr12 := b12.tab st11 tr11
        refine ite2 (fun _ => ?_) (fun _ => ?_)
        · refine ⟨_, rfl, _, rfl, tp, tq, nn, f, g, rfl, tl12, tr12, fun q H13 s13 t13 => ?_⟩
          exact ⟨q, _, rfl, tl12.keeps s13, t13, (st12.keeps s13).mono (by omega)⟩
        · refine ⟨_, rfl, tp, nn, f, rfl, tl12, fun q gc H13 s13 t13 _ => ?_⟩
          exact ⟨q, _, rfl, tl12.keeps s13, t13, (st12.keeps s13).mono (by omega)⟩
      · exact ⟨tq, g, rfl, tl11, tr11, st11.mono (by omega)⟩
    rintro _ H11 ⟨tq, g, rfl, tl, tr, st11⟩
    clear tr10 tl10 st10
    -- the four
    refine ⟨_, rfl, _, rfl, tp, tq, nn, f, g, rfl, tl, tr, fun ts H12 s12 tsh => ?_⟩
    refine ⟨_, rfl, tp, nn, f, rfl, tl.keeps s12, fun tk fk H13 s13 tkn hclo => ?_⟩
    have s13' := s12.trans s13
    refine ⟨_, rfl, tp, nn, f, rfl, tl.keeps s13', fun v1 H14 s14 hv1 => ?_⟩
    have s14' := s13'.trans s14
    refine ⟨_, rfl, tp, nn, f, rfl, tl.keeps s14', fun v2 H15 s15 hv2 => ?_⟩
    have s15' := s14'.trans s15
    refine ⟨Nat.le_of_lt (len_lt (by decide : 4 ≤ 5)), fun tt htt => ⟨tt, _, rfl, SqT.of upd_same, rfl, _, _, rfl, _, _, rfl, _, _, rfl, _, _, rfl, rfl, ?_⟩⟩
    have s16 := same_new (o := .tup ([V.ref ts, V.ref tk, v1, v2])) htt
    have s16' := s15'.trans s16
    have tl16 := tl.keeps s16'
    have tr16 := tr.keeps s16'
    have ts16 := tsh.keeps (((s13.trans s14).trans s15).trans s16)
    have tk16 := tkn.keeps ((s14.trans s15).trans s16)
    have e16 := hv1.keeps (s15.trans s16)
    have u16 := hv2.keeps s16
    have st16 := st11.keeps s16'
    clear tl tr tsh tkn hv1 hv2 st11 s16 s15 s14 s13 s12 s13' s14' s15' s16'
    generalize upd H15 tt (.tup ([V.ref ts, V.ref tk, v1, v2])) = H16 at tl16 tr16 ts16 tk16 e16 u16 st16
    -- the spot
    refine ⟨_, rfl, _, rfl, p, la, ca, _, nn, rfl, st16, by omega, n1, by omega, fun r H17 r0 r1 b17 st17 => ⟨_, _, rfl, rfl, ?_⟩⟩
    have bE : ∀ {s v}, EndIs H16 nn s f v → EndIs H17 nn s f v := by
      intro s v h
      rcases h with h | ⟨t, ts, z1, z2, z3⟩
      · exact .inl h
      · have := st16.ne z2 (fun _ z => by cases z) (fun _ z => by cases z)
        exact .inr ⟨t, ts, z1, b17 _ _ z2 this.1 this.2, z3⟩
    have tl17 := b17.tab st16 tl16
    have tr17 := b17.tab st16 tr16
    have ts17 := b17.tab st16 ts16
    have tk17 := b17.tab st16 tk16
    have e17 := bE e16
    have u17 := bE u16
    clear tl16 tr16 ts16 tk16 e16 u16 st16 bE
    -- the slim one
    refine ⟨fun σ' H' => ∃ v, σ' = [some (.ref a), some (.ref p), some (.int (i : Int)), some (.int (nn : Int)), some (.ref tp), some (.ref tq), some (.ref ts), some (.ref tk), some v1, some v2, some (.int (1 + r)), some v, o12, o13, o14, o15, o16, o17, o18] ∧ Same H17 H' ∧
      ((1 : Int) < nn → ∃ ra h, v = .ref ra ∧ TabAt C H' ra (nn - 1) h ∧ ∀ L, Fit f L → Fit h fun i => L (skip (1 + r) i)), ?_, ?_⟩
    rotate_left
    · refine ⟨_, rfl, _, _, rfl, rfl, _, rfl, ?_⟩
      by_cases hnn : (1 : Int) < nn
      · refine iteD hnn ⟨_, rfl, _, rfl, l1, fun t1 ht1 => ?_⟩
        have s18 := same_new (o := .tup [V.int (1 + r)]) ht1
        refine ⟨tp, t1, nn, 1 + r, f, rfl, tl17.keeps s18, upd_same, by omega, by omega, by omega, fun ra h H18 s' th hf => ?_⟩
        exact ⟨_, rfl, s18.trans s', fun _ => ⟨ra, h, rfl, th, hf⟩⟩
      · exact iteN hnn ⟨_, rfl, _, rfl, Same.refl _, fun z => absurd z hnn⟩
    rintro _ H18 ⟨v, rfl, s18, hv⟩
    have tl18 := tl17.keeps s18
    have tr18 := tr17.keeps s18
    have ts18 := ts17.keeps s18
    have tk18 := tk17.keeps s18
    have e18 := e17.keeps s18
    have u18 := u17.keeps s18
    have st18 := st17.keeps s18
    -- is it in
    refine ⟨_, rfl, _, rfl, tp, tq, nn, f, g, rfl, tl18, tr18, fun bi H19 s19 hbi => ⟨_, _, rfl, ?_⟩⟩
    refine ⟨_, rfl, nn, rfl, nn3, fun LL H20 s20 ⟨ps, w1, w2, w3⟩ => ⟨LL, rfl, ⟨_, SqL.of w1⟩, ?_⟩⟩
    have s20' := s19.trans s20
    have tl20 := tl18.keeps s20'
    have tr20 := tr18.keeps s20'
    have ts20 := ts18.keeps s20'
    have tk20 := tk18.keeps s20'
    have e20 := e18.keeps s20'
    have u20 := u18.keeps s20'
    have st20 := st18.keeps s20'
    have hv20 : (1 : Int) < nn → ∃ ra h, v = .ref ra ∧ TabAt C H20 ra (nn - 1) h ∧ ∀ L, Fit f L → Fit h fun i => L (skip (1 + r) i) := fun z => by
      obtain ⟨ra, h, z1, z2, z3⟩ := hv z
      exact ⟨ra, h, z1, z2.keeps s20', z3⟩
    clear tl17 tr17 ts17 tk17 e17 u17 st17 tl18 tr18 ts18 tk18 e18 u18 st18 hv s20' s19 s18
    refine for_list (K := K) (a := LL) (xs := ps.map fun y => V.ref y.1) (fun j σ H' => ∃ fi o14 o15 o16 o17 o18, σ = [some (.ref a), some (.ref p), some (.int (i : Int)), some (.int (nn : Int)), some (.ref tp), some (.ref tq), some (.ref ts), some (.ref tk), some v1, some v2, some (.int (1 + r)), some v, some (.bl bi), some (.int fi), o14, o15, o16, o17, o18] ∧ Same H20 H' ∧ ((0 : Int) < fi → ∃ L, Fit f L))
      ⟨0, _, _, _, _, _, rfl, Same.refl _, fun z => absurd z (Int.lt_irrefl 0)⟩ (fun j σ H' _ ⟨_, _, _, _, _, _, _, z, _⟩ => SqL.of (z _ _ w1)) ?_ ?_
    · rintro j x σ H21 hx ⟨fi, o14, o15, o16, o17, o18, rfl, s21, hfi⟩
      obtain ⟨⟨tw, wn⟩, hy, rfl⟩ := map_at hx
      obtain ⟨htw, hwl⟩ := w2 _ (List.mem_of_getElem? hy)
      have wl : (wn.length : Int) = nn := by
        have : wn.length = nn := hwl
        omega
      have htw21 := s21 _ _ htw
      have tl21 := tl20.keeps s21
      obtain ⟨dxl, dl, Bl, hl1, hl2, _⟩ := id tl21
      refine ⟨_, rfl, tp, dxl, _, rfl, hl1, flds_fits _ _, _, rfl, tp, tw, nn, f, wn, rfl, tl21, htw21, wl, fun b1 H22 s22 hb1 => ?_⟩
      refine ⟨_, rfl, _, rfl, .inr ⟨b1, rfl, _, _, rfl, rfl, ?_⟩⟩
      have s22' := s21.trans s22
      have tr21 := tr20.keeps s22'
      have ts21 := ts20.keeps s22'
      have tk21 := tk20.keeps s22'
      have e21 := e20.keeps s22'
      have u21 := u20.keeps s22'
      have htw22 := s22 _ _ htw21
      -- known, shared
      refine ⟨fun σ' H' => σ' = [some (.ref a), some (.ref p), some (.int (i : Int)), some (.int (nn : Int)), some (.ref tp), some (.ref tq), some (.ref ts), some (.ref tk), some v1, some v2, some (.int (1 + r)), some v, some (.bl bi), some (.int (fi + (if b1 = true then 1 else 0))), some (.ref tw), some (.bl b1), o16, o17, o18] ∧ Same H22 H', ?_, ?_⟩
      rotate_left
      · obtain ⟨dxk, dk, Bk, hk1, hk2, _⟩ := id tk21
        refine ⟨_, rfl, tk, dxk, _, rfl, hk1, flds_fits _ _, _, rfl, tk, tw, nn, fk, wn, rfl, tk21, htw22, wl, fun b2 H23 s23 hb2 => ⟨_, rfl, rfl, _, rfl, ?_⟩⟩
        have hb21 : b2 = b1 := by
          rw [Bool.eq_iff_iff]
          exact hb2.trans ((hclo.fit _).trans hb1.symm)
        subst hb21
        refine iteNS rfl ?_
        obtain ⟨dxs, dls, Bs, hs1, hs2, _⟩ := (ts21.keeps s23)
        refine ⟨_, rfl, ts, dxs, _, rfl, hs1, flds_fits _ _, _, rfl, ts, tw, nn, _, wn, rfl, ts21.keeps s23, s23 _ _ htw22, wl, fun b3 H24 s24 hb3 => ?_⟩
        have h3 := hb3.trans fit_both
        refine ⟨_, rfl, b2, rfl, ?_⟩
        cases b2 with
        | false =>
          have : b3 = false := by
            cases b3 with
            | false => rfl
            | true => exact absurd (hb1.mpr (h3.mp rfl).1) (by decide)
          subst this
          exact iteF ⟨rfl, _, rfl, iteNS rfl ⟨rfl, s23.trans s24⟩⟩
        | true =>
          have s24' := s23.trans s24
          obtain ⟨dxr, dr, Br, hr1, hr2, _⟩ := (tr21.keeps s24')
          refine iteT ⟨_, rfl, tq, dxr, _, rfl, hr1, flds_fits _ _, _, rfl, tq, tw, nn, g, wn, rfl, tr21.keeps s24', s24' _ _ htw22, wl, fun b4 H25 s25 hb4 => ⟨rfl, _, rfl, ?_⟩⟩
          have : b3 = b4 := by
            rw [Bool.eq_iff_iff]
            exact h3.trans ⟨fun z => hb4.mpr z.2, fun z => ⟨hb1.mp rfl, hb4.mp z⟩⟩
          subst this
          exact iteNS rfl ⟨rfl, s24'.trans s25⟩
      rintro _ H23 ⟨rfl, s23⟩
      have htw23 := s23 _ _ htw22
      -- not passed
      refine ⟨fun σ' H' => σ' = [some (.ref a), some (.ref p), some (.int (i : Int)), some (.int (nn : Int)), some (.ref tp), some (.ref tq), some (.ref ts), some (.ref tk), some v1, some v2, some (.int (1 + r)), some v, some (.bl bi), some (.int (fi + (if b1 = true then 1 else 0))), some (.ref tw), some (.bl b1), o16, o17, o18] ∧ Same H23 H', ?_, ?_⟩
      rotate_left
      · refine ⟨_, rfl, b1, rfl, ?_⟩
        cases b1 with
        | false => exact iteF (iteF ⟨rfl, Same.refl _⟩)
        | true =>
          have hfit := hb1.mp rfl
          refine iteT ⟨_, rfl, bi, rfl, ?_⟩
          cases bi with
          | false =>
            refine iteF (iteF ?_)
            refine ⟨_, rfl, _, rfl, _, rfl, tw, v1, v2, nn, f, wn, rfl, htw23, wl, n1, n3, e21.keeps s23, u21.keeps s23, hfit, fun H25 s25 => ⟨_, rfl, iteF ⟨rfl, s25⟩⟩⟩
          | true =>
            obtain ⟨dxr, dr, Br, hr1, hr2, _⟩ := (tr21.keeps s23)
            refine iteT ⟨_, rfl, tq, dxr, _, rfl, hr1, flds_fits _ _, _, rfl, tq, tw, nn, g, wn, rfl, tr21.keeps s23, htw23, wl, fun b4 H24 s24 hb4 => ⟨b4, rfl, ?_⟩⟩
            have : b4 = true := hb4.mpr (hbi.mp rfl _ hfit)
            subst this
            refine iteF ?_
            refine ⟨_, rfl, _, rfl, _, rfl, tw, v1, v2, nn, f, wn, rfl, (s24 _ _ htw23), wl, n1, n3, e21.keeps (s23.trans s24), u21.keeps (s23.trans s24), hfit, fun H25 s25 => ⟨_, rfl, iteF ⟨rfl, s24.trans s25⟩⟩⟩
      rintro _ H24 ⟨rfl, s24⟩
      have htw24 := s24 _ _ htw23
      have s24' : Same H20 H24 := (s22'.trans s23).trans s24
      -- the slim one's water
      have hfi' : (0 : Int) < fi + (if b1 = true then 1 else 0) → ∃ L, Fit f L := by
        intro z
        cases b1 with
        | true => exact ⟨_, hb1.mp rfl⟩
        | false => exact hfi (by simpa using z)
      refine ⟨_, rfl, b1, rfl, ?_⟩
      cases b1 with
      | false => exact iteF (iteF ⟨_, _, _, _, _, _, rfl, s24', hfi'⟩)
      | true =>
        have hfit := hb1.mp rfl
        refine iteT ⟨_, rfl, _, _, rfl, rfl, _, rfl, ?_⟩
        by_cases hnn : (1 : Int) < nn
        · refine iteD hnn ?_
          obtain ⟨ra, h, rfl, tra, hh⟩ := hv20 hnn
          refine ⟨_, rfl, tw, wn, rfl, htw24, by omega, by omega, fun tsm H25 s25 htsm => ⟨tsm, _, rfl, SqT.of htsm, fun Dn hDn => ?_⟩⟩
          refine lc_it (walk_enumB (l := false) (K := K) (a := tsm) (xs := (pre wn).map V.int)) (fun m H' => LcP H25 Dn (((stay (1 + r) m).map fun c => lv (pre wn) c).map V.int) H') (LcP.start hDn) (fun _ H' _ z => SqT.of (z.1 _ _ htsm)) ?_ ?_
          · rintro m x H26 H27 hm z ⟨T1, x1, y1, rfl, hT, rfl, hx1, hy1⟩
            cases hx1
            obtain ⟨y2, hy2, rfl⟩ := map_at hy1
            rw [List.length_map, pre_len] at hm
            rw [pre_get (by omega)] at hy2
            cases hy2
            have z2 := z.keeps (same_new (o := .tup [V.int (m : Int), V.int (lv (pre wn) (m : Int))]) hT)
            refine ⟨T1, _, rfl, SqT.of upd_same, rfl, _, _, rfl, _, _, rfl, rfl, rfl, _, rfl, _, rfl, rfl, _, rfl, ?_⟩
            by_cases hms : (m : Int) = 1 + r
            · rw [show decide (V.int (m : Int) = V.int (1 + r)) = true from decide_eq_true (by rw [hms])]
              refine iteF ?_
              rw [stay_step, if_pos hms]
              exact z2
            · rw [show decide (V.int (m : Int) = V.int (1 + r)) = false from decide_eq_false (fun q => hms (V.int.inj q))]
              refine iteT ⟨_, rfl, ?_⟩
              refine z2.put hDn (len_lt (by rw [List.length_map, List.length_map]; have := stay_len (s := 1 + r) (i := m); omega : _ ≤ 10)) ?_
              rw [stay_step, if_neg hms, List.map_append, List.map_append]
              rfl
          · intro H26 z
            rw [List.length_map, pre_len, show wn.length + 1 = ((nn : Int) + 1).toNat by omega, stay_all (by omega) n3 (by omega) (by omega)] at z
            obtain ⟨ls, hls⟩ : ∃ ls, ls = ((List.range (nn : Int).toNat).map fun (i : Nat) => skip (1 + r) i).map fun c => lv (pre wn) c := ⟨_, rfl⟩
            rw [← hls] at z
            have lsl : (ls.length : Int) = nn := by
              rw [hls, List.length_map, List.length_map, List.length_range]
              omega
            have lsv : ∀ c : Int, 0 ≤ c → c ≤ (nn : Int) - 1 → lv ls c = lv (pre wn) (skip (1 + r) c) := by
              intro c c0 c1
              obtain ⟨cc, rfl⟩ := Int.eq_ofNat_of_zero_le c0
              rw [show lv ls (cc : Int) = ls[((cc : Int)).toNat]?.getD 0 from rfl, Int.toNat_natCast, hls, List.getElem?_map, List.getElem?_map, List.getElem?_range (by omega)]
              rfl
            have ls0 : ls[0]? = some 0 := by
              have h0 : lv ls 0 = 0 := by
                rw [lsv 0 (Int.le_refl _) (by omega)]
                unfold skip
                rw [if_pos (by omega), pre_zero]
              have hlt : 0 < ls.length := by omega
              unfold lv at h0
              rw [show (0 : Int).toNat = 0 from rfl, List.getElem?_eq_getElem hlt] at h0
              rw [List.getElem?_eq_getElem hlt]
              exact congrArg some h0
            have hd26 := z.2
            have s26 := s25.trans z.1
            have tra26 := (tra.keeps s24').keeps s26
            obtain ⟨dxra, dra, Bra, hra1, hra2, _⟩ := id tra26
            refine ⟨_, rfl, ra, dxra, _, rfl, hra1, flds_fits _ _, ?_⟩
            refine ⟨_, rfl, _, _, rfl, rfl, (nn : Int) - 1, rfl, by omega, by omega, fun D2 hD2 => ?_⟩
            refine lc_it walk_rg (fun m H' => LcP H26 D2 (((List.range m).map fun c => (ls[c + 1]?.getD 0) - (ls[c]?.getD 0)).map V.int) H') (LcP.start hD2) (fun _ _ _ _ => trivial) ?_ ?_
            · rintro m x H27 H28 hm zz ⟨rfl, rfl⟩
              have a1 := atI_lv (ls := ls) (a := (m : Int) + 1) (by omega) (by omega)
              have a2 := atI_lv (ls := ls) (a := (m : Int)) (by omega) (by omega)
              refine ⟨rfl, _, rfl, _, rfl, _, _, rfl, rfl, Dn, _, _, _, rfl, rfl, SqL.of (zz.1 _ _ hd26), a1, _, rfl, _, rfl, Dn, _, _, _, rfl, rfl, SqL.of (zz.1 _ _ hd26), a2, _, _, rfl, rfl, ?_⟩
              refine zz.put hD2 (len_lt (by rw [List.length_map, List.length_map, List.length_range]; omega : _ ≤ 10)) ?_
              rw [List.range_succ, List.map_append, List.map_append]
              rfl
            · intro H27 zz
              refine ⟨D2, _, rfl, .inl ⟨SqL.of zz.2, fun t2 ht2 => ?_⟩⟩
              have s28 := zz.1.upd_new (o := .tup (((List.range ((nn : Int) - 1).toNat).map fun c => (ls[c + 1]?.getD 0) - (ls[c]?.getD 0)).map V.int)) ht2
              have ed : (List.range ((nn : Int) - 1).toNat).map (fun c => (ls[c + 1]?.getD 0) - (ls[c]?.getD 0)) = dif ls := by
                unfold dif
                rw [show ((nn : Int) - 1).toNat = ls.length - 1 by omega]
              refine ⟨ra, t2, nn - 1, h, dif ls, rfl, tra26.keeps s28, by rw [← ed]; exact upd_same, by rw [dif_len]; omega, fun b5 H29 s29 hb5 => ⟨b5, rfl, ?_⟩⟩
              have : b5 = true := by
                refine hb5.mpr (fit_congr tra.rng.2.2 (fun c c0 c1 => ?_) (hh _ hfit))
                rw [lv_dif ls0 c0 (by omega), lsv c c0 c1]
              subst this
              exact iteF ⟨_, _, _, _, _, _, rfl, ((s24'.trans s26).trans s28).trans s29, hfi'⟩
        · exact iteN hnn ⟨_, _, _, _, _, _, rfl, s24', hfi'⟩
    · rintro σ H21 ⟨fi, o14, o15, o16, o17, o18, rfl, s21, hfi⟩
      have tl21 := tl20.keeps s21
      have tr21 := tr20.keeps s21
      have ts21 := ts20.keeps s21
      have tk21 := tk20.keeps s21
      have st21 := st20.keeps s21
      refine ⟨fun σ' H' => σ' = [some (.ref a), some (.ref p), some (.int (i : Int)), some (.int (nn : Int)), some (.ref tp), some (.ref tq), some (.ref ts), some (.ref tk), some v1, some v2, some (.int (1 + r)), some v, some (.bl bi), some (.int fi), o14, o15, o16, o17, o18] ∧ Same H21 H', ?_, ?_⟩
      rotate_left
      · have second : ∀ H22, Same H21 H22 → True := fun _ _ => trivial
        refine ⟨_, rfl, tp, nn, f, rfl, tl21, fun rv H22 s22 hrv => ⟨_, rfl, ?_⟩⟩
        have out : bi = false → ¬ Imp f g := fun z q => by
          rw [hbi.mpr q] at z
          cases z
        rcases hrv with rfl | ⟨qq, rfl, no⟩
        · refine iteF (iteF ⟨_, rfl, bi, rfl, ?_⟩)
          cases bi with
          | true => exact iteF (iteF ⟨rfl, s22⟩)
          | false => exact iteT ⟨_, rfl, _, rfl, _, rfl, tp, tq, nn, f, g, rfl, tl21.keeps s22, tr21.keeps s22, out rfl, fun H23 s23 => ⟨true, rfl, iteF ⟨rfl, s22.trans s23⟩⟩⟩
        · refine iteT ⟨_, rfl, _, _, rfl, rfl, _, rfl, ?_⟩
          have hf0 : ¬ (0 : Int) < fi := fun z => by
            obtain ⟨L, hL⟩ := hfi z
            exact no L hL
          refine iteN hf0 ⟨_, rfl, bi, rfl, ?_⟩
          cases bi with
          | true => exact iteF (iteF ⟨rfl, s22⟩)
          | false => exact iteT ⟨_, rfl, _, rfl, _, rfl, tp, tq, nn, f, g, rfl, tl21.keeps s22, tr21.keeps s22, out rfl, fun H23 s23 => ⟨true, rfl, iteF ⟨rfl, s22.trans s23⟩⟩⟩
      rintro _ H22 ⟨rfl, s22⟩
      refine ⟨_, rfl, _, rfl, tk, tp, nn, fk, f, rfl, tk21.keeps s22, tl21.keeps s22, fun b1 H23 s23 h1 => ⟨b1, rfl, ?_⟩⟩
      have : b1 = true := h1.mpr ⟨fun L hL => (hclo.fit L).mp hL, fun L hL => (hclo.fit L).mpr hL⟩
      subst this
      have s23' := s22.trans s23
      refine iteF ⟨_, rfl, _, rfl, ts, tp, nn, _, f, rfl, ts21.keeps s23', tl21.keeps s23', fun b2 H24 s24 h2 => ⟨b2, rfl, ?_⟩⟩
      have : b2 = true := h2.mpr fun L hL => (fit_both.mp hL).1
      subst this
      have s24' := s23'.trans s24
      refine iteF ⟨_, rfl, _, rfl, ts, tq, nn, _, g, rfl, ts21.keeps s24', tr21.keeps s24', fun b3 H25 s25 h3 => ⟨b3, rfl, ?_⟩⟩
      have : b3 = true := h3.mpr fun L hL => (fit_both.mp hL).2
      subst this
      refine iteF ⟨_, _, _, _, _, _, _, _, _, _, _, _, _, _, _, _, _, rfl, ((st21.keeps s24').keeps s25).mono (by omega)⟩
  · rintro σ H2 ⟨o2, o3, o4, o5, o6, o7, o8, o9, o10, o11, o12, o13, o14, o15, o16, o17, o18, rfl, _⟩
    exact k H2
end
end Bw

/-! What the top has written; the row. -/
namespace Bw
open PySem PySem.Spec PyProof.Rows L2
set_option maxHeartbeats 0 in
theorem all_mk {l : PySem.W.OpenLaw} {w : World} {K : PySem.W.Frag} {h : Heap} {mg : Str → Option Value} {fa C pB tI f8 f9 f10 f11 f12 f13 f14 f16 f17 f18 f19 f20 f21 f22 f23 f24 f25 f26 f27 f28 f29 f30 f31 f32 f33 f34 f35 f36 f37 f39 f40 f41 f42 f43 f44 f45 f46 fI fB fF : Addr} {restB : List Value} {tMC : Tok} {ocT : Value} {odT : Option Addr} {nT : Nat} {slT : Array (Option Value)} (X : K.In h) (G : h.Ns mainGlobals mg) (hfa : mg "law" = some (.ref fa))
    {od8 an8 : Option Addr} {sl8 : Array (Option Value)} {oc8 kV8 dc8 pm8 cd8 ct8 : Value} 
    {od9 an9 : Option Addr} {sl9 : Array (Option Value)} {oc9 kV9 dc9 pm9 cd9 ct9 : Value} 
    {od10 an10 : Option Addr} {sl10 : Array (Option Value)} {oc10 kV10 dc10 pm10 cd10 ct10 : Value} 
    {od11 an11 : Option Addr} {sl11 : Array (Option Value)} {oc11 kV11 dc11 pm11 cd11 ct11 : Value} 
    {od12 an12 : Option Addr} {sl12 : Array (Option Value)} {oc12 kV12 dc12 pm12 cd12 ct12 : Value} 
    {od13 an13 : Option Addr} {sl13 : Array (Option Value)} {oc13 kV13 dc13 pm13 cd13 ct13 : Value} 
    {od14 an14 : Option Addr} {sl14 : Array (Option Value)} {oc14 kV14 dc14 pm14 cd14 ct14 : Value} 
    {od16 an16 : Option Addr} {sl16 : Array (Option Value)} {oc16 kV16 dc16 pm16 cd16 ct16 : Value} 
    {od17 an17 : Option Addr} {sl17 : Array (Option Value)} {oc17 kV17 dc17 pm17 cd17 ct17 : Value} 
    {od18 an18 : Option Addr} {sl18 : Array (Option Value)} {oc18 kV18 dc18 pm18 cd18 ct18 : Value} 
    {od19 an19 : Option Addr} {sl19 : Array (Option Value)} {oc19 kV19 dc19 pm19 cd19 ct19 : Value} 
    {od20 an20 : Option Addr} {sl20 : Array (Option Value)} {oc20 kV20 dc20 pm20 cd20 ct20 : Value} 
    {od21 an21 : Option Addr} {sl21 : Array (Option Value)} {oc21 kV21 dc21 pm21 cd21 ct21 : Value} 
    {od22 an22 : Option Addr} {sl22 : Array (Option Value)} {oc22 kV22 dc22 pm22 cd22 ct22 : Value} 
    {od23 an23 : Option Addr} {sl23 : Array (Option Value)} {oc23 kV23 dc23 pm23 cd23 ct23 : Value} 
    {od24 an24 : Option Addr} {sl24 : Array (Option Value)} {oc24 kV24 dc24 pm24 cd24 ct24 : Value} 
    {od25 an25 : Option Addr} {sl25 : Array (Option Value)} {oc25 kV25 dc25 pm25 cd25 ct25 : Value} 
    {od26 an26 : Option Addr} {sl26 : Array (Option Value)} {oc26 kV26 dc26 pm26 cd26 ct26 : Value} 
    {od27 an27 : Option Addr} {sl27 : Array (Option Value)} {oc27 kV27 dc27 pm27 cd27 ct27 : Value} 
    {od28 an28 : Option Addr} {sl28 : Array (Option Value)} {oc28 kV28 dc28 pm28 cd28 ct28 : Value} 
    {od29 an29 : Option Addr} {sl29 : Array (Option Value)} {oc29 kV29 dc29 pm29 cd29 ct29 : Value} 
    {od30 an30 : Option Addr} {sl30 : Array (Option Value)} {oc30 kV30 dc30 pm30 cd30 ct30 : Value} 
    {od31 an31 : Option Addr} {sl31 : Array (Option Value)} {oc31 kV31 dc31 pm31 cd31 ct31 : Value} 
    {od32 an32 : Option Addr} {sl32 : Array (Option Value)} {oc32 kV32 dc32 pm32 cd32 ct32 : Value} 
    {od33 an33 : Option Addr} {sl33 : Array (Option Value)} {oc33 kV33 dc33 pm33 cd33 ct33 : Value} 
    {od34 an34 : Option Addr} {sl34 : Array (Option Value)} {oc34 kV34 dc34 pm34 cd34 ct34 : Value} 
    {od35 an35 : Option Addr} {sl35 : Array (Option Value)} {oc35 kV35 dc35 pm35 cd35 ct35 : Value} 
    {od36 an36 : Option Addr} {sl36 : Array (Option Value)} {oc36 kV36 dc36 pm36 cd36 ct36 : Value} 
    {od37 an37 : Option Addr} {sl37 : Array (Option Value)} {oc37 kV37 dc37 pm37 cd37 ct37 : Value} 
    {od39 an39 : Option Addr} {sl39 : Array (Option Value)} {oc39 kV39 dc39 pm39 cd39 ct39 : Value} 
    {od40 an40 : Option Addr} {sl40 : Array (Option Value)} {oc40 kV40 dc40 pm40 cd40 ct40 : Value} 
    {od41 an41 : Option Addr} {sl41 : Array (Option Value)} {oc41 kV41 dc41 pm41 cd41 ct41 : Value} 
    {od42 an42 : Option Addr} {sl42 : Array (Option Value)} {oc42 kV42 dc42 pm42 cd42 ct42 : Value} 
    {od43 an43 : Option Addr} {sl43 : Array (Option Value)} {oc43 kV43 dc43 pm43 cd43 ct43 : Value} 
    {od44 an44 : Option Addr} {sl44 : Array (Option Value)} {oc44 kV44 dc44 pm44 cd44 ct44 : Value} 
    {od45 an45 : Option Addr} {sl45 : Array (Option Value)} {oc45 kV45 dc45 pm45 cd45 ct45 : Value} 
    {od46 an46 : Option Addr} {sl46 : Array (Option Value)} {oc46 kV46 dc46 pm46 cd46 ct46 : Value} 
    {odI anI : Option Addr} {slI : Array (Option Value)} {ocI kVI dcI pmI cdI ctI : Value} 
    {odB anB : Option Addr} {slB : Array (Option Value)} {ocB kVB dcB pmB cdB ctB : Value} 
    {odF anF : Option Addr} {slF : Array (Option Value)} {ocF kVF dcF pmF cdF ctF : Value} 
    (aC : PySem.W.nsIn K mainGlobals "Table" = some (some (.ref C))) (pg : PySem.W.plainGet K C Str.empty = true) (hd : PySem.W.hasDictIn K C = true) (po : PySem.W.plainOver K C = true) (sa : PySem.W.findIn K (.ref C) "__setattr__" = some (some (.builtin "object.__setattr__"))) (mk : PySem.W.makesIn K C = true) (kc : PySem.W.keepIn K (.ref C) = true) (nS : PySem.W.findIn K (.ref C) "own_size" = some none) (nB : PySem.W.findIn K (.ref C) "own_bounds" = some none) (y1 : PySem.W.findIn K (.ref C) "__class__" = some (some (.builtin "object.__class__"))) (y2 : PySem.W.specialIn K (.builtin "object.__class__") "__get__" = some (some (.builtin "getset_descriptor.__get__"))) (y3 : PySem.W.takesIn K (.builtin "object.__class__") = some true) (y4 : PySem.W.mroIn K C (.type "object") = some true) (mc : PySem.W.nsIn K mainGlobals "MOST_CELLS" = some (some (.int 12 tMC)))
    (a8 : PySem.W.nsIn K mainGlobals "is_number" = some (some (.ref f8))) (l8 : K.lookup f8 = some ⟨oc8, od8, .func (PySem.W.fnOf "is_number" "is_number" (defArgs s_is_number) (defBody s_is_number) (defScope s_is_number) .none kV8 dc8 pm8 an8 cd8 ct8), sl8⟩) (c8 : PySem.W.codeIn K cd8 "is_number" = true) (k8 : PySem.W.keepIn K (.ref f8) = true)
    (a9 : PySem.W.nsIn K mainGlobals "is_water" = some (some (.ref f9))) (l9 : K.lookup f9 = some ⟨oc9, od9, .func (PySem.W.fnOf "is_water" "is_water" (defArgs s_is_water) (defBody s_is_water) (defScope s_is_water) .none kV9 dc9 pm9 an9 cd9 ct9), sl9⟩) (c9 : PySem.W.codeIn K cd9 "is_water" = true) (k9 : PySem.W.keepIn K (.ref f9) = true)
    (a10 : PySem.W.nsIn K mainGlobals "sums_of" = some (some (.ref f10))) (l10 : K.lookup f10 = some ⟨oc10, od10, .func (PySem.W.fnOf "sums_of" "sums_of" (defArgs s_sums_of) (defBody s_sums_of) (defScope s_sums_of) .none kV10 dc10 pm10 an10 cd10 ct10), sl10⟩) (c10 : PySem.W.codeIn K cd10 "sums_of" = true) (k10 : PySem.W.keepIn K (.ref f10) = true)
    (a11 : PySem.W.nsIn K mainGlobals "sums" = some (some (.ref f11))) (l11 : K.lookup f11 = some ⟨oc11, od11, .func (PySem.W.fnOf "sums" "sums" (defArgs s_sums) (defBody s_sums) (defScope s_sums) .none kV11 dc11 pm11 an11 cd11 ct11), sl11⟩) (c11 : PySem.W.codeIn K cd11 "sums" = true) (k11 : PySem.W.keepIn K (.ref f11) = true)
    (a12 : PySem.W.nsIn K mainGlobals "water_of" = some (some (.ref f12))) (l12 : K.lookup f12 = some ⟨oc12, od12, .func (PySem.W.fnOf "water_of" "water_of" (defArgs s_water_of) (defBody s_water_of) (defScope s_water_of) .none kV12 dc12 pm12 an12 cd12 ct12), sl12⟩) (c12 : PySem.W.codeIn K cd12 "water_of" = true) (k12 : PySem.W.keepIn K (.ref f12) = true)
    (a13 : PySem.W.nsIn K mainGlobals "is_point" = some (some (.ref f13))) (l13 : K.lookup f13 = some ⟨oc13, od13, .func (PySem.W.fnOf "is_point" "is_point" (defArgs s_is_point) (defBody s_is_point) (defScope s_is_point) .none kV13 dc13 pm13 an13 cd13 ct13), sl13⟩) (c13 : PySem.W.codeIn K cd13 "is_point" = true) (k13 : PySem.W.keepIn K (.ref f13) = true)
    (a14 : PySem.W.nsIn K mainGlobals "is_pair" = some (some (.ref f14))) (l14 : K.lookup f14 = some ⟨oc14, od14, .func (PySem.W.fnOf "is_pair" "is_pair" (defArgs s_is_pair) (defBody s_is_pair) (defScope s_is_pair) .none kV14 dc14 pm14 an14 cd14 ct14), sl14⟩) (c14 : PySem.W.codeIn K cd14 "is_pair" = true) (k14 : PySem.W.keepIn K (.ref f14) = true)
    (a16 : PySem.W.nsIn K mainGlobals "fits_sums" = some (some (.ref f16))) (l16 : K.lookup f16 = some ⟨oc16, od16, .func (PySem.W.fnOf "fits_sums" "fits_sums" (defArgs s_fits_sums) (defBody s_fits_sums) (defScope s_fits_sums) .none kV16 dc16 pm16 an16 cd16 ct16), sl16⟩) (c16 : PySem.W.codeIn K cd16 "fits_sums" = true) (k16 : PySem.W.keepIn K (.ref f16) = true)
    (a17 : PySem.W.nsIn K mainGlobals "need_table" = some (some (.ref f17))) (l17 : K.lookup f17 = some ⟨oc17, od17, .func (PySem.W.fnOf "need_table" "need_table" (defArgs s_need_table) (defBody s_need_table) (defScope s_need_table) .none kV17 dc17 pm17 an17 cd17 ct17), sl17⟩) (c17 : PySem.W.codeIn K cd17 "need_table" = true) (k17 : PySem.W.keepIn K (.ref f17) = true)
    (a18 : PySem.W.nsIn K mainGlobals "need_same" = some (some (.ref f18))) (l18 : K.lookup f18 = some ⟨oc18, od18, .func (PySem.W.fnOf "need_same" "need_same" (defArgs s_need_same) (defBody s_need_same) (defScope s_need_same) .none kV18 dc18 pm18 an18 cd18 ct18), sl18⟩) (c18 : PySem.W.codeIn K cd18 "need_same" = true) (k18 : PySem.W.keepIn K (.ref f18) = true)
    (a19 : PySem.W.nsIn K mainGlobals "nothing" = some (some (.ref f19))) (l19 : K.lookup f19 = some ⟨oc19, od19, .func (PySem.W.fnOf "nothing" "nothing" (defArgs s_nothing) (defBody s_nothing) (defScope s_nothing) .none kV19 dc19 pm19 an19 cd19 ct19), sl19⟩) (c19 : PySem.W.codeIn K cd19 "nothing" = true) (k19 : PySem.W.keepIn K (.ref f19) = true)
    (a20 : PySem.W.nsIn K mainGlobals "least_ways" = some (some (.ref f20))) (l20 : K.lookup f20 = some ⟨oc20, od20, .func (PySem.W.fnOf "least_ways" "least_ways" (defArgs s_least_ways) (defBody s_least_ways) (defScope s_least_ways) .none kV20 dc20 pm20 an20 cd20 ct20), sl20⟩) (c20 : PySem.W.codeIn K cd20 "least_ways" = true) (k20 : PySem.W.keepIn K (.ref f20) = true)
    (a21 : PySem.W.nsIn K mainGlobals "bounds_of" = some (some (.ref f21))) (l21 : K.lookup f21 = some ⟨oc21, od21, .func (PySem.W.fnOf "bounds_of" "bounds_of" (defArgs s_bounds_of) (defBody s_bounds_of) (defScope s_bounds_of) .none kV21 dc21 pm21 an21 cd21 ct21), sl21⟩) (c21 : PySem.W.codeIn K cd21 "bounds_of" = true) (k21 : PySem.W.keepIn K (.ref f21) = true)
    (a22 : PySem.W.nsIn K mainGlobals "table_of" = some (some (.ref f22))) (l22 : K.lookup f22 = some ⟨oc22, od22, .func (PySem.W.fnOf "table_of" "table_of" (defArgs s_table_of) (defBody s_table_of) (defScope s_table_of) .none kV22 dc22 pm22 an22 cd22 ct22), sl22⟩) (c22 : PySem.W.codeIn K cd22 "table_of" = true) (k22 : PySem.W.keepIn K (.ref f22) = true)
    (a23 : PySem.W.nsIn K mainGlobals "closed_of" = some (some (.ref f23))) (l23 : K.lookup f23 = some ⟨oc23, od23, .func (PySem.W.fnOf "closed_of" "closed_of" (defArgs s_closed_of) (defBody s_closed_of) (defScope s_closed_of) .none kV23 dc23 pm23 an23 cd23 ct23), sl23⟩) (c23 : PySem.W.codeIn K cd23 "closed_of" = true) (k23 : PySem.W.keepIn K (.ref f23) = true)
    (a24 : PySem.W.nsIn K mainGlobals "closed" = some (some (.ref f24))) (l24 : K.lookup f24 = some ⟨oc24, od24, .func (PySem.W.fnOf "closed" "closed" (defArgs s_closed) (defBody s_closed) (defScope s_closed) .none kV24 dc24 pm24 an24 cd24 ct24), sl24⟩) (c24 : PySem.W.codeIn K cd24 "closed" = true) (k24 : PySem.W.keepIn K (.ref f24) = true)
    (a25 : PySem.W.nsIn K mainGlobals "ring_from" = some (some (.ref f25))) (l25 : K.lookup f25 = some ⟨oc25, od25, .func (PySem.W.fnOf "ring_from" "ring_from" (defArgs s_ring_from) (defBody s_ring_from) (defScope s_ring_from) .none kV25 dc25 pm25 an25 cd25 ct25), sl25⟩) (c25 : PySem.W.codeIn K cd25 "ring_from" = true) (k25 : PySem.W.keepIn K (.ref f25) = true)
    (a26 : PySem.W.nsIn K mainGlobals "ring_of" = some (some (.ref f26))) (l26 : K.lookup f26 = some ⟨oc26, od26, .func (PySem.W.fnOf "ring_of" "ring_of" (defArgs s_ring_of) (defBody s_ring_of) (defScope s_ring_of) .none kV26 dc26 pm26 an26 cd26 ct26), sl26⟩) (c26 : PySem.W.codeIn K cd26 "ring_of" = true) (k26 : PySem.W.keepIn K (.ref f26) = true)
    (a27 : PySem.W.nsIn K mainGlobals "ring" = some (some (.ref f27))) (l27 : K.lookup f27 = some ⟨oc27, od27, .func (PySem.W.fnOf "ring" "ring" (defArgs s_ring) (defBody s_ring) (defScope s_ring) .none kV27 dc27 pm27 an27 cd27 ct27), sl27⟩) (c27 : PySem.W.codeIn K cd27 "ring" = true) (k27 : PySem.W.keepIn K (.ref f27) = true)
    (a28 : PySem.W.nsIn K mainGlobals "is_in" = some (some (.ref f28))) (l28 : K.lookup f28 = some ⟨oc28, od28, .func (PySem.W.fnOf "is_in" "is_in" (defArgs s_is_in) (defBody s_is_in) (defScope s_is_in) .none kV28 dc28 pm28 an28 cd28 ct28), sl28⟩) (c28 : PySem.W.codeIn K cd28 "is_in" = true) (k28 : PySem.W.keepIn K (.ref f28) = true)
    (a29 : PySem.W.nsIn K mainGlobals "need_two" = some (some (.ref f29))) (l29 : K.lookup f29 = some ⟨oc29, od29, .func (PySem.W.fnOf "need_two" "need_two" (defArgs s_need_two) (defBody s_need_two) (defScope s_need_two) .none kV29 dc29 pm29 an29 cd29 ct29), sl29⟩) (c29 : PySem.W.codeIn K cd29 "need_two" = true) (k29 : PySem.W.keepIn K (.ref f29) = true)
    (a30 : PySem.W.nsIn K mainGlobals "is_within" = some (some (.ref f30))) (l30 : K.lookup f30 = some ⟨oc30, od30, .func (PySem.W.fnOf "is_within" "is_within" (defArgs s_is_within) (defBody s_is_within) (defScope s_is_within) .none kV30 dc30 pm30 an30 cd30 ct30), sl30⟩) (c30 : PySem.W.codeIn K cd30 "is_within" = true) (k30 : PySem.W.keepIn K (.ref f30) = true)
    (a31 : PySem.W.nsIn K mainGlobals "is_same" = some (some (.ref f31))) (l31 : K.lookup f31 = some ⟨oc31, od31, .func (PySem.W.fnOf "is_same" "is_same" (defArgs s_is_same) (defBody s_is_same) (defScope s_is_same) .none kV31 dc31 pm31 an31 cd31 ct31), sl31⟩) (c31 : PySem.W.codeIn K cd31 "is_same" = true) (k31 : PySem.W.keepIn K (.ref f31) = true)
    (a32 : PySem.W.nsIn K mainGlobals "both_of" = some (some (.ref f32))) (l32 : K.lookup f32 = some ⟨oc32, od32, .func (PySem.W.fnOf "both_of" "both_of" (defArgs s_both_of) (defBody s_both_of) (defScope s_both_of) .none kV32 dc32 pm32 an32 cd32 ct32), sl32⟩) (c32 : PySem.W.codeIn K cd32 "both_of" = true) (k32 : PySem.W.keepIn K (.ref f32) = true)
    (a33 : PySem.W.nsIn K mainGlobals "both" = some (some (.ref f33))) (l33 : K.lookup f33 = some ⟨oc33, od33, .func (PySem.W.fnOf "both" "both" (defArgs s_both) (defBody s_both) (defScope s_both) .none kV33 dc33 pm33 an33 cd33 ct33), sl33⟩) (c33 : PySem.W.codeIn K cd33 "both" = true) (k33 : PySem.W.keepIn K (.ref f33) = true)
    (a34 : PySem.W.nsIn K mainGlobals "end_water" = some (some (.ref f34))) (l34 : K.lookup f34 = some ⟨oc34, od34, .func (PySem.W.fnOf "end_water" "end_water" (defArgs s_end_water) (defBody s_end_water) (defScope s_end_water) .none kV34 dc34 pm34 an34 cd34 ct34), sl34⟩) (c34 : PySem.W.codeIn K cd34 "end_water" = true) (k34 : PySem.W.keepIn K (.ref f34) = true)
    (a35 : PySem.W.nsIn K mainGlobals "highest" = some (some (.ref f35))) (l35 : K.lookup f35 = some ⟨oc35, od35, .func (PySem.W.fnOf "highest" "highest" (defArgs s_highest) (defBody s_highest) (defScope s_highest) .none kV35 dc35 pm35 an35 cd35 ct35), sl35⟩) (c35 : PySem.W.codeIn K cd35 "highest" = true) (k35 : PySem.W.keepIn K (.ref f35) = true)
    (a36 : PySem.W.nsIn K mainGlobals "lowest" = some (some (.ref f36))) (l36 : K.lookup f36 = some ⟨oc36, od36, .func (PySem.W.fnOf "lowest" "lowest" (defArgs s_lowest) (defBody s_lowest) (defScope s_lowest) .none kV36 dc36 pm36 an36 cd36 ct36), sl36⟩) (c36 : PySem.W.codeIn K cd36 "lowest" = true) (k36 : PySem.W.keepIn K (.ref f36) = true)
    (a37 : PySem.W.nsIn K mainGlobals "hidden" = some (some (.ref f37))) (l37 : K.lookup f37 = some ⟨oc37, od37, .func (PySem.W.fnOf "hidden" "hidden" (defArgs s_hidden) (defBody s_hidden) (defScope s_hidden) .none kV37 dc37 pm37 an37 cd37 ct37), sl37⟩) (c37 : PySem.W.codeIn K cd37 "hidden" = true) (k37 : PySem.W.keepIn K (.ref f37) = true)
    (a39 : PySem.W.nsIn K mainGlobals "_law_begun" = some (some (.ref f39))) (l39 : K.lookup f39 = some ⟨oc39, od39, .func (PySem.W.fnOf "_law_begun" "_law_begun" (defArgs s__law_begun) (defBody s__law_begun) (defScope s__law_begun) .none kV39 dc39 pm39 an39 cd39 ct39), sl39⟩) (c39 : PySem.W.codeIn K cd39 "_law_begun" = true) (k39 : PySem.W.keepIn K (.ref f39) = true)
    (a40 : PySem.W.nsIn K mainGlobals "_law_draw" = some (some (.ref f40))) (l40 : K.lookup f40 = some ⟨oc40, od40, .func (PySem.W.fnOf "_law_draw" "_law_draw" (defArgs s__law_draw) (defBody s__law_draw) (defScope s__law_draw) .none kV40 dc40 pm40 an40 cd40 ct40), sl40⟩) (c40 : PySem.W.codeIn K cd40 "_law_draw" = true) (k40 : PySem.W.keepIn K (.ref f40) = true)
    (a41 : PySem.W.nsIn K mainGlobals "_law_pick" = some (some (.ref f41))) (l41 : K.lookup f41 = some ⟨oc41, od41, .func (PySem.W.fnOf "_law_pick" "_law_pick" (defArgs s__law_pick) (defBody s__law_pick) (defScope s__law_pick) .none kV41 dc41 pm41 an41 cd41 ct41), sl41⟩) (c41 : PySem.W.codeIn K cd41 "_law_pick" = true) (k41 : PySem.W.keepIn K (.ref f41) = true)
    (a42 : PySem.W.nsIn K mainGlobals "_law_caps" = some (some (.ref f42))) (l42 : K.lookup f42 = some ⟨oc42, od42, .func (PySem.W.fnOf "_law_caps" "_law_caps" (defArgs s__law_caps) (defBody s__law_caps) (defScope s__law_caps) .none kV42 dc42 pm42 an42 cd42 ct42), sl42⟩) (c42 : PySem.W.codeIn K cd42 "_law_caps" = true) (k42 : PySem.W.keepIn K (.ref f42) = true)
    (a43 : PySem.W.nsIn K mainGlobals "_law_waters" = some (some (.ref f43))) (l43 : K.lookup f43 = some ⟨oc43, od43, .func (PySem.W.fnOf "_law_waters" "_law_waters" (defArgs s__law_waters) (defBody s__law_waters) (defScope s__law_waters) .none kV43 dc43 pm43 an43 cd43 ct43), sl43⟩) (c43 : PySem.W.codeIn K cd43 "_law_waters" = true) (k43 : PySem.W.keepIn K (.ref f43) = true)
    (a44 : PySem.W.nsIn K mainGlobals "_law_is_passed" = some (some (.ref f44))) (l44 : K.lookup f44 = some ⟨oc44, od44, .func (PySem.W.fnOf "_law_is_passed" "_law_is_passed" (defArgs s__law_is_passed) (defBody s__law_is_passed) (defScope s__law_is_passed) .none kV44 dc44 pm44 an44 cd44 ct44), sl44⟩) (c44 : PySem.W.codeIn K cd44 "_law_is_passed" = true) (k44 : PySem.W.keepIn K (.ref f44) = true)
    (a45 : PySem.W.nsIn K mainGlobals "_law_out" = some (some (.ref f45))) (l45 : K.lookup f45 = some ⟨oc45, od45, .func (PySem.W.fnOf "_law_out" "_law_out" (defArgs s__law_out) (defBody s__law_out) (defScope s__law_out) .none kV45 dc45 pm45 an45 cd45 ct45), sl45⟩) (c45 : PySem.W.codeIn K cd45 "_law_out" = true) (k45 : PySem.W.keepIn K (.ref f45) = true)
    (a46 : PySem.W.nsIn K mainGlobals "law" = some (some (.ref f46))) (l46 : K.lookup f46 = some ⟨oc46, od46, .func (PySem.W.fnOf "law" "law" (defArgs s_law) (defBody s_law) (defScope s_law) .none kV46 dc46 pm46 an46 cd46 ct46), sl46⟩) (c46 : PySem.W.codeIn K cd46 "law" = true) (k46 : PySem.W.keepIn K (.ref f46) = true)
    (aI : PySem.W.findIn K (.ref C) "__init__" = some (some (.ref fI))) (iI : PySem.W.isFn K (.ref fI) = true) (lI : K.lookup fI = some ⟨ocI, odI, .func (PySem.W.fnOf "__init__" "Table.__init__" (defArgs sT___init__) (defBody sT___init__) (defScope sT___init__) (.ref tI) kVI dcI pmI anI cdI ctI), slI⟩) (cI : PySem.W.codeIn K cdI "Table.__init__" = true) (kI : PySem.W.keepIn K (.ref fI) = true) (lT : K.lookup tI = some ⟨ocT, odT, .seq #[.none] nT, slT⟩)
    (aP : PySem.W.findIn K (.ref C) "bounds" = some (some (.ref pB))) (gP : PySem.W.specialIn K (.ref pB) "__get__" = some (some (.builtin "property.__get__"))) (tP : PySem.W.takesIn K (.ref pB) = some true) (rP : PySem.W.recIn K pB "property" = some (.ref fB :: restB)) (lB : K.lookup fB = some ⟨ocB, odB, .func (PySem.W.fnOf "bounds" "Table.bounds" (defArgs sT_bounds) (defBody sT_bounds) (defScope sT_bounds) .none kVB dcB pmB anB cdB ctB), slB⟩) (cB : PySem.W.codeIn K cdB "Table.bounds" = true) (kB : PySem.W.keepIn K (.ref fB) = true)
    (aF : PySem.W.findIn K (.ref C) "fits" = some (some (.ref fF))) (iF : PySem.W.isFn K (.ref fF) = true) (lF : K.lookup fF = some ⟨ocF, odF, .func (PySem.W.fnOf "fits" "Table.fits" (defArgs sT_fits) (defBody sT_fits) (defScope sT_fits) .none kVF dcF pmF anF cdF ctF), slF⟩) (cF : PySem.W.codeIn K cdF "Table.fits" = true) (kF : PySem.W.keepIn K (.ref fF) = true)
    (z_isinstance : PySem.W.nsIn K mainGlobals "isinstance" = some none) (z_int : PySem.W.nsIn K mainGlobals "int" = some none) (z_bool : PySem.W.nsIn K mainGlobals "bool" = some none) (z_tuple : PySem.W.nsIn K mainGlobals "tuple" = some none) (z_len : PySem.W.nsIn K mainGlobals "len" = some none) (z_all : PySem.W.nsIn K mainGlobals "all" = some none) (z_any : PySem.W.nsIn K mainGlobals "any" = some none) (z_dict : PySem.W.nsIn K mainGlobals "dict" = some none) (z_sorted : PySem.W.nsIn K mainGlobals "sorted" = some none) (z_range : PySem.W.nsIn K mainGlobals "range" = some none) (z_sum : PySem.W.nsIn K mainGlobals "sum" = some none) (z_zip : PySem.W.nsIn K mainGlobals "zip" = some none) (z_list : PySem.W.nsIn K mainGlobals "list" = some none) (z_min : PySem.W.nsIn K mainGlobals "min" = some none) (z_enumerate : PySem.W.nsIn K mainGlobals "enumerate" = some none) (z_abs : PySem.W.nsIn K mainGlobals "abs" = some none) :
    ∃ fd : FuncData, (∀ (s : Shared) (v : Value), BindsTo s fd ⟨[v], []⟩ [("_law_script", v)]) ∧ ∀ base : Heap, K.In base → base.Ns mainGlobals mg → FnOk l.prog w K mg base CX0 11 fa fd ["_law_script"] (spLaw K) := by
  have e := hfa.symm.trans (PySem.W.mg_of X G a46)
  cases e
  have T : Txt K mg C := ⟨⟨pg, hd, po, sa⟩, nS, nB, PySem.W.mg_of X G aC, y1, y2, y3, y4, ⟨_, PySem.W.mg_of X G mc⟩, PySem.W.mg_none_of X G z_isinstance, PySem.W.mg_none_of X G z_int, PySem.W.mg_none_of X G z_bool, PySem.W.mg_none_of X G z_tuple, PySem.W.mg_none_of X G z_len, PySem.W.mg_none_of X G z_all, PySem.W.mg_none_of X G z_any, PySem.W.mg_none_of X G z_dict, PySem.W.mg_none_of X G z_sorted, PySem.W.mg_none_of X G z_range, PySem.W.mg_none_of X G z_sum, PySem.W.mg_none_of X G z_zip, PySem.W.mg_none_of X G z_list, PySem.W.mg_none_of X G z_min, PySem.W.mg_none_of X G z_enumerate, PySem.W.mg_none_of X G z_abs⟩
  have F8 := fun_mk (st := s_is_number) l8 c8 k8
  have D8 : Def K mg "is_number" s_is_number ["thing"] := ⟨_, _, F8, F8.binds fun _ _ _ _ _ _ us hl => match us, hl with | [_], _ => rfl, PySem.W.mg_of X G a8⟩
  have F9 := fun_mk (st := s_is_water) l9 c9 k9
  have D9 : Def K mg "is_water" s_is_water ["thing"] := ⟨_, _, F9, F9.binds fun _ _ _ _ _ _ us hl => match us, hl with | [_], _ => rfl, PySem.W.mg_of X G a9⟩
  have F10 := fun_mk (st := s_sums_of) l10 c10 k10
  have D10 : Def K mg "sums_of" s_sums_of ["water"] := ⟨_, _, F10, F10.binds fun _ _ _ _ _ _ us hl => match us, hl with | [_], _ => rfl, PySem.W.mg_of X G a10⟩
  have F11 := fun_mk (st := s_sums) l11 c11 k11
  have D11 : Def K mg "sums" s_sums ["water"] := ⟨_, _, F11, F11.binds fun _ _ _ _ _ _ us hl => match us, hl with | [_], _ => rfl, PySem.W.mg_of X G a11⟩
  have F12 := fun_mk (st := s_water_of) l12 c12 k12
  have D12 : Def K mg "water_of" s_water_of ["levels"] := ⟨_, _, F12, F12.binds fun _ _ _ _ _ _ us hl => match us, hl with | [_], _ => rfl, PySem.W.mg_of X G a12⟩
  have F13 := fun_mk (st := s_is_point) l13 c13 k13
  have D13 : Def K mg "is_point" s_is_point ["thing", "size"] := ⟨_, _, F13, F13.binds fun _ _ _ _ _ _ us hl => match us, hl with | [_, _], _ => rfl, PySem.W.mg_of X G a13⟩
  have F14 := fun_mk (st := s_is_pair) l14 c14 k14
  have D14 : Def K mg "is_pair" s_is_pair ["thing", "size"] := ⟨_, _, F14, F14.binds fun _ _ _ _ _ _ us hl => match us, hl with | [_, _], _ => rfl, PySem.W.mg_of X G a14⟩
  have F16 := fun_mk (st := s_fits_sums) l16 c16 k16
  have D16 : Def K mg "fits_sums" s_fits_sums ["table", "levels"] := ⟨_, _, F16, F16.binds fun _ _ _ _ _ _ us hl => match us, hl with | [_, _], _ => rfl, PySem.W.mg_of X G a16⟩
  have F17 := fun_mk (st := s_need_table) l17 c17 k17
  have D17 : Def K mg "need_table" s_need_table ["table"] := ⟨_, _, F17, F17.binds fun _ _ _ _ _ _ us hl => match us, hl with | [_], _ => rfl, PySem.W.mg_of X G a17⟩
  have F18 := fun_mk (st := s_need_same) l18 c18 k18
  have D18 : Def K mg "need_same" s_need_same ["one", "other"] := ⟨_, _, F18, F18.binds fun _ _ _ _ _ _ us hl => match us, hl with | [_, _], _ => rfl, PySem.W.mg_of X G a18⟩
  have F19 := fun_mk (st := s_nothing) l19 c19 k19
  have D19 : Def K mg "nothing" s_nothing ["size"] := ⟨_, _, F19, F19.binds fun _ _ _ _ _ _ us hl => match us, hl with | [_], _ => rfl, PySem.W.mg_of X G a19⟩
  have F20 := fun_mk (st := s_least_ways) l20 c20 k20
  have D20 : Def K mg "least_ways" s_least_ways ["size", "bounds"] := ⟨_, _, F20, F20.binds fun _ _ _ _ _ _ us hl => match us, hl with | [_, _], _ => rfl, PySem.W.mg_of X G a20⟩
  have F21 := fun_mk (st := s_bounds_of) l21 c21 k21
  have D21 : Def K mg "bounds_of" s_bounds_of ["table"] := ⟨_, _, F21, F21.binds fun _ _ _ _ _ _ us hl => match us, hl with | [_], _ => rfl, PySem.W.mg_of X G a21⟩
  have F22 := fun_mk (st := s_table_of) l22 c22 k22
  have D22 : Def K mg "table_of" s_table_of ["size", "bounds"] := ⟨_, _, F22, F22.binds fun _ _ _ _ _ _ us hl => match us, hl with | [_, _], _ => rfl, PySem.W.mg_of X G a22⟩
  have F23 := fun_mk (st := s_closed_of) l23 c23 k23
  have D23 : Def K mg "closed_of" s_closed_of ["table"] := ⟨_, _, F23, F23.binds fun _ _ _ _ _ _ us hl => match us, hl with | [_], _ => rfl, PySem.W.mg_of X G a23⟩
  have F24 := fun_mk (st := s_closed) l24 c24 k24
  have D24 : Def K mg "closed" s_closed ["table"] := ⟨_, _, F24, F24.binds fun _ _ _ _ _ _ us hl => match us, hl with | [_], _ => rfl, PySem.W.mg_of X G a24⟩
  have F25 := fun_mk (st := s_ring_from) l25 c25 k25
  have D25 : Def K mg "ring_from" s_ring_from ["steps", "bounds"] := ⟨_, _, F25, F25.binds fun _ _ _ _ _ _ us hl => match us, hl with | [_, _], _ => rfl, PySem.W.mg_of X G a25⟩
  have F26 := fun_mk (st := s_ring_of) l26 c26 k26
  have D26 : Def K mg "ring_of" s_ring_of ["nodes", "bounds"] := ⟨_, _, F26, F26.binds fun _ _ _ _ _ _ us hl => match us, hl with | [_, _], _ => rfl, PySem.W.mg_of X G a26⟩
  have F27 := fun_mk (st := s_ring) l27 c27 k27
  have D27 : Def K mg "ring" s_ring ["table"] := ⟨_, _, F27, F27.binds fun _ _ _ _ _ _ us hl => match us, hl with | [_], _ => rfl, PySem.W.mg_of X G a27⟩
  have F28 := fun_mk (st := s_is_in) l28 c28 k28
  have D28 : Def K mg "is_in" s_is_in ["one", "other"] := ⟨_, _, F28, F28.binds fun _ _ _ _ _ _ us hl => match us, hl with | [_, _], _ => rfl, PySem.W.mg_of X G a28⟩
  have F29 := fun_mk (st := s_need_two) l29 c29 k29
  have D29 : Def K mg "need_two" s_need_two ["one", "other"] := ⟨_, _, F29, F29.binds fun _ _ _ _ _ _ us hl => match us, hl with | [_, _], _ => rfl, PySem.W.mg_of X G a29⟩
  have F30 := fun_mk (st := s_is_within) l30 c30 k30
  have D30 : Def K mg "is_within" s_is_within ["one", "other"] := ⟨_, _, F30, F30.binds fun _ _ _ _ _ _ us hl => match us, hl with | [_, _], _ => rfl, PySem.W.mg_of X G a30⟩
  have F31 := fun_mk (st := s_is_same) l31 c31 k31
  have D31 : Def K mg "is_same" s_is_same ["one", "other"] := ⟨_, _, F31, F31.binds fun _ _ _ _ _ _ us hl => match us, hl with | [_, _], _ => rfl, PySem.W.mg_of X G a31⟩
  have F32 := fun_mk (st := s_both_of) l32 c32 k32
  have D32 : Def K mg "both_of" s_both_of ["one", "other"] := ⟨_, _, F32, F32.binds fun _ _ _ _ _ _ us hl => match us, hl with | [_, _], _ => rfl, PySem.W.mg_of X G a32⟩
  have F33 := fun_mk (st := s_both) l33 c33 k33
  have D33 : Def K mg "both" s_both ["one", "other"] := ⟨_, _, F33, F33.binds fun _ _ _ _ _ _ us hl => match us, hl with | [_, _], _ => rfl, PySem.W.mg_of X G a33⟩
  have F34 := fun_mk (st := s_end_water) l34 c34 k34
  have D34 : Def K mg "end_water" s_end_water ["table", "sign"] := ⟨_, _, F34, F34.binds fun _ _ _ _ _ _ us hl => match us, hl with | [_, _], _ => rfl, PySem.W.mg_of X G a34⟩
  have F35 := fun_mk (st := s_highest) l35 c35 k35
  have D35 : Def K mg "highest" s_highest ["table"] := ⟨_, _, F35, F35.binds fun _ _ _ _ _ _ us hl => match us, hl with | [_], _ => rfl, PySem.W.mg_of X G a35⟩
  have F36 := fun_mk (st := s_lowest) l36 c36 k36
  have D36 : Def K mg "lowest" s_lowest ["table"] := ⟨_, _, F36, F36.binds fun _ _ _ _ _ _ us hl => match us, hl with | [_], _ => rfl, PySem.W.mg_of X G a36⟩
  have F37 := fun_mk (st := s_hidden) l37 c37 k37
  have D37 : Def K mg "hidden" s_hidden ["table", "points"] := ⟨_, _, F37, F37.binds fun _ _ _ _ _ _ us hl => match us, hl with | [_, _], _ => rfl, PySem.W.mg_of X G a37⟩
  have F39 := fun_mk (st := s__law_begun) l39 c39 k39
  have D39 : Def K mg "_law_begun" s__law_begun ["_law_script"] := ⟨_, _, F39, F39.binds fun _ _ _ _ _ _ us hl => match us, hl with | [_], _ => rfl, PySem.W.mg_of X G a39⟩
  have F40 := fun_mk (st := s__law_draw) l40 c40 k40
  have D40 : Def K mg "_law_draw" s__law_draw ["_law_state", "_law_many"] := ⟨_, _, F40, F40.binds fun _ _ _ _ _ _ us hl => match us, hl with | [_, _], _ => rfl, PySem.W.mg_of X G a40⟩
  have F41 := fun_mk (st := s__law_pick) l41 c41 k41
  have D41 : Def K mg "_law_pick" s__law_pick ["_law_state", "_law_several"] := ⟨_, _, F41, F41.binds fun _ _ _ _ _ _ us hl => match us, hl with | [_, _], _ => rfl, PySem.W.mg_of X G a41⟩
  have F42 := fun_mk (st := s__law_caps) l42 c42 k42
  have D42 : Def K mg "_law_caps" s__law_caps ["_law_state", "_law_many", "_law_thick", "_law_wide"] := ⟨_, _, F42, F42.binds fun _ _ _ _ _ _ us hl => match us, hl with | [_, _, _, _], _ => rfl, PySem.W.mg_of X G a42⟩
  have F43 := fun_mk (st := s__law_waters) l43 c43 k43
  have D43 : Def K mg "_law_waters" s__law_waters ["_law_many"] := ⟨_, _, F43, F43.binds fun _ _ _ _ _ _ us hl => match us, hl with | [_], _ => rfl, PySem.W.mg_of X G a43⟩
  have F44 := fun_mk (st := s__law_is_passed) l44 c44 k44
  have D44 : Def K mg "_law_is_passed" s__law_is_passed ["_law_pool", "_law_top", "_law_low"] := ⟨_, _, F44, F44.binds fun _ _ _ _ _ _ us hl => match us, hl with | [_, _, _], _ => rfl, PySem.W.mg_of X G a44⟩
  have F45 := fun_mk (st := s__law_out) l45 c45 k45
  have D45 : Def K mg "_law_out" s__law_out ["_law_left", "_law_right", "_law_many"] := ⟨_, _, F45, F45.binds fun _ _ _ _ _ _ us hl => match us, hl with | [_, _, _], _ => rfl, PySem.W.mg_of X G a45⟩
  have F46 := fun_mk (st := s_law) l46 c46 k46
  have FI : Bw.FunD K "__init__" "Table.__init__" sT___init__ fI _ := ⟨⟨_, _, _, _, _, _, _, _, _, _, rfl, lI, cI⟩⟩
  have FI2 : L2.FunD K "__init__" "Table.__init__" (defArgs sT___init__) (defBody sT___init__) (defScope sT___init__) [.non] [] fI _ := ⟨⟨_, _, _, _, _, _, _, _, _, _, rfl, lI, cI, .inr ⟨by simp, tI, _, [.none], _, rfl, lT, rfl, .cons rfl .nil⟩, .inl rfl⟩, kI⟩
  obtain ⟨dsI, hdsI, bI⟩ := FI2.binds1 (ps := ["self", "size", "bounds"]) 3 1 (by simp) rfl fun T kV doc pm an cdv ct us its hu hi => match us, its, hu, hi with | [_, _, _], [_], _, _ => ⟨_, rfl, rfl⟩
  cases hdsI
  have FB := fun_mk (st := sT_bounds) lB cB kB
  have bB := FB.binds (ps := ["self"]) fun _ _ _ _ _ _ us hl => match us, hl with | [_], _ => rfl
  have FF := fun_mk (st := sT_fits) lF cF kF
  have bF := FF.binds (ps := ["self", "water"]) fun _ _ _ _ _ _ us hl => match us, hl with | [_, _], _ => rfl
  refine ⟨PySem.W.fnOf "law" "law" (defArgs s_law) (defBody s_law) (defScope s_law) .none kV46 dc46 pm46 an46 cd46 ct46, fun s v => .of_eq rfl, fun base _ _ => ?_⟩
  have p_is_number := ok_is_number (P := l.prog) (w := w) (base := base) T D8
  have p_is_water := ok_is_water (P := l.prog) (w := w) (base := base) T p_is_number D9
  have p_sums_of := ok_sums_of (P := l.prog) (w := w) (base := base) T D10
  have p_sums := ok_sums (P := l.prog) (w := w) (base := base) T p_is_water p_sums_of D11
  have p_water_of := ok_water_of (P := l.prog) (w := w) (base := base) T D12
  have p_is_point := ok_is_point (P := l.prog) (w := w) (base := base) T p_is_number D13
  have p_is_pair := ok_is_pair (P := l.prog) (w := w) (base := base) T p_is_point D14
  have M : MakeT l.prog w K mg base C := ⟨fI, _, ok_init T p_is_number p_is_pair FI, ⟨mk, aI, iI, kc⟩, bI⟩
  have MB : PropT l.prog w K mg base C := ⟨pB, fB, _, ⟨aP, gP, tP, ⟨_, rP⟩⟩, ok_bounds T FB, bB⟩
  have p_fits_sums := ok_fits_sums (P := l.prog) (w := w) (base := base) T D16
  have p_need_table := ok_need_table (P := l.prog) (w := w) (base := base) T D17
  have p_need_same := ok_need_same (P := l.prog) (w := w) (base := base) T D18
  have p_need_two := ok_need_two (P := l.prog) (w := w) (base := base) T p_need_same D29
  have p_nothing := ok_nothing (P := l.prog) (w := w) (base := base) T M D19
  have p_least_ways := ok_least_ways (P := l.prog) (w := w) (base := base) T D20
  have p_bounds_of := ok_bounds_of (P := l.prog) (w := w) (base := base) T p_least_ways D21
  have p_table_of := ok_table_of (P := l.prog) (w := w) (base := base) T M p_nothing D22
  have p_closed_of := ok_closed_of (P := l.prog) (w := w) (base := base) T p_bounds_of p_table_of D23
  have p_closed := ok_closed (P := l.prog) (w := w) (base := base) T p_need_table p_closed_of D24
  have p_ring_from := ok_ring_from (P := l.prog) (w := w) (base := base) T D25
  have p_ring_of := ok_ring_of (P := l.prog) (w := w) (base := base) T p_ring_from D26
  have p_ring := ok_ring (P := l.prog) (w := w) (base := base) T p_need_table p_ring_of D27
  have p_is_in := ok_is_in (P := l.prog) (w := w) (base := base) T p_bounds_of D28
  have p_is_within := ok_is_within (P := l.prog) (w := w) (base := base) T p_need_two p_is_in D30
  have p_is_same := ok_is_same (P := l.prog) (w := w) (base := base) T p_need_two p_is_in D31
  have p_both_of := ok_both_of (P := l.prog) (w := w) (base := base) T M MB D32
  have p_both := ok_both (P := l.prog) (w := w) (base := base) T p_need_two p_both_of D33
  have p_end_water := ok_end_water (P := l.prog) (w := w) (base := base) T p_bounds_of p_water_of D34
  have p_highest := ok_highest (P := l.prog) (w := w) (base := base) T p_need_table p_end_water D35
  have p_lowest := ok_lowest (P := l.prog) (w := w) (base := base) T p_need_table p_end_water D36
  have p_hidden := ok_hidden (P := l.prog) (w := w) (base := base) T M p_need_table p_is_point p_bounds_of p_nothing D37
  have p__law_begun := ok_law_begun (P := l.prog) (w := w) (base := base) T D39
  have p__law_draw := ok_law_draw (P := l.prog) (w := w) (base := base) T D40
  have p__law_pick := ok_law_pick (P := l.prog) (w := w) (base := base) T p__law_draw D41
  have p__law_caps := ok_law_caps (P := l.prog) (w := w) (base := base) T p__law_draw p__law_pick D42
  have p__law_waters := ok_law_waters (P := l.prog) (w := w) (base := base) T D43
  have p__law_is_passed := ok_law_is_passed (P := l.prog) (w := w) (base := base) T p_sums D44
  have p__law_out := ok_law_out (P := l.prog) (w := w) (base := base) T M MB p_closed p_both p_ring p_is_within D45
  have MF : FitT l.prog w K mg base C := ⟨fF, _, ⟨aF, iF, kF⟩, ok_fits T p_is_water p_sums_of p_fits_sums FF, bF⟩
  exact ok_law T M MF p__law_begun p__law_draw p__law_pick p__law_caps p__law_waters p__law_is_passed p__law_out p_both p_closed p_highest p_lowest p_hidden p_is_within p_is_same p_ring p_sums F46
theorem walk {l : PySem.W.OpenLaw} {q : Program} {loose : List Str} {XP : (Str → Option Value) → Heap → Prop} {YP : World → Heap → Prop} {d : DefRec} {K : Params → PySem.W.Frag} (hn : l.most = some 63) (hdf : d.params.defaults = [])
    (hY : ∀ (w : World) (h : Heap), YP w h → (K w.params).In h)
    (F : ∀ (w : World) (mg : Str → Option Value) (fa : Addr) (h : Heap), (K w.params).In h → h.Ns mainGlobals mg → mg d.name = some (.ref fa) →
      ∃ fd : FuncData, (∀ (s : Shared) (u : Value), BindsTo s fd ⟨[u], []⟩ [("_law_script", u)]) ∧ ∀ base : Heap, (K w.params).In base → base.Ns mainGlobals mg → FnOk l.prog w (K w.params) mg base CX0 11 fa fd ["_law_script"] (spLaw (K w.params))) :
    PySem.W.WalkO q loose XP YP l.row.toRowW d [] (fun f vs => PySem.call f vs) :=
  L2.walk_of (n := 63) (k := 11) (x := "_law_script") (CX := fun _ => CX0) (sp := fun w => spLaw (K w.params)) hn (by decide) hdf ⟨rfl, by decide, by decide⟩ hY F (fun _ _ a ns hl _ hS => ⟨a, ns, rfl, hS, hl, fun _ => rfl⟩) fun _ _ _ _ _ z => z
end Bw
open PySem PySem.W PyProof.Rows
set_option maxRecDepth 100000 in
set_option maxHeartbeats 0 in
theorem PySem.Challenge.cw_blindweirs_k10_whole_tables_and_all_smal_holds : PySem.Challenge.rw_blindweirs_k10_whole_tables_and_all_smal.Holds := by
  w_on; o_law; k_head; (case hw => w_witness2)
  k_fill
  refine Bw.walk (l := PySem.Challenge.rw_blindweirs_k10_whole_tables_and_all_smal) rfl rfl (fun w h Y => PySem.W.kIn_of Y) ?F
  case F =>
    intro w mg fa h KX G hmg
    refine' Bw.all_mk KX G hmg ?aC ?pg ?hd ?po ?sa ?mk ?kc ?nS ?nB ?y1 ?y2 ?y3 ?y4 ?mc ?a8 ?l8 ?c8 ?k8 ?a9 ?l9 ?c9 ?k9 ?a10 ?l10 ?c10 ?k10 ?a11 ?l11 ?c11 ?k11 ?a12 ?l12 ?c12 ?k12 ?a13 ?l13 ?c13 ?k13 ?a14 ?l14 ?c14 ?k14 ?a16 ?l16 ?c16 ?k16 ?a17 ?l17 ?c17 ?k17 ?a18 ?l18 ?c18 ?k18 ?a19 ?l19 ?c19 ?k19 ?a20 ?l20 ?c20 ?k20 ?a21 ?l21 ?c21 ?k21 ?a22 ?l22 ?c22 ?k22 ?a23 ?l23 ?c23 ?k23 ?a24 ?l24 ?c24 ?k24 ?a25 ?l25 ?c25 ?k25 ?a26 ?l26 ?c26 ?k26 ?a27 ?l27 ?c27 ?k27 ?a28 ?l28 ?c28 ?k28 ?a29 ?l29 ?c29 ?k29 ?a30 ?l30 ?c30 ?k30 ?a31 ?l31 ?c31 ?k31 ?a32 ?l32 ?c32 ?k32 ?a33 ?l33 ?c33 ?k33 ?a34 ?l34 ?c34 ?k34 ?a35 ?l35 ?c35 ?k35 ?a36 ?l36 ?c36 ?k36 ?a37 ?l37 ?c37 ?k37 ?a39 ?l39 ?c39 ?k39 ?a40 ?l40 ?c40 ?k40 ?a41 ?l41 ?c41 ?k41 ?a42 ?l42 ?c42 ?k42 ?a43 ?l43 ?c43 ?k43 ?a44 ?l44 ?c44 ?k44 ?a45 ?l45 ?c45 ?k45 ?a46 ?l46 ?c46 ?k46 ?aI ?iI ?lI ?cI ?kI ?lT ?aP ?gP ?tP ?rP ?lB ?cB ?kB ?aF ?iF ?lF ?cF ?kF ?z_isinstance ?z_int ?z_bool ?z_tuple ?z_len ?z_all ?z_any ?z_dict ?z_sorted ?z_range ?z_sum ?z_zip ?z_list ?z_min ?z_enumerate ?z_abs
    (case aC => k_is)
    (case pg => k_is)
    (case hd => k_is)
    (case po => k_is)
    (case sa => k_is)
    (case mk => k_is)
    (case kc => k_is)
    (case nS => k_is)
    (case nB => k_is)
    (case y1 => k_is)
    (case y2 => k_is)
    (case y3 => k_is)
    (case y4 => k_is)
    (case mc => k_is)
    (case a8 => k_is)
    (case l8 => k_is)
    (case c8 => k_is)
    (case k8 => k_is)
    (case a9 => k_is)
    (case l9 => k_is)
    (case c9 => k_is)
    (case k9 => k_is)
    (case a10 => k_is)
    (case l10 => k_is)
    (case c10 => k_is)
    (case k10 => k_is)
    (case a11 => k_is)
    (case l11 => k_is)
    (case c11 => k_is)
    (case k11 => k_is)
    (case a12 => k_is)
    (case l12 => k_is)
    (case c12 => k_is)
    (case k12 => k_is)
    (case a13 => k_is)
    (case l13 => k_is)
    (case c13 => k_is)
    (case k13 => k_is)
    (case a14 => k_is)
    (case l14 => k_is)
    (case c14 => k_is)
    (case k14 => k_is)
    (case a16 => k_is)
    (case l16 => k_is)
    (case c16 => k_is)
    (case k16 => k_is)
    (case a17 => k_is)
    (case l17 => k_is)
    (case c17 => k_is)
    (case k17 => k_is)
    (case a18 => k_is)
    (case l18 => k_is)
    (case c18 => k_is)
    (case k18 => k_is)
    (case a19 => k_is)
    (case l19 => k_is)
    (case c19 => k_is)
    (case k19 => k_is)
    (case a20 => k_is)
    (case l20 => k_is)
    (case c20 => k_is)
    (case k20 => k_is)
    (case a21 => k_is)
    (case l21 => k_is)
    (case c21 => k_is)
    (case k21 => k_is)
    (case a22 => k_is)
    (case l22 => k_is)
    (case c22 => k_is)
    (case k22 => k_is)
    (case a23 => k_is)
    (case l23 => k_is)
    (case c23 => k_is)
    (case k23 => k_is)
    (case a24 => k_is)
    (case l24 => k_is)
    (case c24 => k_is)
    (case k24 => k_is)
    (case a25 => k_is)
    (case l25 => k_is)
    (case c25 => k_is)
    (case k25 => k_is)
    (case a26 => k_is)
    (case l26 => k_is)
    (case c26 => k_is)
    (case k26 => k_is)
    (case a27 => k_is)
    (case l27 => k_is)
    (case c27 => k_is)
    (case k27 => k_is)
    (case a28 => k_is)
    (case l28 => k_is)
    (case c28 => k_is)
    (case k28 => k_is)
    (case a29 => k_is)
    (case l29 => k_is)
    (case c29 => k_is)
    (case k29 => k_is)
    (case a30 => k_is)
    (case l30 => k_is)
    (case c30 => k_is)
    (case k30 => k_is)
    (case a31 => k_is)
    (case l31 => k_is)
    (case c31 => k_is)
    (case k31 => k_is)
    (case a32 => k_is)
    (case l32 => k_is)
    (case c32 => k_is)
    (case k32 => k_is)
    (case a33 => k_is)
    (case l33 => k_is)
    (case c33 => k_is)
    (case k33 => k_is)
    (case a34 => k_is)
    (case l34 => k_is)
    (case c34 => k_is)
    (case k34 => k_is)
    (case a35 => k_is)
    (case l35 => k_is)
    (case c35 => k_is)
    (case k35 => k_is)
    (case a36 => k_is)
    (case l36 => k_is)
    (case c36 => k_is)
    (case k36 => k_is)
    (case a37 => k_is)
    (case l37 => k_is)
    (case c37 => k_is)
    (case k37 => k_is)
    (case a39 => k_is)
    (case l39 => k_is)
    (case c39 => k_is)
    (case k39 => k_is)
    (case a40 => k_is)
    (case l40 => k_is)
    (case c40 => k_is)
    (case k40 => k_is)
    (case a41 => k_is)
    (case l41 => k_is)
    (case c41 => k_is)
    (case k41 => k_is)
    (case a42 => k_is)
    (case l42 => k_is)
    (case c42 => k_is)
    (case k42 => k_is)
    (case a43 => k_is)
    (case l43 => k_is)
    (case c43 => k_is)
    (case k43 => k_is)
    (case a44 => k_is)
    (case l44 => k_is)
    (case c44 => k_is)
    (case k44 => k_is)
    (case a45 => k_is)
    (case l45 => k_is)
    (case c45 => k_is)
    (case k45 => k_is)
    (case a46 => k_is)
    (case l46 => k_is)
    (case c46 => k_is)
    (case k46 => k_is)
    (case aI => k_is)
    (case iI => k_is)
    (case lI => k_is)
    (case cI => k_is)
    (case kI => k_is)
    (case lT => k_is)
    (case aP => k_is)
    (case gP => k_is)
    (case tP => k_is)
    (case rP => k_is)
    (case lB => k_is)
    (case cB => k_is)
    (case kB => k_is)
    (case aF => k_is)
    (case iF => k_is)
    (case lF => k_is)
    (case cF => k_is)
    (case kF => k_is)
    (case z_isinstance => k_is)
    (case z_int => k_is)
    (case z_bool => k_is)
    (case z_tuple => k_is)
    (case z_len => k_is)
    (case z_all => k_is)
    (case z_any => k_is)
    (case z_dict => k_is)
    (case z_sorted => k_is)
    (case z_range => k_is)
    (case z_sum => k_is)
    (case z_zip => k_is)
    (case z_list => k_is)
    (case z_min => k_is)
    (case z_enumerate => k_is)
    (case z_abs => k_is)

