import PyProof.Rows.All
import Wide.All
import OpenK.AllK
import Wide.FinOn
import HandS.ForMost
import HandS.Style
import HandS.TupAny
import HandS.Zip
import HandS.IsInst
import HandS.DictComp
import HandS.Wide
import HandS.NestedK
import HandS.Flow
import HandS.Walk
import HandS.SortKw
import HandS.Strs
import HandS.Defaults
import KE.SortKeyHeap
import KE.SortData
import KE.KDictKeyed
import KE.KDictSum
import KE.KDictDisplayH
import KE.GoesNewDict
import HandS.EndTab
import PySem.Challenge.RW_standingpowers_k23_whole_growth_of_point
set_option Elab.async false
set_option linter.all false
set_option maxRecDepth 100000
/-! Growth: the mathematics, in core Lean alone. Rows mod p, their span, the places where its members begin; the walk over the powers in degree order. -/
namespace Gk

/-! ### vectors mod p, up to the first N places -/
abbrev Vec := Nat → Int

/-- alike mod p at the first N places -/
def Cg (p : Int) (N : Nat) (f g : Vec) : Prop := ∀ i, i < N → p ∣ (f i - g i)
theorem Cg.refl {p N} (f : Vec) : Cg p N f f := fun i _ => by simp
theorem Cg.symm {p N} {f g : Vec} (h : Cg p N f g) : Cg p N g f := fun i hi => by
  obtain ⟨k, e⟩ := h i hi
  exact ⟨-k, by rw [Int.mul_neg, ← e]; omega⟩
theorem Cg.trans {p N} {f g h : Vec} (a : Cg p N f g) (b : Cg p N g h) : Cg p N f h := fun i hi => by
  have := Int.dvd_add (a i hi) (b i hi)
  rwa [show f i - g i + (g i - h i) = f i - h i by omega] at this
theorem dvd_of_cg {p x y : Int} (h : p ∣ x - y) (hx : p ∣ y) : p ∣ x := by
  have := Int.dvd_add h hx
  rwa [Int.sub_add_cancel] at this
theorem Cg.dvd {p N} {f g : Vec} (h : Cg p N f g) {i : Nat} (hi : i < N) : p ∣ f i ↔ p ∣ g i :=
  ⟨fun a => dvd_of_cg (h.symm i hi) a, fun a => dvd_of_cg (h i hi) a⟩

/-- f + c g -/
def ax (f : Vec) (c : Int) (g : Vec) : Vec := fun i => f i + c * g i
theorem Cg.ax {p N} {f f' g g' : Vec} (c : Int) (a : Cg p N f f') (b : Cg p N g g') : Cg p N (ax f c g) (ax f' c g') := fun i hi => by
  have h := Int.dvd_add (a i hi) (Int.dvd_mul_of_dvd_right (b i hi) (b := c))
  rwa [show f i - f' i + c * (g i - g' i) = Gk.ax f c g i - Gk.ax f' c g' i by unfold Gk.ax; rw [Int.mul_sub]; omega] at h

/-- the span of the members of G -/
inductive Sp (p : Int) (N : Nat) (G : Vec → Prop) : Vec → Prop
  | zero {f : Vec} (h : ∀ i, i < N → p ∣ f i) : Sp p N G f
  | add {f g h : Vec} {c : Int} (a : Sp p N G f) (b : G g) (e : Cg p N h (ax f c g)) : Sp p N G h
section
variable {p : Int} {N : Nat} {G G' : Vec → Prop} {f g : Vec}
theorem Sp.cong (s : Sp p N G f) (e : Cg p N g f) : Sp p N G g := by
  cases s with
  | zero h => exact .zero fun i hi => (e.dvd hi).mpr (h i hi)
  | add a b q => exact .add a b (e.trans q)
theorem Sp.of (h : G f) : Sp p N G f :=
  .add (c := 1) (f := fun _ => 0) (.zero fun _ _ => Int.dvd_zero p) h fun i _ => by unfold ax; rw [show f i - (0 + 1 * f i) = 0 by omega]; exact Int.dvd_zero p
theorem Sp.lin (a : Sp p N G f) (c : Int) (b : Sp p N G g) : Sp p N G (ax f c g) := by
  induction b with
  | @zero g h =>
    refine a.cong fun i hi => ?_
    rw [show ax f c g i - f i = c * g i by unfold ax; omega]
    exact Int.dvd_mul_of_dvd_right (h i hi)
  | @add u v w d s1 m e ih =>
    refine .add (c := c * d) ih m fun i hi => ?_
    have h := Int.dvd_mul_of_dvd_right (b := c) (e i hi)
    rwa [show c * (w i - ax u d v i) = ax f c w i - ax (ax f c u) (c * d) v i by
      unfold ax; rw [Int.mul_sub, Int.mul_add, Int.mul_assoc]; omega] at h
theorem Sp.mono (s : Sp p N G f) (h : ∀ g, G g → Sp p N G' g) : Sp p N G' f := by
  induction s with
  | zero h => exact .zero h
  | @add u v w d s1 m e ih => exact (ih.lin d (h _ m)).cong e
end

/-! ### rows -/
abbrev Rw := List (Nat × Vec)
/-- less what the rows make 0 -/
def cl (R : Rw) (f : Vec) : Vec := R.foldl (fun f r => ax f (-(f r.1)) r.2) f
theorem cl_nil (f : Vec) : cl [] f = f := rfl
theorem cl_cons (r : Nat × Vec) (R : Rw) (f : Vec) : cl (r :: R) f = cl R (ax f (-(f r.1)) r.2) := rfl
theorem cl_append (R S : Rw) (f : Vec) : cl (R ++ S) f = cl S (cl R f) := List.foldl_append
theorem cl_snoc (R : Rw) (r : Nat × Vec) (f : Vec) : cl (R ++ [r]) f = ax (cl R f) (-(cl R f r.1)) r.2 := by rw [cl_append]; rfl
/-- rows that begin each at its own place -/
structure RowOk (p : Int) (N : Nat) (r : Nat × Vec) : Prop where
  lt : r.1 < N
  one : p ∣ r.2 r.1 - 1
  low : ∀ i, i < r.1 → p ∣ r.2 i
structure Ech (p : Int) (N : Nat) (R : Rw) : Prop where
  ok : ∀ r ∈ R, RowOk p N r
  far : R.Pairwise fun r s => p ∣ s.2 r.1
def inR (R : Rw) : Vec → Prop := fun g => ∃ r ∈ R, g = r.2
section
variable {p : Int} {N : Nat} {R : Rw} {f g : Vec}
theorem cl_lin : ∀ (R : Rw) (f : Vec) (c : Int) (g : Vec), cl R (ax f c g) = ax (cl R f) c (cl R g)
  | [], _, _, _ => rfl
  | r :: R, f, c, g => by
    rw [cl_cons, cl_cons, cl_cons, ← cl_lin R]
    congr 1
    funext i
    simp only [ax]
    rw [Int.neg_add, Int.add_mul, Int.mul_add, show -(c * g r.1) * r.2 i = c * (-g r.1 * r.2 i) by rw [Int.neg_mul, Int.neg_mul, Int.mul_neg, Int.mul_assoc]]
    omega
theorem cl_cong : ∀ {R : Rw} {f g : Vec}, (∀ r ∈ R, r.1 < N) → Cg p N f g → Cg p N (cl R f) (cl R g)
  | [], _, _, _, h => h
  | r :: R, f, g, hl, h => by
    rw [cl_cons, cl_cons]
    refine cl_cong (fun s hs => hl s (List.mem_cons_of_mem _ hs)) fun i hi => ?_
    have h1 := Int.dvd_sub (h i hi) (Int.dvd_mul_of_dvd_left (h r.1 (hl r List.mem_cons_self)) (c := r.2 i))
    rwa [show f i - g i - (f r.1 - g r.1) * r.2 i = ax f (-(f r.1)) r.2 i - ax g (-(g r.1)) r.2 i by
      unfold ax; rw [Int.sub_mul, Int.neg_mul, Int.neg_mul]; omega] at h1
theorem cl_zero (hl : ∀ r ∈ R, r.1 < N) (h : ∀ i, i < N → p ∣ f i) : ∀ i, i < N → p ∣ cl R f i := fun i hi => by
  have z : ∀ R : Rw, cl R (fun _ => 0) = fun _ => 0 := fun R => by
    induction R with
    | nil => rfl
    | cons r R ih =>
      rw [cl_cons]
      rw [show ax (fun _ => (0 : Int)) (-((fun _ => (0 : Int)) r.1)) r.2 = fun _ => 0 by funext i; simp [ax]]
      exact ih
  have h1 : Cg p N f (fun _ => 0) := fun i hi => by rw [Int.sub_zero]; exact h i hi
  have h2 := cl_cong hl h1 i hi
  rw [z, Int.sub_zero] at h2
  exact h2
/-- what is taken off is in the rows' span -/
theorem cl_back (R : Rw) (f : Vec) : ∃ g, Sp p N (inR R) g ∧ f = ax (cl R f) 1 g := by
  have go : ∀ (S : Rw) (f : Vec), (∀ r ∈ S, r ∈ R) → ∃ g, Sp p N (inR R) g ∧ f = ax (cl S f) 1 g := by
    intro S
    induction S with
    | nil =>
      intro f _
      exact ⟨fun _ => 0, .zero fun _ _ => Int.dvd_zero p, by funext i; simp [ax, cl]⟩
    | cons r S ih =>
      intro f hm
      obtain ⟨g, hg, e⟩ := ih (ax f (-(f r.1)) r.2) fun s hs => hm s (List.mem_cons_of_mem _ hs)
      refine ⟨ax g (f r.1) r.2, hg.lin _ (.of ⟨r, hm r List.mem_cons_self, rfl⟩), ?_⟩
      rw [cl_cons]
      funext i
      have ei := congrFun e i
      simp only [ax] at ei ⊢
      rw [Int.neg_mul] at ei
      omega
  exact go R f fun _ h => h
theorem cl_in (R : Rw) (f : Vec) (h : ∀ i, i < N → p ∣ cl R f i) : Sp p N (inR R) f := by
  obtain ⟨g, hg, e⟩ := cl_back (p := p) (N := N) R f
  refine hg.cong fun i hi => ?_
  have ei := congrFun e i
  simp only [ax] at ei
  rw [show f i - g i = cl R f i by omega]
  exact h i hi
/-- at the rows' own places nothing is left -/
theorem cl_at (E : Ech p N R) : ∀ r ∈ R, ∀ f : Vec, p ∣ cl R f r.1 := by
  have go : ∀ (S : Rw) (f : Vec) (k : Nat), p ∣ f k → (∀ s ∈ S, p ∣ s.2 k) → p ∣ cl S f k := by
    intro S
    induction S with
    | nil => intro f k h _; exact h
    | cons s S ih =>
      intro f k h hs
      rw [cl_cons]
      refine ih _ k ?_ fun t ht => hs t (List.mem_cons_of_mem _ ht)
      exact Int.dvd_add h (Int.dvd_mul_of_dvd_right (hs s List.mem_cons_self))
  have main : ∀ (S : Rw), (∀ r ∈ S, RowOk p N r) → S.Pairwise (fun r s => p ∣ s.2 r.1) → ∀ r ∈ S, ∀ f : Vec, p ∣ cl S f r.1 := by
    intro S
    induction S with
    | nil => intro _ _ r hr; cases hr
    | cons s S ih =>
      intro ok far r hr f
      obtain ⟨f1, f2⟩ := List.pairwise_cons.mp far
      rw [cl_cons]
      rcases List.mem_cons.mp hr with rfl | hr
      · refine go S _ r.1 ?_ fun t ht => f1 t ht
        have h := Int.dvd_mul_of_dvd_right (b := -(f r.1)) (ok r List.mem_cons_self).one
        rwa [show -(f r.1) * (r.2 r.1 - 1) = ax f (-(f r.1)) r.2 r.1 by unfold ax; rw [Int.mul_sub]; omega] at h
      · exact ih (fun t ht => ok t (List.mem_cons_of_mem _ ht)) f2 r hr _
  exact main R E.ok E.far
/-- the rows themselves are made 0 -/
theorem cl_row (E : Ech p N R) : ∀ r ∈ R, ∀ i, i < N → p ∣ cl R r.2 i := by
  have main : ∀ (S : Rw), (∀ r ∈ S, RowOk p N r) → S.Pairwise (fun r s => p ∣ s.2 r.1) → ∀ r ∈ S, ∀ i, i < N → p ∣ cl S r.2 i := by
    intro S
    induction S with
    | nil => intro _ _ r hr; cases hr
    | cons s S ih =>
      intro ok far r hr i hi
      obtain ⟨f1, f2⟩ := List.pairwise_cons.mp far
      have hl : ∀ t ∈ S, t.1 < N := fun t ht => (ok t (List.mem_cons_of_mem _ ht)).lt
      rw [cl_cons]
      rcases List.mem_cons.mp hr with rfl | hr
      · refine cl_zero hl (fun j hj => ?_) i hi
        have h := Int.dvd_mul_of_dvd_left (c := r.2 j) (ok r List.mem_cons_self).one
        have h := Int.dvd_neg.mpr h
        rwa [show -((r.2 r.1 - 1) * r.2 j) = ax r.2 (-(r.2 r.1)) r.2 j by unfold ax; rw [Int.sub_mul, Int.neg_mul]; omega] at h
      · have h1 : Cg p N (ax r.2 (-(r.2 s.1)) s.2) r.2 := fun j hj => by
          rw [show ax r.2 (-(r.2 s.1)) s.2 j - r.2 j = -(r.2 s.1) * s.2 j by unfold ax; omega]
          exact Int.dvd_mul_of_dvd_left (Int.dvd_neg.mpr (f1 r hr))
        exact ((cl_cong hl h1).dvd hi).mpr (ih (fun t ht => ok t (List.mem_cons_of_mem _ ht)) f2 r hr i hi)
  exact main R E.ok E.far
theorem cl_span (E : Ech p N R) (s : Sp p N (inR R) f) : ∀ i, i < N → p ∣ cl R f i := by
  have hl : ∀ r ∈ R, r.1 < N := fun r hr => (E.ok r hr).lt
  induction s with
  | zero h => exact cl_zero hl h
  | @add u v w c s1 m e ih =>
    obtain ⟨r, hr, rfl⟩ := m
    intro i hi
    refine ((cl_cong hl e).dvd hi).mpr ?_
    rw [cl_lin]
    exact Int.dvd_add (ih i hi) (Int.dvd_mul_of_dvd_right (cl_row E r hr i hi))
end

/-! ### where the members of a span begin -/
def Lead (p : Int) (N : Nat) (W : Vec → Prop) (k : Nat) : Prop := k < N ∧ ∃ f, W f ∧ (∀ i, i < k → p ∣ f i) ∧ ¬ p ∣ f k
theorem lead_rows {p : Int} {N : Nat} {R : Rw} {W : Vec → Prop} (h1 : ¬ p ∣ 1) (E : Ech p N R) (a : ∀ r ∈ R, W r.2) (b : ∀ f, W f → Sp p N (inR R) f) (k : Nat) : Lead p N W k ↔ k ∈ R.map (·.1) := by
  constructor
  · rintro ⟨hk, f, wf, low, ne⟩
    refine Classical.byContradiction fun hn => ne ?_
    have z := cl_span E (b f wf) k hk
    have keep : ∀ (S : Rw) (f : Vec), (∀ r ∈ S, RowOk p N r) → k ∉ S.map (·.1) → (∀ i, i < k → p ∣ f i) → p ∣ cl S f k → p ∣ f k := by
      intro S
      induction S with
      | nil => intro f _ _ _ h; exact h
      | cons r S ih =>
        intro f ok hn low h
        rw [List.map_cons, List.mem_cons, not_or] at hn
        rw [cl_cons] at h
        have hr := ok r List.mem_cons_self
        have rest : ∀ i, i ≤ k → p ∣ f r.1 * r.2 i := fun i hi => by
          rcases Nat.lt_or_gt_of_ne hn.1 with q | q
          · exact Int.dvd_mul_of_dvd_right (hr.low i (by omega))
          · exact Int.dvd_mul_of_dvd_left (low r.1 q)
        have h2 := ih _ (fun t ht => ok t (List.mem_cons_of_mem _ ht)) hn.2 (fun i hi => by
          unfold ax; rw [Int.neg_mul]
          exact Int.dvd_add (low i hi) (Int.dvd_neg.mpr (rest i (by omega)))) h
        have h3 := Int.dvd_add h2 (rest k (Nat.le_refl k))
        rwa [show ax f (-(f r.1)) r.2 k + f r.1 * r.2 k = f k by unfold ax; rw [Int.neg_mul]; omega] at h3
    exact keep R f E.ok hn low z
  · intro hk
    obtain ⟨r, hr, rfl⟩ := List.mem_map.mp hk
    have ok := E.ok r hr
    refine ⟨ok.lt, r.2, a r hr, ok.low, fun z => h1 ?_⟩
    have h := Int.dvd_sub z ok.one
    rwa [show r.2 r.1 - (r.2 r.1 - 1) = 1 by omega] at h
theorem ech_nodup {p : Int} {N : Nat} {R : Rw} (h1 : ¬ p ∣ 1) (E : Ech p N R) : (R.map (·.1)).Nodup := by
  have main : ∀ (S : Rw), (∀ r ∈ S, RowOk p N r) → S.Pairwise (fun r s => p ∣ s.2 r.1) → (S.map (·.1)).Nodup := by
    intro S
    induction S with
    | nil => intro _ _; exact List.nodup_nil
    | cons r S ih =>
      intro ok far
      obtain ⟨f1, f2⟩ := List.pairwise_cons.mp far
      rw [List.map_cons, List.nodup_cons]
      refine ⟨fun hm => h1 ?_, ih (fun t ht => ok t (List.mem_cons_of_mem _ ht)) f2⟩
      obtain ⟨s, hs, e⟩ := List.mem_map.mp hm
      have z := f1 s hs
      rw [← e] at z
      have h := Int.dvd_sub z (ok s (List.mem_cons_of_mem _ hs)).one
      rwa [show s.2 s.1 - (s.2 s.1 - 1) = 1 by omega] at h
  exact main R E.ok E.far
theorem nodup_le {α : Type} [DecidableEq α] : ∀ {l m : List α}, l.Nodup → (∀ x ∈ l, x ∈ m) → l.length ≤ m.length
  | [], _, _, _ => Nat.zero_le _
  | x :: l, m, h, s => by
    obtain ⟨h1, h2⟩ := List.nodup_cons.mp h
    have hx := s x List.mem_cons_self
    have ih := nodup_le (m := m.erase x) h2 fun y hy => (List.mem_erase_of_ne (fun e => h1 (by rw [← e]; exact hy))).mpr (s y (List.mem_cons_of_mem _ hy))
    rw [List.length_erase_of_mem hx] at ih
    have := List.length_pos_of_mem hx
    rw [List.length_cons]
    omega
theorem nodup_len {α : Type} [DecidableEq α] {l m : List α} (a : l.Nodup) (b : m.Nodup) (h : ∀ x, x ∈ l ↔ x ∈ m) : l.length = m.length :=
  Nat.le_antisymm (nodup_le a fun x => (h x).mp) (nodup_le b fun x => (h x).mpr)

/-! ### rows that tell a set of vectors -/
/-- the rows span what the members of G span -/
structure Tells (p : Int) (N : Nat) (G : Vec → Prop) (R : Rw) : Prop where
  ech : Ech p N R
  into : ∀ r ∈ R, Sp p N G r.2
  back : ∀ g, G g → Sp p N (inR R) g
theorem Tells.nil {p : Int} {N : Nat} : Tells p N (fun _ => False) [] := ⟨⟨fun _ h => (nomatch h), List.Pairwise.nil⟩, fun _ h => (nomatch h), fun _ h => h.elim⟩
theorem Tells.len {p : Int} {N : Nat} {G G' : Vec → Prop} {R S : Rw} (h1 : ¬ p ∣ 1) (a : Tells p N G R) (b : Tells p N G' S) (e : ∀ g, G g → Sp p N G' g) (e' : ∀ g, G' g → Sp p N G g) : R.length = S.length := by
  have l1 := lead_rows (W := Sp p N G) h1 a.ech a.into fun f hf => hf.mono a.back
  have l2 := lead_rows (W := Sp p N G') h1 b.ech b.into fun f hf => hf.mono b.back
  have w : ∀ f, Sp p N G f ↔ Sp p N G' f := fun f => ⟨fun h => h.mono e, fun h => h.mono e'⟩
  have k : ∀ x, x ∈ R.map (·.1) ↔ x ∈ S.map (·.1) := fun x => by
    rw [← l1 x, ← l2 x]
    unfold Lead
    constructor
    · rintro ⟨h, f, hf, r⟩
      exact ⟨h, f, (w f).mp hf, r⟩
    · rintro ⟨h, f, hf, r⟩
      exact ⟨h, f, (w f).mpr hf, r⟩
  have := nodup_len (ech_nodup h1 a.ech) (ech_nodup h1 b.ech) k
  rwa [List.length_map, List.length_map] at this
/-- every place is one where a member begins: as many rows as places -/
theorem Tells.full {p : Int} {N : Nat} {G : Vec → Prop} {R : Rw} (h1 : ¬ p ∣ 1) (a : Tells p N G R) (e : ∀ k, k < N → Lead p N (Sp p N G) k) : R.length = N := by
  have l1 := lead_rows (W := Sp p N G) h1 a.ech a.into fun f hf => hf.mono a.back
  have k : ∀ x, x ∈ R.map (·.1) ↔ x ∈ List.range N := fun x => by
    rw [← l1 x, List.mem_range]
    exact ⟨fun h => h.1, e x⟩
  have := nodup_len (ech_nodup h1 a.ech) List.nodup_range k
  rwa [List.length_map, List.length_range] at this
/-- one more vector, already told -/
theorem Tells.same {p : Int} {N : Nat} {G : Vec → Prop} {R : Rw} {v : Vec} (a : Tells p N G R) (h : Sp p N (inR R) v) : Tells p N (fun g => G g ∨ g = v) R :=
  ⟨a.ech, fun r hr => (a.into r hr).mono fun g hg => .of (.inl hg), fun g hg => by
    rcases hg with hg | rfl
    · exact a.back g hg
    · exact h⟩
/-- one more vector, a new row -/
theorem Tells.more {p : Int} {N : Nat} {G : Vec → Prop} {R : Rw} {v row : Vec} {k : Nat} {c : Int} (a : Tells p N G R) (hk : k < N) (low : ∀ i, i < k → p ∣ cl R v i)
    (hc : p ∣ c * cl R v k - 1) (hr : ∀ i, i < N → p ∣ row i - c * cl R v i) : Tells p N (fun g => G g ∨ g = v) (R ++ [(k, row)]) := by
  have rowC : Cg p N row (ax (fun _ => 0) c (cl R v)) := fun i hi => by
    unfold ax; rw [Int.zero_add]; exact hr i hi
  have up : ∀ g, Sp p N (inR R) g → Sp p N (inR (R ++ [(k, row)])) g := fun g hg => hg.mono fun u ⟨r, hm, e⟩ => .of ⟨r, List.mem_append_left _ hm, e⟩
  have inG : ∀ g, Sp p N G g → Sp p N (fun g => G g ∨ g = v) g := fun g hg => hg.mono fun u hu => .of (.inl hu)
  refine ⟨⟨fun r hm => ?_, ?_⟩, fun r hm => ?_, fun g hg => ?_⟩
  · rcases List.mem_append.mp hm with hm | hm
    · exact a.ech.ok r hm
    · rw [List.mem_singleton.mp hm]
      refine ⟨hk, ?_, fun i hi => ?_⟩
      · have h := Int.dvd_add (hr k hk) hc
        rwa [show row k - c * cl R v k + (c * cl R v k - 1) = row k - 1 by omega] at h
      · exact dvd_of_cg (hr i (Nat.lt_trans hi hk)) (Int.dvd_mul_of_dvd_right (low i hi))
  · refine List.pairwise_append.mpr ⟨a.ech.far, List.pairwise_singleton _ _, fun r h1 s h2 => ?_⟩
    rw [List.mem_singleton.mp h2]
    exact dvd_of_cg (hr r.1 (a.ech.ok r h1).lt) (Int.dvd_mul_of_dvd_right (cl_at a.ech r h1 v))
  · rcases List.mem_append.mp hm with hm | hm
    · exact inG _ (a.into r hm)
    · rw [List.mem_singleton.mp hm]
      obtain ⟨g, hg, e⟩ := cl_back (p := p) (N := N) R v
      have g1 : Sp p N (fun g => G g ∨ g = v) g := inG _ (hg.mono fun u ⟨r, hm, e⟩ => e ▸ a.into r hm)
      have v1 : Sp p N (fun g => G g ∨ g = v) v := .of (.inr rfl)
      have c1 : Sp p N (fun g => G g ∨ g = v) (cl R v) := (v1.lin (-1) g1).cong fun i _ => by
        have ei := congrFun e i
        simp only [ax] at ei
        rw [show cl R v i - ax v (-1) g i = 0 by unfold ax; omega]
        exact Int.dvd_zero p
      exact ((Sp.zero (f := fun _ => (0 : Int)) fun _ _ => Int.dvd_zero p).lin c c1).cong rowC
  · rcases hg with hg | rfl
    · exact up g (a.back g hg)
    · obtain ⟨u, hu, e⟩ := cl_back (p := p) (N := N) R g
      have r1 : Sp p N (inR (R ++ [(k, row)])) row := .of ⟨(k, row), List.mem_append_right _ List.mem_cons_self, rfl⟩
      -- cl R g is cl R g k times the row
      have c1 : Sp p N (inR (R ++ [(k, row)])) (cl R g) := ((Sp.zero (f := fun _ => (0 : Int)) fun _ _ => Int.dvd_zero p).lin (cl R g k) r1).cong fun i hi => by
        have h1 := Int.dvd_mul_of_dvd_right (b := -(cl R g k)) (hr i hi)
        have h2 := Int.dvd_mul_of_dvd_right (b := -(cl R g i)) hc
        have h := Int.dvd_add h1 h2
        rwa [show -(cl R g k) * (row i - c * cl R g i) + -(cl R g i) * (c * cl R g k - 1) = cl R g i - ax (fun _ => 0) (cl R g k) row i by
          dsimp only [ax]
          rw [Int.mul_sub, Int.mul_sub, Int.neg_mul, Int.neg_mul, Int.neg_mul, Int.neg_mul, Int.mul_left_comm (cl R g k) c, Int.mul_left_comm (cl R g i) c, Int.mul_comm (cl R g k) (cl R g i)]
          omega] at h
      exact (c1.lin 1 (up u hu)).cong fun i _ => by
        rw [← congrFun e i, Int.sub_self]
        exact Int.dvd_zero p
end Gk

/-! Growth, the mathematics, part 2: powers, points, values; the list forms that the program and the law reckon with. -/
namespace Gk

/-! ### primes -/
def Pr (p : Int) : Prop := p = 2 ∨ p = 3 ∨ p = 5 ∨ p = 7
theorem Pr.pos {p : Int} (h : Pr p) : 2 ≤ p := by unfold Pr at h; omega
theorem Pr.le {p : Int} (h : Pr p) : p ≤ 7 := by unfold Pr at h; omega
theorem Pr.not1 {p : Int} (h : Pr p) : ¬ p ∣ 1 := fun z => by
  have := Int.le_of_dvd (by omega) z
  have := h.pos
  omega
theorem Pr.mul {p a b : Int} (h : Pr p) (ha : ¬ p ∣ a) (hb : ¬ p ∣ b) : ¬ p ∣ a * b := fun z => by
  rw [Int.dvd_iff_emod_eq_zero] at ha hb z
  rw [Int.mul_emod] at z
  have h2 := h.pos
  have a0 := Int.emod_nonneg a (show p ≠ 0 by omega)
  have a1 := Int.emod_lt_of_pos a (show 0 < p by omega)
  have b0 := Int.emod_nonneg b (show p ≠ 0 by omega)
  have b1 := Int.emod_lt_of_pos b (show 0 < p by omega)
  generalize a % p = x at *
  generalize b % p = y at *
  have key : ∀ p ∈ [(2 : Nat), 3, 5, 7], ∀ x < p, ∀ y < p, x ≠ 0 → y ≠ 0 → (x * y) % p ≠ 0 := by decide
  have k := key p.toNat (by rcases h with rfl | rfl | rfl | rfl <;> decide) x.toNat (by omega) y.toNat (by omega) (by omega) (by omega)
  apply k
  have : ((x.toNat * y.toNat % p.toNat : Nat) : Int) = 0 := by
    rw [Int.natCast_emod, Int.natCast_mul, Int.toNat_of_nonneg a0, Int.toNat_of_nonneg b0, Int.toNat_of_nonneg (by omega)]
    exact z
  omega

/-! ### what the program reckons: numbers -/
/-- found = found * x % p, so many times -/
def it (p x : Int) (f : Int) : Nat → Int
  | 0 => f
  | n + 1 => it p x f n * x % p
def rn (p x : Int) (n : Nat) : Int := it p x 1 n
/-- the inverse -/
def inv (p a : Int) : Int := rn p a (p - 2).toNat
theorem it_lt {p x f : Int} (hp : 0 < p) (h0 : 0 ≤ f) (h1 : f < p) : ∀ n, 0 ≤ it p x f n ∧ it p x f n < p
  | 0 => ⟨h0, h1⟩
  | n + 1 => ⟨Int.emod_nonneg _ (by omega), Int.emod_lt_of_pos _ hp⟩
theorem it_dvd {p x f : Int} : ∀ n : Nat, p ∣ it p x f n - f * x ^ n
  | 0 => by simp [it]
  | n + 1 => by
    have ih := it_dvd (p := p) (x := x) (f := f) n
    have h1 : p ∣ it p x f n * x % p - it p x f n * x := by
      have := Int.dvd_self_sub_emod (x := it p x f n * x) (m := p)
      have := Int.dvd_neg.mpr this
      rwa [Int.neg_sub] at this
    have h2 := Int.dvd_add h1 (Int.dvd_mul_of_dvd_left ih (c := x))
    show p ∣ it p x f n * x % p - f * x ^ (n + 1)
    rwa [show it p x f n * x % p - it p x f n * x + (it p x f n - f * x ^ n) * x = it p x f n * x % p - f * x ^ (n + 1) by
      rw [Int.sub_mul, Int.pow_succ, Int.mul_assoc]; omega] at h2
theorem rn_lt {p x : Int} (hp : 2 ≤ p) (n : Nat) : 0 ≤ rn p x n ∧ rn p x n < p := it_lt (by omega) (by omega) (by omega) n
theorem rn_dvd {p x : Int} (n : Nat) : p ∣ rn p x n - x ^ n := by
  have := it_dvd (p := p) (x := x) (f := 1) n
  rwa [Int.one_mul] at this
theorem inv_lt {p a : Int} (hp : 2 ≤ p) : 0 ≤ inv p a ∧ inv p a < p := rn_lt hp _
theorem inv_one {p a : Int} (h : Pr p) (h0 : 0 < a) (h1 : a < p) : a * inv p a % p = 1 := by
  rcases h with rfl | rfl | rfl | rfl
  · obtain rfl : a = 1 := by omega
    decide
  · rcases (by omega : a = 1 ∨ a = 2) with rfl | rfl <;> decide
  · rcases (by omega : a = 1 ∨ a = 2 ∨ a = 3 ∨ a = 4) with rfl | rfl | rfl | rfl <;> decide
  · rcases (by omega : a = 1 ∨ a = 2 ∨ a = 3 ∨ a = 4 ∨ a = 5 ∨ a = 6) with rfl | rfl | rfl | rfl | rfl | rfl <;> decide
theorem inv_uniq {p a b : Int} (h : Pr p) (h0 : 0 < a) (h1 : a < p) (b0 : 0 ≤ b) (b1 : b < p) (e : a * b % p = 1) : b = inv p a := by
  have hp := h.pos
  have i := inv_one h h0 h1
  have il := inv_lt (a := a) hp
  have d : p ∣ a * (b - inv p a) := by
    rw [Int.mul_sub]
    apply Int.dvd_of_emod_eq_zero
    rw [Int.sub_emod, e, i]
    simp
  refine Classical.byContradiction fun ne => ?_
  refine h.mul (a := a) (b := b - inv p a) (fun z => ?_) (fun z => ?_) d
  · have := Int.le_of_dvd h0 z
    omega
  · rcases Int.lt_or_gt_of_ne ne with q | q
    · have := Int.le_of_dvd (by omega) (Int.dvd_neg.mpr z)
      omega
    · have := Int.le_of_dvd (by omega) z
      omega

/-! ### powers at points -/
/-- x₁ ^ e₁ · x₂ ^ e₂ · .. -/
def mono : List Int → List Int → Int
  | e :: es, x :: xs => x ^ e.toNat * mono es xs
  | _, _ => 1
/-- its remainder -/
def mv (p : Int) (m q : List Int) : Int := mono m q % p
theorem mv_lt {p : Int} (hp : 2 ≤ p) (m q : List Int) : 0 ≤ mv p m q ∧ mv p m q < p := ⟨Int.emod_nonneg _ (by omega), Int.emod_lt_of_pos _ (by omega)⟩
/-- the program's loop over the pairs -/
def vof (p : Int) : List Int → List Int → Int → Int
  | e :: es, x :: xs, f => vof p es xs (f * rn p x e.toNat % p)
  | _, _, f => f
/-- the law's loop -/
def lof (p : Int) : List Int → List Int → Int → Int
  | e :: es, x :: xs, f => lof p es xs (it p x f e.toNat)
  | _, _, f => f
theorem emod_of {p a b : Int} (h0 : 0 ≤ a) (h1 : a < p) (d : p ∣ a - b) : a = b % p := by
  have : a % p = b % p := Int.emod_eq_emod_iff_emod_sub_eq_zero.mpr (Int.emod_eq_zero_of_dvd d)
  rw [← this, Int.emod_eq_of_lt h0 h1]
theorem vof_spec {p : Int} (hp : 2 ≤ p) : ∀ (m q : List Int) (f : Int), 0 ≤ f → f < p → vof p m q f = f * mono m q % p
  | [], q, f, h0, h1 => by simp [vof, mono, Int.emod_eq_of_lt h0 h1]
  | _ :: _, [], f, h0, h1 => by simp [vof, mono, Int.emod_eq_of_lt h0 h1]
  | e :: es, x :: xs, f, h0, h1 => by
    rw [vof, vof_spec hp es xs _ (Int.emod_nonneg _ (by omega)) (Int.emod_lt_of_pos _ (by omega)), mono]
    refine Int.emod_eq_emod_iff_emod_sub_eq_zero.mpr (Int.emod_eq_zero_of_dvd ?_)
    have h2 := Int.dvd_self_sub_emod (x := f * rn p x e.toNat) (m := p)
    have h3 := Int.dvd_mul_of_dvd_right (b := f) (rn_dvd (p := p) (x := x) e.toNat)
    have h4 := Int.dvd_mul_of_dvd_left (Int.dvd_sub h3 h2) (c := mono es xs)
    rwa [show (f * (rn p x e.toNat - x ^ e.toNat) - (f * rn p x e.toNat - f * rn p x e.toNat % p)) * mono es xs = f * rn p x e.toNat % p * mono es xs - f * (x ^ e.toNat * mono es xs) by
      rw [Int.mul_sub, ← Int.mul_assoc, ← Int.sub_mul]; congr 1; omega] at h4
theorem lof_spec {p : Int} (hp : 2 ≤ p) : ∀ (m q : List Int) (f : Int), 0 ≤ f → f < p → lof p m q f = f * mono m q % p
  | [], q, f, h0, h1 => by simp [lof, mono, Int.emod_eq_of_lt h0 h1]
  | _ :: _, [], f, h0, h1 => by simp [lof, mono, Int.emod_eq_of_lt h0 h1]
  | e :: es, x :: xs, f, h0, h1 => by
    have h := it_lt (x := x) (show 0 < p by omega) h0 h1 e.toNat
    rw [lof, lof_spec hp es xs _ h.1 h.2, mono]
    refine Int.emod_eq_emod_iff_emod_sub_eq_zero.mpr (Int.emod_eq_zero_of_dvd ?_)
    have h3 := Int.dvd_mul_of_dvd_left (it_dvd (p := p) (x := x) (f := f) e.toNat) (c := mono es xs)
    rwa [Int.sub_mul, Int.mul_assoc f] at h3
theorem vof_mv {p : Int} (hp : 2 ≤ p) (m q : List Int) : vof p m q 1 = mv p m q := by
  rw [vof_spec hp m q 1 (by omega) (by omega), Int.one_mul]; rfl
theorem lof_mv {p : Int} (hp : 2 ≤ p) (m q : List Int) : lof p m q 1 = mv p m q := by
  rw [lof_spec hp m q 1 (by omega) (by omega), Int.one_mul]; rfl

/-! ### rows of values, as lists -/
/-- the entries lie from 0 to p - 1 -/
def In (p : Int) (v : List Int) : Prop := ∀ x ∈ v, 0 ≤ x ∧ x < p
abbrev LRow := Nat × List Int
def clStep (p : Int) (v : List Int) (r : LRow) : List Int :=
  if v.getD r.1 0 ≠ 0 then List.zipWith (fun a b => (a - v.getD r.1 0 * b) % p) v r.2 else v
/-- less what the rows make 0 -/
def clL (p : Int) (rows : List LRow) (v : List Int) : List Int := rows.foldl (clStep p) v
/-- the first place that is not 0 -/
def fnz (v : List Int) : Option Nat := v.findIdx? fun x => x != 0
def scaled (p : Int) (v : List Int) (k : Nat) : List Int := v.map fun x => x * inv p (v.getD k 0) % p
/-- one vector more -/
def grow (p : Int) (rows : List LRow) (v : List Int) : List LRow :=
  match fnz (clL p rows v) with
  | none => rows
  | some k => rows ++ [(k, scaled p (clL p rows v) k)]
/-- the values of a power at the points -/
def evL (p : Int) (V : List (List Int)) (m : List Int) : List Int := V.map fun q => mv p m q
theorem getD_lt {α : Type} (l : List α) (d : α) {i : Nat} (h : i < l.length) : l.getD i d = l[i] := by
  rw [List.getD_eq_getElem?_getD, List.getElem?_eq_getElem h]; rfl
def vec (v : List Int) : Vec := fun i => v.getD i 0
def vrows (rows : List LRow) : Rw := rows.map fun r => (r.1, vec r.2)
structure LOk (p : Int) (N : Nat) (rows : List LRow) : Prop where
  len : ∀ r ∈ rows, r.2.length = N
  ins : ∀ r ∈ rows, In p r.2
  lt : ∀ r ∈ rows, r.1 < N
theorem LOk.nil {p N} : LOk p N [] := ⟨fun _ h => (nomatch h), fun _ h => (nomatch h), fun _ h => (nomatch h)⟩
section
variable {p : Int} {N : Nat} {rows : List LRow} {v : List Int}
theorem clStep_len {r : LRow} (h : v.length = N) (hr : r.2.length = N) : (clStep p v r).length = N := by
  unfold clStep
  split
  · rw [List.length_zipWith, h, hr, Nat.min_self]
  · exact h
theorem clStep_in {r : LRow} (hp : 0 < p) (h : In p v) : In p (clStep p v r) := by
  unfold clStep
  split
  · intro x hx
    obtain ⟨i, hi, e⟩ := List.getElem_of_mem hx
    rw [List.getElem_zipWith] at e
    rw [← e]
    exact ⟨Int.emod_nonneg _ (by omega), Int.emod_lt_of_pos _ hp⟩
  · exact h
theorem clStep_cg {r : LRow} (h : v.length = N) (hr : r.2.length = N) : Cg p N (vec (clStep p v r)) (ax (vec v) (-(vec v r.1)) (vec r.2)) := by
  intro i hi
  unfold clStep
  split
  · have e1 : vec (List.zipWith (fun a b => (a - v.getD r.1 0 * b) % p) v r.2) i = (vec v i - vec v r.1 * vec r.2 i) % p := by
      have h1 : i < v.length := by omega
      have h2 : i < r.2.length := by omega
      have h3 : i < (List.zipWith (fun a b => (a - v.getD r.1 0 * b) % p) v r.2).length := by rw [List.length_zipWith]; omega
      have ev : vec v i = v[i] := getD_lt _ _ h1
      have er : vec r.2 i = r.2[i] := getD_lt _ _ h2
      rw [ev, er]
      refine (getD_lt _ _ h3).trans ?_
      rw [List.getElem_zipWith]
      rfl
    rw [e1]
    have := Int.dvd_neg.mpr (Int.dvd_self_sub_emod (x := vec v i - vec v r.1 * vec r.2 i) (m := p))
    rwa [show -(vec v i - vec v r.1 * vec r.2 i - (vec v i - vec v r.1 * vec r.2 i) % p) = (vec v i - vec v r.1 * vec r.2 i) % p - ax (vec v) (-(vec v r.1)) (vec r.2) i by
      unfold ax; rw [Int.neg_mul]; omega] at this
  · rename_i z
    have z0 : vec v r.1 = 0 := Classical.byContradiction z
    rw [z0]
    unfold ax
    rw [show vec v i - (vec v i + -0 * vec r.2 i) = 0 by rw [Int.neg_zero, Int.zero_mul]; omega]
    exact Int.dvd_zero p
theorem clL_ok : ∀ {rows : List LRow} {v : List Int}, 0 < p → LOk p N rows → v.length = N → In p v → (clL p rows v).length = N ∧ In p (clL p rows v) ∧ Cg p N (vec (clL p rows v)) (cl (vrows rows) (vec v))
  | [], v, _, _, h, hi => ⟨h, hi, Cg.refl _⟩
  | r :: rows, v, hp, ok, h, hi => by
    have hr := ok.len r List.mem_cons_self
    have ok2 : LOk p N rows := ⟨fun s hs => ok.len s (List.mem_cons_of_mem _ hs), fun s hs => ok.ins s (List.mem_cons_of_mem _ hs), fun s hs => ok.lt s (List.mem_cons_of_mem _ hs)⟩
    obtain ⟨a, b, c⟩ := clL_ok (v := clStep p v r) hp ok2 (clStep_len h hr) (clStep_in hp hi)
    refine ⟨a, b, c.trans ?_⟩
    show Cg p N _ (cl ((r.1, vec r.2) :: vrows rows) (vec v))
    rw [cl_cons]
    refine cl_cong (fun s hs => ?_) (clStep_cg h hr)
    obtain ⟨t, ht, rfl⟩ := List.mem_map.mp hs
    exact ok2.lt t ht
theorem vec_dvd {v : List Int} (hv : In p v) {i : Nat} (hi : i < v.length) : p ∣ vec v i ↔ vec v i = 0 := by
  constructor
  · intro h
    have e : vec v i = v[i] := by unfold vec; rw [List.getD_eq_getElem?_getD, List.getElem?_eq_getElem hi]; rfl
    obtain ⟨a, b⟩ := hv _ (List.getElem_mem hi)
    rw [e] at h ⊢
    rcases Int.lt_or_eq_of_le a with q | q
    · have := Int.le_of_dvd q h
      omega
    · exact q.symm
  · intro h
    rw [h]
    exact Int.dvd_zero p
theorem fnz_none {v : List Int} (h : fnz v = none) : ∀ i, vec v i = 0 := fun i => by
  unfold vec
  rw [List.getD_eq_getElem?_getD]
  cases e : v[i]? with
  | none => rfl
  | some x =>
    have := (List.findIdx?_eq_none_iff.mp h) x (List.mem_of_getElem? e)
    simpa using this
theorem fnz_some {v : List Int} {k : Nat} (h : fnz v = some k) : k < v.length ∧ vec v k ≠ 0 ∧ ∀ i, i < k → vec v i = 0 := by
  obtain ⟨hk, h1, h2⟩ := List.findIdx?_eq_some_iff_getElem.mp h
  have e : ∀ i (hi : i < v.length), vec v i = v[i] := fun i hi => by unfold vec; rw [List.getD_eq_getElem?_getD, List.getElem?_eq_getElem hi]; rfl
  refine ⟨hk, ?_, fun i hi => ?_⟩
  · rw [e k hk]
    simpa using h1
  · rw [e i (by omega)]
    simpa using h2 i hi
theorem scaled_in {k : Nat} (hp : 0 < p) : In p (scaled p v k) := fun x hx => by
  obtain ⟨y, _, rfl⟩ := List.mem_map.mp hx
  exact ⟨Int.emod_nonneg _ (by omega), Int.emod_lt_of_pos _ hp⟩
/-- one step of the elimination, by what it tells -/
theorem grow_tells {G : Vec → Prop} (h : Pr p) (ok : LOk p N rows) (a : Tells p N G (vrows rows)) (hv : v.length = N) (hi : In p v) : LOk p N (grow p rows v) ∧ Tells p N (fun g => G g ∨ g = vec v) (vrows (grow p rows v)) := by
  have hp := h.pos
  obtain ⟨c1, c2, c3⟩ := clL_ok (by omega) ok hv hi
  unfold grow
  cases e : fnz (clL p rows v) with
  | none =>
    refine ⟨ok, a.same (cl_in _ _ fun i hi => (c3.dvd hi).mp ?_)⟩
    rw [fnz_none e]
    exact Int.dvd_zero p
  | some k =>
    obtain ⟨k1, k2, k3⟩ := fnz_some e
    have kN : k < N := by omega
    have kl : 0 < vec (clL p rows v) k ∧ vec (clL p rows v) k < p := by
      have e : vec (clL p rows v) k = (clL p rows v)[k] := by unfold vec; rw [List.getD_eq_getElem?_getD, List.getElem?_eq_getElem k1]; rfl
      have := c2 _ (List.getElem_mem k1)
      rw [e] at k2 ⊢
      omega
    refine ⟨⟨fun r hr => ?_, fun r hr => ?_, fun r hr => ?_⟩, ?_⟩
    · rcases List.mem_append.mp hr with hr | hr
      · exact ok.len r hr
      · rw [List.mem_singleton.mp hr]
        show (scaled p (clL p rows v) k).length = N
        unfold scaled
        rw [List.length_map, c1]
    · rcases List.mem_append.mp hr with hr | hr
      · exact ok.ins r hr
      · rw [List.mem_singleton.mp hr]
        exact scaled_in (by omega)
    · rcases List.mem_append.mp hr with hr | hr
      · exact ok.lt r hr
      · rw [List.mem_singleton.mp hr]
        exact kN
    · show Tells p N _ (vrows (rows ++ [(k, scaled p (clL p rows v) k)]))
      unfold vrows
      rw [List.map_append]
      refine a.more (c := inv p (vec (clL p rows v) k)) kN (fun i hi => (c3.dvd (by omega)).mp ?_) ?_ fun i hi => ?_
      · rw [k3 i hi]
        exact Int.dvd_zero p
      · have h1 := inv_one h kl.1 kl.2
        have h2 := Int.dvd_mul_of_dvd_right (b := inv p (vec (clL p rows v) k)) (c3.symm k kN)
        have h3 : p ∣ vec (clL p rows v) k * inv p (vec (clL p rows v) k) - 1 := Int.dvd_of_emod_eq_zero (Int.emod_eq_emod_iff_emod_sub_eq_zero.mp (by rw [h1, Int.emod_eq_of_lt (by omega) (by omega)]))
        have h4 := Int.dvd_add h2 h3
        rwa [Int.mul_sub, Int.mul_comm (vec (clL p rows v) k), show ∀ x y z : Int, x - y + (y - z) = x - z by intros; omega] at h4
      · have e1 : vec (scaled p (clL p rows v) k) i = vec (clL p rows v) i * inv p (vec (clL p rows v) k) % p := by
          unfold scaled vec
          rw [List.getD_eq_getElem?_getD, List.getElem?_map, List.getD_eq_getElem?_getD (i := i), List.getElem?_eq_getElem (show i < (clL p rows v).length by omega)]
          rfl
        show p ∣ vec (scaled p (clL p rows v) k) i - _
        rw [e1]
        have h1 := Int.dvd_self_sub_emod (x := vec (clL p rows v) i * inv p (vec (clL p rows v) k)) (m := p)
        have h2 := Int.dvd_mul_of_dvd_right (b := inv p (vec (clL p rows v) k)) (c3 i hi)
        have h3 := Int.dvd_sub h2 h1
        rwa [Int.mul_sub, Int.mul_comm (inv p (vec (clL p rows v) k)) (vec (clL p rows v) i), show ∀ x y z : Int, x - y - (x - z) = z - y by intros; omega] at h3
end
end Gk

/-! Growth, the mathematics, part 3: the powers in degree order, the walk, and that both counts are one. -/
namespace Gk

/-! ### all tuples -/
def tuplesOf (p : Nat) : Nat → List (List Int)
  | 0 => [[]]
  | n + 1 => (tuplesOf p n).flatMap fun r => (List.range p).map fun (k : Nat) => r ++ [(k : Int)]
/-- a tuple of n numbers from 0 to p - 1 -/
def Tu (p : Int) (n : Nat) (r : List Int) : Prop := r.length = n ∧ In p r
theorem mem_tuples (p : Nat) : ∀ (n : Nat) (r : List Int), r ∈ tuplesOf p n ↔ Tu p n r
  | 0, r => by
    rw [tuplesOf, List.mem_singleton]
    constructor
    · rintro rfl
      exact ⟨rfl, fun _ h => nomatch h⟩
    · rintro ⟨h, _⟩
      exact List.length_eq_zero_iff.mp h
  | n + 1, r => by
    rw [tuplesOf, List.mem_flatMap]
    constructor
    · rintro ⟨s, hs, hr⟩
      obtain ⟨k, hk, rfl⟩ := List.mem_map.mp hr
      obtain ⟨h1, h2⟩ := (mem_tuples p n s).mp hs
      refine ⟨by rw [List.length_append, h1]; rfl, fun x hx => ?_⟩
      rcases List.mem_append.mp hx with hx | hx
      · exact h2 x hx
      · rw [List.mem_singleton.mp hx]
        have := List.mem_range.mp hk
        omega
    · rintro ⟨h1, h2⟩
      have hne : r ≠ [] := fun z => by rw [z] at h1; cases h1
      have hl := h2 _ (List.getLast_mem hne)
      refine ⟨r.dropLast, (mem_tuples p n _).mpr ⟨by rw [List.length_dropLast, h1]; rfl, fun x hx => h2 x ((List.dropLast_sublist r).subset hx)⟩, List.mem_map.mpr ⟨(r.getLast hne).toNat, List.mem_range.mpr (by omega), ?_⟩⟩
      rw [Int.toNat_of_nonneg hl.1]
      exact List.dropLast_concat_getLast hne
theorem tuples_nodup (p : Nat) : ∀ n : Nat, (tuplesOf p n).Nodup
  | 0 => by rw [tuplesOf]; simp
  | n + 1 => by
    rw [tuplesOf]
    refine List.pairwise_flatMap.mpr ⟨fun r _ => ?_, (tuples_nodup p n).imp fun {a b} h => ?_⟩
    · refine List.pairwise_map.mpr ((List.nodup_range (n := p)).imp fun {a b} h e => h ?_)
      have := List.append_cancel_left e
      have := List.cons.inj this
      omega
    · intro x hx y hy e
      obtain ⟨k, _, rfl⟩ := List.mem_map.mp hx
      obtain ⟨j, _, rfl⟩ := List.mem_map.mp hy
      exact h (List.append_inj_left' e rfl)
theorem tuples_len (p : Nat) : ∀ n : Nat, (tuplesOf p n).length = p ^ n
  | 0 => rfl
  | n + 1 => by
    rw [tuplesOf, List.length_flatMap]
    simp only [List.length_map, List.length_range]
    rw [List.map_const', List.sum_replicate_nat, tuples_len p n, Nat.pow_succ]

/-! ### the order by degrees -/
def pl (a b : List Int) : Prop := a.sum < b.sum ∨ (a.sum = b.sum ∧ a < b)
theorem pl_total {a b : List Int} (h : ¬ pl b a) (ne : a ≠ b) : pl a b := by
  unfold pl at *
  rw [not_or] at h
  rcases Int.lt_or_eq_of_le (Int.not_lt.mp h.1) with q | q
  · exact .inl q
  · refine .inr ⟨q, ?_⟩
    have h2 : ¬ b < a := fun z => h.2 ⟨q.symm, z⟩
    rcases Classical.em (a < b) with z | z
    · exact z
    · exact absurd (List.le_antisymm (List.not_lt.mp h2) (List.not_lt.mp z)) ne
theorem pl_irrefl (a : List Int) : ¬ pl a a := by
  rintro (h | ⟨_, h⟩)
  · exact Int.lt_irrefl _ h
  · exact List.lt_irrefl a h

/-! ### products of powers -/
def red (p e : Int) : Int := if e < p then e else e - (p - 1)
def madd (p : Int) (m q : List Int) : List Int := List.zipWith (fun a b => red p (a + b)) m q
def msub (m q : List Int) : List Int := List.zipWith (fun a b => a - b) m q
/-- a divides b -/
def divs (a b : List Int) : Bool := (a.zip b).all fun q => decide (q.1 ≤ q.2)
theorem fermat {p x : Int} (h : Pr p) (h0 : 0 ≤ x) (h1 : x < p) : p ∣ x ^ p.toNat - x := by
  apply Int.dvd_of_emod_eq_zero
  rcases h with rfl | rfl | rfl | rfl
  · rcases (by omega : x = 0 ∨ x = 1) with rfl | rfl <;> decide
  · rcases (by omega : x = 0 ∨ x = 1 ∨ x = 2) with rfl | rfl | rfl <;> decide
  · rcases (by omega : x = 0 ∨ x = 1 ∨ x = 2 ∨ x = 3 ∨ x = 4) with rfl | rfl | rfl | rfl | rfl <;> decide
  · rcases (by omega : x = 0 ∨ x = 1 ∨ x = 2 ∨ x = 3 ∨ x = 4 ∨ x = 5 ∨ x = 6) with rfl | rfl | rfl | rfl | rfl | rfl | rfl <;> decide
theorem red_in {p a b : Int} (hp : 2 ≤ p) (ha : 0 ≤ a ∧ a < p) (hb : 0 ≤ b ∧ b < p) : 0 ≤ red p (a + b) ∧ red p (a + b) < p ∧ red p (a + b) ≤ a + b ∧ (red p (a + b) = a + b ∨ red p (a + b) < a + b) := by
  unfold red
  split <;> omega
theorem red_pow {p x a b : Int} (h : Pr p) (hx : 0 ≤ x ∧ x < p) (ha : 0 ≤ a ∧ a < p) (hb : 0 ≤ b ∧ b < p) : p ∣ x ^ (red p (a + b)).toNat - x ^ a.toNat * x ^ b.toNat := by
  have hp := h.pos
  rw [← Int.pow_add]
  unfold red
  split
  · rw [show (a + b).toNat = a.toNat + b.toNat by omega, Int.sub_self]
    exact Int.dvd_zero p
  · obtain ⟨j, hj⟩ : ∃ j : Nat, a.toNat + b.toNat = j + p.toNat := ⟨a.toNat + b.toNat - p.toNat, by omega⟩
    rw [hj, show (a + b - (p - 1)).toNat = j + 1 by omega, Int.pow_succ, Int.pow_add]
    have := Int.dvd_neg.mpr (Int.dvd_mul_of_dvd_right (b := x ^ j) (fermat h hx.1 hx.2))
    rwa [Int.mul_sub, Int.neg_sub] at this
theorem madd_tu {p : Int} (hp : 2 ≤ p) : ∀ {n : Nat} {m q : List Int}, Tu p n m → Tu p n q → Tu p n (madd p m q)
  | n, m, q, ⟨h1, h2⟩, ⟨h3, h4⟩ => by
    refine ⟨by unfold madd; rw [List.length_zipWith, h1, h3, Nat.min_self], fun x hx => ?_⟩
    obtain ⟨i, hi, e⟩ := List.getElem_of_mem hx
    unfold madd at e hi
    rw [List.getElem_zipWith] at e
    rw [List.length_zipWith] at hi
    have := red_in hp (h2 m[i] (List.getElem_mem _)) (h4 q[i] (List.getElem_mem _))
    omega
theorem In.tail {p x : Int} {v : List Int} (h : In p (x :: v)) : In p v := fun y hy => h y (List.mem_cons_of_mem _ hy)
theorem In.head {p x : Int} {v : List Int} (h : In p (x :: v)) : 0 ≤ x ∧ x < p := h x List.mem_cons_self
theorem madd_mono {p : Int} (h : Pr p) : ∀ (m q x : List Int), m.length = x.length → q.length = x.length → In p m → In p q → In p x → p ∣ mono (madd p m q) x - mono m x * mono q x
  | [], [], [], _, _, _, _, _ => by simp [madd, mono]
  | a :: m, b :: q, y :: x, h1, h2, h3, h4, h5 => by
    have ih := madd_mono h m q x (by simpa using h1) (by simpa using h2) h3.tail h4.tail h5.tail
    have r := red_pow h h5.head h3.head h4.head
    show p ∣ y ^ (red p (a + b)).toNat * mono (madd p m q) x - y ^ a.toNat * mono m x * (y ^ b.toNat * mono q x)
    have h6 := Int.dvd_add (Int.dvd_mul_of_dvd_left r (c := mono (madd p m q) x)) (Int.dvd_mul_of_dvd_right ih (b := y ^ a.toNat * y ^ b.toNat))
    rwa [Int.sub_mul, Int.mul_sub, show ∀ u v w : Int, u - v + (v - w) = u - w by intros; omega, show y ^ a.toNat * y ^ b.toNat * (mono m x * mono q x) = y ^ a.toNat * mono m x * (y ^ b.toNat * mono q x) by
      rw [Int.mul_assoc, Int.mul_assoc, Int.mul_left_comm (y ^ b.toNat)]] at h6
  | [], _ :: _, [], _, h2, _, _, _ => by simp at h2
  | _ :: _, _, [], h1, _, _, _, _ => by simp at h1
  | [], _, _ :: _, h1, _, _, _, _ => by simp at h1
  | _, [], _ :: _, _, h2, _, _, _ => by simp at h2
theorem madd_sum {p : Int} (hp : 2 ≤ p) : ∀ (m q : List Int), m.length = q.length → In p m → In p q → (madd p m q).sum ≤ m.sum + q.sum ∧ ((madd p m q).sum = m.sum + q.sum → madd p m q = List.zipWith (· + ·) m q)
  | [], [], _, _, _ => by simp [madd]
  | a :: m, b :: q, h1, h2, h3 => by
    obtain ⟨i1, i2⟩ := madd_sum hp m q (by simpa using h1) h2.tail h3.tail
    have r := red_in hp h2.head h3.head
    show red p (a + b) + (madd p m q).sum ≤ a + m.sum + (b + q.sum) ∧ (red p (a + b) + (madd p m q).sum = a + m.sum + (b + q.sum) → red p (a + b) :: madd p m q = (a + b) :: List.zipWith (· + ·) m q)
    refine ⟨by omega, fun e => ?_⟩
    rw [i2 (by omega), show red p (a + b) = a + b by omega]
  | [], _ :: _, h1, _, _ => by simp at h1
  | _ :: _, [], h1, _, _ => by simp at h1
theorem divs_iff : ∀ {a b : List Int}, a.length = b.length → (divs a b = true ↔ ∀ (i : Nat) (h : i < a.length) (h' : i < b.length), a[i] ≤ b[i])
  | [], [], _ => by simp [divs]
  | x :: a, y :: b, h => by
    have ih := divs_iff (a := a) (b := b) (by simpa using h)
    unfold divs at ih ⊢
    rw [List.zip_cons_cons, List.all_cons, Bool.and_eq_true, ih, decide_eq_true_eq]
    constructor
    · rintro ⟨h1, h2⟩ i hi hi'
      cases i with
      | zero => exact h1
      | succ i => exact h2 i (by simpa using hi) (by simpa using hi')
    · intro h1
      exact ⟨h1 0 (by simp) (by simp), fun i hi hi' => h1 (i + 1) (by simpa using hi) (by simpa using hi')⟩
  | [], _ :: _, h => by simp at h
  | _ :: _, [], h => by simp at h
theorem msub_tu {p : Int} {n : Nat} {a m : List Int} (ha : Tu p n a) (hm : Tu p n m) (h : divs a m = true) : Tu p n (msub m a) := by
  have hd := (divs_iff (ha.1.trans hm.1.symm)).mp h
  refine ⟨by unfold msub; rw [List.length_zipWith, ha.1, hm.1, Nat.min_self], fun x hx => ?_⟩
  obtain ⟨i, hi, e⟩ := List.getElem_of_mem hx
  unfold msub at e hi
  rw [List.getElem_zipWith] at e
  rw [List.length_zipWith] at hi
  have h1 := ha.2 a[i] (List.getElem_mem _)
  have h2 := hm.2 m[i] (List.getElem_mem _)
  have h3 := hd i (by omega) (by omega)
  omega
theorem msub_add : ∀ (a m : List Int), a.length = m.length → List.zipWith (· + ·) a (msub m a) = m ∧ a.sum + (msub m a).sum = m.sum
  | [], [], _ => ⟨rfl, rfl⟩
  | x :: a, y :: m, h => by
    obtain ⟨i1, i2⟩ := msub_add a m (by simpa using h)
    show (x + (y - x)) :: List.zipWith (· + ·) a (msub m a) = y :: m ∧ x + a.sum + (y - x + (msub m a).sum) = y + m.sum
    rw [i1]
    refine ⟨by rw [show x + (y - x) = y by omega], by omega⟩
  | [], _ :: _, h => by simp at h
  | _ :: _, [], h => by simp at h
theorem add_lt : ∀ (k a q : List Int), k.length = a.length → a.length = q.length → k < a → List.zipWith (· + ·) k q < List.zipWith (· + ·) a q
  | [], [], _, _, _, h => absurd h (List.lt_irrefl [])
  | x :: k, y :: a, z :: q, h1, h2, h => by
    show (x + z) :: List.zipWith (· + ·) k q < (y + z) :: List.zipWith (· + ·) a q
    rw [List.cons_lt_cons_iff] at h ⊢
    rcases h with h | ⟨e, h⟩
    · exact .inl (by omega)
    · exact .inr ⟨by omega, add_lt k a q (by simpa using h1) (by simpa using h2) h⟩
  | _ :: _, _ :: _, [], _, h2, _ => by simp at h2
  | [], _ :: _, _, h1, _, _ => by simp at h1
  | _ :: _, [], _, h1, _, _ => by simp at h1
/-- what stands below a power stands, times the rest, below its multiple -/
theorem below {p : Int} {n : Nat} {a m k : List Int} (hp : 2 ≤ p) (ha : Tu p n a) (hm : Tu p n m) (hk : Tu p n k) (h : divs a m = true) (l : pl k a) : pl (madd p k (msub m a)) m := by
  have hq := msub_tu ha hm h
  obtain ⟨e1, e2⟩ := msub_add a m (ha.1.trans hm.1.symm)
  obtain ⟨s1, s2⟩ := madd_sum hp k (msub m a) (hk.1.trans hq.1.symm) hk.2 hq.2
  unfold pl at *
  rcases l with l | ⟨l1, l2⟩
  · exact .inl (by omega)
  · rcases Int.lt_or_eq_of_le s1 with q | q
    · exact .inl (by omega)
    · refine .inr ⟨by omega, ?_⟩
      rw [s2 q]
      have := add_lt k a (msub m a) (hk.1.trans ha.1.symm) (ha.1.trans hq.1.symm) l2
      rwa [e1] at this
theorem mono_sub : ∀ (a m x : List Int), a.length = m.length → m.length = x.length → (∀ (i : Nat) (h : i < a.length) (h' : i < m.length), 0 ≤ a[i] ∧ a[i] ≤ m[i]) → mono a x * mono (msub m a) x = mono m x
  | [], [], [], _, _, _ => rfl
  | b :: a, c :: m, y :: x, h1, h2, h => by
    have h0 := h 0 (by simp) (by simp)
    have ih := mono_sub a m x (by simpa using h1) (by simpa using h2) fun i hi hi' => h (i + 1) (by simpa using hi) (by simpa using hi')
    show y ^ b.toNat * mono a x * (y ^ (c - b).toNat * mono (msub m a) x) = y ^ c.toNat * mono m x
    have h0 : 0 ≤ b ∧ b ≤ c := h0
    rw [← ih, Int.mul_assoc, Int.mul_left_comm (mono a x), ← Int.mul_assoc, ← Int.pow_add, show b.toNat + (c - b).toNat = c.toNat by omega]
  | [], [], _ :: _, _, h2, _ => by simp at h2
  | _ :: _, _ :: _, [], _, h2, _ => by simp at h2
  | [], _ :: _, _, h1, _, _ => by simp at h1
  | _ :: _, [], _, h1, _, _ => by simp at h1

/-! ### the values of powers at points -/
section
variable {p : Int} {n : Nat} {V : List (List Int)}
/-- the values of m at the points, as a vector -/
def ev (p : Int) (V : List (List Int)) (m : List Int) : Vec := vec (evL p V m)
theorem ev_at {i : Nat} (hi : i < V.length) (m : List Int) : ev p V m i = mv p m V[i] := by
  unfold ev vec evL
  rw [getD_lt _ _ (by rw [List.length_map]; exact hi), List.getElem_map]
theorem ev_dvd {i : Nat} (hi : i < V.length) (m : List Int) : p ∣ ev p V m i - mono m V[i] := by
  rw [ev_at hi]
  have := Int.dvd_neg.mpr (Int.dvd_self_sub_emod (x := mono m V[i]) (m := p))
  rwa [Int.neg_sub] at this
theorem evL_len (m : List Int) : (evL p V m).length = V.length := List.length_map ..
theorem evL_in (hp : 2 ≤ p) (m : List Int) : In p (evL p V m) := fun x hx => by
  obtain ⟨q, _, rfl⟩ := List.mem_map.mp hx
  exact mv_lt hp m q
def mulV (f g : Vec) : Vec := fun i => f i * g i
theorem Sp.mul {N : Nat} {G G' : Vec → Prop} {f h : Vec} (s : Sp p N G f) (t : ∀ g, G g → ∃ g', G' g' ∧ Cg p N (mulV g h) g') : Sp p N G' (mulV f h) := by
  induction s with
  | zero z => exact .zero fun i hi => Int.dvd_mul_of_dvd_left (z i hi)
  | @add u v w c s1 m e ih =>
    obtain ⟨g', m', e'⟩ := t _ m
    refine .add (c := c) ih m' fun i hi => ?_
    have h1 := Int.dvd_mul_of_dvd_left (e i hi) (c := h i)
    have h2 := Int.dvd_mul_of_dvd_right (e' i hi) (b := c)
    have h3 := Int.dvd_add h1 h2
    rwa [show (w i - ax u c v i) * h i + c * (mulV v h i - g' i) = mulV w h i - ax (mulV u h) c g' i by
      unfold ax mulV
      rw [Int.sub_mul, Int.add_mul, Int.mul_sub, Int.mul_assoc c]
      omega] at h3
/-- a product of powers, at the points -/
theorem ev_madd (h : Pr p) (hV : ∀ q ∈ V, Tu p n q) {m q : List Int} (hm : Tu p n m) (hq : Tu p n q) : Cg p V.length (mulV (ev p V m) (ev p V q)) (ev p V (madd p m q)) := fun i hi => by
  have hx := hV V[i] (List.getElem_mem hi)
  have h0 := madd_mono h m q V[i] (hm.1.trans hx.1.symm) (hq.1.trans hx.1.symm) hm.2 hq.2 hx.2
  have h1 := ev_dvd (p := p) hi (madd p m q)
  have h2 := Int.dvd_mul_of_dvd_left (ev_dvd (p := p) hi m) (c := ev p V q i)
  have h3 := Int.dvd_mul_of_dvd_right (ev_dvd (p := p) hi q) (b := mono m V[i])
  have h4 := Int.dvd_sub (Int.dvd_sub (Int.dvd_add h2 h3) h0) h1
  rwa [show (ev p V m i - mono m V[i]) * ev p V q i + mono m V[i] * (ev p V q i - mono q V[i]) - (mono (madd p m q) V[i] - mono m V[i] * mono q V[i]) - (ev p V (madd p m q) i - mono (madd p m q) V[i]) = mulV (ev p V m) (ev p V q) i - ev p V (madd p m q) i by
    unfold mulV
    rw [Int.sub_mul, Int.mul_sub]
    omega] at h4
theorem ev_sub (hV : ∀ q ∈ V, Tu p n q) {a m : List Int} (ha : Tu p n a) (hm : Tu p n m) (hd : divs a m = true) : Cg p V.length (ev p V m) (mulV (ev p V a) (ev p V (msub m a))) := fun i hi => by
  have hx := hV V[i] (List.getElem_mem hi)
  have hd' := (divs_iff (ha.1.trans hm.1.symm)).mp hd
  have h0 := mono_sub a m V[i] (ha.1.trans hm.1.symm) (hm.1.trans hx.1.symm) fun j hj hj' => ⟨(ha.2 _ (List.getElem_mem hj)).1, hd' j hj hj'⟩
  have h1 := ev_dvd (p := p) hi m
  have h2 := Int.dvd_mul_of_dvd_left (ev_dvd (p := p) hi a) (c := ev p V (msub m a) i)
  have h3 := Int.dvd_mul_of_dvd_right (ev_dvd (p := p) hi (msub m a)) (b := mono a V[i])
  have h4 := Int.dvd_sub h1 (Int.dvd_add h2 h3)
  rwa [show ev p V m i - mono m V[i] - ((ev p V a i - mono a V[i]) * ev p V (msub m a) i + mono a V[i] * (ev p V (msub m a) i - mono (msub m a) V[i])) = ev p V m i - mulV (ev p V a) (ev p V (msub m a)) i by
    unfold mulV
    rw [Int.sub_mul, Int.mul_sub, h0]
    omega] at h4

/-! ### the walk -/
structure WS where
  kept : List (List Int)
  leads : List (List Int)
  rows : List LRow
def wstep (p : Int) (V : List (List Int)) (s : WS) (m : List Int) : WS :=
  if s.leads.any (fun l => divs l m) then s
  else match fnz (clL p s.rows (evL p V m)) with
    | none => { s with leads := s.leads ++ [m] }
    | some k => { s with kept := s.kept ++ [m], rows := s.rows ++ [(k, scaled p (clL p s.rows (evL p V m)) k)] }
def wwalk (p : Int) (V : List (List Int)) (ms : List (List Int)) : WS := ms.foldl (wstep p V) ⟨[], [], []⟩
/-- the values of the powers of a list -/
def evs (p : Int) (V : List (List Int)) (ms : List (List Int)) : Vec → Prop := fun g => ∃ m ∈ ms, g = ev p V m
structure WInv (p : Int) (n : Nat) (V pre : List (List Int)) (s : WS) : Prop where
  ok : LOk p V.length s.rows
  tells : Tells p V.length (evs p V pre) (vrows s.rows)
  leads : ∀ l ∈ s.leads, Tu p n l ∧ Sp p V.length (fun g => ∃ k, Tu p n k ∧ pl k l ∧ g = ev p V k) (ev p V l)
  len : s.kept.length = s.rows.length
  sub : ∀ m ∈ s.kept, m ∈ pre
theorem Tells.congr {N : Nat} {G G' : Vec → Prop} {R : Rw} (a : Tells p N G R) (e : ∀ g, G g ↔ G' g) : Tells p N G' R := by
  have : G = G' := funext fun g => propext (e g)
  rw [← this]; exact a
theorem evs_snoc (pre : List (List Int)) (m : List Int) (g : Vec) : (evs p V pre g ∨ g = ev p V m) ↔ evs p V (pre ++ [m]) g := by
  unfold evs
  constructor
  · rintro (⟨k, hk, e⟩ | e)
    · exact ⟨k, List.mem_append_left _ hk, e⟩
    · exact ⟨m, List.mem_append_right _ List.mem_cons_self, e⟩
  · rintro ⟨k, hk, e⟩
    rcases List.mem_append.mp hk with hk | hk
    · exact .inl ⟨k, hk, e⟩
    · rw [List.mem_singleton.mp hk] at e
      exact .inr e
theorem wstep_inv (h : Pr p) (hV : ∀ q ∈ V, Tu p n q) {pre : List (List Int)} {m : List Int} {s : WS} (I : WInv p n V pre s) (hm : Tu p n m) (hpre : ∀ k ∈ pre, Tu p n k ∧ pl k m) (all : ∀ k, Tu p n k → pl k m → k ∈ pre) :
    WInv p n V (pre ++ [m]) (wstep p V s m) := by
  have hp := h.pos
  unfold wstep
  split
  · rename_i hd
    obtain ⟨l, hl, hd⟩ := List.any_eq_true.mp hd
    obtain ⟨tl, sl⟩ := I.leads l hl
    have hq := msub_tu tl hm hd
    have h1 : Sp p V.length (evs p V pre) (mulV (ev p V l) (ev p V (msub m l))) := sl.mul fun g ⟨k, tk, lk, e⟩ => by
      subst e
      exact ⟨ev p V (madd p k (msub m l)), ⟨_, all _ (madd_tu hp tk hq) (below hp tl hm tk hd lk), rfl⟩, ev_madd h hV tk hq⟩
    have h2 : Sp p V.length (evs p V pre) (ev p V m) := h1.cong (ev_sub hV tl hm hd)
    exact ⟨I.ok, (I.tells.same (h2.mono I.tells.back)).congr (evs_snoc pre m), I.leads, I.len, fun k hk => List.mem_append_left _ (I.sub k hk)⟩
  · obtain ⟨g1, g2⟩ := grow_tells h I.ok I.tells (evL_len m) (evL_in hp m)
    have g2 := g2.congr (evs_snoc pre m)
    unfold grow at g1 g2
    cases e : fnz (clL p s.rows (evL p V m)) with
    | none =>
      rw [e] at g1 g2
      refine ⟨g1, g2, fun l hl => ?_, I.len, fun k hk => List.mem_append_left _ (I.sub k hk)⟩
      rcases List.mem_append.mp hl with hl | hl
      · exact I.leads l hl
      · rw [List.mem_singleton.mp hl]
        obtain ⟨_, _, c3⟩ := clL_ok (by omega) I.ok (evL_len (p := p) (V := V) m) (evL_in hp m)
        have h1 : Sp p V.length (inR (vrows s.rows)) (ev p V m) := cl_in _ _ fun i hi => (c3.dvd hi).mp (by rw [fnz_none e]; exact Int.dvd_zero p)
        refine ⟨hm, (h1.mono fun g ⟨r, hr, e⟩ => e ▸ I.tells.into r hr).mono fun g ⟨k, hk, e⟩ => .of ⟨k, (hpre k hk).1, (hpre k hk).2, e⟩⟩
    | some k =>
      rw [e] at g1 g2
      refine ⟨g1, g2, I.leads, ?_, fun j hj => ?_⟩
      · show (s.kept ++ [m]).length = (s.rows ++ [_]).length
        rw [List.length_append, List.length_append, I.len]; rfl
      · have hj : j ∈ s.kept ++ [m] := hj
        rcases List.mem_append.mp hj with hj | hj
        · exact List.mem_append_left _ (I.sub j hj)
        · exact List.mem_append_right _ hj
/-- the powers, each once, in ascending order -/
structure Ordered (p : Int) (n : Nat) (ms : List (List Int)) : Prop where
  nd : ms.Nodup
  mem : ∀ m, m ∈ ms ↔ Tu p n m
  up : ms.Pairwise fun a b => ¬ pl b a
theorem walk_inv (h : Pr p) (hV : ∀ q ∈ V, Tu p n q) {ms : List (List Int)} (O : Ordered p n ms) : ∀ (post pre : List (List Int)) (s : WS), ms = pre ++ post → WInv p n V pre s → ∀ mid rest, post = mid ++ rest → WInv p n V (pre ++ mid) (mid.foldl (wstep p V) s)
  | _, pre, s, e, I, [], _, _ => by rw [List.append_nil]; exact I
  | post, pre, s, e, I, m :: mid, rest, e2 => by
    subst e2
    have hms : ms = (pre ++ [m]) ++ (mid ++ rest) := by rw [e, List.append_assoc]; rfl
    have nd := O.nd
    have up := O.up
    rw [e] at nd up
    obtain ⟨u1, u2, u3⟩ := List.pairwise_append.mp up
    obtain ⟨n1, n2, n3⟩ := List.nodup_append.mp nd
    have tm : Tu p n m := (O.mem m).mp (by rw [e]; exact List.mem_append_right _ List.mem_cons_self)
    have st := wstep_inv h hV I tm (fun k hk => ⟨(O.mem k).mp (by rw [e]; exact List.mem_append_left _ hk), pl_total (u3 k hk m List.mem_cons_self) (n3 k hk m List.mem_cons_self)⟩) fun k tk lk => by
      have hk : k ∈ pre ++ m :: (mid ++ rest) := by rw [← List.cons_append, ← e]; exact (O.mem k).mpr tk
      rcases List.mem_append.mp hk with hk | hk
      · exact hk
      · rcases List.mem_cons.mp hk with rfl | hk
        · exact absurd lk (pl_irrefl _)
        · have u2' : (m :: (mid ++ rest)).Pairwise fun a b => ¬ pl b a := u2
          exact absurd lk ((List.pairwise_cons.mp u2').1 k hk)
    have := walk_inv h hV O (mid ++ rest) (pre ++ [m]) (wstep p V s m) hms st mid rest rfl
    rwa [List.append_assoc] at this
theorem WInv.nil : WInv p n V [] ⟨[], [], []⟩ := ⟨LOk.nil, Tells.nil.congr fun g => ⟨fun h => h.elim, fun ⟨_, h, _⟩ => nomatch h⟩, fun _ h => (nomatch h), rfl, fun _ h => (nomatch h)⟩
/-- what is kept later comes from the later powers -/
theorem walk_kept : ∀ (ms : List (List Int)) (s : WS), ∃ more, (ms.foldl (wstep p V) s).kept = s.kept ++ more ∧ ∀ m ∈ more, m ∈ ms
  | [], s => ⟨[], by rw [List.append_nil]; rfl, fun _ h => nomatch h⟩
  | m :: ms, s => by
    obtain ⟨more, e, hm⟩ := walk_kept ms (wstep p V s m)
    have hs : ∃ l, (wstep p V s m).kept = s.kept ++ l ∧ ∀ k ∈ l, k = m := by
      unfold wstep
      split
      · exact ⟨[], by rw [List.append_nil], fun _ h => nomatch h⟩
      · split
        · exact ⟨[], by rw [List.append_nil], fun _ h => nomatch h⟩
        · exact ⟨[m], rfl, fun k hk => List.mem_singleton.mp hk⟩
    obtain ⟨l, e2, hl⟩ := hs
    refine ⟨l ++ more, by rw [List.foldl_cons, e, e2, List.append_assoc], fun k hk => ?_⟩
    rcases List.mem_append.mp hk with hk | hk
    · rw [hl k hk]
      exact List.mem_cons_self
    · exact List.mem_cons_of_mem _ (hm k hk)
theorem split_deg (d : Int) : ∀ {ms : List (List Int)}, (ms.Pairwise fun a b => ¬ pl b a) → ms = ms.filter (fun m => decide (m.sum ≤ d)) ++ ms.filter (fun m => !decide (m.sum ≤ d))
  | [], _ => rfl
  | m :: ms, h => by
    obtain ⟨h1, h2⟩ := List.pairwise_cons.mp h
    have ih := split_deg d h2
    by_cases q : m.sum ≤ d
    · rw [List.filter_cons_of_pos (by simpa using q), List.filter_cons_of_neg (by simpa using q), List.cons_append, ← ih]
    · have all : ∀ k ∈ ms, ¬ k.sum ≤ d := fun k hk z => h1 k hk (.inl (by omega))
      rw [List.filter_cons_of_neg (by simpa using q), List.filter_cons_of_pos (by simpa using q), List.filter_eq_nil_iff.mpr (fun k hk => by simpa using all k hk), List.filter_eq_self.mpr (fun k hk => by simpa using all k hk)]
      rfl
/-- the law's rows over a list of powers -/
def lrows (p : Int) (V : List (List Int)) (rows : List LRow) (ms : List (List Int)) : List LRow := ms.foldl (fun r m => grow p r (evL p V m)) rows
theorem lrows_inv (h : Pr p) : ∀ (ms pre : List (List Int)) (rows : List LRow), LOk p V.length rows → Tells p V.length (evs p V pre) (vrows rows) → LOk p V.length (lrows p V rows ms) ∧ Tells p V.length (evs p V (pre ++ ms)) (vrows (lrows p V rows ms))
  | [], pre, rows, a, b => by rw [List.append_nil]; exact ⟨a, b⟩
  | m :: ms, pre, rows, a, b => by
    obtain ⟨g1, g2⟩ := grow_tells h a b (evL_len m) (evL_in h.pos m)
    have := lrows_inv h ms (pre ++ [m]) _ g1 (g2.congr (evs_snoc pre m))
    rwa [List.append_assoc] at this
/-- as many kept powers of at most a degree as rows that the law's elimination leaves of them -/
theorem both_counts (h : Pr p) (hV : ∀ q ∈ V, Tu p n q) {ms : List (List Int)} (O : Ordered p n ms) (d : Int) {ls : List (List Int)} (hl : ∀ m, m ∈ ls ↔ (Tu p n m ∧ m.sum ≤ d)) :
    ((wwalk p V ms).kept.filter fun m => decide (m.sum ≤ d)).length = (lrows p V [] ls).length := by
  have e := split_deg d O.up
  generalize hA : ms.filter (fun m => decide (m.sum ≤ d)) = A at e
  generalize hB : ms.filter (fun m => !decide (m.sum ≤ d)) = B at e
  have memA : ∀ m, m ∈ A ↔ (Tu p n m ∧ m.sum ≤ d) := fun m => by
    rw [← hA, List.mem_filter, O.mem, decide_eq_true_eq]
  have IA := walk_inv h hV O ms [] ⟨[], [], []⟩ rfl (WInv.nil) A B e
  rw [List.nil_append] at IA
  obtain ⟨more, k1, k2⟩ := walk_kept (p := p) (V := V) B (A.foldl (wstep p V) ⟨[], [], []⟩)
  have ek : (wwalk p V ms).kept = (A.foldl (wstep p V) ⟨[], [], []⟩).kept ++ more := by
    unfold wwalk
    rw [e, List.foldl_append]
    exact k1
  rw [ek, List.filter_append, List.filter_eq_self.mpr (fun m hm => decide_eq_true ((memA m).mp (IA.sub m hm)).2), List.filter_eq_nil_iff.mpr (fun m hm => ?_), List.append_nil, IA.len]
  · have L := lrows_inv (V := V) h ls [] [] LOk.nil (Tells.nil.congr fun g => ⟨fun h => h.elim, fun ⟨_, h, _⟩ => nomatch h⟩)
    have := IA.tells.len h.not1 L.2 (fun g ⟨m, hm, eg⟩ => .of ⟨m, List.mem_append_right _ ((hl m).mpr ((memA m).mp hm)), eg⟩) fun g ⟨m, hm, eg⟩ => .of ⟨m, (memA m).mpr ((hl m).mp (by simpa using hm)), eg⟩
    unfold vrows at this
    rwa [List.length_map, List.length_map] at this
  · have hb := k2 m hm
    rw [← hB, List.mem_filter] at hb
    simpa using hb.2

/-! ### every function on the points is a polynomial -/
theorem mono_zero : ∀ (k : Nat) (x : List Int), mono (List.replicate k 0) x = 1
  | 0, _ => rfl
  | _ + 1, [] => rfl
  | k + 1, y :: x => by
    show y ^ 0 * mono (List.replicate k 0) x = 1
    rw [mono_zero k x, Int.pow_zero, Int.one_mul]
/-- the power that is the j-th unknown -/
def unit (n j : Nat) : List Int := (List.replicate n 0).set j 1
theorem mono_unit : ∀ (n j : Nat) (x : List Int) (hj : j < x.length), n = x.length → mono (unit n j) x = x[j]
  | _, _, [], hj, _ => by simp at hj
  | 0, _, _ :: _, _, e => by simp at e
  | n + 1, 0, y :: x, _, _ => by
    show y ^ 1 * mono (List.replicate n 0) x = y
    rw [mono_zero, Int.mul_one, Int.pow_one] 
  | n + 1, j + 1, y :: x, hj, e => by
    have hj' : j < x.length := by simpa using hj
    have ih := mono_unit n j x hj' (by simpa using e)
    show y ^ 0 * mono (unit n j) x = x[j]
    rw [ih, Int.pow_zero, Int.one_mul]
theorem unit_tu {j : Nat} (hp : 2 ≤ p) : Tu p n (unit n j) := by
  refine ⟨by unfold unit; rw [List.length_set, List.length_replicate], fun x hx => ?_⟩
  rcases List.mem_or_eq_of_mem_set hx with h | h
  · rw [(List.mem_replicate.mp h).2]
    omega
  · rw [h]
    omega
theorem zero_tu (hp : 2 ≤ p) : Tu p n (List.replicate n 0) := ⟨List.length_replicate .., fun x hx => by rw [(List.mem_replicate.mp hx).2]; omega⟩
/-- each place is one where a member begins -/
theorem lead_all (h : Pr p) (hV : ∀ q ∈ V, Tu p n q) (nd : V.Nodup) {k : Nat} (hk : k < V.length) : Lead p V.length (Sp p V.length (fun g => ∃ m, Tu p n m ∧ g = ev p V m)) k := by
  have hp := h.pos
  have go : ∀ t, t ≤ k → ∃ f, Sp p V.length (fun g => ∃ m, Tu p n m ∧ g = ev p V m) f ∧ (∀ i, i < t → p ∣ f i) ∧ ¬ p ∣ f k := by
    intro t
    induction t with
    | zero =>
      intro _
      refine ⟨ev p V (List.replicate n 0), .of ⟨_, zero_tu hp, rfl⟩, fun i hi => absurd hi (Nat.not_lt_zero i), fun z => h.not1 ?_⟩
      have := Int.dvd_sub z (ev_dvd (p := p) hk (List.replicate n 0))
      rw [mono_zero] at this
      rwa [show ∀ x : Int, x - (x - 1) = 1 by intros; omega] at this
    | succ t ih =>
      intro ht
      obtain ⟨f, s, f1, f2⟩ := ih (by omega)
      have htl : t < V.length := by omega
      have ne : V[t] ≠ V[k] := fun e => by
        have := (List.getElem_inj nd).mp e
        omega
      have a1 := hV V[t] (List.getElem_mem htl)
      have a2 := hV V[k] (List.getElem_mem hk)
      obtain ⟨j, hj, hj', nej⟩ : ∃ (j : Nat) (hj : j < V[t].length) (hj' : j < V[k].length), V[t][j] ≠ V[k][j] := by
        refine Classical.byContradiction fun z => ne (List.ext_getElem (a1.1.trans a2.1.symm) fun j h1 h2 => ?_)
        exact Classical.byContradiction fun q => z ⟨j, h1, h2, q⟩
      -- f times (x_j - the number of the point t)
      have s1 : Sp p V.length (fun g => ∃ m, Tu p n m ∧ g = ev p V m) (mulV f (ev p V (unit n j))) := s.mul fun g ⟨m, tm, e⟩ => by
        subst e
        exact ⟨_, ⟨madd p m (unit n j), madd_tu hp tm (unit_tu hp), rfl⟩, ev_madd h hV tm (unit_tu hp)⟩
      have u : ∀ i (hi : i < V.length) (q : j < V[i].length), p ∣ ev p V (unit n j) i - V[i][j] := fun i hi q => by
        have := ev_dvd (p := p) hi (unit n j)
        rwa [mono_unit n j V[i] q (hV V[i] (List.getElem_mem hi)).1.symm] at this
      refine ⟨ax (mulV f (ev p V (unit n j))) (-(V[t][j])) f, s1.lin _ s, fun i hi => ?_, fun z => ?_⟩
      · by_cases q : i < t
        · exact Int.dvd_add (Int.dvd_mul_of_dvd_left (f1 i q)) (Int.dvd_mul_of_dvd_right (f1 i q))
        · have : i = t := by omega
          subst this
          have h1 := Int.dvd_mul_of_dvd_right (u i htl hj) (b := f i)
          rwa [show f i * (ev p V (unit n j) i - V[i][j]) = ax (mulV f (ev p V (unit n j))) (-(V[i][j])) f i by
            unfold ax mulV; rw [Int.mul_sub, Int.neg_mul, Int.mul_comm V[i][j]]; omega] at h1
      · have h1 := Int.dvd_mul_of_dvd_right (u k hk hj') (b := f k)
        have h2 := Int.dvd_sub z h1
        rw [show ax (mulV f (ev p V (unit n j))) (-(V[t][j])) f k - f k * (ev p V (unit n j) k - V[k][j]) = f k * (V[k][j] - V[t][j]) by
          unfold ax mulV; rw [Int.mul_sub, Int.mul_sub, Int.neg_mul, Int.mul_comm V[t][j]]; omega] at h2
        refine h.mul f2 (fun w => ?_) h2
        have b1 := a1.2 V[t][j] (List.getElem_mem hj)
        have b2 := a2.2 V[k][j] (List.getElem_mem hj')
        rcases Int.lt_or_gt_of_ne nej with q | q
        · have := Int.le_of_dvd (by omega) w
          omega
        · have := Int.le_of_dvd (by omega) (Int.dvd_neg.mpr w)
          omega
  obtain ⟨f, s, f1, f2⟩ := go k (Nat.le_refl k)
  exact ⟨hk, f, s, f1, f2⟩
/-- in the end there are as many kept powers as points -/
theorem kept_all (h : Pr p) (hV : ∀ q ∈ V, Tu p n q) (nd : V.Nodup) {ms : List (List Int)} (O : Ordered p n ms) : (wwalk p V ms).kept.length = V.length := by
  have I := walk_inv h hV O ms [] ⟨[], [], []⟩ rfl WInv.nil ms [] (List.append_nil ms).symm
  rw [List.nil_append] at I
  have J := I.tells.congr (G' := fun g => ∃ m, Tu p n m ∧ g = ev p V m) fun g => ⟨fun ⟨m, hm, e⟩ => ⟨m, (O.mem m).mp hm, e⟩, fun ⟨m, hm, e⟩ => ⟨m, (O.mem m).mpr hm, e⟩⟩
  have := J.full h.not1 fun k hk => lead_all h hV nd hk
  unfold vrows at this
  rw [List.length_map] at this
  exact I.len.trans this
end
end Gk


set_option maxHeartbeats 4000000
/-! Growth: rules that the hand layer lacks, part 1: sum of a tuple, any of ints, xs[i] += e. -/
namespace Gk
open PySem PySem.Spec PyProof.Rows L2

section
variable {X : Cx}
/-- sum(t), t a tuple of ints -/
def rSumT (K : PySem.W.Frag) : List V → Hp → VK → Prop := fun vs H Q => ∃ (a : Addr) (ns : List Int), vs = [V.ref a] ∧ SqT K H a (ns.map V.int) ∧ Q (.int ns.sum) H
theorem cr_sumT (hc : X.calm = true) : CallR X (.builtin "sum") (rSumT X.K) := by
  intro pins s σ H vs us Q I r h
  obtain ⟨a, ns, rfl, hs, q⟩ := h
  obtain ⟨its, rv, ht, _⟩ := I.tuple hs
  have hi : IntsAre its ns := rv.ints
  rw [Vals.ref1 r]
  have ht' : s.heap.IsTuple a its.toArray := ht
  obtain ⟨xs, hx⟩ := hi.allInts.items
  have hn : numsOf its.toArray.toList = ns := by rw [show its.toArray.toList = its from rfl, hi.numsOf]
  rw [hx] at ht' hn
  rw [nums_intItems] at hn
  refine PySem.W.ktm_sumG (I.ok.hd hc) ht' fun h' tk t' hk => ?_
  rw [preSum_eq, List.take_of_length_le (by simp), hn]
  exact ⟨.int _, H, I.kept hk, ⟨_, rfl⟩, q⟩

/-- any(xs), xs a list of ints -/
theorem truth_ints {prog : Program} {w : World} {A : Around} {its : List Value} {ns : List Int} (e : IntsAre its ns) :
    TruthOf prog w A (fun i v => its.toArray[i]? = some v) (fun i => ns.getD i 0 != 0) := fun i v s Q E hv hq => by
  have hv' : its[i]? = some v := by simpa using hv
  obtain ⟨t, ht⟩ := PyProof.Rows.IntsAre.int_at e i v hv'
  rw [ht]
  exact truthy_int hq
theorem range_any : ∀ (ns : List Int) (f : Int → Bool), (List.range ns.length).any (fun i => f (ns.getD i 0)) = ns.any f
  | [], _ => rfl
  | b :: bs, f => by
    have ih := range_any bs f
    rw [List.length_cons, List.range_succ_eq_map, List.any_cons, List.any_map, List.any_cons, ← ih]
    all_goals rfl
def rAnyI (K : PySem.W.Frag) : List V → Hp → VK → Prop := fun vs H Q => ∃ (a : Addr) (ns : List Int), vs = [V.ref a] ∧ SqL K H a (ns.map V.int) ∧ Q (.bl (ns.any fun x => x != 0)) H
theorem cr_anyI (hc : X.calm = true) : CallR X (.builtin "any") (rAnyI X.K) := by
  intro pins s σ H vs us Q I r h
  obtain ⟨a, ns, rfl, hs, q⟩ := h
  obtain ⟨its, rv, hl, _⟩ := I.list hs
  have hi : IntsAre its ns := rv.ints
  rw [Vals.ref1 r]
  refine call_any_walk (iter_any hl.isList fun s2 e2 st hne => ?_)
  subst e2
  have W := Walks.list (prog := X.prog) (w := X.w) (A := X.A.in1) (I.ok.hd hc) s.heap.objs.size a hne its.toArray
  refine ⟨_, _, _, _, _, _, _, rfl, W, st, truth_ints hi, fun h' tk hk => ⟨.bl _, H, I.kept fun b o eo => hk b o (fun hm => ?_) (Heap.get?_push_of_some _ eo), ?_, q⟩⟩
  · rcases List.mem_cons.mp hm with e1 | hm
    · exact Nat.lt_irrefl _ (e1 ▸ Heap.lt_size eo)
    · cases hm
  · show Value.bool _ = Value.bool _
    have hlen : its.toArray.size = ns.length := by rw [List.size_toArray]; exact hi.length
    rw [hlen]
    exact congrArg Value.bool (range_any ns fun x => x != 0)

/-- xs[i], by values, for xs[i] += e -/
def gIxL (K : PySem.W.Frag) : V → V → Hp → VK → Prop := fun o i H Q => ∃ (p : Addr) (xs : List V) (j : Nat) (v : V), o = .ref p ∧ i = .int (j : Int) ∧ SqL K H p xs ∧ xs[j]? = some v ∧ Q v H
theorem pget_list : PGet X (gIxL X.K) := by
  intro pins s σ H o i ov iv Q I r1 r2 h
  obtain ⟨p, xs, j, v, rfl, rfl, hs, hj, q⟩ := h
  cases r1
  obtain ⟨t, rfl⟩ := r2
  obtain ⟨its, rv, hl, hz⟩ := I.list hs
  obtain ⟨u, hu, ru⟩ := rv.get hj
  have hjl : j < xs.length := (List.getElem?_eq_some_iff.mp hj).1
  have n63 := line63
  exact wpAny_getItem_list hl.isList (by omega) (by omega) (by simpa using hu) ⟨v, H, I, ru, q⟩
end
end Gk

set_option maxHeartbeats 4000000
/-! Growth: rules that the hand layer lacks, part 2: the items of a dict whose keys are tuples; a display {t: e}. -/
namespace Gk
open PySem PySem.Spec PyProof.Rows L2

section
variable {X : Cx} {pins : List (Addr × Obj)} {σ : L2.St} {H : Hp} {s : Shared} {d : Addr} {o : Obj}
/-- a locked dict with tuple keys, entry by entry -/
theorem frz_entries {kvs : List (List Key × V)} (I : Inv X pins σ H s) (h : H d = some (.frz o (.dT kvs))) :
    (d == sysModules) = false ∧ ∃ (es : Array DictEntry) (ep : Nat), o.data = .dict es ep ∧ s.heap.DictRaw d es ep ∧ es.size = kvs.length ∧
      ∀ (i : Nat) (k : List Key) (v : V), kvs[i]? = some (k, v) → ∃ (hi : i < es.size) (q : Addr), es[i].key = .ref q ∧ H q = some (.tup (k.map kV)) ∧ RelV v es[i].val := by
  obtain ⟨there, small, notMods, xs, pr, ob, es, ep, ho, hx, hdt, he, _⟩ := I.hok d _ h
  have eo : o = ob := Option.some.inj (there.symm.trans ho)
  subst eo
  have l1 : es.size = xs.length := size_of_entries he
  have l2 : kvs.length = xs.length := Paired.length pr
  refine ⟨notMods, es, ep, hdt, ⟨o, there, hx, hdt⟩, by omega, fun i k v e => ?_⟩
  obtain ⟨y, hy, e1, e2, e3⟩ := L2.paired_get pr e
  have hi : i < es.size := by
    have := (List.getElem?_eq_some_iff.mp hy).1
    omega
  have q := entry_at he i
  rw [hy, Array.getElem?_eq_getElem hi] at q
  have q := Option.some.inj q
  exact ⟨hi, y.2.1, by rw [q]; rfl, e2, by rw [q]; exact e3⟩
end

/-- the pairs of the locked dict at d (tuple keys), each a new tuple of the key's tuple and the value -/
def Itx (d : Addr) (o : Obj) (kvs : List (List Key × V)) : It where
  go := fun i H => H d = some (.frz o (.dT kvs)) ∧ i < kvs.length
  yld := fun i H x H' => ∃ (T q : Addr) (k : List Key) (v : V), kvs[i]? = some (k, v) ∧ H q = some (.tup (k.map kV)) ∧ x = .ref T ∧ H T = none ∧ H' = upd H T (.tup [.ref q, v])
  stop := fun i H => H d = some (.frz o (.dT kvs)) ∧ kvs.length ≤ i
section
variable {P : Program} {w : World} {K : PySem.W.Frag} {d : Addr} {o : Obj} {es : Array DictEntry} {ep : Nat}
theorem turn_itx {kvs : List (List Key × V)} {elts : List Expr} {kk : Nat} {tpos : Pos} (it : Addr) (hod : o.data = .dict es ep) :
    Turn P w K (.Tuple elts kk tpos) (Itx d o kvs) [it] it (fun i h => ∃ ok ov, IsItemIter h it d i kvs.length ep ok ov) := by
  have one : ∀ b : Addr, b ∈ [it] → b = it := fun b hb => List.mem_singleton.mp hb
  refine ⟨List.mem_singleton.mpr rfl, ?_, ?_, ?_, ?_, ?_⟩
  · rintro i h ⟨ok, ov, e⟩ b hb
    rw [one b hb]
    exact ⟨_, e, fun v z => nomatch z⟩
  · rintro i h h' ⟨ok, ov, e⟩ k
    exact ⟨ok, ov, k it (List.mem_singleton.mpr rfl) _ e⟩
  · intro X hP hw hK hc i pins s σ H E I hf st hg
    subst hP hw hK
    obtain ⟨ok, ov, he⟩ := st
    obtain ⟨hd, hi⟩ := hg
    obtain ⟨nm, es', ep', hdt, raw, hsz, ent⟩ := frz_entries I hd
    obtain ⟨rfl, rfl⟩ := dict_ep hod hdt
    obtain ⟨⟨k, v⟩, hkv⟩ : ∃ p, kvs[i]? = some p := ⟨kvs[i], List.getElem?_eq_getElem hi⟩
    obtain ⟨hi', q, ekey, hq, rv⟩ := ent i k v hkv
    have hlt : it < s.heap.objs.size := Heap.lt_size he
    rw [← hsz] at he
    refine wpAny_pyNext_items_item_raw he raw hi' fun h' ho hT hz hk => ⟨_, rfl, ?_⟩
    refine wpAny_letOwnedTupleGo_items (s := { s with heap := h' }) ho fun h2 he2 sb => ?_
    have hT2 : h2.get? s.heap.objs.size = some { cls := .type "tuple", data := .seq #[es'[i].key, es'[i].val] } := (sb.2 _ (Nat.ne_of_gt hlt)).trans hT
    have rk : RelV (.ref q) es'[i].key := ekey
    have new : ObjOk X.prog X.w (upd H s.heap.objs.size (.tup [.ref q, v])) h2 s.heap.objs.size (.tup [.ref q, v]) :=
      ⟨by show 2 ≤ sizeLine; decide, [es'[i].key, es'[i].val], .cons rk (.cons rv .nil), ⟨_, hT2, rfl, _, rfl⟩⟩
    have J := I.turnedNew (t' := s.toks) (ch := [it]) (h' := h2) (fun b ob hb e => (sb.2 b (fun z => hb (List.mem_singleton.mpr z))).trans (hk b ob (fun z => hb (List.mem_singleton.mpr z)) e)) hf (Nat.le_refl _) new
    refine ⟨.ref s.heap.objs.size, _, J, rfl, ⟨_, q, k, v, hkv, hq, rfl, I.hok.fresh (Nat.le_refl _), rfl⟩, ⟨es'[i].key, es'[i].val, ?_⟩, fun b hb => ?_⟩
    · rw [← hsz]
      exact he2
    · rw [one b hb, upd_ne (Nat.ne_of_lt hlt)]
      exact (hf it (List.mem_singleton.mpr rfl)).1
  · intro X hP hw hK hc i pins s σ H E I hf st hg
    subst hP hw hK
    obtain ⟨ok, ov, he⟩ := st
    obtain ⟨hd, hi⟩ := hg
    obtain ⟨f0, f1, f2, f3, f4, f5⟩ := hf it (List.mem_singleton.mpr rfl)
    obtain ⟨nm, es', ep', hdt, raw, hsz, ent⟩ := frz_entries I hd
    obtain ⟨rfl, rfl⟩ := dict_ep hod hdt
    rw [← hsz] at he
    exact wpAny_pyNext_items_end_raw (I.ok.hd hc) he raw (by omega) fun h' eb => ⟨rfl, I.turned (t' := s.toks) (fun b ob hb e => eb b ob hb e) f0 f1 f3 f4 f5⟩
  · rintro A i s Q E ⟨ok, ov, e⟩ h
    exact wpAny_pyIter_itemiter e h
end
/-- the dict is locked -/
def iItx (td : TE) : TI := fun σ H R => td σ H fun x H1 => ∃ d o kvs, x = .ref d ∧ H1 d = some (.frz o (.dT kvs)) ∧ R (Itx d o kvs) H1
section
variable {X : Cx} {e : Expr} {td : TE} {apos cpos : Pos}
theorem pi_itx {elts : List Expr} {kk : Nat} {tpos : Pos} (he : PE X e td) (hbase : attributeBase e "items" X.env (eval e X.env) = eval e X.env := by rfl) (hline : (apos.endLine == cpos.line) = true := by rfl) :
    PI X (.Tuple elts kk tpos) (.Call (.Attribute e "items" apos) [] [] cpos) (iItx td) := by
  refine ⟨fun pins s σ H R I h => ?_⟩
  refine wpAny_Call_method (T := "dict") (id := "dict.items") hbase rfl hline PySem.F.plainAttrs_dict PySem.F.slot_dict_items PySem.F.type_dict_items (thn (he.run pins s σ H _ I h) fun u s1 q => ?_)
  obtain ⟨x, H1, I1, rx, d, o, kvs, rfl, hd, q⟩ := q
  cases rx
  obtain ⟨nm, es, ep, hdt, raw, hsz, ent⟩ := frz_entries I1 hd
  obtain ⟨ob, hob, hx, hdt'⟩ := id raw
  refine ⟨raw.typeIs, ?nd, ?_⟩
  case nd =>
    intro b hb
    cases hb
    exact ⟨ob, hob, hx.2.1⟩
  have J : Inv X pins σ H1 { s1 with heap := s1.heap.push { cls := .type "dict_items", data := .fields #[.ref d] } } := I1.kept (t' := s1.toks) fun b u z => Heap.get?_push_of_some _ z
  have go : wpAny (model X.prog X.w) X.A (pyIter (.ref s1.heap.objs.size)) (PIE X pins σ (.Tuple elts kk tpos) R) X.xe { s1 with heap := s1.heap.push { cls := .type "dict_items", data := .fields #[.ref d] } } := by
    refine wpAny_pyIter_items_raw (d := d) ⟨_, Heap.get?_push_size _ rfl, rfl, rfl⟩ (raw.at fun _ z => Heap.get?_push_of_some _ z) ?_
    refine pi_one (tk := s1.toks) J _ (turn_itx _ hdt) ⟨.none, .none, ?_⟩ q
    rw [← hsz]
    exact Heap.get?_push_size _ rfl
  show wpAny _ _ (callWith cpos (.builtin "dict.items") [.ref d] [] []) _ X.xe s1
  exact method_meetsIn PySem.F.slot_dict_items PySem.F.entry_dict_items rfl (PySem.evalArgs_none ⟨rfl, raw.typeIs, PySem.F.args_dict_items_1 _, _, meets_dict_items_raw d nm, ⟨_, _, raw⟩, go⟩)
end

/-- {t: e}, t a tuple of ints and texts -/
def tOneT (tk tv : TE) : TE := fun σ H Q => ∀ p, H p = none → tk σ (upd H p (.dT [])) fun x H1 => tv σ H1 fun y H2 => H2 p = some (.dT []) ∧ ∃ (b : Addr) (k : List Key), x = .ref b ∧ H2 b = some (.tup (k.map kV)) ∧ Q (.ref p) (upd H2 p (.dT [(k, y)]))
section
variable {X : Cx} {ke ve : Expr} {tk tv : TE} {pos : Pos}
theorem pe_oneT (hu : X.A.units + 1 < cLine) (hk : PE X ke tk) (hv : PE X ve tv) : PE X (.Dict [some ke] [ve] pos) (tOneT tk tv) := by
  refine ⟨fun pins s σ H Q I q => ?_⟩
  have hn := I.hok.fresh (Nat.le_refl s.heap.objs.size)
  have I0 := I.laid (a := s.heap.objs.size) (o := .dT []) (h' := s.heap.push { cls := .type "dict", data := .dict #[] }) (t' := s.toks) (fun _ _ z => Heap.get?_push_of_some _ z) (Nat.le_refl _) (dt_empty s.heap I.big)
  rw [arm_eval_Dict]
  have hshape : (evalEachOpt [some ke] X.env).zip ((evalEach [ve] X.env).map fun v => do let x ← v; standAt pos; pure x) = [(eval ke X.env, do let x ← eval ve X.env; standAt pos; pure x)].map fun p => (some p.1, p.2) := rfl
  rw [hshape, dictDisplay_pairs _ (by simp) (by simp)]
  refine wpAny_bind (wpAny_standAt (wpAny_bind (wpAny_subDictH (knd := tupleKind (mixKind X.prog X.w)) (show X.A.units < cLine from Nat.lt_of_succ_lt hu) (by simp) (evalPairs_cons ?_))))
  refine thn (hk.run pins _ σ _ _ I0 (q _ hn)) fun kv s1 ⟨x, H1, I1, r1, q1⟩ => ?_
  refine wpAny_bind (thn (hv.run pins s1 σ H1 _ I1 q1) fun vv s2 ⟨y, H2, I2, r2, q2⟩ => wpAny_bind (wpAny_standAt (wpAny_pure ?_)))
  obtain ⟨hp, b, k, rfl, hb, q3⟩ := q2
  cases r1
  refine evalPairs_nil ?_
  obtain ⟨z, hd, xs, rel, dd⟩ := dt_of I2.hok hp
  cases rel
  refine ⟨[(k, b, vv)], ⟨rfl, rfl, key_of I2.hok hb, trivial⟩, dd, fun h' t' dd' hs => wpAny_pure ⟨.ref s.heap.objs.size, _, ?_, rfl, q3⟩⟩
  obtain ⟨ob, es, ep, hob, h2, h3, h4, _, h5⟩ := dd'
  refine d_write I2 (by rw [hp]; exact True.intro) hs ⟨ob, hob⟩ ⟨by show 1 ≤ sizeLine; decide, hd, _, ?_, ob, es, ep, hob, h2, h3, h4, h5⟩
  refine .cons ⟨rfl, ?_, r2⟩ .nil
  rw [upd_ne (ne_of hb hp fun z => nomatch z)]
  exact hb
end
end Gk

set_option maxHeartbeats 4000000
/-! Growth: rules that the hand layer lacks, part 3: {k: v for target in iter}, the keys tuples. -/
namespace Gk
open PySem PySem.Spec PyProof.Rows L2

section
variable {X : Cx} {pins : List (Addr × Obj)} {σ : L2.St} {H : Hp} {s : Shared} {E : Value → Shared → Prop}
/-- the store into the new dict -/
theorem dictSetX {D b : Addr} {kvs : List (List Key × V)} {k : List Key} {v : V} {r : Value} {Q : Unit → Shared → Prop} (hu : X.A.units < cLine) (I : Inv X pins σ H s) (hD : H D = some (.dT kvs)) (hz : kvs.length < sizeLine)
    (hb : H b = some (.tup (k.map kV))) (rv : RelV v r) (h : ∀ s', Inv X pins σ (upd H D (.dT (putK kvs k v))) s' → Q () s') : wpAny (model X.prog X.w) X.A (dictSet D (.ref b) r) Q E s := by
  obtain ⟨z, hd, xs, rel, dd⟩ := dt_of I.hok hD
  have hx : xs.length ≤ sizeLine := by rw [← Paired.length rel]; exact z
  have hl : (putK kvs k v).length ≤ sizeLine := by
    have := length_putK kvs k v
    omega
  refine wpAny_dictSet_heap (hsz := hx) (show (tupleKind (mixKind X.prog X.w)).room X.A from hu) (key_of I.hok hb) dd fun h' dd' hs => h _ ?_
  obtain ⟨q, es, ep, hq, h2, h3, h4, _, h5⟩ := dd'
  refine d_write I (by rw [hD]; exact True.intro) hs ⟨q, hq⟩ ⟨hl, hd, _, (rel.put k hb rv).keeps fun c ys ec => ?_, q, es, ep, hq, h2, h3, h4, h5⟩
  rw [upd_ne (ne_of ec hD (fun z => nomatch z))]
  exact ec

/-- {k: v for target in iter if ..}, the keys tuples: D the new dict -/
def tDcx (wi : TI) (g : TG) (tt : TT) (tk tv : TE) (vs : List Nat) : TE := fun σ H Q => wi σ H fun J H1 => ∀ D, H1 D = none → ∃ W : Nat → Nat → Hp → Prop, (∃ m, W 0 m (upd H1 D (.dT []))) ∧ ∀ i m H, W i m H →
  (J.stop i H ∧ Q (.ref D) H) ∨ (J.go i H ∧ ∃ Nx : Hp → Prop, (∀ H', Nx H' → ∃ m', m' < m ∧ W (i + 1) m' H') ∧ ∀ x H', J.yld i H x H' → g x (wipe σ vs) H' fun σ2 H2 => wipe σ2 vs = wipe σ vs ∧ tt σ2 H2 fun c H3 =>
    if c = true then tk σ2 H3 fun y H4 => tv σ2 H4 fun z H5 => ∃ (b : Addr) (kvs : List (List Key × V)) (k : List Key), y = .ref b ∧ H5 b = some (.tup (k.map kV)) ∧ H5 D = some (.dT kvs) ∧ kvs.length < sizeLine ∧ Nx (upd H5 D (.dT (putK kvs k z))) else Nx H3)
theorem dcx_core {Q : VK} {kx vx tg iter : Expr} {ifs : List Expr} {scope : Scope} {own : List (Str × Nat)} {pos pos' : Pos} {wi : TI} {g : TG} {tt : TT} {tk tv : TE} {use : Option (Value → Sem Unit)} {Qf : Value → Shared → Prop}
    (hu : X.A.units < cLine) (hc : X.calm = true) (hN : X.N.Nodup) (I : Inv X pins σ H s) (hi : PI X tg iter wi) (ok : BlkOk X.N X.env.scope scope own)
    (hg : ∀ (s : Shared) (H : Hp) (C : Addr) (cl : List (Str × Addr)) (fp : List Addr), PG (X.blk s H scope (compEnvC scope cl C X.env) fp) tg g)
    (ht : ∀ (s : Shared) (H : Hp) (C : Addr) (cl : List (Str × Addr)) (fp : List Addr), PTs (X.blk s H scope (compEnvC scope cl C X.env) fp) ifs tt)
    (hk : ∀ (s : Shared) (H : Hp) (C : Addr) (cl : List (Str × Addr)) (fp : List Addr), PE (X.blk s H scope (compEnvC scope cl C X.env) fp) kx tk)
    (he : ∀ (s : Shared) (H : Hp) (C : Addr) (cl : List (Str × Addr)) (fp : List Addr), PE (X.blk s H scope (compEnvC scope cl C X.env) fp) vx tv)
    (hs : ∀ x, foldedSetIterable iter X.env x = pure x) (h : tDcx wi g tt tk tv (own.map (·.2)) σ H Q)
    (fin : ∀ D C s' m H', Inv X pins σ H' s' → Q (.ref D) H' → s'.heap.Ns C m → FpOk X pins H' C → compPost (model X.prog X.w) X.A X.xe use Qf (.ref D) C (.ok .next) s') :
    wpAny (model X.prog X.w) X.A (comprehension (.DictComp kx vx [⟨tg, iter, ifs, 0⟩] scope pos) scope X.env pos' newDict false (eval iter X.env) use) Qf X.xe s := by
  have caught : ∀ y ∈ scope.names, y.2 = .free → ∃ c, X.env.cells.lookup y.1 = some c := fun y hy e => (ok.free y hy e).elim (fun k => I.ok.has _ (.inl k)) fun k => I.ok.has _ (.inr k)
  refine wpAny_comprehension_free (use := use) rfl hs (closure_ok caught) ok.kind (fun y hy e => by rw [ok.uniq y hy, e]) (thn (hi.run pins s σ H _ I h) fun xv sA hx => thn hx fun itv sB came => ?_)
  obtain ⟨it, fp, tn, J, HB, rfl, IB, T, stB, fB, q⟩ := came
  refine wpAny_newObj_type (newEnv_comp ?_)
  -- the new dict
  generalize hD : sB.heap.objs.size = D
  have nD : HB D = none := IB.hok.fresh (Nat.le_of_eq hD)
  obtain ⟨W, ⟨m0, w0⟩, turn⟩ := q D nD
  generalize hsC : ({ sB with heap := sB.heap.push { cls := .type "dict", data := .dict #[] } } : Shared) = sC
  have IC : Inv X pins σ (upd HB D (.dT [])) sC := by
    rw [← hsC]
    refine IB.laid (t' := sB.toks) (fun b o e => Heap.get?_push_of_some _ e) (Nat.le_of_eq hD) ?_
    rw [← hD]
    exact dt_empty sB.heap IB.big
  have heC : sC.heap = sB.heap.push { cls := .type "dict", data := .dict #[] } := by rw [← hsC]
  have fC : ∀ b ∈ fp, FpOk X pins (upd HB D (.dT [])) b ∧ b < sC.heap.objs.size := fun b hb => by
    obtain ⟨o, e, _⟩ := T.obj _ _ stB b hb
    have hlt : b < sB.heap.objs.size := Heap.lt_size e
    have hbD : b ≠ D := by rw [← hD]; exact Nat.ne_of_lt hlt
    refine ⟨⟨?_, (fB b hb).2⟩, by rw [heC, Heap.size_push]; exact Nat.lt_succ_of_lt hlt⟩
    rw [upd_ne hbD]
    exact (fB b hb).1
  have stC : tn 0 sC.heap := T.keep _ _ _ stB fun b _ o e => by
    rw [heC]
    exact Heap.get?_push_of_some _ e
  have IS := block_start IC ok hN fC
  -- the block's own context
  have bG := hg sC (upd HB D (.dT [])) sC.heap.objs.size (cellsFrom (sC.heap.objs.size + 1) scope.names (cloFrom X.env.cells scope.names [])) fp
  have bT := ht sC (upd HB D (.dT [])) sC.heap.objs.size (cellsFrom (sC.heap.objs.size + 1) scope.names (cloFrom X.env.cells scope.names [])) fp
  have bK := hk sC (upd HB D (.dT [])) sC.heap.objs.size (cellsFrom (sC.heap.objs.size + 1) scope.names (cloFrom X.env.cells scope.names [])) fp
  have bV := he sC (upd HB D (.dT [])) sC.heap.objs.size (cellsFrom (sC.heap.objs.size + 1) scope.names (cloFrom X.env.cells scope.names [])) fp
  have outF : ∀ b ∈ fp, (upd HB D (.dT [])) b = none := fun b hb => (fC b hb).1.1
  show codeAny _ _ (.compStart (.DictComp kx vx [⟨tg, iter, ifs, 0⟩] scope pos) 0 (.ref it) (.ref D) (compEnvC scope (cellsFrom (sC.heap.objs.size + 1) scope.names (cloFrom X.env.cells scope.names [])) sC.heap.objs.size X.env)) (compPost (model X.prog X.w) X.A X.xe use Qf (.ref D) sC.heap.objs.size)
    { sC with heap := pushCells (sC.heap.push { cls := .type "dict", data := .dict #[] }) scope.names }
  generalize hcl : cellsFrom (sC.heap.objs.size + 1) scope.names (cloFrom X.env.cells scope.names []) = cl at IS bG bT bK bV ⊢
  generalize hce : compEnvC scope cl sC.heap.objs.size X.env = ce at IS bG bT bK bV ⊢
  have locCe : ce.locals = sC.heap.objs.size := by rw [← hce]; rfl
  generalize hHC : upd HB D (.dT []) = HC at IC IS bG bT bK bV w0 outF fC
  generalize hsS : ({ sC with heap := pushCells (sC.heap.push { cls := .type "dict", data := .dict #[] }) scope.names } : Shared) = sS at IS ⊢
  have stS : tn 0 sS.heap := T.keep _ _ _ stC fun b _ o e => by
    rw [← hsS]
    exact pushCells_keeps _ _ _ _ (Heap.get?_push_of_some _ e)
  have fpB : ∀ {σ' : L2.St} {H' : Hp} {s' : Shared}, Inv (X.blk sC HC scope ce fp) [] σ' H' s' → (∀ b ∈ fp, H' b = none) → ∀ b ∈ fp, FpOk (X.blk sC HC scope ce fp) [] H' b := fun {σ' H' s'} I' hn b hb =>
    ⟨hn b hb, (I'.ok.exf b hb).1, I'.ok.exfs b hb, .inl hb, fun x c e => (I'.ok.exf b hb).2 x c e, fun p hp => nomatch (show p ∈ ([] : List (Addr × Obj)) from hp)⟩
  have loop : codeAny (model X.prog X.w) X.A (.compLoop (.DictComp kx vx [⟨tg, iter, ifs, 0⟩] scope pos) 0 (.ref it) (.ref D) ce) (compPost (model X.prog X.w) X.A X.xe use Qf (.ref D) sC.heap.objs.size) sS := by
    refine compLoop_anyD (fun n s' => ∃ i H', Inv (X.blk sC HC scope ce fp) [] (wipe σ (own.map (·.2))) H' s' ∧ tn i s'.heap ∧ (∀ b ∈ fp, H' b = none) ∧ W i n H') ?_ m0 ⟨0, HC, IS, stS, outF, w0⟩
    rintro n s1 ⟨i, H1, I1, st1, n1, w1⟩
    rcases turn i n H1 w1 with ⟨stop, qq⟩ | ⟨go, Nx, hNx, step⟩
    · have halt := T.done (X.blk sC HC scope ce fp) rfl rfl rfl hc i [] s1 _ H1 (fun _ _ => False) I1 (fpB I1 n1) st1 stop
      refine thnF halt fun r s2 ⟨hr, I2⟩ => ?_
      subst hr
      have I3 : Inv X pins σ H1 s2 := IC.call' (ch := fp) I2.os I2.base I2.hok I2.bare fun b hb =>
        let z := (fC b hb).1.2
        ⟨z.2.2.1, z.1, z.2.2.2.1, z.2.2.2.2⟩
      have nC : H1 sC.heap.objs.size = none := by
        rw [← locCe]
        exact I2.free
      obtain ⟨m, hn, _⟩ := I2.loc
      have hn : s2.heap.Ns ce.locals m := hn
      rw [locCe] at hn
      exact fin D sC.heap.objs.size s2 m H1 I3 qq hn (IC.fpOk (Nat.le_refl _) nC)
    · have come := T.item (X.blk sC HC scope ce fp) rfl rfl rfl hc i [] s1 _ H1 (fun _ _ => False) I1 (fpB I1 n1) st1 go
      refine thnF come fun r s2 ⟨u, hr, more⟩ => ?_
      subst hr
      refine thnF more fun _ s3 ⟨x, H3, I3, r3, y3, st3, n3⟩ => ?_
      have J3 := I3.pinned (fpB I3 n3) (T.obj _ _ st3)
      refine thnF (bG.run _ s3 _ H3 x u _ J3 r3 (step x H3 y3)) fun _ s4 ⟨σ4, H4, I4, hw4, q4⟩ => ?_
      refine thnF (bT.run _ s4 σ4 H4 _ I4 q4) fun c s5 ⟨H5, I5, q5⟩ => ?_
      have next : ∀ {s' : Shared} {H' : Hp}, Inv (X.blk sC HC scope ce fp) ([] ++ pinsAt fp s3.heap) σ4 H' s' → Nx H' →
          ∃ m, m < n ∧ ∃ i H', Inv (X.blk sC HC scope ce fp) [] (wipe σ (own.map (·.2))) H' s' ∧ tn i s'.heap ∧ (∀ b ∈ fp, H' b = none) ∧ W i m H' := fun {s' H'} I' nx => by
        obtain ⟨m', hm, w'⟩ := hNx H' nx
        have kept : ∀ b ∈ fp, ∀ o, s3.heap.get? b = some o → s'.heap.get? b = some o ∧ H' b = none := fun b hb o e =>
          let z := I'.pin (b, o) (List.mem_append_right _ (List.mem_append_right _ (mem_pinsAt hb e)))
          ⟨z.1, z.2.1⟩
        have hl : (wipe σ (own.map (·.2))).length = σ4.length := by rw [← hw4, wipe_length]
        refine ⟨m', hm, i + 1, H', (I'.unpinned (pins := [])).weak hl (fun j v e => ?_), T.keep _ _ _ st3 fun b hb o e => (kept b hb o e).1, fun b hb => ?_, w'⟩
        · rw [← hw4] at e
          exact (wipe_some e).1
        · obtain ⟨o, e, _⟩ := T.obj _ _ st3 b hb
          exact (kept b hb o e).2
      cases c with
      | false =>
        rw [if_neg Bool.false_ne_true] at q5 ⊢
        exact next I5 q5
      | true =>
        rw [if_pos rfl] at q5 ⊢
        refine thnF (bK.run _ s5 σ4 H5 _ I5 q5) fun z s6 ⟨yk, H6, I6, r6, q6⟩ => ?_
        refine thnF (bV.run _ s6 σ4 H6 _ I6 q6) fun z2 s7 ⟨yv, H7, I7, r7, b, kvs, k, ek, hb, hD7, hz7, nx⟩ => ?_
        subst ek
        cases r6
        exact dictSetX (X := X.blk sC HC scope ce fp) hu I7 hD7 hz7 hb r7 fun s8 I8 => next I8 nx
  exact codeAny_compStart_dict loop (T.self X.A 0 _ _ _ stS loop)
/-- as a value -/
theorem pe_dcx {kx vx tg iter : Expr} {ifs : List Expr} {scope : Scope} {own : List (Str × Nat)} {pos : Pos} {wi : TI} {g : TG} {tt : TT} {tk tv : TE} (hu : X.A.units < cLine) (hc : X.calm = true) (hN : X.N.Nodup) (hi : PI X tg iter wi) (ok : BlkOk X.N X.env.scope scope own)
    (hg : ∀ (s : Shared) (H : Hp) (C : Addr) (cl : List (Str × Addr)) (fp : List Addr), PG (X.blk s H scope (compEnvC scope cl C X.env) fp) tg g)
    (ht : ∀ (s : Shared) (H : Hp) (C : Addr) (cl : List (Str × Addr)) (fp : List Addr), PTs (X.blk s H scope (compEnvC scope cl C X.env) fp) ifs tt)
    (hk : ∀ (s : Shared) (H : Hp) (C : Addr) (cl : List (Str × Addr)) (fp : List Addr), PE (X.blk s H scope (compEnvC scope cl C X.env) fp) kx tk)
    (he : ∀ (s : Shared) (H : Hp) (C : Addr) (cl : List (Str × Addr)) (fp : List Addr), PE (X.blk s H scope (compEnvC scope cl C X.env) fp) vx tv)
    (hs : ∀ x, foldedSetIterable iter X.env x = pure x := by intro _; rfl) :
    PE X (.DictComp kx vx [⟨tg, iter, ifs, 0⟩] scope pos) (tDcx wi g tt tk tv (own.map (·.2))) := by
  refine ⟨fun pins s σ H Q I h => ?_⟩
  rw [arm_eval_DictComp]
  refine dcx_core hu hc hN I hi ok hg ht hk he hs h fun D C s' m H' I' q hn f => ⟨m, hn, fun h2 sb => ?_⟩
  obtain ⟨f0, f1, f2, f3, f4, f5⟩ := f
  exact ⟨.ref D, H', I'.turned (t' := s'.toks) (fun b o hb e => (sb.2 b hb).trans e) f0 f1 f3 f4 f5, rfl, q⟩
end
end Gk

set_option maxHeartbeats 4000000
/-! Growth: rules that the hand layer lacks, part 4: sorted(d, reverse=True), d a dict whose keys are tuples of ints. -/
namespace Gk
open PySem PySem.Spec PyProof.Rows L2

/-- a tuple of ints, as data -/
def encT (m : List Int) : PyData := .tuple (m.map .int)
theorem reads_ints {h : Heap} {a : Addr} {its : List Value} {m : List Int} (ht : IsTup h a its.toArray) (r : Vals (m.map V.int) its) : Reads h (.ref a) (encT m) [] := by
  obtain ⟨o, ho, hc, n, hd⟩ := ht
  refine .tuple ho hc hd ?_
  have : its.toArray.toList = its := rfl
  rw [this]
  exact IntsAre.reads h r.ints
theorem each_by {α β : Type} {R : α → β → Prop} : ∀ {as : List α} {bs : List β}, as.length = bs.length → (∀ (j : Nat) (a : α) (b : β), as[j]? = some a → bs[j]? = some b → R a b) → PySem.W.EachIs R as bs
  | [], [], _, _ => .nil
  | a :: as, b :: bs, hl, h => .cons (h 0 a b rfl rfl) (each_by (by simpa using hl) fun j x y hx hy => h (j + 1) x y (by simpa using hx) (by simpa using hy))
  | [], _ :: _, hl, _ => by simp at hl
  | _ :: _, [], hl, _ => by simp at hl
theorem alike_ints' {m m' : List Int} (h : m.length = m'.length) : PySem.W.alike (encT m) (encT m') = true := by
  show PySem.W.alikeAll (m.map .int) (m'.map .int) = true
  induction m generalizing m' with
  | nil =>
    cases m' with
    | nil => rfl
    | cons _ _ => simp at h
  | cons x m ih =>
    cases m' with
    | nil => simp at h
    | cons y m' =>
      show (PySem.W.alike (.int x) (.int y) && PySem.W.alikeAll (m.map .int) (m'.map .int)) = true
      rw [ih (by simpa using h)]
      rfl
theorem depth_encT (m : List Int) : (encT m).depth ≤ 1 := by
  show (PyData.tuple (m.map .int)).depth ≤ 1
  rw [PyData.depth, PySem.W.depth_ints]
  exact Nat.le_refl _

section
variable {X : Cx}
/-- sorted(d, reverse=True): a list of the keys' own tuples (their order is not told) -/
def rSortDT : List V → List V → Hp → VK → Prop := fun vs zs H Q => ∃ (d : Addr) (kvs : List (List Key × V)) (ms : List (List Int)) (n : Nat), vs = [.ref d] ∧ zs = [.bl true] ∧ H d = some (.dT kvs) ∧ kvs.map (·.1) = ms.map (fun m => m.map Sum.inl) ∧ (∀ m ∈ ms, m.length = n + 1) ∧
  ∀ (ys : List V) (p : Addr), ys.length = kvs.length → (∀ y ∈ ys, ∃ (q : Addr) (m : List Int), y = .ref q ∧ H q = some (.tup (m.map V.int)) ∧ m ∈ ms) → H p = none → Q (.ref p) (upd H p (.lst ys))
theorem kV_ints (m : List Int) : (m.map (Sum.inl : Int → Key)).map kV = m.map V.int := by
  rw [List.map_map]; rfl
theorem cr_sortDT (hu : X.A.units + 64 < cLine) (hc : X.calm = true) : CallRK X (.builtin "sorted") [Str.ofString "reverse"] rSortDT := by
  intro pins s σ H vs zs us ws Q I r rz h
  obtain ⟨d, kvs, ms, n, rfl, rfl, hd, hk, hn, q⟩ := h
  obtain rfl := Vals.ref1 r
  obtain ⟨w1, rfl, e1⟩ := vals1 rz
  obtain rfl : w1 = Value.bool true := e1
  obtain ⟨z, nm, xs, rel, dd⟩ := dt_of I.hok hd
  obtain ⟨es, ep, raw, hes, ent⟩ := dd.raw
  have lx : kvs.length = xs.length := Paired.length rel
  have lm : kvs.length = ms.length := by
    have := congrArg List.length hk
    rwa [List.length_map, List.length_map] at this
  -- what the j-th key is
  have key : ∀ (j : Nat) (v : Value) (m : List Int), (∃ hi : j < es.size, v = es[j].key) → ms[j]? = some m → ∃ a : Addr, v = .ref a ∧ H a = some (.tup (m.map V.int)) ∧ m ∈ ms := by
    rintro j v m ⟨hi, rfl⟩ hm
    obtain ⟨y, hy, e1, _, _⟩ := ent j hi
    have hkj : (kvs.map (·.1))[j]? = some (m.map Sum.inl) := by rw [hk, List.getElem?_map, hm]; rfl
    rw [List.getElem?_map] at hkj
    obtain ⟨kv, hkv, ekv⟩ := Option.map_eq_some_iff.mp hkj
    obtain ⟨y', hy', f1, f2, _⟩ := L2.paired_get rel hkv
    have : y = y' := Option.some.inj (hy.symm.trans hy')
    subst this
    refine ⟨y.2.1, e1, ?_, List.mem_of_getElem? hm⟩
    rw [f2, ekv, kV_ints]
  have hsize : es.size = ms.length := by omega
  have hsl : es.size ≤ sizeLine := by omega
  show wpAny _ _ (call (.builtin "sorted") [.ref d] [(Str.ofString "reverse", .bool true)]) _ _ _
  refine call_function_entry_kw kind_sorted plain_sorted entry_sorted (args_sorted_rev _ _) ?_
  unfold Builtin.«sorted»
  refine wpAny_bind (m := checkCount "sorted" 1 1 _) (wpAny_pure ?_)
  refine wpAny_bind (PySem.W.kdu_collect (A := X.A.in1) (KdlSrc.rawDict nm) (I.ok.hd hc) raw hsl fun h1 tk acc kp hacc => ?_)
  have hl : acc.toList.length = es.size := by rw [Array.length_toList]; exact hacc.1
  refine wpAny_bind (wpAny_newList ?_ (by rw [hl]; exact hsl))
  -- the new list, its items
  have J1 : Inv X pins σ H { s with heap := h1, toks := tk } := I.kept kp
  have items : ∀ (j : Nat) (v : Value) (m : List Int), acc.toList[j]? = some v → ms[j]? = some m → ∃ a : Addr, v = .ref a ∧ H a = some (.tup (m.map V.int)) ∧ m ∈ ms := fun j v m hv hm =>
    key j v m (hacc.2 j v (by rw [← Array.getElem?_toList]; exact hv)) hm
  have eR : PySem.W.EachIs (fun (v : Value) (m : List Int) => ∃ a : Addr, v = .ref a ∧ H a = some (.tup (m.map V.int)) ∧ m ∈ ms) acc.toList ms := each_by (by rw [hl, hsize]) items
  have hoL : (h1.push (seqObj "list" acc.toList.toArray 0)).get? h1.objs.size = some (seqObj "list" acc.toList.toArray 0) := Heap.get?_push_size _ rfl
  have er : PySem.W.EachIs (fun (v : Value) (m : List Int) => ∃ as, Reads (h1.push (seqObj "list" acc.toList.toArray 0)) v (encT m) as ∧ h1.objs.size ∉ as) acc.toList ms := eR.mono fun v m ⟨a, ev, ha, _⟩ => by
    obtain ⟨_, its, rv, ht⟩ := J1.hok a _ ha
    have ht' : IsTup h1 a its.toArray := ht
    obtain ⟨o, ho, r2⟩ := ht'
    rw [ev]
    exact ⟨[], reads_ints ⟨o, Heap.get?_push_of_some _ ho, r2⟩ rv, by simp⟩
  have hal : PySem.W.AllAlike (ms.map encT) := fun d1 h1 d2 h2 => by
    obtain ⟨m1, k1, rfl⟩ := List.mem_map.mp h1
    obtain ⟨m2, k2, rfl⟩ := List.mem_map.mp h2
    exact alike_ints' ((hn m1 k1).trans (hn m2 k2).symm)
  have hso : PySem.W.Sortable (ms.map encT) := .inl fun d1 h1 => by
    obtain ⟨m1, k1, rfl⟩ := List.mem_map.mp h1
    have := hn m1 k1
    cases m1 with
    | nil => simp at this
    | cons x m1 => exact ⟨_, _, rfl⟩
  refine wpAny_bind (wpAny_holding (PySem.W.list_sort_rev_data (s := { s with heap := h1.push (seqObj "list" acc.toList.toArray 0), toks := tk }) hoL eR er hal hso (by omega) (fun m _ => ?_) fun out ho eo => ?_))
  · have := depth_encT m
    show X.A.units + 1 + 1 + (encT m).depth < cLine
    omega
  · refine wpAny_pure ⟨_, rfl, ?_⟩
    obtain ⟨c, hc2⟩ := sortedHeap_at (vs := acc.toList) (out := out.toArray) hoL
    have old : ∀ b u, h1.get? b = some u → (sortedHeap (h1.push (seqObj "list" acc.toList.toArray 0)) h1.objs.size acc.toList out.toArray).get? b = some u := fun b u hb => by
      have hlt := Heap.lt_size hb
      rw [sortedHeap_old (Nat.ne_of_lt hlt) (by rw [size_push']; exact Nat.lt_succ_of_lt hlt)]
      exact Heap.get?_push_of_some _ hb
    have ov : ∀ v ∈ out, ∃ (a : Addr) (m : List Int), v = .ref a ∧ H a = some (.tup (m.map V.int)) ∧ m ∈ ms := fun v hv => by
      obtain ⟨m, _, a, e1, e2, e3⟩ := eo.left v hv
      exact ⟨a, m, e1, e2, e3⟩
    have lo : (out.map backV).length = kvs.length := by
      rw [List.length_map]
      omega
    refine ⟨.ref h1.objs.size, upd H h1.objs.size (.lst (out.map backV)), J1.laid (t' := tk) old (Nat.le_refl _) ⟨by omega, out, c, vals_back fun u hm => ?_, hc2⟩, rfl, q _ _ lo (fun y hy => ?_) (J1.hok.fresh (Nat.le_refl _))⟩
    · obtain ⟨a, m, e1, _⟩ := ov u hm
      exact ⟨a, e1⟩
    · obtain ⟨v, hv, rfl⟩ := List.mem_map.mp hy
      obtain ⟨a, m, e1, e2, e3⟩ := ov v hv
      rw [e1]
      exact ⟨a, m, rfl, e2, e3⟩
end
end Gk

set_option maxHeartbeats 4000000
/-! Growth: rules that the hand layer lacks, part 5: sorted(powers, key=lambda power: ..), the key the pair of the degree and the power. -/
namespace Gk
open PySem PySem.Spec PyProof.Rows L2 LamX NdefX

/-- a lambda with parameters is called -/
theorem lam_call {P : Program} {w : World} {K : PySem.W.Frag} {mg : Str → Option Value} {base : Heap} {A : Around} {outer : List Env} {s : Shared} {H : Hp} {k : Nat} {f c' : Addr} {N ps fr : List Str} {params : Arguments} {body : Expr} {scope : Scope} {cl : List (Str × Addr)} {qual : Str} {pm ctv : Value}
    {us : List Value} {vs : List V} {ws : List (Option V)} {Q : VK} {tb : TE} (hr : Room (k + 1) A) (e0 : Env0 P w K mg base A outer s H)
    (ho : s.heap.get? f = some (PySem.W.kla_obj "<lambda>" qual params body scope cl pm c' ctv)) (hc : H c' = some (CodeO c' qual)) (S : NScope N ps fr scope)
    (hbind : bindArgs (PySem.W.kla_fn "<lambda>" qual params body scope cl pm (.ref c') ctv) ⟨us, []⟩ = pure (ps.zip us)) (C : CellsAt cl fr ws s.heap H) (r : Vals vs us) (hl : vs.length = ps.length)
    (hbody : PE (ncx CX0 P w K mg base N ⟨"<lambda>", qual, params, [], scope, cl, c'⟩ f A outer s H E0).nox body tb) (q : tb (startF N vs ws) H Q) :
    codeAny (model P w) A (.call (.ref f) ⟨us, []⟩) (CR CX0 outer P w H s Q E0) s := by
  have lim : s.heap.NoLimit := e0.mod.nolimit.keeps fun b o e => (e0.bs b o e).1
  refine PySem.W.kla_callFunE hr.depth ho rfl S.co S.gen rfl (codeO_at e0.hok hc) ?_
  rw [hbind]
  refine wpAny_pure (wpAny_newFunctionEnv S.nocell (fun ⟨n, _⟩ hy => S.par n (List.of_mem_zip hy).1) (fun h1 hns hsb => ⟨lim.fresh _ hsb, ?_⟩) S.kind)
  show codeAny _ _ (.expr body (envF ⟨"<lambda>", qual, params, [], scope, cl, c'⟩ f s.heap.objs.size)) _ _
  have kp : ∀ b o, s.heap.get? b = some o → h1.get? b = some o := fun b o e => hsb.extBut b o (Nat.ne_of_lt (Heap.lt_size e)) (Heap.get?_push_of_some _ e)
  have J : Inv (ncx CX0 P w K mg base N ⟨"<lambda>", qual, params, [], scope, cl, c'⟩ f A outer s H E0) [] (startF N vs ws) H { s with heap := h1, toks := s.toks + (ps.zip us).length } := inv_startN S hr.hd e0 hl r C hns kp
  refine PySem.W.kla_codeExpr (wpAny_mono (hbody.nox.run [] _ _ H Q J q) (fun v s' hq => ?_) fun e s' hq => hq)
  obtain ⟨x, H', J', rv, q'⟩ := hq
  exact ⟨x, H', J'.os, J'.bare, J'.base, J'.hok, rv, q'⟩

section
variable {X : Cx} {pins : List (Addr × Obj)} {σ : L2.St} {H : Hp} {s : Shared}
/-- an untracked object of ours is tracked from now on, while objects at ch turn -/
theorem Inv_track {h' : Heap} {t' : Nat} {a : Addr} {o : HO} {ch : List Addr} (I : Inv X pins σ H s) (ha : a ∈ ch) (hf : ∀ b ∈ ch, FpOk X pins H b) (k : ∀ b u, b ∉ ch → s.heap.get? b = some u → h'.get? b = some u)
    (new : ObjOk X.prog X.w (upd H a o) h' a o) : Inv X pins σ (upd H a o) { s with heap := h', toks := t' } := by
  have hn : H a = none := (hf a ha).1
  have nin : ∀ b u, H b = some u → b ∉ ch := fun b u e z => by
    have := (hf b z).1
    rw [this] at e
    cases e
  have na : ∀ b u, H b = some u → upd H a o b = some u := fun b u e => by rw [upd_ne (ne_of_none e hn)]; exact e
  refine I.step (g' := s.gens) (d' := s.drawn) (ch := ch) (fun b hb => ⟨(hf b hb).2.2.2.1, (hf b hb).2.1, (hf b hb).2.2.2.2.1, (hf b hb).2.2.2.2.2⟩) (fun b u _ _ hc e _ => k b u hc e) (fun b u _ _ hc e _ => ⟨u.slots, k b u hc e⟩)
    (fun b u hc e n => by rw [upd_ne (fun z => hc (by rw [z]; exact ha))]; exact n) (fun b u hc e => ⟨u, k b u hc e⟩) (fun b xs e => na _ _ e) (fun b ob u e => na _ _ e) (fun b ps e => ⟨#[], by rw [na _ _ e]; simp⟩) (fun m hm => ?_) (fun b u e => ?_) I.bare
  · obtain ⟨ob, es, ep, ho, r⟩ := hm
    have hL : X.env.locals ∉ ch := fun z => (hf _ z).2.1 rfl
    exact ⟨ob, es, ep, k _ ob hL ho, r⟩
  · by_cases hb : b = a
    · rw [hb] at e ⊢
      rw [upd_same] at e
      cases e
      exact new
    · rw [upd_ne hb] at e
      refine (I.hok b u e).stay (fun c v hc q => k c v ?_ q) (fun c q => na _ _ q) fun c xs q => na _ _ q
      rcases hc with z | z
      · rw [z]
        exact nin b u e
      · exact nin c _ z

/-- the key of a power: its degree, then the power itself -/
def keyD (m : List Int) : PyData := .tuple [.int m.sum, encT m]
def KeyV (H : Hp) (u : Value) (m : List Int) : Prop := ∃ a b : Addr, u = .ref a ∧ H a = some (.tup [.int m.sum, .ref b]) ∧ H b = some (.tup (m.map V.int))
theorem KeyV.mono {H H' : Hp} {u : Value} {m : List Int} (k : KeyV H u m) (h : ∀ c o, H c = some o → H' c = some o) : KeyV H' u m :=
  let ⟨a, b, e, h1, h2⟩ := k
  ⟨a, b, e, h _ _ h1, h _ _ h2⟩
theorem KeyV.reads {P : Program} {w : World} {H : Hp} {h : Heap} {u : Value} {m : List Int} (hok : HOk P w H h) (k : KeyV H u m) : ∃ as, Reads h u (keyD m) as := by
  obtain ⟨a, b, rfl, ha, hb⟩ := k
  obtain ⟨_, its, rv, o, ho, hc, n, hd⟩ := hok a _ ha
  obtain ⟨_, its2, rv2, ht2⟩ := hok b _ hb
  obtain ⟨u1, u2, rfl, r1, r2⟩ := vals2 rv
  obtain ⟨t, rfl⟩ := r1
  cases r2
  exact ⟨_, .tuple ho hc hd (.cons (.int _ t) (.cons (reads_ints ht2 rv2) .nil))⟩
theorem alike_keyD {m m' : List Int} (h : m.length = m'.length) : PySem.W.alike (keyD m) (keyD m') = true := by
  show (PySem.W.alike (.int m.sum) (.int m'.sum) && (PySem.W.alike (encT m) (encT m') && PySem.W.alikeAll [] [])) = true
  rw [alike_ints' h]
  rfl
theorem depth_keyD (m : List Int) : (keyD m).depth ≤ 8 := by
  have h := depth_encT m
  unfold keyD
  simp only [PyData.depth, PyData.depthAll]
  omega
/-- the lists of tuples: what stands at each address -/
abbrev Tps (H : Hp) : List V → List (List Int) → Prop := Paired fun x m => ∃ a : Addr, x = .ref a ∧ H a = some (.tup (m.map V.int))
theorem Tps.get {H : Hp} {xs : List V} {ms : List (List Int)} (t : Tps H xs ms) {i : Nat} {m : List Int} (h : ms[i]? = some m) : ∃ a : Addr, xs[i]? = some (.ref a) ∧ H a = some (.tup (m.map V.int)) := by
  induction t generalizing i with
  | nil => simp at h
  | cons r t ih =>
    cases i with
    | zero =>
      obtain ⟨a, e, ha⟩ := r
      have h := Option.some.inj h
      subst h
      exact ⟨a, by rw [e]; rfl, ha⟩
    | succ i => exact ih (by simpa using h)

theorem sort_deg {l f : Addr} {fo : Obj} {xs : List V} {ms : List (List Int)} {n : Nat} {Q : VK} (hu : X.A.units + 64 < cLine) (I : Inv X pins σ H s) (hl : SqL X.K H l xs) (rel : Tps H xs ms) (hn : ∀ m ∈ ms, m.length = n + 1)
    (hfo : s.heap.get? f = some fo) (hfc : ∀ v, fo.data ≠ .cell v) (hfn : H f = none) (hfL : f ≠ X.env.locals) (hfs : f ∉ X.fs)
    (turn : ∀ (pins' : List (Addr × Obj)) (s' : Shared) (H' : Hp) (a : Addr) (m : List Int), Inv X pins' σ H' s' → (f, fo) ∈ pins' → (∀ c o, H c = some o → H' c = some o) → H' f = none → m ∈ ms → H a = some (.tup (m.map V.int)) →
      wpAny (model X.prog X.w) X.A.in1.in1 (call (.ref f) [.ref a]) (fun v s2 => ∃ H2, Inv X pins' σ H2 s2 ∧ (∀ c o, H' c = some o → H2 c = some o) ∧ KeyV H2 v m) (fun _ _ => False) s')
    (fin : ∀ (H' : Hp) (p : Addr) (ys : List V), (∀ c o, H c = some o → H' c = some o) → H p = none → H' p = some (.lst ys) → Tps H ys (ms.mergeSort (PySem.W.dataLe false keyD)) → Q (.ref p) H') :
    wpAny (model X.prog X.w) X.A (call (.builtin "sorted") [.ref l] [(Str.ofString "key", .ref f)]) (EP X pins σ Q) X.xe s := by
  obtain ⟨its, rv, pl, hz⟩ := I.list hl
  have hlen : its.length = ms.length := by rw [← rv.length, Paired.length rel]
  have hL : its.length ≤ sizeLine := by rw [← rv.length]; exact hz
  have old0 : ∀ b o, s.heap.get? b = some o → b ≠ s.heap.objs.size + 1 := fun b o e => Nat.ne_of_lt (Nat.lt_succ_of_lt (Heap.lt_size e))
  refine PySem.W.sorted_of_sort pl.isList hL (ksk_s1 _ _) (fun _ => ksk_l1 _ _) fun E' => ?_
  rw [ksk_t1]
  have ho := PySem.W.copyHeap_at s.heap its
  have keep0 : ∀ b o, s.heap.get? b = some o → (PySem.W.copyHeap s.heap its).get? b = some o := fun b o e => PySem.W.copyHeap_old e
  have size0 : (PySem.W.copyHeap s.heap its).objs.size = s.heap.objs.size + 2 := by
    unfold PySem.W.copyHeap
    rw [size_push', Heap.size_update, size_push']
  generalize PySem.W.copyHeap s.heap its = hC at ho keep0 size0 ⊢
  generalize hA : s.heap.objs.size + 1 = A at ho old0 ⊢
  obtain ⟨e1, ho1⟩ : ∃ e1, (hC.update A (Obj.mapSeq fun _ => (#[] : Array Value))).get? A = some (seqObj "list" #[] e1) := ⟨_, get?_update_seq ho fun _ => #[]⟩
  unfold ksk_tree
  refine wpAny_bind (listItems_at (s := { s with heap := hC }) ho rfl ?_)
  refine wpAny_bind (listUpdate_at (s := { s with heap := hC }) ho rfl ?_ (by rw [List.size_toArray]; exact hL) (Nat.zero_le _))
  refine wpAny_bind (seqEpoch_at (s := { s with heap := hC.update A (Obj.mapSeq fun _ => (#[] : Array Value)) }) ho1 rfl ?_)
  refine wpAny_bind (wpAny_newTuple ?_ (by show its.length ≤ _; exact hL))
  refine wpAny_bind (wpAny_newList ?_ (Nat.zero_le _))
  refine wpAny_holding ?_
  -- the heap in which the keys are asked
  have keep1 : ∀ b o, s.heap.get? b = some o → (((hC.update A (Obj.mapSeq fun _ => (#[] : Array Value))).push (seqObj "tuple" its.toArray 0)).push (seqObj "list" #[] 0)).get? b = some o := fun b o e =>
    Heap.get?_push_of_some _ (Heap.get?_push_of_some _ ((Heap.get?_update_ne _ _ _ _ (old0 b o e)).trans (keep0 b o e)))
  have hoA : (((hC.update A (Obj.mapSeq fun _ => (#[] : Array Value))).push (seqObj "tuple" its.toArray 0)).push (seqObj "list" #[] 0)).get? A = some (seqObj "list" #[] e1) := Heap.get?_push_of_some _ (Heap.get?_push_of_some _ ho1)
  have hkS : ((hC.update A (Obj.mapSeq fun _ => (#[] : Array Value))).push (seqObj "tuple" its.toArray 0)).objs.size = s.heap.objs.size + 3 := by rw [size_push', Heap.size_update, size0]
  have hoS : (((hC.update A (Obj.mapSeq fun _ => (#[] : Array Value))).push (seqObj "tuple" its.toArray 0)).push (seqObj "list" #[] 0)).get? (s.heap.objs.size + 3) = some (seqObj "list" #[] 0) := by
    rw [← hkS]
    exact Heap.get?_push_size _ rfl
  show wpAny _ _ (ksk_rest A (.ref f) false its.toArray e1 (.ref ((hC.update A (Obj.mapSeq fun _ => (#[] : Array Value))).push (seqObj "tuple" its.toArray 0)).objs.size)) _ _
    { s with heap := ((hC.update A (Obj.mapSeq fun _ => (#[] : Array Value))).push (seqObj "tuple" its.toArray 0)).push (seqObj "list" #[] 0) }
  rw [hkS]
  generalize ((hC.update A (Obj.mapSeq fun _ => (#[] : Array Value))).push (seqObj "tuple" its.toArray 0)).push (seqObj "list" #[] 0) = h0 at keep1 hoA hoS ⊢
  generalize hS : s.heap.objs.size + 3 = S at hoS ⊢
  have sA : s.heap.objs.size ≤ A := by rw [← hA]; exact Nat.le_succ _
  have sS : s.heap.objs.size ≤ S := by rw [← hS]; exact Nat.le_add_right _ _
  have nAS : S ≠ A := by
    rw [← hS, ← hA]
    exact fun e => by have := Nat.add_left_cancel e; omega
  have fpA := I.fpOk (H' := H) sA (I.hok.fresh sA)
  have fpS := I.fpOk (H' := H) sS (I.hok.fresh sS)
  have fA : f ≠ A := Nat.ne_of_lt (Nat.lt_of_lt_of_le (Heap.lt_size hfo) sA)
  have fS : f ≠ S := Nat.ne_of_lt (Nat.lt_of_lt_of_le (Heap.lt_size hfo) sS)
  have I0 : Inv X pins σ H { s with heap := h0 } := I.kept (t' := s.toks) keep1
  have hoA' : ∀ v, (seqObj "list" #[] e1).data ≠ .cell v := fun v z => nomatch z
  have J0 : Inv X (pins ++ [(A, seqObj "list" #[] e1), (f, fo)]) σ H { s with heap := h0 } := I0.pins_of fun p hp => by
    rcases List.mem_append.mp hp with hp | hp
    · exact I0.pin p (List.mem_append_right _ hp)
    · rcases List.mem_cons.mp hp with rfl | hp
      · exact ⟨hoA, fpA.1, fpA.2.1, fpA.2.2.1, hoA'⟩
      · rw [List.mem_singleton.mp hp]
        exact ⟨keep1 _ _ hfo, hfn, hfL, hfs, hfc⟩
  have pinS : ∀ p ∈ X.pn ++ (pins ++ [(A, seqObj "list" #[] e1), (f, fo)]), p.1 ≠ S := fun p hp => by
    rcases List.mem_append.mp hp with hp | hp
    · exact fpS.2.2.2.2.2 p (List.mem_append_left _ hp)
    · rcases List.mem_append.mp hp with hp | hp
      · exact fpS.2.2.2.2.2 p (List.mem_append_right _ hp)
      · rcases List.mem_cons.mp hp with rfl | hp
        · exact nAS.symm
        · rw [List.mem_singleton.mp hp]
          exact fS
  have memA : (A, seqObj "list" #[] e1) ∈ X.pn ++ (pins ++ [(A, seqObj "list" #[] e1), (f, fo)]) := by simp
  have memF : (f, fo) ∈ pins ++ [(A, seqObj "list" #[] e1), (f, fo)] := by simp
  unfold ksk_rest
  refine wpAny_bind (wpAny_rule ?_)
  first
    | rw [List.forIn_toArray]
    | (rw [← Array.forIn_toList]; simp only [List.toList_toArray])
  refine wpAny_bind (ksk_fold (fun i s' => ∃ (Hj : Hp) (ks : Array Value) (ej : Nat), Inv X (pins ++ [(A, seqObj "list" #[] e1), (f, fo)]) σ Hj s' ∧ Hj S = none ∧ s'.heap.get? S = some (seqObj "list" ks ej) ∧ (∀ c o, H c = some o → Hj c = some o) ∧
      PySem.W.EachIs (KeyV Hj) ks.toList (ms.take i)) its 0 _ ⟨H, #[], 0, J0, fpS.1, hoS, fun _ _ e => e, by rw [List.take_zero]; exact .nil⟩ ?step ?done)
  case step =>
    rintro j x s' hx ⟨Hj, ks, ej, J, nS, gS, up, hk⟩
    rw [Nat.zero_add] at hk ⊢
    have hj : j < its.length := (List.getElem?_eq_some_iff.mp hx).1
    obtain ⟨m, hm⟩ : ∃ m, ms[j]? = some m := ⟨_, List.getElem?_eq_getElem (by omega)⟩
    obtain ⟨a, ha, hta⟩ := Tps.get rel hm
    obtain ⟨u, hu', ru⟩ := rv.get ha
    have ex : x = .ref a := by
      rw [hx] at hu'
      cases hu'
      exact ru
    subst ex
    have hkl : ks.size = j := by
      have := hk.length
      rw [Array.length_toList, List.length_take] at this
      omega
    have J2 : Inv X (pins ++ [(A, seqObj "list" #[] e1), (f, fo)] ++ [(S, seqObj "list" ks ej)]) σ Hj s' := J.pins_of fun p hp => by
      rcases List.mem_append.mp hp with hp | hp
      · exact J.pin p (List.mem_append_right _ hp)
      · rw [List.mem_singleton.mp hp]
        exact ⟨gS, nS, fpS.2.1, fpS.2.2.1, fun v z => nomatch z⟩
    have nF : Hj f = none := (J.pin _ (List.mem_append_right _ memF)).2.1
    refine wpAny_bind (wpAny_attempt (wpAny_mono (turn _ s' Hj a m J2 (List.mem_append_left _ memF) up nF (List.mem_of_getElem? hm) hta) (fun v s2 hq => ?_) fun _ _ hF => hF.elim))
    obtain ⟨H2, J3, up2, kv⟩ := hq
    have gS2 : s2.heap.get? S = some (seqObj "list" ks ej) := (J3.pin (S, seqObj "list" ks ej) (by simp)).1
    have nS2 : H2 S = none := (J3.pin (S, seqObj "list" ks ej) (by simp)).2.1
    have J4 : Inv X (pins ++ [(A, seqObj "list" #[] e1), (f, fo)]) σ H2 s2 := J3.pins_of fun p hp => J3.pin p (List.mem_append_right _ (List.mem_append_left _ hp))
    try dsimp only
    obtain ⟨c2, hc2⟩ : ∃ c2, (s2.heap.update S (Obj.mapSeq (·.push v))).get? S = some (seqObj "list" (ks.push v) c2) := ⟨_, get?_update_seq gS2 (·.push v)⟩
    refine wpAny_bind (listUpdate_at gS2 rfl ?_ (by omega) (Nat.le_trans (Nat.le_of_eq (Array.size_push ..)) (by omega)))
    have ek : ms.take (j + 1) = ms.take j ++ [m] := by rw [List.take_add_one, hm]; rfl
    have ea : (ks.push v).toList = ks.toList ++ [v] := by simp
    refine wpAny_pure ⟨rfl, H2, ks.push v, c2, J4.turned (t' := s2.toks) (fun b o hb e => (Heap.get?_update_ne _ _ _ _ hb).trans e) nS2 fpS.2.1 fpS.2.2.2.1 fpS.2.2.2.2.1 pinS, nS2, hc2, fun c o e => up2 c o (up c o e), ?_⟩
    rw [ea, ek]
    exact PySem.W.each_snoc kv (hk.mono fun _ _ q => q.mono up2)
  case done =>
    rintro s' ⟨Hj, ks, ej, J, nS, gS, up, hk⟩
    rw [Nat.zero_add, List.take_of_length_le (by omega)] at hk
    have hkl : ks.size = its.length := by
      have := hk.length
      rw [Array.length_toList] at this
      omega
    have gA : s'.heap.get? A = some (seqObj "list" #[] e1) := (J.pin _ memA).1
    have nA : Hj A = none := (J.pin _ memA).2.1
    try dsimp only
    refine wpAny_bind (listItems_at gS rfl ?_)
    have hal : PySem.W.AllAlike (ms.map keyD) := fun d1 h1 d2 h2 => by
      obtain ⟨m1, k1, rfl⟩ := List.mem_map.mp h1
      obtain ⟨m2, k2, rfl⟩ := List.mem_map.mp h2
      exact alike_keyD ((hn m1 k1).trans (hn m2 k2).symm)
    have hso : PySem.W.Sortable (ms.map keyD) := .inl fun d1 h1 => by
      obtain ⟨m1, k1, rfl⟩ := List.mem_map.mp h1
      exact ⟨_, _, rfl⟩
    have hrd : PySem.W.EachIs (fun v d => ∃ as, Reads s'.heap v d as) ks.toList (ms.map keyD) := PySem.W.each_map (R := fun v d => ∃ as, Reads s'.heap v d as) keyD (hk.mono fun _ _ q => q.reads J.hok)
    have hdp : ∀ d, d ∈ ms.map keyD → X.A.in1.in1.units + d.depth < cLine := fun d hd => by
      obtain ⟨m1, k1, rfl⟩ := List.mem_map.mp hd
      have := depth_keyD m1
      show X.A.units + 1 + 1 + (keyD m1).depth < cLine
      omega
    refine PySem.W.keyH_end (κ := PySem.W.dataKind s'.heap (ms.map keyD)) (h₁ := PySem.W.hideAll s'.heap [S]) (fun b o _ e => PySem.W.of_hideAll [S] e) (PySem.W.hideAll_none [S] (List.mem_singleton.mpr rfl)) gS gA nAS (PySem.W.SortsAt.data hrd hal hso hdp) hkl hL fun h' tk c kp hA' => ⟨rfl, ?_⟩
    -- the end
    have keepE : ∀ b u, b ∉ [A, S] → s'.heap.get? b = some u → h'.get? b = some u := fun b u hb e =>
      kp b u (fun z => hb (by rw [z]; simp)) (PySem.W.hideAll_get [S] e fun z => hb (by rw [List.mem_singleton.mp z]; simp))
    have ko : PySem.W.KeyedOut false (ms.map keyD) its (PySem.W.sortVals (PySem.W.dataKind s'.heap (ms.map keyD)) false ks.toList its) := ⟨s'.heap, ks.toList, hal, rfl, hrd⟩
    have e0 : PySem.W.EachIs (fun (v : Value) (m : List Int) => ∃ a : Addr, v = .ref a ∧ H a = some (.tup (m.map V.int))) its ms := each_by hlen fun j v m hv hm => by
      obtain ⟨a, ha, hta⟩ := Tps.get rel hm
      obtain ⟨u, hu', ru⟩ := rv.get ha
      rw [hv] at hu'
      cases hu'
      exact ⟨a, ru, hta⟩
    have eo := PySem.W.keyedOut_each keyD ko e0
    have lo := ko.length (by rw [List.length_map]; exact hlen.symm)
    generalize PySem.W.sortVals (PySem.W.dataKind s'.heap (ms.map keyD)) false ks.toList its = out at hA' eo lo
    have fpAE : FpOk X pins Hj A := ⟨nA, fpA.2⟩
    have fpSE : FpOk X pins Hj S := ⟨nS, fpS.2⟩
    have Je : Inv X pins σ Hj s' := J.pins_of fun p hp => J.pin p (List.mem_append_right _ (List.mem_append_left _ hp))
    have refs : ∀ u ∈ out, ∃ a, u = Value.ref a := fun u hu' => by
      obtain ⟨m, _, a, e, _⟩ := eo.left u hu'
      exact ⟨a, e⟩
    have tps : ∀ {os : List Value} {bs : List (List Int)}, PySem.W.EachIs (fun (v : Value) (m : List Int) => ∃ a : Addr, v = .ref a ∧ H a = some (.tup (m.map V.int))) os bs → Tps H (os.map backV) bs := fun {os bs} h => by
      induction h with
      | nil => exact .nil
      | cons r t ih =>
        obtain ⟨a, rfl, ha⟩ := r
        exact .cons ⟨a, rfl, ha⟩ ih
    refine ⟨.ref A, upd Hj A (.lst (out.map backV)), Inv_track (t' := tk) (ch := [A, S]) Je (by simp) (fun b hb => ?_) keepE ⟨by rw [List.length_map]; omega, out, c, vals_back refs, hA'⟩, rfl, fin _ A _ (fun c o e => ?_) fpA.1 upd_same (tps eo)⟩
    · rcases List.mem_cons.mp hb with rfl | hb
      · exact fpAE
      · rw [List.mem_singleton.mp hb]
        exact fpSE
    · rw [upd_ne (ne_of_none (up c o e) nA)]
      exact up c o e
end
end Gk

set_option maxHeartbeats 4000000
/-! Growth: rules that the hand layer lacks, part 6: sorted(e, key=lambda x: ..) as an expression. -/
namespace Gk
open PySem PySem.Spec PyProof.Rows L2 LamX NdefX

/-- sorted(e, key=lambda x: body): the body gives the pair of the degree and the power; T: the table of code objects -/
def tSortLam (K : PySem.W.Frag) (T : List (Addr × Str)) (N : List Str) (js : List Nat) (te tb : TE) : TE := fun σ H Q => te σ H fun x H1 => ∃ (l : Addr) (xs : List V) (ms : List (List Int)) (n : Nat), x = .ref l ∧ SqL K H1 l xs ∧ Tps H1 xs ms ∧ (∀ m ∈ ms, m.length = n + 1) ∧ Tabs T H1 ∧
  (∀ (H2 : Hp) (a : Addr) (m : List Int) (Q2 : VK), ExtN H1 H2 → m ∈ ms → H2 a = some (.tup (m.map V.int)) →
    (∀ (a1 b1 : Addr) (H3 : Hp), (∀ c o, H2 c = some o → H3 c = some o) → H3 a1 = some (.tup [.int m.sum, .ref b1]) → H3 b1 = some (.tup (m.map V.int)) → Q2 (.ref a1) H3) → tb (startF N [.ref a] (js.map (slotAt σ))) H2 Q2) ∧
  ∀ (H' : Hp) (p : Addr) (ys : List V), ExtN H1 H' → Tabs T H' → (∀ b o, H1 b = some o → (∀ ps, o ≠ .tbl ps) → b ≠ p) → H' p = some (.lst ys) → Tps H' ys (ms.mergeSort (PySem.W.dataLe false keyD)) → Q (.ref p) H'
theorem Tps.ext {H H' : Hp} {xs : List V} {ms : List (List Int)} (t : Tps H xs ms) (e : ExtN H H') : Tps H' xs ms :=
  Paired.mapP t fun _ _ ⟨a, h1, h2⟩ => ⟨a, h1, e _ _ h2 fun ps z => nomatch z⟩
theorem Tps.same {H H' : Hp} {xs : List V} {ms : List (List Int)} (t : Tps H xs ms) (e : ∀ c o, H c = some o → H' c = some o) : Tps H' xs ms :=
  Paired.mapP t fun _ _ ⟨a, h1, h2⟩ => ⟨a, h1, e _ _ h2⟩
theorem SqL.ext {K : PySem.W.Frag} {H H' : Hp} {l : Addr} {xs : List V} (t : SqL K H l xs) (e : ExtN H H') : SqL K H' l xs := by
  rcases t with (t | ⟨o, t⟩) | t
  · exact .inl (.inl (e _ _ t fun ps z => nomatch z))
  · exact .inl (.inr ⟨o, e _ _ t fun ps z => nomatch z⟩)
  · exact .inr t

section
variable {X : Cx}
theorem pe_sortLam {c P : Addr} {N fr : List Str} {prm : Str} {js : List Nat} {k : Nat} {e : Expr} {te tb : TE} {params : Arguments} {body : Expr} {scope : Scope} {p lpos kpos pos : Pos}
    (hc : X.calm = true) (hg : Gl X "sorted") (hm : X.mg "sorted" = none) (he : PE X e te) (TB : TabB X.base X.mg c P) (hcode : X.env.code = .ref c) (hr : Room (k + 3) X.A) (S : NScope N [prm] fr scope)
    (hfree : ∀ y ∈ scope.names, y.2 = .free → X.env.scope.names.lookup y.1 = some .cell ∨ X.env.scope.names.lookup y.1 = some .free) (hfr : ∀ y ∈ fr, (y, NameKind.free) ∈ scope.names) (hjs : js.map (fun j => X.N[j]?) = fr.map some)
    (hdef : defaultsOf params X.env = ([], [])) (hbind : ∀ (q : Str) (cl : List (Str × Addr)) (pm cv ctv u : Value), bindArgs (PySem.W.kla_fn "<lambda>" q params body scope cl pm cv ctv) ⟨[u], []⟩ = pure ([prm].zip [u]))
    (hbody : ∀ (A : Around) (outer : List Env) (s : Shared) (H : Hp) (f c' : Addr), Room k (A.deeper (envF ⟨"<lambda>", X.env.qual ++ "<lambda>", params, [], scope, cloFrom X.env.cells scope.names [], c'⟩ f s.heap.objs.size)) →
      PE (ncx CX0 X.prog X.w X.K X.mg X.base N ⟨"<lambda>", X.env.qual ++ "<lambda>", params, [], scope, cloFrom X.env.cells scope.names [], c'⟩ f A outer s H E0).nox body tb)
    (hst : starEach [e] X.env = [(false, eval e X.env)] := by rfl) :
    PE X (.Call (.Name "sorted" p) [e] [⟨some "key", .Lambda params body scope lpos, kpos⟩] pos) (tSortLam X.K [(P, X.env.qual ++ "<lambda>")] N js te tb) := by
  refine ⟨fun pins s σ H Q I h => ?_⟩
  have hu := hr.units
  have hfr' : ∀ {Y : Inv X pins σ H s}, ∀ y ∈ scope.names, y.2 = .free → ∃ c, X.env.cells.lookup y.1 = some c := fun {Y} y hy z => (hfree y hy z).elim (fun q => Y.ok.has _ (.inl q)) fun q => Y.ok.has _ (.inr q)
  have hbt : bootBuiltins "sorted" = some (.builtin "sorted") := by decide +kernel
  refine wpAny_Call_Name_kw (ld_blt I hg hm hbt ?_)
  refine PyProof.Rows.callWith_kw (he := by rw [hst]; rfl) (hplain := by rw [hst]; rfl) ?_
  rw [hst]
  refine (Calls.spliced_cons (thn (he.run pins s σ H _ I h) fun u s1 ⟨x, H1, I1, r1, q1⟩ => Calls.spliced_nil ?_))
  obtain ⟨l, xs, ms, n, rfl, hl, rel, hn, hT, hb, fin⟩ := q1
  cases r1
  show wpAny _ _ (evalAll [(do let v ← eval (.Lambda params body scope lpos) X.env; standAt pos; pure v)]) _ _ s1
  refine wpAny_evalAll_cons (wpAny_bind (lam_make2 I1 TB hcode (List.mem_singleton.mpr rfl) (fun q hq _ => by rw [List.mem_singleton.mp hq]) hT hdef (hfr' (Y := I)) fun f c' pm ctv H2 s2 I2 eN T2 hfo hfn hfs hco => ?_))
  refine wpAny_bind (wpAny_standAt (wpAny_pure (wpAny_evalAll_nil ?_)))
  -- the call
  show wpAny _ _ (call (.builtin "sorted") [.ref l] [(Str.ofString "key", .ref f)]) _ _ s2
  have nofs : f ∉ X.fs := fun z => hfs (by
    rcases I2.ok.stk with q | ⟨q, _⟩
    · rw [q]; exact z
    · rw [q]
      unfold frs
      rw [List.filterMap_cons]
      split
      · exact z
      · exact List.mem_cons_of_mem _ z)
  have noL : f ≠ X.env.locals := fun z => by
    obtain ⟨m, ⟨o, es, ep, ho, hd, _⟩, _⟩ := I2.loc
    rw [← z, hfo] at ho
    cases ho
    cases hd
  refine sort_deg (n := n) hu I2 (SqL.ext hl eN) (Tps.ext rel eN) hn hfo (fun v z => nomatch z) hfn noL nofs (fun pins' s' H' a m J hmem up nF hm' hta => ?_) fun H' pp ys up hp hys ty => fin H' pp ys (eN.trans (ExtN.of up)) (T2.ext up) (fun b o hb hnt z => ?_) hys (Tps.same ty up)
  · have hfo' := (J.pin _ (List.mem_append_right _ hmem)).1
    have e0 := J.env0
    have e2 : Env0 X.prog X.w X.K X.mg X.base X.A.in1.in1 X.stack s' H' := ⟨e0.frames, e0.mod, e0.bs, e0.bsz, e0.funs, e0.frf, e0.hok, e0.bare⟩
    have C := cells_of J (Caps.made (scope := scope) J.ok hfree hfr hjs)
    refine wpAny_call (codeAny_mono (lam_call (k := k) (vs := [.ref a]) (Q := fun y H3 => (∀ c o, H' c = some o → H3 c = some o) ∧ ∃ a1 b1, y = .ref a1 ∧ H3 a1 = some (.tup [.int m.sum, .ref b1]) ∧ H3 b1 = some (.tup (m.map V.int))) hr.in1.in1 e2 hfo' (up _ _ hco) S (hbind _ _ _ _ _ _) C (.cons rfl .nil) rfl
      (hbody X.A.in1.in1 X.stack s' H' f c' (hr.in1.in1.deeper _)) (hb H' a m _ (eN.trans (ExtN.of up)) hm' (up _ _ hta) fun a1 b1 H3 k1 k2 k3 => ⟨k1, a1, b1, rfl, k2, k3⟩)) fun r s2 hq => ?_)
    cases r with
    | error e => exact (show False from hq).elim
    | ok fl =>
      cases fl with
      | ret u =>
        obtain ⟨y, H3, I3, r3, k1, a1, b1, rfl, k2, k3⟩ := J.after hq
        cases r3
        exact ⟨H3, I3, k1, a1, b1, rfl, k2, k3⟩
      | next => exact (show False from hq).elim
      | brk => exact (show False from hq).elim
      | cont => exact (show False from hq).elim
  · have h1 := eN b o hb hnt
    rw [z, hp] at h1
    cases h1
end
end Gk

set_option maxHeartbeats 4000000
/-! Growth: rules that the hand layer lacks, part 7: len(set(names)), the names different texts. -/
namespace Gk
open PySem PySem.Spec PyProof.Rows L2

section
variable {prog : Program} {w : World} {A : Around} {K : Type} [DecidableEq K] {knd : KeyKind prog w K}
/-- a walk of different keys fills a set -/
theorem fill_set {R : Result → Shared → Prop} {I : Addr} {fp wr : List Addr} {G : Array GenState → Array GenState → Prop} {n : Nat} {P : Nat → Value → Prop} {St : Nat → Shared → Prop} (W : WalksS prog w A.in1 I fp wr G n P St) (S : Addr) (out : S ∉ fp)
    (ks : List K) (hn : n = ks.length) (nd : ks.Nodup) (room : n + 1 < scanBound) (val : ∀ i v, P i v → ∃ k, ks[i]? = some k ∧ knd.is k v = true ∧ v.scannable = true) :
    ∀ (r i : Nat) (s : Shared), n - i = r → i ≤ n → St i s → s.heap.SetOf knd S (fun k => decide (k ∈ ks.take i)) i →
      (∀ s', Moved (S :: wr) G s s' → s'.heap.SetOf knd S (fun k => decide (k ∈ ks)) n → R (.ok (.ret .none)) s') → codeAny (model prog w) A (.builtin "set.update.loop" ⟨[.ref S, .ref I], []⟩) R s := by
  have Swr : S ∉ wr := fun z => out (W.sub _ z)
  have wider : ∀ b ∈ wr, b ∈ S :: wr := fun b z => List.mem_cons_of_mem _ z
  have same : ∀ {h h' : Heap} {T : K → Bool} {m : Nat}, h.SetOf knd S T m → (∀ o, h.get? S = some o → h'.get? S = some o) → h'.SetOf knd S T m := fun {h h' T m} ⟨o, es, ep, t, ho, rest⟩ k => ⟨o, es, ep, t, k o ho, rest⟩
  intro r
  induction r with
  | zero =>
    intro i s left le st hS hR
    obtain rfl : i = n := by omega
    rw [List.take_of_length_le (by omega)] at hS
    refine codeAny_builtin PyProof.Rows.F.entry_set_update_loop ?_
    rw [Around.under_plainId PyProof.Rows.F.plain_set_update_loop _]
    show wpAny _ A.in1 (pyNext (.ref I) >>= _) _ _ s
    refine wpAny_bind (W.done s _ _ st fun s' mv => ?_)
    exact wpAny_pure (hR s' (mv.mono wider) (same hS fun o e => mv.heap S o Swr e))
  | succ r ih =>
    intro i s left le st hS hR
    have lt : i < n := by omega
    refine codeAny_builtin PyProof.Rows.F.entry_set_update_loop ?_
    rw [Around.under_plainId PyProof.Rows.F.plain_set_update_loop _]
    show wpAny _ A.in1 (pyNext (.ref I) >>= _) _ _ s
    refine wpAny_bind (W.item i s _ _ lt st fun v s' pv st' mv => ?_)
    obtain ⟨k, hk, isk, sc⟩ := val i v pv
    have hS' := same hS fun o e => mv.heap S o Swr e
    have new : decide (k ∈ ks.take i) = false := decide_eq_false fun z => by
      obtain ⟨j, hj, ej⟩ := List.getElem_of_mem z
      rw [List.length_take] at hj
      rw [List.getElem_take] at ej
      obtain ⟨hi, ei⟩ := List.getElem?_eq_some_iff.mp hk
      have := (List.getElem_inj nd).mp (ej.trans ei.symm)
      omega
    show wpAny _ A.in1 (holding [v] (setAdd S v) >>= _) _ _ s'
    refine wpAny_bind (wpAny_holding ?_)
    unfold setAdd
    refine wpAny_holding ?_
    refine wpAny_bind (knd.pyHash (k := k) isk ?_)
    refine wpAny_setAddHashed_of (knd := knd) (s := { s' with toks := s'.toks + 1 }) isk sc hS' (by omega) fun h' sb hS2 => ?_
    have hS3 : h'.SetOf knd S (fun k => decide (k ∈ ks.take (i + 1))) (i + 1) := by
      have e1 : (fun k' => decide (k' ∈ ks.take i) || decide (k' = k)) = fun k' => decide (k' ∈ ks.take (i + 1)) := funext fun k' => by
        rw [List.take_add_one, hk]
        simp
      have e2 : (if decide (k ∈ ks.take i) = true then i else i + 1) = i + 1 := by rw [new]; rfl
      rw [e2, e1] at hS2
      exact hS2
    refine wpAny_pure ⟨plainId_quiet PyProof.Rows.F.plain_set_update_loop _, ih (i + 1) _ (by omega) lt (W.frame _ s' _ _ st' (Nat.le_succ _) fun b hb o e => ?_) hS3 fun s2 mv2 hSn => ?_⟩
    · exact (sb.2 b fun z => out (by rw [← z]; exact hb)).trans e
    · refine hR s2 (Moved.trans W.gtrans ((mv.mono wider).then_heap (Nat.le_succ _) fun b o hb e => ?_) mv2) hSn
      exact (sb.2 b fun z => hb (by rw [z]; exact List.mem_cons_self)).trans e

set_option maxHeartbeats 6400000 in
/-- set(l), l a list of different keys -/
theorem set_of_list {E : Value → Shared → Prop} {s : Shared} {l : Addr} {its : Array Value} {ks : List K} {Q : Value → Shared → Prop} (hh : A.handled = none) (hl : s.heap.IsList l its) (hn : its.size = ks.length) (nd : ks.Nodup) (room : its.size + 1 < scanBound)
    (val : ∀ (i : Nat) (v : Value), its[i]? = some v → ∃ k, ks[i]? = some k ∧ knd.is k v = true ∧ v.scannable = true)
    (h : ∀ (h' : Heap) (tk : Nat), h'.SetOf knd s.heap.objs.size (fun k => decide (k ∈ ks)) ks.length → (∀ b o, s.heap.get? b = some o → h'.get? b = some o) → Q (.ref s.heap.objs.size) { s with heap := h', toks := tk }) :
    wpAny (model prog w) A (call (.type "set") [.ref l]) Q E s := by
  have cs := PySem.F.called_set
  obtain ⟨c, tl, mro⟩ := cs.mro
  have made := cs.made
  have sub := cs.sub
  have c1 := cs.notType
  have c2 := cs.canCreate
  have c3 := PySem.F.typeCall_set_1 (.ref l)
  refine wpAny_call (codeAny_of_tree ?_)
  show wpAny _ _ (callAny (.type "set") _) _ _ _
  refine wpAny_pure ⟨Code.quiet_builtin _ (by decide +kernel), codeAny_builtin PySem.F.entry_type_call ?_⟩
  rw [Around.under_plain (weight_type_call_type "set" [.ref l] []) rfl]
  repeat (any_goals (first | assumption | wp_step))
  refine codeAny_mono (code_set_new_1 (.ref l) (E := E) (Q₁ := fun ob s1 => ∃ led : Bool, ob = .ref s.heap.objs.size ∧ s1 = { s with heap := s.heap.push { cls := .type "set", dict := none, data := .set #[] 0 (.fresh 0 0 led) } }) fun led => ⟨led, rfl, rfl⟩) fun r s1 hr => ?_
  cases r with
  | error e => exact hr
  | ok fl =>
    cases fl with
    | next => exact hr.elim
    | brk => exact hr.elim
    | cont => exact hr.elim
    | ret ob =>
      obtain ⟨led, rfl, rfl⟩ := hr
      have hS : (s.heap.push ({ cls := .type "set", dict := none, data := .set #[] 0 (.fresh 0 0 led) } : Obj)).get? s.heap.objs.size = some ({ cls := .type "set", dict := none, data := .set #[] 0 (.fresh 0 0 led) } : Obj) := Heap.get?_push_size _ rfl
      have hT : Shared.TypeIs { s with heap := s.heap.push ({ cls := .type "set", dict := none, data := .set #[] 0 (.fresh 0 0 led) } : Obj) } (.ref s.heap.objs.size) "set" := ⟨_, hS, rfl⟩
      have i1 := cs.init.lookup
      have i2 := cs.init.bind (.ref s.heap.objs.size)
      repeat (any_goals (first | assumption | wp_step))
      refine codeAny_mono (codeAny_call_builtin (R := wants (fun r s2 => r = .none ∧ ∃ h' tk, s2 = { s with heap := h', toks := tk } ∧ h'.SetOf knd s.heap.objs.size (fun k => decide (k ∈ ks)) ks.length ∧ (∀ b o, s.heap.get? b = some o → h'.get? b = some o)) E)
        cs.init.plain PySem.F.entry_set_init (check_set_init_1 hT ?_)) fun r2 s2 hr2 => ?_
      · obtain ⟨⟨lc, ld, ldat, lsl⟩, lo, lcls, ln, ldata⟩ := hl
        simp only at lcls ldata
        subst lcls ldata
        have lo' : (s.heap.push ({ cls := .type "set", dict := none, data := .set #[] 0 (.fresh 0 0 led) } : Obj)).get? l = some { cls := .type "list", dict := ld, data := .seq its ln, slots := lsl } := Heap.get?_push_of_some _ lo
        have s1 := PySem.F.sub_list_set
        have s2 := PySem.F.sub_list_frozenset
        have nl : (Value.type "list" == Value.type "dict") = false := by decide
        have isl : (s.heap.push ({ cls := .type "set", dict := none, data := .set #[] 0 (.fresh 0 0 led) } : Obj)).IsList l its := ⟨_, lo', rfl, ln, rfl⟩
        have lS : l < s.heap.objs.size := Heap.lt_size lo
        unfold Builtin.«set.__init__» noKeywords Builtin.Frozenset.updateFrom
        generalize hPI : pyIter = PI
        wp_walk
        subst hPI
        refine wpAny_pyIter_list isl ?_
        refine wpAny_bind (wpAny_runValue ?_)
        have hh3 : A.in1.in1.in1.handled = none := hh
        have szO : (s.heap.push ({ cls := .type "set", dict := none, data := .set #[] 0 (.fresh 0 0 led) } : Obj)).objs.size = s.heap.objs.size + 1 := Heap.size_push ..
        have lI : l ≠ (s.heap.push ({ cls := .type "set", dict := none, data := .set #[] 0 (.fresh 0 0 led) } : Obj)).objs.size := by rw [szO]; exact Nat.ne_of_lt (Nat.lt_succ_of_lt lS)
        have SI : s.heap.objs.size ∉ [(s.heap.push ({ cls := .type "set", dict := none, data := .set #[] 0 (.fresh 0 0 led) } : Obj)).objs.size, l] := by
          rw [szO]
          intro z
          rcases List.mem_cons.mp z with z | z
          · exact absurd z (Nat.ne_of_lt (Nat.lt_succ_self _))
          · exact absurd (List.mem_singleton.mp z) (Nat.ne_of_gt lS)
        refine fill_set ((Walks.list hh3 _ l lI its).toS) s.heap.objs.size SI ks hn nd room val (its.size - 0) 0 _ rfl (Nat.zero_le _) ⟨⟨_, Heap.get?_push_size _ rfl, rfl, rfl⟩, isl.push _⟩ ?start ?stop
        case start =>
          have got : ((s.heap.push ({ cls := .type "set", dict := none, data := .set #[] 0 (.fresh 0 0 led) } : Obj)).push { cls := .type "list_iterator", data := .fields #[.ref l, .int 0 0] }).get? s.heap.objs.size = some ({ cls := .type "set", dict := none, data := .set #[] 0 (.fresh 0 0 led) } : Obj) := Heap.get?_push_of_some _ hS
          exact PyProof.Rows.SetOf_congr ((PyProof.Rows.setObjOf_fresh (knd := knd) led).setOf got (by unfold scanBound; omega)) (fun k => by simp) rfl
        case stop =>
          intro s' mv hSn
          obtain ⟨h', g', d', tk', os'⟩ := s'
          obtain rfl : g' = s.gens := mv.gens
          obtain rfl : d' = s.drawn := mv.drawn
          obtain rfl : os' = s.os := mv.os
          show wpAny _ _ _ _ _ _
          refine wpAny_pure ?_
          show wpAny _ _ (ret Value.none) _ _ _
          rw [hn] at hSn
          refine wpAny_pure ⟨rfl, h', tk', rfl, hSn, fun b o e => mv.heap b o (fun z => ?_) (Heap.get?_push_of_some _ (Heap.get?_push_of_some _ e))⟩
          have hb := Heap.lt_size e
          rcases List.mem_cons.mp z with z | z
          · exact absurd z (Nat.ne_of_lt hb)
          · have z := List.mem_singleton.mp z
            rw [szO] at z
            exact absurd z (Nat.ne_of_lt (Nat.lt_succ_of_lt hb))
      · cases r2 with
        | error e => exact hr2
        | ok f2 =>
          cases f2 with
          | next => exact hr2.elim
          | brk => exact hr2.elim
          | cont => exact hr2.elim
          | ret r =>
            obtain ⟨rfl, h', tk, rfl, hSn, kp⟩ := hr2
            repeat (any_goals (first | assumption | wp_step))
            exact h _ _ hSn kp
end

/-- len(set(xs)), xs a list of different texts -/
def tLenSetD (K : PySem.W.Frag) (ta : TE) : TE := fun σ H Q => ta σ H fun x H1 => ∃ (l : Addr) (xs : List Str), x = .ref l ∧ SqL K H1 l (xs.map V.str) ∧ xs.Nodup ∧ xs.length ≤ 4000 ∧ Q (.int (xs.length : Nat)) H1
theorem pe_lenSetD {X : Cx} {a : Expr} {ta : TE} {p p2 q pos : Pos} (hc : X.calm = true) (hg : Gl X "len") (hm : X.mg "len" = none) (hg2 : Gl X "set") (hm2 : X.mg "set" = none) (ha : PE X a ta)
    (na : starEach [a] X.env = (false, eval a X.env) :: starEach [] X.env := by rfl) : PE X (.Call (.Name "len" p) [.Call (.Name "set" p2) [a] [] q] [] pos) (tLenSetD X.K ta) := by
  refine ⟨fun pins s σ H Q I h => ?_⟩
  refine Call_ (ld_blt I hg hm boot_len ?_)
  refine PyProof.Rows.callWith_builtin1 (PyProof.Rows.args_cons ?_ rfl) rfl rfl
  refine Call_ (ld_blt I hg2 hm2 boot_set ?_)
  refine PyProof.Rows.callWith_type1 (PyProof.Rows.args_cons (thn (ha.run pins s σ H _ I h) fun v s1 ⟨x, H1, I1, r1, q1⟩ => PyProof.Rows.args_nil ?_) na) na rfl
  obtain ⟨l, xs, rfl, hq, nd, hl, q1⟩ := q1
  cases r1
  obtain ⟨its, r, pl, hz⟩ := I1.list hq
  have hlen : its.toArray.size = xs.length := by rw [List.size_toArray, ← r.length, List.length_map]
  have ia : StrsAre its xs := strsAre_of r
  refine set_of_list (knd := PySem.strKind X.prog X.w) (ks := xs) (I1.ok.hd hc) pl.isList hlen nd (by rw [hlen]; unfold scanBound; omega) (fun i v hv => ?_) fun h' tk hS hk => ?_
  · have hv' : its[i]? = some v := by simpa using hv
    have hi : i < xs.length := by rw [← hlen, List.size_toArray]; exact (List.getElem?_eq_some_iff.mp hv').1
    obtain ⟨t, e⟩ := SS.strs_at ia i v hv'
    refine ⟨xs[i], List.getElem?_eq_getElem hi, ?_, ?_⟩
    · have e2 : xs.getD i Str.empty = xs[i] := by rw [List.getD_eq_getElem?_getD, List.getElem?_eq_getElem hi] <;> rfl
      rw [e, e2]
      exact PySem.strKind_is _ _ _ _
    · rw [e]
      rfl
  refine PyProof.Rows.args_nil ?_
  obtain ⟨o, es, ep, t, ho, hex, hd, _, _, _, hf, hn⟩ := hS
  have I2 : Inv X pins σ H1 { s1 with heap := h', toks := tk } := I1.kept fun b o e => hk b o e
  exact call_len_set ho hex hd hf (by rw [hn] <;> omega) ⟨.int xs.length, H1, I2.tok _, ⟨_, by rw [hn]⟩, q1⟩
end Gk

set_option maxHeartbeats 4000000
/-! Growth, the walks, part 0: the text by places, what the top's names hold, small helpers. -/
namespace Gk
open PySem L2
def top (i : Nat) : Stmt := PySem.Challenge.pw_standingpowers_k23_whole_growth_of_point.main.body.getD i (.Pass ⟨0, 0, 0, 0⟩)
/-- what is known of a def of the top -/
structure Df (K : PySem.W.Frag) (mg : Str → Option Value) (nm : Str) (st : Stmt) (f : Addr) (fd : FuncData) (ps : List Str) : Prop where
  F : Fun K nm nm st f fd
  g : mg nm = some (.ref f)
  k : PySem.W.keepIn K (.ref f) = true
  b : Binds K fd ps []
/-- a method -/
structure Mt (K : PySem.W.Frag) (C : Addr) (nm q : Str) (st : Stmt) (f : Addr) (fd : FuncData) (ps : List Str) : Prop where
  F : Fun K nm q st f fd
  m : Meth K C nm f
  b : Binds K fd ps []
/-- the built-in names that the text does not write -/
structure Nms (mg : Str → Option Value) : Prop where
  range : mg "range" = none
  sum : mg "sum" = none
  all : mg "all" = none
  any : mg "any" = none
  zip : mg "zip" = none
  sorted : mg "sorted" = none
  len : mg "len" = none
  set : mg "set" = none
  list : mg "list" = none
  tuple : mg "tuple" = none
  enum : mg "enumerate" = none
  int : mg "int" = none
  isi : mg "isinstance" = none
/-- a new object more: all that stood stands -/
theorem _root_.L2.Same.upd_new {H H1 : Hp} {a : Addr} {o : HO} (s : Same H H1) (n : H a = none) : Same H (upd H1 a o) := fun b u e => by
  rw [upd_ne (ne_of_none e n)]
  exact s _ _ e
theorem _root_.L2.Same.upd_new1 {H H1 : Hp} {a : Addr} {o : HO} (s : Same H H1) (n : H1 a = none) : Same H (upd H1 a o) := s.upd_new (s.free n)
theorem getMap {α β : Type} {xs : List α} {f : α → β} {i : Nat} {y : β} (h : (xs.map f)[i]? = some y) : ∃ x, xs[i]? = some x ∧ y = f x := by
  rw [List.getElem?_map] at h
  cases e : xs[i]? with
  | none => rw [e] at h; cases h
  | some x => rw [e] at h; exact ⟨x, rfl, (Option.some.inj h).symm⟩
theorem take_snoc {α : Type} {xs : List α} {i : Nat} {x : α} (h : xs[i]? = some x) : xs.take (i + 1) = xs.take i ++ [x] := by
  rw [List.take_add_one, h]
  rfl
theorem lt_of_get {α : Type} {xs : List α} {i : Nat} {x : α} (h : xs[i]? = some x) : i < xs.length := (List.getElem?_eq_some_iff.mp h).1
theorem mem_of_get {α : Type} {xs : List α} {i : Nat} {x : α} (h : xs[i]? = some x) : x ∈ xs := List.mem_of_getElem? h
theorem Tps.snoc {H : Hp} {xs : List V} {ms : List (List Int)} {a : Addr} {m : List Int} (t : Tps H xs ms) (h : H a = some (.tup (m.map V.int))) : Tps H (xs ++ [.ref a]) (ms ++ [m]) := by
  induction t with
  | nil => exact .cons ⟨a, rfl, h⟩ .nil
  | cons r _ ih => exact .cons r ih
theorem Tps.at {H : Hp} {xs : List V} {ms : List (List Int)} (t : Tps H xs ms) {i : Nat} {x : V} (h : xs[i]? = some x) : ∃ (m : List Int) (a : Addr), ms[i]? = some m ∧ x = .ref a ∧ H a = some (.tup (m.map V.int)) := by
  induction t generalizing i with
  | nil => simp at h
  | cons r t ih =>
    cases i with
    | zero =>
      obtain ⟨a, e, h1⟩ := r
      simp at h
      exact ⟨_, a, rfl, by rw [← h, e], h1⟩
    | succ i => exact ih (by simpa using h)
theorem Tps.len {H : Hp} {xs : List V} {ms : List (List Int)} (t : Tps H xs ms) : xs.length = ms.length := by
  induction t with
  | nil => rfl
  | cons r t ih => rw [List.length_cons, List.length_cons, ih]
theorem SqL_upd {K : PySem.W.Frag} {H : Hp} {l a : Addr} {xs : List V} {u o : HO} (h : SqL K H l xs) (ha : H a = some u) (n1 : u ≠ .lst xs) (n2 : ∀ ob, u ≠ .frz ob (.lst xs)) : SqL K (upd H a o) l xs := by
  rcases h with (h | ⟨ob, h⟩) | h
  · exact .inl (.inl (by rw [upd_ne (ne_of h ha n1.symm)]; exact h))
  · exact .inl (.inr ⟨ob, by rw [upd_ne (ne_of h ha (n2 ob).symm)]; exact h⟩)
  · exact .inr h
theorem line_big {n : Nat} (h : n ≤ 100000) : n ≤ sizeLine := Nat.le_trans h (by decide)
theorem line_lt {n : Nat} (h : n ≤ 100000) : n < sizeLine := Nat.lt_of_le_of_lt h (by decide)
end Gk

set_option maxHeartbeats 4000000
/-! Growth, the walks, part 1: raised_number, inverse, tuples_of. -/
namespace Gk
open PySem L2
section
variable {P : Program} {w : World} {K : PySem.W.Frag} {mg : Str → Option Value} {base : Heap}
abbrev sRn : Stmt := top 11
abbrev sTo : Stmt := top 12
abbrev sInv : Stmt := top 13
def spRn : L2.Sp := fun vs H Q _ => ∃ (p x : Int) (n : Nat), vs = [.int p, .int x, .int n] ∧ Pr p ∧ 0 ≤ x ∧ x < p ∧ n ≤ 100 ∧ Q (.int (rn p x n)) H
theorem scRn : FnScope ["prime", "number", "exponent", "found", "_"] ["prime", "number", "exponent"] (defScope sRn) := ⟨rfl, rfl, rfl, by decide +kernel, rfl, by decide +kernel, by decide +kernel⟩
theorem ok_rn {f : Addr} {fd : FuncData} (D : Df K mg "raised_number" sRn f fd ["prime", "number", "exponent"]) (B : Nms mg) : FnOk P w K mg base CX0 1 f fd ["prime", "number", "exponent"] spRn := by
  refine D.F.ok scRn (fun vs H Q E h => ?_) (fun cdv A outer s H vs Q E hr h => ?_)
  · obtain ⟨p, x, n, rfl, _⟩ := h
    rfl
  · obtain ⟨p, x, n, rfl, hp, x0, x1, hn, k⟩ := h
    refine ⟨_, pss_cons (ps_set (i := 3) scRn.nd rfl (Or.inl rfl) pe_int)
      (pss_cons (ps_for PassesOwn.never rfl (pi_range1 rfl B.range (pa_cons (pv 2) pa_nil)) (pg_name (i := 4) scRn.nd rfl (Or.inl rfl))
        (pss_one (ps_set (i := 3) scRn.nd rfl (Or.inl rfl) (pe_op op_mod (pe_op op_mul (pv 3) (pv 1)) (pv 0)))))
      (pss_one (ps_ret (pv 3)))), ?_⟩
    have h2 := hp.pos
    have h7 := hp.le
    refine ⟨_, rfl, n, rfl, by omega, by omega, for_range (n := n) (fun i σ H2 => ∃ v, H2 = H ∧ σ = [some (.int p), some (.int x), some (.int n), some (.int (it p x 1 i)), v]) ⟨none, rfl, rfl⟩ ?_ ?_⟩
    · rintro i σ H2 hi ⟨v, rfl, rfl⟩
      have b := it_lt (p := p) (x := x) (f := 1) (by omega) (by omega) (by omega) i
      refine ⟨_, rfl, _, rfl, _, _, rfl, rfl, .inl ⟨by omega, by omega⟩, _, rfl, _, _, rfl, rfl, (by show 0 < p; omega), ?_⟩
      exact ⟨_, rfl, rfl⟩
    · rintro σ H2 ⟨v, rfl, rfl⟩
      exact ⟨_, rfl, k⟩
def spInv : L2.Sp := fun vs H Q _ => ∃ (p x : Int), vs = [.int p, .int x] ∧ Pr p ∧ 0 ≤ x ∧ x < p ∧ Q (.int (inv p x)) H
theorem scInv : FnScope ["prime", "number"] ["prime", "number"] (defScope sInv) := ⟨rfl, rfl, rfl, by decide +kernel, rfl, by decide +kernel, by decide +kernel⟩
theorem ok_inv {f f1 : Addr} {fd fd1 : FuncData} (D : Df K mg "inverse" sInv f fd ["prime", "number"]) (D1 : Df K mg "raised_number" sRn f1 fd1 ["prime", "number", "exponent"]) (B : Nms mg) : FnOk P w K mg base CX0 2 f fd ["prime", "number"] spInv := by
  have G1 : FnOk P w K mg base CX0 1 f1 fd1 ["prime", "number", "exponent"] spRn := ok_rn D1 B
  refine D.F.ok scInv (fun vs H Q E h => ?_) (fun cdv A outer s H vs Q E hr h => ?_)
  · obtain ⟨p, x, rfl, _⟩ := h
    rfl
  · obtain ⟨p, x, rfl, hp, x0, x1, k⟩ := h
    refine ⟨_, pss_one (ps_ret (pe_call G1 hr rfl D1.g D1.k D1.b .nil pass0 (pa_cons (pv 0) (pa_cons (pv 1) (pa_cons (pe_op op_sub (pv 0) pe_int) pa_nil))))), ?_⟩
    have h2 := hp.pos
    have h7 := hp.le
    refine ⟨_, rfl, _, rfl, _, rfl, _, _, rfl, rfl, ?_⟩
    refine ⟨p, x, (p - 2).toNat, (by show [V.int p, V.int x, V.int (p - 2)] = [V.int p, V.int x, V.int ((p - 2).toNat : Nat)]; rw [Int.toNat_of_nonneg (by omega)]), hp, x0, x1, by omega, k⟩
theorem flat_len (p : Nat) : ∀ l : List (List Int), (l.flatMap fun r => (List.range p).map fun (k : Nat) => r ++ [(k : Int)]).length = l.length * p
  | [] => by simp
  | r :: l => by rw [List.flatMap_cons, List.length_append, flat_len p l, List.length_map, List.length_range, List.length_cons, Nat.succ_mul, Nat.add_comm]
def spTo : L2.Sp := fun vs H Q _ => ∃ (p n : Nat), vs = [.int p, .int n] ∧ 1 ≤ p ∧ p ≤ 7 ∧ n ≤ 5 ∧ p ^ n ≤ 5000 ∧ ∀ (H' : Hp) (l : Addr) (xs : List V), Same H H' → H l = none → H' l = some (.lst xs) → Tps H' xs (tuplesOf p n) → Q (.ref l) H'
theorem scTo : FnScope ["prime", "count", "found", "_", "row", "number"] ["prime", "count"] (defScope sTo) := ⟨rfl, rfl, rfl, by decide +kernel, rfl, by decide +kernel, by decide +kernel⟩
theorem ok_to {f : Addr} {fd : FuncData} (D : Df K mg "tuples_of" sTo f fd ["prime", "count"]) (B : Nms mg) : FnOk P w K mg base CX0 1 f fd ["prime", "count"] spTo := by
  refine D.F.ok scTo (fun vs H Q E h => ?_) (fun cdv A outer s H vs Q E hr h => ?_)
  · obtain ⟨p, n, rfl, _⟩ := h
    rfl
  · obtain ⟨p, n, rfl, p1, p7, n5, hpn, k⟩ := h
    refine ⟨_, pss_cons (ps_set (i := 2) scTo.nd rfl (Or.inl rfl) (pe_lst (pa_cons (pe_tup pa_nil) pa_nil)))
      (pss_cons (ps_for PassesOwn.never rfl (pi_range1 rfl B.range (pa_cons (pv 1) pa_nil)) (pg_name (i := 3) scTo.nd rfl (Or.inl rfl))
        (pss_one (ps_setLc2 (i := 2) (own := [("row", 4), ("number", 5)]) (vs1 := [5]) (g := gName 4) (g1 := gName 5) (tt := tYes) (tt1 := tYes) rfl scTo.nd rfl rfl (sw_true rfl rfl rfl (by decide +kernel)) (pi_list (pv 2))
          (blkOk_by (N := ["prime", "count", "found", "_", "row", "number"]) (sc := defScope sTo) (by decide +kernel)) (by decide) (fun _ _ _ _ _ => pg_name (i := 4) scTo.nd rfl (Or.inl rfl)) (fun _ _ _ _ _ => pts_nil)
          (fun _ _ _ _ _ => pi_range1 rfl B.range (pa_cons (pv 0) pa_nil)) (fun _ _ _ _ _ => pg_name (i := 5) scTo.nd rfl (Or.inl rfl)) (fun _ _ _ _ _ => pts_nil)
          (fun _ _ _ _ _ => pe_op (r := rCatA K) op_catA (pv 4) (pe_tup (pa_cons (pv 5) pa_nil))))))
      (pss_one (ps_ret (pv 2)))), ?_⟩
    refine ⟨Nat.zero_le _, fun t ht => ⟨by show 1 ≤ sizeLine; exact line_big (by decide), fun l hl => ?_⟩⟩
    have s1 : Same H (upd (upd H t (.tup [])) l (.lst [.ref t])) := ((Same.refl H).upd_new1 ht).upd_new1 hl
    have hl0 : H l = none := ((Same.refl H).upd_new1 ht).free hl
    have ntl : t ≠ l := ne_of_none upd_same hl
    refine ⟨_, rfl, n, rfl, by omega, by omega, for_range (n := n) (fun i σ H2 => ∃ (v : Option V) (l : Addr) (xs : List V), σ = [some (.int p), some (.int n), some (.ref l), v, none, none] ∧ Same H H2 ∧ H l = none ∧ H2 l = some (.lst xs) ∧ Tps H2 xs (tuplesOf p i))
      ⟨none, l, [.ref t], rfl, s1, hl0, upd_same, .cons ⟨t, rfl, by rw [upd_ne ntl, upd_same]; rfl⟩ .nil⟩ ?_ ?_⟩
    · rintro i σ H2 hi ⟨v, l, xs, rfl, s2, l0, hL, tp⟩
      have hlen : xs.length = (tuplesOf p i).length := tp.len
      have hpi : p ^ (i + 1) ≤ 5000 := Nat.le_trans (Nat.pow_le_pow_right (by omega) (by omega)) hpn
      refine ⟨_, rfl, l, rfl, ⟨_, .of hL⟩, fun D hD => ?_⟩
      -- what stands after a rows and b numbers of the next
      let F : List Int → List (List Int) := fun r => (List.range p).map fun (k : Nat) => r ++ [(k : Int)]
      let Pv : List (List Int) → Hp → Prop := fun ms H3 => ∃ acc, Same H2 H3 ∧ H3 D = some (.lst acc) ∧ Tps H3 acc ms
      refine ⟨fun a m H3 => m = xs.length - a ∧ a ≤ xs.length ∧ Pv (((tuplesOf p i).take a).flatMap F) H3, ⟨_, rfl, Nat.zero_le _, [], (Same.refl H2).upd_new1 hD, upd_same, .nil⟩, ?_⟩
      rintro a m H3 ⟨rfl, ha, acc, s3, hA, tpA⟩
      by_cases hlt : a < xs.length
      · refine .inr ⟨⟨xs, xs[a], .of (s3 _ _ hL), by simp [hlt]⟩, Pv (((tuplesOf p i).take (a + 1)).flatMap F), fun H' q => ⟨_, by omega, rfl, hlt, q⟩, fun x H' y => ?_⟩
        obtain ⟨rfl, y⟩ := y
        obtain ⟨q, r, hq, rfl, hr1⟩ := tp.at (y xs (.of (s3 _ _ hL)))
        refine ⟨rfl, _, rfl, p, rfl, by omega, by omega, ?_⟩
        refine ⟨fun b m H4 => m = p - b ∧ b ≤ p ∧ Pv (((tuplesOf p i).take a).flatMap F ++ ((List.range b).map fun (k : Nat) => q ++ [(k : Int)])) H4, ⟨_, rfl, Nat.zero_le _, acc, s3, hA, by simpa using tpA⟩, ?_⟩
        rintro b m H4 ⟨rfl, hb, acc4, s4, hA4, tp4⟩
        by_cases hbp : b < p
        · refine .inr ⟨hbp, Pv (((tuplesOf p i).take a).flatMap F ++ ((List.range (b + 1)).map fun (k : Nat) => q ++ [(k : Int)])), fun H' q => ⟨_, by omega, rfl, hbp, q⟩, fun x H' y => ?_⟩
          obtain ⟨rfl, rfl⟩ := y
          refine ⟨rfl, _, rfl, _, rfl, by show 1 ≤ sizeLine; exact line_big (by decide), fun u hu => ?_⟩
          have hrow : H' r = some (.tup (q.map V.int)) := s4 _ _ hr1
          have hLa : acc4.length = a * p + b := by
            rw [tp4.len, List.length_append, List.length_map, List.length_range]
            rw [flat_len, List.length_take, Nat.min_eq_left (by omega)]
          have hz : acc4.length < sizeLine := by
            have : a * p + b ≤ p ^ (i + 1) := by
              have ht := tuples_len p i
              have h1 : (a + 1) * p ≤ p ^ i * p := Nat.mul_le_mul_right p (by omega)
              rw [Nat.succ_mul] at h1
              rw [Nat.pow_succ]
              omega
            exact line_lt (by omega)
          have fin : ∀ (H5 : Hp) (c : Addr), Same H' H5 → H5 c = some (.tup ((q ++ [((b : Nat) : Int)]).map V.int)) →
              ∃ acc, H5 D = some (.lst acc) ∧ acc.length < sizeLine ∧ Pv (((tuplesOf p i).take a).flatMap F ++ ((List.range (b + 1)).map fun (k : Nat) => q ++ [(k : Int)])) (upd H5 D (.lst (acc ++ [.ref c]))) := fun H5 c s5 hc => by
            have hD5 := s5 _ _ hA4
            have ncD : c ≠ D := ne_of hc hD5 (by intro z; cases z)
            refine ⟨acc4, hD5, hz, acc4 ++ [.ref c], fun b' o e => ?_, upd_same, ?_⟩
            · rw [upd_ne (ne_of_none e hD)]
              exact s5 _ _ (s4 _ _ e)
            · rw [List.range_succ, List.map_append, ← List.append_assoc]
              refine Tps.snoc (Paired.mapP tp4 fun x m ⟨a', e1, e2⟩ => ⟨a', e1, ?_⟩) ?_
              · rw [upd_ne (ne_of (s5 _ _ e2) hD5 (by intro z; cases z))]
                exact s5 _ _ e2
              · rw [upd_ne ncD]
                exact hc
          refine ⟨r, u, q.map V.int, [.int (0 + (b : Nat))], rfl, rfl, .of (Eq.trans (upd_ne (ne_of_none hrow hu)) hrow), .of upd_same, ?_, fun e => ?_, fun _ e => (nomatch e), fun e _ c hc => ?_⟩
          · have hq5 := ((mem_tuples p i q).mp (mem_of_get hq)).1
            rw [List.length_map]
            show q.length + 1 ≤ sizeLine
            exact line_big (by omega)
          · have e' : q = [] := List.map_eq_nil_iff.mp e
            refine fin _ u ((Same.refl H').upd_new1 hu) ?_
            rw [upd_same, e', Int.zero_add]
            rfl
          · refine fin _ c (((Same.refl H').upd_new1 hu).upd_new1 hc) ?_
            rw [upd_same, Int.zero_add, List.map_append]
            rfl
        · refine .inl ⟨by show p ≤ b; omega, ?_⟩
          obtain rfl : b = p := by omega
          refine ⟨acc4, s4, hA4, ?_⟩
          rw [take_snoc hq, List.flatMap_append]
          simpa [F] using tp4
      · refine .inl ⟨⟨xs, .of (s3 _ _ hL), by omega⟩, ?_⟩
        refine ⟨_, D, acc, rfl, s2.trans s3, s2.free hD, hA, ?_⟩
        rw [List.take_of_length_le (by omega)] at tpA
        exact tpA
    · rintro σ H2 ⟨v, l, xs, rfl, s2, l0, hL, tp⟩
      exact ⟨_, rfl, k H2 l xs s2 l0 hL tp⟩
end
end Gk

set_option maxHeartbeats 4000000
/-! Growth, the walks, part 2: degree_of, divides, key_of, value_of. -/
namespace Gk
open PySem L2
theorem walk_zipT {K : PySem.W.Frag} {a b : Addr} {xs ys : List V} {n : Nat} (hn : n = min xs.length ys.length) : L2.Walk (RZ.ItzT K a b) n (fun H => SqT K H a xs ∧ SqT K H b ys) (YPair (fun i => xs[i]?) (fun i => ys[i]?)) := by
  subst hn
  refine ⟨fun i _ hi q => ?_, fun _ q => ⟨xs, ys, q.1, q.2, by omega⟩, fun i H v H' _ q y => ?_⟩
  · have h1 : i < xs.length := by omega
    have h2 : i < ys.length := by omega
    exact ⟨xs, ys, xs[i], ys[i], q.1, q.2, by simp [h1], by simp [h2]⟩
  · obtain ⟨T, x, z, h1, h2, h3, h4, h5⟩ := y
    exact ⟨T, x, z, h1, h2, h3, h4 xs q.1, h5 ys q.2⟩
section
variable {P : Program} {w : World} {K : PySem.W.Frag} {mg : Str → Option Value} {base : Heap}
abbrev sDeg : Stmt := top 15
abbrev sDiv : Stmt := top 16
abbrev sKey : Stmt := top 17
abbrev sVal : Stmt := top 19
def spDeg (K : PySem.W.Frag) : L2.Sp := fun vs H Q _ => ∃ (a : Addr) (m : List Int), vs = [.ref a] ∧ SqT K H a (m.map V.int) ∧ Q (.int m.sum) H
theorem scDeg : FnScope ["power"] ["power"] (defScope sDeg) := ⟨rfl, rfl, rfl, by decide +kernel, rfl, by decide +kernel, by decide +kernel⟩
theorem ok_deg {f : Addr} {fd : FuncData} (D : Df K mg "degree_of" sDeg f fd ["power"]) (B : Nms mg) : FnOk P w K mg base CX0 1 f fd ["power"] (spDeg K) := by
  refine D.F.ok scDeg (fun vs H Q E h => ?_) (fun cdv A outer s H vs Q E hr h => ?_)
  · obtain ⟨a, m, rfl, _⟩ := h
    rfl
  · obtain ⟨a, m, rfl, hm, k⟩ := h
    refine ⟨_, pss_one (ps_ret (pe_callB (cr_sumT rfl) (by rfl) B.sum (by decide +kernel) (pa_cons (pv 0) pa_nil))), ?_⟩
    exact ⟨_, rfl, a, m, rfl, hm, k⟩
def spDiv : L2.Sp := fun vs H Q _ => ∃ (a b : Addr) (m q : List Int), vs = [.ref a, .ref b] ∧ H a = some (.tup (m.map V.int)) ∧ H b = some (.tup (q.map V.int)) ∧ m.length ≤ 100 ∧ ∀ H', Same H H' → Q (.bl (divs m q)) H'
theorem scDiv : FnScope ["one", "other", "here", "there"] ["one", "other"] (defScope sDiv) := ⟨rfl, rfl, rfl, by decide +kernel, rfl, by decide +kernel, by decide +kernel⟩
theorem zip_get {m q : List Int} {i : Nat} {x y : V} (h1 : (m.map V.int)[i]? = some x) (h2 : (q.map V.int)[i]? = some y) : ∃ a b, (m.zip q)[i]? = some (a, b) ∧ x = .int a ∧ y = .int b := by
  obtain ⟨a, k1, rfl⟩ := getMap h1
  obtain ⟨b, k2, rfl⟩ := getMap h2
  exact ⟨a, b, List.getElem?_zip_eq_some.mpr ⟨k1, k2⟩, rfl, rfl⟩
theorem ok_div {f : Addr} {fd : FuncData} (D : Df K mg "divides" sDiv f fd ["one", "other"]) (B : Nms mg) : FnOk P w K mg base CX0 1 f fd ["one", "other"] spDiv := by
  refine D.F.ok scDiv (fun vs H Q E h => ?_) (fun cdv A outer s H vs Q E hr h => ?_)
  · obtain ⟨a, b, m, q, rfl, _⟩ := h
    rfl
  · obtain ⟨a, b, m, q, rfl, hm, hq, hl, k⟩ := h
    refine ⟨_, pss_one (ps_ret (pe_callB (cr_all rfl) (by rfl) B.all (by decide +kernel) (pa_cons
      (pe_lc (own := [("here", 2), ("there", 3)]) (g := gTup K 2 (gCons (gName 2) (gCons (gName 3) gNil))) (tt := tYes) rfl scDiv.nd (RZ.pi_zipA (by rfl) B.zip (pa_cons (pv 0) (pa_cons (pv 1) pa_nil)))
        (blkOk_by (N := ["one", "other", "here", "there"]) (sc := defScope sDiv) (by decide +kernel)) (fun _ _ _ _ _ => pg_tup rfl (pgs_cons (pg_name (i := 2) scDiv.nd rfl (Or.inl rfl)) (pgs_cons (pg_name (i := 3) scDiv.nd rfl (Or.inl rfl)) pgs_nil)))
        (fun _ _ _ _ _ => pts_nil) (fun _ _ _ _ _ => pe_cmpR op_le (pv 2) (pv 3) (nomark _))) pa_nil))), ?_⟩
    refine ⟨_, rfl, _, rfl, a, b, _, _, rfl, .inr ⟨.of hm, .of hq, fun D hD => ?_⟩⟩
    have hmin : (m.zip q).length = min (m.map V.int).length (q.map V.int).length := by simp
    refine lc_it (walk_zipT hmin) (fun i H2 => Same H H2 ∧ H2 D = some (.lst (((m.zip q).take i).map fun p => V.bl (decide (p.1 ≤ p.2))))) ⟨(Same.refl H).upd_new1 hD, upd_same⟩ (fun i H2 _ h => ⟨.of (h.1 _ _ hm), .of (h.1 _ _ hq)⟩) ?_ ?_
    · rintro i x H2 H3 hi ⟨s2, hA⟩ ⟨T, x1, y1, rfl, hT, rfl, g1, g2⟩
      obtain ⟨c, d, hcd, rfl, rfl⟩ := zip_get g1 g2
      refine ⟨T, _, rfl, .of upd_same, rfl, ?_⟩
      refine ⟨_, _, rfl, _, _, rfl, rfl, rfl, ?_⟩
      refine ⟨_, rfl, _, rfl, _, _, rfl, rfl, ?_⟩
      have nTD : D ≠ T := ne_of_none hA hT
      refine ⟨_, (upd_ne nTD).trans hA, ?_, fun b' o e => ?_, ?_⟩
      · rw [List.length_map, List.length_take]
        exact line_lt (by simp; omega)
      · rw [upd_ne (ne_of_none e hD), upd_ne (ne_of_none (s2 _ _ e) hT)]
        exact s2 _ _ e
      · rw [upd_same, take_snoc hcd, List.map_append]
        rfl
    · rintro H2 ⟨s2, hA⟩
      refine ⟨D, (m.zip q).map fun p => decide (p.1 ≤ p.2), rfl, .of ?_, ?_⟩
      · rw [hA, List.take_length, List.map_map]
        rfl
      · have e : ((m.zip q).map fun p => decide (p.1 ≤ p.2)).all id = divs m q := by
          unfold divs
          rw [List.all_map]
          rfl
        rw [e]
        exact k _ s2
def spKey (K : PySem.W.Frag) : L2.Sp := fun vs H Q _ => ∃ (b : Addr) (m : List Int), vs = [.str "degree", .ref b] ∧ H b = some (.tup (m.map V.int)) ∧
  ∀ (a1 : Addr) (H' : Hp), Same H H' → H' a1 = some (.tup [.int m.sum, .ref b]) → H' b = some (.tup (m.map V.int)) → Q (.ref a1) H'
theorem scKey : FnScope ["order", "power"] ["order", "power"] (defScope sKey) := ⟨rfl, rfl, rfl, by decide +kernel, rfl, by decide +kernel, by decide +kernel⟩
theorem ok_key {f f1 : Addr} {fd fd1 : FuncData} (D : Df K mg "key_of" sKey f fd ["order", "power"]) (D1 : Df K mg "degree_of" sDeg f1 fd1 ["power"]) (B : Nms mg) : FnOk P w K mg base CX0 2 f fd ["order", "power"] (spKey K) := by
  have G1 : FnOk P w K mg base CX0 1 f1 fd1 ["power"] (spDeg K) := ok_deg D1 B
  refine D.F.ok scKey (fun vs H Q E h => ?_) (fun cdv A outer s H vs Q E hr h => ?_)
  · obtain ⟨b, m, rfl, _⟩ := h
    rfl
  · obtain ⟨b, m, rfl, hm, k⟩ := h
    refine ⟨_, pss_cons (ps_if (pt_cmpR op_eq (pv 0) pe_str (nomark _)) (pss_one (ps_ret (pe_tup (pa_cons (pe_call G1 hr rfl D1.g D1.k D1.b .nil pass0 (pa_cons (pv 1) pa_nil)) (pa_cons (pv 1) pa_nil))))) pss_nil)
      (pss_one (ps_ret (pe_tup (pa_cons pe_int (pa_cons (pv 1) pa_nil))))), ?_⟩
    refine ⟨_, rfl, rfl, _, rfl, ?_⟩
    rw [decide_eq_true (show V.str "degree" = V.str "degree" from rfl)]
    refine iteT ?_
    refine ⟨_, rfl, b, m, rfl, .of hm, _, rfl, by show 2 ≤ sizeLine; exact line_big (by decide), fun p hp => ?_⟩
    exact k p _ ((Same.refl H).upd_new1 hp) upd_same ((upd_ne (ne_of_none hm hp)).trans hm)
end
end Gk

set_option maxHeartbeats 4000000
/-! Growth, the walks, part 3: value_of; what a Space looks like. -/
namespace Gk
open PySem L2
/-- the attributes of a Space, in the order of __init__ -/
def sflds (p : Int) (nl : Addr) (n : Int) : List (Str × V) := putF "count" (.int n) (putF "names" (.ref nl) (putF "prime" (.int p) []))
theorem sf_prime (p : Int) (nl : Addr) (n : Int) : (sflds p nl n).lookup ("prime" : Str) = some (.int p) := by
  unfold sflds
  rw [lookup_putF, if_neg (by decide +kernel), lookup_putF, if_neg (by decide +kernel), lookup_putF, if_pos rfl]
theorem sf_count (p : Int) (nl : Addr) (n : Int) : (sflds p nl n).lookup ("count" : Str) = some (.int n) := by
  unfold sflds
  rw [lookup_putF, if_pos rfl]
theorem sf_no (p : Int) (nl : Addr) (n : Int) {m : Str} (h1 : ¬ m = "count") (h2 : ¬ m = "names") (h3 : ¬ m = "prime") : (sflds p nl n).lookup m = none := by
  unfold sflds
  rw [lookup_putF, if_neg h1, lookup_putF, if_neg h2, lookup_putF, if_neg h3]
  rfl
def SpAt (CS : Addr) (H : Hp) (a : Addr) (p : Int) (n : Nat) : Prop := ∃ dx nl, H a = some (.ins CS dx (sflds p nl (n : Int)))
theorem SpAt.same {CS : Addr} {H H' : Hp} {a : Addr} {p : Int} {n : Nat} (s : SpAt CS H a p n) (e : Same H H') : SpAt CS H' a p n := let ⟨dx, nl, h⟩ := s; ⟨dx, nl, e _ _ h⟩
theorem SpAt.ext {CS : Addr} {H H' : Hp} {a : Addr} {p : Int} {n : Nat} (s : SpAt CS H a p n) (e : LamX.ExtN H H') : SpAt CS H' a p n := let ⟨dx, nl, h⟩ := s; ⟨dx, nl, e _ _ h fun _ z => nomatch z⟩
/-- the class Space -/
structure TSp (K : PySem.W.Frag) (mg : Str → Option Value) (C : Addr) : Prop where
  cl : Cls K C
  nP : NoAttr K C "prime"
  nN : NoAttr K C "names"
  nC : NoAttr K C "count"
  g : mg "Space" = some (.ref C)
section
variable {P : Program} {w : World} {K : PySem.W.Frag} {mg : Str → Option Value} {base : Heap}
def spVal (K : PySem.W.Frag) (CS : Addr) : L2.Sp := fun vs H Q _ => ∃ (sp a b : Addr) (p : Int) (n : Nat) (m q : List Int), vs = [.ref sp, .ref a, .ref b] ∧ SpAt CS H sp p n ∧ Pr p ∧ H a = some (.tup (m.map V.int)) ∧ H b = some (.tup (q.map V.int)) ∧ In p m ∧ In p q ∧
  ∀ H', Same H H' → Q (.int (mv p m q)) H'
theorem scVal : FnScope ["space", "power", "point", "found", "exponent", "number"] ["space", "power", "point"] (defScope sVal) := ⟨rfl, rfl, rfl, by decide +kernel, rfl, by decide +kernel, by decide +kernel⟩
theorem ok_val {f f1 CS : Addr} {fd fd1 : FuncData} (D : Df K mg "value_of" sVal f fd ["space", "power", "point"]) (D1 : Df K mg "raised_number" sRn f1 fd1 ["prime", "number", "exponent"]) (B : Nms mg) (T : TSp K mg CS) :
    FnOk P w K mg base CX0 2 f fd ["space", "power", "point"] (spVal K CS) := by
  have G1 : FnOk P w K mg base CX0 1 f1 fd1 ["prime", "number", "exponent"] spRn := ok_rn D1 B
  refine D.F.ok scVal (fun vs H Q E h => ?_) (fun cdv A outer s H vs Q E hr h => ?_)
  · obtain ⟨sp, a, b, p, n, m, q, rfl, _⟩ := h
    rfl
  · obtain ⟨sp, a, b, p, n, m, q, rfl, hS, hp, hm, hq, im, iq, k⟩ := h
    refine ⟨_, pss_cons (ps_set (i := 3) scVal.nd rfl (Or.inl rfl) pe_int)
      (pss_cons (ps_for PassesOwn.never rfl (RZ.pi_zipA (by rfl) B.zip (pa_cons (pv 1) (pa_cons (pv 2) pa_nil))) (pg_tup rfl (pgs_cons (pg_name (i := 4) scVal.nd rfl (Or.inl rfl)) (pgs_cons (pg_name (i := 5) scVal.nd rfl (Or.inl rfl)) pgs_nil)))
        (pss_one (ps_set (i := 3) scVal.nd rfl (Or.inl rfl) (pe_op op_mod (pe_op op_mul (pv 3) (pe_call G1 hr rfl D1.g D1.k D1.b .nil pass0 (pa_cons (pe_fld (pv 0) rfl) (pa_cons (pv 5) (pa_cons (pv 4) pa_nil))))) (pe_fld (pv 0) rfl)))))
      (pss_one (ps_ret (pv 3)))), ?_⟩
    have h2 := hp.pos
    have h7 := hp.le
    have hmin : (m.zip q).length = min (m.map V.int).length (q.map V.int).length := by simp
    refine ⟨_, rfl, _, rfl, a, b, _, _, rfl, .inr ⟨.of hm, .of hq, for_it (walk_zipT hmin) (fun i σ H2 => ∃ (f : Int) (v1 v2 : Option V), σ = [some (.ref sp), some (.ref a), some (.ref b), some (.int f), v1, v2] ∧ Same H H2 ∧ 0 ≤ f ∧ f < p ∧ vof p (m.drop i) (q.drop i) f = vof p m q 1)
      ⟨1, none, none, rfl, Same.refl H, by omega, by omega, rfl⟩ (fun i σ H2 _ ⟨_, _, _, _, s2, _⟩ => ⟨.of (s2 _ _ hm), .of (s2 _ _ hq)⟩) ?_ ?_⟩⟩
    · rintro i x σ H2 H3 hi ⟨f, v1, v2, rfl, s2, f0, f1, hf⟩ ⟨T', x1, y1, rfl, hT, rfl, g1, g2⟩
      obtain ⟨e, k1, rfl⟩ := getMap g1
      obtain ⟨y, k2, rfl⟩ := getMap g2
      have he := im e (mem_of_get k1)
      have hy := iq y (mem_of_get k2)
      have s3 : Same H (upd H2 T' (.tup [.int e, .int y])) := s2.upd_new1 hT
      obtain ⟨dx, nl, h1⟩ := hS.same s3
      refine ⟨T', _, rfl, .of upd_same, rfl, _, _, rfl, _, _, rfl, rfl, ?_⟩
      refine ⟨_, rfl, _, rfl, sp, CS, dx, _, _, rfl, h1, T.cl, T.nP, sf_prime _ _ _, _, rfl, _, rfl, p, y, e.toNat, by rw [Int.toNat_of_nonneg he.1]; rfl, hp, hy.1, hy.2, by omega, ?_⟩
      have b := rn_lt (p := p) (x := y) h2 e.toNat
      refine ⟨_, _, rfl, rfl, .inl ⟨by omega, by omega⟩, _, rfl, sp, CS, dx, _, _, rfl, h1, T.cl, T.nP, sf_prime _ _ _, _, _, rfl, rfl, (by show 0 < p; omega), ?_⟩
      refine ⟨_, _, _, rfl, s3, Int.emod_nonneg _ (by omega), Int.emod_lt_of_pos _ (by omega), ?_⟩
      rw [← hf, List.drop_eq_getElem_cons (lt_of_get k1), List.drop_eq_getElem_cons (lt_of_get k2)]
      rw [(List.getElem?_eq_some_iff.mp k1).2, (List.getElem?_eq_some_iff.mp k2).2]
      rfl
    · rintro σ H2 ⟨f, v1, v2, rfl, s2, f0, f1, hf⟩
      have e : f = mv p m q := by
        rw [← vof_mv h2 m q, ← hf, vof_spec h2 _ _ f f0 f1]
        have : mono (m.drop (m.zip q).length) (q.drop (m.zip q).length) = 1 := by
          have hz : (m.zip q).length = min m.length q.length := by simp
          rw [hz]
          by_cases hle : m.length ≤ q.length
          · rw [Nat.min_eq_left hle, List.drop_of_length_le (Nat.le_refl _)]
            rfl
          · rw [Nat.min_eq_right (by omega), List.drop_of_length_le (Nat.le_refl q.length)]
            cases m.drop q.length <;> rfl
        rw [this, Int.mul_one, Int.emod_eq_of_lt f0 f1]
      rw [e]
      exact ⟨_, rfl, k _ s2⟩
end
end Gk

set_option maxHeartbeats 4000000
/-! Growth, the walks, part 4: ascending, whose key is a lambda that reads order. -/
namespace Gk
open PySem PySem.Spec PyProof.Rows L2 LamX NdefX
/-- a def whose code object is known -/
structure FunC (K : PySem.W.Frag) (x qual : Str) (st : Stmt) (f c : Addr) (fd : FuncData) : Prop where
  ex : ∃ (oc : Value) (od : Option Addr) (kV doc pm : Value) (an : Option Addr) (ct : Value) (osl : Array (Option Value)),
    fd = PySem.W.fnOf x qual (defArgs st) (defBody st) (defScope st) .none kV doc pm an (.ref c) ct ∧ K.lookup f = some ⟨oc, od, .func fd, osl⟩ ∧ PySem.W.codeIn K (.ref c) qual = true
section
variable {P : Program} {w : World} {K : PySem.W.Frag} {mg : Str → Option Value} {base : Heap}
theorem FunC.ok {x qual : Str} {st : Stmt} {f c : Addr} {fd : FuncData} {N ps : List Str} {k : Nat} {sp : L2.Sp} (F : FunC K x qual st f c fd) (S : FnScope N ps (defScope st)) (len : ∀ vs H Q E, sp vs H Q E → vs.length = ps.length)
    (hbody : ∀ (A : Around) (outer : List Env) (s : Shared) (H : Hp) (vs : List V) (Q : VK) (E : XK), Room k (A.deeper (envOfC qual (defScope st) s.heap.objs.size f (.ref c))) → sp vs H Q E →
      ∃ t, PSs (cxOf CX0 P w K mg base N qual (defScope st) f (.ref c) A outer s H E).nox (defBody st) t ∧ t { nx := fun _ H' => Q .non H', rt := Q } (start N vs) H) : FnOk P w K mg base CX0 (k + 1) f fd ps sp := by
  obtain ⟨oc, od, kV, doc, pm, an, ct, osl, rfl, lk, hcd⟩ := F.ex
  refine fn_of lk hcd S len fun A outer s H vs Q E hr hsp => ?_
  obtain ⟨t, h, q⟩ := hbody A outer s H vs Q E hr hsp
  exact ⟨t, h.nox, q⟩
structure DfC (K : PySem.W.Frag) (mg : Str → Option Value) (nm : Str) (st : Stmt) (f c : Addr) (fd : FuncData) (ps : List Str) : Prop where
  F : FunC K nm nm st f c fd
  g : mg nm = some (.ref f)
  k : PySem.W.keepIn K (.ref f) = true
  b : Binds K fd ps []
theorem frees_by {sc scope : Scope} (h : (scope.names.all fun y => !decide (y.2 = NameKind.free) || decide (sc.names.lookup y.1 = some NameKind.cell) || decide (sc.names.lookup y.1 = some NameKind.free)) = true) :
    ∀ y ∈ scope.names, y.2 = .free → sc.names.lookup y.1 = some .cell ∨ sc.names.lookup y.1 = some .free := fun y hy e => by
  have := List.all_eq_true.mp h y hy
  simp only [Bool.or_eq_true, Bool.not_eq_true', decide_eq_true_eq, decide_eq_false_iff_not] at this
  rcases this with (z | z) | z
  · exact absurd e z
  · exact .inl z
  · exact .inr z
abbrev sAsc : Stmt := top 18
/-- the table's own text -/
def lamT (Pt : Addr) : List (Addr × Str) := [(Pt, ("ascending" : Str) ++ ".<locals>." ++ "<lambda>")]
def spAsc (K : PySem.W.Frag) (Pt : Addr) : L2.Sp := fun vs H Q _ => ∃ (l : Addr) (xs : List V) (ms : List (List Int)) (n : Nat), vs = [.str "degree", .ref l] ∧ SqL K H l xs ∧ Tps H xs ms ∧ (∀ m ∈ ms, m.length = n + 1) ∧ Tabs (lamT Pt) H ∧
  ∀ (H' : Hp) (p : Addr) (ys : List V), ExtN H H' → Tabs (lamT Pt) H' → (∀ b o, H b = some o → (∀ ps, o ≠ .tbl ps) → b ≠ p) → H' p = some (.lst ys) → Tps H' ys (ms.mergeSort (PySem.W.dataLe false keyD)) → Q (.ref p) H'
theorem scAsc : FnScope ["order", "powers"] ["order", "powers"] (defScope sAsc) := ⟨rfl, rfl, rfl, by decide +kernel, rfl, by decide +kernel, by decide +kernel⟩
theorem ok_asc {f f1 f2 c Pt : Addr} {fd fd1 fd2 : FuncData} (D : DfC K mg "ascending" sAsc f c fd ["order", "powers"]) (D1 : Df K mg "key_of" sKey f1 fd1 ["order", "power"]) (D2 : Df K mg "degree_of" sDeg f2 fd2 ["power"]) (B : Nms mg) (TB : TabB base mg c Pt) :
    FnOk P w K mg base CX0 6 f fd ["order", "powers"] (spAsc K Pt) := by
  have G1 : FnOk P w K mg base CX0 2 f1 fd1 ["order", "power"] (spKey K) := ok_key D1 D2 B
  refine D.F.ok scAsc (fun vs H Q E h => ?_) (fun A outer s H vs Q E hr h => ?_)
  · obtain ⟨l, xs, ms, n, rfl, _⟩ := h
    rfl
  · obtain ⟨l, xs, ms, n, rfl, hl, tp, hn, hT, k⟩ := h
    refine ⟨_, pss_one (ps_ret (pe_sortLam (c := c) (P := Pt) (N := ["power", "order"]) (fr := ["order"]) (prm := "power") (js := [0]) (k := 2) rfl rfl B.sorted (pv 1) TB rfl hr (nscope_by (by decide +kernel)) (frees_by (sc := defScope sAsc) (by decide +kernel)) (by decide +kernel) rfl rfl (fun _ _ _ _ _ _ => rfl)
      (fun A2 outer2 s2 H2 f2 c2 hr2 => pe_call G1 hr2 rfl D1.g D1.k D1.b .nil pass0 (pa_cons (pv 1) (pa_cons (pv 0) pa_nil))))), ?_⟩
    refine ⟨_, rfl, l, xs, ms, n, rfl, hl, tp, hn, hT, fun H2 a m Q2 e2 hm ha q => ?_, fun H' p ys e1 hT' fr hp t => k H' p ys e1 hT' fr hp t⟩
    exact ⟨_, rfl, _, rfl, a, m, rfl, ha, fun a1 H3 s3 h1 h2 => q a1 a H3 s3 h1 h2⟩
end
end Gk

set_option maxHeartbeats 4000000
/-! Growth, the walks, part 5: is_name. -/
namespace Gk
open PySem L2
def LET : Str := "abcdefghijklmnopqrstuvwxyz"
def DIG : Str := "0123456789"
/-- the top's constants -/
structure Cst (mg : Str → Option Value) : Prop where
  letters : ∃ t, mg "LETTERS" = some (.str LET t)
  digits : ∃ t, mg "DIGITS" = some (.str DIG t)
  long : ∃ t, mg "LONGEST_NAME" = some (.int 12 t)
  most : ∃ t, mg "MOST_NAMES" = some (.int 8 t)
def okName (z : Str) : Bool := decide (1 ≤ z.length) && decide (z.length ≤ 12) && (z.cps[0]?).all (fun c => decide (c ∈ LET.cps.toList)) && z.cps.toList.all fun c => decide (c ∈ LET.cps.toList) || decide (c ∈ DIG.cps.toList)
section
variable {P : Program} {w : World} {K : PySem.W.Frag} {mg : Str → Option Value} {base : Heap}
abbrev sNm : Stmt := top 14
def spNm : L2.Sp := fun vs H Q _ => ∃ (z : Str), vs = [.str z] ∧ okName z = true ∧ ∀ H', Same H H' → Q (.bl true) H'
theorem scNm : FnScope ["text", "char"] ["text"] (defScope sNm) := ⟨rfl, rfl, rfl, by decide +kernel, rfl, by decide +kernel, by decide +kernel⟩
theorem ok_nm {f : Addr} {fd : FuncData} (D : Df K mg "is_name" sNm f fd ["text"]) (B : Nms mg) (Z : Cst mg) : FnOk P w K mg base CX0 1 f fd ["text"] spNm := by
  refine D.F.ok scNm (fun vs H Q E h => ?_) (fun cdv A outer s H vs Q E hr h => ?_)
  · obtain ⟨z, rfl, _⟩ := h
    rfl
  · obtain ⟨z, rfl, ok, k⟩ := h
    obtain ⟨tL, gL⟩ := Z.letters
    obtain ⟨tD, gD⟩ := Z.digits
    obtain ⟨tM, gM⟩ := Z.long
    unfold okName at ok
    simp only [Bool.and_eq_true, decide_eq_true_eq, List.all_eq_true] at ok
    obtain ⟨⟨⟨n1, n12⟩, c0⟩, cs⟩ := ok
    refine ⟨_, pss_cons (ps_if (PW.pt (pw_or (pt_not (pt_chain op_le op_le pe_int (pe_callB call_len_str (by rfl) B.len PySem.boot_len (pa_cons (pv 0) pa_nil)) (pe_glob (v := .int 12) rfl gM ⟨_, rfl⟩)))
        (pw_or1 (pt_cmpR op_notIn_sign (pe_item_str (pv 0) pe_int (fun _ _ => rfl)) (pe_glob (v := .str LET) rfl gL ⟨_, rfl⟩) (by rfl))))) (pss_one (ps_ret pe_bl)) pss_nil)
      (pss_one (ps_ret (pe_callB (cr_all rfl) (by rfl) B.all (by decide +kernel) (pa_cons
        (pe_lc (own := [("char", 1)]) (g := gName 1) (tt := tYes) rfl scNm.nd (pi_str (pv 0)) (blkOk_by (N := ["text", "char"]) (sc := defScope sNm) (by decide +kernel))
          (fun _ _ _ _ _ => pg_name (i := 1) scNm.nd rfl (Or.inl rfl)) (fun _ _ _ _ _ => pts_nil)
          (fun _ _ _ _ _ => pe_or (pe_cmpR op_in_sign (pv 1) (pe_glob (v := .str LET) rfl gL ⟨_, rfl⟩) (by rfl)) (pe_one (pe_cmpR op_in_sign (pv 1) (pe_glob (v := .str DIG) rfl gD ⟨_, rfl⟩) (by rfl))))) pa_nil)))), ?_⟩
    have hsz : z.length = z.cps.size := rfl
    have h0 : (0 : Nat) < z.cps.size := by omega
    have hc0 : z.cps[0]? = some z.cps[0] := by simp [h0]
    have hm0 : z.cps[0] ∈ LET.cps.toList := by
      rw [hc0] at c0
      simpa using c0
    refine ⟨_, rfl, z, rfl, line_big (by omega), _, _, rfl, rfl, _, rfl, ?_⟩
    rw [decide_eq_true (show (1 : Int) ≤ (z.length : Int) by omega)]
    refine iteT ⟨_, _, rfl, rfl, _, rfl, ?_⟩
    rw [decide_eq_true (show (z.length : Int) ≤ 12 by omega)]
    refine iteF ⟨_, rfl, z, 0, z.cps[0], rfl, rfl, by decide, by decide, by omega, hc0, _, _, rfl, rfl, _, rfl, ?_⟩
    rw [decide_eq_true hm0]
    refine iteF ⟨_, rfl, z, rfl, fun D hD => ?_⟩
    refine lc_it walk_str (fun i H2 => Same H H2 ∧ H2 D = some (.lst ((List.replicate i true).map V.bl))) ⟨(Same.refl H).upd_new1 hD, upd_same⟩ (fun _ _ _ _ => trivial) ?_ ?_
    · rintro i x H2 H3 hi ⟨s2, hA⟩ ⟨rfl, c, hc, rfl⟩
      have hc' : c ∈ z.cps.toList := Array.mem_toList_iff.mpr (Array.mem_of_getElem? hc)
      have fin : ∃ acc, H3 D = some (.lst acc) ∧ acc.length < sizeLine ∧ Same H (upd H3 D (.lst (acc ++ [V.bl true]))) ∧ upd H3 D (.lst (acc ++ [V.bl true])) D = some (.lst ((List.replicate (i + 1) true).map V.bl)) := by
        refine ⟨_, hA, by rw [List.length_map, List.length_replicate]; exact line_lt (by omega), s2.upd_new hD, ?_⟩
        rw [upd_same, List.replicate_succ', List.map_append]
        rfl
      refine ⟨rfl, _, rfl, c, LET, rfl, rfl, _, rfl, ?_⟩
      have hd := cs c hc'
      by_cases h1 : c ∈ LET.cps.toList
      · rw [decide_eq_true h1]
        exact iteT fin
      · rw [decide_eq_false h1]
        have h2 : c ∈ DIG.cps.toList := by simpa [h1] using hd
        refine iteF ⟨_, rfl, c, DIG, rfl, rfl, ?_⟩
        rw [decide_eq_true h2]
        exact fin
    · rintro H2 ⟨s2, hA⟩
      refine ⟨D, List.replicate z.cps.size true, rfl, .of hA, ?_⟩
      have e : (List.replicate z.cps.size true).all id = true := by simp
      rw [e]
      exact k _ s2
end
end Gk

set_option maxHeartbeats 4000000
/-! Growth, the walks, part 6: Space, its making, points, powers. -/
namespace Gk
open PySem PySem.Spec PyProof.Rows L2
/-- a dict of the module with int keys -/
def KDctI (K : PySem.W.Frag) (w : World) (a : Addr) (k : Int) (v : V) : Prop :=
  ∃ es n u, K.lookup a = some ⟨.type "dict", none, .dict es n, #[]⟩ ∧ (∀ e ∈ es.toList, ∃ j t, e.key = .int j t ∧ e.hash = hashInt j) ∧ findBy Value.isInt es k = some u ∧ RelV v u
def rIxDI (K : PySem.W.Frag) (w : World) : R2 := fun x y H Q => ∃ p z v, x = .ref p ∧ y = .int z ∧ KDctI K w p z v ∧ Q v H
section
variable {X : Cx}
theorem ix_kdictI : IxR X (rIxDI X.K X.w) := by
  intro value slice pins s σ H x y v u Q I rx ry h hs
  obtain ⟨p, z, r, rfl, rfl, ⟨es, n, u0, hl, hk, e, ru⟩, q⟩ := h
  obtain rfl : v = Value.ref p := rx
  obtain ⟨t, rfl⟩ := ry
  have hm : s.heap.MapOf (intKind X.prog X.w) p (fun k => findBy Value.isInt es k) :=
    ⟨_, es, n, I.kIn _ _ hl, ⟨rfl, rfl, rfl⟩, rfl, fun d hd => by
      obtain ⟨j, t, e1, e2⟩ := hk d (Array.mem_toList_iff.mpr hd)
      exact ⟨j, by rw [e1]; exact intKind_is X.prog X.w j t, e2⟩, fun _ => rfl⟩
  exact tail_any hm.typeIs slot_dict_getitem.lookup (wpAny_getItem_of (intKind_is X.prog X.w z t) hm e ⟨r, H, I.tok _, ru, q⟩) hs
end
def mostOf (p : Int) : Nat := if p = 2 then 8 else if p = 3 then 5 else if p = 5 then 3 else 2
/-- the top's tuple and dict -/
structure Cst2 (K : PySem.W.Frag) (w : World) (mg : Str → Option Value) : Prop where
  primes : ∃ pr, mg "PRIMES" = some (.ref pr) ∧ ∀ H, SqT K H pr [.int 2, .int 3, .int 5, .int 7]
  mop : ∃ d, mg "MOST_OF_PRIME" = some (.ref d) ∧ ∀ p, Pr p → KDctI K w d p (.int (mostOf p))
theorem iteE {b : Bool} {A B : Prop} (h : b = false) (k : B) : if b = true then A else B := by
  rw [h]
  exact iteF k
theorem iteI {b : Bool} {A B : Prop} (h : b = true) (k : A) : if b = true then A else B := by
  rw [h]
  exact iteT k
abbrev sSIni : Stmt := inClass (top 20) 0
abbrev sSPts : Stmt := inClass (top 20) 1
abbrev sSPow : Stmt := inClass (top 20) 2
section
variable {P : Program} {w : World} {K : PySem.W.Frag} {mg : Str → Option Value} {base : Heap}
def spSIni (K : PySem.W.Frag) (CS : Addr) : L2.Sp := fun vs H Q _ => ∃ (a dx l : Addr) (p : Int) (xs : List Str), vs = [.ref a, .int p, .ref l] ∧ H a = some (.ins CS dx []) ∧ Pr p ∧ SqL K H l (xs.map V.str) ∧ (∀ z ∈ xs, okName z = true) ∧ xs.Nodup ∧ 1 ≤ xs.length ∧ xs.length ≤ 8 ∧ xs.length ≤ mostOf p ∧
  ∀ H', (∀ b o, H b = some o → b ≠ a → H' b = some o) → SpAt CS H' a p xs.length → Q .non H'
theorem scSIni : FnScope ["self", "prime", "names", "name"] ["self", "prime", "names"] (defScope sSIni) := ⟨rfl, rfl, rfl, by decide +kernel, rfl, by decide +kernel, by decide +kernel⟩
theorem ok_sini {f f1 CS : Addr} {fd fd1 : FuncData} (F : Fun K "__init__" "Space.__init__" sSIni f fd) (D1 : Df K mg "is_name" sNm f1 fd1 ["text"]) (B : Nms mg) (Z : Cst mg) (Z2 : Cst2 K w mg) (T : TSp K mg CS) :
    FnOk P w K mg base CX0 2 f fd ["self", "prime", "names"] (spSIni K CS) := by
  have G1 : FnOk P w K mg base CX0 1 f1 fd1 ["text"] spNm := ok_nm D1 B Z
  refine F.ok scSIni (fun vs H Q E h => ?_) (fun cdv A outer s H vs Q E hr h => ?_)
  · obtain ⟨a, dx, l, p, xs, rfl, _⟩ := h
    rfl
  · obtain ⟨a, dx, l, p, xs, rfl, ha, hp, hl, hok, hnd, n1, n8, nm, k⟩ := h
    obtain ⟨pr, gP, qP⟩ := Z2.primes
    obtain ⟨dm, gD, qD⟩ := Z2.mop
    obtain ⟨tM, gM⟩ := Z.most
    refine ⟨_, pss_cons (ps_if (PW.pt (pw_or (pt_cmpR op_notIn_seq (pv 1) (pe_glob (v := .ref pr) rfl gP rfl) (by rfl))
        (pw_or1 (pt_not (pt_chain op_le op_le pe_int (pe_callB call_len_seq (by rfl) B.len PySem.boot_len (pa_cons (pv 2) pa_nil)) (pe_glob (v := .int 8) rfl gM ⟨_, rfl⟩)))))) (pss_one ps_never) pss_nil)
      (pss_cons (ps_if (PW.pt (pw_or (pt_not (pt_val (pe_callB (cr_all rfl) (by rfl) B.all (by decide +kernel) (pa_cons
          (pe_lc (own := [("name", 3)]) (g := gName 3) (tt := tYes) rfl scSIni.nd (pi_list (pv 2)) (blkOk_by (N := ["self", "prime", "names", "name"]) (sc := defScope sSIni) (by decide +kernel))
            (fun _ _ _ _ _ => pg_name (i := 3) scSIni.nd rfl (Or.inl rfl)) (fun _ _ _ _ _ => pts_nil)
            (fun _ _ _ _ _ => pe_call G1 hr rfl D1.g D1.k D1.b .nil pass0 (pa_cons (pv 3) pa_nil))) pa_nil))))
        (pw_or1 (pt_cmpR op_lt (pe_lenSetD rfl (by rfl) B.len (by rfl) B.set (pv 2)) (pe_callB call_len_seq (by rfl) B.len PySem.boot_len (pa_cons (pv 2) pa_nil)) (nomark _))))) (pss_one ps_never) pss_nil)
      (pss_cons (ps_if (pt_cmpR op_gt (pe_callB call_len_seq (by rfl) B.len PySem.boot_len (pa_cons (pv 2) pa_nil)) (pe_ix ix_kdictI (pe_glob (v := .ref dm) rfl gD rfl) (pv 1) (fun _ _ => rfl)) (nomark _)) (pss_one ps_never) pss_nil)
      (pss_cons (ps_fld (pv 0) (pv 1) rfl)
      (pss_cons (ps_fld (pv 0) (pe_callTy call_list_of (by rfl) B.list (by decide +kernel) (pa_cons (pv 2) pa_nil)) rfl)
      (pss_one (ps_fld (pv 0) (pe_callB call_len_seq (by rfl) B.len PySem.boot_len (pa_cons (pv 2) pa_nil)) rfl)))))), ?_⟩
    have hlen : (xs.map V.str).length = xs.length := List.length_map _
    refine ⟨_, rfl, pr, _, rfl, .inr (qP _), rfl, rfl, _, rfl, iteE (by rcases hp with rfl | rfl | rfl | rfl <;> rfl) ?_⟩
    refine ⟨_, rfl, l, _, rfl, .inl hl, _, _, rfl, rfl, _, rfl, iteI (decide_eq_true (by rw [hlen]; omega)) ?_⟩
    refine ⟨_, _, rfl, rfl, _, rfl, iteE (by rw [decide_eq_true (by rw [hlen]; omega)]; rfl) ?_⟩
    refine ⟨_, rfl, l, rfl, ⟨_, hl⟩, fun D hD => ?_⟩
    refine lc_it (walk_list (xs := xs.map V.str)) (fun i H2 => Same H H2 ∧ H2 D = some (.lst ((List.replicate i true).map V.bl))) ⟨(Same.refl H).upd_new1 hD, upd_same⟩ (fun _ _ _ h => h.1.seq hl) ?_ ?_
    · rintro i x H2 H3 hi ⟨s2, hA⟩ ⟨rfl, hx⟩
      obtain ⟨z, hz, rfl⟩ := getMap hx
      refine ⟨rfl, _, rfl, z, rfl, hok z (mem_of_get hz), fun H4 s4 => ⟨_, s4 _ _ hA, ?_, (s2.trans s4).upd_new hD, ?_⟩⟩
      · rw [List.length_map, List.length_replicate]
        exact line_lt (by rw [hlen] at hi; omega)
      · rw [upd_same, List.replicate_succ', List.map_append]
        rfl
    · rintro H2 ⟨s2, hA⟩
      refine ⟨D, List.replicate _ true, rfl, .of hA, _, rfl, iteE (by simp) ?_⟩
      have hl2 := s2.seq hl
      refine ⟨_, rfl, l, xs, rfl, hl2, hnd, by omega, _, rfl, l, _, rfl, .inl hl2, _, _, rfl, rfl, _, rfl, iteE (decide_eq_false (by rw [hlen]; omega)) ?_⟩
      refine ⟨_, rfl, l, _, rfl, .inl hl2, _, rfl, _, _, _, rfl, rfl, qD p hp, _, _, rfl, rfl, _, rfl, iteE (decide_eq_false (by rw [hlen]; omega)) ?_⟩
      have ha2 := s2 _ _ ha
      refine ⟨_, rfl, _, rfl, a, CS, dx, _, rfl, ha2, T.cl, T.nP, (by show 0 < 1000; decide), ?_⟩
      have hl3 : SqL K (upd H2 a (.ins CS dx (putF "prime" (.int p) []))) l (xs.map V.str) := SqL_upd hl2 ha2 (fun z => nomatch z) fun _ z => nomatch z
      refine ⟨_, rfl, l, _, rfl, .inl hl3, fun m hm => ⟨_, rfl, a, CS, dx, _, rfl, (by rw [upd_ne (ne_of_none upd_same hm), upd_same]), T.cl, T.nN, (by show 1 < 1000; decide), ?_⟩⟩
      have hl4 := SqL_upd (o := .ins CS dx (putF "names" (.ref m) (putF "prime" (.int p) []))) (((Same.refl _).upd_new1 (o := .lst (xs.map V.str)) hm).seq hl3) (show (upd (upd H2 a (.ins CS dx (putF "prime" (.int p) []))) m (.lst (xs.map V.str))) a = some (.ins CS dx (putF "prime" (.int p) [])) by rw [upd_ne (ne_of_none upd_same hm), upd_same]) (fun z => nomatch z) (fun _ z => nomatch z)
      refine ⟨_, rfl, l, _, rfl, .inl hl4, _, rfl, a, CS, dx, _, rfl, upd_same, T.cl, T.nC, (by show 2 < 1000; decide), ?_⟩
      refine k _ (fun b o e hb => ?_) ⟨dx, m, by rw [upd_same, hlen]; rfl⟩
      have nbm : b ≠ m := ne_of_none ((upd_ne hb).trans (s2 _ _ e)) hm
      rw [upd_ne hb, upd_ne hb, upd_ne nbm, upd_ne hb]
      exact s2 _ _ e
def spSPts (CS : Addr) : L2.Sp := fun vs H Q _ => ∃ (a : Addr) (p n : Nat), vs = [.ref a] ∧ SpAt CS H a p n ∧ 1 ≤ p ∧ p ≤ 7 ∧ n ≤ 5 ∧ p ^ n ≤ 5000 ∧ ∀ (H' : Hp) (l : Addr) (xs : List V), Same H H' → H l = none → H' l = some (.lst xs) → Tps H' xs (tuplesOf p n) → Q (.ref l) H'
theorem scSPts : FnScope ["self"] ["self"] (defScope sSPts) := ⟨rfl, rfl, rfl, by decide +kernel, rfl, by decide +kernel, by decide +kernel⟩
theorem ok_spts {f f1 CS : Addr} {fd fd1 : FuncData} (F : Fun K "points" "Space.points" sSPts f fd) (D1 : Df K mg "tuples_of" sTo f1 fd1 ["prime", "count"]) (B : Nms mg) (T : TSp K mg CS) :
    FnOk P w K mg base CX0 2 f fd ["self"] (spSPts CS) := by
  have G1 : FnOk P w K mg base CX0 1 f1 fd1 ["prime", "count"] spTo := ok_to D1 B
  refine F.ok scSPts (fun vs H Q E h => ?_) (fun cdv A outer s H vs Q E hr h => ?_)
  · obtain ⟨a, p, n, rfl, _⟩ := h
    rfl
  · obtain ⟨a, p, n, rfl, ⟨dx, nl, ha⟩, p1, p7, n5, hpn, k⟩ := h
    refine ⟨_, pss_one (ps_ret (pe_call G1 hr rfl D1.g D1.k D1.b .nil pass0 (pa_cons (pe_fld (pv 0) rfl) (pa_cons (pe_fld (pv 0) rfl) pa_nil)))), ?_⟩
    exact ⟨_, rfl, a, CS, dx, _, _, rfl, ha, T.cl, T.nP, sf_prime _ _ _, _, rfl, a, CS, dx, _, _, rfl, ha, T.cl, T.nC, sf_count _ _ _, p, n, rfl, p1, p7, n5, hpn, k⟩
def spSPow (CS Pt : Addr) : L2.Sp := fun vs H Q _ => ∃ (a : Addr) (p n : Nat), vs = [.ref a, .str "degree"] ∧ SpAt CS H a p (n + 1) ∧ 1 ≤ p ∧ p ≤ 7 ∧ n + 1 ≤ 5 ∧ p ^ (n + 1) ≤ 5000 ∧ LamX.Tabs (lamT Pt) H ∧
  ∀ (H' : Hp) (l : Addr) (ys : List V), LamX.ExtN H H' → LamX.Tabs (lamT Pt) H' → (∀ b o, H b = some o → (∀ ps, o ≠ .tbl ps) → b ≠ l) → H' l = some (.lst ys) → Tps H' ys ((tuplesOf p (n + 1)).mergeSort (PySem.W.dataLe false keyD)) → Q (.ref l) H'
theorem scSPow : FnScope ["self", "order"] ["self", "order"] (defScope sSPow) := ⟨rfl, rfl, rfl, by decide +kernel, rfl, by decide +kernel, by decide +kernel⟩
theorem tabs_ext {Pt : Addr} {H H' : Hp} (t : LamX.Tabs (lamT Pt) H) (e : Same H H') : LamX.Tabs (lamT Pt) H' := fun p hp => (t p hp).ext e
theorem ok_spow {f f1 f2 f3 f4 f5 CS c Pt : Addr} {fd fd1 fd2 fd3 fd4 fd5 : FuncData} (F : Fun K "powers" "Space.powers" sSPow f fd) (M : Mt K CS "points" "Space.points" sSPts f1 fd1 ["self"]) (D2 : Df K mg "tuples_of" sTo f2 fd2 ["prime", "count"])
    (D3 : DfC K mg "ascending" sAsc f3 c fd3 ["order", "powers"]) (D4 : Df K mg "key_of" sKey f4 fd4 ["order", "power"]) (D5 : Df K mg "degree_of" sDeg f5 fd5 ["power"]) (TB : LamX.TabB base mg c Pt) (B : Nms mg) (T : TSp K mg CS) :
    FnOk P w K mg base CX0 7 f fd ["self", "order"] (spSPow CS Pt) := by
  have G1 : FnOk P w K mg base CX0 2 f1 fd1 ["self"] (spSPts CS) := ok_spts M.F D2 B T
  have G3 : FnOk P w K mg base CX0 6 f3 fd3 ["order", "powers"] (spAsc K Pt) := ok_asc D3 D4 D5 B TB
  refine F.ok scSPow (fun vs H Q E h => ?_) (fun cdv A outer s H vs Q E hr h => ?_)
  · obtain ⟨a, p, n, rfl, _⟩ := h
    rfl
  · obtain ⟨a, p, n, rfl, hS, p1, p7, n5, hpn, hT, k⟩ := h
    obtain ⟨dx, nl, ha⟩ := id hS
    refine ⟨_, pss_one (ps_ret (pe_call G3 hr rfl D3.g D3.k D3.b .nil pass0 (pa_cons (pv 1) (pa_cons (pe_meth0 (pv 0) T.cl M.m G1 (hr.mono (by decide)) M.b .nil pass0) pa_nil)))), ?_⟩
    refine ⟨_, rfl, _, rfl, a, dx, _, rfl, ha, sf_no _ _ _ (by decide +kernel) (by decide +kernel) (by decide +kernel), a, p, n + 1, rfl, hS, p1, p7, n5, hpn, fun H2 l xs s2 hl0 hL tp => ?_⟩
    refine ⟨l, xs, _, n, rfl, .of hL, tp, fun m hm => ((mem_tuples p (n + 1) m).mp hm).1, tabs_ext hT s2, fun H' l' ys e T' fr hl' t => ?_⟩
    exact k H' l' ys ((LamX.ExtN.of s2).trans e) T' (fun b o hb hn => fr b o (s2 _ _ hb) hn) hl' t
end
end Gk

set_option maxHeartbeats 4000000
/-! Growth, the walks, part 7: dicts of numbers by powers; from_numbers. -/
namespace Gk
open PySem L2
/-- the pairs of a dict of numbers by powers -/
def kvOf (ns : List (List Int × Int)) : List (List Key × V) := ns.map fun x => (x.1.map Sum.inl, V.int x.2)
def valI (ns : List (List Int × Int)) (m : List Int) : Option Int := (ns.find? fun x => decide (x.1 = m)).map (·.2)
def putI (ns : List (List Int × Int)) (m : List Int) (z : Int) : List (List Int × Int) :=
  if (ns.any fun x => decide (x.1 = m)) = true then ns.map (fun x => if x.1 = m then (x.1, z) else x) else ns ++ [(m, z)]
theorem inl_iff {m m' : List Int} : m.map (Sum.inl : Int → Key) = m'.map Sum.inl ↔ m = m' :=
  ⟨fun h => by
    induction m generalizing m' with
    | nil => cases m' with
      | nil => rfl
      | cons => cases h
    | cons x m ih => cases m' with
      | nil => cases h
      | cons y m' =>
        simp only [List.map_cons, List.cons.injEq, Sum.inl.injEq] at h
        rw [h.1, ih h.2], fun h => by rw [h]⟩
theorem valV_kv (m : List Int) : ∀ ns : List (List Int × Int), valV (kvOf ns) (m.map Sum.inl) = (valI ns m).map V.int
  | [] => rfl
  | x :: ns => by
    have ih := valV_kv m ns
    by_cases e : x.1 = m
    · have e' : ((x.1.map Sum.inl, V.int x.2) : List Key × V).1 = m.map Sum.inl := inl_iff.mpr e
      show valV ((x.1.map Sum.inl, V.int x.2) :: kvOf ns) _ = _
      rw [valV_pos e']
      simp [valI, List.find?_cons, e]
    · have e' : ¬ ((x.1.map Sum.inl, V.int x.2) : List Key × V).1 = m.map Sum.inl := fun z => e (inl_iff.mp z)
      show valV ((x.1.map Sum.inl, V.int x.2) :: kvOf ns) _ = _
      rw [valV_neg e', ih]
      simp [valI, List.find?_cons, e]
theorem any_kv (m : List Int) (ns : List (List Int × Int)) : ((kvOf ns).any fun kv => decide (kv.1 = m.map Sum.inl)) = ns.any fun x => decide (x.1 = m) := by
  unfold kvOf
  rw [List.any_map]
  congr 1
  funext x
  exact decide_eq_decide.mpr inl_iff
theorem putK_kv (ns : List (List Int × Int)) (m : List Int) (z : Int) : putK (kvOf ns) (m.map Sum.inl) (V.int z) = kvOf (putI ns m z) := by
  unfold putK putI
  rw [any_kv]
  split
  · unfold kvOf
    rw [List.map_map, List.map_map]
    refine List.map_congr_left fun x _ => ?_
    by_cases e : x.1 = m
    · have e' : x.1.map (Sum.inl : Int → Key) = m.map Sum.inl := inl_iff.mpr e
      simp [e]
    · have e' : ¬ x.1.map (Sum.inl : Int → Key) = m.map Sum.inl := fun z => e (inl_iff.mp z)
      simp only [Function.comp]
      rw [if_neg e, if_neg e']
  · unfold kvOf
    rw [List.map_append]
    rfl
/-- its keys are powers, each once; its numbers are below p -/
structure NumOk (p n : Nat) (ns : List (List Int × Int)) : Prop where
  nd : (ns.map (·.1)).Nodup
  tu : ∀ x ∈ ns, Tu p n x.1
  lt : ∀ x ∈ ns, 0 ≤ x.2 ∧ x.2 < (p : Int)
theorem NumOk.len {p n : Nat} {ns : List (List Int × Int)} (h : NumOk p n ns) : ns.length ≤ p ^ n := by
  have := nodup_le h.nd (m := tuplesOf p n) fun m hm => by
    obtain ⟨x, hx, rfl⟩ := List.mem_map.mp hm
    exact (mem_tuples p n _).mpr (h.tu x hx)
  rwa [List.length_map, tuples_len] at this
theorem putI_keys (ns : List (List Int × Int)) (m : List Int) (z : Int) : (putI ns m z).map (·.1) = if (ns.any fun x => decide (x.1 = m)) = true then ns.map (·.1) else ns.map (·.1) ++ [m] := by
  unfold putI
  split
  · rw [List.map_map]
    refine List.map_congr_left fun x _ => ?_
    by_cases e : x.1 = m <;> simp [e]
  · rw [List.map_append]
    rfl
theorem putI_mem {ns : List (List Int × Int)} {m : List Int} {z : Int} {x : List Int × Int} (h : x ∈ putI ns m z) : x ∈ ns ∨ x = (m, z) := by
  unfold putI at h
  split at h
  · obtain ⟨y, hy, rfl⟩ := List.mem_map.mp h
    by_cases e : y.1 = m
    · rw [if_pos e, e]; exact .inr rfl
    · rw [if_neg e]; exact .inl hy
  · rcases List.mem_append.mp h with h | h
    · exact .inl h
    · exact .inr (List.mem_singleton.mp h)
theorem NumOk.put {p n : Nat} {ns : List (List Int × Int)} {m : List Int} {z : Int} (h : NumOk p n ns) (hm : Tu p n m) (z0 : 0 ≤ z) (z1 : z < (p : Int)) : NumOk p n (putI ns m z) := by
  refine ⟨?_, fun x hx => ?_, fun x hx => ?_⟩
  · rw [putI_keys]
    split
    · exact h.nd
    · rename_i hn
      refine List.nodup_append.mpr ⟨h.nd, by simp, fun a ha b hb e => hn ?_⟩
      rw [List.mem_singleton.mp hb] at e
      obtain ⟨x, hx, rfl⟩ := List.mem_map.mp ha
      exact List.any_eq_true.mpr ⟨x, hx, by simpa using e⟩
  · rcases putI_mem hx with hx | rfl
    · exact h.tu x hx
    · exact hm
  · rcases putI_mem hx with hx | rfl
    · exact h.lt x hx
    · exact ⟨z0, z1⟩
theorem putI_new {ns : List (List Int × Int)} {m : List Int} {z : Int} (h : m ∉ ns.map (·.1)) : putI ns m z = ns ++ [(m, z)] := by
  unfold putI
  rw [if_neg fun q => h ?_]
  obtain ⟨x, hx, e⟩ := List.any_eq_true.mp q
  exact List.mem_map.mpr ⟨x, hx, of_decide_eq_true e⟩
theorem valI_some {p n : Nat} {ns : List (List Int × Int)} (h : NumOk p n ns) {m : List Int} (hm : m ∈ ns.map (·.1)) : ∃ z, valI ns m = some z ∧ 0 ≤ z ∧ z < (p : Int) := by
  obtain ⟨x, hx, e⟩ := List.mem_map.mp hm
  cases hf : ns.find? fun x => decide (x.1 = m) with
  | none =>
    have := List.find?_eq_none.mp hf x hx
    simp at this
    exact absurd e this
  | some y => exact ⟨y.2, by unfold valI; rw [hf]; rfl, h.lt y (List.mem_of_find?_eq_some hf)⟩
theorem valI_get {p n : Nat} {ns : List (List Int × Int)} (h : NumOk p n ns) (hp : 0 < p) (m : List Int) : 0 ≤ (valI ns m).getD 0 ∧ (valI ns m).getD 0 < (p : Int) := by
  by_cases hm : m ∈ ns.map (·.1)
  · obtain ⟨z, e, h0, h1⟩ := valI_some h hm
    rw [e]
    exact ⟨h0, h1⟩
  · have e : valI ns m = none := by
      unfold valI
      rw [List.find?_eq_none.mpr fun x hx => ?_]
      · rfl
      · intro z
        exact hm (List.mem_map.mpr ⟨x, hx, of_decide_eq_true z⟩)
    rw [e]
    exact ⟨Int.le_refl 0, by show (0 : Int) < p; omega⟩
/-! ### the rules' loops -/
theorem walk_itx {d : Addr} {o : Obj} {kvs : List (List Key × V)} : L2.Walk (Itx d o kvs) kvs.length (fun H => H d = some (.frz o (.dT kvs)))
    (fun i H x H' => ∃ (T q : Addr) (k : List Key) (v : V), kvs[i]? = some (k, v) ∧ H q = some (.tup (k.map kV)) ∧ x = .ref T ∧ H T = none ∧ H' = upd H T (.tup [.ref q, v])) :=
  ⟨fun _ _ hi q => ⟨q, hi⟩, fun _ q => ⟨q, Nat.le_refl _⟩, fun _ _ _ _ _ _ y => y⟩
theorem dcx_it {J : It} {n : Nat} {G : Hp → Prop} {Y : Nat → Hp → V → Hp → Prop} (w : L2.Walk J n G Y) {g : TG} {tt : TT} {tk tv : TE} {vs : List Nat} {σ : L2.St} {H1 : Hp} {D : Addr} {Qd : Hp → Prop} (Pv : Nat → Hp → Prop) (h0 : Pv 0 (upd H1 D (.dT []))) (hG : ∀ i H, i ≤ n → Pv i H → G H)
    (hs : ∀ i x H H', i < n → Pv i H → Y i H x H' → g x (wipe σ vs) H' fun σ2 H2 => wipe σ2 vs = wipe σ vs ∧ tt σ2 H2 fun c H3 =>
      if c = true then tk σ2 H3 fun y H4 => tv σ2 H4 fun z H5 => ∃ (b : Addr) (kvs : List (List Key × V)) (k : List Key), y = .ref b ∧ H5 b = some (.tup (k.map kV)) ∧ H5 D = some (.dT kvs) ∧ kvs.length < sizeLine ∧ Pv (i + 1) (upd H5 D (.dT (putK kvs k z))) else Pv (i + 1) H3) (hd : ∀ H, Pv n H → Qd H) :
    ∃ W : Nat → Nat → Hp → Prop, (∃ m, W 0 m (upd H1 D (.dT []))) ∧ ∀ i m H, W i m H →
      (J.stop i H ∧ Qd H) ∨ (J.go i H ∧ ∃ Nx : Hp → Prop, (∀ H', Nx H' → ∃ m', m' < m ∧ W (i + 1) m' H') ∧ ∀ x H', J.yld i H x H' → g x (wipe σ vs) H' fun σ2 H2 => wipe σ2 vs = wipe σ vs ∧ tt σ2 H2 fun c H3 =>
        if c = true then tk σ2 H3 fun y H4 => tv σ2 H4 fun z H5 => ∃ (b : Addr) (kvs : List (List Key × V)) (k : List Key), y = .ref b ∧ H5 b = some (.tup (k.map kV)) ∧ H5 D = some (.dT kvs) ∧ kvs.length < sizeLine ∧ Nx (upd H5 D (.dT (putK kvs k z))) else Nx H3) := by
  refine ⟨fun i m H => m = n - i ∧ i ≤ n ∧ Pv i H, ⟨n, by simp, Nat.zero_le _, h0⟩, ?_⟩
  rintro i m H ⟨rfl, hi, p⟩
  have q := hG i H hi p
  by_cases hlt : i < n
  · exact .inr ⟨w.goes i H hlt q, Pv (i + 1), fun H' p' => ⟨n - (i + 1), by omega, rfl, hlt, p'⟩, fun x H' y => hs i x H H' hlt p (w.yields i H x H' hlt q y)⟩
  · have e : i = n := by omega
    subst e
    exact .inl ⟨w.stops H q, hd H p⟩
theorem lock_same {H H' : Hp} {d : Addr} {u f : HO} (hd : H d = some u) (s : Same (upd H d f) H') : Same H (upd H' d u) := fun b o e => by
  by_cases hb : b = d
  · rw [hb] at e ⊢
    rw [hd] at e
    rw [upd_same, Option.some.inj e]
  · rw [upd_ne hb]
    exact s b o ((upd_ne hb).trans e)
end Gk

set_option maxHeartbeats 4000000
/-! Growth, the walks, part 8: from_numbers. -/
namespace Gk
open PySem L2
theorem ifB {b : Bool} {A B : Prop} (h1 : A) (h2 : B) : if b = true then A else B := by
  cases b
  · exact iteF h2
  · exact iteT h1
theorem kv_keys (ns : List (List Int × Int)) : (kvOf ns).map (·.1) = (ns.map (·.1)).map fun m => m.map Sum.inl := by
  unfold kvOf
  simp
section
variable {P : Program} {w : World} {K : PySem.W.Frag} {mg : Str → Option Value} {base : Heap}
abbrev sFr : Stmt := top 22
def spFr (CS : Addr) : L2.Sp := fun vs H Q _ => ∃ (sp d : Addr) (p n : Nat) (ns : List (List Int × Int)), vs = [.ref sp, .ref d] ∧ SpAt CS H sp p (n + 1) ∧ 1 ≤ p ∧ p ^ (n + 1) ≤ 5000 ∧ H d = some (.dT (kvOf ns)) ∧ NumOk p (n + 1) ns ∧
  ∀ (H' : Hp) (q : Addr) (xs : List V), Same H H' → H' q = some (.tup xs) → Q (.ref q) H'
theorem scFr : FnScope ["space", "numbers", "rest", "power", "number"] ["space", "numbers"] (defScope sFr) := ⟨rfl, rfl, rfl, by decide +kernel, rfl, by decide +kernel, by decide +kernel⟩
theorem ok_fr {f CS : Addr} {fd : FuncData} (D : Df K mg "from_numbers" sFr f fd ["space", "numbers"]) (B : Nms mg) (T : TSp K mg CS) :
    FnOk P w K mg base CX0 1 f fd ["space", "numbers"] (spFr CS) := by
  refine D.F.ok scFr (fun vs H Q E h => ?_) (fun cdv A outer s H vs Q E hr h => ?_)
  · obtain ⟨sp, d, p, n, ns, rfl, _⟩ := h
    rfl
  · obtain ⟨sp, d, p, n, ns, rfl, hS, p1, hpn, hd, ok, k⟩ := h
    have hu := hu_of hr
    have hu64 := hr.units
    refine ⟨_, pss_cons (ps_set (i := 2) scFr.nd rfl (Or.inr rfl) (pe_lock (pe_dcx (own := [("power", 3), ("number", 4)]) (g := gTup K 2 (gCons (gName 3) (gCons (gName 4) gNil))) (tt := tYes) (tv := tOp _ _ (tFld K _ _)) (Nat.lt_of_succ_lt hu) rfl scFr.nd (pi_itx (pv 1))
        (blkOk_by (N := ["space", "numbers", "rest", "power", "number"]) (sc := defScope sFr) (by decide +kernel)) (fun _ _ _ _ _ => pg_tup rfl (pgs_cons (pg_name (i := 3) scFr.nd rfl (Or.inl rfl)) (pgs_cons (pg_name (i := 4) scFr.nd rfl (Or.inl rfl)) pgs_nil)))
        (fun _ _ _ _ _ => pts_nil) (fun _ _ _ _ _ => pv 3) (fun _ _ _ _ _ => pe_op op_mod (pv 4) (pe_fld (pv 0) rfl)))))
      (pss_one (ps_ret (pe_callTy call_tuple_of (by rfl) B.tuple (by decide +kernel) (pa_cons
        (pe_lc (own := [("power", 3)]) (g := gName 3) rfl scFr.nd (pi_list (pe_callBK (cr_sortDT hu64 rfl) (by rfl) B.sorted (by decide +kernel) (pa_cons (pv 2) pa_nil) (pk_cons pe_bl pk_nil)))
          (blkOk_by (N := ["space", "numbers", "rest", "power", "number"]) (sc := defScope sFr) (by decide +kernel)) (fun _ _ _ _ _ => pg_name (i := 3) scFr.nd rfl (Or.inl rfl))
          (fun _ _ _ _ _ => pts_one (pt_cmpR op_ne (pe_dget hu (pv 2) (pv 3) (fun _ _ => rfl)) pe_int (nomark _)))
          (fun _ _ _ _ _ => pe_tup (pa_cons (pv 3) (pa_cons (pe_dget hu (pv 2) (pv 3) (fun _ _ => rfl)) pa_nil)))) pa_nil)))), ?_⟩
    let f : List Int × Int → List Int × Int := fun x => (x.1, x.2 % (p : Int))
    have pos : 0 < p := p1
    have okf : ∀ i, NumOk p (n + 1) ((ns.take i).map f) := fun i => by
      refine ⟨?_, fun x hx => ?_, fun x hx => ?_⟩
      · rw [List.map_map]
        exact (List.take_sublist i ns).map (·.1) |>.nodup ok.nd
      · obtain ⟨y, hy, rfl⟩ := List.mem_map.mp hx
        exact ok.tu y (List.mem_of_mem_take hy)
      · obtain ⟨y, hy, rfl⟩ := List.mem_map.mp hx
        exact ⟨Int.emod_nonneg _ (by omega), Int.emod_lt_of_pos _ (by omega)⟩
    have hlen := ok.len
    -- rest
    refine ⟨d, .dT (kvOf ns), hd, trivial, fun od => ?_⟩
    refine ⟨_, rfl, d, od, _, rfl, upd_same, fun D hD => ?_⟩
    refine dcx_it walk_itx (fun i H2 => Same (upd H d (.frz od (.dT (kvOf ns)))) H2 ∧ H2 D = some (.dT (kvOf ((ns.take i).map f)))) ⟨(Same.refl _).upd_new1 hD, upd_same⟩ (fun i H2 _ h => h.1 _ _ upd_same) ?_ ?_
    · rintro i x H2 H3 hi ⟨s2, hA⟩ ⟨T', q, kk, v, hk, hq, rfl, hT, rfl⟩
      obtain ⟨x, hx, e⟩ := getMap hk
      cases e
      have s3 : Same (upd H d (.frz od (.dT (kvOf ns)))) (upd H2 T' (.tup [.ref q, .int x.2])) := s2.upd_new1 hT
      obtain ⟨dx, nl, h1⟩ := hS
      have h1' := s3 sp _ ((upd_ne (ne_of h1 hd (by intro z; cases z))).trans h1)
      refine ⟨T', _, rfl, .of upd_same, rfl, _, _, rfl, _, _, rfl, rfl, rfl, ?_⟩
      have hDn : D ≠ T' := ne_of_none hA hT
      refine ⟨_, rfl, _, rfl, _, rfl, sp, CS, dx, _, _, rfl, h1', T.cl, T.nP, sf_prime _ _ _, _, _, rfl, rfl, (by show (0 : Int) < p; omega), ?_⟩
      refine ⟨q, _, _, rfl, (upd_ne (ne_of_none hq hT)).trans hq, (upd_ne hDn).trans hA, ?_, fun b o e => ?_, ?_⟩
      · have := (okf i).len
        unfold kvOf
        rw [List.length_map]
        exact line_lt (by omega)
      · rw [upd_ne (ne_of_none e hD)]
        exact s3 _ _ e
      · rw [upd_same, putK_kv, putI_new, take_snoc hx, List.map_append]
        · rfl
        · rw [List.map_map]
          intro hm
          obtain ⟨y, hy, e⟩ := List.mem_map.mp hm
          obtain ⟨j, hj, ej⟩ := List.getElem_of_mem hy
          rw [List.getElem_take] at ej
          rw [List.length_take] at hj
          have hnd := ok.nd
          obtain ⟨hi', ei⟩ := List.getElem?_eq_some_iff.mp hx
          have e1 : (ns.map (·.1))[j]'(by rw [List.length_map]; omega) = (ns.map (·.1))[i]'(by rw [List.length_map]; omega) := by
            rw [List.getElem_map, List.getElem_map, ej, ei]
            exact e
          have := (List.getElem_inj hnd).mp e1
          omega
    · rintro H2 ⟨s2, hA⟩
      refine ⟨s2 _ _ upd_same, ?_⟩
      have s3 : Same H (upd H2 d (.dT (kvOf ns))) := lock_same hd s2
      have hlk : (kvOf ns).length = ns.length := by unfold kvOf; rw [List.length_map]
      have hDd : D ≠ d := fun z => by rw [z, upd_same] at hD; cases hD
      have hA' : (upd H2 d (.dT (kvOf ns))) D = some (.dT (kvOf (ns.map f))) := by
        rw [upd_ne hDd, hA, hlk, List.take_length]
      have okr : NumOk p (n + 1) (ns.map f) := by
        have := okf ns.length
        rwa [List.take_length] at this
      generalize upd H2 d (.dT (kvOf ns)) = H3 at s3 hA'
      refine ⟨_, rfl, D, _, (ns.map f).map (·.1), n, rfl, rfl, hA', kv_keys _, fun m hm => ?_, fun ys q hl hys hq => ?_⟩
      · obtain ⟨x, hx, rfl⟩ := List.mem_map.mp hm
        exact (okr.tu x hx).1
      refine ⟨q, rfl, ⟨_, .of upd_same⟩, fun D2 hD2 => ?_⟩
      refine lc_it (walk_list (xs := ys)) (fun i H4 => Same (upd H3 q (.lst ys)) H4 ∧ ∃ acc, H4 D2 = some (.lst acc) ∧ acc.length ≤ i) ⟨(Same.refl _).upd_new1 hD2, [], upd_same, Nat.le_refl _⟩ (fun i H4 _ h => .of (h.1 _ _ upd_same)) ?_ ?_
      · rintro i x H4 H5 hi ⟨s4, acc, hacc, hla⟩ ⟨rfl, hx⟩
        obtain ⟨r, m, rfl, hr3, hm⟩ := hys x (mem_of_get hx)
        have s5 : Same H3 H5 := ((Same.refl H3).upd_new1 hq).trans s4
        have hr5 := s5 _ _ hr3
        have hD5 := s5 _ _ hA'
        obtain ⟨z, hz, _⟩ := valI_some okr hm
        have hg : DGet H5 D (.ref r) (some (.int z)) := by
          have := DGet.t (k := m.map Sum.inl) hD5 (by rw [kV_ints]; exact hr5)
          rwa [valV_kv, hz] at this
        have hsz : acc.length < sizeLine := by
          have : ys.length ≤ 5000 := by
            rw [hl]
            unfold kvOf
            rw [List.length_map, List.length_map]
            omega
          exact line_lt (by omega)
        refine ⟨rfl, _, rfl, _, rfl, D, _, rfl, hg, rfl, _, rfl, ifB ?_ ⟨s4, acc, hacc, by omega⟩⟩
        refine ⟨_, rfl, _, rfl, _, rfl, D, _, rfl, hg, by show 2 ≤ sizeLine; exact line_big (by decide), fun t ht => ?_⟩
        refine ⟨acc, (upd_ne (ne_of_none hacc ht)).trans hacc, hsz, fun b o e => ?_, _, upd_same, by rw [List.length_append]; exact Nat.succ_le_succ hla⟩
        rw [upd_ne (ne_of_none e hD2), upd_ne (ne_of_none (s4 _ _ e) ht)]
        exact s4 _ _ e
      · rintro H4 ⟨s4, acc, hacc, hla⟩
        refine ⟨D2, acc, rfl, .inl ⟨.of hacc, fun t ht => ?_⟩⟩
        exact k _ t acc (s3.trans ((((Same.refl H3).upd_new1 hq).trans s4).upd_new1 ht)) upd_same
end
end Gk

set_option maxHeartbeats 4000000
/-! Growth, the walks, part 9: Rows, its making, lessened. -/
namespace Gk
open PySem L2
/-- the attributes of a Rows -/
def rflds (sp pl rl : Addr) : List (Str × V) := putF "rows" (.ref rl) (putF "points" (.ref pl) (putF "space" (.ref sp) []))
theorem rf_rows (sp pl rl : Addr) : (rflds sp pl rl).lookup ("rows" : Str) = some (.ref rl) := by
  unfold rflds
  rw [lookup_putF, if_pos rfl]
theorem rf_points (sp pl rl : Addr) : (rflds sp pl rl).lookup ("points" : Str) = some (.ref pl) := by
  unfold rflds
  rw [lookup_putF, if_neg (by decide +kernel), lookup_putF, if_pos rfl]
theorem rf_space (sp pl rl : Addr) : (rflds sp pl rl).lookup ("space" : Str) = some (.ref sp) := by
  unfold rflds
  rw [lookup_putF, if_neg (by decide +kernel), lookup_putF, if_neg (by decide +kernel), lookup_putF, if_pos rfl]
theorem rf_no (sp pl rl : Addr) {m : Str} (h1 : ¬ m = "rows") (h2 : ¬ m = "points") (h3 : ¬ m = "space") : (rflds sp pl rl).lookup m = none := by
  unfold rflds
  rw [lookup_putF, if_neg h1, lookup_putF, if_neg h2, lookup_putF, if_neg h3]
  rfl
def RwAt (CR : Addr) (H : Hp) (a sp pl rl : Addr) : Prop := ∃ dx, H a = some (.ins CR dx (rflds sp pl rl))
/-- the class Rows -/
structure TRw (K : PySem.W.Frag) (mg : Str → Option Value) (C : Addr) : Prop where
  cl : Cls K C
  nS : NoAttr K C "space"
  nP : NoAttr K C "points"
  nR : NoAttr K C "rows"
  g : mg "Rows" = some (.ref C)
/-- a row: its place, its values, its numbers -/
abbrev RowT := LRow × List (List Int × Int)
def RowV (G H : Hp) (x : V) (r : RowT) : Prop := ∃ t a d, x = .ref t ∧ H t = some (.tup [.int (r.1.1 : Nat), .ref a, .ref d]) ∧ H a = some (.lst (r.1.2.map V.int)) ∧ H d = some (.dT (kvOf r.2)) ∧ G a = none
structure RowOk' (p n N : Nat) (r : RowT) : Prop where
  at' : r.1.1 < N
  len : r.1.2.length = N
  ins : In p r.1.2
  num : NumOk p n r.2
def RowsAt (G H : Hp) (rl : Addr) (rws : List RowT) : Prop := ∃ xs, H rl = some (.lst xs) ∧ Paired (RowV G H) xs rws
theorem RowV.same {G H H' : Hp} {x : V} {r : RowT} (v : RowV G H x r) (e : Same H H') : RowV G H' x r :=
  let ⟨t, a, d, h0, h1, h2, h3, h4⟩ := v; ⟨t, a, d, h0, e _ _ h1, e _ _ h2, e _ _ h3, h4⟩
theorem RowsAt.same {G H H' : Hp} {rl : Addr} {rws : List RowT} (v : RowsAt G H rl rws) (e : Same H H') : RowsAt G H' rl rws :=
  let ⟨xs, h1, h2⟩ := v; ⟨xs, e _ _ h1, Paired.mapP h2 fun _ _ q => q.same e⟩
/-- all but the list of the rows -/
def But (rl : Addr) (H H' : Hp) : Prop := ∀ b o, H b = some o → b ≠ rl → H' b = some o
/-- all but the lists that G tracks -/
def MutL (G H H' : Hp) : Prop := ∀ b o, H b = some o → (∀ ys, o = .lst ys → G b = none) → H' b = some o
theorem But.mutL {G H H' : Hp} {rl : Addr} {ys : List V} (e : But rl H H') (hl : H rl = some (.lst ys)) (g : G rl ≠ none) : MutL G H H' := fun b o h q => e b o h fun z => by
  rw [z, hl] at h
  exact g (by rw [← z]; exact q ys (Option.some.inj h).symm)
theorem MutL.trans {G H H1 H2 : Hp} (a : MutL G H H1) (b : MutL G H1 H2) : MutL G H H2 := fun c o h q => b c o (a c o h q) q
theorem MutL.of {G H H' : Hp} (a : Same H H') : MutL G H H' := fun c o h _ => a c o h
theorem MutL.upd {G H : Hp} {b : Addr} {xs : List V} (o : HO) (hb : H b = some (.lst xs)) (g : G b ≠ none) : MutL G H (upd H b o) := fun c u h q => by
  rw [upd_ne fun z => g (by rw [← z]; rw [z, hb] at h; exact q xs (Option.some.inj h).symm)]
  exact h
theorem RowV.mut {G H H' : Hp} {x : V} {r : RowT} (v : RowV G H x r) (e : MutL G H H') : RowV G H' x r :=
  let ⟨t, a, d, h0, h1, h2, h3, h4⟩ := v; ⟨t, a, d, h0, e _ _ h1 (fun _ z => nomatch z), e _ _ h2 (fun _ _ => h4), e _ _ h3 (fun _ z => nomatch z), h4⟩
theorem Tps.mut {G H H' : Hp} {xs : List V} {ms : List (List Int)} (t : Tps H xs ms) (e : MutL G H H') : Tps H' xs ms :=
  Paired.mapP t fun _ _ ⟨a, h1, h2⟩ => ⟨a, h1, e _ _ h2 fun _ z => nomatch z⟩
theorem paired_at {α β : Type} {F : α → β → Prop} {xs : List α} {ys : List β} (t : Paired F xs ys) {i : Nat} {x : α} (h : xs[i]? = some x) : ∃ y, ys[i]? = some y ∧ F x y := by
  induction t generalizing i with
  | nil => simp at h
  | cons r t ih =>
    cases i with
    | zero =>
      simp at h
      exact ⟨_, rfl, by rw [← h]; exact r⟩
    | succ i => exact ih (by simpa using h)
theorem paired_len {α β : Type} {F : α → β → Prop} {xs : List α} {ys : List β} (t : Paired F xs ys) : xs.length = ys.length := by
  induction t with
  | nil => rfl
  | cons r t ih => rw [List.length_cons, List.length_cons, ih]
theorem get_int {l : List Int} {i : Nat} (h : i < l.length) : (l.map V.int)[i]? = some (V.int (l.getD i 0)) := by
  rw [List.getElem?_map, List.getElem?_eq_getElem h, getD_lt l 0 h]
  rfl
theorem clL_snoc {p : Int} {rws : List RowT} {i : Nat} {r : RowT} (h : rws[i]? = some r) (v : List Int) : clL p ((rws.take (i + 1)).map (·.1)) v = clStep p (clL p ((rws.take i).map (·.1)) v) r.1 := by
  rw [take_snoc h, List.map_append]
  unfold clL
  rw [List.foldl_append]
  rfl
theorem zipWith_zip (f : Int → Int → Int) : ∀ (a b : List Int), List.zipWith f a b = (a.zip b).map fun x => f x.1 x.2
  | [], _ => by simp
  | _ :: _, [] => by simp
  | x :: a, y :: b => by simp [zipWith_zip f a b]
theorem getD_int (o : Option Int) : (o.map V.int).getD (V.int 0) = V.int (o.getD 0) := by cases o <;> rfl
abbrev sRIni : Stmt := inClass (top 24) 0
abbrev sRLess : Stmt := inClass (top 24) 1
abbrev sRKeep : Stmt := inClass (top 24) 2
abbrev sRTake : Stmt := inClass (top 24) 3
section
variable {P : Program} {w : World} {K : PySem.W.Frag} {mg : Str → Option Value} {base : Heap}
def spRIni (CR : Addr) : L2.Sp := fun vs H Q _ => ∃ (a dx sp pl : Addr), vs = [.ref a, .ref sp, .ref pl] ∧ H a = some (.ins CR dx []) ∧
  ∀ (H' : Hp) (rl : Addr), H rl = none → (∀ b o, H b = some o → b ≠ a → H' b = some o) → RwAt CR H' a sp pl rl → H' rl = some (.lst []) → Q .non H'
theorem scRIni : FnScope ["self", "space", "points"] ["self", "space", "points"] (defScope sRIni) := ⟨rfl, rfl, rfl, by decide +kernel, rfl, by decide +kernel, by decide +kernel⟩
theorem ok_rini {f CR : Addr} {fd : FuncData} (F : Fun K "__init__" "Rows.__init__" sRIni f fd) (T : TRw K mg CR) : FnOk P w K mg base CX0 1 f fd ["self", "space", "points"] (spRIni CR) := by
  refine F.ok scRIni (fun vs H Q E h => ?_) (fun cdv A outer s H vs Q E hr h => ?_)
  · obtain ⟨a, dx, sp, pl, rfl, _⟩ := h
    rfl
  · obtain ⟨a, dx, sp, pl, rfl, ha, k⟩ := h
    refine ⟨_, pss_cons (ps_fld (pv 0) (pv 1) rfl) (pss_cons (ps_fld (pv 0) (pv 2) rfl) (pss_one (ps_fld (pv 0) (pe_lst pa_nil) rfl))), ?_⟩
    refine ⟨_, rfl, _, rfl, a, CR, dx, _, rfl, ha, T.cl, T.nS, (by show 0 < 1000; decide), ?_⟩
    refine ⟨_, rfl, _, rfl, a, CR, dx, _, rfl, upd_same, T.cl, T.nP, (by show 1 < 1000; decide), ?_⟩
    refine ⟨Nat.zero_le _, fun l hl => ?_⟩
    have nal : a ≠ l := ne_of_none upd_same hl
    refine ⟨_, rfl, a, CR, dx, _, rfl, Eq.trans (upd_ne nal) upd_same, T.cl, T.nR, (by show 2 < 1000; decide), ?_⟩
    have hl0 : H l = none := by
      rw [upd_ne nal.symm, upd_ne nal.symm] at hl
      exact hl
    refine k _ l hl0 (fun b o e hb => ?_) ⟨dx, upd_same⟩ ?_
    · rw [upd_ne hb, upd_ne (ne_of_none e hl0), upd_ne hb, upd_ne hb]
      exact e
    · rw [upd_ne nal.symm, upd_same]
def spLess (CS CR : Addr) : L2.Sp := fun vs H Q _ => ∃ (G H0 : Hp) (a sp pl rl v d : Addr) (p n c N : Nat) (rws : List RowT) (vals : List Int) (ns : List (List Int × Int)), vs = [.ref a, .ref v, .ref d] ∧ Same H0 H ∧ H0 d = none ∧ H0 v = none ∧ RwAt CR H0 a sp pl rl ∧ SpAt CS H0 sp p c ∧ RowsAt G H0 rl rws ∧
  (∀ r ∈ rws, RowOk' p n N r) ∧ 2 ≤ p ∧ p ≤ 7 ∧ p ^ n ≤ 5000 ∧ N ≤ 5000 ∧ H v = some (.lst (vals.map V.int)) ∧ vals.length = N ∧ In p vals ∧ H d = some (.dT (kvOf ns)) ∧ NumOk p n ns ∧
  ∀ (H' : Hp) (t v' : Addr) (ns' : List (List Int × Int)), Same H0 H' → H0 v' = none → H' t = some (.tup [.ref v', .ref d]) → H' v' = some (.lst ((clL p (rws.map (·.1)) vals).map V.int)) → H' d = some (.dT (kvOf ns')) → NumOk p n ns' → Q (.ref t) H'
theorem scLess : FnScope ["self", "values", "numbers", "prime", "at", "row", "parts", "factor", "power", "here", "there"] ["self", "values", "numbers"] (defScope sRLess) := ⟨rfl, rfl, rfl, by decide +kernel, rfl, by decide +kernel, by decide +kernel⟩
theorem ok_less {f CS CR : Addr} {fd : FuncData} (F : Fun K "lessened" "Rows.lessened" sRLess f fd) (B : Nms mg) (T : TSp K mg CS) (U : TRw K mg CR) :
    FnOk P w K mg base CX0 1 f fd ["self", "values", "numbers"] (spLess CS CR) := by
  refine F.ok scLess (fun vs H Q E h => ?_) (fun cdv A outer s H vs Q E hr h => ?_)
  · obtain ⟨G, H0, a, sp, pl, rl, v, d, p, n, c, N, rws, vals, ns, rfl, _⟩ := h
    rfl
  · obtain ⟨G, H0, a, sp, pl, rl, v, d, p, n, c, N, rws, vals, ns, rfl, s0, d0, v0, hR, hS, hW, hok, p2, p7, hpn, hN, hv, hvl, hvi, hd, okn, k⟩ := h
    have hu := hu_of hr
    refine ⟨_, pss_cons (ps_set (i := 3) scLess.nd rfl (Or.inr rfl) (pe_fld (pe_fld (pv 0) rfl) rfl))
      (pss_cons (ps_for PassesOwn.never rfl (pi_list (pe_fld (pv 0) rfl)) (pg_tup rfl (pgs_cons (pg_name (i := 4) scLess.nd rfl (Or.inl rfl)) (pgs_cons (pg_name (i := 5) scLess.nd rfl (Or.inl rfl)) (pgs_cons (pg_name (i := 6) scLess.nd rfl (Or.inl rfl)) pgs_nil))))
        (pss_cons (ps_set (i := 7) scLess.nd rfl (Or.inr rfl) (pe_ix ix_list (pv 1) (pv 4) (fun _ _ => rfl)))
        (pss_one (ps_if (pt_cmpR op_ne (pv 7) pe_int (nomark _))
          (pss_cons (ps_setLc (i := 1) (own := [("here", 9), ("there", 10)]) (g := gTup K 2 (gCons (gName 9) (gCons (gName 10) gNil))) (tt := tYes) rfl scLess.nd rfl rfl (sw_true rfl rfl rfl (by decide +kernel)) (pi_zip (by rfl) B.zip (pa_cons (pv 1) (pa_cons (pv 5) pa_nil)))
              (blkOk_by (N := ["self", "values", "numbers", "prime", "at", "row", "parts", "factor", "power", "here", "there"]) (sc := defScope sRLess) (by decide +kernel)) (fun _ _ _ _ _ => pg_tup rfl (pgs_cons (pg_name (i := 9) scLess.nd rfl (Or.inl rfl)) (pgs_cons (pg_name (i := 10) scLess.nd rfl (Or.inl rfl)) pgs_nil)))
              (fun _ _ _ _ _ => pts_nil) (fun _ _ _ _ _ => pe_op op_mod (pe_op op_sub (pv 9) (pe_op op_mul (pv 7) (pv 10))) (pv 3)))
          (pss_one (ps_lock (ps_for PassesOwn.never rfl (pi_keys (pv 6)) (pg_name (i := 8) scLess.nd rfl (Or.inl rfl))
            (pss_one (ps_dput hu (pv 2) (pv 8) (pe_op op_mod (pe_op op_sub (pe_dget2 hu (pv 2) (pv 8) pe_int ⟨rfl, rfl, rfl, rfl⟩) (pe_op op_mul (pv 7) (pe_dget hu (pv 6) (pv 8) (fun _ _ => rfl)))) (pv 3)) rfl))))))
          pss_nil))))
      (pss_one (ps_ret (pe_tup (pa_cons (pv 1) (pa_cons (pv 2) pa_nil)))))), ?_⟩
    obtain ⟨dxR, hR'⟩ := hR
    obtain ⟨dxS, nl, hS'⟩ := hS
    obtain ⟨xs, hxs, pr⟩ := hW
    have hpp : (0 : Int) < p := by omega
    have lok : ∀ i, LOk p N ((rws.take i).map (·.1)) := fun i => by
      have g : ∀ r ∈ (rws.take i).map (·.1), ∃ q ∈ rws, r = q.1 := fun r hr => by
        obtain ⟨q, hq, rfl⟩ := List.mem_map.mp hr
        exact ⟨q, List.mem_of_mem_take hq, rfl⟩
      refine ⟨fun r hr => ?_, fun r hr => ?_, fun r hr => ?_⟩ <;> obtain ⟨q, hq, rfl⟩ := g r hr
      · exact (hok q hq).len
      · exact (hok q hq).ins
      · exact (hok q hq).at'
    refine ⟨_, rfl, a, CR, dxR, _, _, rfl, s0 _ _ hR', U.cl, U.nS, rf_space _ _ _, sp, CS, dxS, _, _, rfl, s0 _ _ hS', T.cl, T.nP, sf_prime _ _ _, ?_⟩
    refine ⟨_, rfl, a, CR, dxR, _, _, rfl, s0 _ _ hR', U.cl, U.nR, rf_rows _ _ _, rl, rfl, ⟨_, .of (s0 _ _ hxs)⟩, for_list (K := K) (a := rl) (xs := xs) (fun i σ H2 => ∃ (v' : Addr) (ns' : List (List Int × Int)) (x4 x5 x6 x7 x8 : Option V),
        σ = [some (.ref a), some (.ref v'), some (.ref d), some (.int p), x4, x5, x6, x7, x8, none, none] ∧ Same H0 H2 ∧ H0 v' = none ∧ H2 v' = some (.lst ((clL p ((rws.take i).map (·.1)) vals).map V.int)) ∧ H2 d = some (.dT (kvOf ns')) ∧ NumOk p n ns')
      ⟨v, ns, none, none, none, none, none, rfl, s0, v0, hv, hd, okn⟩ (fun i σ H2 _ ⟨_, _, _, _, _, _, _, _, s2, _⟩ => .of (s2 _ _ hxs)) ?_ ?_⟩
    · rintro i x σ H2 hi ⟨v', ns', x4, x5, x6, x7, x8, rfl, s2, v'0, hv', hd', okn'⟩
      obtain ⟨r, hr, t, a', e', rfl, ht, ha', he', _⟩ := paired_at pr hi
      have hok' := hok r (mem_of_get hr)
      obtain ⟨cl1, cl2, _⟩ := clL_ok hpp (lok i) hvl hvi
      rw [clL_snoc hr]
      generalize clL p ((rws.take i).map (·.1)) vals = cur at hv' cl1 cl2
      have hat : r.1.1 < cur.length := by rw [cl1]; exact hok'.at'
      have hfin := cl2 _ (by rw [getD_lt cur 0 hat]; exact List.getElem_mem hat : cur.getD r.1.1 0 ∈ cur)
      refine ⟨t, _, rfl, .of (s2 _ _ ht), rfl, _, _, rfl, _, _, rfl, _, _, rfl, rfl, ?_⟩
      refine ⟨_, rfl, _, rfl, v', _, _, _, rfl, rfl, .of hv', atI_nat (j := r.1.1) (get_int hat), ?_⟩
      generalize hfe : cur.getD r.1.1 0 = fc at hfin
      refine ⟨_, rfl, rfl, _, rfl, ?_⟩
      by_cases hf : fc = 0
      · refine iteE (by simp [hf]) ?_
        have e : clStep p cur r.1 = cur := by
          unfold clStep
          rw [hfe, if_neg (by simp [hf])]
        rw [e]
        exact ⟨v', ns', _, _, _, _, _, rfl, s2, v'0, hv', hd', okn'⟩
      · refine iteI (by simp [hf]) ?_
        have e : clStep p cur r.1 = (cur.zip r.1.2).map fun x => (x.1 - fc * x.2) % (p : Int) := by
          unfold clStep
          rw [hfe, if_pos hf, zipWith_zip]
        rw [e]
        have hmin : (cur.zip r.1.2).length = min (cur.map V.int).length (r.1.2.map V.int).length := by simp
        refine ⟨_, rfl, _, rfl, v', a', _, _, rfl, .of hv', .of (s2 _ _ ha'), fun D hD => ?_⟩
        refine lc_it (walk_zip hmin) (fun j H3 => Same H2 H3 ∧ H3 D = some (.lst (((cur.zip r.1.2).take j).map fun x => V.int ((x.1 - fc * x.2) % (p : Int))))) ⟨(Same.refl _).upd_new1 hD, upd_same⟩ (fun j H3 _ h => ⟨.of (h.1 _ _ hv'), .of (h.1 _ _ (s2 _ _ ha'))⟩) ?_ ?_
        · rintro j x H3 H4 hj ⟨s3, hA⟩ ⟨T', x1, y1, rfl, hT, rfl, g1, g2⟩
          obtain ⟨c1, e1, hce, rfl, rfl⟩ := zip_get g1 g2
          refine ⟨T', _, rfl, .of upd_same, rfl, ?_⟩
          refine ⟨_, _, rfl, _, _, rfl, rfl, rfl, ?_⟩
          refine ⟨_, rfl, _, rfl, _, rfl, _, _, rfl, rfl, .inl ⟨by omega, by omega⟩, _, _, rfl, rfl, _, rfl, _, _, rfl, rfl, hpp, ?_⟩
          refine ⟨_, (upd_ne (ne_of_none hA hT)).trans hA, ?_, fun b o e => ?_, ?_⟩
          · rw [List.length_map, List.length_take]
            have : (cur.zip r.1.2).length ≤ 5000 := by
              rw [List.length_zip]
              omega
            exact line_lt (by omega)
          · rw [upd_ne (ne_of_none e hD), upd_ne (ne_of_none (s3 _ _ e) hT)]
            exact s3 _ _ e
          · rw [upd_same, take_snoc hce, List.map_append]
            rfl
        · rintro H3 ⟨s3, hA⟩
          rw [List.take_length] at hA
          have hA' : H3 D = some (.lst (((cur.zip r.1.2).map fun x => (x.1 - fc * x.2) % (p : Int)).map V.int)) := by
            rw [hA, List.map_map]
            rfl
          have D0 : H0 D = none := s2.free hD
          have s03 : Same H0 H3 := s2.trans s3
          have he3 := s03 _ _ he'
          have nDe : D ≠ e' := ne_of hA' he3 (by intro z; cases z)
          have nde : d ≠ e' := fun z => by rw [z, he'] at d0; cases d0
          refine ⟨e', .dT (kvOf r.2), he3, trivial, fun od => ?_⟩
          have sF : Same (upd H0 e' (.frz od (.dT (kvOf r.2)))) (upd H3 e' (.frz od (.dT (kvOf r.2)))) := fun b o q => by
            by_cases hb : b = e'
            · rw [hb] at q ⊢
              rw [upd_same] at q ⊢
              exact q
            · rw [upd_ne hb] at q ⊢
              exact s03 _ _ q
          refine ⟨_, rfl, e', od, rfl, .inr ⟨_, upd_same, for_it walk_keysT (fun j σ H4 => ∃ (ns4 : List (List Int × Int)) (y8 : Option V),
              σ = [some (.ref a), some (.ref D), some (.ref d), some (.int p), some (.int (r.1.1 : Nat)), some (.ref a'), some (.ref e'), some (.int fc), y8, none, none] ∧
              Same (upd H0 e' (.frz od (.dT (kvOf r.2)))) H4 ∧ H4 D = some (.lst (((cur.zip r.1.2).map fun x => (x.1 - fc * x.2) % (p : Int)).map V.int)) ∧ H4 d = some (.dT (kvOf ns4)) ∧ NumOk p n ns4)
            ⟨ns', _, rfl, sF, (upd_ne nDe).trans hA', (upd_ne nde).trans (s3 _ _ hd'), okn'⟩ (fun j σ H4 _ ⟨_, _, _, s4, _⟩ => s4 _ _ upd_same) ?_ ?_⟩⟩
          · rintro j x σ H4 H5 hj ⟨ns4, y8, rfl, s4, hD4, hd4, ok4⟩ ⟨rfl, kk, vv, q, hkv, rfl, hq⟩
            obtain ⟨xx, hxx, ee⟩ := getMap hkv
            cases ee
            have hz := hok'.num.lt xx (mem_of_get hxx)
            have htu := hok'.num.tu xx (mem_of_get hxx)
            obtain ⟨z, hzv, z0, z1⟩ := valI_some hok'.num (List.mem_map.mpr ⟨xx, mem_of_get hxx, rfl⟩)
            have hb4 := valI_get ok4 (by omega) xx.1
            have g1 : DGet H5 d (.ref q) ((valI ns4 xx.1).map V.int) := by
              have := DGet.t (k := xx.1.map Sum.inl) hd4 hq
              rwa [valV_kv] at this
            have g2 : DGet H5 e' (.ref q) (some (.int z)) := .inr ⟨kvOf r.2, xx.1.map Sum.inl, q, .inr ⟨od, s4 _ _ upd_same⟩, rfl, hq, by rw [valV_kv, hzv]; rfl⟩
            have hl4 := ok4.len
            refine ⟨_, rfl, d, rfl, .inr ⟨_, .inl hd4⟩, _, rfl, _, g1, _, rfl, _, rfl, _, rfl, e', _, rfl, g2, _, _, rfl, rfl, .inl ⟨by omega, by omega⟩, _, _, getD_int _, rfl, _, rfl, _, _, rfl, rfl, hpp, ?_⟩
            refine ⟨_, rfl, _, rfl, d, _, rfl, DPut.t (k := xx.1.map Sum.inl) hd4 hq (by unfold kvOf; rw [List.length_map]; exact line_lt (by omega)), ?_⟩
            refine ⟨putI ns4 xx.1 (((valI ns4 xx.1).getD 0 - fc * z) % (p : Int)), _, rfl, fun b o q => ?_, ?_, ?_, ok4.put htu (Int.emod_nonneg _ (by omega)) (Int.emod_lt_of_pos _ hpp)⟩
            · have nbd : b ≠ d := fun w => by
                rw [w, upd_ne nde, d0] at q
                cases q
              rw [upd_ne nbd]
              exact s4 _ _ q
            · rw [upd_ne (ne_of hD4 hd4 (by intro z; cases z))]
              exact hD4
            · rw [upd_same, putK_kv]
          · rintro σ H4 ⟨ns4, y8, rfl, s4, hD4, hd4, ok4⟩
            refine ⟨s4 _ _ upd_same, ?_⟩
            exact ⟨D, ns4, _, _, _, _, _, rfl, lock_same he' s4, D0, (upd_ne nDe).trans hD4, (upd_ne nde).trans hd4, ok4⟩
    · rintro σ H2 ⟨v', ns', x4, x5, x6, x7, x8, rfl, s2, v'0, hv', hd', okn'⟩
      rw [paired_len pr, List.take_length] at hv'
      refine ⟨_, rfl, _, rfl, by show 2 ≤ sizeLine; exact line_big (by decide), fun t ht => ?_⟩
      exact k _ t v' ns' (s2.upd_new1 ht) v'0 upd_same ((upd_ne (ne_of_none hv' ht)).trans hv') ((upd_ne (ne_of_none hd' ht)).trans hd') okn'
end
end Gk

set_option maxHeartbeats 4000000
/-! Growth, the walks, part 10: Rows.keep. -/
namespace Gk
open PySem L2
theorem first_nz {v : List Int} {k : Nat} (h : fnz v = some k) : ((List.range v.length).filter fun j => v.getD j 0 != 0)[0]? = some k := by
  obtain ⟨h1, h2, h3⟩ := fnz_some h
  rw [← List.head?_eq_getElem?, List.head?_filter, List.find?_range_eq_some]
  refine ⟨by simpa [vec] using h2, List.mem_range.mpr h1, fun j hj => ?_⟩
  have := h3 j hj
  unfold vec at this
  simp only [bne, Bool.not_not, beq_iff_eq]
  exact this
section
variable {P : Program} {w : World} {K : PySem.W.Frag} {mg : Str → Option Value} {base : Heap}
/-- the numbers of a new row -/
def scaledN (p : Int) (ns : List (List Int × Int)) (f : Int) : List (List Int × Int) := ns.map fun x => (x.1, x.2 * f % p)
def spKeep (CS CR : Addr) : L2.Sp := fun vs H Q _ => ∃ (G : Hp) (a sp pl rl v d : Addr) (p n c k : Nat) (xs : List V) (vals : List Int) (ns : List (List Int × Int)), vs = [.ref a, .ref v, .ref d] ∧ (∀ b, H b = none → G b = none) ∧ RwAt CR H a sp pl rl ∧ SpAt CS H sp p c ∧ Pr p ∧ p ^ n ≤ 5000 ∧ H rl = some (.lst xs) ∧ xs.length ≤ 5000 ∧
  H v = some (.lst (vals.map V.int)) ∧ vals.length ≤ 5000 ∧ In p vals ∧ fnz vals = some k ∧ H d = some (.dT (kvOf ns)) ∧ NumOk p n ns ∧
  ∀ (H' : Hp) (x : V), But rl H H' → H' rl = some (.lst (xs ++ [x])) → RowV G H' x ((k, scaled p vals k), scaledN p ns (inv p (vals.getD k 0))) → NumOk p n (scaledN p ns (inv p (vals.getD k 0))) → Q .non H'
theorem scKeep : FnScope ["self", "values", "numbers", "prime", "at", "factor", "row", "k", "number", "power"] ["self", "values", "numbers"] (defScope sRKeep) := ⟨rfl, rfl, rfl, by decide +kernel, rfl, by decide +kernel, by decide +kernel⟩
theorem ok_keep {f f1 f2 CS CR : Addr} {fd fd1 fd2 : FuncData} (F : Fun K "keep" "Rows.keep" sRKeep f fd) (D1 : Df K mg "inverse" sInv f1 fd1 ["prime", "number"]) (D2 : Df K mg "raised_number" sRn f2 fd2 ["prime", "number", "exponent"]) (B : Nms mg) (T : TSp K mg CS) (U : TRw K mg CR) :
    FnOk P w K mg base CX0 3 f fd ["self", "values", "numbers"] (spKeep CS CR) := by
  have G1 : FnOk P w K mg base CX0 2 f1 fd1 ["prime", "number"] spInv := ok_inv D1 D2 B
  refine F.ok scKeep (fun vs H Q E h => ?_) (fun cdv A outer s H vs Q E hr h => ?_)
  · obtain ⟨G, a, sp, pl, rl, v, d, p, n, c, k, xs, vals, ns, rfl, _⟩ := h
    rfl
  · obtain ⟨G, a, sp, pl, rl, v, d, p, n, c, k, xs, vals, ns, rfl, hG, hR, hS, hp, hpn, hrl, hxl, hv, hN, hvi, hk, hd, okn, fin⟩ := h
    have hu := hu_of hr
    refine ⟨_, pss_cons (ps_set (i := 3) scKeep.nd rfl (Or.inr rfl) (pe_fld (pe_fld (pv 0) rfl) rfl))
      (pss_cons (ps_set (i := 4) scKeep.nd rfl (Or.inl rfl) (pe_ix ix_list
        (pe_lc (own := [("k", 7), ("number", 8)]) (g := gTup K 2 (gCons (gName 7) (gCons (gName 8) gNil))) rfl scKeep.nd (pi_enum (by rfl) B.enum (pa_cons (pv 1) pa_nil))
          (blkOk_by (N := ["self", "values", "numbers", "prime", "at", "factor", "row", "k", "number", "power"]) (sc := defScope sRKeep) (by decide +kernel))
          (fun _ _ _ _ _ => pg_tup rfl (pgs_cons (pg_name (i := 7) scKeep.nd rfl (Or.inl rfl)) (pgs_cons (pg_name (i := 8) scKeep.nd rfl (Or.inl rfl)) pgs_nil)))
          (fun _ _ _ _ _ => pts_one (pt_cmpR op_ne (pv 8) pe_int (nomark _))) (fun _ _ _ _ _ => pv 7)) pe_int (fun _ _ => rfl)))
      (pss_cons (ps_set (i := 5) scKeep.nd rfl (Or.inr rfl) (pe_call G1 hr rfl D1.g D1.k D1.b .nil pass0 (pa_cons (pv 3) (pa_cons (pe_ix ix_list (pv 1) (pv 4) (fun _ _ => rfl)) pa_nil))))
      (pss_cons (ps_setLc (i := 6) (own := [("number", 8)]) (g := gName 8) (tt := tYes) rfl scKeep.nd rfl rfl (sw_true rfl rfl rfl (by decide +kernel)) (pi_list (pv 1))
          (blkOk_by (N := ["self", "values", "numbers", "prime", "at", "factor", "row", "k", "number", "power"]) (sc := defScope sRKeep) (by decide +kernel))
          (fun _ _ _ _ _ => pg_name (i := 8) scKeep.nd rfl (Or.inl rfl)) (fun _ _ _ _ _ => pts_nil) (fun _ _ _ _ _ => pe_op op_mod (pe_op op_mul (pv 8) (pv 5)) (pv 3)))
      (pss_one (ps_expr (pe_bm PySem.F.plainAttrs_list PySem.F.slot_list_append PySem.F.type_list_append mt_append (pe_fld (pv 0) rfl) (pa_cons
        (pe_tup (pa_cons (pv 4) (pa_cons (pv 6) (pa_cons (pe_lock (pe_dcx (own := [("power", 9), ("number", 8)]) (g := gTup K 2 (gCons (gName 9) (gCons (gName 8) gNil))) (tt := tYes) (Nat.lt_of_succ_lt hu) rfl scKeep.nd (pi_itx (pv 2))
          (blkOk_by (N := ["self", "values", "numbers", "prime", "at", "factor", "row", "k", "number", "power"]) (sc := defScope sRKeep) (by decide +kernel))
          (fun _ _ _ _ _ => pg_tup rfl (pgs_cons (pg_name (i := 9) scKeep.nd rfl (Or.inl rfl)) (pgs_cons (pg_name (i := 8) scKeep.nd rfl (Or.inl rfl)) pgs_nil)))
          (fun _ _ _ _ _ => pts_nil) (fun _ _ _ _ _ => pv 9) (fun _ _ _ _ _ => pe_op op_mod (pe_op op_mul (pv 8) (pv 5)) (pv 3)))) pa_nil)))) pa_nil))))))), ?_⟩
    have h2 := hp.pos
    have h7 := hp.le
    have hpp : (0 : Int) < p := by omega
    obtain ⟨dxR, hR'⟩ := hR
    obtain ⟨dxS, nl, hS'⟩ := hS
    obtain ⟨kl, kn, _⟩ := fnz_some hk
    have hx0 := hvi _ (by rw [getD_lt vals 0 kl]; exact List.getElem_mem kl : vals.getD k 0 ∈ vals)
    have hf := inv_lt (p := p) (a := vals.getD k 0) h2
    refine ⟨_, rfl, a, CR, dxR, _, _, rfl, hR', U.cl, U.nS, rf_space _ _ _, sp, CS, dxS, _, _, rfl, hS', T.cl, T.nP, sf_prime _ _ _, ?_⟩
    refine ⟨_, rfl, v, _, rfl, .of hv, fun D hD => ?_⟩
    refine lc_it walk_enum (fun i H2 => Same H H2 ∧ H2 D = some (.lst (((List.range i).filter fun j => vals.getD j 0 != 0).map fun (j : Nat) => V.int (j : Int)))) ⟨(Same.refl H).upd_new1 hD, upd_same⟩ (fun i H2 _ h => .of (h.1 _ _ hv)) ?_ ?_
    · rintro i x H2 H3 hi ⟨s2, hA⟩ ⟨T', x1, y1, rfl, hT, rfl, g1, g2⟩
      cases g1
      obtain ⟨y, hy, rfl⟩ := getMap g2
      have ey : vals.getD i 0 = y := by rw [List.getD_eq_getElem?_getD, hy]; rfl
      have s3 : Same H (upd H2 T' (.tup [.int (i : Nat), .int y])) := s2.upd_new1 hT
      have hA' := (upd_ne (o := .tup [.int (i : Nat), .int y]) (ne_of_none hA hT)).trans hA
      refine ⟨T', _, rfl, .of upd_same, rfl, ?_⟩
      refine ⟨_, _, rfl, _, _, rfl, rfl, rfl, ?_⟩
      refine ⟨_, rfl, rfl, _, rfl, ?_⟩
      by_cases hy0 : y = 0
      · refine iteE (by simp [hy0]) ⟨s3, ?_⟩
        rw [hA', List.range_succ, List.filter_append]
        simp [List.filter_cons, hy, hy0]
      · refine iteI (by simp [hy0]) ⟨_, rfl, _, hA', ?_, s3.upd_new hD, ?_⟩
        · rw [List.length_map]
          have h1 := List.length_filter_le (fun j => vals.getD j 0 != 0) (List.range i)
          rw [List.length_range] at h1
          rw [List.length_map] at hi
          exact line_lt (by omega)
        · rw [upd_same, List.range_succ, List.filter_append]
          simp [List.filter_cons, hy, hy0]
    · rintro H2 ⟨s2, hA⟩
      have hfst := first_nz hk
      rw [List.length_map] at hA
      refine ⟨D, _, _, V.int (k : Nat), rfl, rfl, .of hA, atI_nat (j := 0) (by rw [List.getElem?_map, hfst]; rfl), ?_⟩
      refine ⟨_, rfl, _, rfl, _, rfl, v, _, _, _, rfl, rfl, .of (s2 _ _ hv), atI_nat (j := k) (get_int kl), p, vals.getD k 0, rfl, hp, hx0.1, hx0.2, ?_⟩
      generalize hfe : inv p (vals.getD k 0) = fc at hf
      refine ⟨_, rfl, v, rfl, ⟨_, .of (s2 _ _ hv)⟩, fun D2 hD2 => ?_⟩
      refine lc_it (walk_list (xs := vals.map V.int)) (fun i H3 => Same H2 H3 ∧ H3 D2 = some (.lst ((vals.take i).map fun y => V.int (y * fc % (p : Int))))) ⟨(Same.refl H2).upd_new1 hD2, upd_same⟩ (fun i H3 _ h => .of (h.1 _ _ (s2 _ _ hv))) ?_ ?_
      · rintro i x H3 H4 hi ⟨s3, hA3⟩ ⟨rfl, hx⟩
        obtain ⟨y, hy, rfl⟩ := getMap hx
        have hyb := hvi y (mem_of_get hy)
        refine ⟨rfl, _, rfl, _, rfl, _, _, rfl, rfl, .inl ⟨by omega, by omega⟩, _, rfl, _, _, rfl, rfl, hpp, ?_⟩
        refine ⟨_, hA3, ?_, s3.upd_new hD2, ?_⟩
        · rw [List.length_map, List.length_take]
          exact line_lt (by omega)
        · rw [upd_same, take_snoc hy, List.map_append]
          rfl
      · rintro H3 ⟨s3, hA3⟩
        rw [List.length_map, List.take_length] at hA3
        have s03 : Same H H3 := s2.trans s3
        have hd3 := s03 _ _ hd
        have D20 : H D2 = none := s2.free hD2
        refine ⟨_, rfl, a, CR, dxR, _, _, rfl, s03 _ _ hR', U.cl, U.nR, rf_rows _ _ _, .inl ⟨rfl, _, SqL.of (s03 _ _ hrl)⟩, ?_⟩
        refine ⟨_, rfl, _, rfl, d, .dT (kvOf ns), hd3, trivial, fun od => ?_⟩
        let g : List Int × Int → List Int × Int := fun x => (x.1, x.2 * fc % (p : Int))
        have okf : ∀ i, NumOk p n ((ns.take i).map g) := fun i => by
          refine ⟨?_, fun x hx => ?_, fun x hx => ?_⟩
          · rw [List.map_map]
            exact (List.take_sublist i ns).map (·.1) |>.nodup okn.nd
          · obtain ⟨y, hy, rfl⟩ := List.mem_map.mp hx
            exact okn.tu y (List.mem_of_mem_take hy)
          · obtain ⟨y, hy, rfl⟩ := List.mem_map.mp hx
            exact ⟨Int.emod_nonneg _ (by omega), Int.emod_lt_of_pos _ (by omega)⟩
        have hlen := okn.len
        refine ⟨_, rfl, d, od, _, rfl, upd_same, fun D3 hD3 => ?_⟩
        refine dcx_it walk_itx (fun i H4 => Same (upd H3 d (.frz od (.dT (kvOf ns)))) H4 ∧ H4 D3 = some (.dT (kvOf ((ns.take i).map g)))) ⟨(Same.refl _).upd_new1 hD3, upd_same⟩ (fun i H4 _ h => h.1 _ _ upd_same) ?_ ?_
        · rintro i x H4 H5 hi ⟨s4, hA4⟩ ⟨T', q, kk, vv, hkk, hq, rfl, hT, rfl⟩
          obtain ⟨x, hx, e⟩ := getMap hkk
          cases e
          have hxb := okn.lt x (mem_of_get hx)
          have s5 : Same (upd H3 d (.frz od (.dT (kvOf ns)))) (upd H4 T' (.tup [.ref q, .int x.2])) := s4.upd_new1 hT
          refine ⟨T', _, rfl, .of upd_same, rfl, _, _, rfl, _, _, rfl, rfl, rfl, ?_⟩
          have hDn : D3 ≠ T' := ne_of_none hA4 hT
          refine ⟨_, rfl, _, rfl, _, rfl, _, _, rfl, rfl, .inl ⟨by omega, by omega⟩, _, rfl, _, _, rfl, rfl, hpp, ?_⟩
          refine ⟨q, _, _, rfl, (upd_ne (ne_of_none hq hT)).trans hq, (upd_ne hDn).trans hA4, ?_, fun b o e => ?_, ?_⟩
          · have := (okf i).len
            unfold kvOf
            rw [List.length_map]
            exact line_lt (by omega)
          · rw [upd_ne (ne_of_none e hD3)]
            exact s5 _ _ e
          · rw [upd_same, putK_kv, putI_new, take_snoc hx, List.map_append]
            · rfl
            · rw [List.map_map]
              intro hm
              obtain ⟨y, hy, e⟩ := List.mem_map.mp hm
              obtain ⟨j, hj, ej⟩ := List.getElem_of_mem hy
              rw [List.getElem_take] at ej
              rw [List.length_take] at hj
              have hnd := okn.nd
              obtain ⟨hi', ei⟩ := List.getElem?_eq_some_iff.mp hx
              have e1 : (ns.map (·.1))[j]'(by rw [List.length_map]; omega) = (ns.map (·.1))[i]'(by rw [List.length_map]; omega) := by
                rw [List.getElem_map, List.getElem_map, ej, ei]
                exact e
              have := (List.getElem_inj hnd).mp e1
              omega
        · rintro H4 ⟨s4, hA4⟩
          refine ⟨s4 _ _ upd_same, ?_⟩
          have s5 : Same H3 (upd H4 d (.dT (kvOf ns))) := lock_same hd3 s4
          have hlk : (kvOf ns).length = ns.length := by unfold kvOf; rw [List.length_map]
          have hDd : D3 ≠ d := fun z => by rw [z, upd_same] at hD3; cases hD3
          have hD30 : H3 D3 = none := by
            rw [upd_ne hDd] at hD3
            exact hD3
          have hA' : (upd H4 d (.dT (kvOf ns))) D3 = some (.dT (kvOf (ns.map g))) := by
            rw [upd_ne hDd, hA4, hlk, List.take_length]
          have okr : NumOk p n (ns.map g) := by
            have := okf ns.length
            rwa [List.take_length] at this
          generalize upd H4 d (.dT (kvOf ns)) = H5 at s5 hA'
          refine ⟨by show 3 ≤ sizeLine; exact line_big (by decide), fun t ht => ?_⟩
          have s05 : Same H H5 := s03.trans s5
          have hrl5 := s05 _ _ hrl
          have ntl : rl ≠ t := ne_of_none hrl5 ht
          refine ⟨rl, _, _, rfl, rfl, (upd_ne ntl).trans hrl5, line_lt (by omega), ?_⟩
          refine fin _ (.ref t) (fun b o e hb => ?_) upd_same ?_ ?_
          · rw [upd_ne hb, upd_ne (ne_of_none (s05 _ _ e) ht)]
            exact s05 _ _ e
          · have hA5 := s5 _ _ hA3
            have nD2 : D2 ≠ rl := fun z => by rw [z, hrl] at D20; cases D20
            have nD3 : D3 ≠ rl := fun z => by rw [z, (s03 _ _ hrl)] at hD30; cases hD30
            refine ⟨t, D2, D3, rfl, (upd_ne ntl.symm).trans upd_same, ?_, ?_, hG _ D20⟩
            · rw [upd_ne nD2, upd_ne (ne_of_none hA5 ht), hA5]
              unfold scaled
              rw [hfe, List.map_map]
              rfl
            · rw [upd_ne nD3, upd_ne (ne_of_none hA' ht), hA', hfe]
              rfl
          · rw [hfe]
            exact okr
end
end Gk

set_option maxHeartbeats 4000000
/-! Growth, the walks, part 11: Rows.take. -/
namespace Gk
open PySem L2
theorem any_fnz (v : List Int) : (v.any fun x => x != 0) = (fnz v).isSome := by
  unfold fnz
  rw [List.findIdx?_isSome]
theorem RowsAt.snoc {G H H' : Hp} {rl : Addr} {rws : List RowT} {xs : List V} {x : V} {r : RowT} (hxs : H rl = some (.lst xs)) (pr : Paired (RowV G H) xs rws) (e : But rl H H') (g : G rl ≠ none) (h' : H' rl = some (.lst (xs ++ [x]))) (hr : RowV G H' x r) : RowsAt G H' rl (rws ++ [r]) := by
  refine ⟨_, h', ?_⟩
  have pr' : Paired (RowV G H') xs rws := Paired.mapP pr fun _ _ q => q.mut (e.mutL hxs g)
  clear h' pr hxs
  induction pr' with
  | nil => exact .cons hr .nil
  | cons a _ ih => exact .cons a ih
section
variable {P : Program} {w : World} {K : PySem.W.Frag} {mg : Str → Option Value} {base : Heap}
def spTake (CS CR : Addr) : L2.Sp := fun vs H Q _ => ∃ (G : Hp) (a sp pl rl b : Addr) (p n : Nat) (rws : List RowT) (pvs : List V) (W : List (List Int)) (m : List Int), vs = [.ref a, .ref b] ∧ (∀ b, H b = none → G b = none) ∧ G rl ≠ none ∧ RwAt CR H a sp pl rl ∧ SpAt CS H sp p (n + 1) ∧ Pr p ∧ p ^ (n + 1) ≤ 5000 ∧ RowsAt G H rl rws ∧ rws.length ≤ 5000 ∧
  (∀ r ∈ rws, RowOk' p (n + 1) W.length r) ∧ H pl = some (.lst pvs) ∧ Tps H pvs W ∧ (∀ q ∈ W, Tu p (n + 1) q) ∧ W.length ≤ 5000 ∧ H b = some (.tup (m.map V.int)) ∧ Tu p (n + 1) m ∧
  (fnz (clL p (rws.map (·.1)) (evL p W m)) = none → ∀ (H' : Hp) (q : Addr) (xs : List V), Same H H' → H' q = some (.tup xs) → Q (.ref q) H') ∧
  ∀ k, fnz (clL p (rws.map (·.1)) (evL p W m)) = some k → ∀ (H' : Hp) (r : RowT), But rl H H' → RowsAt G H' rl (rws ++ [r]) → r.1 = (k, scaled p (clL p (rws.map (·.1)) (evL p W m)) k) → RowOk' p (n + 1) W.length r → Q .non H'
theorem scTake : FnScope ["self", "power", "values", "numbers", "point"] ["self", "power"] (defScope sRTake) := ⟨rfl, rfl, rfl, by decide +kernel, rfl, by decide +kernel, by decide +kernel⟩
theorem ok_take {f f1 f2 f3 f4 f5 f6 CS CR : Addr} {fd fd1 fd2 fd3 fd4 fd5 fd6 : FuncData} (F : Fun K "take" "Rows.take" sRTake f fd) (M1 : Mt K CR "lessened" "Rows.lessened" sRLess f1 fd1 ["self", "values", "numbers"]) (M2 : Mt K CR "keep" "Rows.keep" sRKeep f2 fd2 ["self", "values", "numbers"])
    (D3 : Df K mg "from_numbers" sFr f3 fd3 ["space", "numbers"]) (D4 : Df K mg "value_of" sVal f4 fd4 ["space", "power", "point"]) (D5 : Df K mg "inverse" sInv f5 fd5 ["prime", "number"]) (D6 : Df K mg "raised_number" sRn f6 fd6 ["prime", "number", "exponent"])
    (B : Nms mg) (T : TSp K mg CS) (U : TRw K mg CR) : FnOk P w K mg base CX0 4 f fd ["self", "power"] (spTake CS CR) := by
  have G1 : FnOk P w K mg base CX0 1 f1 fd1 ["self", "values", "numbers"] (spLess CS CR) := ok_less M1.F B T U
  have G2 : FnOk P w K mg base CX0 3 f2 fd2 ["self", "values", "numbers"] (spKeep CS CR) := ok_keep M2.F D5 D6 B T U
  have G3 : FnOk P w K mg base CX0 1 f3 fd3 ["space", "numbers"] (spFr CS) := ok_fr D3 B T
  have G4 : FnOk P w K mg base CX0 2 f4 fd4 ["space", "power", "point"] (spVal K CS) := ok_val D4 D6 B T
  refine F.ok scTake (fun vs H Q E h => ?_) (fun cdv A outer s H vs Q E hr h => ?_)
  · obtain ⟨G, a, sp, pl, rl, b, p, n, rws, pvs, W, m, rfl, _⟩ := h
    rfl
  · obtain ⟨G, a, sp, pl, rl, b, p, n, rws, pvs, W, m, rfl, hG, hGr, hR, hS, hp, hpn, hW, hrl, hok, hpl, tp, hT, hN, hb, hm, kN, kS⟩ := h
    have hu := hu_of hr
    have hr1 := hr.mono (j := 1) (by decide)
    have hr2 := hr.mono (j := 2) (by decide)
    refine ⟨_, pss_cons (ps_setLc (i := 2) (own := [("point", 4)]) (g := gName 4) (tt := tYes) (te := tCall _ _ _ (tCons (tFld K _ _) _)) rfl scTake.nd rfl rfl (sw_true rfl rfl rfl (by decide +kernel)) (pi_list (pe_fld (pv 0) rfl))
          (blkOk_by (N := ["self", "power", "values", "numbers", "point"]) (sc := defScope sRTake) (by decide +kernel))
          (fun _ _ _ _ _ => pg_name (i := 4) scTake.nd rfl (Or.inl rfl)) (fun _ _ _ _ _ => pts_nil)
          (fun _ _ _ _ _ => pe_call G4 hr2 rfl D4.g D4.k D4.b .nil pass0 (pa_cons (pe_fld (pv 0) rfl) (pa_cons (pv 1) (pa_cons (pv 4) pa_nil)))))
      (pss_cons (ps_asg (pe_meth (pv 0) U.cl M1.m G1 hr1 M1.b .nil pass0 (pa_cons (pv 2) (pa_cons (pe_oneT hu (pv 1) pe_int) pa_nil))) (pg_tup rfl (pgs_cons (pg_name (i := 2) scTake.nd rfl (Or.inl rfl)) (pgs_cons (pg_name (i := 3) scTake.nd rfl (Or.inl rfl)) pgs_nil))))
      (pss_cons (ps_if (pt_val (pe_callB (cr_anyI rfl) (by rfl) B.any (by decide +kernel) (pa_cons (pv 2) pa_nil)))
          (pss_cons (ps_expr (pe_meth (pv 0) U.cl M2.m G2 hr M2.b .nil pass0 (pa_cons (pv 2) (pa_cons (pv 3) pa_nil)))) (pss_one (ps_ret pe_non))) pss_nil)
      (pss_one (ps_ret (pe_call G3 hr1 rfl D3.g D3.k D3.b .nil pass0 (pa_cons (pe_fld (pv 0) rfl) (pa_cons (pv 3) pa_nil))))))), ?_⟩
    have h2 := hp.pos
    obtain ⟨dxR, hR'⟩ := id hR
    obtain ⟨xs, hxs, pr⟩ := id hW
    refine ⟨_, rfl, a, CR, dxR, _, _, rfl, hR', U.cl, U.nP, rf_points _ _ _, pl, rfl, ⟨_, .of hpl⟩, fun D hD => ?_⟩
    refine lc_it (walk_list (xs := pvs)) (fun i H2 => Same H H2 ∧ H2 D = some (.lst ((W.take i).map fun q => V.int (mv p m q)))) ⟨(Same.refl H).upd_new1 hD, upd_same⟩ (fun i H2 _ h => .of (h.1 _ _ hpl)) ?_ ?_
    · rintro i x H2 H3 hi ⟨s2, hA⟩ ⟨rfl, hx⟩
      obtain ⟨q, r, hq, rfl, hr⟩ := tp.at hx
      refine ⟨rfl, _, rfl, a, CR, dxR, _, _, rfl, s2 _ _ hR', U.cl, U.nS, rf_space _ _ _, _, rfl, _, rfl, sp, b, r, p, n + 1, m, q, rfl, hS.same s2, hp, s2 _ _ hb, s2 _ _ hr, hm.2, (hT q (mem_of_get hq)).2, fun H4 s4 => ?_⟩
      refine ⟨_, s4 _ _ hA, ?_, (s2.trans s4).upd_new hD, ?_⟩
      · rw [List.length_map, List.length_take]
        exact line_lt (by omega)
      · rw [upd_same, take_snoc hq, List.map_append]
        rfl
    · rintro H2 ⟨s2, hA⟩
      have hA2 : H2 D = some (.lst ((evL p W m).map V.int)) := by
        rw [hA, tp.len, List.take_length]
        unfold evL
        rw [List.map_map]
        rfl
      refine ⟨_, rfl, a, dxR, _, rfl, s2 _ _ hR', rf_no _ _ _ (by decide +kernel) (by decide +kernel) (by decide +kernel), _, rfl, fun d hd => ?_⟩
      have d0 : H d = none := s2.free hd
      refine ⟨_, rfl, upd_same, b, m.map Sum.inl, rfl, (by rw [upd_ne (ne_of_none (s2 _ _ hb) hd), kV_ints]; exact s2 _ _ hb), ?_⟩
      have hDd : D ≠ d := ne_of_none hA2 hd
      refine ⟨G, H, a, sp, pl, rl, D, d, p, n + 1, n + 1, W.length, rws, evL p W m, [(m, 1)], rfl, (s2.upd_new1 hd).upd_new d0, d0, hD, hR, hS, hW, hok, by omega, by have := hp.le; omega, hpn, hN, (by rw [upd_ne hDd, upd_ne hDd]; exact hA2), evL_len m, evL_in h2 m, upd_same,
        ⟨by simp, fun x hx => by rw [List.mem_singleton.mp hx]; exact hm, fun x hx => by rw [List.mem_singleton.mp hx]; exact ⟨by show (0 : Int) ≤ 1; omega, by show (1 : Int) < p; omega⟩⟩, fun H' t v' ns' s' v'0 ht' hv' hd' ok' => ?_⟩
      refine ⟨t, _, rfl, .of ht', rfl, _, _, rfl, _, _, rfl, rfl, ?_⟩
      refine ⟨_, rfl, v', _, rfl, .of hv', _, rfl, ?_⟩
      rw [any_fnz]
      have lok : LOk p W.length (rws.map (·.1)) := by
        have g : ∀ r ∈ rws.map (·.1), ∃ q ∈ rws, r = q.1 := fun r hr => by
          obtain ⟨q, hq, rfl⟩ := List.mem_map.mp hr
          exact ⟨q, hq, rfl⟩
        refine ⟨fun r hr => ?_, fun r hr => ?_, fun r hr => ?_⟩ <;> obtain ⟨q, hq, rfl⟩ := g r hr
        · exact (hok q hq).len
        · exact (hok q hq).ins
        · exact (hok q hq).at'
      obtain ⟨cl1, cl2, _⟩ := clL_ok (p := p) (by omega) lok (evL_len (p := (p : Int)) (V := W) m) (evL_in h2 m)
      generalize clL p (rws.map (·.1)) (evL p W m) = cur at kN kS hv' cl1 cl2
      cases hf : fnz cur with
      | none =>
        refine iteE rfl ?_
        refine ⟨_, rfl, a, CR, dxR, _, _, rfl, s' _ _ hR', U.cl, U.nS, rf_space _ _ _, _, rfl, sp, d, p, n, ns', rfl, hS.same s', by omega, hpn, hd', ok', fun H'' q xs s'' hq => kN hf H'' q xs (s'.trans s'') hq⟩
      | some kk =>
        refine iteI rfl ?_
        obtain ⟨kl, _, _⟩ := fnz_some hf
        have hpp : (0 : Int) < p := by omega
        refine ⟨_, rfl, a, dxR, _, rfl, s' _ _ hR', rf_no _ _ _ (by decide +kernel) (by decide +kernel) (by decide +kernel), _, rfl, _, rfl, G, a, sp, pl, rl, v', d, p, n + 1, n + 1, kk, xs, cur, ns', rfl, (fun b hb => hG b (s'.free hb)), ⟨dxR, s' _ _ hR'⟩, hS.same s', hp, hpn, s' _ _ hxs, by rw [paired_len pr]; exact hrl, hv', by omega, cl2, hf, hd', ok', fun H'' x bt hrl' rv okn'' => ?_⟩
        have bt' : But rl H H'' := fun b o e hb => bt b o (s' _ _ e) hb
        exact kS kk hf H'' _ bt' (RowsAt.snoc hxs pr bt' hGr hrl' rv) rfl ⟨by rw [← cl1]; exact kl, by unfold scaled; rw [List.length_map]; exact cl1, scaled_in hpp, okn''⟩
end
end Gk

set_option maxHeartbeats 4000000
/-! Growth, the walks, part 12: walk. -/
namespace Gk
open PySem L2
/-- the lists of walk, each its own; G: the heap ahead of the loop -/
structure WDist (G : Hp) (rl kk ff ll : Addr) : Prop where
  kr : kk ≠ rl
  fr : ff ≠ rl
  lr : ll ≠ rl
  kf : kk ≠ ff
  kl : kk ≠ ll
  fl : ff ≠ ll
  gr : G rl ≠ none
  gk : G kk ≠ none
  gf : G ff ≠ none
  gl : G ll ≠ none
structure WAt (G : Hp) (rl kk ff ll : Addr) (p n N i : Nat) (st : WS) (H : Hp) : Prop where
  fr : ∀ b o, G b = some o → b ≠ rl → b ≠ kk → b ≠ ff → b ≠ ll → H b = some o
  dom : ∀ b, H b = none → G b = none
  k : ∃ ks, H kk = some (.lst ks) ∧ Tps H ks st.kept ∧ ks.length ≤ i
  f : ∃ fs, H ff = some (.lst fs) ∧ fs.length ≤ i
  l : ∃ ls, H ll = some (.lst ls) ∧ Tps H ls st.leads ∧ ls.length ≤ i
  r : ∃ rws, RowsAt G H rl rws ∧ rws.map (·.1) = st.rows ∧ (∀ r ∈ rws, RowOk' p n N r) ∧ rws.length ≤ i
  tk : ∀ m ∈ st.kept, Tu p n m
  tl : ∀ m ∈ st.leads, Tu p n m
section
variable {G H H' : Hp} {rl kk ff ll : Addr} {p n N i : Nat} {st : WS}
theorem WAt.same (w : WAt G rl kk ff ll p n N i st H) (e : Same H H') : WAt G rl kk ff ll p n N i st H' := by
  obtain ⟨fr, dom, ⟨ks, k1, k2, k3⟩, ⟨fs, f1, f2⟩, ⟨ls, l1, l2, l3⟩, ⟨rws, r1, r2, r3, r4⟩, tk, tl⟩ := w
  exact ⟨fun b o h a1 a2 a3 a4 => e _ _ (fr b o h a1 a2 a3 a4), fun b h => dom b (e.free h), ⟨ks, e _ _ k1, k2.same e, k3⟩, ⟨fs, e _ _ f1, f2⟩, ⟨ls, e _ _ l1, l2.same e, l3⟩, ⟨rws, r1.same e, r2, r3, r4⟩, tk, tl⟩
theorem WAt.mono {j : Nat} (w : WAt G rl kk ff ll p n N i st H) (h : i ≤ j) : WAt G rl kk ff ll p n N j st H := by
  obtain ⟨fr, dom, ⟨ks, k1, k2, k3⟩, ⟨fs, f1, f2⟩, ⟨ls, l1, l2, l3⟩, ⟨rws, r1, r2, r3, r4⟩, tk, tl⟩ := w
  exact ⟨fr, dom, ⟨ks, k1, k2, by omega⟩, ⟨fs, f1, by omega⟩, ⟨ls, l1, l2, by omega⟩, ⟨rws, r1, r2, r3, by omega⟩, tk, tl⟩
theorem RowsAt.upd {rws : List RowT} {b : Addr} {xs : List V} {o : HO} (r : RowsAt G H rl rws) (hb : H b = some (.lst xs)) (g : G b ≠ none) (ne : b ≠ rl) : RowsAt G (upd H b o) rl rws := by
  obtain ⟨ys, h1, h2⟩ := r
  exact ⟨ys, (upd_ne ne.symm).trans h1, Paired.mapP h2 fun _ _ q => q.mut (MutL.upd o hb g)⟩
/-- a lead more -/
theorem WAt.lead {q b : Addr} {m : List Int} {fs ls : List V} (D : WDist G rl kk ff ll) (w : WAt G rl kk ff ll p n N i st H) (hm : Tu p n m) (hb : H b = some (.tup (m.map V.int))) (hf : H ff = some (.lst fs)) (hl : H ll = some (.lst ls)) :
    WAt G rl kk ff ll p n N (i + 1) { st with leads := st.leads ++ [m] } (upd (upd H ff (.lst (fs ++ [.ref q]))) ll (.lst (ls ++ [.ref b]))) := by
  obtain ⟨fr, dom, ⟨ks, k1, k2, k3⟩, ⟨fs', f1, f2⟩, ⟨ls', l1, l2, l3⟩, ⟨rws, r1, r2, r3, r4⟩, tk, tl⟩ := w
  rw [hf] at f1
  cases f1
  rw [hl] at l1
  cases l1
  have m1 : MutL G H (upd H ff (.lst (fs ++ [.ref q]))) := MutL.upd _ hf D.gf
  have hl' : (upd H ff (.lst (fs ++ [.ref q]))) ll = some (.lst ls) := (upd_ne D.fl.symm).trans hl
  have m2 : MutL G H (upd (upd H ff (.lst (fs ++ [.ref q]))) ll (.lst (ls ++ [.ref b]))) := m1.trans (MutL.upd _ hl' D.gl)
  refine ⟨fun c o h a1 a2 a3 a4 => by rw [upd_ne a4, upd_ne a3]; exact fr c o h a1 a2 a3 a4, fun c h => ?_, ⟨ks, by rw [upd_ne D.kl, upd_ne D.kf]; exact k1, k2.mut m2, by omega⟩, ⟨_, by rw [upd_ne D.fl, upd_same], by rw [List.length_append]; exact Nat.succ_le_succ f2⟩,
    ⟨_, upd_same, (l2.mut m2).snoc (m2 _ _ hb fun _ z => nomatch z), by rw [List.length_append]; exact Nat.succ_le_succ l3⟩, ⟨rws, (r1.upd hf D.gf D.fr).upd hl' D.gl D.lr, r2, r3, by omega⟩, tk, fun x hx => ?_⟩
  · by_cases e1 : c = ll
    · rw [e1, upd_same] at h
      cases h
    · rw [upd_ne e1] at h
      by_cases e2 : c = ff
      · rw [e2, upd_same] at h
        cases h
      · rw [upd_ne e2] at h
        exact dom c h
  · rcases List.mem_append.mp hx with hx | hx
    · exact tl x hx
    · rw [List.mem_singleton.mp hx]
      exact hm
/-- a row more and a power kept: first the rows' list, then kept -/
theorem WAt.kept {b : Addr} {m : List Int} {rws : List RowT} {r : RowT} {ks : List V} (D : WDist G rl kk ff ll) (w : WAt G rl kk ff ll p n N i st H) (hm : Tu p n m) (hb : H b = some (.tup (m.map V.int))) (bt : But rl H H') (hrw : rws.map (·.1) = st.rows) (hok : ∀ r ∈ rws, RowOk' p n N r) (hrl : rws.length ≤ i)
    (hr : RowsAt G H' rl (rws ++ [r])) (ro : RowOk' p n N r) (hk : H' kk = some (.lst ks)) :
    WAt G rl kk ff ll p n N (i + 1) { st with kept := st.kept ++ [m], rows := st.rows ++ [r.1] } (upd H' kk (.lst (ks ++ [.ref b]))) := by
  obtain ⟨fr, dom, ⟨ks', k1, k2, k3⟩, ⟨fs', f1, f2⟩, ⟨ls', l1, l2, l3⟩, ⟨rws', ⟨ys, r1, r1'⟩, r2, r3, r4⟩, tk, tl⟩ := w
  have k1' := bt _ _ k1 D.kr
  rw [hk] at k1'
  cases k1'
  have m1 : MutL G H H' := bt.mutL r1 D.gr
  have m2 : MutL G H (upd H' kk (.lst (ks ++ [.ref b]))) := m1.trans (MutL.upd _ hk D.gk)
  refine ⟨fun c o h a1 a2 a3 a4 => by rw [upd_ne a2]; exact bt _ _ (fr c o h a1 a2 a3 a4) a1, fun c h => ?_, ⟨_, upd_same, (k2.mut m2).snoc (m2 _ _ hb fun _ z => nomatch z), by rw [List.length_append]; exact Nat.succ_le_succ k3⟩, ⟨fs', by rw [upd_ne D.kf.symm]; exact bt _ _ f1 D.fr, by omega⟩,
    ⟨ls', by rw [upd_ne D.kl.symm]; exact bt _ _ l1 D.lr, l2.mut m2, by omega⟩, ⟨rws ++ [r], hr.upd hk D.gk D.kr, by rw [List.map_append, hrw]; rfl, fun x hx => ?_, by rw [List.length_append]; exact Nat.succ_le_succ hrl⟩, fun x hx => ?_, tl⟩
  · by_cases e1 : c = kk
    · rw [e1, upd_same] at h
      cases h
    · rw [upd_ne e1] at h
      by_cases e2 : c = rl
      · obtain ⟨zs, z, _⟩ := hr
        rw [e2, z] at h
        cases h
      · cases e : H c with
        | none => exact dom c e
        | some u =>
          rw [bt c u e e2] at h
          cases h
  · rcases List.mem_append.mp hx with hx | hx
    · exact hok x hx
    · rw [List.mem_singleton.mp hx]
      exact ro
  · rcases List.mem_append.mp hx with hx | hx
    · exact tk x hx
    · rw [List.mem_singleton.mp hx]
      exact hm
end
theorem wwalk_snoc {p : Int} {W ms : List (List Int)} {i : Nat} {m : List Int} (h : ms[i]? = some m) : wwalk p W (ms.take (i + 1)) = wstep p W (wwalk p W (ms.take i)) m := by
  rw [take_snoc h]
  unfold wwalk
  rw [List.foldl_append]
  rfl
end Gk

set_option maxHeartbeats 4000000
/-! Growth, the walks, part 13: walk, standing. -/
namespace Gk
open PySem L2
section
variable {P : Program} {w : World} {K : PySem.W.Frag} {mg : Str → Option Value} {base : Heap}
abbrev sWk : Stmt := top 25
abbrev sStd : Stmt := top 26
/-- the powers in degree order -/
def powersOf (p n : Nat) : List (List Int) := (tuplesOf p n).mergeSort (PySem.W.dataLe false keyD)
theorem mem_powers {p n : Nat} {m : List Int} : m ∈ powersOf p n ↔ Tu p n m := by
  unfold powersOf
  rw [List.mem_mergeSort, mem_tuples]
theorem len_powers {p n : Nat} : (powersOf p n).length = p ^ n := by
  unfold powersOf
  rw [List.length_mergeSort, tuples_len]
/-- what walk and standing are given -/
structure WIn (CS Pt : Addr) (H : Hp) (sp pl : Addr) (p n : Nat) (pvs : List V) (W : List (List Int)) : Prop where
  sp : SpAt CS H sp p (n + 1)
  pr : Pr p
  n5 : n + 1 ≤ 5
  pn : p ^ (n + 1) ≤ 5000
  pl : H pl = some (.lst pvs)
  tp : Tps H pvs W
  tu : ∀ q ∈ W, Tu p (n + 1) q
  wl : W.length ≤ 5000
  tb : LamX.Tabs (lamT Pt) H
theorem tabs_mut {G H H' : Hp} {Pt : Addr} (t : LamX.Tabs (lamT Pt) H) (e : MutL G H H') : LamX.Tabs (lamT Pt) H' := fun p hp => by
  obtain ⟨ps, h1, h2, h3⟩ := t p hp
  refine ⟨ps, e _ _ h1 (fun _ z => nomatch z), h2, fun pos cv hc => ?_⟩
  obtain ⟨c, e1, e2⟩ := h3 pos cv hc
  exact ⟨c, e1, e _ _ e2 (fun _ z => by unfold LamX.CodeO at z; cases z)⟩
def spWk (CS Pt : Addr) : L2.Sp := fun vs H Q _ => ∃ (sp pl : Addr) (p n : Nat) (pvs : List V) (W : List (List Int)), vs = [.ref sp, .ref pl, .str "degree"] ∧ WIn CS Pt H sp pl p n pvs W ∧
  ∀ (H' : Hp) (t k f r : Addr) (ks : List V), LamX.ExtN H H' → LamX.Tabs (lamT Pt) H' → H' t = some (.tup [.ref k, .ref f, .ref r]) → H' k = some (.lst ks) → Tps H' ks (wwalk p W (powersOf p (n + 1))).kept → (∀ m ∈ (wwalk p W (powersOf p (n + 1))).kept, Tu p (n + 1) m) → Q (.ref t) H'
theorem scWk : FnScope ["space", "points", "order", "rows", "kept", "found", "leads", "power", "one", "lead"] ["space", "points", "order"] (defScope sWk) := ⟨rfl, rfl, rfl, by decide +kernel, rfl, by decide +kernel, by decide +kernel⟩
/-- all that walk calls -/
structure Calls (K : PySem.W.Frag) (mg : Str → Option Value) (w : World) (P : Program) (base : Heap) (CS CR Pt : Addr) : Prop where
  T : TSp K mg CS
  U : TRw K mg CR
  B : Nms mg
  pow : ∃ f fd, Meth K CS "powers" f ∧ Binds K fd ["self", "order"] [] ∧ FnOk P w K mg base CX0 7 f fd ["self", "order"] (spSPow CS Pt)
  take : ∃ f fd, Meth K CR "take" f ∧ Binds K fd ["self", "power"] [] ∧ FnOk P w K mg base CX0 4 f fd ["self", "power"] (spTake CS CR)
  ini : ∃ f fd, Mk K CR f ∧ Binds K fd ["self", "space", "points"] [] ∧ FnOk P w K mg base CX0 1 f fd ["self", "space", "points"] (spRIni CR)
  div : ∃ f fd, mg "divides" = some (.ref f) ∧ PySem.W.keepIn K (.ref f) = true ∧ Binds K fd ["one", "other"] [] ∧ FnOk P w K mg base CX0 1 f fd ["one", "other"] spDiv
theorem ok_wk {f CS CR Pt : Addr} {fd : FuncData} (D : Df K mg "walk" sWk f fd ["space", "points", "order"]) (C : Calls K mg w P base CS CR Pt) : FnOk P w K mg base CX0 8 f fd ["space", "points", "order"] (spWk CS Pt) := by
  obtain ⟨T, U, B, ⟨f1, fd1, M1, b1, G1⟩, ⟨f2, fd2, M2, b2, G2⟩, ⟨f3, fd3, M3, b3, G3⟩, ⟨f4, fd4, g4, k4, b4, G4⟩⟩ := C
  refine D.F.ok scWk (fun vs H Q E h => ?_) (fun cdv A outer s H vs Q E hr h => ?_)
  · obtain ⟨sp, pl, p, n, pvs, W, rfl, _⟩ := h
    rfl
  · obtain ⟨sp, pl, p, n, pvs, W, rfl, I, fin⟩ := h
    have hr1 := hr.mono (j := 1) (by decide)
    have hr2 := hr.mono (j := 2) (by decide)
    have hr4 := hr.mono (j := 4) (by decide)
    refine ⟨_, pss_cons (ps_set (i := 3) scWk.nd rfl (Or.inl rfl) (pe_make M3 G3 hr2 rfl U.g b3 .nil pass0 (pa_cons (pv 0) (pa_cons (pv 1) pa_nil))))
      (pss_cons (ps_set (i := 4) scWk.nd rfl (Or.inl rfl) (pe_lst pa_nil))
      (pss_cons (ps_set (i := 5) scWk.nd rfl (Or.inl rfl) (pe_lst pa_nil))
      (pss_cons (ps_set (i := 6) scWk.nd rfl (Or.inl rfl) (pe_lst pa_nil))
      (pss_cons (ps_for PassesOwn.never rfl (pi_list (pe_meth (pv 0) T.cl M1 G1 hr b1 .nil pass0 (pa_cons (pv 2) pa_nil))) (pg_name (i := 7) scWk.nd rfl (Or.inr rfl))
        (pss_one (ps_if (pt_not (pt_val (pe_callB (cr_any rfl) (by rfl) B.any (by decide +kernel) (pa_cons
            (pe_lc (own := [("lead", 9)]) (g := gName 9) (tt := tYes) rfl scWk.nd (pi_list (pv 6)) (blkOk_by (N := ["space", "points", "order", "rows", "kept", "found", "leads", "power", "one", "lead"]) (sc := defScope sWk) (by decide +kernel))
              (fun _ _ _ _ _ => pg_name (i := 9) scWk.nd rfl (Or.inl rfl)) (fun _ _ _ _ _ => pts_nil)
              (fun _ _ _ _ _ => pe_call G4 hr1 rfl g4 k4 b4 .nil pass0 (pa_cons (pv 9) (pa_cons (pv 7) pa_nil)))) pa_nil))))
          (pss_cons (ps_set (i := 8) scWk.nd rfl (Or.inl rfl) (pe_meth (pv 3) U.cl M2 G2 hr4 b2 .nil pass0 (pa_cons (pv 7) pa_nil)))
          (pss_one (ps_if (pt_cmpR op_isN (pv 8) pe_non (nomark _))
            (pss_one (ps_expr (pe_bm PySem.F.plainAttrs_list PySem.F.slot_list_append PySem.F.type_list_append mt_append (pv 4) (pa_cons (pv 7) pa_nil))))
            (pss_cons (ps_expr (pe_bm PySem.F.plainAttrs_list PySem.F.slot_list_append PySem.F.type_list_append mt_append (pv 5) (pa_cons (pv 8) pa_nil)))
            (pss_one (ps_expr (pe_bm PySem.F.plainAttrs_list PySem.F.slot_list_append PySem.F.type_list_append mt_append (pv 6) (pa_cons (pv 7) pa_nil)))))))) pss_nil)))
      (pss_one (ps_ret (pe_tup (pa_cons (pv 4) (pa_cons (pv 5) (pa_cons (pv 3) pa_nil)))))))))), ?_⟩
    have h2 := I.pr.pos
    have h7 := I.pr.le
    have hpn := I.pn
    obtain ⟨dxS, nl, hS⟩ := id I.sp
    -- rows, kept, found, leads
    refine ⟨_, rfl, _, rfl, fun ra dx hra hdx hne => ⟨ra, dx, sp, pl, rfl, upd_same, fun H1 rl hrl0 bt1 hR1 hL1 => ⟨rfl, ?_⟩⟩⟩
    have s1 : Same H H1 := Same.made hra hdx bt1
    refine ⟨Nat.zero_le _, fun kk hkk => ⟨Nat.zero_le _, fun ff hff => ⟨Nat.zero_le _, fun ll hll => ?_⟩⟩⟩
    have nra : rl ≠ ra := fun z => by rw [z, upd_same] at hrl0; cases hrl0
    have rl0 : H rl = none := by
      cases e : H rl with
      | none => rfl
      | some u =>
        have : (upd (upd H dx (.own ra)) ra (.ins CR dx [])) rl = some u := by rw [upd_ne nra, upd_ne (ne_of_none e hdx)]; exact e
        rw [hrl0] at this
        cases this
    have kk0 : H kk = none := s1.free hkk
    have sk : Same H1 (upd H1 kk (.lst [])) := (Same.refl _).upd_new1 hkk
    have ff0 : H ff = none := s1.free (sk.free hff)
    have sf : Same H1 (upd (upd H1 kk (.lst [])) ff (.lst [])) := sk.upd_new1 hff
    have ll0 : H ll = none := s1.free (sf.free hll)
    have s4 : Same H1 (upd (upd (upd H1 kk (.lst [])) ff (.lst [])) ll (.lst [])) := sf.upd_new1 hll
    have hkkF : (upd (upd H1 kk (.lst [])) ff (.lst [])) kk = some (.lst []) := by rw [upd_ne (ne_of_none upd_same hff), upd_same]
    have d1 : kk ≠ rl := (ne_of_none hL1 hkk).symm
    have d2 : ff ≠ rl := (ne_of_none (sk _ _ hL1) hff).symm
    have d3 : ll ≠ rl := (ne_of_none (sf _ _ hL1) hll).symm
    have d4 : kk ≠ ff := ne_of_none upd_same hff
    have d5 : kk ≠ ll := ne_of_none hkkF hll
    have d6 : ff ≠ ll := ne_of_none upd_same hll
    have hr4' := s4 _ _ hL1
    have hk4 : (upd (upd (upd H1 kk (.lst [])) ff (.lst [])) ll (.lst [])) kk = some (.lst []) := by rw [upd_ne d5]; exact hkkF
    have hf4 : (upd (upd (upd H1 kk (.lst [])) ff (.lst [])) ll (.lst [])) ff = some (.lst []) := by rw [upd_ne d6, upd_same]
    have hl4 : (upd (upd (upd H1 kk (.lst [])) ff (.lst [])) ll (.lst [])) ll = some (.lst []) := upd_same
    have s04 : Same H (upd (upd (upd H1 kk (.lst [])) ff (.lst [])) ll (.lst [])) := s1.trans s4
    obtain ⟨dxR, hR1'⟩ := id hR1
    have hR4 := s4 _ _ hR1'
    generalize upd (upd (upd H1 kk (.lst [])) ff (.lst [])) ll (.lst []) = H4 at s4 hr4' hk4 hf4 hl4 s04 hR4
    -- the powers
    refine ⟨_, rfl, sp, dxS, _, rfl, s04 _ _ hS, sf_no _ _ _ (by decide +kernel) (by decide +kernel) (by decide +kernel), _, rfl, sp, p, n, rfl, I.sp.same s04, by omega, by omega, I.n5, hpn, tabs_ext I.tb s04, fun H5 l ys e5 T5 fr5 hl5 tp5 => ?_⟩
    have hr5 := e5 _ _ hr4' (fun _ z => nomatch z)
    have hk5 := e5 _ _ hk4 (fun _ z => nomatch z)
    have hf5 := e5 _ _ hf4 (fun _ z => nomatch z)
    have hll5 := e5 _ _ hl4 (fun _ z => nomatch z)
    have hR5 := e5 _ _ hR4 (fun _ z => nomatch z)
    have e05 : LamX.ExtN H H5 := (LamX.ExtN.of s04).trans e5
    have l1 : rl ≠ l := fr5 _ _ hr4' (fun _ z => nomatch z)
    have l2 : kk ≠ l := fr5 _ _ hk4 (fun _ z => nomatch z)
    have l3 : ff ≠ l := fr5 _ _ hf4 (fun _ z => nomatch z)
    have l4 : ll ≠ l := fr5 _ _ hl4 (fun _ z => nomatch z)
    have WD : WDist H5 rl kk ff ll := ⟨d1, d2, d3, d4, d5, d6, (by rw [hr5]; exact (fun z => nomatch z)), (by rw [hk5]; exact (fun z => nomatch z)), (by rw [hf5]; exact (fun z => nomatch z)), (by rw [hll5]; exact (fun z => nomatch z))⟩
    -- what is no list of ours stays
    have st : ∀ {i : Nat} {s : WS} {H6 : Hp}, WAt H5 rl kk ff ll p (n + 1) W.length i s H6 → ∀ b o, H5 b = some o → o ≠ .lst [] → H6 b = some o := fun w b o hb no =>
      w.fr b o hb (ne_of hb hr5 no) (ne_of hb hk5 no) (ne_of hb hf5 no) (ne_of hb hll5 no)
    have stH : ∀ {i : Nat} {s : WS} {H6 : Hp}, WAt H5 rl kk ff ll p (n + 1) W.length i s H6 → LamX.ExtN H H6 := fun w b o hb no =>
      w.fr b o (e05 _ _ hb no) (ne_of_none hb rl0) (ne_of_none hb kk0) (ne_of_none hb ff0) (ne_of_none hb ll0)
    have hlp : ys.length = p ^ (n + 1) := by rw [tp5.len]; exact len_powers
    have W0 : WAt H5 rl kk ff ll p (n + 1) W.length 0 (wwalk p W ((powersOf p (n + 1)).take 0)) H5 :=
      ⟨fun b o h _ _ _ _ => h, fun b h => h, ⟨[], hk5, .nil, Nat.le_refl _⟩, ⟨[], hf5, Nat.le_refl _⟩, ⟨[], hll5, .nil, Nat.le_refl _⟩, ⟨[], ⟨[], hr5, .nil⟩, rfl, fun _ h => (nomatch h), Nat.le_refl _⟩, fun _ h => (nomatch h), fun _ h => (nomatch h)⟩
    refine ⟨l, rfl, ⟨_, .of hl5⟩, for_list (K := K) (a := l) (xs := ys) (fun i σ H6 => ∃ (x7 x8 : Option V), σ = [some (.ref sp), some (.ref pl), some (.str "degree"), some (.ref ra), some (.ref kk), some (.ref ff), some (.ref ll), x7, x8, none] ∧ WAt H5 rl kk ff ll p (n + 1) W.length i (wwalk p W ((powersOf p (n + 1)).take i)) H6)
      ⟨none, none, rfl, W0⟩ (fun i σ H6 _ ⟨_, _, _, w⟩ => .of (w.fr _ _ hl5 l1.symm l2.symm l3.symm l4.symm)) ?_ ?_⟩
    · rintro i x σ H6 hi ⟨x7, x8, rfl, w⟩
      have hi' := lt_of_get hi
      obtain ⟨m, b, hm, rfl, hb5⟩ := tp5.at hi
      have hmT : Tu p (n + 1) m := mem_powers.mp (mem_of_get hm)
      have hm : (powersOf p (n + 1))[i]? = some m := hm
      rw [wwalk_snoc hm]
      generalize wwalk p W ((powersOf p (n + 1)).take i) = ws at w
      have hb6 := st w _ _ hb5 (fun z => nomatch z)
      obtain ⟨ls, hls, tls, lls⟩ := w.l
      refine ⟨_, rfl, ll, rfl, ⟨_, .of hls⟩, fun D hD => ?_⟩
      refine lc_it (walk_list (xs := ls)) (fun j H7 => Same H6 H7 ∧ H7 D = some (.lst ((ws.leads.take j).map fun q => V.bl (divs q m)))) ⟨(Same.refl H6).upd_new1 hD, upd_same⟩ (fun j H7 _ h => .of (h.1 _ _ hls)) ?_ ?_
      · rintro j x H7 H8 hj ⟨s7, hA⟩ ⟨rfl, hx⟩
        obtain ⟨q, r, hq, rfl, hr6⟩ := tls.at hx
        have hqT := w.tl q (mem_of_get hq)
        refine ⟨rfl, _, rfl, _, rfl, r, b, q, m, rfl, s7 _ _ hr6, s7 _ _ hb6, by rw [hqT.1]; have := I.n5; omega, fun H9 s9 => ?_⟩
        refine ⟨_, s9 _ _ hA, ?_, (s7.trans s9).upd_new hD, ?_⟩
        · rw [List.length_map, List.length_take]
          exact line_lt (by omega)
        · rw [upd_same, take_snoc hq, List.map_append]
          rfl
      · rintro H7 ⟨s7, hA⟩
        rw [tls.len, List.take_length] at hA
        refine ⟨D, ws.leads.map fun q => divs q m, rfl, .of (by rw [hA, List.map_map]; rfl), _, rfl, ?_⟩
        have ea : (ws.leads.map fun q => divs q m).any id = ws.leads.any fun q => divs q m := by
          rw [List.any_map]
          rfl
        rw [ea]
        have w7 := w.same s7
        cases hany : ws.leads.any fun q => divs q m with
        | true =>
          refine iteE rfl ?_
          refine ⟨_, _, rfl, ?_⟩
          have : wstep p W ws m = ws := by
            unfold wstep
            rw [if_pos hany]
          rw [this]
          exact w7.mono (Nat.le_succ i)
        | false =>
          refine iteI rfl ?_
          obtain ⟨rws, hrws, erw, okrw, lrw⟩ := w7.r
          have hRa := st w7 _ _ hR5 (fun z => nomatch z)
          have hb7 := s7 _ _ hb6
          have eH := stH w7
          refine ⟨_, rfl, ra, dxR, _, rfl, hRa, rf_no _ _ _ (by decide +kernel) (by decide +kernel) (by decide +kernel), _, rfl, H5, ra, sp, pl, rl, b, p, n, rws, pvs, W, m, rfl, w7.dom, WD.gr, ⟨dxR, hRa⟩, I.sp.ext eH, I.pr, hpn, hrws, by omega, okrw, eH _ _ I.pl (fun _ z => nomatch z), I.tp.ext eH, I.tu, I.wl, hb7, hmT, fun hn H8 q xs s8 hq => ?_, fun kx hk H8 r bt hrw he ho => ?_⟩
          · rw [erw] at hn
            have w8 := w7.same s8
            obtain ⟨fs, hfs, lfs⟩ := w8.f
            obtain ⟨ls', hls', _, lls'⟩ := w8.l
            refine ⟨_, rfl, rfl, _, rfl, iteE (decide_eq_false fun z => nomatch z) ?_⟩
            refine ⟨_, rfl, .inl ⟨rfl, _, SqL.of hfs⟩, _, rfl, ff, _, _, rfl, rfl, hfs, line_lt (by omega), ?_⟩
            have hls2 := (upd_ne (H := H8) (o := .lst (fs ++ [.ref q])) d6.symm).trans hls'
            refine ⟨_, rfl, .inl ⟨rfl, _, SqL.of hls2⟩, _, rfl, ll, _, _, rfl, rfl, hls2, line_lt (by omega), ?_⟩
            refine ⟨_, _, rfl, ?_⟩
            have : wstep p W ws m = { ws with leads := ws.leads ++ [m] } := by
              unfold wstep
              rw [if_neg (by rw [hany]; exact Bool.false_ne_true), hn]
            rw [this]
            exact WAt.lead WD w8 hmT (s8 _ _ hb7) hfs hls'
          · rw [erw] at hk he
            obtain ⟨ks, hks, _, lks⟩ := w7.k
            have hks8 := bt _ _ hks d1
            refine ⟨_, rfl, rfl, _, rfl, iteI (decide_eq_true rfl) ?_⟩
            refine ⟨_, rfl, .inl ⟨rfl, _, SqL.of hks8⟩, _, rfl, kk, _, _, rfl, rfl, hks8, line_lt (by omega), ?_⟩
            refine ⟨_, _, rfl, ?_⟩
            have : wstep p W ws m = { ws with kept := ws.kept ++ [m], rows := ws.rows ++ [r.1] } := by
              unfold wstep
              rw [if_neg (by rw [hany]; exact Bool.false_ne_true), hk, he]
            rw [this]
            exact WAt.kept WD w7 hmT hb7 bt erw okrw lrw hrw ho hks8
    · rintro σ H6 ⟨x7, x8, rfl, w⟩
      rw [List.take_of_length_le (by rw [len_powers]; omega)] at w
      obtain ⟨ks, hks, tks, _⟩ := w.k
      refine ⟨_, rfl, _, rfl, _, rfl, by show 3 ≤ sizeLine; exact line_big (by decide), fun t ht => ?_⟩
      have m6 : MutL H5 H5 H6 := fun b o hb q => by
        refine w.fr b o hb (fun z => ?_) (fun z => ?_) (fun z => ?_) (fun z => ?_)
        · rw [z, hr5] at hb
          exact WD.gr (by rw [← z]; exact q _ (Option.some.inj hb).symm)
        · rw [z, hk5] at hb
          exact WD.gk (by rw [← z]; exact q _ (Option.some.inj hb).symm)
        · rw [z, hf5] at hb
          exact WD.gf (by rw [← z]; exact q _ (Option.some.inj hb).symm)
        · rw [z, hll5] at hb
          exact WD.gl (by rw [← z]; exact q _ (Option.some.inj hb).symm)
      have s7 : Same H6 (upd H6 t (.tup [.ref kk, .ref ff, .ref ra])) := (Same.refl H6).upd_new1 ht
      exact fin _ t kk ff ra ks ((stH w).trans (LamX.ExtN.of s7)) (tabs_ext (tabs_mut T5 m6) s7) upd_same (s7 _ _ hks) (tks.same s7) w.tk
def spStd (CS Pt : Addr) : L2.Sp := fun vs H Q _ => ∃ (sp pl : Addr) (p n : Nat) (pvs : List V) (W : List (List Int)), vs = [.ref sp, .ref pl, .str "degree"] ∧ WIn CS Pt H sp pl p n pvs W ∧
  ∀ (H' : Hp) (k : Addr) (ks : List V), LamX.ExtN H H' → LamX.Tabs (lamT Pt) H' → H' k = some (.lst ks) → Tps H' ks (wwalk p W (powersOf p (n + 1))).kept → (∀ m ∈ (wwalk p W (powersOf p (n + 1))).kept, Tu p (n + 1) m) → Q (.ref k) H'
theorem scStd : FnScope ["space", "points", "order"] ["space", "points", "order"] (defScope sStd) := ⟨rfl, rfl, rfl, by decide +kernel, rfl, by decide +kernel, by decide +kernel⟩
theorem ok_std {f f1 CS CR Pt : Addr} {fd fd1 : FuncData} (D : Df K mg "standing" sStd f fd ["space", "points", "order"]) (D1 : Df K mg "walk" sWk f1 fd1 ["space", "points", "order"]) (C : Calls K mg w P base CS CR Pt) :
    FnOk P w K mg base CX0 9 f fd ["space", "points", "order"] (spStd CS Pt) := by
  have G1 : FnOk P w K mg base CX0 8 f1 fd1 ["space", "points", "order"] (spWk CS Pt) := ok_wk D1 C
  refine D.F.ok scStd (fun vs H Q E h => ?_) (fun cdv A outer s H vs Q E hr h => ?_)
  · obtain ⟨sp, pl, p, n, pvs, W, rfl, _⟩ := h
    rfl
  · obtain ⟨sp, pl, p, n, pvs, W, rfl, I, fin⟩ := h
    refine ⟨_, pss_one (ps_ret (pe_ix ix_tup (pe_call G1 hr rfl D1.g D1.k D1.b .nil pass0 (pa_cons (pv 0) (pa_cons (pv 1) (pa_cons (pv 2) pa_nil)))) pe_int (fun _ _ => rfl))), ?_⟩
    refine ⟨_, rfl, _, rfl, _, rfl, sp, pl, p, n, pvs, W, rfl, I, fun H' t k f r ks e T' ht hk tk tu => ?_⟩
    exact ⟨t, _, _, V.ref k, rfl, rfl, .of ht, atI_nat (j := 0) rfl, fin H' k ks e T' hk tk tu⟩
end
end Gk

set_option maxHeartbeats 4000000
/-! Growth, the walks, part 14: growth. -/
namespace Gk
open PySem L2
theorem sum_in {p : Int} (hp : 1 ≤ p) : ∀ (m : List Int), In p m → 0 ≤ m.sum ∧ m.sum ≤ m.length * (p - 1)
  | [], _ => by simp
  | x :: m, h => by
    have ih := sum_in hp m fun y hy => h y (List.mem_cons_of_mem _ hy)
    have hx := h x List.mem_cons_self
    rw [List.sum_cons, List.length_cons]
    have : ((m.length + 1 : Nat) : Int) * (p - 1) = m.length * (p - 1) + (p - 1) := by
      rw [Int.natCast_succ, Int.add_mul, Int.one_mul]
    omega
/-- how many of degree d -/
def cnt (ms : List (List Int)) (d : Nat) : Nat := (ms.filter fun m => decide (m.sum = (d : Int))).length
theorem cnt_perm {a b : List (List Int)} (h : a.Perm b) (d : Nat) : cnt a d = cnt b d := (h.filter _).length_eq
theorem cnt_snoc (ms : List (List Int)) (m : List Int) (d : Nat) : cnt (ms ++ [m]) d = cnt ms d + if m.sum = (d : Int) then 1 else 0 := by
  unfold cnt
  rw [List.filter_append, List.length_append]
  by_cases h : m.sum = (d : Int) <;> simp [List.filter_cons, h]
section
variable {P : Program} {w : World} {K : PySem.W.Frag} {mg : Str → Option Value} {base : Heap}
abbrev sGr : Stmt := top 27
/-- the list of counts -/
def cntsOf (M : Nat) (ms : List (List Int)) : List V := (List.range M).map fun d => V.int (cnt ms d : Nat)
theorem cnts_set {M : Nat} {ms : List (List Int)} {m : List Int} {j : Nat} (hj : m.sum = (j : Int)) : (cntsOf M ms).set j (.int ((cnt ms j : Nat) + 1)) = cntsOf M (ms ++ [m]) := by
  apply List.ext_getElem?
  intro i
  unfold cntsOf
  rw [List.getElem?_set, List.length_map, List.length_range, List.getElem?_map, List.getElem?_map]
  by_cases hi : i < M
  · rw [List.getElem?_range hi]
    by_cases e : j = i
    · rw [if_pos e, if_pos (by omega), ← e]
      show _ = some (V.int _)
      rw [cnt_snoc, if_pos hj]
      rfl
    · rw [if_neg e]
      show some (V.int _) = some (V.int _)
      rw [cnt_snoc, if_neg (by omega)]
      rfl
  · have e1 : (List.range M)[i]? = none := by simp; omega
    rw [e1]
    by_cases e : j = i
    · rw [if_pos e, if_neg (by omega)]
      rfl
    · rw [if_neg e]
      rfl
def spGr (CS Pt : Addr) : L2.Sp := fun vs H Q _ => ∃ (sp pl : Addr) (p n : Nat) (pvs : List V) (W : List (List Int)), vs = [.ref sp, .ref pl] ∧ WIn CS Pt H sp pl p n pvs W ∧
  ∀ (H' : Hp) (cl : Addr), LamX.ExtN H H' → H cl = none → H' cl = some (.lst (cntsOf ((n + 1) * (p - 1) + 1) (wwalk p W (powersOf p (n + 1))).kept)) → Q (.ref cl) H'
theorem scGr : FnScope ["space", "points", "counts", "power"] ["space", "points"] (defScope sGr) := ⟨rfl, rfl, rfl, by decide +kernel, rfl, by decide +kernel, by decide +kernel⟩
theorem ok_gr {f f1 f2 f3 f4 f5 c CS CR Pt : Addr} {fd fd1 fd2 fd3 fd4 fd5 : FuncData} (D : Df K mg "growth" sGr f fd ["space", "points"]) (D1 : Df K mg "standing" sStd f1 fd1 ["space", "points", "order"]) (D2 : Df K mg "walk" sWk f2 fd2 ["space", "points", "order"])
    (D3 : DfC K mg "ascending" sAsc f3 c fd3 ["order", "powers"]) (D4 : Df K mg "key_of" sKey f4 fd4 ["order", "power"]) (D5 : Df K mg "degree_of" sDeg f5 fd5 ["power"]) (TB : LamX.TabB base mg c Pt) (C : Calls K mg w P base CS CR Pt) :
    FnOk P w K mg base CX0 10 f fd ["space", "points"] (spGr CS Pt) := by
  have T := C.T
  have B := C.B
  have G1 : FnOk P w K mg base CX0 9 f1 fd1 ["space", "points", "order"] (spStd CS Pt) := ok_std D1 D2 C
  have G3 : FnOk P w K mg base CX0 6 f3 fd3 ["order", "powers"] (spAsc K Pt) := ok_asc D3 D4 D5 B TB
  have G5 : FnOk P w K mg base CX0 1 f5 fd5 ["power"] (spDeg K) := ok_deg D5 B
  refine D.F.ok scGr (fun vs H Q E h => ?_) (fun cdv A outer s H vs Q E hr h => ?_)
  · obtain ⟨sp, pl, p, n, pvs, W, rfl, _⟩ := h
    rfl
  · obtain ⟨sp, pl, p, n, pvs, W, rfl, I, fin⟩ := h
    have hr1 := hr.mono (j := 1) (by decide)
    have hr6 := hr.mono (j := 6) (by decide)
    refine ⟨_, pss_cons (ps_set (i := 2) scGr.nd rfl (Or.inl rfl) (pe_op op_rep (pe_lst (pa_cons pe_int pa_nil)) (pe_op op_add (pe_op op_mul (pe_fld (pv 0) rfl) (pe_op op_sub (pe_fld (pv 0) rfl) pe_int)) pe_int)))
      (pss_cons (ps_for PassesOwn.never rfl (pi_list (pe_call G3 hr6 rfl D3.g D3.k D3.b .nil pass0 (pa_cons pe_str (pa_cons (pe_call G1 hr rfl D1.g D1.k D1.b .nil pass0 (pa_cons (pv 0) (pa_cons (pv 1) (pa_cons pe_str pa_nil)))) pa_nil)))) (pg_name (i := 3) scGr.nd rfl (Or.inl rfl))
        (pss_one (ps_augS (pv 2) (pe_call G5 hr1 rfl D5.g D5.k D5.b .nil pass0 (pa_cons (pv 3) pa_nil)) pget_list pe_int ip_add set_list)))
      (pss_one (ps_ret (pv 2)))), ?_⟩
    have h2 := I.pr.pos
    have h7 := I.pr.le
    have hn5 := I.n5
    obtain ⟨dxS, nl, hS⟩ := id I.sp
    have hMe : (((n + 1 : Nat) : Int) * ((p : Int) - 1) + 1) = (((n + 1) * (p - 1) + 1 : Nat) : Int) := by
      rw [Int.natCast_succ ((n + 1) * (p - 1)), Int.natCast_mul, Int.natCast_sub (by omega)]
      rfl
    have hM : (n + 1) * (p - 1) + 1 ≤ 100 := by
      have : (n + 1) * (p - 1) ≤ 5 * 6 := Nat.mul_le_mul hn5 (by omega)
      omega
    generalize hMM : (n + 1) * (p - 1) + 1 = M at hMe hM fin
    refine ⟨by show 1 ≤ sizeLine; exact line_big (by decide), fun l0 hl0 => ?_⟩
    have sa : Same H (upd H l0 (.lst [.int 0])) := (Same.refl H).upd_new1 hl0
    have hSa := sa _ _ hS
    refine ⟨_, rfl, sp, CS, dxS, _, _, rfl, hSa, T.cl, T.nC, sf_count _ _ _, _, rfl, sp, CS, dxS, _, _, rfl, hSa, T.cl, T.nP, sf_prime _ _ _, _, _, rfl, rfl, _, _, rfl, rfl, .inl ⟨by omega, by omega⟩, _, _, rfl, rfl, ?_⟩
    refine ⟨l0, (M : Int), [.int 0], rfl, congrArg V.int hMe, upd_same, by omega, by omega, by rw [Int.toNat_natCast]; exact line_big (by show 1 * M ≤ 100000; omega), fun cl hcl => ?_⟩
    have cl0 : H cl = none := sa.free hcl
    have e0 : (List.replicate (M : Int).toNat [V.int 0]).flatten = cntsOf M [] := by
      rw [Int.toNat_natCast, List.flatten_replicate_singleton]
      have : cntsOf M [] = (List.range M).map fun _ => V.int 0 := rfl
      rw [this, List.map_const', List.length_range]
    rw [e0]
    have s2 : Same H (upd (upd H l0 (.lst [.int 0])) cl (.lst (cntsOf M []))) := sa.upd_new1 hcl
    have hcl2 : (upd (upd H l0 (.lst [.int 0])) cl (.lst (cntsOf M []))) cl = some (.lst (cntsOf M [])) := upd_same
    generalize upd (upd H l0 (.lst [.int 0])) cl (.lst (cntsOf M [])) = H2 at s2 hcl2
    refine ⟨_, rfl, _, rfl, sp, pl, p, n, pvs, W, rfl, ⟨I.sp.same s2, I.pr, I.n5, I.pn, s2 _ _ I.pl, I.tp.same s2, I.tu, I.wl, tabs_ext I.tb s2⟩, fun H3 k ks e3 T3 hk3 tk3 tu3 => ?_⟩
    generalize (wwalk p W (powersOf p (n + 1))).kept = kept at fin tk3 tu3
    refine ⟨k, ks, kept, n, rfl, .of hk3, tk3, fun m hm => (tu3 m hm).1, T3, fun H4 l ys e4 T4 fr4 hl4 t4 => ?_⟩
    have hcl3 := e3 _ _ hcl2 (fun _ z => nomatch z)
    have hcl4 := e4 _ _ hcl3 (fun _ z => nomatch z)
    have ncl : cl ≠ l := fr4 _ _ hcl3 (fun _ z => nomatch z)
    have e04 : LamX.ExtN H H4 := ((LamX.ExtN.of s2).trans e3).trans e4
    refine ⟨l, rfl, ⟨_, .of hl4⟩, for_list (K := K) (a := l) (xs := ys) (fun i σ H5 => ∃ (x3 : Option V), σ = [some (.ref sp), some (.ref pl), some (.ref cl), x3] ∧ (∀ b o, H4 b = some o → b ≠ cl → H5 b = some o) ∧ H5 cl = some (.lst (cntsOf M ((kept.mergeSort (PySem.W.dataLe false keyD)).take i))))
      ⟨none, rfl, fun b o h _ => h, hcl4⟩ (fun i σ H5 _ ⟨_, _, f, _⟩ => .of (f _ _ hl4 ncl.symm)) ?_ ?_⟩
    · rintro i x σ H5 hi ⟨x3, rfl, fr, hc⟩
      obtain ⟨m, b, hm, rfl, hb4⟩ := t4.at hi
      have hmk : m ∈ kept := List.mem_mergeSort.mp (mem_of_get hm)
      have hmT := tu3 m hmk
      have hb5 := fr _ _ hb4 (ne_of hb4 hcl4 (fun z => nomatch z))
      obtain ⟨z0, z1⟩ := sum_in (p := p) (by omega) m hmT.2
      rw [hmT.1] at z1
      have ej : m.sum = ((m.sum.toNat : Nat) : Int) := (Int.toNat_of_nonneg z0).symm
      have hjM : m.sum.toNat < M := by omega
      rw [take_snoc hm]
      generalize (kept.mergeSort (PySem.W.dataLe false keyD)).take i = pre at hc
      have hlen : (cntsOf M pre).length = M := by unfold cntsOf; rw [List.length_map, List.length_range]
      refine ⟨_, rfl, _, rfl, b, m, rfl, .of hb5, ?_⟩
      refine ⟨cl, _, m.sum.toNat, V.int (cnt pre m.sum.toNat : Nat), rfl, by rw [← ej], .of hc, ?_, ?_⟩
      · unfold cntsOf
        rw [List.getElem?_map, List.getElem?_range hjM]
        rfl
      refine ⟨_, _, rfl, rfl, cl, _, m.sum, m.sum.toNat, rfl, rfl, hc, ?_, ?_⟩
      · unfold ixN
        rw [if_pos z0, if_pos (by rw [hlen]; omega)]
      refine ⟨_, rfl, fun c o h hn => ?_, ?_⟩
      · rw [upd_ne hn]
        exact fr c o h hn
      · rw [upd_same, cnts_set ej]
    · rintro σ H5 ⟨x3, rfl, fr, hc⟩
      rw [List.take_of_length_le (by rw [t4.len]; exact Nat.le_refl _)] at hc
      refine ⟨_, rfl, fin H5 cl (fun b o h hn => fr _ _ (e04 _ _ h hn) (ne_of_none h cl0)) cl0 ?_⟩
      rw [hc]
      have : cntsOf M (kept.mergeSort (PySem.W.dataLe false keyD)) = cntsOf M kept := by
        unfold cntsOf
        refine List.map_congr_left fun d _ => ?_
        rw [cnt_perm (List.mergeSort_perm kept _) d]
      rw [this]
end
end Gk

set_option maxHeartbeats 4000000
/-! Growth, the law's walks, part 1: _law_cell, _law_digits. -/
namespace Gk
open PySem L2
section
variable {P : Program} {w : World} {K : PySem.W.Frag} {mg : Str → Option Value} {base : Heap}
abbrev sCe : Stmt := top 29
abbrev sDg : Stmt := top 30
def spCe (K : PySem.W.Frag) : L2.Sp := fun vs H Q _ => ∃ (a : Addr) (ns : List Int) (j : Nat), vs = [.ref a, .int j] ∧ SqL K H a (ns.map V.int) ∧ ∀ z, Q (.int z) H
theorem scCe : FnScope ["_law_script", "_law_k"] ["_law_script", "_law_k"] (defScope sCe) := ⟨rfl, rfl, rfl, by decide +kernel, rfl, by decide +kernel, by decide +kernel⟩
theorem ok_ce {f : Addr} {fd : FuncData} (D : Df K mg "_law_cell" sCe f fd ["_law_script", "_law_k"]) (B : Nms mg) : FnOk P w K mg base CX0 1 f fd ["_law_script", "_law_k"] (spCe K) := by
  refine D.F.ok scCe (fun vs H Q E h => ?_) (fun cdv A outer s H vs Q E hr h => ?_)
  · obtain ⟨a, ns, j, rfl, _⟩ := h
    rfl
  · obtain ⟨a, ns, j, rfl, hS, k⟩ := h
    refine ⟨_, pss_cons (ps_if (pt_cmpR op_lt (pv 1) (pe_callB call_len_seq (by rfl) B.len PySem.boot_len (pa_cons (pv 0) pa_nil)) (nomark _)) (pss_one (ps_ret (pe_ix ix_list (pv 0) (pv 1) (fun _ _ => rfl)))) pss_nil)
      (pss_one (ps_ret pe_int)), ?_⟩
    refine ⟨_, rfl, _, rfl, a, _, rfl, .inl hS, _, _, rfl, rfl, _, rfl, ?_⟩
    by_cases hj : (j : Int) < ((ns.map V.int).length : Nat)
    · rw [decide_eq_true hj]
      rw [List.length_map] at hj
      exact iteT ⟨_, rfl, _, rfl, a, _, _, _, rfl, rfl, hS, atI_nat (get_int (by omega)), k _⟩
    · rw [decide_eq_false hj]
      exact iteF (k 0)
def spDg : L2.Sp := fun vs H Q _ => ∃ (c m : Int) (n : Nat), vs = [.int c, .int m, .int n] ∧ 0 < m ∧ m < 1000 ∧ n ≤ 5000 ∧ ∀ (H' : Hp) (l : Addr) (ds : List Int), Same H H' → H l = none → H' l = some (.lst (ds.map V.int)) → ds.length = n → Q (.ref l) H'
theorem scDg : FnScope ["_law_cell_here", "_law_many", "_law_count", "_law_digits_here", "_law_rest", "_law_k", "_law_mixed"] ["_law_cell_here", "_law_many", "_law_count"] (defScope sDg) := ⟨rfl, rfl, rfl, by decide +kernel, rfl, by decide +kernel, by decide +kernel⟩
theorem ok_dg {f : Addr} {fd : FuncData} (D : Df K mg "_law_digits" sDg f fd ["_law_cell_here", "_law_many", "_law_count"]) (B : Nms mg) : FnOk P w K mg base CX0 1 f fd ["_law_cell_here", "_law_many", "_law_count"] spDg := by
  refine D.F.ok scDg (fun vs H Q E h => ?_) (fun cdv A outer s H vs Q E hr h => ?_)
  · obtain ⟨c, m, n, rfl, _⟩ := h
    rfl
  · obtain ⟨c, m, n, rfl, m0, m1, hn, k⟩ := h
    refine ⟨_, pss_cons (ps_set (i := 3) scDg.nd rfl (Or.inl rfl) (pe_lst pa_nil)) (pss_cons (ps_set (i := 4) scDg.nd rfl (Or.inl rfl) (pv 0))
      (pss_cons (ps_for PassesOwn.never rfl (pi_range1 rfl B.range (pa_cons (pv 2) pa_nil)) (pg_name (i := 5) scDg.nd rfl (Or.inl rfl))
        (pss_one (ps_if (pt_cmpR op_ge (pv 0) (pe_op op_pow pe_int pe_int) (nomark _))
          (pss_cons (ps_expr (pe_bm PySem.F.plainAttrs_list PySem.F.slot_list_append PySem.F.type_list_append mt_append (pv 3) (pa_cons (pe_op op_mod (pe_callTy call_int1 (by rfl) B.int (by decide +kernel) (pa_cons (pv 4) pa_nil)) (pv 1)) pa_nil)))
          (pss_one (ps_set (i := 4) scDg.nd rfl (Or.inl rfl) (pe_op op_fdiv (pv 4) (pv 1)))))
          (pss_cons (ps_set (i := 6) scDg.nd rfl (Or.inl rfl) (pe_op op_mod (pe_callTy call_int1 (by rfl) B.int (by decide +kernel) (pa_cons (pe_op op_add (pe_op op_add (pe_op op_mul (pv 0) pe_int) (pe_op op_mul (pv 5) pe_int)) pe_int) pa_nil)) pe_int))
          (pss_cons (ps_set (i := 6) scDg.nd rfl (Or.inl rfl) (pe_op op_mod (pe_callTy call_int1 (by rfl) B.int (by decide +kernel) (pa_cons (pe_op op_add (pe_op op_add (pe_op op_mul (pv 6) (pv 6)) (pe_op op_mul pe_int (pv 6))) (pv 5)) pa_nil)) pe_int))
          (pss_one (ps_expr (pe_bm PySem.F.plainAttrs_list PySem.F.slot_list_append PySem.F.type_list_append mt_append (pv 3) (pa_cons (pe_op op_mod (pe_callTy call_int1 (by rfl) B.int (by decide +kernel) (pa_cons (pe_op op_fdiv (pv 6) pe_int) pa_nil)) (pv 1)) pa_nil)))))))))
      (pss_one (ps_ret (pv 3))))), ?_⟩
    refine ⟨Nat.zero_le _, fun l hl => ⟨_, rfl, ?_⟩⟩
    refine ⟨_, rfl, n, rfl, by omega, by omega, for_range (n := n) (fun i σ H2 => ∃ (r : Int) (x5 x6 : Option V) (ds : List Int), σ = [some (.int c), some (.int m), some (.int n), some (.ref l), some (.int r), x5, x6] ∧ Same H H2 ∧ H2 l = some (.lst (ds.map V.int)) ∧ ds.length = i)
      ⟨c, none, none, [], rfl, (Same.refl H).upd_new1 hl, upd_same, rfl⟩ ?_ ?_⟩
    · rintro i σ H2 hi ⟨r, x5, x6, ds, rfl, s2, hL, hd⟩
      have hz : (ds.map V.int).length < sizeLine := by rw [List.length_map]; exact line_lt (by omega)
      have fin : ∀ z : Int, Same H (upd H2 l (.lst (ds.map V.int ++ [V.int z]))) ∧ (upd H2 l (.lst (ds.map V.int ++ [V.int z]))) l = some (.lst ((ds ++ [z]).map V.int)) ∧ (ds ++ [z]).length = i + 1 := fun z =>
        ⟨s2.upd_new hl, by rw [upd_same, List.map_append]; rfl, by rw [List.length_append, hd]; rfl⟩
      refine ⟨_, rfl, _, _, rfl, rfl, ⟨by decide, by decide, by decide⟩, _, _, rfl, rfl, _, rfl, ifB ?_ ?_⟩
      · refine ⟨_, rfl, .inl ⟨rfl, _, SqL.of hL⟩, _, rfl, .inl ⟨_, rfl, _, rfl, _, _, rfl, rfl, m0, l, _, _, rfl, rfl, hL, hz, ?_⟩⟩
        refine ⟨_, rfl, _, rfl, _, _, rfl, rfl, ⟨m0, by omega⟩, ?_⟩
        exact ⟨_, _, _, _, rfl, fin _⟩
      · refine ⟨_, rfl, _, _, rfl, rfl, .inr ⟨by decide, by decide⟩, _, rfl, _, _, rfl, rfl, .inr ⟨by decide, by decide⟩, _, _, rfl, rfl, _, _, rfl, rfl, .inl ⟨_, rfl, _, _, rfl, rfl, (by show (0 : Int) < 2147483647; decide), ?_⟩⟩
        generalize hq : (c * 48271 + (0 + (i : Int)) * 69621 + 1013) % 2147483647 = q
        have hq0 : 0 ≤ q := by rw [← hq]; exact Int.emod_nonneg _ (by decide)
        have hq1 : q < 2147483647 := by rw [← hq]; exact Int.emod_lt_of_pos _ (by decide)
        refine ⟨_, rfl, _, rfl, _, _, rfl, rfl, .inl ⟨by omega, by omega⟩, _, rfl, _, _, rfl, rfl, .inl ⟨by decide, by decide⟩, _, _, rfl, rfl, _, rfl, _, _, rfl, rfl, .inl ⟨_, rfl, _, _, rfl, rfl, (by show (0 : Int) < 2147483629; decide), ?_⟩⟩
        refine ⟨_, rfl, .inl ⟨rfl, _, SqL.of hL⟩, _, rfl, _, _, rfl, rfl, ⟨by decide, by decide⟩, .inl ⟨_, rfl, _, rfl, _, _, rfl, rfl, m0, l, _, _, rfl, rfl, hL, hz, ?_⟩⟩
        exact ⟨_, _, _, _, rfl, fin _⟩
    · rintro σ H2 ⟨r, x5, x6, ds, rfl, s2, hL, hd⟩
      exact ⟨_, rfl, k H2 l ds s2 hl hL hd⟩
end
end Gk

set_option maxHeartbeats 4000000
/-! Growth, the law's walks, part 2: _law_shape, _law_names. -/
namespace Gk
open PySem L2
def shapes : List (Nat × Nat) := [(2, 1), (2, 2), (2, 3), (3, 1), (3, 2), (5, 1), (2, 4), (3, 3), (7, 1), (5, 2)]
section
variable {P : Program} {w : World} {K : PySem.W.Frag} {mg : Str → Option Value} {base : Heap}
abbrev sSh : Stmt := top 31
abbrev sNa : Stmt := top 32
def spSh : L2.Sp := fun vs H Q _ => ∃ (c : Int), vs = [.int c] ∧ 0 ≤ c ∧ c < 10 ∧ ∀ (H' : Hp) (t : Addr) (p n : Nat), Same H H' → H' t = some (.tup [.int (p : Nat), .int (n : Nat)]) → (p, n) ∈ shapes → Q (.ref t) H'
theorem scSh : FnScope ["_law_cell_here", "_law_shapes"] ["_law_cell_here"] (defScope sSh) := ⟨rfl, rfl, rfl, by decide +kernel, rfl, by decide +kernel, by decide +kernel⟩
theorem ok_sh {f : Addr} {fd : FuncData} (D : Df K mg "_law_shape" sSh f fd ["_law_cell_here"]) (B : Nms mg) : FnOk P w K mg base CX0 1 f fd ["_law_cell_here"] spSh := by
  refine D.F.ok scSh (fun vs H Q E h => ?_) (fun cdv A outer s H vs Q E hr h => ?_)
  · obtain ⟨c, rfl, _⟩ := h
    rfl
  · obtain ⟨c, rfl, c0, c1, k⟩ := h
    refine ⟨_, pss_cons (ps_set (i := 1) scSh.nd rfl (Or.inl rfl) (pe_lst (pa_cons (pe_tup (pa_cons pe_int (pa_cons pe_int pa_nil))) (pa_cons (pe_tup (pa_cons pe_int (pa_cons pe_int pa_nil))) (pa_cons (pe_tup (pa_cons pe_int (pa_cons pe_int pa_nil))) (pa_cons (pe_tup (pa_cons pe_int (pa_cons pe_int pa_nil))) (pa_cons (pe_tup (pa_cons pe_int (pa_cons pe_int pa_nil))) (pa_cons (pe_tup (pa_cons pe_int (pa_cons pe_int pa_nil))) (pa_cons (pe_tup (pa_cons pe_int (pa_cons pe_int pa_nil))) (pa_cons (pe_tup (pa_cons pe_int (pa_cons pe_int pa_nil))) (pa_cons (pe_tup (pa_cons pe_int (pa_cons pe_int pa_nil))) (pa_cons (pe_tup (pa_cons pe_int (pa_cons pe_int pa_nil))) (pa_cons (pe_tup (pa_cons pe_int (pa_cons pe_int pa_nil))) (pa_cons (pe_tup (pa_cons pe_int (pa_cons pe_int pa_nil))) pa_nil))))))))))))))
      (pss_one (ps_ret (pe_ix ix_list (pv 1) (pe_op op_mod (pe_callTy call_int1 (by rfl) B.int (by decide +kernel) (pa_cons (pv 0) pa_nil)) pe_int) (fun _ _ => rfl)))), ?_⟩
    have s0 : Same H H := Same.refl H
    refine ⟨by show 2 ≤ sizeLine; exact line_big (by decide), fun t0 h0 => ?_⟩
    have n0 := (Same.refl (H)).upd_new1 (o := (.tup [.int 2, .int 1])) h0
    have s1 := s0.trans n0
    have f0 : (upd (H) t0 (.tup [.int 2, .int 1])) t0 = some (.tup [.int 2, .int 1]) := upd_same
    refine ⟨by show 2 ≤ sizeLine; exact line_big (by decide), fun t1 h1 => ?_⟩
    have n1 := (Same.refl (upd (H) t0 (.tup [.int 2, .int 1]))).upd_new1 (o := (.tup [.int 2, .int 2])) h1
    have s2 := s1.trans n1
    have f0 := n1 _ _ f0
    have f1 : (upd (upd (H) t0 (.tup [.int 2, .int 1])) t1 (.tup [.int 2, .int 2])) t1 = some (.tup [.int 2, .int 2]) := upd_same
    refine ⟨by show 2 ≤ sizeLine; exact line_big (by decide), fun t2 h2 => ?_⟩
    have n2 := (Same.refl (upd (upd (H) t0 (.tup [.int 2, .int 1])) t1 (.tup [.int 2, .int 2]))).upd_new1 (o := (.tup [.int 2, .int 3])) h2
    have s3 := s2.trans n2
    have f0 := n2 _ _ f0
    have f1 := n2 _ _ f1
    have f2 : (upd (upd (upd (H) t0 (.tup [.int 2, .int 1])) t1 (.tup [.int 2, .int 2])) t2 (.tup [.int 2, .int 3])) t2 = some (.tup [.int 2, .int 3]) := upd_same
    refine ⟨by show 2 ≤ sizeLine; exact line_big (by decide), fun t3 h3 => ?_⟩
    have n3 := (Same.refl (upd (upd (upd (H) t0 (.tup [.int 2, .int 1])) t1 (.tup [.int 2, .int 2])) t2 (.tup [.int 2, .int 3]))).upd_new1 (o := (.tup [.int 3, .int 1])) h3
    have s4 := s3.trans n3
    have f0 := n3 _ _ f0
    have f1 := n3 _ _ f1
    have f2 := n3 _ _ f2
    have f3 : (upd (upd (upd (upd (H) t0 (.tup [.int 2, .int 1])) t1 (.tup [.int 2, .int 2])) t2 (.tup [.int 2, .int 3])) t3 (.tup [.int 3, .int 1])) t3 = some (.tup [.int 3, .int 1]) := upd_same
    refine ⟨by show 2 ≤ sizeLine; exact line_big (by decide), fun t4 h4 => ?_⟩
    have n4 := (Same.refl (upd (upd (upd (upd (H) t0 (.tup [.int 2, .int 1])) t1 (.tup [.int 2, .int 2])) t2 (.tup [.int 2, .int 3])) t3 (.tup [.int 3, .int 1]))).upd_new1 (o := (.tup [.int 3, .int 2])) h4
    have s5 := s4.trans n4
    have f0 := n4 _ _ f0
    have f1 := n4 _ _ f1
    have f2 := n4 _ _ f2
    have f3 := n4 _ _ f3
    have f4 : (upd (upd (upd (upd (upd (H) t0 (.tup [.int 2, .int 1])) t1 (.tup [.int 2, .int 2])) t2 (.tup [.int 2, .int 3])) t3 (.tup [.int 3, .int 1])) t4 (.tup [.int 3, .int 2])) t4 = some (.tup [.int 3, .int 2]) := upd_same
    refine ⟨by show 2 ≤ sizeLine; exact line_big (by decide), fun t5 h5 => ?_⟩
    have n5 := (Same.refl (upd (upd (upd (upd (upd (H) t0 (.tup [.int 2, .int 1])) t1 (.tup [.int 2, .int 2])) t2 (.tup [.int 2, .int 3])) t3 (.tup [.int 3, .int 1])) t4 (.tup [.int 3, .int 2]))).upd_new1 (o := (.tup [.int 5, .int 1])) h5
    have s6 := s5.trans n5
    have f0 := n5 _ _ f0
    have f1 := n5 _ _ f1
    have f2 := n5 _ _ f2
    have f3 := n5 _ _ f3
    have f4 := n5 _ _ f4
    have f5 : (upd (upd (upd (upd (upd (upd (H) t0 (.tup [.int 2, .int 1])) t1 (.tup [.int 2, .int 2])) t2 (.tup [.int 2, .int 3])) t3 (.tup [.int 3, .int 1])) t4 (.tup [.int 3, .int 2])) t5 (.tup [.int 5, .int 1])) t5 = some (.tup [.int 5, .int 1]) := upd_same
    refine ⟨by show 2 ≤ sizeLine; exact line_big (by decide), fun t6 h6 => ?_⟩
    have n6 := (Same.refl (upd (upd (upd (upd (upd (upd (H) t0 (.tup [.int 2, .int 1])) t1 (.tup [.int 2, .int 2])) t2 (.tup [.int 2, .int 3])) t3 (.tup [.int 3, .int 1])) t4 (.tup [.int 3, .int 2])) t5 (.tup [.int 5, .int 1]))).upd_new1 (o := (.tup [.int 2, .int 4])) h6
    have s7 := s6.trans n6
    have f0 := n6 _ _ f0
    have f1 := n6 _ _ f1
    have f2 := n6 _ _ f2
    have f3 := n6 _ _ f3
    have f4 := n6 _ _ f4
    have f5 := n6 _ _ f5
    have f6 : (upd (upd (upd (upd (upd (upd (upd (H) t0 (.tup [.int 2, .int 1])) t1 (.tup [.int 2, .int 2])) t2 (.tup [.int 2, .int 3])) t3 (.tup [.int 3, .int 1])) t4 (.tup [.int 3, .int 2])) t5 (.tup [.int 5, .int 1])) t6 (.tup [.int 2, .int 4])) t6 = some (.tup [.int 2, .int 4]) := upd_same
    refine ⟨by show 2 ≤ sizeLine; exact line_big (by decide), fun t7 h7 => ?_⟩
    have n7 := (Same.refl (upd (upd (upd (upd (upd (upd (upd (H) t0 (.tup [.int 2, .int 1])) t1 (.tup [.int 2, .int 2])) t2 (.tup [.int 2, .int 3])) t3 (.tup [.int 3, .int 1])) t4 (.tup [.int 3, .int 2])) t5 (.tup [.int 5, .int 1])) t6 (.tup [.int 2, .int 4]))).upd_new1 (o := (.tup [.int 3, .int 3])) h7
    have s8 := s7.trans n7
    have f0 := n7 _ _ f0
    have f1 := n7 _ _ f1
    have f2 := n7 _ _ f2
    have f3 := n7 _ _ f3
    have f4 := n7 _ _ f4
    have f5 := n7 _ _ f5
    have f6 := n7 _ _ f6
    have f7 : (upd (upd (upd (upd (upd (upd (upd (upd (H) t0 (.tup [.int 2, .int 1])) t1 (.tup [.int 2, .int 2])) t2 (.tup [.int 2, .int 3])) t3 (.tup [.int 3, .int 1])) t4 (.tup [.int 3, .int 2])) t5 (.tup [.int 5, .int 1])) t6 (.tup [.int 2, .int 4])) t7 (.tup [.int 3, .int 3])) t7 = some (.tup [.int 3, .int 3]) := upd_same
    refine ⟨by show 2 ≤ sizeLine; exact line_big (by decide), fun t8 h8 => ?_⟩
    have n8 := (Same.refl (upd (upd (upd (upd (upd (upd (upd (upd (H) t0 (.tup [.int 2, .int 1])) t1 (.tup [.int 2, .int 2])) t2 (.tup [.int 2, .int 3])) t3 (.tup [.int 3, .int 1])) t4 (.tup [.int 3, .int 2])) t5 (.tup [.int 5, .int 1])) t6 (.tup [.int 2, .int 4])) t7 (.tup [.int 3, .int 3]))).upd_new1 (o := (.tup [.int 7, .int 1])) h8
    have s9 := s8.trans n8
    have f0 := n8 _ _ f0
    have f1 := n8 _ _ f1
    have f2 := n8 _ _ f2
    have f3 := n8 _ _ f3
    have f4 := n8 _ _ f4
    have f5 := n8 _ _ f5
    have f6 := n8 _ _ f6
    have f7 := n8 _ _ f7
    have f8 : (upd (upd (upd (upd (upd (upd (upd (upd (upd (H) t0 (.tup [.int 2, .int 1])) t1 (.tup [.int 2, .int 2])) t2 (.tup [.int 2, .int 3])) t3 (.tup [.int 3, .int 1])) t4 (.tup [.int 3, .int 2])) t5 (.tup [.int 5, .int 1])) t6 (.tup [.int 2, .int 4])) t7 (.tup [.int 3, .int 3])) t8 (.tup [.int 7, .int 1])) t8 = some (.tup [.int 7, .int 1]) := upd_same
    refine ⟨by show 2 ≤ sizeLine; exact line_big (by decide), fun t9 h9 => ?_⟩
    have n9 := (Same.refl (upd (upd (upd (upd (upd (upd (upd (upd (upd (H) t0 (.tup [.int 2, .int 1])) t1 (.tup [.int 2, .int 2])) t2 (.tup [.int 2, .int 3])) t3 (.tup [.int 3, .int 1])) t4 (.tup [.int 3, .int 2])) t5 (.tup [.int 5, .int 1])) t6 (.tup [.int 2, .int 4])) t7 (.tup [.int 3, .int 3])) t8 (.tup [.int 7, .int 1]))).upd_new1 (o := (.tup [.int 5, .int 2])) h9
    have s10 := s9.trans n9
    have f0 := n9 _ _ f0
    have f1 := n9 _ _ f1
    have f2 := n9 _ _ f2
    have f3 := n9 _ _ f3
    have f4 := n9 _ _ f4
    have f5 := n9 _ _ f5
    have f6 := n9 _ _ f6
    have f7 := n9 _ _ f7
    have f8 := n9 _ _ f8
    have f9 : (upd (upd (upd (upd (upd (upd (upd (upd (upd (upd (H) t0 (.tup [.int 2, .int 1])) t1 (.tup [.int 2, .int 2])) t2 (.tup [.int 2, .int 3])) t3 (.tup [.int 3, .int 1])) t4 (.tup [.int 3, .int 2])) t5 (.tup [.int 5, .int 1])) t6 (.tup [.int 2, .int 4])) t7 (.tup [.int 3, .int 3])) t8 (.tup [.int 7, .int 1])) t9 (.tup [.int 5, .int 2])) t9 = some (.tup [.int 5, .int 2]) := upd_same
    refine ⟨by show 2 ≤ sizeLine; exact line_big (by decide), fun t10 h10 => ?_⟩
    have n10 := (Same.refl (upd (upd (upd (upd (upd (upd (upd (upd (upd (upd (H) t0 (.tup [.int 2, .int 1])) t1 (.tup [.int 2, .int 2])) t2 (.tup [.int 2, .int 3])) t3 (.tup [.int 3, .int 1])) t4 (.tup [.int 3, .int 2])) t5 (.tup [.int 5, .int 1])) t6 (.tup [.int 2, .int 4])) t7 (.tup [.int 3, .int 3])) t8 (.tup [.int 7, .int 1])) t9 (.tup [.int 5, .int 2]))).upd_new1 (o := (.tup [.int 2, .int 5])) h10
    have s11 := s10.trans n10
    have f0 := n10 _ _ f0
    have f1 := n10 _ _ f1
    have f2 := n10 _ _ f2
    have f3 := n10 _ _ f3
    have f4 := n10 _ _ f4
    have f5 := n10 _ _ f5
    have f6 := n10 _ _ f6
    have f7 := n10 _ _ f7
    have f8 := n10 _ _ f8
    have f9 := n10 _ _ f9
    have f10 : (upd (upd (upd (upd (upd (upd (upd (upd (upd (upd (upd (H) t0 (.tup [.int 2, .int 1])) t1 (.tup [.int 2, .int 2])) t2 (.tup [.int 2, .int 3])) t3 (.tup [.int 3, .int 1])) t4 (.tup [.int 3, .int 2])) t5 (.tup [.int 5, .int 1])) t6 (.tup [.int 2, .int 4])) t7 (.tup [.int 3, .int 3])) t8 (.tup [.int 7, .int 1])) t9 (.tup [.int 5, .int 2])) t10 (.tup [.int 2, .int 5])) t10 = some (.tup [.int 2, .int 5]) := upd_same
    refine ⟨by show 2 ≤ sizeLine; exact line_big (by decide), fun t11 h11 => ?_⟩
    have n11 := (Same.refl (upd (upd (upd (upd (upd (upd (upd (upd (upd (upd (upd (H) t0 (.tup [.int 2, .int 1])) t1 (.tup [.int 2, .int 2])) t2 (.tup [.int 2, .int 3])) t3 (.tup [.int 3, .int 1])) t4 (.tup [.int 3, .int 2])) t5 (.tup [.int 5, .int 1])) t6 (.tup [.int 2, .int 4])) t7 (.tup [.int 3, .int 3])) t8 (.tup [.int 7, .int 1])) t9 (.tup [.int 5, .int 2])) t10 (.tup [.int 2, .int 5]))).upd_new1 (o := (.tup [.int 7, .int 2])) h11
    have s12 := s11.trans n11
    have f0 := n11 _ _ f0
    have f1 := n11 _ _ f1
    have f2 := n11 _ _ f2
    have f3 := n11 _ _ f3
    have f4 := n11 _ _ f4
    have f5 := n11 _ _ f5
    have f6 := n11 _ _ f6
    have f7 := n11 _ _ f7
    have f8 := n11 _ _ f8
    have f9 := n11 _ _ f9
    have f10 := n11 _ _ f10
    have f11 : (upd (upd (upd (upd (upd (upd (upd (upd (upd (upd (upd (upd (H) t0 (.tup [.int 2, .int 1])) t1 (.tup [.int 2, .int 2])) t2 (.tup [.int 2, .int 3])) t3 (.tup [.int 3, .int 1])) t4 (.tup [.int 3, .int 2])) t5 (.tup [.int 5, .int 1])) t6 (.tup [.int 2, .int 4])) t7 (.tup [.int 3, .int 3])) t8 (.tup [.int 7, .int 1])) t9 (.tup [.int 5, .int 2])) t10 (.tup [.int 2, .int 5])) t11 (.tup [.int 7, .int 2])) t11 = some (.tup [.int 7, .int 2]) := upd_same
    refine ⟨by show 12 ≤ sizeLine; exact line_big (by decide), fun l hl => ?_⟩
    have nl := (Same.refl (upd (upd (upd (upd (upd (upd (upd (upd (upd (upd (upd (upd (H) t0 (.tup [.int 2, .int 1])) t1 (.tup [.int 2, .int 2])) t2 (.tup [.int 2, .int 3])) t3 (.tup [.int 3, .int 1])) t4 (.tup [.int 3, .int 2])) t5 (.tup [.int 5, .int 1])) t6 (.tup [.int 2, .int 4])) t7 (.tup [.int 3, .int 3])) t8 (.tup [.int 7, .int 1])) t9 (.tup [.int 5, .int 2])) t10 (.tup [.int 2, .int 5])) t11 (.tup [.int 7, .int 2]))).upd_new1 (o := .lst [.ref t0, .ref t1, .ref t2, .ref t3, .ref t4, .ref t5, .ref t6, .ref t7, .ref t8, .ref t9, .ref t10, .ref t11]) hl
    refine ⟨_, rfl, _, rfl, .inl ⟨_, rfl, _, _, rfl, rfl, (by show (0 : Int) < 12; decide), ?_⟩⟩
    have hc : c = 0 ∨ c = 1 ∨ c = 2 ∨ c = 3 ∨ c = 4 ∨ c = 5 ∨ c = 6 ∨ c = 7 ∨ c = 8 ∨ c = 9 := by omega
    rcases hc with rfl | rfl | rfl | rfl | rfl | rfl | rfl | rfl | rfl | rfl
    · exact ⟨l, _, _, V.ref t0, rfl, rfl, .of upd_same, atI_nat (j := 0) rfl, k _ t0 2 1 (s12.trans nl) (nl _ _ f0) (by decide)⟩
    · exact ⟨l, _, _, V.ref t1, rfl, rfl, .of upd_same, atI_nat (j := 1) rfl, k _ t1 2 2 (s12.trans nl) (nl _ _ f1) (by decide)⟩
    · exact ⟨l, _, _, V.ref t2, rfl, rfl, .of upd_same, atI_nat (j := 2) rfl, k _ t2 2 3 (s12.trans nl) (nl _ _ f2) (by decide)⟩
    · exact ⟨l, _, _, V.ref t3, rfl, rfl, .of upd_same, atI_nat (j := 3) rfl, k _ t3 3 1 (s12.trans nl) (nl _ _ f3) (by decide)⟩
    · exact ⟨l, _, _, V.ref t4, rfl, rfl, .of upd_same, atI_nat (j := 4) rfl, k _ t4 3 2 (s12.trans nl) (nl _ _ f4) (by decide)⟩
    · exact ⟨l, _, _, V.ref t5, rfl, rfl, .of upd_same, atI_nat (j := 5) rfl, k _ t5 5 1 (s12.trans nl) (nl _ _ f5) (by decide)⟩
    · exact ⟨l, _, _, V.ref t6, rfl, rfl, .of upd_same, atI_nat (j := 6) rfl, k _ t6 2 4 (s12.trans nl) (nl _ _ f6) (by decide)⟩
    · exact ⟨l, _, _, V.ref t7, rfl, rfl, .of upd_same, atI_nat (j := 7) rfl, k _ t7 3 3 (s12.trans nl) (nl _ _ f7) (by decide)⟩
    · exact ⟨l, _, _, V.ref t8, rfl, rfl, .of upd_same, atI_nat (j := 8) rfl, k _ t8 7 1 (s12.trans nl) (nl _ _ f8) (by decide)⟩
    · exact ⟨l, _, _, V.ref t9, rfl, rfl, .of upd_same, atI_nat (j := 9) rfl, k _ t9 5 2 (s12.trans nl) (nl _ _ f9) (by decide)⟩

def menuL : List Str := ["x", "y", "z", "x1", "b", "word", "k9", "verylongname"]
def idxs (s t n : Nat) : List Nat := (List.range n).map fun k => (s + t * k) % 8
def namesL (s t n : Nat) : List Str := (idxs s t n).map fun i => menuL.getD i Str.empty
theorem idxs_nd : ∀ s, s < 8 → ∀ t ∈ [1, 3, 5, 7], ∀ n, n < 6 → (idxs s t n).Nodup := by decide +kernel
theorem menu_inj : ∀ i, i < 8 → ∀ j, j < 8 → menuL.getD i Str.empty = menuL.getD j Str.empty → i = j := by decide +kernel
theorem menu_ok : ∀ i, i < 8 → okName (menuL.getD i Str.empty) = true := by decide +kernel
theorem idxs_lt {s t n i : Nat} (h : i ∈ idxs s t n) : i < 8 := by
  obtain ⟨k, _, rfl⟩ := List.mem_map.mp h
  exact Nat.mod_lt _ (by decide)
theorem names_nd {s t n : Nat} (hs : s < 8) (ht : t ∈ [1, 3, 5, 7]) (hn : n < 6) : (namesL s t n).Nodup := by
  refine List.pairwise_map.mpr ((idxs_nd s hs t ht n hn).imp_of_mem fun {a b} ha hb h e => h ?_)
  exact menu_inj a (idxs_lt ha) b (idxs_lt hb) e
theorem names_ok {s t n : Nat} : ∀ z ∈ namesL s t n, okName z = true := fun z hz => by
  obtain ⟨i, hi, rfl⟩ := List.mem_map.mp hz
  exact menu_ok i (idxs_lt hi)
def spNa : L2.Sp := fun vs H Q _ => ∃ (c : Int) (n : Nat), vs = [.int c, .int n] ∧ n < 6 ∧ ∀ (H' : Hp) (l : Addr) (xs : List Str), Same H H' → H' l = some (.lst (xs.map V.str)) → xs.length = n → xs.Nodup → (∀ z ∈ xs, okName z = true) → Q (.ref l) H'
theorem scNa : FnScope ["_law_cell_here", "_law_count", "_law_menu", "_law_start", "_law_step", "_law_k"] ["_law_cell_here", "_law_count"] (defScope sNa) := ⟨rfl, rfl, rfl, by decide +kernel, rfl, by decide +kernel, by decide +kernel⟩
theorem ok_na {f : Addr} {fd : FuncData} (D : Df K mg "_law_names" sNa f fd ["_law_cell_here", "_law_count"]) (B : Nms mg) : FnOk P w K mg base CX0 1 f fd ["_law_cell_here", "_law_count"] spNa := by
  refine D.F.ok scNa (fun vs H Q E h => ?_) (fun cdv A outer s H vs Q E hr h => ?_)
  · obtain ⟨c, n, rfl, _⟩ := h
    rfl
  · obtain ⟨c, n, rfl, hn, k⟩ := h
    refine ⟨_, pss_cons (ps_set (i := 2) scNa.nd rfl (Or.inr rfl) (pe_lst (pa_cons pe_str (pa_cons pe_str (pa_cons pe_str (pa_cons pe_str (pa_cons pe_str (pa_cons pe_str (pa_cons pe_str (pa_cons pe_str pa_nil))))))))))
      (pss_cons (ps_set (i := 3) scNa.nd rfl (Or.inr rfl) (pe_op op_mod (pe_callTy call_int1 (by rfl) B.int (by decide +kernel) (pa_cons (pv 0) pa_nil)) pe_int))
      (pss_cons (ps_set (i := 4) scNa.nd rfl (Or.inr rfl) (pe_ix ix_list (pe_lst (pa_cons pe_int (pa_cons pe_int (pa_cons pe_int (pa_cons pe_int pa_nil))))) (pe_op op_mod (pe_callTy call_int1 (by rfl) B.int (by decide +kernel) (pa_cons (pe_op op_fdiv (pv 0) pe_int) pa_nil)) pe_int) (fun _ _ => rfl)))
      (pss_one (ps_ret (pe_lc (own := [("_law_k", 5)]) (g := gName 5) (tt := tYes) (te := tOp (rIxL K) _ _) rfl scNa.nd (pi_range1 rfl B.range (pa_cons (pv 1) pa_nil))
        (blkOk_by (N := ["_law_cell_here", "_law_count", "_law_menu", "_law_start", "_law_step", "_law_k"]) (sc := defScope sNa) (by decide +kernel)) (fun _ _ _ _ _ => pg_name (i := 5) scNa.nd rfl (Or.inl rfl)) (fun _ _ _ _ _ => pts_nil)
        (fun _ _ _ _ _ => pe_ix ix_list (pv 2) (pe_op op_mod (pe_callTy call_int1 (by rfl) B.int (by decide +kernel) (pa_cons (pe_op op_add (pv 3) (pe_op op_mul (pv 4) (pv 5))) pa_nil)) pe_int) (fun _ _ => rfl))))))), ?_⟩
    refine ⟨by show 8 ≤ sizeLine; exact line_big (by decide), fun lm hlm => ?_⟩
    have s1 : Same H (upd H lm (.lst (menuL.map V.str))) := (Same.refl H).upd_new1 hlm
    refine ⟨_, rfl, .inl ⟨_, rfl, _, _, rfl, rfl, (by show (0 : Int) < 8; decide), ?_⟩⟩
    refine ⟨by show 4 ≤ sizeLine; exact line_big (by decide), fun l4 hl4 => ?_⟩
    have hM : (upd (upd H lm (.lst (menuL.map V.str))) l4 (.lst ([1, 3, 5, 7].map V.int))) lm = some (.lst (menuL.map V.str)) := (upd_ne (ne_of_none upd_same hl4)).trans upd_same
    have s2 : Same H (upd (upd H lm (.lst (menuL.map V.str))) l4 (.lst ([1, 3, 5, 7].map V.int))) := s1.upd_new1 hl4
    have a0 := Int.emod_nonneg c (show (8 : Int) ≠ 0 by decide)
    have a1 := Int.emod_lt_of_pos c (show (0 : Int) < 8 by decide)
    have b0 := Int.emod_nonneg (c / 8) (show (4 : Int) ≠ 0 by decide)
    have b1 := Int.emod_lt_of_pos (c / 8) (show (0 : Int) < 4 by decide)
    obtain ⟨s, hs⟩ : ∃ s : Nat, c % 8 = (s : Int) := ⟨_, (Int.toNat_of_nonneg a0).symm⟩
    obtain ⟨j, hj⟩ : ∃ j : Nat, (c / 8) % 4 = (j : Int) := ⟨_, (Int.toNat_of_nonneg b0).symm⟩
    have j4 : j < 4 := by omega
    obtain ⟨t, ht, hjt⟩ : ∃ t : Nat, t ∈ [1, 3, 5, 7] ∧ (([1, 3, 5, 7] : List Int).map V.int)[j]? = some (V.int (t : Nat)) := by
      have : j = 0 ∨ j = 1 ∨ j = 2 ∨ j = 3 := by omega
      rcases this with rfl | rfl | rfl | rfl
      · exact ⟨1, by decide, rfl⟩
      · exact ⟨3, by decide, rfl⟩
      · exact ⟨5, by decide, rfl⟩
      · exact ⟨7, by decide, rfl⟩
    have ht7 : t ≤ 7 := by
      have : t = 1 ∨ t = 3 ∨ t = 5 ∨ t = 7 := by simpa using ht
      omega
    refine ⟨_, rfl, _, _, rfl, rfl, ⟨by decide, by decide⟩, .inl ⟨_, rfl, _, _, rfl, rfl, (by show (0 : Int) < 4; decide), l4, _, _, V.int (t : Nat), rfl, rfl, .of upd_same, (by rw [hj]; exact atI_nat hjt), ?_⟩⟩
    let H2 : Hp := upd (upd H lm (.lst (menuL.map V.str))) l4 (.lst ([1, 3, 5, 7].map V.int))
    refine ⟨_, rfl, n, rfl, by omega, by omega, fun D hD => ?_⟩
    refine lc_range (lo := 0) (n := n) (fun i H3 => Same H2 H3 ∧ H3 D = some (.lst ((namesL s t i).map V.str))) ⟨(Same.refl H2).upd_new1 hD, upd_same⟩ ?_ ?_
    · rintro i H3 hi ⟨s3, hA⟩
      have e : ((c % 8) + (t : Int) * (0 + (i : Int))) % 8 = (((s + t * i) % 8 : Nat) : Int) := by
        rw [hs, Int.zero_add]
        simp
      have h8 : (s + t * i) % 8 < 8 := Nat.mod_lt _ (by decide)
      have hget : (menuL.map V.str)[(s + t * i) % 8]? = some (V.str (menuL.getD ((s + t * i) % 8) Str.empty)) := by
        rw [List.getElem?_map, List.getD_eq_getElem?_getD, List.getElem?_eq_getElem (show (s + t * i) % 8 < menuL.length from h8)]
        rfl
      refine ⟨rfl, _, rfl, _, rfl, _, rfl, _, rfl, _, _, rfl, rfl, .inl ⟨by omega, by omega⟩, _, _, rfl, rfl, .inl ⟨_, rfl, _, _, rfl, rfl, (by show (0 : Int) < 8; decide), lm, _, _, _, rfl, rfl, .of (s3 _ _ hM), (by rw [e]; exact atI_nat hget), ?_⟩⟩
      refine ⟨_, hA, ?_, s3.upd_new hD, ?_⟩
      · unfold namesL idxs
        rw [List.length_map, List.length_map, List.length_map, List.length_range]
        exact line_lt (by omega)
      · rw [upd_same]
        unfold namesL idxs
        rw [List.range_succ, List.map_append, List.map_append, List.map_append]
        rfl
    · rintro H3 ⟨s3, hA⟩
      exact k H3 D (namesL s t n) (s2.trans s3) hA (by unfold namesL idxs; rw [List.length_map, List.length_map, List.length_range]) (names_nd (by omega) ht hn) names_ok
end
end Gk

set_option maxHeartbeats 4000000
/-! Growth, the law's walks, part 3: _law_points, _law_inverse, _law_power_value. -/
namespace Gk
open PySem L2
section
variable {P : Program} {w : World} {K : PySem.W.Frag} {mg : Str → Option Value} {base : Heap}
abbrev sLp : Stmt := top 33
abbrev sLi : Stmt := top 34
abbrev sLv : Stmt := top 35
theorem Tps.append {H : Hp} {xs ys : List V} {ms ns : List (List Int)} (a : Tps H xs ms) (b : Tps H ys ns) : Tps H (xs ++ ys) (ms ++ ns) := by
  induction a with
  | nil => exact b
  | cons r _ ih => exact .cons r ih
theorem scLp : FnScope ["_law_prime", "_law_count", "_law_found", "_law_k", "_law_longer", "_law_row", "_law_number"] ["_law_prime", "_law_count"] (defScope sLp) := ⟨rfl, rfl, rfl, by decide +kernel, rfl, by decide +kernel, by decide +kernel⟩
theorem ok_lp {f : Addr} {fd : FuncData} (D : Df K mg "_law_points" sLp f fd ["_law_prime", "_law_count"]) (B : Nms mg) : FnOk P w K mg base CX0 1 f fd ["_law_prime", "_law_count"] spTo := by
  refine D.F.ok scLp (fun vs H Q E h => ?_) (fun cdv A outer s H vs Q E hr h => ?_)
  · obtain ⟨p, n, rfl, _⟩ := h
    rfl
  · obtain ⟨p, n, rfl, p1, p7, n5, hpn, k⟩ := h
    refine ⟨_, pss_cons (ps_set (i := 2) scLp.nd rfl (Or.inl rfl) (pe_lst (pa_cons (pe_tup pa_nil) pa_nil)))
      (pss_cons (ps_for PassesOwn.never rfl (pi_range1 rfl B.range (pa_cons (pv 1) pa_nil)) (pg_name (i := 3) scLp.nd rfl (Or.inl rfl))
        (pss_cons (ps_set (i := 4) scLp.nd rfl (Or.inl rfl) (pe_lst pa_nil))
        (pss_cons (ps_for PassesOwn.never rfl (pi_list (pv 2)) (pg_name (i := 5) scLp.nd rfl (Or.inr rfl))
          (pss_one (ps_expr (pe_bm PySem.F.plainAttrs_list PySem.F.slot_list_extend PySem.F.type_list_extend mt_extend (pv 4) (pa_cons
            (pe_lc (own := [("_law_number", 6)]) (g := gName 6) (tt := tYes) rfl scLp.nd (pi_range1 rfl B.range (pa_cons (pv 0) pa_nil))
              (blkOk_by (N := ["_law_prime", "_law_count", "_law_found", "_law_k", "_law_longer", "_law_row", "_law_number"]) (sc := defScope sLp) (by decide +kernel)) (fun _ _ _ _ _ => pg_name (i := 6) scLp.nd rfl (Or.inl rfl)) (fun _ _ _ _ _ => pts_nil)
              (fun _ _ _ _ _ => pe_op (r := rCatA K) op_catA (pv 5) (pe_tup (pa_cons (pv 6) pa_nil)))) pa_nil)))))
        (pss_one (ps_set (i := 2) scLp.nd rfl (Or.inl rfl) (pv 4))))))
      (pss_one (ps_ret (pv 2)))), ?_⟩
    refine ⟨Nat.zero_le _, fun t ht => ⟨by show 1 ≤ sizeLine; exact line_big (by decide), fun l hl => ?_⟩⟩
    have s1 : Same H (upd (upd H t (.tup [])) l (.lst [.ref t])) := ((Same.refl H).upd_new1 ht).upd_new1 hl
    have hl0 : H l = none := ((Same.refl H).upd_new1 ht).free hl
    have ntl : t ≠ l := ne_of_none upd_same hl
    let F : List Int → List (List Int) := fun r => (List.range p).map fun (k : Nat) => r ++ [(k : Int)]
    refine ⟨_, rfl, n, rfl, by omega, by omega, for_range (n := n) (fun i σ H2 => ∃ (v3 v4 v5 : Option V) (l : Addr) (xs : List V), σ = [some (.int p), some (.int n), some (.ref l), v3, v4, v5, none] ∧ Same H H2 ∧ H l = none ∧ H2 l = some (.lst xs) ∧ Tps H2 xs (tuplesOf p i))
      ⟨none, none, none, l, [.ref t], rfl, s1, hl0, upd_same, .cons ⟨t, rfl, by rw [upd_ne ntl, upd_same]; rfl⟩ .nil⟩ ?_ ?_⟩
    · rintro i σ H2 hi ⟨v3, v4, v5, l, xs, rfl, s2, l0, hL, tp⟩
      have hpi : p ^ (i + 1) ≤ 5000 := Nat.le_trans (Nat.pow_le_pow_right (by omega) (by omega)) hpn
      refine ⟨Nat.zero_le _, fun g hg => ?_⟩
      have g0 : H g = none := s2.free hg
      -- the longer ones, row by row; D: the list longer
      refine ⟨_, rfl, l, rfl, ⟨_, .of ((upd_ne (ne_of_none hL hg)).trans hL)⟩, for_list (K := K) (a := l) (xs := xs) (fun a σ H3 => ∃ (v5 : Option V) (gs : List V), σ = [some (.int p), some (.int n), some (.ref l), some (.int (0 + (i : Int))), some (.ref g), v5, none] ∧ Same H2 H3 ∧ H3 g = some (.lst gs) ∧ Tps H3 gs (((tuplesOf p i).take a).flatMap F))
        ⟨v5, [], rfl, (Same.refl H2).upd_new1 hg, upd_same, .nil⟩ (fun a σ H3 _ ⟨_, _, _, s3, _⟩ => .of (s3 _ _ hL)) ?_ ?_⟩
      · rintro a x σ H3 ha ⟨v5, gs, rfl, s3, hG, tg⟩
        have ha' := lt_of_get ha
        have hxl := tp.len
        obtain ⟨q, r, hq, rfl, hr1⟩ := tp.at ha
        have hqT := (mem_tuples p i q).mp (mem_of_get hq)
        have hlg : gs.length = a * p := by
          rw [tg.len, flat_len, List.length_take, Nat.min_eq_left (by omega)]
        have hbd : a * p + p ≤ p ^ (i + 1) := by
          have ht := tuples_len p i
          have h1 : (a + 1) * p ≤ p ^ i * p := Nat.mul_le_mul_right p (by omega)
          rw [Nat.succ_mul] at h1
          rw [Nat.pow_succ]
          omega
        refine ⟨_, rfl, .inl ⟨rfl, _, SqL.of hG⟩, ?_⟩
        refine ⟨_, rfl, p, rfl, by omega, by omega, fun D hD => ?_⟩
        refine lc_range (lo := 0) (n := p) (fun b H4 => ∃ acc, Same H3 H4 ∧ H4 D = some (.lst acc) ∧ Tps H4 acc ((List.range b).map fun (k : Nat) => q ++ [(k : Int)])) ⟨[], (Same.refl H3).upd_new1 hD, upd_same, .nil⟩ ?_ ?_
        · rintro b H4 hb ⟨acc, s4, hA, tA⟩
          refine ⟨rfl, _, rfl, _, rfl, by show 1 ≤ sizeLine; exact line_big (by decide), fun u hu => ?_⟩
          have hrow : H4 r = some (.tup (q.map V.int)) := s4 _ _ (s3 _ _ hr1)
          have hz : acc.length < sizeLine := by
            rw [tA.len, List.length_map, List.length_range]
            exact line_lt (by omega)
          have fin : ∀ (H5 : Hp) (c : Addr), Same H4 H5 → H5 c = some (.tup ((q ++ [((b : Nat) : Int)]).map V.int)) →
              ∃ acc, H5 D = some (.lst acc) ∧ acc.length < sizeLine ∧ ∃ acc', Same H3 (upd H5 D (.lst (acc ++ [.ref c]))) ∧ (upd H5 D (.lst (acc ++ [.ref c]))) D = some (.lst acc') ∧ Tps (upd H5 D (.lst (acc ++ [.ref c]))) acc' ((List.range (b + 1)).map fun (k : Nat) => q ++ [(k : Int)]) := fun H5 c s5 hc => by
            have hD5 := s5 _ _ hA
            have ncD : c ≠ D := ne_of hc hD5 (by intro z; cases z)
            refine ⟨acc, hD5, hz, acc ++ [.ref c], (s4.trans s5).upd_new hD, upd_same, ?_⟩
            rw [List.range_succ, List.map_append]
            refine Tps.snoc (Paired.mapP tA fun x m ⟨a', e1, e2⟩ => ⟨a', e1, ?_⟩) ?_
            · rw [upd_ne (ne_of (s5 _ _ e2) hD5 (by intro z; cases z))]
              exact s5 _ _ e2
            · rw [upd_ne ncD]
              exact hc
          refine ⟨r, u, q.map V.int, [.int (0 + (b : Nat))], rfl, rfl, .of ((upd_ne (ne_of_none hrow hu)).trans hrow), .of upd_same, ?_, fun e => ?_, fun _ e => (nomatch e), fun e _ c hc => ?_⟩
          · rw [List.length_map]
            show q.length + 1 ≤ sizeLine
            have := hqT.1
            exact line_big (by omega)
          · have e' : q = [] := List.map_eq_nil_iff.mp e
            refine fin _ u ((Same.refl H4).upd_new1 hu) ?_
            rw [upd_same, e', Int.zero_add]
            rfl
          · refine fin _ c (((Same.refl H4).upd_new1 hu).upd_new1 hc) ?_
            rw [upd_same, Int.zero_add, List.map_append]
            rfl
        · rintro H4 ⟨acc, s4, hA, tA⟩
          have hG4 := s4 _ _ hG
          have hal : acc.length = p := by rw [tA.len, List.length_map, List.length_range]
          refine ⟨g, D, gs, acc, rfl, rfl, hG4, hA, ?_, ?_⟩
          · exact line_big (by omega)
          · have nn : ∀ c : Addr, (∃ ts, H4 c = some (.tup ts)) → c ≠ g := fun c ⟨ts, hc⟩ => ne_of hc hG4 (fun z => nomatch z)
            refine ⟨_, gs ++ acc, rfl, fun b o e => ?_, upd_same, ?_⟩
            · rw [upd_ne (ne_of_none e hg)]
              exact s4 _ _ (s3 _ _ e)
            · rw [take_snoc hq, List.flatMap_append]
              have t1 : Tps (upd H4 g (.lst (gs ++ acc))) gs (((tuplesOf p i).take a).flatMap F) := Paired.mapP tg fun x m ⟨a', e1, e2⟩ => ⟨a', e1, by
                have e4 := s4 _ _ e2
                rw [upd_ne (nn a' ⟨_, e4⟩)]
                exact e4⟩
              have t2 : Tps (upd H4 g (.lst (gs ++ acc))) acc (F q) := Paired.mapP tA fun x m ⟨a', e1, e2⟩ => ⟨a', e1, by
                rw [upd_ne (nn a' ⟨_, e2⟩)]
                exact e2⟩
              have := t1.append t2
              simpa using this
      · rintro σ H3 ⟨v5, gs, rfl, s3, hG, tg⟩
        rw [tp.len, List.take_length] at tg
        exact ⟨_, rfl, _, _, _, g, gs, rfl, s2.trans s3, g0, hG, tg⟩
    · rintro σ H2 ⟨v3, v4, v5, l, xs, rfl, s2, l0, hL, tp⟩
      exact ⟨_, rfl, k H2 l xs s2 l0 hL tp⟩
def spLi : L2.Sp := fun vs H Q _ => ∃ (p x : Int), vs = [.int p, .int x] ∧ Pr p ∧ 0 < x ∧ x < p ∧ Q (.int (inv p x)) H
theorem scLi : FnScope ["_law_prime", "_law_number", "_law_other"] ["_law_prime", "_law_number"] (defScope sLi) := ⟨rfl, rfl, rfl, by decide +kernel, rfl, by decide +kernel, by decide +kernel⟩
theorem ok_li {f : Addr} {fd : FuncData} (D : Df K mg "_law_inverse" sLi f fd ["_law_prime", "_law_number"]) (B : Nms mg) : FnOk P w K mg base CX0 1 f fd ["_law_prime", "_law_number"] spLi := by
  refine D.F.ok scLi (fun vs H Q E h => ?_) (fun cdv A outer s H vs Q E hr h => ?_)
  · obtain ⟨p, x, rfl, _⟩ := h
    rfl
  · obtain ⟨p, x, rfl, hp, x0, x1, k⟩ := h
    have h2 := hp.pos
    have h7 := hp.le
    refine ⟨_, pss_cons (ps_for PassesOwn.never rfl (pi_range2 rfl B.range (pa_cons pe_int (pa_cons (pv 0) pa_nil))) (pg_name (i := 2) scLi.nd rfl (Or.inl rfl))
        (pss_one (ps_if (pt_cmpR op_eq (pe_op op_mod (pe_callTy call_int1 (by rfl) B.int (by decide +kernel) (pa_cons (pe_op op_mul (pv 1) (pv 2)) pa_nil)) (pv 0)) pe_int (nomark _)) (pss_one (ps_ret (pv 2))) pss_nil)))
      (pss_one (ps_ret pe_int)), ?_⟩
    refine ⟨_, rfl, 1, p, rfl, ⟨by omega, by omega, by omega, by omega⟩, for_range (lo := 1) (n := (p - 1).toNat) (fun i σ H2 => ∃ v, H2 = H ∧ σ = [some (.int p), some (.int x), v] ∧ ∀ j : Nat, j < i → ¬ x * (1 + (j : Int)) % p = 1) ⟨none, rfl, rfl, fun j hj => absurd hj (Nat.not_lt_zero j)⟩ ?_ ?_⟩
    · rintro i σ H2 hi ⟨v, rfl, rfl, hno⟩
      refine ⟨_, rfl, _, rfl, _, _, rfl, rfl, .inl ⟨by omega, by omega⟩, .inl ⟨_, rfl, _, rfl, _, _, rfl, rfl, (by show (0 : Int) < p; omega), rfl, _, rfl, ?_⟩⟩
      by_cases h1 : x * (1 + (i : Int)) % p = 1
      · refine iteI (decide_eq_true (congrArg V.int h1)) ⟨_, rfl, ?_⟩
        have e := inv_uniq hp x0 x1 (b := 1 + (i : Int)) (by omega) (by omega) h1
        rw [e]
        exact k
      · refine iteE (decide_eq_false fun z => h1 (V.int.inj z)) ⟨_, rfl, rfl, fun j hj => ?_⟩
        by_cases e : j = i
        · rw [e]
          exact h1
        · exact hno j (by omega)
    · rintro σ H2 ⟨v, rfl, rfl, hno⟩
      exfalso
      have i1 := inv_one hp x0 x1
      have il := inv_lt (p := p) (a := x) h2
      have i0 : inv p x ≠ 0 := fun z => by
        rw [z, Int.mul_zero] at i1
        simp at i1
      refine hno (inv p x - 1).toNat (by omega) ?_
      have : (1 : Int) + (((inv p x - 1).toNat : Nat) : Int) = inv p x := by omega
      rw [this]
      exact i1
def spLv (K : PySem.W.Frag) : L2.Sp := fun vs H Q _ => ∃ (a b : Addr) (p : Int) (m q : List Int), vs = [.int p, .ref a, .ref b] ∧ Pr p ∧ SqT K H a (m.map V.int) ∧ SqT K H b (q.map V.int) ∧ m.length = q.length ∧ m.length ≤ 100 ∧ In p m ∧ In p q ∧ Q (.int (mv p m q)) H
theorem scLv : FnScope ["_law_prime", "_law_power", "_law_point", "_law_found", "_law_k", "_law_turn"] ["_law_prime", "_law_power", "_law_point"] (defScope sLv) := ⟨rfl, rfl, rfl, by decide +kernel, rfl, by decide +kernel, by decide +kernel⟩
theorem ok_lv {f : Addr} {fd : FuncData} (D : Df K mg "_law_power_value" sLv f fd ["_law_prime", "_law_power", "_law_point"]) (B : Nms mg) : FnOk P w K mg base CX0 1 f fd ["_law_prime", "_law_power", "_law_point"] (spLv K) := by
  refine D.F.ok scLv (fun vs H Q E h => ?_) (fun cdv A outer s H vs Q E hr h => ?_)
  · obtain ⟨a, b, p, m, q, rfl, _⟩ := h
    rfl
  · obtain ⟨a, b, p, m, q, rfl, hp, hm, hq, hlen, hl, im, iq, k⟩ := h
    have h2 := hp.pos
    have h7 := hp.le
    refine ⟨_, pss_cons (ps_set (i := 3) scLv.nd rfl (Or.inl rfl) pe_int)
      (pss_cons (ps_for PassesOwn.never rfl (pi_range1 rfl B.range (pa_cons (pe_callB call_len_seq (by rfl) B.len PySem.boot_len (pa_cons (pv 1) pa_nil)) pa_nil)) (pg_name (i := 4) scLv.nd rfl (Or.inl rfl))
        (pss_one (ps_for PassesOwn.never rfl (pi_range1 rfl B.range (pa_cons (pe_ix ix_tup (pv 1) (pv 4) (fun _ _ => rfl)) pa_nil)) (pg_name (i := 5) scLv.nd rfl (Or.inl rfl))
          (pss_one (ps_set (i := 3) scLv.nd rfl (Or.inl rfl) (pe_op op_mod (pe_callTy call_int1 (by rfl) B.int (by decide +kernel) (pa_cons (pe_op op_mul (pv 3) (pe_ix ix_tup (pv 2) (pv 4) (fun _ _ => rfl))) pa_nil)) (pv 0)))))))
      (pss_one (ps_ret (pv 3)))), ?_⟩
    refine ⟨_, rfl, a, _, rfl, .inr hm, ?_⟩
    refine ⟨((m.map V.int).length : Nat), rfl, by rw [List.length_map]; omega, by rw [List.length_map]; omega, for_range (lo := 0) (n := (m.map V.int).length) (fun i σ H2 => ∃ (f : Int) (v4 v5 : Option V), H2 = H ∧ σ = [some (.int p), some (.ref a), some (.ref b), some (.int f), v4, v5] ∧ 0 ≤ f ∧ f < p ∧ lof p (m.drop i) (q.drop i) f = lof p m q 1) ⟨1, none, none, rfl, rfl, by omega, by omega, rfl⟩ ?_ ?_⟩
    · rintro i σ H2 hi ⟨f, v4, v5, rfl, rfl, f0, f1, hf⟩
      rw [List.length_map] at hi
      have hmi : m[i]? = some m[i] := List.getElem?_eq_getElem hi
      have hqi : q[i]? = some (q[i]'(by omega)) := List.getElem?_eq_getElem (by omega)
      have he := im _ (mem_of_get hmi)
      have hx := iq _ (mem_of_get hqi)
      have dm := List.drop_eq_getElem_cons hi
      have dq := List.drop_eq_getElem_cons (show i < q.length by omega)
      have gm : (m.map V.int)[i]? = some (V.int m[i]) := by rw [List.getElem?_map, hmi]; rfl
      have gq : (q.map V.int)[i]? = some (V.int (q[i]'(by omega))) := by rw [List.getElem?_map, hqi]; rfl
      generalize m[i] = e at gm he dm
      generalize q[i]'(by omega) = x at gq hx dq
      have ei : (0 : Int) + (i : Int) = ((i : Nat) : Int) := Int.zero_add _
      refine ⟨_, rfl, _, rfl, a, _, _, _, rfl, rfl, hm, by rw [ei]; exact atI_nat gm, ?_⟩
      refine ⟨e, rfl, by omega, by omega, for_range (lo := 0) (n := e.toNat) (fun j σ H3 => ∃ (v5 : Option V), H3 = H2 ∧ σ = [some (.int p), some (.ref a), some (.ref b), some (.int (it p x f j)), some (.int (0 + (i : Int))), v5]) ⟨v5, rfl, rfl⟩ ?_ ?_⟩
      · rintro j σ H3 hj ⟨v5, rfl, rfl⟩
        have bt := it_lt (p := p) (x := x) (f := f) (by omega) f0 f1 j
        refine ⟨_, rfl, _, rfl, _, rfl, b, _, _, _, rfl, rfl, hq, by rw [ei]; exact atI_nat gq, _, _, rfl, rfl, .inl ⟨by omega, by omega⟩, .inl ⟨_, rfl, _, rfl, _, _, rfl, rfl, (by show (0 : Int) < p; omega), ?_⟩⟩
        exact ⟨_, rfl, rfl⟩
      · rintro σ H3 ⟨v5, rfl, rfl⟩
        have bt := it_lt (p := p) (x := x) (f := f) (by omega) f0 f1 e.toNat
        refine ⟨_, _, _, rfl, rfl, bt.1, bt.2, ?_⟩
        rw [← hf, dm, dq]
        rfl
    · rintro σ H2 ⟨f, v4, v5, rfl, rfl, f0, f1, hf⟩
      have e : f = mv p m q := by
        rw [← lof_mv h2 m q, ← hf, List.length_map, List.drop_of_length_le (Nat.le_refl _)]
        rfl
      rw [e]
      exact ⟨_, rfl, k⟩
end
end Gk

set_option maxHeartbeats 4000000
/-! Growth, the law's walks, part 4: _law_cleared, _law_grown. -/
namespace Gk
open PySem L2
/-- the law's rows: pairs of a place and a list -/
def LRV (H : Hp) (x : V) (r : LRow) : Prop := ∃ t a, x = .ref t ∧ H t = some (.tup [.int (r.1 : Nat), .ref a]) ∧ H a = some (.lst (r.2.map V.int))
def LRAt (H : Hp) (rl : Addr) (rows : List LRow) : Prop := ∃ xs, H rl = some (.lst xs) ∧ Paired (LRV H) xs rows
theorem LRV.same {H H' : Hp} {x : V} {r : LRow} (v : LRV H x r) (e : Same H H') : LRV H' x r := let ⟨t, a, h0, h1, h2⟩ := v; ⟨t, a, h0, e _ _ h1, e _ _ h2⟩
theorem LRAt.same {H H' : Hp} {rl : Addr} {rows : List LRow} (v : LRAt H rl rows) (e : Same H H') : LRAt H' rl rows := let ⟨xs, h1, h2⟩ := v; ⟨xs, e _ _ h1, Paired.mapP h2 fun _ _ q => q.same e⟩
theorem LOk.take {p : Int} {N : Nat} {rows : List LRow} (h : LOk p N rows) (i : Nat) : LOk p N (rows.take i) :=
  ⟨fun r hr => h.len r (List.mem_of_mem_take hr), fun r hr => h.ins r (List.mem_of_mem_take hr), fun r hr => h.lt r (List.mem_of_mem_take hr)⟩
theorem clL_snoc' {p : Int} {rows : List LRow} {i : Nat} {r : LRow} (h : rows[i]? = some r) (v : List Int) : clL p (rows.take (i + 1)) v = clStep p (clL p (rows.take i) v) r := by
  rw [take_snoc h]
  unfold clL
  rw [List.foldl_append]
  rfl
theorem zipWith_get (f : Int → Int → Int) {a b : List Int} {i : Nat} (h1 : i < a.length) (h2 : i < b.length) : (List.zipWith f a b)[i]? = some (f (a.getD i 0) (b.getD i 0)) := by
  rw [List.getElem?_zipWith, List.getElem?_eq_getElem h1, List.getElem?_eq_getElem h2, getD_lt a 0 h1, getD_lt b 0 h2]
section
variable {P : Program} {w : World} {K : PySem.W.Frag} {mg : Str → Option Value} {base : Heap}
abbrev sLc : Stmt := top 36
abbrev sLg : Stmt := top 37
def spLc : L2.Sp := fun vs H Q _ => ∃ (rl v : Addr) (p : Int) (N : Nat) (rows : List LRow) (vals : List Int), vs = [.int p, .ref rl, .ref v] ∧ 2 ≤ p ∧ p ≤ 7 ∧ LRAt H rl rows ∧ LOk p N rows ∧ N ≤ 5000 ∧ H v = some (.lst (vals.map V.int)) ∧ vals.length = N ∧ In p vals ∧
  ∀ (H' : Hp) (v' : Addr), Same H H' → H' v' = some (.lst ((clL p rows vals).map V.int)) → Q (.ref v') H'
theorem scLc : FnScope ["_law_prime", "_law_rows", "_law_values", "_law_at", "_law_row", "_law_factor", "_law_k"] ["_law_prime", "_law_rows", "_law_values"] (defScope sLc) := ⟨rfl, rfl, rfl, by decide +kernel, rfl, by decide +kernel, by decide +kernel⟩
theorem ok_lc {f : Addr} {fd : FuncData} (D : Df K mg "_law_cleared" sLc f fd ["_law_prime", "_law_rows", "_law_values"]) (B : Nms mg) : FnOk P w K mg base CX0 1 f fd ["_law_prime", "_law_rows", "_law_values"] spLc := by
  refine D.F.ok scLc (fun vs H Q E h => ?_) (fun cdv A outer s H vs Q E hr h => ?_)
  · obtain ⟨rl, v, p, N, rows, vals, rfl, _⟩ := h
    rfl
  · obtain ⟨rl, v, p, N, rows, vals, rfl, p2, p7, hW, lok, hN, hv, hvl, hvi, k⟩ := h
    refine ⟨_, pss_cons (ps_for PassesOwn.never rfl (pi_list (pv 1)) (pg_tup rfl (pgs_cons (pg_name (i := 3) scLc.nd rfl (Or.inl rfl)) (pgs_cons (pg_name (i := 4) scLc.nd rfl (Or.inr rfl)) pgs_nil)))
        (pss_cons (ps_set (i := 5) scLc.nd rfl (Or.inr rfl) (pe_ix ix_list (pv 2) (pv 3) (fun _ _ => rfl)))
        (pss_one (ps_if (pt_cmpR op_ne (pv 5) pe_int (nomark _))
          (pss_one (ps_set (i := 2) scLc.nd rfl (Or.inr rfl) (pe_lc (own := [("_law_k", 6)]) (g := gName 6) (tt := tYes) rfl scLc.nd (pi_range1 rfl B.range (pa_cons (pe_callB call_len_seq (by rfl) B.len PySem.boot_len (pa_cons (pv 2) pa_nil)) pa_nil))
            (blkOk_by (N := ["_law_prime", "_law_rows", "_law_values", "_law_at", "_law_row", "_law_factor", "_law_k"]) (sc := defScope sLc) (by decide +kernel)) (fun _ _ _ _ _ => pg_name (i := 6) scLc.nd rfl (Or.inl rfl)) (fun _ _ _ _ _ => pts_nil)
            (fun _ _ _ _ _ => pe_op op_mod (pe_callTy call_int1 (by rfl) B.int (by decide +kernel) (pa_cons (pe_op op_sub (pe_ix (r := rIxL K) ix_list (pv 2) (pv 6) (fun _ _ => rfl)) (pe_op op_mul (pv 5) (pe_ix (r := rIxL K) ix_list (pv 4) (pv 6) (fun _ _ => rfl)))) pa_nil)) (pv 0)))))
          pss_nil))))
      (pss_one (ps_ret (pv 2))), ?_⟩
    have hpp : (0 : Int) < p := by omega
    obtain ⟨xs, hxs, pr⟩ := id hW
    refine ⟨_, rfl, rl, rfl, ⟨_, .of hxs⟩, for_list (K := K) (a := rl) (xs := xs) (fun i σ H2 => ∃ (v' : Addr) (x3 x4 x5 : Option V), σ = [some (.int p), some (.ref rl), some (.ref v'), x3, x4, x5, none] ∧ Same H H2 ∧ H2 v' = some (.lst ((clL p (rows.take i) vals).map V.int)))
      ⟨v, none, none, none, rfl, Same.refl H, hv⟩ (fun i σ H2 _ ⟨_, _, _, _, _, s2, _⟩ => .of (s2 _ _ hxs)) ?_ ?_⟩
    · rintro i x σ H2 hi ⟨v', x3, x4, x5, rfl, s2, hv'⟩
      obtain ⟨r, hr, t, a', rfl, ht, ha'⟩ := paired_at pr hi
      have hrm := mem_of_get hr
      obtain ⟨cl1, cl2, _⟩ := clL_ok hpp (lok.take i) hvl hvi
      rw [clL_snoc' hr]
      generalize clL p (rows.take i) vals = cur at hv' cl1 cl2
      have hat : r.1 < cur.length := by rw [cl1]; exact lok.lt r hrm
      have hrl : r.2.length = cur.length := by rw [cl1]; exact lok.len r hrm
      have hfin := cl2 _ (by rw [getD_lt cur 0 hat]; exact List.getElem_mem hat : cur.getD r.1 0 ∈ cur)
      refine ⟨t, _, rfl, .of (s2 _ _ ht), rfl, _, _, rfl, _, _, rfl, rfl, ?_⟩
      refine ⟨_, rfl, _, rfl, v', _, _, _, rfl, rfl, .of hv', atI_nat (j := r.1) (get_int hat), ?_⟩
      generalize hfe : cur.getD r.1 0 = fc at hfin
      refine ⟨_, rfl, rfl, _, rfl, ?_⟩
      by_cases hf : fc = 0
      · refine iteE (by simp [hf]) ?_
        have e : clStep p cur r = cur := by
          unfold clStep
          rw [hfe, if_neg (by simp [hf])]
        rw [e]
        exact ⟨v', _, _, _, rfl, s2, hv'⟩
      · refine iteI (by simp [hf]) ?_
        have e : clStep p cur r = List.zipWith (fun x y => (x - fc * y) % p) cur r.2 := by
          unfold clStep
          rw [hfe, if_pos hf]
        rw [e]
        have hzl : (List.zipWith (fun x y => (x - fc * y) % p) cur r.2).length = cur.length := by
          rw [List.length_zipWith, hrl, Nat.min_self]
        refine ⟨_, rfl, v', _, rfl, .inl (.of hv'), ?_⟩
        refine ⟨((cur.map V.int).length : Nat), rfl, by rw [List.length_map]; omega, by rw [List.length_map]; omega, fun D hD => ?_⟩
        refine lc_range (lo := 0) (n := (cur.map V.int).length) (fun j H3 => Same H2 H3 ∧ H3 D = some (.lst (((List.zipWith (fun x y => (x - fc * y) % p) cur r.2).take j).map V.int))) ⟨(Same.refl _).upd_new1 hD, upd_same⟩ ?_ ?_
        · rintro j H3 hj ⟨s3, hA⟩
          rw [List.length_map] at hj
          have ej : (0 : Int) + (j : Int) = ((j : Nat) : Int) := Int.zero_add _
          have hz := zipWith_get (fun x y => (x - fc * y) % p) (a := cur) (b := r.2) hj (by omega)
          refine ⟨rfl, _, rfl, _, rfl, v', _, _, _, rfl, rfl, .of (s3 _ _ hv'), (by rw [ej]; exact atI_nat (get_int hj)), _, rfl, _, rfl, _, rfl, a', _, _, _, rfl, rfl, .of (s3 _ _ (s2 _ _ ha')), (by rw [ej]; exact atI_nat (get_int (by omega))), _, _, rfl, rfl, .inl ⟨by omega, by omega⟩, _, _, rfl, rfl, .inl ⟨_, rfl, _, rfl, _, _, rfl, rfl, hpp, ?_⟩⟩
          refine ⟨_, hA, ?_, s3.upd_new hD, ?_⟩
          · rw [List.length_map, List.length_take]
            exact line_lt (by omega)
          · rw [upd_same, take_snoc hz, List.map_append]
            rfl
        · rintro H3 ⟨s3, hA⟩
          rw [List.length_map, ← hzl, List.take_length] at hA
          exact ⟨D, _, _, _, rfl, s2.trans s3, hA⟩
    · rintro σ H2 ⟨v', x3, x4, x5, rfl, s2, hv'⟩
      rw [paired_len pr, List.take_length] at hv'
      exact ⟨_, rfl, k H2 v' s2 hv'⟩
end
end Gk

set_option maxHeartbeats 4000000
/-! Growth, the law's walks, part 5: _law_grown. -/
namespace Gk
open PySem L2
theorem none_nz {v : List Int} (h : fnz v = none) (n : Nat) : ((List.range n).filter fun j => v.getD j 0 != 0) = [] := by
  rw [List.filter_eq_nil_iff]
  intro j _
  have := fnz_none h j
  unfold vec at this
  simp only [this]
  decide
theorem Paired.snoc' {α β : Type} {F : α → β → Prop} {xs : List α} {ys : List β} {x : α} {y : β} (t : Paired F xs ys) (h : F x y) : Paired F (xs ++ [x]) (ys ++ [y]) := by
  induction t with
  | nil => exact .cons h .nil
  | cons a _ ih => exact .cons a ih
section
variable {P : Program} {w : World} {K : PySem.W.Frag} {mg : Str → Option Value} {base : Heap}
def spLg : L2.Sp := fun vs H Q _ => ∃ (rl v : Addr) (p : Int) (N : Nat) (rows : List LRow) (vals : List Int), vs = [.int p, .ref rl, .ref v] ∧ Pr p ∧ LRAt H rl rows ∧ LOk p N rows ∧ N ≤ 5000 ∧ rows.length ≤ 5000 ∧ H v = some (.lst (vals.map V.int)) ∧ vals.length = N ∧ In p vals ∧
  ∀ (H' : Hp) (rl' : Addr), Same H H' → LRAt H' rl' (grow p rows vals) → Q (.ref rl') H'
theorem scLg : FnScope ["_law_prime", "_law_rows", "_law_values", "_law_places", "_law_share", "_law_k", "_law_number"] ["_law_prime", "_law_rows", "_law_values"] (defScope sLg) := ⟨rfl, rfl, rfl, by decide +kernel, rfl, by decide +kernel, by decide +kernel⟩
theorem ok_lg {f f1 f2 : Addr} {fd fd1 fd2 : FuncData} (D : Df K mg "_law_grown" sLg f fd ["_law_prime", "_law_rows", "_law_values"]) (D1 : Df K mg "_law_cleared" sLc f1 fd1 ["_law_prime", "_law_rows", "_law_values"]) (D2 : Df K mg "_law_inverse" sLi f2 fd2 ["_law_prime", "_law_number"]) (B : Nms mg) :
    FnOk P w K mg base CX0 2 f fd ["_law_prime", "_law_rows", "_law_values"] spLg := by
  have G1 : FnOk P w K mg base CX0 1 f1 fd1 ["_law_prime", "_law_rows", "_law_values"] spLc := ok_lc D1 B
  have G2 : FnOk P w K mg base CX0 1 f2 fd2 ["_law_prime", "_law_number"] spLi := ok_li D2 B
  refine D.F.ok scLg (fun vs H Q E h => ?_) (fun cdv A outer s H vs Q E hr h => ?_)
  · obtain ⟨rl, v, p, N, rows, vals, rfl, _⟩ := h
    rfl
  · obtain ⟨rl, v, p, N, rows, vals, rfl, hp, hW, lok, hN, hrl, hv, hvl, hvi, k⟩ := h
    refine ⟨_, pss_cons (ps_set (i := 2) scLg.nd rfl (Or.inr rfl) (pe_call G1 hr rfl D1.g D1.k D1.b .nil pass0 (pa_cons (pv 0) (pa_cons (pv 1) (pa_cons (pv 2) pa_nil)))))
      (pss_cons (ps_setLc (i := 3) (own := [("_law_k", 5)]) (g := gName 5) (te := tVar 5) rfl scLg.nd rfl rfl (sw_true rfl rfl rfl (by decide +kernel)) (pi_range1 rfl B.range (pa_cons (pe_callB call_len_seq (by rfl) B.len PySem.boot_len (pa_cons (pv 2) pa_nil)) pa_nil))
          (blkOk_by (N := ["_law_prime", "_law_rows", "_law_values", "_law_places", "_law_share", "_law_k", "_law_number"]) (sc := defScope sLg) (by decide +kernel)) (fun _ _ _ _ _ => pg_name (i := 5) scLg.nd rfl (Or.inl rfl))
          (fun _ _ _ _ _ => pts_one (pt_cmpR op_ne (pe_ix (r := rIxL K) ix_list (pv 2) (pv 5) (fun _ _ => rfl)) pe_int (nomark _))) (fun _ _ _ _ _ => pv 5))
      (pss_cons (ps_if (pt_cmpR op_eq (pe_callB call_len_seq (by rfl) B.len PySem.boot_len (pa_cons (pv 3) pa_nil)) pe_int (nomark _)) (pss_one (ps_ret (pv 1))) pss_nil)
      (pss_cons (ps_set (i := 4) scLg.nd rfl (Or.inr rfl) (pe_call G2 hr rfl D2.g D2.k D2.b .nil pass0 (pa_cons (pv 0) (pa_cons (pe_ix ix_list (pv 2) (pe_ix ix_list (pv 3) pe_int (fun _ _ => rfl)) (fun _ _ => rfl)) pa_nil))))
      (pss_one (ps_ret (pe_op op_cat (pv 1) (pe_lst (pa_cons (pe_tup (pa_cons (pe_ix ix_list (pv 3) pe_int (fun _ _ => rfl)) (pa_cons
        (pe_lc (own := [("_law_number", 6)]) (g := gName 6) (tt := tYes) rfl scLg.nd (pi_list (pv 2)) (blkOk_by (N := ["_law_prime", "_law_rows", "_law_values", "_law_places", "_law_share", "_law_k", "_law_number"]) (sc := defScope sLg) (by decide +kernel))
          (fun _ _ _ _ _ => pg_name (i := 6) scLg.nd rfl (Or.inl rfl)) (fun _ _ _ _ _ => pts_nil)
          (fun _ _ _ _ _ => pe_op op_mod (pe_callTy call_int1 (by rfl) B.int (by decide +kernel) (pa_cons (pe_op op_mul (pv 6) (pv 4)) pa_nil)) (pv 0))) pa_nil))) pa_nil)))))))), ?_⟩
    have h2 := hp.pos
    have h7 := hp.le
    have hpp : (0 : Int) < p := by omega
    obtain ⟨xs, hxs, pr⟩ := id hW
    obtain ⟨cl1, cl2, _⟩ := clL_ok hpp lok hvl hvi
    refine ⟨_, rfl, _, rfl, _, rfl, rl, v, p, N, rows, vals, rfl, h2, h7, hW, lok, hN, hv, hvl, hvi, fun H1 v1 s1 hv1 => ?_⟩
    unfold grow at k
    generalize clL p rows vals = cur at hv1 cl1 cl2 k
    refine ⟨_, rfl, v1, _, rfl, .inl (.of hv1), ?_⟩
    refine ⟨((cur.map V.int).length : Nat), rfl, by rw [List.length_map]; omega, by rw [List.length_map]; omega, fun D' hD => ?_⟩
    refine lc_range (lo := 0) (n := (cur.map V.int).length) (fun i H2 => Same H1 H2 ∧ H2 D' = some (.lst (((List.range i).filter fun j => cur.getD j 0 != 0).map fun (j : Nat) => V.int (j : Int)))) ⟨(Same.refl H1).upd_new1 hD, upd_same⟩ ?_ ?_
    · rintro i H2 hi ⟨s2, hA⟩
      rw [List.length_map] at hi
      have ei : (0 : Int) + (i : Int) = ((i : Nat) : Int) := Int.zero_add _
      refine ⟨rfl, _, rfl, _, rfl, v1, _, _, _, rfl, rfl, .of (s2 _ _ hv1), (by rw [ei]; exact atI_nat (get_int hi)), rfl, _, rfl, ?_⟩
      generalize hy : cur.getD i 0 = y
      by_cases hy0 : y = 0
      · refine iteE (by simp [hy0]) ⟨s2, ?_⟩
        rw [hA, List.range_succ, List.filter_append, List.filter_cons, hy, if_neg (by simp [hy0]), List.filter_nil, List.append_nil]
      · refine iteI (by simp [hy0]) ⟨_, rfl, _, hA, ?_, s2.upd_new hD, ?_⟩
        · rw [List.length_map]
          have h1 := List.length_filter_le (fun j => cur.getD j 0 != 0) (List.range i)
          rw [List.length_range] at h1
          exact line_lt (by omega)
        · rw [upd_same, List.range_succ, List.filter_append, List.filter_cons, hy, if_pos (by simp [hy0]), List.filter_nil, List.map_append, ei]
          rfl
    · rintro H2 ⟨s2, hA⟩
      rw [List.length_map] at hA
      have s02 : Same H H2 := s1.trans s2
      refine ⟨_, rfl, D', _, rfl, .inl (.of hA), rfl, _, rfl, ?_⟩
      cases hf : fnz cur with
      | none =>
        rw [hf] at k
        refine iteI ?_ ⟨_, rfl, k H2 rl s02 (hW.same s02)⟩
        rw [none_nz hf]
        rfl
      | some kk =>
        rw [hf] at k
        obtain ⟨kl, kn, _⟩ := fnz_some hf
        have hfst := first_nz hf
        have hx0 := cl2 _ (by rw [getD_lt cur 0 kl]; exact List.getElem_mem kl : cur.getD kk 0 ∈ cur)
        have hne : cur.getD kk 0 ≠ 0 := kn
        have hget : (((List.range cur.length).filter fun j => cur.getD j 0 != 0).map fun (j : Nat) => V.int (j : Int))[0]? = some (V.int (kk : Nat)) := by
          rw [List.getElem?_map, hfst]
          rfl
        refine iteE (decide_eq_false fun z => ?_) ?_
        · have z' := V.int.inj z
          have := lt_of_get hget
          omega
        have hv2 := s2 _ _ hv1
        refine ⟨_, rfl, _, rfl, _, rfl, D', _, _, _, rfl, rfl, .of hA, atI_nat (j := 0) hget, v1, _, _, _, rfl, rfl, .of hv2, atI_nat (j := kk) (get_int kl), p, cur.getD kk 0, rfl, hp, by omega, hx0.2, ?_⟩
        have hib := inv_lt (p := p) (a := cur.getD kk 0) h2
        generalize hfe : inv p (cur.getD kk 0) = fc at hib
        refine ⟨_, rfl, _, rfl, D', _, _, _, rfl, rfl, .of hA, atI_nat (j := 0) hget, ?_⟩
        refine ⟨_, rfl, v1, rfl, ⟨_, .of hv2⟩, fun D2 hD2 => ?_⟩
        refine lc_it (walk_list (xs := cur.map V.int)) (fun i H3 => Same H2 H3 ∧ H3 D2 = some (.lst ((cur.take i).map fun y => V.int (y * fc % p)))) ⟨(Same.refl H2).upd_new1 hD2, upd_same⟩ (fun i H3 _ h => .of (h.1 _ _ hv2)) ?_ ?_
        · rintro i x H3 H4 hi ⟨s3, hA3⟩ ⟨rfl, hx⟩
          obtain ⟨y, hy, rfl⟩ := getMap hx
          have hyb := cl2 y (mem_of_get hy)
          refine ⟨rfl, _, rfl, _, rfl, _, _, rfl, rfl, .inl ⟨by omega, by omega⟩, .inl ⟨_, rfl, _, rfl, _, _, rfl, rfl, hpp, ?_⟩⟩
          refine ⟨_, hA3, ?_, s3.upd_new hD2, ?_⟩
          · rw [List.length_map, List.length_take]
            exact line_lt (by omega)
          · rw [upd_same, take_snoc hy, List.map_append]
            rfl
        · rintro H3 ⟨s3, hA3⟩
          rw [List.length_map, List.take_length] at hA3
          refine ⟨by show 2 ≤ sizeLine; exact line_big (by decide), fun t ht => ⟨by show 1 ≤ sizeLine; exact line_big (by decide), fun u hu => ?_⟩⟩
          have s4 : Same H3 (upd (upd H3 t (.tup [.int (kk : Nat), .ref D2])) u (.lst [.ref t])) := ((Same.refl H3).upd_new1 ht).upd_new1 hu
          have s04 : Same H (upd (upd H3 t (.tup [.int (kk : Nat), .ref D2])) u (.lst [.ref t])) := (s02.trans s3).trans s4
          have ht4 : (upd (upd H3 t (.tup [.int (kk : Nat), .ref D2])) u (.lst [.ref t])) t = some (.tup [.int (kk : Nat), .ref D2]) := (upd_ne (ne_of_none upd_same hu)).trans upd_same
          have hD4 := s4 _ _ hA3
          have hu4 : (upd (upd H3 t (.tup [.int (kk : Nat), .ref D2])) u (.lst [.ref t])) u = some (.lst [.ref t]) := upd_same
          refine ⟨rl, u, xs, _, rfl, rfl, s04 _ _ hxs, hu4, ?_, fun r hr => ?_⟩
          · have := paired_len pr
            show xs.length + 1 ≤ sizeLine
            exact line_big (by omega)
          · have s5 := (Same.refl (upd (upd H3 t (.tup [.int (kk : Nat), .ref D2])) u (.lst [.ref t]))).upd_new1 (o := .lst (xs ++ [.ref t])) hr
            refine k _ r (s04.trans s5) ⟨_, upd_same, Paired.snoc' (Paired.mapP pr fun _ _ q => (q.same s04).same s5) ⟨t, D2, rfl, s5 _ _ ht4, ?_⟩⟩
            rw [s5 _ _ hD4]
            unfold scaled
            rw [hfe, List.map_map]
            rfl
end
end Gk

set_option maxHeartbeats 4000000
/-! Growth, the law's walks, part 6: _law_chosen. -/
namespace Gk
open PySem L2
section
variable {P : Program} {w : World} {K : PySem.W.Frag} {mg : Str → Option Value} {base : Heap}
abbrev sLh : Stmt := top 38
def spLh : L2.Sp := fun vs H Q _ => ∃ (c : Int) (p n : Nat), vs = [.int p, .int n, .int c] ∧ 1 ≤ p ∧ p ≤ 7 ∧ n ≤ 5 ∧ p ^ n ≤ 1000 ∧ ∀ (H' : Hp) (l : Addr) (ws : List V) (W : List (List Int)), Same H H' → H l = none → H' l = some (.lst ws) → Tps H' ws W → W.Sublist (tuplesOf p n) → Q (.ref l) H'
theorem scLh : FnScope ["_law_prime", "_law_count", "_law_cell_here", "_law_points_here", "_law_digits_here", "_law_share", "_law_k"] ["_law_prime", "_law_count", "_law_cell_here"] (defScope sLh) := ⟨rfl, rfl, rfl, by decide +kernel, rfl, by decide +kernel, by decide +kernel⟩
theorem ok_lh {f f1 f2 : Addr} {fd fd1 fd2 : FuncData} (D : Df K mg "_law_chosen" sLh f fd ["_law_prime", "_law_count", "_law_cell_here"]) (D1 : Df K mg "_law_points" sLp f1 fd1 ["_law_prime", "_law_count"]) (D2 : Df K mg "_law_digits" sDg f2 fd2 ["_law_cell_here", "_law_many", "_law_count"]) (B : Nms mg) :
    FnOk P w K mg base CX0 2 f fd ["_law_prime", "_law_count", "_law_cell_here"] spLh := by
  have G1 : FnOk P w K mg base CX0 1 f1 fd1 ["_law_prime", "_law_count"] spTo := ok_lp D1 B
  have G2 : FnOk P w K mg base CX0 1 f2 fd2 ["_law_cell_here", "_law_many", "_law_count"] spDg := ok_dg D2 B
  refine D.F.ok scLh (fun vs H Q E h => ?_) (fun cdv A outer s H vs Q E hr h => ?_)
  · obtain ⟨c, p, n, rfl, _⟩ := h
    rfl
  · obtain ⟨c, p, n, rfl, p1, p7, n5, hpn, k⟩ := h
    refine ⟨_, pss_cons (ps_set (i := 3) scLh.nd rfl (Or.inr rfl) (pe_call G1 hr rfl D1.g D1.k D1.b .nil pass0 (pa_cons (pv 0) (pa_cons (pv 1) pa_nil))))
      (pss_cons (ps_set (i := 4) scLh.nd rfl (Or.inr rfl) (pe_call G2 hr rfl D2.g D2.k D2.b .nil pass0 (pa_cons (pv 2) (pa_cons pe_int (pa_cons (pe_op op_add (pe_callB call_len_seq (by rfl) B.len PySem.boot_len (pa_cons (pv 3) pa_nil)) pe_int) pa_nil)))))
      (pss_cons (ps_set (i := 5) scLh.nd rfl (Or.inr rfl) (pe_ix ix_list (pe_lst (pa_cons pe_int (pa_cons pe_int (pa_cons pe_int (pa_cons pe_int (pa_cons pe_int (pa_cons pe_int pa_nil)))))))
          (pe_op op_mod (pe_callTy call_int1 (by rfl) B.int (by decide +kernel) (pa_cons (pe_ix ix_list (pv 4) (pe_callB call_len_seq (by rfl) B.len PySem.boot_len (pa_cons (pv 3) pa_nil)) (fun _ _ => rfl)) pa_nil)) pe_int) (fun _ _ => rfl)))
      (pss_one (ps_ret (pe_lc (own := [("_law_k", 6)]) (g := gName 6) rfl scLh.nd (pi_range1 rfl B.range (pa_cons (pe_callB call_len_seq (by rfl) B.len PySem.boot_len (pa_cons (pv 3) pa_nil)) pa_nil))
        (blkOk_by (N := ["_law_prime", "_law_count", "_law_cell_here", "_law_points_here", "_law_digits_here", "_law_share", "_law_k"]) (sc := defScope sLh) (by decide +kernel)) (fun _ _ _ _ _ => pg_name (i := 6) scLh.nd rfl (Or.inl rfl))
        (fun _ _ _ _ _ => pts_one (pt_cmpR op_lt (pe_callTy call_int1 (by rfl) B.int (by decide +kernel) (pa_cons (pe_ix (r := rIxL K) ix_list (pv 4) (pv 6) (fun _ _ => rfl)) pa_nil)) (pv 5) (nomark _)))
        (fun _ _ _ _ _ => pe_ix (r := rIxL K) ix_list (pv 3) (pv 6) (fun _ _ => rfl))))))), ?_⟩
    refine ⟨_, rfl, _, rfl, p, n, rfl, p1, p7, n5, by omega, fun H1 l xs s1 hl0 hL tp => ?_⟩
    have hxl : xs.length = p ^ n := by rw [tp.len, tuples_len]
    refine ⟨_, rfl, _, rfl, l, _, rfl, .inl (.of hL), _, _, rfl, rfl, c, 60, xs.length + 1, rfl, by decide, by decide, by omega, fun H2 d ds s2 hd0 hD hdl => ?_⟩
    refine ⟨by show 6 ≤ sizeLine; exact line_big (by decide), fun l6 hl6 => ?_⟩
    have s3 : Same H2 (upd H2 l6 (.lst ([0, 12, 30, 48, 60, 5].map V.int))) := (Same.refl H2).upd_new1 hl6
    have hL3 := s3 _ _ (s2 _ _ hL)
    have hD3 := s3 _ _ hD
    have h63 : (upd H2 l6 (.lst ([0, 12, 30, 48, 60, 5].map V.int))) l6 = some (.lst ([0, 12, 30, 48, 60, 5].map V.int)) := upd_same
    have s03 : Same H (upd H2 l6 (.lst ([0, 12, 30, 48, 60, 5].map V.int))) := (s1.trans s2).trans s3
    let H3 : Hp := upd H2 l6 (.lst ([0, 12, 30, 48, 60, 5].map V.int))
    have b0 := Int.emod_nonneg (ds.getD xs.length 0) (show (6 : Int) ≠ 0 by decide)
    have b1 := Int.emod_lt_of_pos (ds.getD xs.length 0) (show (0 : Int) < 6 by decide)
    obtain ⟨j, hj⟩ : ∃ j : Nat, ds.getD xs.length 0 % 6 = (j : Int) := ⟨_, (Int.toNat_of_nonneg b0).symm⟩
    have j6 : j < ([0, 12, 30, 48, 60, 5] : List Int).length := by show j < 6; omega
    refine ⟨_, rfl, _, rfl, l, _, rfl, .inl (.of hL3), d, _, _, _, rfl, rfl, .of hD3, atI_nat (j := xs.length) (get_int (by omega)), .inl ⟨_, rfl, _, _, rfl, rfl, (by show (0 : Int) < 6; decide), l6, _, _, _, rfl, rfl, .of h63, (by rw [hj]; exact atI_nat (get_int j6)), ?_⟩⟩
    refine ⟨_, rfl, l, _, rfl, .inl (.of hL3), ?_⟩
    refine ⟨(xs.length : Nat), rfl, by omega, by omega, fun D' hD' => ?_⟩
    refine lc_range (lo := 0) (n := xs.length) (fun i H4 => Same H3 H4 ∧ ∃ ws W, H4 D' = some (.lst ws) ∧ Tps H4 ws W ∧ W.Sublist ((tuplesOf p n).take i)) ⟨(Same.refl H3).upd_new1 hD', [], [], upd_same, .nil, List.nil_sublist _⟩ ?_ ?_
    · rintro i H4 hi ⟨s4, ws, W, hA, tA, sub⟩
      have ei : (0 : Int) + (i : Int) = ((i : Nat) : Int) := Int.zero_add _
      have hxi : xs[i]? = some xs[i] := List.getElem?_eq_getElem hi
      obtain ⟨q, r, hq, hxr, hr1⟩ := tp.at hxi
      have hwl := sub.length_le
      rw [List.length_take, tuples_len] at hwl
      have hr4 := s4 _ _ (s3 _ _ (s2 _ _ hr1))
      refine ⟨rfl, _, rfl, _, rfl, d, _, _, _, rfl, rfl, .of (s4 _ _ hD3), (by rw [ei]; exact atI_nat (get_int (by omega))), .inl ⟨_, rfl, _, rfl, _, _, rfl, rfl, _, rfl, ifB ?_ ?_⟩⟩
      · refine ⟨_, rfl, _, rfl, l, _, _, _, rfl, rfl, .of (s4 _ _ hL3), (by rw [ei]; exact atI_nat (hxi.trans (congrArg some hxr))), ?_⟩
        refine ⟨ws, hA, by rw [tA.len]; exact line_lt (by omega), s4.upd_new hD', ws ++ [.ref r], W ++ [q], upd_same, ?_, ?_⟩
        · have ne : ∀ c : Addr, (∃ ts, H4 c = some (.tup ts)) → c ≠ D' := fun c ⟨ts, hc⟩ => ne_of hc hA (fun z => nomatch z)
          refine Tps.snoc (Paired.mapP tA fun x m ⟨a', e1, e2⟩ => ⟨a', e1, ?_⟩) ?_
          · rw [upd_ne (ne a' ⟨_, e2⟩)]
            exact e2
          · rw [upd_ne (ne r ⟨_, hr4⟩)]
            exact hr4
        · rw [take_snoc hq]
          exact sub.append (List.Sublist.refl _)
      · refine ⟨s4, ws, W, hA, tA, ?_⟩
        rw [take_snoc hq]
        exact sub.trans (List.sublist_append_left _ _)
    · rintro H4 ⟨s4, ws, W, hA, tA, sub⟩
      exact k H4 D' ws W (s03.trans s4) (s03.free hD') hA tA (sub.trans (List.take_sublist _ _))
end
end Gk

set_option maxHeartbeats 4000000
/-! Growth, the plain law, the last part: the sorted powers are in degree order; the law's own loop. -/
namespace Gk
open PySem L2
/-! ### the sort's order is the order by degrees -/
theorem eqv_ints : ∀ a b : List Int, PyData.eqvAll (a.map .int) (b.map .int) = true → a = b
  | [], [], _ => rfl
  | [], _ :: _, h => by simp [PyData.eqvAll] at h
  | _ :: _, [], h => by simp [PyData.eqvAll] at h
  | x :: a, y :: b, h => by
    have h' : PyData.eqv (.int x) (.int y) = true ∧ PyData.eqvAll (a.map .int) (b.map .int) = true := by simpa [PyData.eqvAll] using h
    have e : x = y := by simpa [PyData.eqv] using h'.1
    rw [e, eqv_ints a b h'.2]
theorem keyD_lt {a b : List Int} (h : a.length = b.length) (hp : pl a b) : PySem.W.dataLt (keyD a) (keyD b) = true := by
  unfold keyD
  rw [PySem.W.dataLt_pair (by simp [PySem.W.alike]) (alike_ints' h), PySem.W.dataLt_int]
  rcases hp with hp | ⟨e, hp⟩
  · rw [if_neg (by simp [PyData.eqv]; omega)]
    exact decide_eq_true hp
  · rw [if_pos (by simp [PyData.eqv, e]), if_neg fun z => ?_]
    · unfold encT
      rw [PySem.W.dataLt_tuple]
      show PySem.W.rowLt (a.map .int) (b.map .int) = true
      rw [PySem.W.dataLt_ints]
      exact decide_eq_true hp
    · unfold encT at z
      rw [PyData.eqv] at z
      rw [eqv_ints a b z] at hp
      exact absurd hp (List.lt_irrefl b)
theorem ordered_powers (p n : Nat) : Ordered p n (powersOf p n) := by
  have T := PySem.W.sortLe_total (PyProof.Rows.listOrd PyProof.Rows.itemOrd) false fun b : List Int => PySem.W.keyToks (keyD b)
  have perm : (powersOf p n).Perm (tuplesOf p n) := List.mergeSort_perm _ _
  refine ⟨perm.nodup_iff.mpr (tuples_nodup p n), fun m => mem_powers, ?_⟩
  have srt : (powersOf p n).Pairwise fun a b => PySem.W.dataLe false keyD a b = true :=
    List.pairwise_mergeSort (le := PySem.W.dataLe false keyD) T.trans (fun a b => by
      rcases T.total a b with h | h
      · exact Bool.or_eq_true_iff.mpr (.inl h)
      · exact Bool.or_eq_true_iff.mpr (.inr h)) _
  refine srt.imp_of_mem fun {a b} ha hb h hpl => ?_
  have la := (mem_powers.mp ha).1
  have lb := (mem_powers.mp hb).1
  rw [PySem.W.dataLe_eq] at h
  have h' : (!PySem.W.dataLt (keyD b) (keyD a)) = true := h
  rw [keyD_lt (by omega) hpl] at h'
  cases h'
/-! ### counts -/
theorem cnt_le (ms : List (List Int)) (i : Nat) : (ms.filter fun m => decide (m.sum ≤ (i : Int))).length = (ms.filter fun m => decide (m.sum ≤ (i : Int) - 1)).length + cnt ms i := by
  unfold cnt
  induction ms with
  | nil => rfl
  | cons m ms ih =>
    rw [List.filter_cons, List.filter_cons, List.filter_cons]
    by_cases h1 : m.sum ≤ (i : Int) - 1
    · rw [if_pos (by simp; omega), if_pos (by simp; omega), if_neg (by simp; omega), List.length_cons, List.length_cons, ih]
      omega
    · by_cases h2 : m.sum = (i : Int)
      · rw [if_pos (by simp; omega), if_neg (by simp; omega), if_pos (by simp [h2]), List.length_cons, List.length_cons, ih]
        omega
      · rw [if_neg (by simp; omega), if_neg (by simp; omega), if_neg (by simp [h2]), ih]
/-- the powers that the law has gone through when it has done the degrees below i -/
def doneOf (p n i : Nat) : List (List Int) := (List.range i).flatMap fun (d : Nat) => (tuplesOf p n).reverse.filter fun m => decide (m.sum = (d : Int))
theorem mem_done {p n i : Nat} (p1 : 1 ≤ p) (m : List Int) : m ∈ doneOf p n i ↔ (Tu p n m ∧ m.sum ≤ (i : Int) - 1) := by
  unfold doneOf
  rw [List.mem_flatMap]
  constructor
  · rintro ⟨d, hd, hm⟩
    obtain ⟨h1, h2⟩ := List.mem_filter.mp hm
    rw [List.mem_reverse, mem_tuples] at h1
    have h2 := of_decide_eq_true h2
    have := List.mem_range.mp hd
    exact ⟨h1, by omega⟩
  · rintro ⟨h1, h2⟩
    obtain ⟨z0, _⟩ := sum_in (p := p) (by omega) m h1.2
    refine ⟨m.sum.toNat, List.mem_range.mpr (by omega), List.mem_filter.mpr ⟨List.mem_reverse.mpr ((mem_tuples p n m).mpr h1), decide_eq_true (by omega)⟩⟩
theorem done_snoc (p n i : Nat) : doneOf p n (i + 1) = doneOf p n i ++ (tuplesOf p n).reverse.filter fun m => decide (m.sum = (i : Int)) := by
  unfold doneOf
  rw [List.range_succ, List.flatMap_append]
  simp
theorem done_len (p n : Nat) : ∀ i : Nat, (doneOf p n i).length ≤ i * p ^ n
  | 0 => Nat.zero_le _
  | i + 1 => by
    rw [done_snoc, List.length_append, Nat.succ_mul]
    have h1 := done_len p n i
    have h2 := List.length_filter_le (fun m => decide (m.sum = (i : Int))) (tuplesOf p n).reverse
    rw [List.length_reverse, tuples_len] at h2
    omega
section
variable {p : Int} {V : List (List Int)}
theorem lrows_snoc (rows : List LRow) (ms : List (List Int)) (m : List Int) : lrows p V rows (ms ++ [m]) = grow p (lrows p V rows ms) (evL p V m) := by
  unfold lrows
  rw [List.foldl_append]
  rfl
theorem grow_len (rows : List LRow) (v : List Int) : (grow p rows v).length ≤ rows.length + 1 := by
  unfold grow
  split
  · omega
  · rw [List.length_append]
    exact Nat.le_refl _
theorem lrows_len : ∀ (ms : List (List Int)) (rows : List LRow), (lrows p V rows ms).length ≤ rows.length + ms.length
  | [], rows => Nat.le_refl _
  | m :: ms, rows => by
    have h1 := lrows_len ms (grow p rows (evL p V m))
    have h2 := grow_len (p := p) rows (evL p V m)
    show (lrows p V (grow p rows (evL p V m)) ms).length ≤ _
    rw [List.length_cons]
    omega
theorem lrows_ok (h : Pr p) (ms : List (List Int)) : LOk p V.length (lrows p V [] ms) :=
  (lrows_inv h ms [] [] LOk.nil (Tells.nil.congr fun g => ⟨fun z => z.elim, fun ⟨_, z, _⟩ => nomatch z⟩)).1
end
/-- at each degree both counts are one -/
theorem total_step {p n : Nat} {W : List (List Int)} (h : Pr p) (p1 : 1 ≤ p) (hW : ∀ q ∈ W, Tu p n q) (i : Nat) :
    ((wwalk p W (powersOf p n)).kept.filter fun m => decide (m.sum ≤ (i : Int))).length = (lrows p W [] (doneOf p n (i + 1))).length := by
  have := both_counts h hW (ordered_powers p n) (((i + 1 : Nat) : Int) - 1) (ls := doneOf p n (i + 1)) fun m => mem_done p1 m
  rw [← this]
  have e : (((i + 1 : Nat) : Int) - 1) = (i : Int) := by omega
  rw [e]
theorem total_end {p n M : Nat} {W : List (List Int)} (h : Pr p) (p1 : 1 ≤ p) (hW : ∀ q ∈ W, Tu p n q) (nd : W.Nodup) (hk : ∀ m ∈ (wwalk p W (powersOf p n)).kept, Tu p n m) (hM : n * (p - 1) + 1 = M) :
    ((wwalk p W (powersOf p n)).kept.filter fun m => decide (m.sum ≤ (M : Int) - 1)).length = W.length := by
  rw [← kept_all h hW nd (ordered_powers p n)]
  congr 1
  refine List.filter_eq_self.mpr fun m hm => decide_eq_true ?_
  obtain ⟨hl, hi⟩ := hk m hm
  obtain ⟨_, z1⟩ := sum_in (p := p) (by omega) m hi
  rw [hl] at z1
  have : (n : Int) * ((p : Int) - 1) = ((n * (p - 1) : Nat) : Int) := by
    rw [Int.natCast_mul, Int.natCast_sub p1]
    rfl
  omega
/-! ### the shapes -/
theorem shapes_ok : ∀ x ∈ shapes, (x.1 = 2 ∨ x.1 = 3 ∨ x.1 = 5 ∨ x.1 = 7) ∧ 1 ≤ x.2 ∧ x.2 ≤ 4 ∧ x.1 ^ x.2 ≤ 27 ∧ x.2 ≤ (if x.1 = 2 then 8 else if x.1 = 3 then 5 else if x.1 = 5 then 3 else 2) := by decide
end Gk

set_option maxHeartbeats 8000000
/-! Growth, the law's walks, part 7: law. -/
namespace Gk
open PySem L2
/-- a def of the top that keeps a promise -/
def Cl (K : PySem.W.Frag) (mg : Str → Option Value) (P : Program) (w : World) (base : Heap) (nm : Str) (ps : List Str) (k : Nat) (sp : L2.Sp) : Prop :=
  ∃ f fd, mg nm = some (.ref f) ∧ PySem.W.keepIn K (.ref f) = true ∧ Binds K fd ps [] ∧ FnOk P w K mg base CX0 k f fd ps sp
/-- all that law calls -/
structure LCalls (K : PySem.W.Frag) (mg : Str → Option Value) (P : Program) (w : World) (base : Heap) (CS Pt : Addr) : Prop where
  T : TSp K mg CS
  B : Nms mg
  sh : Cl K mg P w base "_law_shape" ["_law_cell_here"] 1 spSh
  ce : Cl K mg P w base "_law_cell" ["_law_script", "_law_k"] 1 (spCe K)
  na : Cl K mg P w base "_law_names" ["_law_cell_here", "_law_count"] 1 spNa
  lh : Cl K mg P w base "_law_chosen" ["_law_prime", "_law_count", "_law_cell_here"] 2 spLh
  lp : Cl K mg P w base "_law_points" ["_law_prime", "_law_count"] 1 spTo
  lv : Cl K mg P w base "_law_power_value" ["_law_prime", "_law_power", "_law_point"] 1 (spLv K)
  lg : Cl K mg P w base "_law_grown" ["_law_prime", "_law_rows", "_law_values"] 2 spLg
  gr : Cl K mg P w base "growth" ["space", "points"] 10 (spGr CS Pt)
  ini : ∃ f fd, Mk K CS f ∧ Binds K fd ["self", "prime", "names"] [] ∧ FnOk P w K mg base CX0 2 f fd ["self", "prime", "names"] (spSIni K CS)
theorem Tps.rev {H : Hp} {xs : List V} {ms : List (List Int)} (t : Tps H xs ms) : Tps H xs.reverse ms.reverse := by
  induction t with
  | nil => exact .nil
  | cons r _ ih =>
    rw [List.reverse_cons, List.reverse_cons]
    exact Paired.snoc' ih r
theorem dpAll {K : PySem.W.Frag} {H : Hp} {xs : List V} {ms : List (List Int)} (t : Tps H xs ms) : DpAll K H xs (ms.map encT) := by
  have dpi : ∀ m : List Int, DpAll K H (m.map V.int) (m.map PyData.int) := fun m => by
    induction m with
    | nil => exact .nil
    | cons x m ih => exact .cons (.int x) ih
  induction t with
  | nil => exact .nil
  | cons r _ ih =>
    obtain ⟨a, rfl, h⟩ := r
    exact .cons (.tup (.of h) (dpi _)) ih
theorem shaped_encs (ms : List (List Int)) : SeqAt.shaped (.list (ms.map encT)) = true := by
  have h1 : ∀ m : List Int, PyData.canLayAll0 (m.map PyData.int) = true := fun m => by
    induction m with
    | nil => rfl
    | cons x m ih => rw [List.map_cons, PyData.canLayAll0, ih]; rfl
  have h2 : PyData.canLayAll0 (ms.map encT) = true := by
    induction ms with
    | nil => rfl
    | cons m ms ih =>
      rw [List.map_cons, PyData.canLayAll0, ih]
      unfold encT
      rw [PyData.canLay0, h1]
      rfl
  have h3 : PyData.depthAll (ms.map encT) ≤ 1 := by
    induction ms with
    | nil => exact Nat.zero_le _
    | cons m ms ih =>
      have := depth_encT m
      have hh : PyData.canLayAll0 (ms.map encT) = true := by
        rw [List.map_cons, PyData.canLayAll0] at h2
        exact (Bool.and_eq_true_iff.mp h2).2
      have ih := ih hh
      rw [List.map_cons, PyData.depthAll]
      omega
  unfold SeqAt.shaped
  rw [PyData.canLay0, h2, PyData.depth]
  exact decide_eq_true (by omega)
section
variable {P : Program} {w : World} {K : PySem.W.Frag} {mg : Str → Option Value} {base : Heap}
abbrev sLaw : Stmt := top 39
def spLaw (K : PySem.W.Frag) (Pt : Addr) : L2.Sp := fun vs H Q _ => ∃ (a : Addr) (ns : List Int), vs = [.ref a] ∧ SqL K H a (ns.map V.int) ∧ LamX.Tabs (lamT Pt) H ∧ ∀ H', Q (.bl true) H'
theorem scLaw : FnScope ["_law_script", "_law_prime", "_law_count", "_law_space", "_law_points_here", "_law_given", "_law_found", "_law_rows", "_law_total", "_law_degree", "_law_power", "_law_point"] ["_law_script"] (defScope sLaw) := ⟨rfl, rfl, rfl, by decide +kernel, rfl, by decide +kernel, by decide +kernel⟩
theorem ok_law {f CS Pt : Addr} {fd : FuncData} (F : Fun K "law" "law" sLaw f fd) (C : LCalls K mg P w base CS Pt) : FnOk P w K mg base CX0 11 f fd ["_law_script"] (spLaw K Pt) := by
  obtain ⟨T, B, ⟨f1, fd1, g1, k1, b1, G1⟩, ⟨f2, fd2, g2, k2, b2, G2⟩, ⟨f3, fd3, g3, k3, b3, G3⟩, ⟨f4, fd4, g4, k4, b4, G4⟩, ⟨f5, fd5, g5, k5, b5, G5⟩, ⟨f6, fd6, g6, k6, b6, G6⟩, ⟨f7, fd7, g7, k7, b7, G7⟩, ⟨f8, fd8, g8, k8, b8, G8⟩, ⟨f9, fd9, M9, b9, G9⟩⟩ := C
  refine F.ok scLaw (fun vs H Q E h => ?_) (fun cdv A outer s H vs Q E hr h => ?_)
  · obtain ⟨a, ns, rfl, _⟩ := h
    rfl
  · obtain ⟨a, ns, rfl, hS, hT, k⟩ := h
    have hr1 := hr.mono (j := 1) (by decide)
    have hr2 := hr.mono (j := 2) (by decide)
    have hr3 := hr.mono (j := 3) (by decide)
    have hu64 := hr.units
    refine ⟨_, pss_cons (ps_asg (pe_call G1 hr1 rfl g1 k1 b1 .nil pass0 (pa_cons (pe_op op_mod (pe_callTy call_int1 (by rfl) B.int (by decide +kernel) (pa_cons (pe_call G2 hr1 rfl g2 k2 b2 .nil pass0 (pa_cons (pv 0) (pa_cons pe_int pa_nil))) pa_nil)) pe_int) pa_nil))
        (pg_tup rfl (pgs_cons (pg_name (i := 1) scLaw.nd rfl (Or.inr rfl)) (pgs_cons (pg_name (i := 2) scLaw.nd rfl (Or.inl rfl)) pgs_nil))))
      (pss_cons (ps_set (i := 3) scLaw.nd rfl (Or.inl rfl) (pe_make M9 G9 hr3 rfl T.g b9 .nil pass0 (pa_cons (pv 1) (pa_cons (pe_call G3 hr1 rfl g3 k3 b3 .nil pass0 (pa_cons (pe_call G2 hr1 rfl g2 k2 b2 .nil pass0 (pa_cons (pv 0) (pa_cons pe_int pa_nil))) (pa_cons (pv 2) pa_nil))) pa_nil))))
      (pss_cons (ps_set (i := 4) scLaw.nd rfl (Or.inl rfl) (pe_call G4 hr2 rfl g4 k4 b4 .nil pass0 (pa_cons (pv 1) (pa_cons (pv 2) (pa_cons (pe_call G2 hr1 rfl g2 k2 b2 .nil pass0 (pa_cons (pv 0) (pa_cons pe_int pa_nil))) pa_nil)))))
      (pss_cons (ps_set (i := 5) scLaw.nd rfl (Or.inl rfl) (pe_callTy call_list_of (by rfl) B.list (by decide +kernel) (pa_cons (pv 4) pa_nil)))
      (pss_cons (ps_set (i := 6) scLaw.nd rfl (Or.inl rfl) (pe_call G8 hr rfl g8 k8 b8 .nil pass0 (pa_cons (pv 3) (pa_cons (pv 5) pa_nil))))
      (pss_cons (ps_if (PW.pt (pw_or (pt_not (pt_val (pe_callB call_isi (by rfl) B.isi (by decide +kernel) (pa_cons (pv 6) (pa_cons (pe_bltn (v := .ty "list") (u := .type "list") (by rfl) B.list (by decide +kernel) rfl) pa_nil)))))
          (pw_or (pt_cmpR op_ne (pe_callB call_len_seq (by rfl) B.len PySem.boot_len (pa_cons (pv 6) pa_nil)) (pe_op op_add (pe_op op_mul (pv 2) (pe_op op_sub (pv 1) pe_int)) pe_int) (nomark _))
          (pw_or1 (pt_cmpR (op_neD hu64) (pv 5) (pv 4) (nomark _)))))) (pss_one (ps_ret pe_bl)) pss_nil)
      (pss_cons (ps_set (i := 7) scLaw.nd rfl (Or.inl rfl) (pe_lst pa_nil))
      (pss_cons (ps_set (i := 8) scLaw.nd rfl (Or.inl rfl) pe_int)
      (pss_cons (ps_for PassesOwn.never rfl (pi_range1 rfl B.range (pa_cons (pe_callB call_len_seq (by rfl) B.len PySem.boot_len (pa_cons (pv 6) pa_nil)) pa_nil)) (pg_name (i := 9) scLaw.nd rfl (Or.inl rfl))
        (pss_cons (ps_for PassesOwn.never rfl (pi_list (pe_revL (pe_call G5 hr1 rfl g5 k5 b5 .nil pass0 (pa_cons (pv 1) (pa_cons (pv 2) pa_nil))))) (pg_name (i := 10) scLaw.nd rfl (Or.inr rfl))
          (pss_one (ps_if (pt_cmpR op_eq (pe_callB (cr_sumT rfl) (by rfl) B.sum (by decide +kernel) (pa_cons (pv 10) pa_nil)) (pv 9) (nomark _))
            (pss_one (ps_set (i := 7) scLaw.nd rfl (Or.inl rfl) (pe_call G7 hr2 rfl g7 k7 b7 .nil pass0 (pa_cons (pv 1) (pa_cons (pv 7) (pa_cons
              (pe_lc (own := [("_law_point", 11)]) (g := gName 11) (tt := tYes) rfl scLaw.nd (pi_list (pv 4)) (blkOk_by (N := ["_law_script", "_law_prime", "_law_count", "_law_space", "_law_points_here", "_law_given", "_law_found", "_law_rows", "_law_total", "_law_degree", "_law_power", "_law_point"]) (sc := defScope sLaw) (by decide +kernel))
                (fun _ _ _ _ _ => pg_name (i := 11) scLaw.nd rfl (Or.inl rfl)) (fun _ _ _ _ _ => pts_nil)
                (fun _ _ _ _ _ => pe_call G6 hr1 rfl g6 k6 b6 .nil pass0 (pa_cons (pv 1) (pa_cons (pv 10) (pa_cons (pv 11) pa_nil))))) pa_nil)))))) pss_nil)))
        (pss_cons (ps_set (i := 8) scLaw.nd rfl (Or.inl rfl) (pe_op op_add (pv 8) (pe_ix ix_list (pv 6) (pv 9) (fun _ _ => rfl))))
        (pss_one (ps_if (pt_cmpR op_ne (pv 8) (pe_callB call_len_seq (by rfl) B.len PySem.boot_len (pa_cons (pv 7) pa_nil)) (nomark _)) (pss_one (ps_ret pe_bl)) pss_nil)))))
      (pss_one (ps_ret (pe_cmpR op_eq (pv 8) (pe_callB call_len_seq (by rfl) B.len PySem.boot_len (pa_cons (pv 4) pa_nil)) (nomark _)))))))))))), ?_⟩
    -- the shape
    refine ⟨_, rfl, a, ns, 0, rfl, hS, fun z0 => .inl ⟨_, rfl, _, _, rfl, rfl, (by show (0 : Int) < 10; decide), ?_⟩⟩
    refine ⟨z0 % 10, rfl, Int.emod_nonneg _ (by decide), Int.emod_lt_of_pos _ (by decide), fun H1 t p n s1 ht hsh => ?_⟩
    obtain ⟨hp', n1, n4, hpn, hmost⟩ := shapes_ok _ hsh
    simp only at hp' n1 n4 hpn hmost
    have hp : Pr (p : Int) := by unfold Pr; omega
    have h2 := hp.pos
    have h7 := hp.le
    have hmost' : n ≤ mostOf (p : Int) := by
      unfold mostOf
      rcases hp' with rfl | rfl | rfl | rfl
      · simpa using hmost
      · simpa using hmost
      · simpa using hmost
      · simpa using hmost
    obtain ⟨n', rfl⟩ : ∃ n', n = n' + 1 := ⟨n - 1, by omega⟩
    refine ⟨t, _, rfl, .of ht, rfl, _, _, rfl, _, _, rfl, rfl, ?_⟩
    -- the space
    refine ⟨_, rfl, _, rfl, a, ns, 1, rfl, s1.seq hS, fun z1 => ⟨_, rfl, z1, n' + 1, rfl, by omega, fun H2 l xs s2 hl hxl hxn hxo => ?_⟩⟩
    intro x dx nx ndx nex
    have hlx : (upd (upd H2 dx (.own x)) x (.ins CS dx [])) l = some (.lst (xs.map V.str)) := by
      rw [upd_ne (ne_of_none hl nx), upd_ne (ne_of_none hl ndx)]
      exact hl
    refine ⟨x, dx, l, p, xs, rfl, upd_same, hp, .of hlx, hxo, hxn, by omega, by omega, by omega, fun H3 kp hSp => ⟨rfl, ?_⟩⟩
    rw [hxl] at hSp
    have s3 : Same H2 H3 := Same.made nx ndx kp
    have s03 : Same H H3 := (s1.trans s2).trans s3
    -- the points
    refine ⟨_, rfl, _, rfl, _, rfl, a, ns, 2, rfl, s03.seq hS, fun z2 => ⟨z2, p, n' + 1, rfl, by omega, by omega, by omega, by omega, fun H4 lw ws W s4 hlw0 hlw tw sub => ?_⟩⟩
    have hWl : W.length ≤ 27 := by
      have := sub.length_le
      rw [tuples_len] at this
      omega
    have hWT : ∀ q ∈ W, Tu p (n' + 1) q := fun q hq => (mem_tuples p (n' + 1) q).mp (sub.subset hq)
    have hWn : W.Nodup := sub.nodup (tuples_nodup p (n' + 1))
    refine ⟨_, rfl, lw, _, rfl, .inl (.of hlw), fun lg hlg => ?_⟩
    have s5 : Same H4 (upd H4 lg (.lst ws)) := (Same.refl H4).upd_new1 hlg
    have s05 : Same H (upd H4 lg (.lst ws)) := (s03.trans s4).trans s5
    have hlg5 : (upd H4 lg (.lst ws)) lg = some (.lst ws) := upd_same
    have hlw5 := s5 _ _ hlw
    have tw5 := tw.same s5
    have hSp5 := (hSp.same s4).same s5
    generalize upd H4 lg (.lst ws) = H5 at s5 s05 hlg5 hlw5 tw5 hSp5
    -- growth
    refine ⟨_, rfl, _, rfl, x, lg, p, n', ws, W, rfl, ⟨hSp5, hp, by omega, by omega, hlg5, tw5, hWT, by omega, tabs_ext hT s05⟩, fun H6 cl e6 cl0 hcl => ?_⟩
    have hlg6 := e6 _ _ hlg5 (fun _ z => nomatch z)
    have hlw6 := e6 _ _ hlw5 (fun _ z => nomatch z)
    have tw6 := tw5.ext e6
    have hstep := total_step hp (by omega) hWT
    have hkT : ∀ m ∈ (wwalk p W (powersOf p (n' + 1))).kept, Tu p (n' + 1) m := by
      have I := walk_inv hp hWT (ordered_powers p (n' + 1)) (powersOf p (n' + 1)) [] ⟨[], [], []⟩ rfl WInv.nil (powersOf p (n' + 1)) [] (List.append_nil _).symm
      exact fun m hm => mem_powers.mp (by simpa using I.sub m hm)
    have hend := total_end hp (by omega) hWT hWn hkT rfl
    have hMb : (n' + 1) * (p - 1) + 1 ≤ 31 := by
      have : (n' + 1) * (p - 1) ≤ 5 * 6 := Nat.mul_le_mul (by omega) (by omega)
      omega
    have hMe : (((n' + 1 : Nat) : Int) * ((p : Int) - 1) + 1) = (((n' + 1) * (p - 1) + 1 : Nat) : Int) := by
      rw [Int.natCast_succ ((n' + 1) * (p - 1)), Int.natCast_mul, Int.natCast_sub (by omega)]
      rfl
    generalize (wwalk p W (powersOf p (n' + 1))).kept = kept at hcl hstep hkT hend
    generalize (n' + 1) * (p - 1) + 1 = M at hcl hMb hMe hend
    have hlenM : (cntsOf M kept).length = M := by
      unfold cntsOf
      rw [List.length_map, List.length_range]
    -- the three tests
    refine ⟨_, rfl, .ref cl, .ty "list", .type "list", .type "list", true, rfl, .ty _, .base (.lst hcl), kit_ty (by decide +kernel), _, rfl, iteE rfl ?_⟩
    refine ⟨_, rfl, cl, _, rfl, .inl (.of hcl), _, rfl, _, rfl, _, _, rfl, rfl, _, _, rfl, rfl, .inl ⟨by omega, by omega⟩, _, _, rfl, rfl, rfl, _, rfl, iteE ?_ ?_⟩
    · rw [decide_eq_true (by show V.int _ = V.int _; rw [hlenM, hMe])]
      rfl
    refine ⟨_, rfl, _, rfl, .list (W.map encT), .list (W.map encT), .lst (.of hlg6) (dpAll tw6), .lst (.of hlw6) (dpAll tw6), shaped_encs W, shaped_encs W, _, rfl, iteE ?_ ?_⟩
    · rw [SeqAt.eqv_refl _ (SeqAt.canLay_of_shaped (shaped_encs W))]
      rfl
    -- the count
    refine ⟨Nat.zero_le _, fun r0 hr0 => ?_⟩
    have s7 : Same H6 (upd H6 r0 (.lst [])) := (Same.refl H6).upd_new1 hr0
    have hr7 : (upd H6 r0 (.lst [])) r0 = some (.lst []) := upd_same
    have hcl7 := s7 _ _ hcl
    have hlw7 := s7 _ _ hlw6
    have tw7 := tw6.same s7
    generalize upd H6 r0 (.lst []) = H7 at s7 hr7 hcl7 hlw7 tw7
    have t0 : (kept.filter fun m => decide (m.sum ≤ ((0 : Nat) : Int) - 1)) = [] := by
      rw [List.filter_eq_nil_iff]
      intro m hm
      obtain ⟨z0, _⟩ := sum_in (p := p) (by omega) m (hkT m hm).2
      simp
      omega
    refine ⟨_, rfl, cl, _, rfl, .inl (.of hcl7), ((cntsOf M kept).length : Nat), rfl, by omega, by omega, for_range (lo := 0) (n := (cntsOf M kept).length) (fun i σ H' => ∃ (rl : Addr) (x9 x10 : Option V),
        σ = [some (.ref a), some (.int p), some (.int (n' + 1 : Nat)), some (.ref x), some (.ref lw), some (.ref lg), some (.ref cl), some (.ref rl), some (.int ((kept.filter fun m => decide (m.sum ≤ (i : Int) - 1)).length : Nat)), x9, x10, none] ∧
        Same H7 H' ∧ LRAt H' rl (lrows p W [] (doneOf p (n' + 1) i)))
      ⟨r0, none, none, by rw [t0]; rfl, Same.refl H7, [], hr7, .nil⟩ ?_ ?_⟩
    · rintro i σ H8 hi ⟨rl, x9, x10, rfl, s8, hR8⟩
      rw [hlenM] at hi
      refine ⟨_, rfl, _, rfl, p, n' + 1, rfl, by omega, by omega, by omega, by omega, fun H9 l ts s9 l0 hl9 t9 => ⟨l, ts, rfl, .of hl9, fun rv hrv => ?_⟩⟩
      have s10 : Same H9 (upd H9 rv (.lst ts.reverse)) := (Same.refl H9).upd_new1 hrv
      have hrv10 : (upd H9 rv (.lst ts.reverse)) rv = some (.lst ts.reverse) := upd_same
      have t10 := (t9.same s10).rev
      have s710 : Same H7 (upd H9 rv (.lst ts.reverse)) := (s8.trans s9).trans s10
      have hR10 := (hR8.same s9).same s10
      generalize upd H9 rv (.lst ts.reverse) = H10 at s10 hrv10 t10 s710 hR10
      have hlw10 := s710 _ _ hlw7
      have tw10 := tw7.same s710
      have hts : ts.reverse.length = p ^ (n' + 1) := by rw [List.length_reverse, t9.len, tuples_len]
      have hdl := done_len p (n' + 1) i
      have hdl' : (doneOf p (n' + 1) i).length ≤ 31 * 27 := Nat.le_trans hdl (Nat.mul_le_mul (by omega) hpn)
      refine ⟨rv, rfl, ⟨_, .of hrv10⟩, for_list (K := K) (a := rv) (xs := ts.reverse) (fun j σ H' => ∃ (rl2 : Addr) (x10 : Option V),
          σ = [some (.ref a), some (.int p), some (.int (n' + 1 : Nat)), some (.ref x), some (.ref lw), some (.ref lg), some (.ref cl), some (.ref rl2), some (.int ((kept.filter fun m => decide (m.sum ≤ (i : Int) - 1)).length : Nat)), some (.int (0 + (i : Int))), x10, none] ∧
          Same H10 H' ∧ LRAt H' rl2 (lrows p W [] (doneOf p (n' + 1) i ++ ((tuplesOf p (n' + 1)).reverse.take j).filter fun m => decide (m.sum = (i : Int)))))
        ⟨rl, x10, rfl, Same.refl H10, by simpa using hR10⟩ (fun j σ H' _ ⟨_, _, _, s', _⟩ => .of (s' _ _ hrv10)) ?_ ?_⟩
      · rintro j y σ H11 hj ⟨rl2, x10, rfl, s11, hR11⟩
        have hj' := lt_of_get hj
        obtain ⟨m, b, hm, rfl, hb10⟩ := t10.at hj
        have hmT : Tu p (n' + 1) m := (mem_tuples p (n' + 1) m).mp (List.mem_reverse.mp (mem_of_get hm))
        have hb11 := s11 _ _ hb10
        have ei : (0 : Int) + (i : Int) = (i : Int) := Int.zero_add _
        refine ⟨_, rfl, b, m, rfl, .of hb11, _, rfl, rfl, _, rfl, ?_⟩
        rw [take_snoc hm, List.filter_append, List.filter_cons]
        by_cases hd : m.sum = (i : Int)
        · refine iteI (decide_eq_true (by rw [hd, ei])) ?_
          rw [if_pos (decide_eq_true hd), List.filter_nil, ← List.append_assoc, lrows_snoc]
          have hpre : ((doneOf p (n' + 1) i) ++ ((tuplesOf p (n' + 1)).reverse.take j).filter fun m => decide (m.sum = (i : Int))).length ≤ 31 * 27 + 27 := by
            have h1 := List.length_filter_le (fun m : List Int => decide (m.sum = (i : Int))) ((tuplesOf p (n' + 1)).reverse.take j)
            rw [List.length_take, List.length_reverse, tuples_len] at h1
            rw [List.length_append]
            omega
          generalize (doneOf p (n' + 1) i) ++ ((tuplesOf p (n' + 1)).reverse.take j).filter (fun m => decide (m.sum = (i : Int))) = pre at hR11 hpre
          have hrl := lrows_len (p := p) (V := W) pre []
          have lok := lrows_ok (V := W) hp pre
          generalize lrows p W [] pre = rows at hR11 hrl lok
          refine ⟨_, rfl, _, rfl, _, rfl, lw, rfl, ⟨_, .of (s11 _ _ hlw10)⟩, fun D hD => ?_⟩
          refine lc_it (walk_list (xs := ws)) (fun c H' => Same H11 H' ∧ H' D = some (.lst ((W.take c).map fun q => V.int (mv p m q)))) ⟨(Same.refl H11).upd_new1 hD, upd_same⟩ (fun c H' _ h => .of (h.1 _ _ (s11 _ _ hlw10))) ?_ ?_
          · rintro c y H12 H13 hc ⟨s12, hA⟩ ⟨rfl, hy⟩
            obtain ⟨q, r, hq, rfl, hr10⟩ := tw10.at hy
            have hqT := hWT q (mem_of_get hq)
            refine ⟨rfl, _, rfl, _, rfl, _, rfl, b, r, p, m, q, rfl, hp, .of (s12 _ _ hb11), .of (s12 _ _ (s11 _ _ hr10)), by rw [hmT.1, hqT.1], by rw [hmT.1]; omega, hmT.2, hqT.2, ?_⟩
            refine ⟨_, hA, ?_, s12.upd_new hD, ?_⟩
            · rw [List.length_map, List.length_take]
              exact line_lt (by omega)
            · rw [upd_same, take_snoc hq, List.map_append]
              rfl
          · rintro H12 ⟨s12, hA⟩
            have hA' : H12 D = some (.lst ((evL p W m).map V.int)) := by
              rw [hA, tw10.len, List.take_length]
              unfold evL
              rw [List.map_map]
              rfl
            refine ⟨rl2, D, p, W.length, rows, evL p W m, rfl, hp, hR11.same s12, lok, by omega, by simp only [List.length_nil] at hrl; omega, hA', evL_len m, evL_in h2 m, fun H13 rl3 s13 hR13 => ?_⟩
            exact ⟨rl3, _, rfl, (s11.trans s12).trans s13, hR13⟩
        · refine iteE (decide_eq_false fun z => hd (by have := V.int.inj z; omega)) ?_
          rw [if_neg (by simp [hd]), List.filter_nil, List.append_nil]
          exact ⟨rl2, _, rfl, s11, hR11⟩
      · rintro σ H11 ⟨rl2, x10, rfl, s11, hR11⟩
        rw [List.take_of_length_le (by rw [List.length_reverse, tuples_len]; omega), ← done_snoc] at hR11
        have s711 : Same H7 H11 := s710.trans s11
        have ei : (0 : Int) + (i : Int) = ((i : Nat) : Int) := Int.zero_add _
        have hcnt : (cntsOf M kept)[i]? = some (V.int (cnt kept i : Nat)) := by
          unfold cntsOf
          rw [List.getElem?_map, List.getElem?_range hi]
          rfl
        refine ⟨_, rfl, _, rfl, _, rfl, cl, _, _, _, rfl, rfl, .of (s711 _ _ hcl7), (by rw [ei]; exact atI_nat hcnt), _, _, rfl, rfl, ?_⟩
        obtain ⟨rxs, hrxs, rpr⟩ := id hR11
        have e1 : (((kept.filter fun m => decide (m.sum ≤ (i : Int) - 1)).length : Nat) : Int) + ((cnt kept i : Nat) : Int) = (((kept.filter fun m => decide (m.sum ≤ ((i + 1 : Nat) : Int) - 1)).length : Nat) : Int) := by
          have h1 := cnt_le kept i
          have h2 : (((i + 1 : Nat) : Int) - 1) = (i : Int) := by omega
          rw [h2]
          omega
        have e2 : ((kept.filter fun m => decide (m.sum ≤ ((i + 1 : Nat) : Int) - 1)).length) = rxs.length := by
          have h1 := hstep i
          have h2 : (((i + 1 : Nat) : Int) - 1) = (i : Int) := by omega
          rw [h2, h1, paired_len rpr]
        refine ⟨_, rfl, _, rfl, rl2, _, rfl, .inl (.of hrxs), rfl, _, rfl, iteE ?_ ?_⟩
        · rw [decide_eq_true (by show V.int _ = V.int _; rw [e1, e2])]
          rfl
        · refine ⟨rl2, some (.int (0 + (i : Int))), x10, ?_, s711, hR11⟩
          rw [← e1]
          rfl
    · rintro σ H8 ⟨rl, x9, x10, rfl, s8, hR8⟩
      refine ⟨_, rfl, _, rfl, lw, _, rfl, .inl (.of (s8 _ _ hlw7)), rfl, ?_⟩
      rw [hlenM, hend, decide_eq_true (by rw [tw7.len])]
      exact k _
end
end Gk

set_option maxHeartbeats 4000000
/-! Growth, the end, part 1: from what the top has written to the defs. -/
namespace Gk
open PySem PySem.Spec PyProof.Rows L2
section
variable {K : PySem.W.Frag} {h : Heap} {mg : Str → Option Value} {nm q : Str} {st : Stmt} {f C c : Addr} {od an : Option Addr} {sl : Array (Option Value)} {oc kV dc pm cd ct : Value} {ps : List Str}
theorem df_mk (X : K.In h) (G : h.Ns mainGlobals mg) (a : PySem.W.nsIn K mainGlobals nm = some (some (.ref f))) (l : K.lookup f = some ⟨oc, od, .func (PySem.W.fnOf nm nm (defArgs st) (defBody st) (defScope st) .none kV dc pm an cd ct), sl⟩)
    (cc : PySem.W.codeIn K cd nm = true) (k : PySem.W.keepIn K (.ref f) = true)
    (b : ∀ (kV doc pm : Value) (an : Option Addr) (cdv ct : Value) (us : List Value), us.length = ps.length → bindArgs (PySem.W.fnOf nm nm (defArgs st) (defBody st) (defScope st) .none kV doc pm an cdv ct) ⟨us, []⟩ = pure (ps.zip us)) :
    Df K mg nm st f (PySem.W.fnOf nm nm (defArgs st) (defBody st) (defScope st) .none kV dc pm an cd ct) ps :=
  ⟨fun_mk l cc k, PySem.W.mg_of X G a, k, (fun_mk (st := st) l cc k).binds b⟩
theorem dfc_mk (X : K.In h) (G : h.Ns mainGlobals mg) (a : PySem.W.nsIn K mainGlobals nm = some (some (.ref f))) (l : K.lookup f = some ⟨oc, od, .func (PySem.W.fnOf nm nm (defArgs st) (defBody st) (defScope st) .none kV dc pm an (.ref c) ct), sl⟩)
    (cc : PySem.W.codeIn K (.ref c) nm = true) (k : PySem.W.keepIn K (.ref f) = true)
    (b : ∀ (kV doc pm : Value) (an : Option Addr) (cdv ct : Value) (us : List Value), us.length = ps.length → bindArgs (PySem.W.fnOf nm nm (defArgs st) (defBody st) (defScope st) .none kV doc pm an cdv ct) ⟨us, []⟩ = pure (ps.zip us)) :
    DfC K mg nm st f c (PySem.W.fnOf nm nm (defArgs st) (defBody st) (defScope st) .none kV dc pm an (.ref c) ct) ps :=
  ⟨⟨oc, od, kV, dc, pm, an, ct, sl, rfl, l, cc⟩, PySem.W.mg_of X G a, k, (fun_mk (st := st) l cc k).binds b⟩
theorem mt_mk (a : PySem.W.findIn K (.ref C) nm = some (some (.ref f))) (i : PySem.W.isFn K (.ref f) = true) (l : K.lookup f = some ⟨oc, od, .func (PySem.W.fnOf nm q (defArgs st) (defBody st) (defScope st) .none kV dc pm an cd ct), sl⟩)
    (cc : PySem.W.codeIn K cd q = true) (k : PySem.W.keepIn K (.ref f) = true)
    (b : ∀ (kV doc pm : Value) (an : Option Addr) (cdv ct : Value) (us : List Value), us.length = ps.length → bindArgs (PySem.W.fnOf nm q (defArgs st) (defBody st) (defScope st) .none kV doc pm an cdv ct) ⟨us, []⟩ = pure (ps.zip us)) :
    Mt K C nm q st f (PySem.W.fnOf nm q (defArgs st) (defBody st) (defScope st) .none kV dc pm an cd ct) ps :=
  ⟨fun_mk l cc k, ⟨a, i, k⟩, (fun_mk (st := st) l cc k).binds b⟩
end
/-- the top's tuple and dict, as they are written -/
theorem cst2_mk {K : PySem.W.Frag} {w : World} {h : Heap} {mg : Str → Option Value} {pr dm : Addr} {odP : Option Addr} {n m : Nat} {sl : Array (Option Value)} {t1 t2 t3 t4 u1 u2 u3 u4 v1 v2 v3 v4 : Tok} (X : K.In h) (G : h.Ns mainGlobals mg)
    (aP : PySem.W.nsIn K mainGlobals "PRIMES" = some (some (.ref pr))) (lP : K.lookup pr = some ⟨.type "tuple", odP, .seq #[.int 2 t1, .int 3 t2, .int 5 t3, .int 7 t4] n, sl⟩)
    (aM : PySem.W.nsIn K mainGlobals "MOST_OF_PRIME" = some (some (.ref dm))) (lM : K.lookup dm = some ⟨.type "dict", none, .dict #[⟨2, .int 2 u1, .int 8 v1⟩, ⟨3, .int 3 u2, .int 5 v2⟩, ⟨5, .int 5 u3, .int 3 v3⟩, ⟨7, .int 7 u4, .int 2 v4⟩] m, #[]⟩) : Cst2 K w mg := by
  refine ⟨⟨pr, PySem.W.mg_of X G aP, fun H => .inr ⟨_, _, _, lP, rfl, rfl, by show 4 ≤ sizeLine; exact line_big (by decide), .cons ⟨_, rfl⟩ (.cons ⟨_, rfl⟩ (.cons ⟨_, rfl⟩ (.cons ⟨_, rfl⟩ .nil)))⟩⟩, dm, PySem.W.mg_of X G aM, fun p hp => ?_⟩
  have keys : ∀ e ∈ ([⟨2, .int 2 u1, .int 8 v1⟩, ⟨3, .int 3 u2, .int 5 v2⟩, ⟨5, .int 5 u3, .int 3 v3⟩, ⟨7, .int 7 u4, .int 2 v4⟩] : List DictEntry), ∃ j t, e.key = .int j t ∧ e.hash = hashInt j := by
    intro e he
    simp only [List.mem_cons, List.not_mem_nil, or_false] at he
    rcases he with rfl | rfl | rfl | rfl
    · exact ⟨2, u1, rfl, (by decide : (2 : Int) = hashInt 2)⟩
    · exact ⟨3, u2, rfl, (by decide : (3 : Int) = hashInt 3)⟩
    · exact ⟨5, u3, rfl, (by decide : (5 : Int) = hashInt 5)⟩
    · exact ⟨7, u4, rfl, (by decide : (7 : Int) = hashInt 7)⟩
  rcases hp with rfl | rfl | rfl | rfl
  · exact ⟨_, _, .int 8 v1, lM, keys, rfl, ⟨_, rfl⟩⟩
  · exact ⟨_, _, .int 5 v2, lM, keys, rfl, ⟨_, rfl⟩⟩
  · exact ⟨_, _, .int 3 v3, lM, keys, rfl, ⟨_, rfl⟩⟩
  · exact ⟨_, _, .int 2 v4, lM, keys, rfl, ⟨_, rfl⟩⟩
end Gk

set_option maxHeartbeats 8000000
/-! Growth, the end, part 2: the law from what the top has written. -/
namespace Gk
open PySem PySem.Spec PyProof.Rows L2
theorem fin {l : PySem.W.OpenLaw} {w : World} {K : PySem.W.Frag} {h : Heap} {mg : Str → Option Value} {n : Nat} {fa CS CR c Pt pr dm : Addr} {odP : Option Addr} {nP nM : Nat} {slP : Array (Option Value)} {tL tD tN tM t1 t2 t3 t4 u1 u2 u3 u4 v1 v2 v3 v4 : Tok}
  (X : K.In h) (G : h.Ns mainGlobals mg) (hfa : mg "law" = some (.ref fa)) (tab : h.get? Pt = some { cls := .none, data := .fields #[] })
  {f0 : Addr} {od0 an0 : Option Addr} {sl0 : Array (Option Value)} {oc0 kV0 dc0 pm0 cd0 ct0 : Value}
  {f1 : Addr} {od1 an1 : Option Addr} {sl1 : Array (Option Value)} {oc1 kV1 dc1 pm1 cd1 ct1 : Value}
  {f2 : Addr} {od2 an2 : Option Addr} {sl2 : Array (Option Value)} {oc2 kV2 dc2 pm2 cd2 ct2 : Value}
  {f3 : Addr} {od3 an3 : Option Addr} {sl3 : Array (Option Value)} {oc3 kV3 dc3 pm3 cd3 ct3 : Value}
  {f4 : Addr} {od4 an4 : Option Addr} {sl4 : Array (Option Value)} {oc4 kV4 dc4 pm4 cd4 ct4 : Value}
  {f5 : Addr} {od5 an5 : Option Addr} {sl5 : Array (Option Value)} {oc5 kV5 dc5 pm5 cd5 ct5 : Value}
  {f6 : Addr} {od6 an6 : Option Addr} {sl6 : Array (Option Value)} {oc6 kV6 dc6 pm6 cd6 ct6 : Value}
  {f7 : Addr} {od7 an7 : Option Addr} {sl7 : Array (Option Value)} {oc7 kV7 dc7 pm7 ct7 : Value}
  {f8 : Addr} {od8 an8 : Option Addr} {sl8 : Array (Option Value)} {oc8 kV8 dc8 pm8 cd8 ct8 : Value}
  {f9 : Addr} {od9 an9 : Option Addr} {sl9 : Array (Option Value)} {oc9 kV9 dc9 pm9 cd9 ct9 : Value}
  {f10 : Addr} {od10 an10 : Option Addr} {sl10 : Array (Option Value)} {oc10 kV10 dc10 pm10 cd10 ct10 : Value}
  {f11 : Addr} {od11 an11 : Option Addr} {sl11 : Array (Option Value)} {oc11 kV11 dc11 pm11 cd11 ct11 : Value}
  {f12 : Addr} {od12 an12 : Option Addr} {sl12 : Array (Option Value)} {oc12 kV12 dc12 pm12 cd12 ct12 : Value}
  {f13 : Addr} {od13 an13 : Option Addr} {sl13 : Array (Option Value)} {oc13 kV13 dc13 pm13 cd13 ct13 : Value}
  {f14 : Addr} {od14 an14 : Option Addr} {sl14 : Array (Option Value)} {oc14 kV14 dc14 pm14 cd14 ct14 : Value}
  {f15 : Addr} {od15 an15 : Option Addr} {sl15 : Array (Option Value)} {oc15 kV15 dc15 pm15 cd15 ct15 : Value}
  {f16 : Addr} {od16 an16 : Option Addr} {sl16 : Array (Option Value)} {oc16 kV16 dc16 pm16 cd16 ct16 : Value}
  {f17 : Addr} {od17 an17 : Option Addr} {sl17 : Array (Option Value)} {oc17 kV17 dc17 pm17 cd17 ct17 : Value}
  {f18 : Addr} {od18 an18 : Option Addr} {sl18 : Array (Option Value)} {oc18 kV18 dc18 pm18 cd18 ct18 : Value}
  {f19 : Addr} {od19 an19 : Option Addr} {sl19 : Array (Option Value)} {oc19 kV19 dc19 pm19 cd19 ct19 : Value}
  {f20 : Addr} {od20 an20 : Option Addr} {sl20 : Array (Option Value)} {oc20 kV20 dc20 pm20 cd20 ct20 : Value}
  {f21 : Addr} {od21 an21 : Option Addr} {sl21 : Array (Option Value)} {oc21 kV21 dc21 pm21 cd21 ct21 : Value}
  {f22 : Addr} {od22 an22 : Option Addr} {sl22 : Array (Option Value)} {oc22 kV22 dc22 pm22 cd22 ct22 : Value}
  {f23 : Addr} {od23 an23 : Option Addr} {sl23 : Array (Option Value)} {oc23 kV23 dc23 pm23 cd23 ct23 : Value}
  {f24 : Addr} {od24 an24 : Option Addr} {sl24 : Array (Option Value)} {oc24 kV24 dc24 pm24 cd24 ct24 : Value}
  {f25 : Addr} {od25 an25 : Option Addr} {sl25 : Array (Option Value)} {oc25 kV25 dc25 pm25 cd25 ct25 : Value}
  {f26 : Addr} {od26 an26 : Option Addr} {sl26 : Array (Option Value)} {oc26 kV26 dc26 pm26 cd26 ct26 : Value}
  {f27 : Addr} {od27 an27 : Option Addr} {sl27 : Array (Option Value)} {oc27 kV27 dc27 pm27 cd27 ct27 : Value}
  {f28 : Addr} {od28 an28 : Option Addr} {sl28 : Array (Option Value)} {oc28 kV28 dc28 pm28 cd28 ct28 : Value}
  {f29 : Addr} {od29 an29 : Option Addr} {sl29 : Array (Option Value)} {oc29 kV29 dc29 pm29 cd29 ct29 : Value}
  {f30 : Addr} {od30 an30 : Option Addr} {sl30 : Array (Option Value)} {oc30 kV30 dc30 pm30 cd30 ct30 : Value}
  (gCS : PySem.W.nsIn K mainGlobals "Space" = some (some (.ref CS)))
  (gCR : PySem.W.nsIn K mainGlobals "Rows" = some (some (.ref CR)))
  (a0 : PySem.W.nsIn K mainGlobals "raised_number" = some (some (.ref f0)))
  (l0 : K.lookup f0 = some ⟨oc0, od0, .func (PySem.W.fnOf "raised_number" "raised_number" (defArgs sRn) (defBody sRn) (defScope sRn) .none kV0 dc0 pm0 an0 cd0 ct0), sl0⟩)
  (c0 : PySem.W.codeIn K cd0 "raised_number" = true)
  (k0 : PySem.W.keepIn K (.ref f0) = true)
  (a1 : PySem.W.nsIn K mainGlobals "tuples_of" = some (some (.ref f1)))
  (l1 : K.lookup f1 = some ⟨oc1, od1, .func (PySem.W.fnOf "tuples_of" "tuples_of" (defArgs sTo) (defBody sTo) (defScope sTo) .none kV1 dc1 pm1 an1 cd1 ct1), sl1⟩)
  (c1 : PySem.W.codeIn K cd1 "tuples_of" = true)
  (k1 : PySem.W.keepIn K (.ref f1) = true)
  (a2 : PySem.W.nsIn K mainGlobals "inverse" = some (some (.ref f2)))
  (l2 : K.lookup f2 = some ⟨oc2, od2, .func (PySem.W.fnOf "inverse" "inverse" (defArgs sInv) (defBody sInv) (defScope sInv) .none kV2 dc2 pm2 an2 cd2 ct2), sl2⟩)
  (c2 : PySem.W.codeIn K cd2 "inverse" = true)
  (k2 : PySem.W.keepIn K (.ref f2) = true)
  (a3 : PySem.W.nsIn K mainGlobals "is_name" = some (some (.ref f3)))
  (l3 : K.lookup f3 = some ⟨oc3, od3, .func (PySem.W.fnOf "is_name" "is_name" (defArgs sNm) (defBody sNm) (defScope sNm) .none kV3 dc3 pm3 an3 cd3 ct3), sl3⟩)
  (c3 : PySem.W.codeIn K cd3 "is_name" = true)
  (k3 : PySem.W.keepIn K (.ref f3) = true)
  (a4 : PySem.W.nsIn K mainGlobals "degree_of" = some (some (.ref f4)))
  (l4 : K.lookup f4 = some ⟨oc4, od4, .func (PySem.W.fnOf "degree_of" "degree_of" (defArgs sDeg) (defBody sDeg) (defScope sDeg) .none kV4 dc4 pm4 an4 cd4 ct4), sl4⟩)
  (c4 : PySem.W.codeIn K cd4 "degree_of" = true)
  (k4 : PySem.W.keepIn K (.ref f4) = true)
  (a5 : PySem.W.nsIn K mainGlobals "divides" = some (some (.ref f5)))
  (l5 : K.lookup f5 = some ⟨oc5, od5, .func (PySem.W.fnOf "divides" "divides" (defArgs sDiv) (defBody sDiv) (defScope sDiv) .none kV5 dc5 pm5 an5 cd5 ct5), sl5⟩)
  (c5 : PySem.W.codeIn K cd5 "divides" = true)
  (k5 : PySem.W.keepIn K (.ref f5) = true)
  (a6 : PySem.W.nsIn K mainGlobals "key_of" = some (some (.ref f6)))
  (l6 : K.lookup f6 = some ⟨oc6, od6, .func (PySem.W.fnOf "key_of" "key_of" (defArgs sKey) (defBody sKey) (defScope sKey) .none kV6 dc6 pm6 an6 cd6 ct6), sl6⟩)
  (c6 : PySem.W.codeIn K cd6 "key_of" = true)
  (k6 : PySem.W.keepIn K (.ref f6) = true)
  (a7 : PySem.W.nsIn K mainGlobals "ascending" = some (some (.ref f7)))
  (l7 : K.lookup f7 = some ⟨oc7, od7, .func (PySem.W.fnOf "ascending" "ascending" (defArgs sAsc) (defBody sAsc) (defScope sAsc) .none kV7 dc7 pm7 an7 (.ref c) ct7), sl7⟩)
  (c7 : PySem.W.codeIn K (.ref c) "ascending" = true)
  (k7 : PySem.W.keepIn K (.ref f7) = true)
  (a8 : PySem.W.nsIn K mainGlobals "value_of" = some (some (.ref f8)))
  (l8 : K.lookup f8 = some ⟨oc8, od8, .func (PySem.W.fnOf "value_of" "value_of" (defArgs sVal) (defBody sVal) (defScope sVal) .none kV8 dc8 pm8 an8 cd8 ct8), sl8⟩)
  (c8 : PySem.W.codeIn K cd8 "value_of" = true)
  (k8 : PySem.W.keepIn K (.ref f8) = true)
  (a9 : PySem.W.nsIn K mainGlobals "from_numbers" = some (some (.ref f9)))
  (l9 : K.lookup f9 = some ⟨oc9, od9, .func (PySem.W.fnOf "from_numbers" "from_numbers" (defArgs sFr) (defBody sFr) (defScope sFr) .none kV9 dc9 pm9 an9 cd9 ct9), sl9⟩)
  (c9 : PySem.W.codeIn K cd9 "from_numbers" = true)
  (k9 : PySem.W.keepIn K (.ref f9) = true)
  (a10 : PySem.W.nsIn K mainGlobals "walk" = some (some (.ref f10)))
  (l10 : K.lookup f10 = some ⟨oc10, od10, .func (PySem.W.fnOf "walk" "walk" (defArgs sWk) (defBody sWk) (defScope sWk) .none kV10 dc10 pm10 an10 cd10 ct10), sl10⟩)
  (c10 : PySem.W.codeIn K cd10 "walk" = true)
  (k10 : PySem.W.keepIn K (.ref f10) = true)
  (a11 : PySem.W.nsIn K mainGlobals "standing" = some (some (.ref f11)))
  (l11 : K.lookup f11 = some ⟨oc11, od11, .func (PySem.W.fnOf "standing" "standing" (defArgs sStd) (defBody sStd) (defScope sStd) .none kV11 dc11 pm11 an11 cd11 ct11), sl11⟩)
  (c11 : PySem.W.codeIn K cd11 "standing" = true)
  (k11 : PySem.W.keepIn K (.ref f11) = true)
  (a12 : PySem.W.nsIn K mainGlobals "growth" = some (some (.ref f12)))
  (l12 : K.lookup f12 = some ⟨oc12, od12, .func (PySem.W.fnOf "growth" "growth" (defArgs sGr) (defBody sGr) (defScope sGr) .none kV12 dc12 pm12 an12 cd12 ct12), sl12⟩)
  (c12 : PySem.W.codeIn K cd12 "growth" = true)
  (k12 : PySem.W.keepIn K (.ref f12) = true)
  (a13 : PySem.W.nsIn K mainGlobals "_law_cell" = some (some (.ref f13)))
  (l13 : K.lookup f13 = some ⟨oc13, od13, .func (PySem.W.fnOf "_law_cell" "_law_cell" (defArgs sCe) (defBody sCe) (defScope sCe) .none kV13 dc13 pm13 an13 cd13 ct13), sl13⟩)
  (c13 : PySem.W.codeIn K cd13 "_law_cell" = true)
  (k13 : PySem.W.keepIn K (.ref f13) = true)
  (a14 : PySem.W.nsIn K mainGlobals "_law_digits" = some (some (.ref f14)))
  (l14 : K.lookup f14 = some ⟨oc14, od14, .func (PySem.W.fnOf "_law_digits" "_law_digits" (defArgs sDg) (defBody sDg) (defScope sDg) .none kV14 dc14 pm14 an14 cd14 ct14), sl14⟩)
  (c14 : PySem.W.codeIn K cd14 "_law_digits" = true)
  (k14 : PySem.W.keepIn K (.ref f14) = true)
  (a15 : PySem.W.nsIn K mainGlobals "_law_shape" = some (some (.ref f15)))
  (l15 : K.lookup f15 = some ⟨oc15, od15, .func (PySem.W.fnOf "_law_shape" "_law_shape" (defArgs sSh) (defBody sSh) (defScope sSh) .none kV15 dc15 pm15 an15 cd15 ct15), sl15⟩)
  (c15 : PySem.W.codeIn K cd15 "_law_shape" = true)
  (k15 : PySem.W.keepIn K (.ref f15) = true)
  (a16 : PySem.W.nsIn K mainGlobals "_law_names" = some (some (.ref f16)))
  (l16 : K.lookup f16 = some ⟨oc16, od16, .func (PySem.W.fnOf "_law_names" "_law_names" (defArgs sNa) (defBody sNa) (defScope sNa) .none kV16 dc16 pm16 an16 cd16 ct16), sl16⟩)
  (c16 : PySem.W.codeIn K cd16 "_law_names" = true)
  (k16 : PySem.W.keepIn K (.ref f16) = true)
  (a17 : PySem.W.nsIn K mainGlobals "_law_points" = some (some (.ref f17)))
  (l17 : K.lookup f17 = some ⟨oc17, od17, .func (PySem.W.fnOf "_law_points" "_law_points" (defArgs sLp) (defBody sLp) (defScope sLp) .none kV17 dc17 pm17 an17 cd17 ct17), sl17⟩)
  (c17 : PySem.W.codeIn K cd17 "_law_points" = true)
  (k17 : PySem.W.keepIn K (.ref f17) = true)
  (a18 : PySem.W.nsIn K mainGlobals "_law_inverse" = some (some (.ref f18)))
  (l18 : K.lookup f18 = some ⟨oc18, od18, .func (PySem.W.fnOf "_law_inverse" "_law_inverse" (defArgs sLi) (defBody sLi) (defScope sLi) .none kV18 dc18 pm18 an18 cd18 ct18), sl18⟩)
  (c18 : PySem.W.codeIn K cd18 "_law_inverse" = true)
  (k18 : PySem.W.keepIn K (.ref f18) = true)
  (a19 : PySem.W.nsIn K mainGlobals "_law_power_value" = some (some (.ref f19)))
  (l19 : K.lookup f19 = some ⟨oc19, od19, .func (PySem.W.fnOf "_law_power_value" "_law_power_value" (defArgs sLv) (defBody sLv) (defScope sLv) .none kV19 dc19 pm19 an19 cd19 ct19), sl19⟩)
  (c19 : PySem.W.codeIn K cd19 "_law_power_value" = true)
  (k19 : PySem.W.keepIn K (.ref f19) = true)
  (a20 : PySem.W.nsIn K mainGlobals "_law_cleared" = some (some (.ref f20)))
  (l20 : K.lookup f20 = some ⟨oc20, od20, .func (PySem.W.fnOf "_law_cleared" "_law_cleared" (defArgs sLc) (defBody sLc) (defScope sLc) .none kV20 dc20 pm20 an20 cd20 ct20), sl20⟩)
  (c20 : PySem.W.codeIn K cd20 "_law_cleared" = true)
  (k20 : PySem.W.keepIn K (.ref f20) = true)
  (a21 : PySem.W.nsIn K mainGlobals "_law_grown" = some (some (.ref f21)))
  (l21 : K.lookup f21 = some ⟨oc21, od21, .func (PySem.W.fnOf "_law_grown" "_law_grown" (defArgs sLg) (defBody sLg) (defScope sLg) .none kV21 dc21 pm21 an21 cd21 ct21), sl21⟩)
  (c21 : PySem.W.codeIn K cd21 "_law_grown" = true)
  (k21 : PySem.W.keepIn K (.ref f21) = true)
  (a22 : PySem.W.nsIn K mainGlobals "_law_chosen" = some (some (.ref f22)))
  (l22 : K.lookup f22 = some ⟨oc22, od22, .func (PySem.W.fnOf "_law_chosen" "_law_chosen" (defArgs sLh) (defBody sLh) (defScope sLh) .none kV22 dc22 pm22 an22 cd22 ct22), sl22⟩)
  (c22 : PySem.W.codeIn K cd22 "_law_chosen" = true)
  (k22 : PySem.W.keepIn K (.ref f22) = true)
  (a23 : PySem.W.nsIn K mainGlobals "law" = some (some (.ref f23)))
  (l23 : K.lookup f23 = some ⟨oc23, od23, .func (PySem.W.fnOf "law" "law" (defArgs sLaw) (defBody sLaw) (defScope sLaw) .none kV23 dc23 pm23 an23 cd23 ct23), sl23⟩)
  (c23 : PySem.W.codeIn K cd23 "law" = true)
  (k23 : PySem.W.keepIn K (.ref f23) = true)
  (a24 : PySem.W.findIn K (.ref CS) "__init__" = some (some (.ref f24)))
  (i24 : PySem.W.isFn K (.ref f24) = true)
  (l24 : K.lookup f24 = some ⟨oc24, od24, .func (PySem.W.fnOf "__init__" "Space.__init__" (defArgs sSIni) (defBody sSIni) (defScope sSIni) .none kV24 dc24 pm24 an24 cd24 ct24), sl24⟩)
  (c24 : PySem.W.codeIn K cd24 "Space.__init__" = true)
  (k24 : PySem.W.keepIn K (.ref f24) = true)
  (a25 : PySem.W.findIn K (.ref CS) "points" = some (some (.ref f25)))
  (i25 : PySem.W.isFn K (.ref f25) = true)
  (l25 : K.lookup f25 = some ⟨oc25, od25, .func (PySem.W.fnOf "points" "Space.points" (defArgs sSPts) (defBody sSPts) (defScope sSPts) .none kV25 dc25 pm25 an25 cd25 ct25), sl25⟩)
  (c25 : PySem.W.codeIn K cd25 "Space.points" = true)
  (k25 : PySem.W.keepIn K (.ref f25) = true)
  (a26 : PySem.W.findIn K (.ref CS) "powers" = some (some (.ref f26)))
  (i26 : PySem.W.isFn K (.ref f26) = true)
  (l26 : K.lookup f26 = some ⟨oc26, od26, .func (PySem.W.fnOf "powers" "Space.powers" (defArgs sSPow) (defBody sSPow) (defScope sSPow) .none kV26 dc26 pm26 an26 cd26 ct26), sl26⟩)
  (c26 : PySem.W.codeIn K cd26 "Space.powers" = true)
  (k26 : PySem.W.keepIn K (.ref f26) = true)
  (a27 : PySem.W.findIn K (.ref CR) "__init__" = some (some (.ref f27)))
  (i27 : PySem.W.isFn K (.ref f27) = true)
  (l27 : K.lookup f27 = some ⟨oc27, od27, .func (PySem.W.fnOf "__init__" "Rows.__init__" (defArgs sRIni) (defBody sRIni) (defScope sRIni) .none kV27 dc27 pm27 an27 cd27 ct27), sl27⟩)
  (c27 : PySem.W.codeIn K cd27 "Rows.__init__" = true)
  (k27 : PySem.W.keepIn K (.ref f27) = true)
  (a28 : PySem.W.findIn K (.ref CR) "lessened" = some (some (.ref f28)))
  (i28 : PySem.W.isFn K (.ref f28) = true)
  (l28 : K.lookup f28 = some ⟨oc28, od28, .func (PySem.W.fnOf "lessened" "Rows.lessened" (defArgs sRLess) (defBody sRLess) (defScope sRLess) .none kV28 dc28 pm28 an28 cd28 ct28), sl28⟩)
  (c28 : PySem.W.codeIn K cd28 "Rows.lessened" = true)
  (k28 : PySem.W.keepIn K (.ref f28) = true)
  (a29 : PySem.W.findIn K (.ref CR) "keep" = some (some (.ref f29)))
  (i29 : PySem.W.isFn K (.ref f29) = true)
  (l29 : K.lookup f29 = some ⟨oc29, od29, .func (PySem.W.fnOf "keep" "Rows.keep" (defArgs sRKeep) (defBody sRKeep) (defScope sRKeep) .none kV29 dc29 pm29 an29 cd29 ct29), sl29⟩)
  (c29 : PySem.W.codeIn K cd29 "Rows.keep" = true)
  (k29 : PySem.W.keepIn K (.ref f29) = true)
  (a30 : PySem.W.findIn K (.ref CR) "take" = some (some (.ref f30)))
  (i30 : PySem.W.isFn K (.ref f30) = true)
  (l30 : K.lookup f30 = some ⟨oc30, od30, .func (PySem.W.fnOf "take" "Rows.take" (defArgs sRTake) (defBody sRTake) (defScope sRTake) .none kV30 dc30 pm30 an30 cd30 ct30), sl30⟩)
  (c30 : PySem.W.codeIn K cd30 "Rows.take" = true)
  (k30 : PySem.W.keepIn K (.ref f30) = true)
  (pgCS : PySem.W.plainGet K CS Str.empty = true)
  (hdCS : PySem.W.hasDictIn K CS = true)
  (poCS : PySem.W.plainOver K CS = true)
  (saCS : PySem.W.findIn K (.ref CS) "__setattr__" = some (some (.builtin "object.__setattr__")))
  (mkCS : PySem.W.makesIn K CS = true)
  (kcCS : PySem.W.keepIn K (.ref CS) = true)
  (nCS0 : PySem.W.findIn K (.ref CS) "prime" = some none)
  (nCS1 : PySem.W.findIn K (.ref CS) "names" = some none)
  (nCS2 : PySem.W.findIn K (.ref CS) "count" = some none)
  (pgCR : PySem.W.plainGet K CR Str.empty = true)
  (hdCR : PySem.W.hasDictIn K CR = true)
  (poCR : PySem.W.plainOver K CR = true)
  (saCR : PySem.W.findIn K (.ref CR) "__setattr__" = some (some (.builtin "object.__setattr__")))
  (mkCR : PySem.W.makesIn K CR = true)
  (kcCR : PySem.W.keepIn K (.ref CR) = true)
  (nCR0 : PySem.W.findIn K (.ref CR) "space" = some none)
  (nCR1 : PySem.W.findIn K (.ref CR) "points" = some none)
  (nCR2 : PySem.W.findIn K (.ref CR) "rows" = some none)
  (z_range : PySem.W.nsIn K mainGlobals "range" = some none)
  (z_sum : PySem.W.nsIn K mainGlobals "sum" = some none)
  (z_all : PySem.W.nsIn K mainGlobals "all" = some none)
  (z_any : PySem.W.nsIn K mainGlobals "any" = some none)
  (z_zip : PySem.W.nsIn K mainGlobals "zip" = some none)
  (z_sorted : PySem.W.nsIn K mainGlobals "sorted" = some none)
  (z_len : PySem.W.nsIn K mainGlobals "len" = some none)
  (z_set : PySem.W.nsIn K mainGlobals "set" = some none)
  (z_list : PySem.W.nsIn K mainGlobals "list" = some none)
  (z_tuple : PySem.W.nsIn K mainGlobals "tuple" = some none)
  (z_enumerate : PySem.W.nsIn K mainGlobals "enumerate" = some none)
  (z_int : PySem.W.nsIn K mainGlobals "int" = some none)
  (z_isinstance : PySem.W.nsIn K mainGlobals "isinstance" = some none)
  (v_LETTERS : PySem.W.nsIn K mainGlobals "LETTERS" = some (some (.str LET tL)))
  (v_DIGITS : PySem.W.nsIn K mainGlobals "DIGITS" = some (some (.str DIG tD)))
  (v_LONGEST_NAME : PySem.W.nsIn K mainGlobals "LONGEST_NAME" = some (some (.int 12 tN)))
  (v_MOST_NAMES : PySem.W.nsIn K mainGlobals "MOST_NAMES" = some (some (.int 8 tM)))
  (aP : PySem.W.nsIn K mainGlobals "PRIMES" = some (some (.ref pr)))
  (lP : K.lookup pr = some ⟨.type "tuple", odP, .seq #[.int 2 t1, .int 3 t2, .int 5 t3, .int 7 t4] nP, slP⟩)
  (aM : PySem.W.nsIn K mainGlobals "MOST_OF_PRIME" = some (some (.ref dm)))
  (lM : K.lookup dm = some ⟨.type "dict", none, .dict #[⟨2, .int 2 u1, .int 8 v1⟩, ⟨3, .int 3 u2, .int 5 v2⟩, ⟨5, .int 5 u3, .int 3 v3⟩, ⟨7, .int 7 u4, .int 2 v4⟩] nM, #[]⟩)
  (noP : K.lookup Pt = none) (cdP : PySem.W.codeHdIn K c Pt = true) : LamX.LawAtS l w K CX0 11 n "_law_script" mg fa h := by
  have e := hfa.symm.trans (PySem.W.mg_of X G a23)
  cases e
  have B : Nms mg := ⟨PySem.W.mg_none_of X G z_range, PySem.W.mg_none_of X G z_sum, PySem.W.mg_none_of X G z_all, PySem.W.mg_none_of X G z_any, PySem.W.mg_none_of X G z_zip, PySem.W.mg_none_of X G z_sorted, PySem.W.mg_none_of X G z_len, PySem.W.mg_none_of X G z_set, PySem.W.mg_none_of X G z_list, PySem.W.mg_none_of X G z_tuple, PySem.W.mg_none_of X G z_enumerate, PySem.W.mg_none_of X G z_int, PySem.W.mg_none_of X G z_isinstance⟩
  have Z : Cst mg := ⟨⟨_, PySem.W.mg_of X G v_LETTERS⟩, ⟨_, PySem.W.mg_of X G v_DIGITS⟩, ⟨_, PySem.W.mg_of X G v_LONGEST_NAME⟩, ⟨_, PySem.W.mg_of X G v_MOST_NAMES⟩⟩
  have Z2 : Cst2 K w mg := cst2_mk X G aP lP aM lM
  have T : TSp K mg CS := ⟨⟨pgCS, hdCS, poCS, saCS⟩, nCS0, nCS1, nCS2, PySem.W.mg_of X G gCS⟩
  have U : TRw K mg CR := ⟨⟨pgCR, hdCR, poCR, saCR⟩, nCR0, nCR1, nCR2, PySem.W.mg_of X G gCR⟩
  have D0 := df_mk (st := sRn) (ps := ["prime", "number", "exponent"]) X G a0 l0 c0 k0 (fun _ _ _ _ _ _ us hl => match us, hl with | [_, _, _], _ => rfl)
  have D1 := df_mk (st := sTo) (ps := ["prime", "count"]) X G a1 l1 c1 k1 (fun _ _ _ _ _ _ us hl => match us, hl with | [_, _], _ => rfl)
  have D2 := df_mk (st := sInv) (ps := ["prime", "number"]) X G a2 l2 c2 k2 (fun _ _ _ _ _ _ us hl => match us, hl with | [_, _], _ => rfl)
  have D3 := df_mk (st := sNm) (ps := ["text"]) X G a3 l3 c3 k3 (fun _ _ _ _ _ _ us hl => match us, hl with | [_], _ => rfl)
  have D4 := df_mk (st := sDeg) (ps := ["power"]) X G a4 l4 c4 k4 (fun _ _ _ _ _ _ us hl => match us, hl with | [_], _ => rfl)
  have D5 := df_mk (st := sDiv) (ps := ["one", "other"]) X G a5 l5 c5 k5 (fun _ _ _ _ _ _ us hl => match us, hl with | [_, _], _ => rfl)
  have D6 := df_mk (st := sKey) (ps := ["order", "power"]) X G a6 l6 c6 k6 (fun _ _ _ _ _ _ us hl => match us, hl with | [_, _], _ => rfl)
  have D7 := dfc_mk (st := sAsc) (ps := ["order", "powers"]) X G a7 l7 c7 k7 (fun _ _ _ _ _ _ us hl => match us, hl with | [_, _], _ => rfl)
  have D8 := df_mk (st := sVal) (ps := ["space", "power", "point"]) X G a8 l8 c8 k8 (fun _ _ _ _ _ _ us hl => match us, hl with | [_, _, _], _ => rfl)
  have D9 := df_mk (st := sFr) (ps := ["space", "numbers"]) X G a9 l9 c9 k9 (fun _ _ _ _ _ _ us hl => match us, hl with | [_, _], _ => rfl)
  have D10 := df_mk (st := sWk) (ps := ["space", "points", "order"]) X G a10 l10 c10 k10 (fun _ _ _ _ _ _ us hl => match us, hl with | [_, _, _], _ => rfl)
  have D11 := df_mk (st := sStd) (ps := ["space", "points", "order"]) X G a11 l11 c11 k11 (fun _ _ _ _ _ _ us hl => match us, hl with | [_, _, _], _ => rfl)
  have D12 := df_mk (st := sGr) (ps := ["space", "points"]) X G a12 l12 c12 k12 (fun _ _ _ _ _ _ us hl => match us, hl with | [_, _], _ => rfl)
  have D13 := df_mk (st := sCe) (ps := ["_law_script", "_law_k"]) X G a13 l13 c13 k13 (fun _ _ _ _ _ _ us hl => match us, hl with | [_, _], _ => rfl)
  have D14 := df_mk (st := sDg) (ps := ["_law_cell_here", "_law_many", "_law_count"]) X G a14 l14 c14 k14 (fun _ _ _ _ _ _ us hl => match us, hl with | [_, _, _], _ => rfl)
  have D15 := df_mk (st := sSh) (ps := ["_law_cell_here"]) X G a15 l15 c15 k15 (fun _ _ _ _ _ _ us hl => match us, hl with | [_], _ => rfl)
  have D16 := df_mk (st := sNa) (ps := ["_law_cell_here", "_law_count"]) X G a16 l16 c16 k16 (fun _ _ _ _ _ _ us hl => match us, hl with | [_, _], _ => rfl)
  have D17 := df_mk (st := sLp) (ps := ["_law_prime", "_law_count"]) X G a17 l17 c17 k17 (fun _ _ _ _ _ _ us hl => match us, hl with | [_, _], _ => rfl)
  have D18 := df_mk (st := sLi) (ps := ["_law_prime", "_law_number"]) X G a18 l18 c18 k18 (fun _ _ _ _ _ _ us hl => match us, hl with | [_, _], _ => rfl)
  have D19 := df_mk (st := sLv) (ps := ["_law_prime", "_law_power", "_law_point"]) X G a19 l19 c19 k19 (fun _ _ _ _ _ _ us hl => match us, hl with | [_, _, _], _ => rfl)
  have D20 := df_mk (st := sLc) (ps := ["_law_prime", "_law_rows", "_law_values"]) X G a20 l20 c20 k20 (fun _ _ _ _ _ _ us hl => match us, hl with | [_, _, _], _ => rfl)
  have D21 := df_mk (st := sLg) (ps := ["_law_prime", "_law_rows", "_law_values"]) X G a21 l21 c21 k21 (fun _ _ _ _ _ _ us hl => match us, hl with | [_, _, _], _ => rfl)
  have D22 := df_mk (st := sLh) (ps := ["_law_prime", "_law_count", "_law_cell_here"]) X G a22 l22 c22 k22 (fun _ _ _ _ _ _ us hl => match us, hl with | [_, _, _], _ => rfl)
  have D23 := df_mk (st := sLaw) (ps := ["_law_script"]) X G a23 l23 c23 k23 (fun _ _ _ _ _ _ us hl => match us, hl with | [_], _ => rfl)
  have D24 := mt_mk (st := sSIni) (ps := ["self", "prime", "names"]) a24 i24 l24 c24 k24 (fun _ _ _ _ _ _ us hl => match us, hl with | [_, _, _], _ => rfl)
  have D25 := mt_mk (st := sSPts) (ps := ["self"]) a25 i25 l25 c25 k25 (fun _ _ _ _ _ _ us hl => match us, hl with | [_], _ => rfl)
  have D26 := mt_mk (st := sSPow) (ps := ["self", "order"]) a26 i26 l26 c26 k26 (fun _ _ _ _ _ _ us hl => match us, hl with | [_, _], _ => rfl)
  have D27 := mt_mk (st := sRIni) (ps := ["self", "space", "points"]) a27 i27 l27 c27 k27 (fun _ _ _ _ _ _ us hl => match us, hl with | [_, _, _], _ => rfl)
  have D28 := mt_mk (st := sRLess) (ps := ["self", "values", "numbers"]) a28 i28 l28 c28 k28 (fun _ _ _ _ _ _ us hl => match us, hl with | [_, _, _], _ => rfl)
  have D29 := mt_mk (st := sRKeep) (ps := ["self", "values", "numbers"]) a29 i29 l29 c29 k29 (fun _ _ _ _ _ _ us hl => match us, hl with | [_, _, _], _ => rfl)
  have D30 := mt_mk (st := sRTake) (ps := ["self", "power"]) a30 i30 l30 c30 k30 (fun _ _ _ _ _ _ us hl => match us, hl with | [_, _], _ => rfl)
  refine ⟨PySem.W.fnOf "law" "law" (defArgs sLaw) (defBody sLaw) (defScope sLaw) .none kV23 dc23 pm23 an23 cd23 ct23, [(c, Pt)], spLaw K Pt, List.forall_mem_singleton.mpr tab, List.forall_mem_singleton.mpr noP, List.forall_mem_singleton.mpr (PySem.W.codeHd_of_K X cdP), fun s u => .of_eq rfl, fun H a ns _ _ hP hS => ⟨a, ns, rfl, hS, fun p hp => ?_, fun _ => rfl⟩, fun base KB GB TBs => ?_⟩
  · rw [List.mem_singleton.mp hp]
    exact LamX.TabS.nil (hP (c, Pt) List.mem_cons_self)
  have TB := TBs (c, Pt) List.mem_cons_self
  have C : Calls K mg w l.prog base CS CR Pt := ⟨T, U, B,
    ⟨_, _, D26.m, D26.b, ok_spow D26.F D25 D1 D7 D6 D4 TB B T⟩,
    ⟨_, _, D30.m, D30.b, ok_take D30.F D28 D29 D9 D8 D2 D0 B T U⟩,
    ⟨_, _, ⟨mkCR, D27.m.1, D27.m.2, kcCR⟩, D27.b, ok_rini D27.F U⟩,
    ⟨_, _, D5.g, D5.k, D5.b, ok_div D5 B⟩⟩
  have LC : LCalls K mg l.prog w base CS Pt := ⟨T, B,
    ⟨_, _, D15.g, D15.k, D15.b, ok_sh D15 B⟩,
    ⟨_, _, D13.g, D13.k, D13.b, ok_ce D13 B⟩,
    ⟨_, _, D16.g, D16.k, D16.b, ok_na D16 B⟩,
    ⟨_, _, D22.g, D22.k, D22.b, ok_lh D22 D17 D14 B⟩,
    ⟨_, _, D17.g, D17.k, D17.b, ok_lp D17 B⟩,
    ⟨_, _, D19.g, D19.k, D19.b, ok_lv D19 B⟩,
    ⟨_, _, D21.g, D21.k, D21.b, ok_lg D21 D20 D18 B⟩,
    ⟨_, _, D12.g, D12.k, D12.b, ok_gr D12 D11 D10 D7 D6 D4 TB C⟩,
    ⟨_, _, ⟨mkCS, D24.m.1, D24.m.2, kcCS⟩, D24.b, ok_sini D24.F D3 B Z Z2 T⟩⟩
  exact ok_law D23.F LC
end Gk

open PySem PySem.W PyProof.Rows
set_option maxHeartbeats 0 in
theorem PySem.Challenge.cw_standingpowers_k23_whole_growth_of_point_holds : PySem.Challenge.rw_standingpowers_k23_whole_growth_of_point.Holds := by
  w_on; o_law; k_head; (case hw => w_witness2)
  k_fill
  refine LamX.walk_ofTs (l := PySem.Challenge.rw_standingpowers_k23_whole_growth_of_point) (n := 63) (k := 11) (x := "_law_script") (CX := fun _ => L2.CX0) ?n1 (by decide) rfl ⟨rfl, by decide, by decide⟩ (fun w h Y => PySem.W.km_in_of Y) ?F (fun _ _ _ _ _ z => z)
  case n1 => exact rfl
  case F =>
    intro w mg fa h Y KX G hmg
    have hm2 : mg "law" = some (Value.ref fa) := hmg
    clear hmg
    refine' Gk.fin KX G hm2 (PySem.W.km_tabs_of Y 93 (List.mem_cons_self)) ?gCS ?gCR ?a0 ?l0 ?c0 ?k0 ?a1 ?l1 ?c1 ?k1 ?a2 ?l2 ?c2 ?k2 ?a3 ?l3 ?c3 ?k3 ?a4 ?l4 ?c4 ?k4 ?a5 ?l5 ?c5 ?k5 ?a6 ?l6 ?c6 ?k6 ?a7 ?l7 ?c7 ?k7 ?a8 ?l8 ?c8 ?k8 ?a9 ?l9 ?c9 ?k9 ?a10 ?l10 ?c10 ?k10 ?a11 ?l11 ?c11 ?k11 ?a12 ?l12 ?c12 ?k12 ?a13 ?l13 ?c13 ?k13 ?a14 ?l14 ?c14 ?k14 ?a15 ?l15 ?c15 ?k15 ?a16 ?l16 ?c16 ?k16 ?a17 ?l17 ?c17 ?k17 ?a18 ?l18 ?c18 ?k18 ?a19 ?l19 ?c19 ?k19 ?a20 ?l20 ?c20 ?k20 ?a21 ?l21 ?c21 ?k21 ?a22 ?l22 ?c22 ?k22 ?a23 ?l23 ?c23 ?k23 ?a24 ?i24 ?l24 ?c24 ?k24 ?a25 ?i25 ?l25 ?c25 ?k25 ?a26 ?i26 ?l26 ?c26 ?k26 ?a27 ?i27 ?l27 ?c27 ?k27 ?a28 ?i28 ?l28 ?c28 ?k28 ?a29 ?i29 ?l29 ?c29 ?k29 ?a30 ?i30 ?l30 ?c30 ?k30 ?pgCS ?hdCS ?poCS ?saCS ?mkCS ?kcCS ?nCS0 ?nCS1 ?nCS2 ?pgCR ?hdCR ?poCR ?saCR ?mkCR ?kcCR ?nCR0 ?nCR1 ?nCR2 ?z_range ?z_sum ?z_all ?z_any ?z_zip ?z_sorted ?z_len ?z_set ?z_list ?z_tuple ?z_enumerate ?z_int ?z_isinstance ?v_LETTERS ?v_DIGITS ?v_LONGEST_NAME ?v_MOST_NAMES ?aP ?lP ?aM ?lM ?noP ?cdP
    (case gCS => k_is)
    (case gCR => k_is)
    (case a0 => k_is)
    (case l0 => k_is)
    (case c0 => k_is)
    (case k0 => k_is)
    (case a1 => k_is)
    (case l1 => k_is)
    (case c1 => k_is)
    (case k1 => k_is)
    (case a2 => k_is)
    (case l2 => k_is)
    (case c2 => k_is)
    (case k2 => k_is)
    (case a3 => k_is)
    (case l3 => k_is)
    (case c3 => k_is)
    (case k3 => k_is)
    (case a4 => k_is)
    (case l4 => k_is)
    (case c4 => k_is)
    (case k4 => k_is)
    (case a5 => k_is)
    (case l5 => k_is)
    (case c5 => k_is)
    (case k5 => k_is)
    (case a6 => k_is)
    (case l6 => k_is)
    (case c6 => k_is)
    (case k6 => k_is)
    (case a7 => k_is)
    (case l7 => k_is)
    (case c7 => k_is)
    (case k7 => k_is)
    (case a8 => k_is)
    (case l8 => k_is)
    (case c8 => k_is)
    (case k8 => k_is)
    (case a9 => k_is)
    (case l9 => k_is)
    (case c9 => k_is)
    (case k9 => k_is)
    (case a10 => k_is)
    (case l10 => k_is)
    (case c10 => k_is)
    (case k10 => k_is)
    (case a11 => k_is)
    (case l11 => k_is)
    (case c11 => k_is)
    (case k11 => k_is)
    (case a12 => k_is)
    (case l12 => k_is)
    (case c12 => k_is)
    (case k12 => k_is)
    (case a13 => k_is)
    (case l13 => k_is)
    (case c13 => k_is)
    (case k13 => k_is)
    (case a14 => k_is)
    (case l14 => k_is)
    (case c14 => k_is)
    (case k14 => k_is)
    (case a15 => k_is)
    (case l15 => k_is)
    (case c15 => k_is)
    (case k15 => k_is)
    (case a16 => k_is)
    (case l16 => k_is)
    (case c16 => k_is)
    (case k16 => k_is)
    (case a17 => k_is)
    (case l17 => k_is)
    (case c17 => k_is)
    (case k17 => k_is)
    (case a18 => k_is)
    (case l18 => k_is)
    (case c18 => k_is)
    (case k18 => k_is)
    (case a19 => k_is)
    (case l19 => k_is)
    (case c19 => k_is)
    (case k19 => k_is)
    (case a20 => k_is)
    (case l20 => k_is)
    (case c20 => k_is)
    (case k20 => k_is)
    (case a21 => k_is)
    (case l21 => k_is)
    (case c21 => k_is)
    (case k21 => k_is)
    (case a22 => k_is)
    (case l22 => k_is)
    (case c22 => k_is)
    (case k22 => k_is)
    (case a23 => k_is)
    (case l23 => k_is)
    (case c23 => k_is)
    (case k23 => k_is)
    (case a24 => k_is)
    (case i24 => k_is)
    (case l24 => k_is)
    (case c24 => k_is)
    (case k24 => k_is)
    (case a25 => k_is)
    (case i25 => k_is)
    (case l25 => k_is)
    (case c25 => k_is)
    (case k25 => k_is)
    (case a26 => k_is)
    (case i26 => k_is)
    (case l26 => k_is)
    (case c26 => k_is)
    (case k26 => k_is)
    (case a27 => k_is)
    (case i27 => k_is)
    (case l27 => k_is)
    (case c27 => k_is)
    (case k27 => k_is)
    (case a28 => k_is)
    (case i28 => k_is)
    (case l28 => k_is)
    (case c28 => k_is)
    (case k28 => k_is)
    (case a29 => k_is)
    (case i29 => k_is)
    (case l29 => k_is)
    (case c29 => k_is)
    (case k29 => k_is)
    (case a30 => k_is)
    (case i30 => k_is)
    (case l30 => k_is)
    (case c30 => k_is)
    (case k30 => k_is)
    (case pgCS => k_is)
    (case hdCS => k_is)
    (case poCS => k_is)
    (case saCS => k_is)
    (case mkCS => k_is)
    (case kcCS => k_is)
    (case nCS0 => k_is)
    (case nCS1 => k_is)
    (case nCS2 => k_is)
    (case pgCR => k_is)
    (case hdCR => k_is)
    (case poCR => k_is)
    (case saCR => k_is)
    (case mkCR => k_is)
    (case kcCR => k_is)
    (case nCR0 => k_is)
    (case nCR1 => k_is)
    (case nCR2 => k_is)
    (case z_range => k_is)
    (case z_sum => k_is)
    (case z_all => k_is)
    (case z_any => k_is)
    (case z_zip => k_is)
    (case z_sorted => k_is)
    (case z_len => k_is)
    (case z_set => k_is)
    (case z_list => k_is)
    (case z_tuple => k_is)
    (case z_enumerate => k_is)
    (case z_int => k_is)
    (case z_isinstance => k_is)
    (case v_LETTERS => k_is)
    (case v_DIGITS => k_is)
    (case v_LONGEST_NAME => k_is)
    (case v_MOST_NAMES => k_is)
    (case aP => k_is)
    (case lP => k_is)
    (case aM => k_is)
    (case lM => k_is)
    (case cdP => kernel_rfl)
    (case noP => kernel_rfl)
