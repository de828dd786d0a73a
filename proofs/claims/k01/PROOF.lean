import PyProof.Rows.All
import HandS.ForMost
import HandS.Conv
import HandS.IsInst
import HandS.TupAny
import HandS.TupLe
import HandS.Deep
import HandS.SetKeys
import HandS.SetFor
import HandS.TupSets
import HandS.Flow
import HandS.TupLen
import HandS.SortInts
import HandS.Lambda
import HandS.EndTab
import KE.DataMinMax
import KE.SortKeyHeap
import KE.GoesEnum
import PyProof.Rows.RowBridgeK
import HandS.Strs
import KE.KLam
import PySem.Challenge.RW_joinworks_k01_whole_least_trees
import HandS.Walk
set_option Elab.async false
set_option linter.all false
set_option autoImplicit false
set_option maxRecDepth 100000
set_option maxHeartbeats 4000000
namespace KM
/-! ### joined by ties -/
/-- a and b are joined by the ties in S (the tie i joins u i and v i) -/
inductive Conn (u v : Nat → Nat) (S : Nat → Prop) : Nat → Nat → Prop
  | refl (a : Nat) : Conn u v S a a
  | edge (i : Nat) (h : S i) : Conn u v S (u i) (v i)
  | symm {a b : Nat} (h : Conn u v S a b) : Conn u v S b a
  | trans {a b c : Nat} (h : Conn u v S a b) (k : Conn u v S b c) : Conn u v S a c
section
variable {u v : Nat → Nat}
theorem Conn.of_edges {S T : Nat → Prop} (h : ∀ i, S i → Conn u v T (u i) (v i)) {a b : Nat} (c : Conn u v S a b) : Conn u v T a b := by
  induction c with
  | refl a => exact .refl a
  | edge i hi => exact h i hi
  | symm _ ih => exact ih.symm
  | trans _ _ ih1 ih2 => exact ih1.trans ih2
theorem Conn.mono {S T : Nat → Prop} (h : ∀ i, S i → T i) {a b : Nat} (c : Conn u v S a b) : Conn u v T a b :=
  c.of_edges fun i hi => .edge i (h i hi)
theorem Conn.none {a b : Nat} (c : Conn u v (fun _ => False) a b) : a = b := by
  induction c with
  | refl a => rfl
  | edge i hi => exact hi.elim
  | symm _ ih => exact ih.symm
  | trans _ _ ih1 ih2 => exact ih1.trans ih2
theorem Conn.add {S : Nat → Prop} {e a b : Nat} (c : Conn u v (fun i => S i ∨ i = e) a b) :
    Conn u v S a b ∨ (Conn u v S a (u e) ∧ Conn u v S (v e) b) ∨ (Conn u v S a (v e) ∧ Conn u v S (u e) b) := by
  induction c with
  | refl a => exact .inl (.refl a)
  | edge i hi =>
    rcases hi with hi | rfl
    · exact .inl (.edge i hi)
    · exact .inr (.inl ⟨.refl _, .refl _⟩)
  | symm _ ih =>
    rcases ih with h | ⟨h, k⟩ | ⟨h, k⟩
    · exact .inl h.symm
    · exact .inr (.inr ⟨k.symm, h.symm⟩)
    · exact .inr (.inl ⟨k.symm, h.symm⟩)
  | trans _ _ ih1 ih2 =>
    rcases ih1 with h | ⟨h, k⟩ | ⟨h, k⟩
    · rcases ih2 with h' | ⟨h', k'⟩ | ⟨h', k'⟩
      · exact .inl (h.trans h')
      · exact .inr (.inl ⟨h.trans h', k'⟩)
      · exact .inr (.inr ⟨h.trans h', k'⟩)
    · rcases ih2 with h' | ⟨h', k'⟩ | ⟨h', k'⟩
      · exact .inr (.inl ⟨h, k.trans h'⟩)
      · exact .inr (.inl ⟨h, k'⟩)
      · exact .inl (h.trans k')
    · rcases ih2 with h' | ⟨h', k'⟩ | ⟨h', k'⟩
      · exact .inr (.inr ⟨h, k.trans h'⟩)
      · exact .inl (h.trans k')
      · exact .inr (.inr ⟨h, k'⟩)
/-- the bridge lemma -/
theorem Conn.cut {F G : Nat → Prop} {e a b : Nat} (hb : ¬ Conn u v (fun i => F i ∧ i ≠ e) (u e) (v e)) (hG : ∀ i, G i → F i)
    (h1 : Conn u v G a b) (h2 : Conn u v (fun i => F i ∧ i ≠ e) a b) : Conn u v (fun i => G i ∧ i ≠ e) a b := by
  have h3 : Conn u v (fun i => (G i ∧ i ≠ e) ∨ i = e) a b := h1.mono fun i hi => by
    by_cases q : i = e
    · exact .inr q
    · exact .inl ⟨hi, q⟩
  have up : ∀ {x y : Nat}, Conn u v (fun i => G i ∧ i ≠ e) x y → Conn u v (fun i => F i ∧ i ≠ e) x y := fun c => c.mono fun i hi => ⟨hG i hi.1, hi.2⟩
  rcases h3.add with h | ⟨h, k⟩ | ⟨h, k⟩
  · exact h
  · exact (hb ((up h).symm.trans (h2.trans (up k).symm))).elim
  · exact (hb ((up k).trans (h2.symm.trans (up h)))).elim
theorem Conn.cuts {F : Nat → Prop} {a b : Nat} (h : Conn u v F a b) : ∀ D : List Nat, (∀ f ∈ D, ¬ Conn u v (fun i => F i ∧ i ≠ f) (u f) (v f)) → (∀ f ∈ D, Conn u v (fun i => F i ∧ i ≠ f) a b) →
    Conn u v (fun i => F i ∧ i ∉ D) a b
  | [], _, _ => h.mono fun i hi => ⟨hi, by simp⟩
  | f :: D, hb, hc => by
    have ih := Conn.cuts h D (fun g hg => hb g (List.mem_cons_of_mem _ hg)) (fun g hg => hc g (List.mem_cons_of_mem _ hg))
    have q := Conn.cut (hb f List.mem_cons_self) (fun i (hi : F i ∧ i ∉ D) => hi.1) ih (hc f List.mem_cons_self)
    exact q.mono fun i hi => ⟨hi.1.1, by
      rw [List.mem_cons, not_or]
      exact ⟨hi.2, hi.1.2⟩⟩
/-- the exchange: e leaves the first, f of the second crosses the cut, and without f the ends of e part -/
theorem exch {T1 : Nat → Prop} {L : List Nat} {e : Nat} (c1 : ¬ Conn u v (fun i => T1 i ∧ i ≠ e) (u e) (v e)) (b2 : ∀ f ∈ L, ¬ Conn u v (fun i => i ∈ L ∧ i ≠ f) (u f) (v f)) (c2 : Conn u v (· ∈ L) (u e) (v e)) :
    ∃ f, f ∈ L ∧ ¬ Conn u v (fun i => T1 i ∧ i ≠ e) (u f) (v f) ∧ ¬ Conn u v (fun i => i ∈ L ∧ i ≠ f) (u e) (v e) := by
  refine Classical.byContradiction fun no => ?_
  have hD : ∃ D : List Nat, ∀ f, f ∈ D ↔ f ∈ L ∧ ¬ Conn u v (fun i => T1 i ∧ i ≠ e) (u f) (v f) := by
    clear no c2 b2 c1
    induction L with
    | nil => exact ⟨[], by simp⟩
    | cons x r ih =>
      obtain ⟨D, hD⟩ := ih
      by_cases q : Conn u v (fun i => T1 i ∧ i ≠ e) (u x) (v x)
      · refine ⟨D, fun f => ?_⟩
        rw [hD, List.mem_cons]
        constructor
        · exact fun ⟨h1, h2⟩ => ⟨.inr h1, h2⟩
        · rintro ⟨rfl | h1, h2⟩
          · exact (h2 q).elim
          · exact ⟨h1, h2⟩
      · refine ⟨x :: D, fun f => ?_⟩
        rw [List.mem_cons, List.mem_cons, hD]
        constructor
        · rintro (rfl | ⟨h1, h2⟩)
          · exact ⟨.inl rfl, q⟩
          · exact ⟨.inr h1, h2⟩
        · rintro ⟨rfl | h1, h2⟩
          · exact .inl rfl
          · exact .inr ⟨h1, h2⟩
  obtain ⟨D, hD⟩ := hD
  have k := Conn.cuts c2 D (fun f hf => b2 f ((hD f).mp hf).1) (fun f hf => Classical.byContradiction fun z => no ⟨f, ((hD f).mp hf).1, ((hD f).mp hf).2, z⟩)
  refine c1 (k.of_edges fun i hi => Classical.byContradiction fun z => hi.2 ((hD i).mpr ⟨hi.1, z⟩))
/-- f goes, e comes, and all stays joined -/
theorem swap_conn {S : Nat → Prop} {e f : Nat} (h : Conn u v S (u e) (v e)) (hn : ¬ Conn u v (fun i => S i ∧ i ≠ f) (u e) (v e)) {a b : Nat} (c : Conn u v S a b) : Conn u v (fun i => (S i ∧ i ≠ f) ∨ i = e) a b := by
  have h3 : Conn u v (fun i => (S i ∧ i ≠ f) ∨ i = f) (u e) (v e) := h.mono fun i hi => by
    by_cases q : i = f
    · exact .inr q
    · exact .inl ⟨hi, q⟩
  have up : ∀ {x y : Nat}, Conn u v (fun i => S i ∧ i ≠ f) x y → Conn u v (fun i => (S i ∧ i ≠ f) ∨ i = e) x y := fun c => c.mono fun i hi => .inl hi
  have he : Conn u v (fun i => (S i ∧ i ≠ f) ∨ i = e) (u e) (v e) := .edge e (.inr rfl)
  have k : Conn u v (fun i => (S i ∧ i ≠ f) ∨ i = e) (u f) (v f) := by
    rcases h3.add with h | ⟨h, k⟩ | ⟨h, k⟩
    · exact (hn h).elim
    · exact (up h).symm.trans (he.trans (up k).symm)
    · exact (up k).trans (he.symm.trans (up h))
  refine c.of_edges fun i hi => ?_
  by_cases q : i = f
  · rw [q]; exact k
  · exact .edge i (.inl ⟨hi, q⟩)
/-! ### labels -/
/-- two places' classes become one -/
def stp (r : Nat → Nat) (a b : Nat) : Nat → Nat := fun p => if r p = max (r a) (r b) then min (r a) (r b) else r p
structure Good (u v : Nat → Nat) (r : Nat → Nat) (S : Nat → Prop) : Prop where
  le : ∀ p, r p ≤ p
  idem : ∀ p, r (r p) = r p
  iff : ∀ a b, r a = r b ↔ Conn u v S a b
theorem stp_same {r : Nat → Nat} {a b : Nat} (h : r a = r b) : stp r a b = r := by
  funext p
  unfold stp
  rw [h, Nat.max_self, Nat.min_self]
  split
  · rename_i q; exact q.symm
  · rfl
theorem min_idem {r : Nat → Nat} (id : ∀ p, r (r p) = r p) (a b : Nat) : r (min (r a) (r b)) = min (r a) (r b) := by
  rcases Nat.le_total (r a) (r b) with h | h
  · rw [Nat.min_eq_left h]; exact id a
  · rw [Nat.min_eq_right h]; exact id b
theorem max_idem {r : Nat → Nat} (id : ∀ p, r (r p) = r p) (a b : Nat) : r (max (r a) (r b)) = max (r a) (r b) := by
  rcases Nat.le_total (r a) (r b) with h | h
  · rw [Nat.max_eq_right h]; exact id b
  · rw [Nat.max_eq_left h]; exact id a
theorem Good.nil : Good u v id (fun _ => False) where
  le _ := Nat.le_refl _
  idem _ := rfl
  iff a b := ⟨fun h => by
    have h : a = b := h
    rw [h]; exact .refl _, fun h => h.none⟩
theorem stp_le {r : Nat → Nat} (le : ∀ p, r p ≤ p) (a b p : Nat) : stp r a b p ≤ p := by
  unfold stp
  have := le p
  split
  · have : min (r a) (r b) ≤ max (r a) (r b) := by omega
    omega
  · exact this
theorem stp_idem {r : Nat → Nat} (id : ∀ p, r (r p) = r p) (a b p : Nat) : stp r a b (stp r a b p) = stp r a b p := by
  unfold stp
  by_cases h : r p = max (r a) (r b)
  · rw [if_pos h, min_idem id]
    split
    · rfl
    · rfl
  · rw [if_neg h, id p, if_neg h]
theorem Good.step {r : Nat → Nat} {S : Nat → Prop} (g : Good u v r S) (e : Nat) : Good u v (stp r (u e) (v e)) (fun i => S i ∨ i = e) where
  le := stp_le g.le _ _
  idem := stp_idem g.idem _ _
  iff a b := by
    have up : ∀ {x y : Nat}, r x = r y → Conn u v (fun i => S i ∨ i = e) x y := fun h => ((g.iff _ _).mp h).mono fun i hi => .inl hi
    have he : Conn u v (fun i => S i ∨ i = e) (u e) (v e) := .edge e (.inr rfl)
    have down : ∀ {x y : Nat}, Conn u v S x y → stp r (u e) (v e) x = stp r (u e) (v e) y := fun h => by
      have h := (g.iff _ _).mpr h
      unfold stp
      rw [h]
    have ends : stp r (u e) (v e) (u e) = stp r (u e) (v e) (v e) := by
      unfold stp
      split <;> split <;> omega
    constructor
    · intro h
      have key : ∀ {x : Nat}, r x = max (r (u e)) (r (v e)) ∨ r x = min (r (u e)) (r (v e)) → Conn u v (fun i => S i ∨ i = e) x (u e) := fun {x} hx => by
        have : r x = r (u e) ∨ r x = r (v e) := by omega
        rcases this with q | q
        · exact up q
        · exact (up q).trans he.symm
      unfold stp at h
      by_cases ha : r a = max (r (u e)) (r (v e))
      · rw [if_pos ha] at h
        by_cases hb : r b = max (r (u e)) (r (v e))
        · exact (key (.inl ha)).trans (key (.inl hb)).symm
        · rw [if_neg hb] at h
          exact (key (.inl ha)).trans (key (.inr h.symm)).symm
      · rw [if_neg ha] at h
        by_cases hb : r b = max (r (u e)) (r (v e))
        · rw [if_pos hb] at h
          exact (key (.inr h)).trans (key (.inl hb)).symm
        · rw [if_neg hb] at h
          exact up h
    · intro h
      rcases h.add with h | ⟨h, k⟩ | ⟨h, k⟩
      · exact down h
      · exact (down h).trans (ends.trans (down k))
      · exact (down h).trans (ends.symm.trans (down k))
/-- the labels that a list of ties makes -/
def lab (u v : Nat → Nat) (l : List Nat) : Nat → Nat := l.foldl (fun r i => stp r (u i) (v i)) id
theorem lab_snoc (l : List Nat) (i : Nat) : lab u v (l ++ [i]) = stp (lab u v l) (u i) (v i) := by
  unfold lab
  rw [List.foldl_append]
  rfl
theorem snoc_ind {α : Type} {P : List α → Prop} (h0 : P []) (hs : ∀ l x, P l → P (l ++ [x])) (l : List α) : P l := by
  have : ∀ r : List α, P r.reverse := by
    intro r
    induction r with
    | nil => exact h0
    | cons x r ih =>
      rw [List.reverse_cons]
      exact hs _ _ ih
  have h := this l.reverse
  rwa [List.reverse_reverse] at h
theorem Good.eqv {r : Nat → Nat} {S T : Nat → Prop} (g : Good u v r S) (h : ∀ i, S i ↔ T i) : Good u v r T := by
  have e : S = T := funext fun i => propext (h i)
  rw [← e]; exact g
theorem lab_good (l : List Nat) : Good u v (lab u v l) (· ∈ l) := by
  induction l using snoc_ind with
  | h0 => exact Good.nil.eqv fun i => by simp
  | hs l x ih =>
    rw [lab_snoc]
    exact (ih.step x).eqv fun i => by simp
/-! ### how many parts -/
def cnt (n : Nat) (r : Nat → Nat) : Nat := (List.range n).countP fun p => decide (r p = p)
theorem cnt_id (n : Nat) : cnt n id = n := by
  unfold cnt
  rw [List.countP_eq_length.mpr]
  · exact List.length_range
  · intro p _
    exact decide_eq_true rfl
theorem countP_but {f : Nat → Bool} {M : Nat} (hM : f M = true) : ∀ {n : Nat}, M < n → ((List.range n).countP fun p => f p && decide (p ≠ M)) + 1 = (List.range n).countP f
  | 0, h => by omega
  | n + 1, h => by
    rw [List.range_succ, List.countP_append, List.countP_append]
    by_cases q : M = n
    · subst q
      have e : (List.range M).countP (fun p => f p && decide (p ≠ M)) = (List.range M).countP f := by
        refine List.countP_congr fun p hp => ?_
        have := List.mem_range.mp hp
        have : p ≠ M := by omega
        simp [this]
      rw [e]
      simp [hM]
    · have ih := countP_but hM (n := n) (by omega)
      have e : ([n].countP fun p => f p && decide (p ≠ M)) = [n].countP f := by
        have : n ≠ M := fun z => q z.symm
        simp [this]
      rw [e]
      omega
theorem cnt_step {r : Nat → Nat} (le : ∀ p, r p ≤ p) (idm : ∀ p, r (r p) = r p) {n a b : Nat} (ha : a < n) (hb : b < n) (h : r a ≠ r b) : cnt n (stp r a b) + 1 = cnt n r := by
  have hM : decide (r (max (r a) (r b)) = max (r a) (r b)) = true := decide_eq_true (max_idem idm a b)
  have l1 := le a
  have l2 := le b
  have q := countP_but (f := fun p => decide (r p = p)) hM (n := n) (by omega)
  unfold cnt
  rw [← q]
  congr 1
  refine List.countP_congr fun p _ => ?_
  have key : stp r a b p = p ↔ r p = p ∧ p ≠ max (r a) (r b) := by
    unfold stp
    by_cases hp : r p = max (r a) (r b)
    · rw [if_pos hp]
      constructor
      · intro z
        have z2 := min_idem idm a b
        rw [z] at z2
        omega
      · rintro ⟨z1, z2⟩
        omega
    · rw [if_neg hp]
      constructor
      · intro z
        exact ⟨z, fun z2 => hp (by rw [z]; exact z2)⟩
      · exact fun z => z.1
  simp [key]
theorem cnt_ge {n : Nat} (l : List Nat) (hl : ∀ i ∈ l, u i < n ∧ v i < n) : n ≤ cnt n (lab u v l) + l.length := by
  induction l using snoc_ind with
  | h0 => rw [show lab u v [] = id from rfl, cnt_id]; exact Nat.le_add_right _ _
  | hs l x ih =>
    have ih := ih fun i hi => hl i (List.mem_append_left _ hi)
    have hx := hl x (List.mem_append_right _ List.mem_cons_self)
    rw [lab_snoc, List.length_append]
    have g := lab_good (u := u) (v := v) l
    by_cases q : lab u v l (u x) = lab u v l (v x)
    · rw [stp_same q]
      omega
    · have := cnt_step g.le g.idem hx.1 hx.2 q
      show n ≤ cnt n (stp (lab u v l) (u x) (v x)) + (l.length + 1)
      omega
theorem countP_one {f : Nat → Bool} (h0 : f 0 = true) : ∀ {n : Nat}, 0 < n → ((List.range n).countP f = 1 ↔ ∀ p, p < n → f p = true → p = 0) := fun {n} hn => by
  have q := countP_but h0 hn
  constructor
  · intro h p hp hf
    refine Classical.byContradiction fun z => ?_
    have : 0 < (List.range n).countP fun p => f p && decide (p ≠ 0) := by
      rw [List.countP_pos_iff]
      exact ⟨p, List.mem_range.mpr hp, by simp [hf, z]⟩
    omega
  · intro h
    have : ((List.range n).countP fun p => f p && decide (p ≠ 0)) = 0 := by
      rw [List.countP_eq_zero]
      intro p hp
      have hp := List.mem_range.mp hp
      cases hf : f p with
      | false => simp
      | true => simp [h p hp hf]
    omega
/-- one part: all are joined -/
theorem cnt_one {r : Nat → Nat} {S : Nat → Prop} (g : Good u v r S) {n : Nat} (hn : 0 < n) : cnt n r = 1 ↔ ∀ a b, a < n → b < n → Conn u v S a b := by
  have r0 : r 0 = 0 := Nat.le_zero.mp (g.le 0)
  unfold cnt
  rw [countP_one (f := fun p => decide (r p = p)) (decide_eq_true r0) hn]
  constructor
  · intro h a b ha hb
    have key : ∀ p, p < n → r p = 0 := fun p hp => h (r p) (Nat.lt_of_le_of_lt (g.le p) hp) (decide_eq_true (g.idem p))
    exact (g.iff a b).mp ((key a ha).trans (key b hb).symm)
  · intro h p hp hf
    have e := (g.iff p 0).mpr (h p 0 hp hn)
    have e2 := of_decide_eq_true hf
    omega
/-! ### trees -/
/-- a lot that joins all n places with n - 1 ties -/
def IsTree (n : Nat) (u v : Nat → Nat) (l : List Nat) : Prop := l.length + 1 = n ∧ ∀ a b, a < n → b < n → Conn u v (· ∈ l) a b
theorem isTree_iff {n : Nat} (hn : 0 < n) (l : List Nat) : IsTree n u v l ↔ l.length + 1 = n ∧ cnt n (lab u v l) = 1 := by
  unfold IsTree
  rw [cnt_one (lab_good l) hn]
theorem filter_len {l : List Nat} (hd : l.Nodup) {f : Nat} (hf : f ∈ l) : (l.filter fun i => decide (i ≠ f)).length + 1 = l.length := by
  induction l with
  | nil => simp at hf
  | cons x r ih =>
    have hd' := List.nodup_cons.mp hd
    rw [List.filter_cons]
    by_cases q : x = f
    · subst q
      have e : (r.filter fun i => decide (i ≠ x)) = r := by
        rw [List.filter_eq_self]
        intro i hi
        have : i ≠ x := fun z => hd'.1 (z ▸ hi)
        simp [this]
      rw [e]
      simp
    · have hf' : f ∈ r := by
        rcases List.mem_cons.mp hf with h | h
        · exact (q h.symm).elim
        · exact h
      have := ih hd'.2 hf'
      rw [if_pos (by simp [q])]
      simp only [List.length_cons]
      omega
theorem IsTree.bridge {n : Nat} {l : List Nat} (t : IsTree n u v l) (hd : l.Nodup) (hl : ∀ i ∈ l, u i < n ∧ v i < n) : ∀ f ∈ l, ¬ Conn u v (fun i => i ∈ l ∧ i ≠ f) (u f) (v f) := by
  intro f hf c
  have hn : 0 < n := by have := t.1; omega
  have m : ∀ i, i ∈ (l.filter fun i => decide (i ≠ f)) ↔ (i ∈ l ∧ i ≠ f) := fun i => by simp
  have all : ∀ a b, a < n → b < n → Conn u v (· ∈ (l.filter fun i => decide (i ≠ f))) a b := fun a b ha hb =>
    (t.2 a b ha hb).of_edges fun i hi => by
      by_cases q : i = f
      · rw [q]; exact c.mono fun j hj => (m j).mpr hj
      · exact .edge i ((m i).mpr ⟨hi, q⟩)
  have h1 := (cnt_one (lab_good (u := u) (v := v) (l.filter fun i => decide (i ≠ f))) hn).mpr all
  have h2 := cnt_ge (u := u) (v := v) (n := n) (l.filter fun i => decide (i ≠ f)) fun i hi => hl i ((m i).mp hi).1
  have h3 := filter_len hd hf
  have := t.1
  omega
theorem IsTree.sub {n : Nat} {l l' : List Nat} (t : IsTree n u v l) (t' : IsTree n u v l') (hd' : l'.Nodup) (hl' : ∀ i ∈ l', u i < n ∧ v i < n) (h : ∀ i ∈ l, i ∈ l') : ∀ i ∈ l', i ∈ l := by
  intro f hf
  refine Classical.byContradiction fun z => ?_
  refine t'.bridge hd' hl' f hf ((t.2 (u f) (v f) (hl' f hf).1 (hl' f hf).2).mono fun i hi => ⟨h i hi, fun q => z (q ▸ hi)⟩)
/-! ### ascending lots -/
abbrev Asc (l : List Nat) : Prop := l.Pairwise (· < ·)
theorem Asc.nodup {l : List Nat} (h : Asc l) : l.Nodup := h.imp fun h => Nat.ne_of_lt h
theorem asc_ext : ∀ {l l' : List Nat}, Asc l → Asc l' → (∀ i, i ∈ l ↔ i ∈ l') → l = l'
  | [], [], _, _, _ => rfl
  | [], y :: r, _, _, h => by have := (h y).mpr List.mem_cons_self; simp at this
  | x :: r, [], _, _, h => by have := (h x).mp List.mem_cons_self; simp at this
  | x :: r, y :: s, h1, h2, h => by
    have a1 := List.pairwise_cons.mp h1
    have a2 := List.pairwise_cons.mp h2
    have e : x = y := by
      have p1 := (h x).mp List.mem_cons_self
      have p2 := (h y).mpr List.mem_cons_self
      rcases List.mem_cons.mp p1 with q1 | q1
      · exact q1
      · rcases List.mem_cons.mp p2 with q2 | q2
        · exact q2.symm
        · have := a2.1 x q1
          have := a1.1 y q2
          omega
    subst e
    have : r = s := asc_ext a1.2 a2.2 fun i => by
      have := h i
      rw [List.mem_cons, List.mem_cons] at this
      constructor
      · intro hi
        rcases this.mp (.inr hi) with q | q
        · have := a1.1 i hi; omega
        · exact q
      · intro hi
        rcases this.mpr (.inr hi) with q | q
        · have := a2.1 i hi; omega
        · exact q
    rw [this]
/-- a tie put into its place -/
def ins (f : Nat) : List Nat → List Nat
  | [] => [f]
  | x :: r => if f < x then f :: x :: r else x :: ins f r
theorem mem_ins {f i : Nat} : ∀ {l : List Nat}, i ∈ ins f l ↔ i = f ∨ i ∈ l
  | [] => by simp [ins]
  | x :: r => by
    unfold ins
    split
    · simp
    · rw [List.mem_cons, mem_ins, List.mem_cons]
      constructor
      · rintro (h | h | h)
        · exact .inr (.inl h)
        · exact .inl h
        · exact .inr (.inr h)
      · rintro (h | h | h)
        · exact .inr (.inl h)
        · exact .inl h
        · exact .inr (.inr h)
theorem ins_len {f : Nat} : ∀ {l : List Nat}, (ins f l).length = l.length + 1
  | [] => rfl
  | x :: r => by
    unfold ins
    split
    · rfl
    · rw [List.length_cons, ins_len]
      rfl
theorem ins_asc {f : Nat} : ∀ {l : List Nat}, Asc l → f ∉ l → Asc (ins f l)
  | [], _, _ => by simp [ins]
  | x :: r, h, hf => by
    have a := List.pairwise_cons.mp h
    unfold ins
    have hx : f ≠ x := fun z => hf (z ▸ List.mem_cons_self)
    split
    · rename_i q
      refine List.pairwise_cons.mpr ⟨fun y hy => ?_, h⟩
      rcases List.mem_cons.mp hy with rfl | hy
      · exact q
      · have := a.1 y hy; omega
    · refine List.pairwise_cons.mpr ⟨fun y hy => ?_, ins_asc a.2 fun z => hf (List.mem_cons_of_mem _ z)⟩
      rcases mem_ins.mp hy with rfl | hy
      · omega
      · exact a.1 y hy
/-- a lot with a tie in another's place -/
def swp (l : List Nat) (out more : Nat) : List Nat := ins more (l.filter fun i => decide (i ≠ out))
theorem mem_swp {l : List Nat} {o m i : Nat} : i ∈ swp l o m ↔ (i ∈ l ∧ i ≠ o) ∨ i = m := by
  unfold swp
  rw [mem_ins]
  simp
  constructor
  · rintro (h | h)
    · exact .inr h
    · exact .inl h
  · rintro (h | h)
    · exact .inr h
    · exact .inl h
theorem swp_asc {l : List Nat} {o m : Nat} (h : Asc l) (hm : m ∉ l) : Asc (swp l o m) := by
  refine ins_asc (h.filter _) fun z => hm (List.mem_filter.mp z).1
theorem swp_len {l : List Nat} {o m : Nat} (h : Asc l) (ho : o ∈ l) : (swp l o m).length = l.length := by
  unfold swp
  rw [ins_len, filter_len h.nodup ho]
def cost (p : Nat → Nat) (l : List Nat) : Nat := (l.map p).sum
theorem cost_ins {p : Nat → Nat} {f : Nat} : ∀ {l : List Nat}, cost p (ins f l) = p f + cost p l
  | [] => rfl
  | x :: r => by
    unfold ins
    split
    · rfl
    · have ih := cost_ins (p := p) (f := f) (l := r)
      unfold cost at ih ⊢
      rw [List.map_cons, List.sum_cons, ih, List.map_cons, List.sum_cons]
      omega
theorem cost_filter {p : Nat → Nat} {f : Nat} : ∀ {l : List Nat}, l.Nodup → f ∈ l → p f + cost p (l.filter fun i => decide (i ≠ f)) = cost p l
  | [], _, h => by simp at h
  | x :: r, hd, hf => by
    have hd' := List.nodup_cons.mp hd
    rw [List.filter_cons]
    by_cases q : x = f
    · subst q
      have e : (r.filter fun i => decide (i ≠ x)) = r := by
        rw [List.filter_eq_self]
        intro i hi
        have : i ≠ x := fun z => hd'.1 (z ▸ hi)
        simp [this]
      rw [e, if_neg (by simp)]
      unfold cost
      rw [List.map_cons, List.sum_cons]
    · have hf' : f ∈ r := by
        rcases List.mem_cons.mp hf with h | h
        · exact (q h.symm).elim
        · exact h
      have ih := cost_filter (p := p) hd'.2 hf'
      rw [if_pos (by simp [q])]
      unfold cost at ih ⊢
      rw [List.map_cons, List.sum_cons, List.map_cons, List.sum_cons]
      omega
theorem cost_swp {p : Nat → Nat} {l : List Nat} {o m : Nat} (h : Asc l) (ho : o ∈ l) : cost p (swp l o m) + p o = cost p l + p m := by
  unfold swp
  rw [cost_ins]
  have := cost_filter (p := p) h.nodup ho
  omega
theorem swp_tree {n : Nat} {l : List Nat} {o m : Nat} (h : Asc l) (t : IsTree n u v l) (ho : o ∈ l) (hm : u m < n ∧ v m < n) (hc : ¬ Conn u v (fun i => i ∈ l ∧ i ≠ o) (u m) (v m)) : IsTree n u v (swp l o m) := by
  refine ⟨by rw [swp_len h ho]; exact t.1, fun a b ha hb => ?_⟩
  exact (swap_conn (t.2 _ _ hm.1 hm.2) hc (t.2 a b ha hb)).mono fun i hi => mem_swp.mpr hi
/-- two trees: a tie of the first that is not of the second goes, a tie of the second comes, in both -/
theorem both {n : Nat} {T L : List Nat} (aT : Asc T) (aL : Asc L) (tT : IsTree n u v T) (tL : IsTree n u v L) (hT : ∀ i ∈ T, u i < n ∧ v i < n) (hL : ∀ i ∈ L, u i < n ∧ v i < n) {e : Nat} (he : e ∈ T) (hn : e ∉ L) :
    ∃ f, f ∈ L ∧ f ∉ T ∧ IsTree n u v (swp T e f) ∧ IsTree n u v (swp L f e) ∧ ¬ Conn u v (fun i => i ∈ L ∧ i ≠ f) (u e) (v e) := by
  obtain ⟨f, hf, c1, c2⟩ := exch (T1 := (· ∈ T)) (L := L) (e := e) (tT.bridge aT.nodup hT e he) (tL.bridge aL.nodup hL) (tL.2 _ _ (hT e he).1 (hT e he).2)
  have hfT : f ∉ T := fun z => c1 (.edge f ⟨z, fun q => hn (q ▸ hf)⟩)
  exact ⟨f, hf, hfT, swp_tree aT tT he (hL f hf) c1, swp_tree aL tL hf (hT e he) c2, c2⟩
theorem tree_ext {n : Nat} {T L : List Nat} (aT : Asc T) (aL : Asc L) (tT : IsTree n u v T) (tL : IsTree n u v L) (hL : ∀ i ∈ L, u i < n ∧ v i < n) (h : ∀ i ∈ T, i ∈ L) : T = L :=
  asc_ext aT aL fun i => ⟨h i, tT.sub tL aL.nodup hL h i⟩
/-- a tree that no exchange makes cheaper is a least tree -/
theorem local_least {n : Nat} {p : Nat → Nat} {L : List Nat} (aL : Asc L) (tL : IsTree n u v L) (hL : ∀ i ∈ L, u i < n ∧ v i < n)
    (no : ∀ f e, f ∈ L → e ∉ L → u e < n ∧ v e < n → IsTree n u v (swp L f e) → p f ≤ p e) :
    ∀ (k : Nat) (T : List Nat), (T.filter fun i => decide (i ∉ L)).length ≤ k → Asc T → IsTree n u v T → (∀ i ∈ T, u i < n ∧ v i < n) → (∀ i ∈ T, i ∉ L → True) → cost p L ≤ cost p T := by
  intro k
  induction k with
  | zero =>
    intro T hk aT tT hT _
    have e : T = L := tree_ext aT aL tT tL hL fun i hi => Classical.byContradiction fun z => by
      have : i ∈ T.filter fun i => decide (i ∉ L) := List.mem_filter.mpr ⟨hi, decide_eq_true z⟩
      have := List.length_pos_of_mem this
      omega
    rw [e]
    exact Nat.le_refl _
  | succ k ih =>
    intro T hk aT tT hT _
    by_cases sub : ∀ i ∈ T, i ∈ L
    · rw [tree_ext aT aL tT tL hL sub]
      exact Nat.le_refl _
    · have : ∃ e, e ∈ T ∧ e ∉ L := Classical.byContradiction fun z => sub fun i hi => Classical.byContradiction fun q => z ⟨i, hi, q⟩
      obtain ⟨e, he, hn⟩ := this
      obtain ⟨f, hf, hfT, t1, t2, _⟩ := both aT aL tT tL hT hL he hn
      have hp := no f e hf hn (hT e he) t2
      have hc := cost_swp (p := p) (m := f) aT he
      have hlt : ((swp T e f).filter fun i => decide (i ∉ L)).length < (T.filter fun i => decide (i ∉ L)).length := by
        have s : ∀ i, i ∈ (swp T e f).filter (fun i => decide (i ∉ L)) ↔ i ∈ (T.filter fun i => decide (i ∉ L)).filter fun i => decide (i ≠ e) := fun i => by
          rw [List.mem_filter, List.mem_filter, List.mem_filter, mem_swp]
          simp
          constructor
          · rintro ⟨h | rfl, h2⟩
            · exact ⟨⟨h.1, h2⟩, h.2⟩
            · exact (h2 hf).elim
          · rintro ⟨⟨h1, h2⟩, h3⟩
            exact ⟨.inl ⟨h1, h3⟩, h2⟩
        have e2 := asc_ext ((swp_asc (o := e) aT hfT).filter _) ((aT.filter _).filter _) s
        rw [e2]
        have := filter_len (l := T.filter fun i => decide (i ∉ L)) (Asc.nodup (aT.filter _)) (f := e) (List.mem_filter.mpr ⟨he, decide_eq_true hn⟩)
        omega
      have := ih (swp T e f) (by omega) (swp_asc aT hfT) t1 (fun i hi => by
        rcases mem_swp.mp hi with h | h
        · exact hT i h.1
        · rw [h]; exact hL f hf) fun _ _ _ => trivial
      omega
/-! ### the order of two lots -/
/-- the first list is less, sign by sign -/
def lexLt : List Nat → List Nat → Prop
  | [], [] => False
  | [], _ :: _ => True
  | _ :: _, [] => False
  | x :: r, y :: s => x < y ∨ (x = y ∧ lexLt r s)
theorem lex_swp : ∀ {l : List Nat} {o m : Nat}, Asc l → o ∈ l → m ∉ l → m < o → lexLt (swp l o m) l
  | [], _, _, _, h, _, _ => by simp at h
  | x :: r, o, m, h, ho, hm, hlt => by
    have a := List.pairwise_cons.mp h
    unfold swp
    have hmx : m ≠ x := fun z => hm (z ▸ List.mem_cons_self)
    by_cases q : m < x
    · rw [List.filter_cons]
      by_cases qo : x = o
      · rw [if_neg (by simp [qo])]
        cases hr : r.filter fun i => decide (i ≠ o) with
        | nil => exact .inl q
        | cons y s =>
          unfold ins
          have hy : y ∈ r := (List.mem_filter.mp (hr ▸ List.mem_cons_self : y ∈ r.filter fun i => decide (i ≠ o))).1
          have := a.1 y hy
          rw [if_pos (by omega)]
          exact .inl q
      · rw [if_pos (by simp [qo])]
        unfold ins
        rw [if_pos q]
        exact .inl q
    · have ho' : o ∈ r := by
        rcases List.mem_cons.mp ho with z | z
        · omega
        · exact z
      have := a.1 o ho'
      rw [List.filter_cons, if_pos (by simp; omega)]
      unfold ins
      rw [if_neg q]
      refine .inr ⟨rfl, ?_⟩
      exact lex_swp a.2 ho' (fun z => hm (List.mem_cons_of_mem _ z)) hlt
theorem lexLt_irrefl : ∀ l : List Nat, ¬ lexLt l l
  | [] => fun h => h
  | x :: r => fun h => by
    rcases h with h | ⟨_, h⟩
    · omega
    · exact lexLt_irrefl r h
/-! ### Kruskal -/
/-- the ties that join new parts, one after another -/
def kr (u v : Nat → Nat) (ord : List Nat) : List Nat := ord.foldl (fun f i => if lab u v f (u i) ≠ lab u v f (v i) then f ++ [i] else f) []
theorem kr_snoc (l : List Nat) (i : Nat) : kr u v (l ++ [i]) = if lab u v (kr u v l) (u i) ≠ lab u v (kr u v l) (v i) then kr u v l ++ [i] else kr u v l := by
  unfold kr
  rw [List.foldl_append]
  rfl
theorem kr_sub (l : List Nat) : ∀ i ∈ kr u v l, i ∈ l := by
  induction l using snoc_ind with
  | h0 => intro i h; exact h
  | hs l x ih =>
    intro i hi
    rw [kr_snoc] at hi
    split at hi
    · rcases List.mem_append.mp hi with h | h
      · exact List.mem_append_left _ (ih i h)
      · exact List.mem_append_right _ h
    · exact List.mem_append_left _ (ih i hi)
theorem kr_nodup (l : List Nat) (hd : l.Nodup) : (kr u v l).Nodup := by
  induction l using snoc_ind with
  | h0 => exact List.nodup_nil
  | hs l x ih =>
    have h := List.nodup_append.mp hd
    rw [kr_snoc]
    split
    · refine List.nodup_append.mpr ⟨ih h.1, by simp, fun a ha b hb => ?_⟩
      exact h.2.2 a (kr_sub l a ha) b hb
    · exact ih h.1
theorem kr_cnt {n : Nat} (l : List Nat) (hl : ∀ i ∈ l, u i < n ∧ v i < n) : cnt n (lab u v (kr u v l)) + (kr u v l).length = n := by
  induction l using snoc_ind with
  | h0 => rw [show kr u v [] = [] from rfl, show lab u v [] = id from rfl, cnt_id]; rfl
  | hs l x ih =>
    have ih := ih fun i hi => hl i (List.mem_append_left _ hi)
    have hx := hl x (List.mem_append_right _ List.mem_cons_self)
    rw [kr_snoc]
    split
    · rename_i q
      have g := lab_good (u := u) (v := v) (kr u v l)
      have := cnt_step g.le g.idem hx.1 hx.2 q
      rw [lab_snoc, List.length_append]
      show cnt n (stp (lab u v (kr u v l)) (u x) (v x)) + ((kr u v l).length + 1) = n
      omega
    · exact ih
theorem kr_greedy {lt : Nat → Nat → Prop} (l : List Nat) (hs : l.Pairwise lt) : ∀ i ∈ l, i ∉ kr u v l → Conn u v (fun j => j ∈ kr u v l ∧ lt j i) (u i) (v i) := by
  induction l using snoc_ind with
  | h0 => intro i h; simp at h
  | hs l x ih =>
    have h := List.pairwise_append.mp hs
    intro i hi hn
    rw [kr_snoc] at hn ⊢
    by_cases q : lab u v (kr u v l) (u x) ≠ lab u v (kr u v l) (v x)
    · rw [if_pos q] at hn ⊢
      rcases List.mem_append.mp hi with hi | hi
      · exact (ih h.1 i hi fun z => hn (List.mem_append_left _ z)).mono fun j hj => ⟨List.mem_append_left _ hj.1, hj.2⟩
      · exact (hn (List.mem_append_right _ hi)).elim
    · rw [if_neg q] at hn ⊢
      rcases List.mem_append.mp hi with hi | hi
      · exact ih h.1 i hi hn
      · have e : i = x := by simpa using hi
        subst e
        have q : lab u v (kr u v l) (u i) = lab u v (kr u v l) (v i) := Classical.byContradiction q
        exact ((lab_good (kr u v l)).iff _ _ |>.mp q).mono fun j hj => ⟨hj, h.2.2 j (kr_sub l j hj) i hi⟩
theorem kr_all {n : Nat} (l : List Nat) (T : List Nat) (hT : ∀ i ∈ T, i ∈ l) (hl : ∀ i ∈ l, u i < n ∧ v i < n) (t : IsTree n u v T) : IsTree n u v (kr u v l) := by
  have hn : 0 < n := by have := t.1; omega
  have c : ∀ a b, a < n → b < n → Conn u v (· ∈ kr u v l) a b := fun a b ha hb => (t.2 a b ha hb).of_edges fun i hi => by
    by_cases q : i ∈ kr u v l
    · exact .edge i q
    · exact (kr_greedy (lt := fun _ _ => True) l (List.pairwise_of_forall fun _ _ => trivial) i (hT i hi) q).mono fun j hj => hj.1
  have h1 := (cnt_one (lab_good (u := u) (v := v) (kr u v l)) hn).mpr c
  have h2 := kr_cnt (n := n) l hl
  exact ⟨by omega, c⟩
/-- the tree that is made in the order of price and index is the least tree, of these the least lot -/
theorem kruskal {n : Nat} {p : Nat → Nat} {ord K m : List Nat} (hs : ord.Pairwise fun i j => p i < p j ∨ (p i = p j ∧ i < j)) (hl : ∀ i ∈ ord, u i < n ∧ v i < n)
    (aK : Asc K) (eK : ∀ i, i ∈ K ↔ i ∈ kr u v ord) (am : Asc m) (tm : IsTree n u v m) (hm : ∀ i ∈ m, i ∈ ord)
    (least : ∀ T, Asc T → IsTree n u v T → (∀ i ∈ T, i ∈ ord) → ¬ (cost p T < cost p m ∨ (cost p T = cost p m ∧ lexLt T m))) : IsTree n u v K ∧ K = m := by
  have hd : ord.Nodup := hs.imp fun h z => by
    subst z
    omega
  have tk : IsTree n u v (kr u v ord) := kr_all ord m hm hl tm
  have eS : (· ∈ kr u v ord) = (· ∈ K) := funext fun i => propext (eK i).symm
  have lenK : K.length = (kr u v ord).length := by
    have h1 : ∀ {l l' : List Nat}, l.Nodup → (∀ i ∈ l, i ∈ l') → l.length ≤ l'.length := by
      intro l
      induction l with
      | nil => intro l' _ _; exact Nat.zero_le _
      | cons x r ih =>
        intro l' hd h
        have hd' := List.nodup_cons.mp hd
        have hx := h x List.mem_cons_self
        have := ih (l' := l'.erase x) hd'.2 fun i hi => (List.mem_erase_of_ne fun (z : i = x) => hd'.1 (z ▸ hi)).mpr (h i (List.mem_cons_of_mem _ hi))
        rw [List.length_erase_of_mem hx] at this
        have := List.length_pos_of_mem hx
        rw [List.length_cons]
        omega
    exact Nat.le_antisymm (h1 aK.nodup fun i hi => (eK i).mp hi) (h1 (kr_nodup ord hd) fun i hi => (eK i).mpr hi)
  have tK : IsTree n u v K := ⟨by rw [lenK]; exact tk.1, fun a b ha hb => by rw [← eS]; exact tk.2 a b ha hb⟩
  have kO : ∀ i ∈ K, i ∈ ord := fun i hi => kr_sub ord i ((eK i).mp hi)
  refine ⟨tK, ?_⟩
  have sub : ∀ i ∈ m, i ∈ K := fun e he => Classical.byContradiction fun hn => by
    obtain ⟨f, hf, hfm, t1, _, c2⟩ := both am aK tm tK (fun i hi => hl i (hm i hi)) (fun i hi => hl i (kO i hi)) he hn
    have gr := kr_greedy (u := u) (v := v) (lt := fun i j => p i < p j ∨ (p i = p j ∧ i < j)) ord hs e (hm e he) fun z => hn ((eK e).mpr z)
    have lt : p f < p e ∨ (p f = p e ∧ f < e) := Classical.byContradiction fun z => c2 (gr.mono fun j hj => ⟨(eK j).mpr hj.1, fun q => z (q ▸ hj.2)⟩)
    have hc := cost_swp (p := p) (m := f) am he
    refine least (swp m e f) (swp_asc am hfm) t1 (fun i hi => ?_) ?_
    · rcases mem_swp.mp hi with h | h
      · exact hm i h.1
      · rw [h]; exact kO f hf
    · rcases lt with h | ⟨h1, h2⟩
      · exact .inl (by omega)
      · exact .inr ⟨by omega, lex_swp am he hfm h2⟩
  exact (tree_ext am aK tm tK (fun i hi => hl i (kO i hi)) sub).symm
end
end KM
namespace L2
open PySem PySem.W PySem.Spec PyProof.Rows
/-! ### min of a list of alike data -/
def rMinD (K : PySem.W.Frag) : List V → Hp → VK → Prop := fun vs H Q => ∃ (a : Addr) (ps : List (V × PyData)) (x : PyData) (xs : List PyData), vs = [.ref a] ∧ SqL K H a (ps.map (·.1)) ∧ (∀ p ∈ ps, Dp K H p.1 p.2) ∧ ps.map (·.2) = x :: xs ∧ AlikeAll (x :: xs) ∧ PyData.depthAll (x :: xs) ≤ 4 ∧
  ∀ p ∈ ps, p.2 = minD x xs → Q p.1 H
theorem dpAll_of {K : PySem.W.Frag} {H : Hp} : ∀ {ps : List (V × PyData)}, (∀ p ∈ ps, Dp K H p.1 p.2) → DpAll K H (ps.map (·.1)) (ps.map (·.2))
  | [], _ => .nil
  | p :: ps, h => .cons (h p List.mem_cons_self) (dpAll_of fun q hq => h q (List.mem_cons_of_mem _ hq))
theorem cr_minD {X : Cx} {k : Nat} (hc : X.calm = true) (hr : Room k X.A) : CallR X (.builtin "min") (rMinD X.K) := by
  intro pins s σ H vs us Q I r h
  obtain ⟨a, ps, x, xs, rfl, hq, hd, he, hal, hdep, q⟩ := h
  obtain rfl := Vals.ref1 r
  obtain ⟨its, rv, pl, hz⟩ := I.list hq
  obtain ⟨as, hrd⟩ := Dp.readsAll I _ _ _ (dpAll_of hd) rv
  rw [he] at hrd
  have hu := hr.units
  refine min_list_data (I.ok.hd hc) pl.isList (by simpa using hrd) hal (by omega) fun i v h' tk bs hv hrv hk => ?_
  have I2 : Inv X pins σ H { s with heap := h', toks := tk } := I.kept hk
  have hv' : its[i]? = some v := by simpa using hv
  have hi : i < ps.length := by
    have h1 := (List.getElem?_eq_some_iff.mp hv').1
    have h2 := rv.length
    rw [List.length_map] at h2
    omega
  have hx : (ps.map (·.1))[i]? = some ps[i].1 := by
    rw [List.getElem?_map, List.getElem?_eq_getElem hi]
    rfl
  obtain ⟨u, hu', rp⟩ := rv.get hx
  rw [hv'] at hu'
  cases hu'
  have hm : ps[i] ∈ ps := List.getElem_mem hi
  obtain ⟨bs2, hr2⟩ := Dp.reads I2 _ _ _ (hd _ hm) rp
  have e := (reads_det (h := h') (h' := h') (fun _ _ z _ => z) hrv hr2).1
  exact ⟨ps[i].1, H, I2, rp, q _ hm e⟩
end L2
namespace L2
open PySem PySem.W PySem.Spec PyProof.Rows
/-! ### sorted(d), d a dict whose keys are pairs of ints -/
abbrev PairK := Addr × (Int × Int)
def encPair (b : PairK) : PyData := .tuple [.int b.2.1, .int b.2.2]
def pairLe (p q : PairK) : Bool := decide (p.2.1 < q.2.1 ∨ (p.2.1 = q.2.1 ∧ p.2.2 ≤ q.2.2))
theorem encPair_le : dataLe false encPair = pairLe := dataLe_ii (fun b : PairK => b.2.1) (fun b : PairK => b.2.2)
def rSortedDT : List V → Hp → VK → Prop := fun vs H Q => ∃ (d : Addr) (kvs : List (List Key × V)) (ks : List (Int × Int)), vs = [.ref d] ∧ Rd H d (.dT kvs) ∧ kvs.map (·.1) = ks.map (fun k => [Sum.inl k.1, Sum.inl k.2]) ∧
  ∀ (bs : List PairK) (p : Addr), (bs.map (·.2)).Perm ks → bs.Pairwise (fun a b => pairLe a b = true) → (∀ b ∈ bs, H b.1 = some (.tup [.int b.2.1, .int b.2.2])) → H p = none → Q (.ref p) (upd H p (.lst (bs.map fun b => .ref b.1)))
theorem each_vals : ∀ {out : List Value} {bs : List PairK}, EachIs (fun v (b : PairK) => v = Value.ref b.1) out bs → Vals (bs.map fun b => V.ref b.1) out
  | _, _, .nil => .nil
  | _, _, .cons h t => by
    subst h
    exact .cons rfl (each_vals t)
theorem each_of_refs : ∀ (bs : List PairK), EachIs (fun v (b : PairK) => v = Value.ref b.1) (bs.map fun b => Value.ref b.1) bs
  | [] => .nil
  | b :: bs => .cons rfl (each_of_refs bs)
theorem each_conv {α β : Type} {R S : α → β → Prop} : ∀ {xs : List α} {ys : List β}, EachIs R xs ys → (∀ x y, y ∈ ys → R x y → S x y) → EachIs S xs ys
  | _, _, .nil, _ => .nil
  | _, _, .cons h t, f => .cons (f _ _ List.mem_cons_self h) (each_conv t fun x y hy r => f x y (List.mem_cons_of_mem _ hy) r)
theorem pairs_of_keys {P : Program} {w : World} {H : Hp} : ∀ {kvs : List (List Key × V)} {xs : List (List Key × Addr × Value)} {ks : List (Int × Int)}, KT H kvs xs → kvs.map (·.1) = ks.map (fun k => [Sum.inl k.1, Sum.inl k.2]) →
    ∃ bs : List PairK, bs.map (·.2) = ks ∧ xs.map (fun x => x.2.1) = bs.map (·.1) ∧ ∀ b ∈ bs, H b.1 = some (.tup [.int b.2.1, .int b.2.2])
  | _, _, [], r, e => by
    cases r with
    | nil => exact ⟨[], rfl, rfl, fun b h => nomatch h⟩
    | cons _ _ => simp at e
  | _, _, k :: ks, r, e => by
    cases r with
    | nil => simp at e
    | cons h t =>
      rw [List.map_cons, List.map_cons] at e
      injection e with e1 e2
      obtain ⟨bs, h1, h2, h3⟩ := pairs_of_keys (P := P) (w := w) t e2
      refine ⟨(_, k) :: bs, by rw [List.map_cons, h1], by rw [List.map_cons, List.map_cons, h2], fun b hb => ?_⟩
      rcases List.mem_cons.mp hb with rfl | hb
      · have q := h.2.1
        rw [e1] at q
        exact q
      · exact h3 b hb
theorem cr_sortedDT {X : Cx} {k : Nat} (hc : X.calm = true) (hr : Room k X.A) : CallR X (.builtin "sorted") rSortedDT := by
  intro pins s σ H vs us Q I r h
  obtain ⟨d, kvs, ks, rfl, hd, hks, q⟩ := h
  obtain rfl := Vals.ref1 r
  obtain ⟨z, hs, xs, pr, o, es, ep, ho, hx, hdt, he, hn⟩ := (show ObjOk X.prog X.w H s.heap d (.dT kvs) from hd.ok I.hok)
  have l1 : es.size = xs.length := size_of_entries he
  have l2 : kvs.length = xs.length := Paired.length pr
  obtain ⟨bs, b1, b2, b3⟩ := pairs_of_keys (P := X.prog) (w := X.w) pr hks
  have l3 : bs.length = xs.length := by
    have e := congrArg List.length b2
    rw [List.length_map, List.length_map] at e
    exact e.symm
  have hu := hr.units
  refine Calls.call_function_entry PyProof.Rows.kind_sorted PyProof.Rows.plain_sorted PyProof.Rows.entry_sorted (PyProof.Rows.args_sorted1 _) ?_
  unfold Builtin.«sorted»
  refine wpAny_bind (m := checkCount "sorted" 1 1 _) (wpAny_pure ?_)
  refine wpAny_bind (PySem.W.kdu_collect (A := X.A.in1) (kdl_raw hs hx hdt) (I.ok.hd hc) ho (by omega) fun h' tk acc hk it => ?_)
  have ea : acc.toList = bs.map fun b => Value.ref b.1 := by
    have hl : acc.toList.length = xs.length := by rw [Array.length_toList, it.1]; exact l1
    have e0 : (bs.map fun b => Value.ref b.1) = xs.map fun x => Value.ref x.2.1 := by
      have e := congrArg (List.map Value.ref) b2
      rw [List.map_map, List.map_map] at e
      exact e.symm
    rw [e0]
    apply List.ext_getElem?
    intro j
    rw [List.getElem?_map]
    cases hj : acc.toList[j]? with
    | none =>
      have h1 := List.getElem?_eq_none_iff.mp hj
      rw [List.getElem?_eq_none (by omega)]
      all_goals rfl
    | some v =>
      obtain ⟨en, hen, hv⟩ := it.2 j v (by rw [← Array.getElem?_toList]; exact hj)
      have qe := entry_at he j
      rw [hen] at qe
      cases hb : xs[j]? with
      | none =>
        rw [hb] at qe
        exact nomatch (show some en = none from qe)
      | some b =>
        rw [hb] at qe
        have e2 : en = entryOfKey (tupleKind (mixKind X.prog X.w)) b := Option.some.inj qe
        rw [hv, e2]
        all_goals rfl
  have I1 : Inv X pins σ H { s with heap := h', toks := tk } := I.kept hk
  have hL : (bs.map fun b => Value.ref b.1).length ≤ sizeLine := by rw [List.length_map]; omega
  refine wpAny_bind (wpAny_newList ?_ (by rw [ea]; exact hL))
  rw [ea]
  have hoL : (h'.push (seqObj "list" (bs.map fun b => Value.ref b.1).toArray 0)).get? h'.objs.size = some (seqObj "list" (bs.map fun b => Value.ref b.1).toArray 0) := Heap.get?_push_size _ rfl
  show wpAny _ _ _ _ _ { s with heap := h'.push (seqObj "list" (bs.map fun b => Value.ref b.1).toArray 0), toks := tk }
  have hrd : EachIs (fun v b => ∃ as, Reads h' v (encPair b) as) (bs.map fun b => Value.ref b.1) bs := each_conv (each_of_refs bs) fun v b hb e => by
    subst e
    exact Dp.reads I1 (encPair b) (.ref b.1) _ (.tup (SqT.of (b3 b hb)) (.cons (.int _) (.cons (.int _) .nil))) rfl
  have hal : AllAlike (bs.map encPair) := AllAlike.of fun b b' => by simp [encPair, alike, alikeAll]
  refine wpAny_bind (wpAny_holding (PySem.W.list_sort_data (R := fun v (b : PairK) => v = Value.ref b.1) (enc := encPair) (s := { s with heap := h'.push (seqObj "list" (bs.map fun b => Value.ref b.1).toArray 0), toks := tk }) hoL (each_of_refs bs)
    ?er hal (Sortable.tuples fun b => ⟨_, _, rfl⟩) (by rw [List.length_map] at hL; exact hL) (fun b _ => ?hu) fun out ho' eo => ?_))
  case er =>
    refine each_conv hrd fun v b hb ⟨as, r⟩ => ⟨as, PyProof.Rows.Reads.keeps (fun _ _ e => Heap.get?_push_of_some _ e) r, ?_⟩
    have e0 : as = [] := by
      unfold encPair at r
      cases r with
      | @tuple _ _ avs _ _ _ _ _ _ ra =>
        generalize avs.toList = al at ra
        cases ra with
        | cons r1 r2 =>
          cases r1
          cases r2 with
          | cons r3 r4 =>
            cases r3
            cases r4
            rfl
    rw [e0]
    simp
  case hu =>
    show X.A.in1.units + 1 + (encPair b).depth < cLine
    have e : (encPair b).depth ≤ 2 := by simp [encPair, PyData.depth, PyData.depthAll]
    have e2 : X.A.in1.units ≤ X.A.units + 1 := by first | exact Nat.le_refl _ | simp [Around.in1]
    omega
  refine wpAny_pure ?_
  rw [encPair_le] at eo
  obtain ⟨c, hcl⟩ := PyProof.Rows.sortedHeap_at (vs := (bs.map fun b => Value.ref b.1)) (out := out.toArray) hoL
  have hp : (bs.mergeSort pairLe).Perm bs := List.mergeSort_perm _ _
  have hlen : ((bs.mergeSort pairLe).map fun b => V.ref b.1).length ≤ sizeLine := by
    rw [List.length_map, hp.length_eq]
    rw [List.length_map] at hL
    exact hL
  refine ⟨_, rfl, .ref h'.objs.size, upd H h'.objs.size (.lst ((bs.mergeSort pairLe).map fun b => V.ref b.1)), I1.laid (t' := tk) (fun b u e => ?_) (Nat.le_refl _) (show ObjOk X.prog X.w _ _ _ (.lst _) from ⟨hlen, out, c, each_vals eo, hcl⟩), rfl,
    q _ _ ?_ ?_ (fun b hb => b3 b (hp.mem_iff.mp hb)) (I1.hok.fresh (Nat.le_refl _))⟩
  · have hb : b < h'.objs.size := Heap.lt_size e
    rw [PyProof.Rows.sortedHeap_old (Nat.ne_of_lt hb) (by rw [size_push']; exact Nat.lt_succ_of_lt hb)]
    exact Heap.get?_push_of_some _ e
  · rw [← b1]
    exact hp.map _
  · refine List.pairwise_mergeSort (fun a b c h1 h2 => ?_) (fun a b => ?_) bs
    · unfold pairLe at *
      have h1 := of_decide_eq_true h1
      have h2 := of_decide_eq_true h2
      exact decide_eq_true (by omega)
    · unfold pairLe
      simp only [Bool.or_eq_true, decide_eq_true_eq]
      omega
end L2
namespace L2
open PySem PySem.W PySem.Spec PyProof.Rows
/-! ### set(xs), xs a list of ints (set_update_ints fills it; here its making, and what the layer says of it) -/
/-- the empty set, as it is made -/
abbrev blankSet (w : World) : Obj := { cls := .type "set", dict := none, data := .set #[] 0 (.fresh 0 0 (!w.params.followText "set-order")) }
/-- a filled set at the end of the heap of s -/
def SetMade (w : World) (ns : List Int) (s s' : Shared) : Prop :=
  ∃ g tk m, s' = { s with heap := g, toks := tk } ∧ SetR w g s.heap.objs.size (fun j => decide (j ∈ ns)) m ∧ m ≤ ns.length ∧ ∀ b u, s.heap.get? b = some u → g.get? b = some u
section
variable {P : Program} {w : World} {A : Around} {E : Value → Shared → Prop} {s : Shared}
theorem int_items {ns : List Int} {items : Array Value} (hit : IntsAre items.toList ns) : items.size = ns.length ∧ ∀ (i : Nat) (v : Value), items[i]? = some v → ∃ k t, ns[i]? = some k ∧ v = .int k t := by
  have hsz : items.size = ns.length := by
    have q := IntsAre.length hit
    rwa [Array.length_toList] at q
  refine ⟨hsz, fun i v hv => ?_⟩
  have hi : i < ns.length := hsz ▸ (Array.getElem?_eq_some_iff.mp hv).1
  obtain ⟨t, e⟩ := PyProof.Rows.IntsAre.int_at hit i v (by rwa [Array.getElem?_toList])
  exact ⟨ns[i], t, List.getElem?_eq_getElem hi, by rw [e, List.getD_eq_getElem?_getD, List.getElem?_eq_getElem hi]; rfl⟩
set_option maxHeartbeats 8000000 in
theorem call_set_intsL {l : Addr} {items : Array Value} (ns : List Int) {Q : Value → Shared → Prop} (hh : A.handled = none) (hl : s.heap.IsList l items) (hit : IntsAre items.toList ns) (hb : ns.length + 1 < scanBound)
    (fin : ∀ s', SetMade w ns s s' → Q (.ref s.heap.objs.size) s') : wpAny (model P w) A (call (.type "set") [.ref l]) Q E s := by
  obtain ⟨hsz, hval⟩ := int_items hit
  obtain ⟨cc, mro, hmro⟩ := F.called_set.mro
  have hm1 := F.called_set.made
  have hm2 := F.called_set.sub
  have hm3 := F.called_set.notType
  have hm4 := F.called_set.canCreate
  have hm5 := F.typeCall_set_1 (.ref l)
  refine wpAny_call (codeAny_of_tree ?_)
  show wpAny _ _ (callAny (.type "set") _) _ _ _
  refine wpAny_pure ⟨Code.quiet_builtin _ (by decide +kernel), codeAny_builtin F.entry_type_call ?_⟩
  rw [Around.under_plain (weight_type_call_type "set" [.ref l] []) rfl]
  repeat (any_goals (first | assumption | wp_step))
  refine codeAny_mono (code_set_led1 (.ref l) (E := E) (Q₁ := fun x t => x = .ref s.heap.objs.size ∧ t = { s with heap := s.heap.push (blankSet w) }) ⟨rfl, rfl⟩) fun r t hr => ?_
  match r, hr with
  | .error e, hr => exact hr
  | .ok .next, hr => exact hr.elim
  | .ok .brk, hr => exact hr.elim
  | .ok .cont, hr => exact hr.elim
  | .ok (.ret x), hr =>
    obtain ⟨rfl, rfl⟩ := hr
    have at0 : (s.heap.push (blankSet w)).get? s.heap.objs.size = some (blankSet w) := Heap.get?_push_size _ rfl
    have ty0 : Shared.TypeIs { s with heap := s.heap.push (blankSet w) } (.ref s.heap.objs.size) "set" := ⟨_, at0, rfl⟩
    have hi1 := F.called_set.init.lookup
    have hi2 := F.called_set.init.bind (.ref s.heap.objs.size)
    repeat (any_goals (first | assumption | wp_step))
    refine codeAny_mono (codeAny_call_builtin (R := wants (fun r t => r = .none ∧ SetMade w ns s t) E) F.called_set.init.plain F.entry_set_init (check_set_init_1 ty0 ?fill)) fun r2 t2 hr2 => ?_
    case fill =>
      obtain ⟨⟨lc, ld, lx, ls⟩, hol, hcl, nl, hdl⟩ := hl
      dsimp only at hcl hdl
      subst hcl hdl
      have at1 : (s.heap.push (blankSet w)).get? l = some { cls := .type "list", dict := ld, data := .seq items nl, slots := ls } := Heap.get?_push_of_some _ hol
      have is1 : (s.heap.push (blankSet w)).IsList l items := ⟨_, at1, rfl, nl, rfl⟩
      have f1 := F.sub_list_set
      have f2 := F.sub_list_frozenset
      have f3 : (Value.type "list" == Value.type "dict") = false := by decide
      unfold Builtin.«set.__init__» noKeywords Builtin.Frozenset.updateFrom
      generalize hPI : pyIter = PI
      wp_walk
      subst hPI
      refine wpAny_pyIter_list is1 ?_
      refine wpAny_bind (wpAny_runValue ?_)
      have lt1 : l < s.heap.objs.size := Heap.lt_size hol
      have sz1 : (s.heap.push (blankSet w)).objs.size = s.heap.objs.size + 1 := Heap.size_push ..
      have ne1 : l ≠ (s.heap.push (blankSet w)).objs.size := by
        rw [sz1]
        exact Nat.ne_of_lt (Nat.lt_succ_of_lt lt1)
      have out1 : s.heap.objs.size ∉ [(s.heap.push (blankSet w)).objs.size, l] := by
        rw [sz1]
        simp only [List.mem_cons, List.not_mem_nil, or_false, not_or]
        exact ⟨Nat.ne_of_lt (Nat.lt_succ_self _), Nat.ne_of_gt lt1⟩
      have hh3 : A.in1.in1.in1.handled = none := by simp [hh]
      refine set_update_ints ((Walks.list hh3 _ l ne1 items).toS) s.heap.objs.size out1 ns hsz hb hval (items.size - 0) 0 _ (by omega) (Nat.zero_le _) ⟨⟨_, Heap.get?_push_size _ rfl, rfl, rfl⟩, is1.push _⟩ ?begin ?finish
      case begin => exact ⟨0, Nat.le_refl 0, setR_new_at (Heap.get?_push_of_some _ at0)⟩
      case finish =>
        rintro ⟨g, gg, dd, tk, oo⟩ m mv hm hS
        have q1 : gg = s.gens := mv.gens
        have q2 : dd = s.drawn := mv.drawn
        have q3 : oo = s.os := mv.os
        subst q1 q2 q3
        refine wpAny_pure ?_
        show wpAny _ _ (ret Value.none) _ _ _
        refine wpAny_pure ⟨rfl, g, tk, m, rfl, hS, by omega, fun b u e => ?_⟩
        have lt2 : b < s.heap.objs.size := Heap.lt_size e
        refine mv.heap b u ?_ (Heap.get?_push_of_some _ (Heap.get?_push_of_some _ e))
        rw [sz1]
        simp only [List.mem_cons, List.not_mem_nil, or_false, not_or]
        exact ⟨Nat.ne_of_lt lt2, Nat.ne_of_lt (Nat.lt_succ_of_lt lt2)⟩
    match r2, hr2 with
    | .error e, hr2 => exact hr2
    | .ok .next, hr2 => exact hr2.elim
    | .ok .brk, hr2 => exact hr2.elim
    | .ok .cont, hr2 => exact hr2.elim
    | .ok (.ret x2), hr2 =>
      obtain ⟨rfl, hmade⟩ := hr2
      repeat (any_goals (first | assumption | wp_step))
      exact fin _ hmade
end
def rSetInts (K : PySem.W.Frag) (w : World) : List V → Hp → VK → Prop := fun vs H Q => ∃ (a : Addr) (ns : List Int), vs = [.ref a] ∧ SqL K H a (ns.map V.int) ∧ ns.length ≤ 1000 ∧ ∀ p m, m ≤ ns.length → H p = none → Q (.ref p) (upd H p (SetO w p (fun j => decide (j ∈ ns)) m))
theorem cr_setInts {X : Cx} (hc : X.calm = true) : CallR X (.type "set") (rSetInts X.K X.w) := by
  intro pins s σ H vs us Q I r h
  obtain ⟨a, ns, rfl, hq, hn, q⟩ := h
  obtain rfl := Vals.ref1 r
  obtain ⟨its, rv, pl, hz⟩ := I.list hq
  have hb : ns.length + 1 < scanBound := Nat.lt_of_le_of_lt (Nat.succ_le_succ hn) (by decide)
  refine call_set_intsL ns (I.ok.hd hc) pl.isList (by simpa using rv.ints) hb fun s' hs => ?_
  obtain ⟨g, tk, m, rfl, hS, hm, hk⟩ := hs
  exact ⟨.ref s.heap.objs.size, _, I.laid (t' := tk) hk (Nat.le_refl _) (setO_new hS), rfl, q _ m hm (I.hok.fresh (Nat.le_refl _))⟩
end L2
namespace L2
open PySem PySem.W PySem.Spec PyProof.Rows
/-! ### a < b < c < d -/
def tChain3 (r1 r2 r3 : R2) (ta tb tc td : TE) : TE := fun σ H Q => ta σ H fun x H1 => tb σ H1 fun y H2 => r1 x y H2 fun z H3 => ∃ k, z = .bl k ∧
  (if k = true then tc σ H3 fun y' H4 => r2 y y' H4 fun z' H5 => ∃ k', z' = .bl k' ∧ (if k' = true then td σ H5 fun w' H6 => r3 y' w' H6 Q else Q (.bl false) H5) else Q (.bl false) H3)
theorem pe_chain3 {X : Cx} {o1 o2 o3 : CmpOp} {r1 r2 r3 : R2} {a b c d : Expr} {ta tb tc td : TE} {pos : Pos} (h1 : OpR X (compareOp o1) r1) (h2 : OpR X (compareOp o2) r2) (h3 : OpR X (compareOp o3) r3) (ha : PE X a ta) (hb : PE X b tb) (hc : PE X c tc) (hd : PE X d td)
    (hm : lastMarks [o1, o2, o3] [b, c, d] = false := by with_unfolding_all rfl) : PE X (.Compare a [o1, o2, o3] [b, c, d] pos) (tChain3 r1 r2 r3 ta tb tc td) := by
  refine ⟨fun pins s σ H Q I h => Compare_chain (thn (ha.run pins s σ H _ I h) fun v t1 ⟨x, H1, I1, e1, q1⟩ => chain_link (thn (hb.run pins t1 σ H1 _ I1 q1) fun u t2 ⟨y, H2, I2, e2, q2⟩ => thn (h1 pins t2 σ H2 x y v u _ I2 e1 e2 q2) fun m t3 ⟨z, H3, I3, e3, k, ez, q3⟩ => ?_)) hm⟩
  subst ez
  cases e3
  refine wpAny_truthy_bool ?_
  cases k with
  | false => exact ite_ff ⟨.bl false, H3, I3, rfl, q3⟩
  | true =>
    refine ite_tt (chain_link (thn (hc.run pins t3 σ H3 _ I3 q3) fun u' t4 ⟨y', H4, I4, e4, q4⟩ => thn (h2 pins t4 σ H4 y y' u u' _ I4 e2 e4 q4) fun m' t5 ⟨z', H5, I5, e5, k', ez', q5⟩ => ?_))
    subst ez'
    cases e5
    refine wpAny_truthy_bool ?_
    cases k' with
    | false => exact ite_ff ⟨.bl false, H5, I5, rfl, q5⟩
    | true => exact ite_tt (chain_last (thn (hd.run pins t5 σ H5 _ I5 q5) fun w' t6 ⟨w6, H6, I6, e6, q6⟩ => h3 pins t6 σ H6 y' w6 u' w' Q I6 e4 e6 q6))
/-! ### enumerate(t), t a tuple -/
/-- what enumerate(v) lays: v's iterator o, and itself -/
abbrev enumOb (it : Addr) : Obj := { cls := .type "enumerate", data := .fields #[.none, .bool false, .ref it, rawInt 0, .none, .none] }
set_option maxHeartbeats 8000000 in
theorem meets_enum_of {v : Value} {o : Obj} {G : Heap → Prop} (B : Begins v o G) :
    Meets (Builtin.«enumerate.__new__» ⟨[.type "enumerate", v], []⟩) (fun _ R s => G s.heap ∧ R (.ok (.ret (.ref (s.heap.push o).objs.size))) { s with heap := (s.heap.push o).push (enumOb s.heap.objs.size) }) :=
  .of_wp fun prog w A R s hs => by
    obtain ⟨hp, gg, dd, tk, oo⟩ := s
    obtain ⟨g0, fin⟩ := hs
    have hsub := sub_enumerate
    have go : ∀ {A' : Around} {E Q : Value → Shared → Prop}, Q (.ref hp.objs.size) ⟨hp.push o, gg, dd, tk, oo⟩ → wpAny (model prog w) A' (pyIter v) Q E ⟨hp, gg, dd, tk, oo⟩ := fun q => B.iter prog w _ _ ⟨hp, gg, dd, tk, oo⟩ _ g0 q
    wp_walk using go
    refine wpAny_stack_any fun st => wpAny_pure ?_
    split
    · rename_i c _ _ _ _ _
      cases (c == Value.type "enumerate") <;> (wp_walk using go; exact ⟨_, rfl, fin⟩)
    · wp_walk using go
      exact ⟨_, rfl, fin⟩
theorem call_enum_of {prog : Program} {w : World} {A : Around} {E : Value → Shared → Prop} {s : Shared} {v : Value} {o : Obj} {G : Heap → Prop} {Q : Value → Shared → Prop} (B : Begins v o G) (g0 : G s.heap)
    (fin : ∀ g, IsEnum g (s.heap.objs.size + 1) s.heap.objs.size 0 .none → g.get? s.heap.objs.size = some o → (∀ b u, s.heap.get? b = some u → g.get? b = some u) → Q (.ref (s.heap.objs.size + 1)) { s with heap := g }) :
    wpAny (model prog w) A (call (.type "enumerate") [v]) Q E s := by
  refine callType_new F.called_enumerate (by decide) (F.typeCall_enumerate_1 _) (F.newCall_enumerate_1 _) (fun obj => F.args_object_init_2 obj _) F.entry_enumerate_new (meets_enum_of B) ⟨g0, ?_⟩
  have e1 : (s.heap.push o).objs.size = s.heap.objs.size + 1 := Heap.size_push ..
  have e2 : ((s.heap.push o).push (enumOb s.heap.objs.size)).get? (s.heap.objs.size + 1) = some (enumOb s.heap.objs.size) := e1 ▸ Heap.get?_push_size (s.heap.push o) rfl
  have e3 : ((s.heap.push o).push (enumOb s.heap.objs.size)).get? s.heap.objs.size = some o := Heap.get?_push_of_some _ (Heap.get?_push_size _ B.free)
  show _ ∧ _
  rw [e1]
  exact ⟨⟨_, e2, rfl⟩, fin _ e2 e3 fun b u e => Heap.get?_push_of_some _ (Heap.get?_push_of_some _ e)⟩
/-- the tuple at a, each item in a new pair with its number -/
def Itet (K : PySem.W.Frag) (a : Addr) : It :=
  ⟨fun i H => ∃ (xs : List V) (x : V), SqT K H a xs ∧ xs[i]? = some x, fun i H v H' => ∃ p x, v = .ref p ∧ H p = none ∧ H' = upd H p (.tup [.int (i : Nat), x]) ∧ ∀ xs, SqT K H a xs → xs[i]? = some x, fun i H => ∃ xs : List V, SqT K H a xs ∧ xs.length = i⟩
theorem Inv.tup_inj {X : Cx} {pins : List (Addr × Obj)} {σ : St} {H : Hp} {s : Shared} (I : Inv X pins σ H s) {a : Addr} {xs ys : List V} (h1 : SqT X.K H a xs) (h2 : SqT X.K H a ys) : xs = ys := by
  obtain ⟨us, r1, ⟨o, ho, hc, n, hd⟩, _⟩ := I.tuple h1
  obtain ⟨us2, r2, ⟨o2, ho2, hc2, n2, hd2⟩, _⟩ := I.tuple h2
  rw [ho] at ho2
  cases ho2
  rw [hd] at hd2
  injection hd2 with e1 e2
  have e3 : us = us2 := by simpa using congrArg Array.toList e1
  subst e3
  exact Vals.inj r1 r2
theorem turn_enumT {P : Program} {w : World} {K : PySem.W.Frag} {elts : List Expr} {kk : Nat} {tpos : Pos} (a en it : Addr) :
    Turn P w K (.Tuple elts kk tpos) (Itet K a) [en, it] en (fun i h => (∃ old, IsEnum h en it ((i : Nat) : Int) old) ∧ h.IsTupleIter it a i ∧ en ≠ it) where
  mem := List.mem_cons_self
  obj := fun i h st b hb => by
    obtain ⟨⟨old, he⟩, ⟨o, ho, _, hd⟩, _⟩ := st
    rcases List.mem_cons.mp hb with rfl | hb
    · exact ⟨_, he, fun v z => nomatch z⟩
    · rw [List.mem_singleton.mp hb]
      exact ⟨o, ho, fun v z => by rw [hd] at z; cases z⟩
  keep := fun i h h' st k => by
    obtain ⟨⟨old, he⟩, hi, ne⟩ := st
    exact ⟨⟨old, k en List.mem_cons_self _ he⟩, hi.at fun o q => k it (by simp) o q, ne⟩
  item := by
    intro X hP hw hK hc i pins s σ H E I hf st hg
    subst hP hw hK
    obtain ⟨⟨old, he⟩, hit, ne⟩ := st
    obtain ⟨xs, x, hq, hx⟩ := hg
    obtain ⟨us, rv, pl, _⟩ := I.tuple hq
    obtain ⟨u, hu, ru⟩ := rv.get hx
    have n1 : a ≠ it := by
      obtain ⟨o1, q1, q2, _⟩ := hit
      obtain ⟨o2, q3, q4, _⟩ := pl
      rintro rfl
      rw [q1] at q3
      cases q3
      rw [q2] at q4
      exact absurd q4 (by decide)
    have n2 : en ∉ [it, a] := by
      simp only [List.mem_cons, List.not_mem_nil, or_false, not_or]
      refine ⟨ne, ?_⟩
      obtain ⟨o2, q3, q4, _⟩ := pl
      rintro rfl
      have q1 : s.heap.get? en = some _ := he
      rw [q1] at q3
      cases q3
      exact absurd (show Value.type "enumerate" = Value.type "tuple" from q4) (by decide)
    have lt1 : en < s.heap.objs.size := Heap.lt_size he
    have lt2 : it < s.heap.objs.size := by obtain ⟨_, q, _⟩ := hit; exact Heap.lt_size q
    have hi : i < us.toArray.size := by
      have := (List.getElem?_eq_some_iff.mp hu).1
      simpa using this
    refine wpAny_pyNext_enum_itemD (Draws.tuple (prog := X.prog) (w := X.w) (A := X.A.in1) (by simpa using I.ok.hd hc) it a n1 us.toArray) he ⟨hit, pl⟩ hi ne n2 fun y g tk hy ho st2 hT _ kp => ?_
    have ey : y = u := by
      have hy' : us[i]? = some y := by simpa using hy
      rw [hu] at hy'
      exact (Option.some.inj hy').symm
    subst ey
    refine ⟨_, rfl, wpAny_letOwnedTupleGo_enum (s := { s with heap := g, toks := tk + 1 }) ho fun g2 he2 sb => ?_⟩
    have hT2 : g2.get? s.heap.objs.size = some { cls := .type "tuple", data := .seq #[.int i tk, y] } := (sb.2 _ (Nat.ne_of_gt lt1)).trans hT
    have new : ObjOk X.prog X.w (upd H s.heap.objs.size (.tup [.int (i : Nat), x])) g2 s.heap.objs.size (.tup [.int (i : Nat), x]) :=
      ⟨by show 2 ≤ sizeLine; decide, [.int i tk, y], .cons ⟨_, rfl⟩ (.cons ru .nil), ⟨_, hT2, rfl, _, rfl⟩⟩
    have J : Inv X pins σ (upd H s.heap.objs.size (.tup [.int (i : Nat), x])) { s with heap := g2, toks := tk + 1 } := by
      refine I.turnedNew (ch := [en, it]) (fun b o hb q => ?_) hf (Nat.le_refl _) new
      have hb : b ≠ en ∧ b ≠ it := by simpa using hb
      exact (sb.2 b hb.1).trans (kp b o hb.1 hb.2 q)
    refine ⟨.ref s.heap.objs.size, _, J, rfl, ⟨_, x, rfl, I.hok.fresh (Nat.le_refl _), rfl, fun ys hy2 => by rw [I.tup_inj hy2 hq]; exact hx⟩, ⟨⟨y, ?_⟩, st2.1.at fun o q => (sb.2 it ne.symm).trans q, ne⟩, fun b hb => ?_⟩
    · rw [show ((i + 1 : Nat) : Int) = (i : Int) + 1 by omega]
      exact he2
    · have lt3 : b < s.heap.objs.size := by
        rcases List.mem_cons.mp hb with rfl | hb
        · exact lt1
        · rw [List.mem_singleton.mp hb]
          exact lt2
      rw [upd_ne (Nat.ne_of_lt lt3)]
      exact (hf b hb).1
  done := by
    intro X hP hw hK hc i pins s σ H E I hf st hg
    subst hP hw hK
    obtain ⟨⟨old, he⟩, hit, ne⟩ := st
    obtain ⟨xs, hq, hx⟩ := hg
    obtain ⟨us, rv, pl, _⟩ := I.tuple hq
    have n1 : a ≠ it := by
      obtain ⟨o1, q1, q2, _⟩ := hit
      obtain ⟨o2, q3, q4, _⟩ := pl
      rintro rfl
      rw [q1] at q3
      cases q3
      rw [q2] at q4
      exact absurd q4 (by decide)
    have hn : us.toArray.size = i := by
      have := rv.length
      simp only [List.size_toArray]
      omega
    obtain ⟨f0, f1, f2, f3, f4, f5⟩ := hf it (by simp)
    refine wpAny_pyNext_enum_endD (Draws.tuple (prog := X.prog) (w := X.w) (A := X.A.in1) (by simpa using I.ok.hd hc) it a n1 us.toArray) he ⟨by rw [hn]; exact hit, pl⟩ fun g eb => ⟨rfl, ?_⟩
    exact I.turned (t' := s.toks) (fun b o hb q => eb b o hb q) f0 f1 f3 f4 f5
  self := fun A i s Q E st h => let ⟨⟨_, he⟩, _⟩ := st; wpAny_pyIter_enum he h
def iEnumT (K : PySem.W.Frag) (ta : TA) : TI := fun σ H R => ta σ H fun vs H1 => ∃ a xs, vs = [.ref a] ∧ SqT K H1 a xs ∧ R (Itet K a) H1
theorem pi_enumT {X : Cx} {e : Expr} {ta : TA} {p pos tpos : Pos} {elts : List Expr} {kk : Nat} (hg : Gl X "enumerate") (hm : X.mg "enumerate" = none) (ha : PA X [e] ta) (hs : starEach [e] X.env = [(false, eval e X.env)] := by rfl) :
    PI X (.Tuple elts kk tpos) (.Call (.Name "enumerate" p) [e] [] pos) (iEnumT X.K ta) := by
  refine ⟨fun pins s σ H R I h => Call_ (ld_blt I hg hm boot_enumerate (PyProof.Rows.callWith_type1 (thn (ha.run pos pins s σ H _ I h) fun us t ⟨vs, H1, J, r1, a, xs, ev, hq, q⟩ => ?_) hs rfl))⟩
  subst ev
  obtain rfl := Vals.ref1 r1
  obtain ⟨us, rv, pl, _⟩ := J.tuple hq
  refine call_enum_of (begins_tuple a us.toArray) pl fun g he hit hk => wpAny_pyIter_enum he ?_
  have J2 : Inv X pins σ H1 { t with heap := g } := J.kept (t' := t.toks) hk
  refine ⟨t.heap.objs.size + 1, [t.heap.objs.size + 1, t.heap.objs.size], _, _, H1, rfl, J2, turn_enumT a (t.heap.objs.size + 1) t.heap.objs.size, ⟨⟨.none, he⟩, ⟨_, hit, rfl, rfl⟩, Nat.succ_ne_self _⟩, fun b hb => ?_, q⟩
  have le : t.heap.objs.size ≤ b := by
    rcases List.mem_cons.mp hb with rfl | hb
    · exact Nat.le_succ _
    · rw [List.mem_singleton.mp hb]
      exact Nat.le_refl _
  exact J.fpOk le (J.hok.fresh le)
/-- the loop over it -/
theorem for_enumT {K : PySem.W.Frag} {a : Addr} {xs : List V} {g : TG} {tb : TS} {D : Ends} {σ : St} {H : Hp} (Pv : Nat → St → Hp → Prop) (h0 : Pv 0 σ H) (ht : ∀ i σ H, Pv i σ H → SqT K H a xs)
    (hs : ∀ i x σ H p, xs[i]? = some x → Pv i σ H → H p = none → g (.ref p) σ (upd H p (.tup [.int (i : Nat), x])) fun σ2 H2 => tb { D with nx := Pv (i + 1), ct := Pv (i + 1), bk := D.nx } σ2 H2)
    (hd : ∀ σ H, Pv xs.length σ H → D.nx σ H) :
    ∃ W : Nat → Nat → St → Hp → Prop, (∃ m, W 0 m σ H) ∧ ∀ i m σ H, W i m σ H → ((Itet K a).stop i H ∧ D.nx σ H) ∨ ((Itet K a).go i H ∧ ∃ N : St → Hp → Prop, (∀ σ' H', N σ' H' → ∃ m', m' < m ∧ W (i + 1) m' σ' H') ∧
      ∀ x H', (Itet K a).yld i H x H' → g x σ H' fun σ2 H2 => tb { D with nx := N, ct := N, bk := D.nx } σ2 H2) := by
  refine ⟨fun i m σ H => m + i = xs.length ∧ Pv i σ H, ⟨xs.length, rfl, h0⟩, fun i m σ H ⟨em, p⟩ => ?_⟩
  by_cases hi : i < xs.length
  · refine .inr ⟨⟨xs, xs[i], ht _ _ _ p, List.getElem?_eq_getElem hi⟩, Pv (i + 1), fun σ' H' p' => ⟨m - 1, by omega, by omega, p'⟩, fun x H' hy => ?_⟩
    obtain ⟨q, y, rfl, nq, rfl, hy⟩ := hy
    exact hs i y σ H q (hy xs (ht _ _ _ p)) p nq
  · have e : i = xs.length := by omega
    subst e
    exact .inl ⟨⟨xs, ht _ _ _ p, rfl⟩, hd _ _ p⟩
end L2
namespace L2
open PySem PySem.W PySem.Spec PyProof.Rows
/-! ### sorted(range(..), key=lambda index: (web[1][index][2], index)) -/
/-- an expression that only reads: what it gives, from any state over the heap h -/
def Gv (M : Model) (A : Around) (env : Env) (h : Heap) (e : Expr) (P : Value → Prop) : Prop :=
  ∀ (g : Array GenState) (d : Drawn) (tk : Nat) (os : _) (Q : Value → Shared → Prop) (E : Value → Shared → Prop), (∀ u tk', P u → Q u ⟨h, g, d, tk', os⟩) → wpAny M A (eval e env) Q E ⟨h, g, d, tk, os⟩
section
variable {prog : Program} {w : World} {A : Around} {env : Env} {h : Heap}
theorem Gv.const {i : Int} {j : Nat} {p : Pos} : Gv (model prog w) A env h (.Constant (.int i) j p) (fun u => ∃ t, u = .int i t) := fun g d tk os Q E q => wpAny_Constant_int (q _ _ ⟨_, rfl⟩)
theorem Gv.sub {a b : Expr} {p : Pos} {t : Addr} {j : Nat} {items : Array Value} {x : Value} (ha : Gv (model prog w) A env h a (fun u => u = .ref t)) (hb : Gv (model prog w) A env h b (fun u => ∃ k, u = .int (j : Int) k)) (ht : IsTup h t items) (hx : items[j]? = some x)
    (hj : j < 2 ^ 62) (hs : PlainIx b) : Gv (model prog w) A env h (.Subscript a b p) (fun u => u = x) := by
  intro g d tk os Q E q
  refine Subscript_ (ha g d tk os _ E fun u t1 e1 => hb g d t1 os _ E fun u2 t2 e2 => ?_)
  subst e1
  obtain ⟨k, rfl⟩ := e2
  have hlt : j < items.size := (Array.getElem?_eq_some_iff.mp hx).1
  have hix : seqIndex? (j : Int) items.size = some j := by
    have e := seqIndex_of (k := (j : Int)) (n := items.size) (by omega) (by omega)
    simpa using e
  exact subscriptTail_builtinR (x := x) (s := ⟨h, g, d, t2, os⟩) ht.typeIs slot_tuple_getitem.lookup (getItem_tuple (s := ⟨h, g, d, t2, os⟩) ht (by omega) (by omega) hix hx ⟨rfl, q _ _ rfl⟩) (hs _ _)
theorem Gv.local {x : Str} {p : Pos} {m : Str → Option Value} {v : Value} (hk : env.scope.kind = .function) (hx : env.kindOf x = some .local) (hn : h.Ns env.locals m) (hm : m x = some v) (hd : (x == ("__debug__" : Str)) = false := by decide) :
    Gv (model prog w) A env h (.Name x p) (fun u => u = v) := fun g d tk os Q E q => wpAny_Name (wpAny_loadName_local hk hx hn hm (q _ _ rfl)) hd
theorem Gv.free {x : Str} {p : Pos} {c : Addr} {v : Value} (hk : env.scope.kind = .function) (hx : env.kindOf x = some .free) (hl : env.cells.lookup x = some c) (hc : h.IsCell c (some v)) (hd : (x == ("__debug__" : Str)) = false := by decide) (hd2 : (x == ("__classdict__" : Str)) = false := by decide) :
    Gv (model prog w) A env h (.Name x p) (fun u => u = v) := fun g d tk os Q E q => wpAny_Name (wpAny_loadName_free hk hx hl hc (q _ _ rfl) hd2) hd
theorem Gv.imp {e : Expr} {P R : Value → Prop} (x : Gv (model prog w) A env h e P) (f : ∀ u, P u → R u) : Gv (model prog w) A env h e R := fun g d tk os Q E q => x g d tk os Q E fun u t hu => q u t (f u hu)
end
/-- the key's body, with its places -/
abbrev keyBody (p1 p2 p3 p4 p5 p6 p7 p8 p9 : Pos) (j1 j2 k0 : Nat) : Expr :=
  .Tuple [.Subscript (.Subscript (.Subscript (.Name "web" p1) (.Constant (.int 1) j1 p2) p3) (.Name "index" p4) p5) (.Constant (.int 2) j2 p6) p7, .Name "index" p8] k0 p9
/-- what the key's call needs of the heap -/
structure KeyHeap (h : Heap) (f cf cw : Addr) (q : Str) (params : Arguments) (body : Expr) (scope : Scope) (cl : List (Str × Addr)) (pm ctv : Value) (wv tv : Addr) (vw vt : Array Value) : Prop where
  fn : h.get? f = some (kla_obj "<lambda>" q params body scope cl pm cf ctv)
  code : h.CodeRec (.ref cf) q
  lk : cl.lookup ("web" : Str) = some cw
  cell : h.IsCell cw (some (.ref wv))
  web : IsTup h wv vw
  at1 : vw[1]? = some (.ref tv)
  ties : IsTup h tv vt
  lim : h.NoLimit
theorem KeyHeap.up {h h' : Heap} {f cf cw : Addr} {q : Str} {params : Arguments} {body : Expr} {scope : Scope} {cl : List (Str × Addr)} {pm ctv : Value} {wv tv : Addr} {vw vt : Array Value} (x : KeyHeap h f cf cw q params body scope cl pm ctv wv tv vw vt) (k : ∀ b o, h.get? b = some o → h'.get? b = some o) :
    KeyHeap h' f cf cw q params body scope cl pm ctv wv tv vw vt where
  fn := k _ _ x.fn
  code := let ⟨c, o, vs, t, e1, e2, e3⟩ := x.code; ⟨c, o, vs, t, e1, k _ _ e2, e3⟩
  lk := x.lk
  cell := let ⟨o, e1, e2⟩ := x.cell; ⟨o, k _ _ e1, e2⟩
  web := let ⟨o, e1, e2⟩ := x.web; ⟨o, k _ _ e1, e2⟩
  at1 := x.at1
  ties := let ⟨o, e1, e2⟩ := x.ties; ⟨o, k _ _ e1, e2⟩
  lim := x.lim.keeps k
section
variable {prog : Program} {w : World} {A : Around} {E : Value → Shared → Prop}
theorem key_call {p1 p2 p3 p4 p5 p6 p7 p8 p9 : Pos} {j1 j2 k0 : Nat} {s : Shared} {f cf cw : Addr} {q : Str} {params : Arguments} {scope : Scope} {cl : List (Str × Addr)} {pm ctv : Value} {wv tv ti : Addr} {vw vt vi : Array Value} {i : Nat} {t1 t2 : Tok} {pr : Int}
    (K : KeyHeap s.heap f cf cw q params (keyBody p1 p2 p3 p4 p5 p6 p7 p8 p9 j1 j2 k0) scope cl pm ctv wv tv vw vt) (hi : i < 2 ^ 62) (hti : vt[i]? = some (.ref ti)) (htie : IsTup s.heap ti vi) (hpr : vi[2]? = some (.int pr t2))
    (hkind : scope.kind = .function) (hco : scope.isCoroutine = false) (hgen : scope.isGenerator = false) (hnames : scope.names = [(("index" : Str), .local), (("web" : Str), .free)])
    (hbind : ∀ (v cv : Value), bindArgs (kla_fn "<lambda>" q params (keyBody p1 p2 p3 p4 p5 p6 p7 p8 p9 j1 j2 k0) scope cl pm cv ctv) ⟨[v], []⟩ = pure [(("index" : Str), v)]) (hroom : A.depth < recursionLimit) :
    wpAny (model prog w) A (call (.ref f) [.int (i : Int) t1]) (KeyPure (.tuple [.int pr, .int (i : Int)]) s) E s := by
  obtain ⟨h, g, d, tk, os⟩ := s
  have hl1 : scope.names.lookup ("index" : Str) = some .local := by rw [hnames]; rfl
  have hl2 : scope.names.lookup ("web" : Str) = some .free := by rw [hnames]; decide +kernel
  refine wpAny_call (kla_callFunE hroom K.fn rfl hco hgen rfl K.code ?_)
  rw [hbind]
  refine wpAny_pure (wpAny_newFunctionEnv (fun y hy => ?_) (fun y hy => ?_) (fun h₁ hns hsb => ⟨K.lim.fresh _ hsb, ?_⟩) hkind)
  · have hy : y ∈ scope.names := hy
    rw [hnames] at hy
    rcases List.mem_cons.mp hy with rfl | hy
    · decide
    · rw [List.mem_singleton.mp hy]
      decide
  · rw [List.mem_singleton.mp hy]
    exact hl1
  · have kp : ∀ b o, h.get? b = some o → h₁.get? b = some o := fun b o e => hsb.extBut b o (Nat.ne_of_lt (Heap.lt_size e)) (Heap.get?_push_of_some _ e)
    have K2 := K.up kp
    have hti2 : IsTup h₁ ti vi := let ⟨o, e1, e2⟩ := htie; ⟨o, kp _ _ e1, e2⟩
    show codeAny _ _ (.expr (keyBody p1 p2 p3 p4 p5 p6 p7 p8 p9 j1 j2 k0) (envX q scope h.objs.size f (.ref cf) cl)) _ _
    refine kla_codeExpr ?_
    have gIx : ∀ p, Gv (model prog w) (A.deeper (envX q scope h.objs.size f (.ref cf) cl)) (envX q scope h.objs.size f (.ref cf) cl) h₁ (.Name "index" p) (fun u => u = .int (i : Int) t1) := fun p => Gv.local hkind hl1 hns (by rfl)
    have gW := Gv.free (prog := prog) (w := w) (A := A.deeper (envX q scope h.objs.size f (.ref cf) cl)) (env := envX q scope h.objs.size f (.ref cf) cl) (h := h₁) (x := "web") (p := p1) hkind hl2 K2.lk K2.cell
    have g1 := Gv.sub (p := p3) gW (Gv.const (i := ((1 : Nat) : Int)) (j := j1) (p := p2)) K2.web K2.at1 (by decide) (fun _ _ => rfl)
    have g2 := Gv.sub (p := p5) g1 ((gIx p4).imp fun u e => ⟨t1, e⟩) K2.ties hti hi (fun _ _ => rfl)
    have g3 := Gv.sub (p := p7) g2 (Gv.const (i := ((2 : Nat) : Int)) (j := j2) (p := p6)) hti2 hpr (by decide) (fun _ _ => rfl)
    refine wpAny_Tuple_spliced (Calls.spliced_cons (g3 _ _ _ _ _ _ fun u tk1 e1 => Calls.spliced_cons (gIx p8 _ _ _ _ _ _ fun u2 tk2 e2 => Calls.spliced_nil ⟨(by show 2 ≤ sizeLine; decide), ?_⟩)))
    subst e1 e2
    refine ⟨_, _, rfl, fun b o e => Heap.get?_push_of_some _ (kp b o e), ?_⟩
    exact Reads.tuple (n := 0) (Heap.get?_push_size _ rfl) rfl rfl (ReadsAll.cons (Reads.int _ _) (ReadsAll.cons (Reads.int _ _) ReadsAll.nil))
end
end L2
namespace L2
open PySem PySem.W PySem.Spec PyProof.Rows
open LamX (Tabs ExtN TabB CodeO)
theorem extN_seqT {K : PySem.W.Frag} {H H' : Hp} {a : Addr} {xs : List V} (e : ExtN H H') (h : SqT K H a xs) : SqT K H' a xs := by
  rcases h with (h | ⟨o, h⟩) | h
  · exact .inl (.inl (e _ _ h fun _ z => nomatch z))
  · exact .inl (.inr ⟨o, e _ _ h fun _ z => nomatch z⟩)
  · exact .inr h
/-- a tie in the heap: its place, its ends, its price -/
abbrev TieAt := Addr × V × V × Int
def tiePrice (ts : List TieAt) (i : Nat) : Int := (ts.map fun t => t.2.2.2).getD i 0
def keyOfTie (ts : List TieAt) (i : Nat) : PyData := .tuple [.int (tiePrice ts i), .int (i : Int)]
/-- range(n), kept -/
theorem cr_range1 {X : Cx} : CallR X (.type "range") (fun vs H Q => ∃ n, vs = [V.int n] ∧ ∀ p, H p = none → Q (.ref p) (upd H p (.rng 0 n))) := by
  intro pins s σ H vs us Q I r h
  obtain ⟨n, rfl, q⟩ := h
  obtain ⟨u, rfl, t, rfl⟩ := vals1 r
  refine call_range_1 ⟨.ref s.heap.objs.size, upd H s.heap.objs.size (.rng 0 n), I.laid (t' := _) (fun b o e => Heap.get?_push_of_some _ e) (Nat.le_refl _) ?_, rfl, q _ (I.hok.fresh (Nat.le_refl _))⟩
  exact ⟨_, _, _, Heap.get?_push_size _ rfl⟩
/-- what the sort asks and gives -/
def tSortWeb (K : PySem.W.Frag) (T : List (Addr × Str)) (i : Nat) (te : TE) : TE := fun σ H Q => te σ H fun x H1 => Tabs T H1 ∧ ∃ (r wv tv : Addr) (nv : V) (ts : List TieAt),
  x = .ref r ∧ H1 r = some (.rng 0 (ts.length : Int)) ∧ σ[i]? = some (some (.ref wv)) ∧ SqT K H1 wv [nv, .ref tv] ∧ SqT K H1 tv (ts.map fun t => .ref t.1) ∧ (∀ t ∈ ts, SqT K H1 t.1 [t.2.1, t.2.2.1, .int t.2.2.2]) ∧ ts.length ≤ 1000 ∧
  ∀ (H2 : Hp) (ord : List Nat) (p : Addr), ExtN H1 H2 → Tabs T H2 → ord.Perm (List.range ts.length) → ord.Pairwise (fun a b => tiePrice ts a < tiePrice ts b ∨ (tiePrice ts a = tiePrice ts b ∧ a < b)) → H2 p = none → Q (.ref p) (upd H2 p (.lst (ord.map fun k => .int ((k : Nat) : Int))))
theorem each_range {P : Nat → Value → Prop} : ∀ (n : Nat) (acc : List Value), acc.length = n → (∀ (i : Nat) (v : Value), acc[i]? = some v → P i v) → EachIs (fun v (i : Nat) => P i v) acc (List.range n) := by
  intro n
  induction n with
  | zero =>
    intro acc hl _
    rw [List.length_eq_zero_iff.mp hl]
    exact .nil
  | succ n ih =>
    intro acc hl h
    have hne : acc ≠ [] := fun z => by rw [z] at hl; cases hl
    rw [List.range_succ, ← List.dropLast_concat_getLast hne]
    have hd : acc.dropLast.length = n := by rw [List.length_dropLast, hl]; rfl
    refine each_snoc (R := fun v (i : Nat) => P i v) (h n _ ?_) (ih _ hd fun i v e => h i v ?_)
    · rw [List.getLast_eq_getElem, List.getElem?_eq_getElem (by omega)]
      congr 1
      congr 1
      omega
    · rw [List.getElem?_dropLast] at e
      split at e
      · exact e
      · cases e
theorem each_ints : ∀ {out : List Value} {xs : List Nat}, EachIs (fun v (i : Nat) => ∃ t, v = Value.int (i : Int) t) out xs → Vals (xs.map fun k => V.int ((k : Nat) : Int)) out
  | _, _, .nil => .nil
  | _, _, .cons h t => .cons h (each_ints t)
theorem cloFrom_web {cells : List (Str × Addr)} {names : List (Str × NameKind)} {c : Addr} (hn : names = [(("index" : Str), .local), (("web" : Str), .free)]) (hc : cells.lookup ("web" : Str) = some c) : (cloFrom cells names []).lookup ("web" : Str) = some c := by
  subst hn
  show List.lookup ("web" : Str) [(("web" : Str), (cells.lookup ("web" : Str)).getD 0)] = some c
  rw [hc]
  simp [List.lookup]
theorem pe_sortWeb {X : Cx} {T : List (Addr × Str)} {c P : Addr} {i k : Nat} {e : Expr} {te : TE} {params : Arguments} {scope : Scope} {p lpos kpos pos p1 p2 p3 p4 p5 p6 p7 p8 p9 : Pos} {j1 j2 k0 : Nat}
    (hc : X.calm = true) (hr : Room k X.A) (hg : Gl X "sorted") (hm : X.mg "sorted" = none) (he : PE X e te) (TB : TabB X.base X.mg c P) (hcode : X.env.code = .ref c) (hmT : (P, X.env.qual ++ "<lambda>") ∈ T) (hu : ∀ p ∈ T, p.1 = P → p.2 = X.env.qual ++ "<lambda>")
    (hdef : defaultsOf params X.env = ([], [])) (hN : X.N[i]? = some ("web" : Str)) (hw : X.env.scope.names.lookup ("web" : Str) = some .cell)
    (hkind : scope.kind = .function) (hco : scope.isCoroutine = false) (hgen : scope.isGenerator = false) (hnames : scope.names = [(("index" : Str), .local), (("web" : Str), .free)])
    (hbind : ∀ (q : Str) (cl : List (Str × Addr)) (pm v cv ctv : Value), bindArgs (kla_fn "<lambda>" q params (keyBody p1 p2 p3 p4 p5 p6 p7 p8 p9 j1 j2 k0) scope cl pm cv ctv) ⟨[v], []⟩ = pure [(("index" : Str), v)])
    (na : backTo pos (starEach [e] X.env) = (false, eval e X.env) :: backTo pos (starEach [] X.env) := by rfl) (ns : starEach [e] X.env = (false, eval e X.env) :: starEach [] X.env := by rfl) (npl : (backTo pos (starEach [e] X.env)).any (·.1) = false := by rfl) :
    PE X (.Call (.Name "sorted" p) [e] [⟨some "key", .Lambda params (keyBody p1 p2 p3 p4 p5 p6 p7 p8 p9 j1 j2 k0) scope lpos, kpos⟩] pos) (tSortWeb X.K T i te) := by
  refine ⟨fun pins s σ H Q I h => ?_⟩
  refine wpAny_Call_Name_kw (ld_blt I hg hm (u := .builtin "sorted") (by decide +kernel) ?_)
  refine PyProof.Rows.callWith_kw (args_cons (thn (he.run pins s σ H _ I h) fun x t ⟨xv, H1, J, rx, hT, r, wv, tv, nv, ts, ex, hR, hσ, hWv, hTv, hTs, hsmall, q⟩ => args_nil ?_) ns) na npl (by rfl) (by rfl)
  subst ex
  obtain rfl : x = .ref r := rx
  have hfree : ∀ y ∈ scope.names, y.2 = .free → ∃ c, X.env.cells.lookup y.1 = some c := fun y hy e => by
    rw [hnames] at hy
    rcases List.mem_cons.mp hy with rfl | hy
    · cases e
    · rw [List.mem_singleton.mp hy]
      exact J.ok.has _ (.inl hw)
  show wpAny _ _ (evalAll ((do let v ← eval (.Lambda params (keyBody p1 p2 p3 p4 p5 p6 p7 p8 p9 j1 j2 k0) scope lpos) X.env; standAt pos; pure v) :: [])) _ _ t
  refine wpAny_evalAll_cons (wpAny_bind (thn (LamX.lam_make2 (Q := fun v t2 => ∃ (f c' : Addr) (pm ctv : Value) (H2 : Hp), v = .ref f ∧ Inv X pins σ H2 t2 ∧ ExtN H1 H2 ∧ Tabs T H2 ∧
      t2.heap.get? f = some (kla_obj "<lambda>" (X.env.qual ++ "<lambda>") params (keyBody p1 p2 p3 p4 p5 p6 p7 p8 p9 j1 j2 k0) scope (cloFrom X.env.cells scope.names []) pm c' ctv) ∧ H2 c' = some (CodeO c' (X.env.qual ++ "<lambda>")))
      J TB hcode hmT hu hT hdef hfree fun f c' pm ctv H2 t2 J2 eN T2 hf _ _ hco' => ⟨f, c', pm, ctv, H2, rfl, J2, eN, T2, hf, hco'⟩) fun v t2 hv => wpAny_bind (wpAny_standAt (wpAny_pure ?_))))
  obtain ⟨f, c', pm, ctv, H2, rfl, J2, eN, T2, hf, hCo⟩ := hv
  refine wpAny_pure ?_
  show wpAny _ _ (call (.builtin "sorted") [.ref r] [(Str.ofString "key", .ref f)]) _ _ t2
  -- what the heap holds
  have hWv2 := extN_seqT eN hWv
  have hTv2 := extN_seqT eN hTv
  obtain ⟨vw, rw1, pw, _⟩ := J2.tuple hWv2
  obtain ⟨vt, rt1, pt, _⟩ := J2.tuple hTv2
  obtain ⟨u1, u2, u3, hR2⟩ : ∃ u1 u2 u3, t2.heap.get? r = some { cls := .type "range", data := .fields #[.int 0 u1, .int (ts.length : Int) u2, .int 1 u3] } := J2.hok r _ (eN r _ hR fun _ z => nomatch z)
  obtain ⟨m, hn, hl⟩ := J2.loc
  obtain ⟨u, ru, lk⟩ := hl i _ _ hN hσ (.inr (.inl hw))
  obtain rfl : u = .ref wv := ru
  obtain ⟨cw, hcw, hcell⟩ : ∃ cw, X.env.cells.lookup ("web" : Str) = some cw ∧ t2.heap.IsCell cw (some (.ref wv)) := by
    rcases lk with ⟨hk, _⟩ | ⟨_, cw, h1, h2⟩
    · have hk : X.env.scope.names.lookup ("web" : Str) = some .local := hk
      rw [hw] at hk
      cases hk
    · exact ⟨cw, h1, h2⟩
  obtain ⟨⟨oc, cvs, ct, hoc, hdc, hvc⟩, _, _⟩ := J2.hok c' _ hCo
  have hat1 : vw.toArray[1]? = some (.ref tv) := by
    cases rw1 with
    | cons _ t => cases t with
      | cons e t2 =>
        cases e
        cases t2
        rfl
  have KH : KeyHeap t2.heap f c' cw (X.env.qual ++ "<lambda>") params (keyBody p1 p2 p3 p4 p5 p6 p7 p8 p9 j1 j2 k0) scope (cloFrom X.env.cells scope.names []) pm ctv wv tv vw.toArray vt.toArray :=
    ⟨hf, ⟨c', oc, cvs, ct, rfl, hoc, hdc, hvc⟩, cloFrom_web hnames hcw, hcell, pw, hat1, pt, J2.nolimit⟩
  have hmle : ts.length ≤ sizeLine := Nat.le_trans hsmall (by decide)
  have hu' := hr.un
  refine PyProof.Rows.call_function_entry_kw PyProof.Rows.kind_sorted PyProof.Rows.plain_sorted PyProof.Rows.entry_sorted (PyProof.Rows.ksk_s1 _ _) ?_
  unfold Builtin.«sorted»
  refine wpAny_bind (m := checkCount "sorted" 1 1 _) (wpAny_pure ?_)
  refine wpAny_bind (collect_range (n := ts.length) (by simpa using hr.hd) hR2 (small_one (by omega) (by omega) (by omega) (by omega)) (by rw [rangeSize_nat]; omega) (by omega) fun g tk acc hk it => ?_)
  have hac : acc.toList.length = ts.length := by
    rw [Array.length_toList]
    exact it.1
  have eI : EachIs (fun v (j : Nat) => ∃ t, v = Value.int (j : Int) t) acc.toList (List.range ts.length) := each_range _ _ hac fun j v ev => by
    obtain ⟨t, et⟩ := it.2 j v (by rw [← Array.getElem?_toList]; exact ev)
    exact ⟨t, by rw [et]; congr 1; omega⟩
  refine wpAny_bind (wpAny_newList ?_ (by rw [hac]; exact hmle))
  have hoL : (g.push (seqObj "list" acc.toList.toArray 0)).get? g.objs.size = some (seqObj "list" acc.toList.toArray 0) := Heap.get?_push_size _ rfl
  have J3 : Inv X pins σ H2 { t2 with heap := g, toks := tk } := J2.kept hk
  show wpAny _ _ _ _ _ { t2 with heap := g.push (seqObj "list" acc.toList.toArray 0), toks := tk }
  have hal : AllAlike ((List.range ts.length).map (keyOfTie ts)) := AllAlike.of fun b b' => by simp [keyOfTie, alike, alikeAll]
  have hdep : ∀ j, (keyOfTie ts j).depth ≤ 2 := fun j => by simp [keyOfTie, PyData.depth, PyData.depthAll]
  refine wpAny_bind (wpAny_holding (wpAny_mono (wpAny_call_entry_kw (self := .ref g.objs.size) (s := { t2 with heap := g.push (seqObj "list" acc.toList.toArray 0), toks := tk }) PyProof.Rows.slot_list_sort ⟨_, hoL, rfl⟩ PyProof.Rows.entry_list_sort (Q := fun v s' => v = .none ∧ EP X pins σ Q (.ref g.objs.size) s') ?srt (PyProof.Rows.ksk_l1 _ _)) ?fin fun _ _ e => e))
  case srt =>
    rw [PyProof.Rows.ksk_t1]
    refine keyH_tree (kz := (List.range ts.length).map (keyOfTie ts)) (vs := acc.toList) (s := { t2 with heap := g.push (seqObj "list" acc.toList.toArray 0), toks := tk }) hoL (by rw [List.length_map, List.length_range, hac]) (by rw [hac]; exact hmle) hal (Sortable.tuples fun j => ⟨_, _, rfl⟩) (fun d hd => ?_) (fun j v kd hv hkd h3 tk3 kp => ?_) (fun h4 tk4 out c4 kp4 hout ko => ⟨.none, rfl, rfl, ?_⟩)
    · obtain ⟨j, _, rfl⟩ := List.mem_map.mp hd
      have := hdep j
      show X.A.in1.in1.units + _ < cLine
      have e1 : X.A.in1.in1.units = X.A.units + 2 := by first | rfl | simp [Around.in1]
      omega
    · have hj : j < ts.length := by
        have := (List.getElem?_eq_some_iff.mp hv).1
        omega
      have up : ∀ b o, t2.heap.get? b = some o → h3.get? b = some o := fun b o eb => by
        have q1 := hk b o eb
        exact kp b o (Nat.ne_of_lt (Heap.lt_size q1)) (Heap.get?_push_of_some _ q1)
      rw [List.getElem?_map, List.getElem?_range hj] at hkd
      have ekd : kd = keyOfTie ts j := (Option.some.inj hkd).symm
      subst ekd
      obtain ⟨tt, ett⟩ := it.2 j v (by rw [← Array.getElem?_toList]; exact hv)
      have ev : v = .int (j : Int) tt := by rw [ett]; congr 1; omega
      subst ev
      have hm : ts[j] ∈ ts := List.getElem_mem hj
      obtain ⟨vi, ri, pi, _⟩ := J2.tuple (extN_seqT eN (hTs _ hm))
      obtain ⟨w1, hw1, rw1'⟩ := rt1.get (i := j) (x := .ref ts[j].1) (by rw [List.getElem?_map, List.getElem?_eq_getElem hj]; rfl)
      obtain rfl : w1 = .ref ts[j].1 := rw1'
      obtain ⟨w2, hw2, t5, rfl⟩ := ri.get (i := 2) rfl
      have epr : tiePrice ts j = ts[j].2.2.2 := by
        unfold tiePrice
        rw [List.getD_eq_getElem?_getD, List.getElem?_map, List.getElem?_eq_getElem hj]
        rfl
      have hdp : X.A.in1.in1.depth < recursionLimit := by
        have := hr.dp
        have e1 : X.A.in1.in1.depth = X.A.depth := by first | rfl | simp [Around.in1]
        omega
      have key := key_call (prog := X.prog) (w := X.w) (A := X.A.in1.in1) (E := fun _ _ => False) (s := { t2 with heap := h3, toks := tk3 }) (i := j) (t1 := tt) (KH.up up) (by omega) (by simpa using hw1) (let ⟨o, e1, e2⟩ := pi; ⟨o, up _ _ e1, e2⟩) (by simpa using hw2) hkind hco hgen hnames (fun v cv => hbind _ _ _ v cv _) hdp
      unfold keyOfTie
      rw [epr]
      exact key
    · have eo := keyedOut_each (R := fun v (j : Nat) => ∃ t, v = Value.int (j : Int) t) (keyOfTie ts) ko eI
      have ele : dataLe false (keyOfTie ts) = fun p q => decide (tiePrice ts p < tiePrice ts q ∨ (tiePrice ts p = tiePrice ts q ∧ ((p : Nat) : Int) ≤ ((q : Nat) : Int))) := dataLe_ii (tiePrice ts) (fun j : Nat => (j : Int))
      rw [ele] at eo
      generalize hord : (List.range ts.length).mergeSort (fun p q => decide (tiePrice ts p < tiePrice ts q ∨ (tiePrice ts p = tiePrice ts q ∧ ((p : Nat) : Int) ≤ ((q : Nat) : Int)))) = ord at eo
      have hp : ord.Perm (List.range ts.length) := by
        rw [← hord]
        exact List.mergeSort_perm _ _
      have hs : ord.Pairwise (fun a b => tiePrice ts a < tiePrice ts b ∨ (tiePrice ts a = tiePrice ts b ∧ a < b)) := by
        have h1 : ord.Pairwise (fun p q => decide (tiePrice ts p < tiePrice ts q ∨ (tiePrice ts p = tiePrice ts q ∧ ((p : Nat) : Int) ≤ ((q : Nat) : Int))) = true) := by
          rw [← hord]
          refine List.pairwise_mergeSort (fun a b c h1 h2 => ?_) (fun a b => ?_) _
          · have h1 := of_decide_eq_true h1
            have h2 := of_decide_eq_true h2
            exact decide_eq_true (by omega)
          · simp only [Bool.or_eq_true, decide_eq_true_eq]
            omega
        have h2 : ord.Nodup := hp.nodup_iff.mpr List.nodup_range
        exact (h1.and h2).imp fun {a b} ⟨e1, e2⟩ => by
          have e1 := of_decide_eq_true e1
          omega
      have hlen : (ord.map fun j => V.int ((j : Nat) : Int)).length ≤ sizeLine := by
        rw [List.length_map, hp.length_eq, List.length_range]
        exact hmle
      have hup : ∀ b o, g.get? b = some o → h4.get? b = some o := fun b o eb => kp4 b o (Nat.ne_of_lt (Heap.lt_size eb)) (Heap.get?_push_of_some _ eb)
      exact ⟨.ref g.objs.size, upd H2 g.objs.size (.lst (ord.map fun j => V.int ((j : Nat) : Int))), J3.laid (t' := tk4) hup (Nat.le_refl _) (show ObjOk X.prog X.w _ _ _ (.lst _) from ⟨hlen, out, c4, each_ints eo, hout⟩), rfl, q H2 ord _ eN T2 hp hs (J3.hok.fresh (Nat.le_refl _))⟩
  case fin =>
    rintro v s' ⟨rfl, z⟩
    exact wpAny_pure ⟨_, rfl, z⟩
end L2
namespace KW
open PySem PySem.Spec PyProof.Rows L2
open LamX (ExtN Tabs)
/-! ### the text by places -/
def topS (i : Nat) : Stmt := PySem.Challenge.pw_joinworks_k01_whole_least_trees.main.body.getD i (.Pass ⟨0, 0, 0, 0⟩)
abbrev s_is_int : Stmt := topS 10
abbrev s_is_from : Stmt := topS 11
abbrev s_is_tie : Stmt := topS 12
abbrev s_need_web : Stmt := topS 13
abbrev s_is_rising : Stmt := topS 14
abbrev s_need_lot : Stmt := topS 15
abbrev s_root_of : Stmt := topS 16
abbrev s_roots_of : Stmt := topS 17
abbrev s_pairs_of : Stmt := topS 18
abbrev s_parts_of : Stmt := topS 19
abbrev s_joins : Stmt := topS 20
abbrev s_is_tree_of : Stmt := topS 21
abbrev s_all_ties : Stmt := topS 22
abbrev s_need_joined : Stmt := topS 23
abbrev s_order_of : Stmt := topS 25
abbrev s_forest_by : Stmt := topS 26
abbrev s_least_of : Stmt := topS 27
abbrev s_least_tree : Stmt := topS 28
abbrev s_need_tree : Stmt := topS 29
abbrev s_swapped : Stmt := topS 30
abbrev s_better : Stmt := topS 31
abbrev s_taken : Stmt := topS 33
abbrev s_pick : Stmt := topS 34
abbrev s_alike : Stmt := topS 35
abbrev s_joined_web : Stmt := topS 36
abbrev s_lparts : Stmt := topS 37
abbrev s_lpairs : Stmt := topS 38
abbrev s_lprice : Stmt := topS 39
abbrev s_llots : Stmt := topS 40
abbrev s_lis_tree : Stmt := topS 41
abbrev s_ltrees : Stmt := topS 42
abbrev s_law : Stmt := topS 43
/-! ### a def that stands, with its promise -/
/-- the def x stands, keeps the promise sp by the level k, and may be called -/
def Has (P : Program) (w : World) (K : PySem.W.Frag) (mg : Str → Option Value) (base : Heap) (k : Nat) (x : Str) (ps : List Str) (sp : Sp) : Prop :=
  ∃ f fd, FnOk P w K mg base CX0 k f fd ps sp ∧ mg x = some (.ref f) ∧ PySem.W.keepIn K (.ref f) = true ∧ Binds K fd ps []
/-- the def of the text at x -/
structure Def (K : PySem.W.Frag) (mg : Str → Option Value) (x : Str) (st : Stmt) (ps : List Str) : Prop where
  ex : ∃ f fd, Fun K x x st f fd ∧ mg x = some (.ref f) ∧ Binds K fd ps []
section
variable {X : Cx} {k j : Nat} {x : Str} {ps : List Str} {sp : Sp} {e : Expr} {es : List Expr} {t : TA} {p pos : Pos}
theorem pe_has (h : Has X.prog X.w X.K X.mg X.base j x ps sp) (hr : Room k X.A) (ht : PA X (e :: es) t) (hj : j ≤ k := by decide) (hg : Gl X x := by rfl) (hd : (x == ("__debug__" : Str)) = false := by decide)
    (he : starEach (e :: es) X.env = (false, eval e X.env) :: starEach es X.env := by rfl) (hpl : (backTo pos (starEach es X.env)).any (·.1) = false := by rfl) :
    PE X (.Call (.Name x p) (e :: es) [] pos) (tCall sp [] E0 t) := by
  obtain ⟨f, fd, F, m, kp, b⟩ := h
  exact pe_call F (hr.mono hj) hg m kp b .nil pass0 ht (hdb := hd) (he := he) (hpl := hpl)
end
section
variable {P : Program} {w : World} {K : PySem.W.Frag} {mg : Str → Option Value} {base : Heap}
theorem Has.mono {j k : Nat} {x : Str} {ps : List Str} {sp : Sp} (h : Has P w K mg base j x ps sp) (le : j ≤ k) : Has P w K mg base k x ps sp := by
  obtain ⟨f, fd, F, m, kp, b⟩ := h
  exact ⟨f, fd, F.mono le, m, kp, b⟩
/-- the rule for a def -/
theorem has_of {x : Str} {st : Stmt} {N ps : List Str} {k : Nat} {sp : Sp} (D : Def K mg x st ps) (S : FnScope N ps (defScope st)) (len : ∀ vs H Q E, sp vs H Q E → vs.length = ps.length)
    (body : ∀ (f : Addr) (cdv : Value) (A : Around) (outer : List Env) (s : Shared) (H : Hp) (vs : List V) (Q : VK) (E : XK), Room k (A.deeper (envOfC x (defScope st) s.heap.objs.size f cdv)) → sp vs H Q E →
      ∃ t, PSs (cxOf CX0 P w K mg base N x (defScope st) f cdv A outer s H E).nox (defBody st) t ∧ t { nx := fun _ H' => Q .non H', rt := Q } (start N vs) H) : Has P w K mg base (k + 1) x ps sp := by
  obtain ⟨f, fd, F, m, b⟩ := D.ex
  exact ⟨f, fd, F.ok S len (body f), m, F.kp, b⟩
end
/-! ### built-ins and constants of the module -/
structure Bl (mg : Str → Option Value) : Prop where
  isi : mg "isinstance" = none
  int : mg "int" = none
  bool : mg "bool" = none
  str : mg "str" = none
  len : mg "len" = none
  all : mg "all" = none
  any : mg "any" = none
  rng : mg "range" = none
  lst : mg "list" = none
  tup : mg "tuple" = none
  max : mg "max" = none
  min : mg "min" = none
  enum : mg "enumerate" = none
  srt : mg "sorted" = none
  sum : mg "sum" = none
  set : mg "set" = none
structure Cs (mg : Str → Option Value) : Prop where
  places : ∃ t, mg "MOST_PLACES" = some (.int 12 t)
  ties : ∃ t, mg "MOST_TIES" = some (.int 30 t)
  price : ∃ t, mg "MOST_PRICE" = some (.int 999 t)
/-! ### heaps -/
theorem same_new {H : Hp} {p : Addr} {o : HO} (h : H p = none) : Same H (upd H p o) := fun b x e => by
  rw [upd_ne (ne_of_none e h)]
  exact e
theorem _root_.L2.Same.upd {H H' : Hp} {p : Addr} {o : HO} (e : Same H H') (h : H' p = none) : Same H (L2.upd H' p o) := e.trans (same_new h)
/-- what is new stays new from the elder heap's side -/
theorem _root_.L2.Same.set {H H' : Hp} {p : Addr} {o : HO} (e : Same H H') (h : H p = none) : Same H (L2.upd H' p o) := fun b x q => by
  rw [upd_ne (ne_of_none q h)]
  exact e b x q
theorem _root_.L2.Same.extN {H H' : Hp} (e : Same H H') : ExtN H H' := .of e
theorem extN_tup {K : PySem.W.Frag} {H H' : Hp} {a : Addr} {xs : List V} (e : ExtN H H') (h : SqT K H a xs) : SqT K H' a xs := extN_seqT e h
theorem _root_.L2.Same.tup {K : PySem.W.Frag} {H H' : Hp} {a : Addr} {xs : List V} (e : Same H H') (h : SqT K H a xs) : SqT K H' a xs := extN_seqT e.extN h
theorem sz {n : Nat} (h : n ≤ 100000) : n ≤ sizeLine := Nat.le_trans h (by decide)
theorem szlt {n : Nat} (h : n ≤ 100000) : n < sizeLine := Nat.lt_of_le_of_lt h (by decide)
/-- a comprehension's turn without a test -/
theorem yes {σ : L2.St} {H : Hp} {F G : Hp → Prop} (h : F H) : tYes σ H (fun b H3 => if b = true then F H3 else G H3) := by
  show if true = true then F H else G H
  rw [if_pos rfl]
  exact h
/-! ### numbers in values -/
/-- a number -/
abbrev nV (n : Nat) : V := .int (n : Int)
abbrev nVs (l : List Nat) : List V := l.map nV
theorem nVs_get {l : List Nat} {i : Nat} {y : V} (h : (nVs l)[i]? = some y) : ∃ n, l[i]? = some n ∧ y = nV n := by
  rw [List.getElem?_map] at h
  cases e : l[i]? with
  | none => rw [e] at h; cases h
  | some n =>
    rw [e] at h
    exact ⟨n, rfl, (Option.some.inj h).symm⟩
theorem nVs_at {l : List Nat} {i n : Nat} (h : l[i]? = some n) : (nVs l)[i]? = some (nV n) := by
  rw [List.getElem?_map, h]
  rfl
theorem nVs_int (l : List Nat) : nVs l = (l.map fun n : Nat => (n : Int)).map V.int := by
  rw [List.map_map]
  rfl
theorem take_next {α : Type} {l : List α} {i : Nat} {x : α} (h : l[i]? = some x) : l.take (i + 1) = l.take i ++ [x] := by
  rw [List.take_add_one, h]
  rfl
theorem getD_of {α : Type} {l : List α} {i : Nat} {x d : α} (h : l[i]? = some x) : l.getD i d = x := by
  rw [List.getD_eq_getElem?_getD, h]
  rfl
/-! ### webs -/
abbrev Tie := Nat × Nat × Nat
def eu (ts : List Tie) (i : Nat) : Nat := (ts.getD i (0, 0, 0)).1
def ev (ts : List Tie) (i : Nat) : Nat := (ts.getD i (0, 0, 0)).2.1
def ep (ts : List Tie) (i : Nat) : Nat := (ts.getD i (0, 0, 0)).2.2
/-- the values of a tie -/
abbrev tieV (t : Tie) : List V := [nV t.1, nV t.2.1, nV t.2.2]
/-- at a stands the web of n places with the ties ts -/
def WebAt (K : PySem.W.Frag) (H : Hp) (a : Addr) (n : Nat) (ts : List Tie) : Prop :=
  ∃ (t : Addr) (as : List (Addr × Tie)), as.map (·.2) = ts ∧ SqT K H a [nV n, .ref t] ∧ SqT K H t (as.map fun p => .ref p.1) ∧ ∀ p ∈ as, SqT K H p.1 (tieV p.2)
theorem WebAt.ext {K : PySem.W.Frag} {H H' : Hp} {a n ts} (e : ExtN H H') (h : WebAt K H a n ts) : WebAt K H' a n ts := by
  obtain ⟨t, as, h1, h2, h3, h4⟩ := h
  exact ⟨t, as, h1, extN_tup e h2, extN_tup e h3, fun p hp => extN_tup e (h4 p hp)⟩
theorem WebAt.same {K : PySem.W.Frag} {H H' : Hp} {a n ts} (e : Same H H') (h : WebAt K H a n ts) : WebAt K H' a n ts := h.ext e.extN
/-- a web that may be asked -/
structure WebOk (n : Nat) (ts : List Tie) : Prop where
  n1 : 1 ≤ n
  n12 : n ≤ 12
  len : ts.length ≤ 20
  tie : ∀ t ∈ ts, t.1 < t.2.1 ∧ t.2.1 < n ∧ t.2.2 ≤ 999
  rise : ts.Pairwise fun s t => s.1 < t.1 ∨ (s.1 = t.1 ∧ s.2.1 < t.2.1)
theorem eu_at {ts : List Tie} {i : Nat} {t : Tie} (h : ts[i]? = some t) : eu ts i = t.1 ∧ ev ts i = t.2.1 ∧ ep ts i = t.2.2 := by
  unfold eu ev ep
  rw [getD_of h]
  exact ⟨rfl, rfl, rfl⟩
theorem WebOk.ends {n : Nat} {ts : List Tie} (o : WebOk n ts) {i : Nat} (h : i < ts.length) : eu ts i < n ∧ ev ts i < n := by
  have e := List.getElem?_eq_getElem h
  obtain ⟨e1, e2, _⟩ := eu_at e
  obtain ⟨a, b, _⟩ := o.tie _ (List.getElem_mem h)
  rw [e1, e2]
  omega
/-- the list or tuple at a -/
def Sq (K : PySem.W.Frag) (H : Hp) (a : Addr) (xs : List V) : Prop := SqL K H a xs ∨ SqT K H a xs
/-- a list of new pairs -/
def PairsAt (K : PySem.W.Frag) (H : Hp) (a : Addr) (es : List (Nat × Nat)) : Prop :=
  ∃ ps : List (Addr × Nat × Nat), ps.map (·.2) = es ∧ SqL K H a (ps.map fun p => .ref p.1) ∧ ∀ p ∈ ps, SqT K H p.1 [nV p.2.1, nV p.2.2]
theorem PairsAt.same {K : PySem.W.Frag} {H H' : Hp} {a es} (e : Same H H') (h : PairsAt K H a es) : PairsAt K H' a es := by
  obtain ⟨ps, h1, h2, h3⟩ := h
  exact ⟨ps, h1, e.seq h2, fun p hp => e.tup (h3 p hp)⟩
/-- the labels that a list of pairs makes -/
def labp (es : List (Nat × Nat)) : Nat → Nat := es.foldl (fun r e => KM.stp r e.1 e.2) id
/-- a lot's pairs -/
def lotE (ts : List Tie) (lot : List Nat) : List (Nat × Nat) := lot.map fun i => (eu ts i, ev ts i)
theorem labp_lot (ts : List Tie) (lot : List Nat) : labp (lotE ts lot) = KM.lab (eu ts) (ev ts) lot := by
  unfold labp lotE KM.lab
  rw [List.foldl_map]
theorem labp_snoc (es : List (Nat × Nat)) (e : Nat × Nat) : labp (es ++ [e]) = KM.stp (labp es) e.1 e.2 := by
  unfold labp
  rw [List.foldl_append]
  rfl
theorem labp_le (es : List (Nat × Nat)) : ∀ p, labp es p ≤ p := by
  induction es using KM.snoc_ind with
  | h0 => exact fun p => Nat.le_refl _
  | hs l x ih => rw [labp_snoc]; exact KM.stp_le ih _ _
theorem labp_idem (es : List (Nat × Nat)) : ∀ p, labp es (labp es p) = labp es p := by
  induction es using KM.snoc_ind with
  | h0 => exact fun p => rfl
  | hs l x ih => rw [labp_snoc]; exact KM.stp_idem ih _ _
end KW
namespace KW
open PySem PySem.Spec PyProof.Rows L2
open LamX (ExtN Tabs)
/-! ### root_of -/
/-- par is a forest of the classes of r -/
structure Par (n : Nat) (par : List Nat) (r : Nat → Nat) : Prop where
  len : par.length = n
  le : ∀ p x : Nat, par[p]? = some x → x ≤ p
  cls : ∀ p x : Nat, par[p]? = some x → r x = r p
  root : ∀ p x : Nat, par[p]? = some x → (x = p ↔ r p = p)
theorem set_get {α : Type} {l : List α} {i j : Nat} {y z : α} (h : (l.set i y)[j]? = some z) : (j = i ∧ z = y) ∨ (j ≠ i ∧ l[j]? = some z) := by
  by_cases e : i = j
  · subst e
    have hi : i < l.length := by
      have := (List.getElem?_eq_some_iff.mp h).1
      rwa [List.length_set] at this
    rw [List.getElem?_set_self hi] at h
    exact .inl ⟨rfl, (Option.some.inj h).symm⟩
  · rw [List.getElem?_set_ne e] at h
    exact .inr ⟨fun z => e z.symm, h⟩
theorem Par.halve {n : Nat} {par : List Nat} {r : Nat → Nat} (P : Par n par r) {y z g : Nat} (hy : par[y]? = some z) (hne : z ≠ y) (hz : par[z]? = some g) : Par n (par.set y g) r where
  len := by rw [List.length_set]; exact P.len
  le := fun p x h => by
    rcases set_get h with ⟨rfl, rfl⟩ | ⟨_, h⟩
    · exact Nat.le_trans (P.le _ _ hz) (P.le _ _ hy)
    · exact P.le _ _ h
  cls := fun p x h => by
    rcases set_get h with ⟨rfl, rfl⟩ | ⟨_, h⟩
    · exact (P.cls _ _ hz).trans (P.cls _ _ hy)
    · exact P.cls _ _ h
  root := fun p x h => by
    rcases set_get h with ⟨rfl, rfl⟩ | ⟨_, h⟩
    · have h1 := P.le _ _ hz
      have h2 := P.le _ _ hy
      have h3 := P.root _ _ hy
      constructor
      · intro e; omega
      · intro e; exact (hne (h3.mpr e)).elim
    · exact P.root _ _ h
theorem Par.get {n : Nat} {par : List Nat} {r : Nat → Nat} (P : Par n par r) {y : Nat} (h : y < n) : ∃ z, par[y]? = some z ∧ z ≤ y := by
  have hl : y < par.length := by rw [P.len]; exact h
  exact ⟨par[y], List.getElem?_eq_getElem hl, P.le _ _ (List.getElem?_eq_getElem hl)⟩
theorem nVs_set (l : List Nat) (i n : Nat) : (nVs l).set i (nV n) = nVs (l.set i n) := by
  unfold nVs
  rw [List.map_set]
theorem ixN_nat {n i : Nat} (h : i < n) : ixN n (i : Int) = some i := by
  unfold ixN
  rw [if_pos (by omega), if_pos (by omega)]
  simp
def spRoot : Sp := fun vs H Q _ => ∃ (p : Addr) (n x : Nat) (par : List Nat) (r : Nat → Nat), vs = [.ref p, nV x] ∧ H p = some (.lst (nVs par)) ∧ Par n par r ∧ x < n ∧ ∀ par', Par n par' r → Q (nV (r x)) (upd H p (.lst (nVs par')))
theorem sc_root : FnScope ["parent", "place"] ["parent", "place"] (defScope s_root_of) := ⟨rfl, rfl, rfl, by decide +kernel, rfl, by decide +kernel, by decide +kernel⟩
section
variable {P : Program} {w : World} {K : PySem.W.Frag} {mg : Str → Option Value} {base : Heap}
theorem ok_root (D : Def K mg "root_of" s_root_of ["parent", "place"]) : Has P w K mg base 1 "root_of" ["parent", "place"] spRoot := by
  refine has_of D sc_root (fun vs H Q E h => ?_) (fun f cdv A outer s H vs Q E hr h => ?_)
  · obtain ⟨p, n, x, par, r, rfl, _⟩ := h
    rfl
  · obtain ⟨p, n, x, par, r, rfl, hp, hP, hx, q⟩ := h
    refine ⟨_, pss_cons (ps_while PassesOwn.never (pt_cmpR op_ne (pe_ix ix_list (pv 0) (pv 1) (fun _ _ => rfl)) (pv 1) (nomark _))
        (pss_cons (ps_asg (pe_ix ix_list (pv 0) (pe_ix ix_list (pv 0) (pv 1) (fun _ _ => rfl)) (fun _ _ => rfl)) (pg_sub (pv 0) (pv 1) set_list))
          (pss_one (ps_set (i := 1) sc_root.nd rfl (.inl rfl) (pe_ix ix_list (pv 0) (pv 1) (fun _ _ => rfl))))))
      (pss_one (ps_ret (pv 1))), ?_⟩
    refine ⟨fun m σ H' => ∃ par', σ = [some (.ref p), some (nV m)] ∧ H' = upd H p (.lst (nVs par')) ∧ Par n par' r ∧ m < n ∧ r m = r x, ⟨x, par, rfl, ?_, hP, hx, rfl⟩, ?_⟩
    · funext b
      by_cases e : b = p
      · rw [e, upd_same, hp]
      · rw [upd_ne e]
    · rintro m σ H' ⟨par', rfl, rfl, hP', hm, hr'⟩
      obtain ⟨z, hz, lz⟩ := hP'.get hm
      refine ⟨_, rfl, _, rfl, p, _, _, nV z, rfl, rfl, SqL.of upd_same, atI_nat (nVs_at hz), _, rfl, rfl, _, rfl, ?_⟩
      by_cases e : z = m
      · subst e
        rw [decide_eq_true rfl]
        refine iteF ?_
        refine ⟨_, rfl, ?_⟩
        have := (hP'.root _ _ hz).mp rfl
        rw [show nV z = nV (r x) by rw [← hr', this]]
        exact q _ hP'
      · rw [decide_eq_false (fun h => e (by injection h with h; omega))]
        refine iteT ?_
        obtain ⟨g, hg, lg⟩ := hP'.get (y := z) (by omega)
        have hH := hP'.halve hz e hg
        refine ⟨fun σ' H' => ∃ par2, σ' = [some (.ref p), some (nV g)] ∧ H' = upd H p (.lst (nVs par2)) ∧ Par n par2 r, ?_, ?_⟩
        · rintro σ' H2 ⟨par2, rfl, rfl, h2⟩
          refine ⟨g, by omega, par2, rfl, rfl, h2, by omega, ?_⟩
          rw [hP'.cls _ _ hg, hP'.cls _ _ hz, hr']
        · have hml : m < par'.length := by rw [hP'.len]; exact hm
          refine ⟨_, rfl, _, rfl, _, rfl, p, _, _, nV z, rfl, rfl, SqL.of upd_same, atI_nat (nVs_at hz), p, _, _, nV g, rfl, rfl, SqL.of upd_same, atI_nat (nVs_at hg), ?_⟩
          refine ⟨_, rfl, _, rfl, p, _, _, m, rfl, rfl, upd_same, ixN_nat (by rw [List.length_map]; exact hml), ?_⟩
          rw [upd_upd, nVs_set]
          refine ⟨_, rfl, _, rfl, p, _, _, nV g, rfl, rfl, SqL.of upd_same, atI_nat (nVs_at ?_), ?_⟩
          · rw [List.getElem?_set_self hml]
          · exact ⟨_, rfl, rfl, hH⟩
end
end KW
namespace KW
open PySem PySem.Spec PyProof.Rows L2
open LamX (ExtN Tabs)
/-! ### roots_of -/
theorem nVs_snoc (l : List Nat) (n : Nat) : nVs (l ++ [n]) = nVs l ++ [nV n] := by
  unfold nVs
  rw [List.map_append]
  rfl
theorem rgV_nat (n : Nat) : rgV 0 (n : Int) = nVs (List.range n) := by
  unfold rgV nVs
  rw [show ((n : Int) - 0).toNat = n by omega]
  refine List.map_congr_left fun j _ => ?_
  show V.int (0 + (j : Int)) = V.int (j : Int)
  rw [Int.zero_add]
theorem RgOk.nat {n : Nat} (h : n ≤ 1000) : RgOk 0 (n : Int) := ⟨by omega, by omega, by omega, by omega, by omega⟩
theorem Par.start (n : Nat) : Par n (List.range n) id where
  len := List.length_range
  le := fun p x h => by
    rw [List.getElem?_range (by have := (List.getElem?_eq_some_iff.mp h).1; rwa [List.length_range] at this)] at h
    have := Option.some.inj h
    omega
  cls := fun p x h => by
    rw [List.getElem?_range (by have := (List.getElem?_eq_some_iff.mp h).1; rwa [List.length_range] at this)] at h
    exact (Option.some.inj h).symm
  root := fun p x h => by
    rw [List.getElem?_range (by have := (List.getElem?_eq_some_iff.mp h).1; rwa [List.length_range] at this)] at h
    have := Option.some.inj h
    exact ⟨fun _ => rfl, fun _ => this.symm⟩
theorem Par.join {n : Nat} {par : List Nat} {r : Nat → Nat} (P : Par n par r) (le : ∀ p, r p ≤ p) (idm : ∀ p, r (r p) = r p) (a b : Nat) : Par n (par.set (max (r a) (r b)) (min (r a) (r b))) (KM.stp r a b) where
  len := by rw [List.length_set]; exact P.len
  le := fun p x h => by
    rcases set_get h with ⟨rfl, rfl⟩ | ⟨_, h⟩
    · omega
    · exact P.le _ _ h
  cls := fun p x h => by
    have m1 := KM.min_idem idm a b
    have m2 := KM.max_idem idm a b
    rcases set_get h with ⟨rfl, rfl⟩ | ⟨_, h⟩
    · unfold KM.stp
      rw [m1, m2]
      split <;> simp_all
    · have := P.cls _ _ h
      unfold KM.stp
      rw [this]
  root := fun p x h => by
    have m1 := KM.min_idem idm a b
    have m2 := KM.max_idem idm a b
    rcases set_get h with ⟨rfl, rfl⟩ | ⟨hne, h⟩
    · unfold KM.stp
      rw [m2, if_pos rfl]
    · rw [P.root _ _ h]
      unfold KM.stp
      by_cases e : r p = max (r a) (r b)
      · rw [if_pos e]
        constructor
        · intro z; omega
        · intro z
          have : r p = p := by rw [← z, m1]
          exact this
      · rw [if_neg e]
def spRoots (K : PySem.W.Frag) : Sp := fun vs H Q _ => ∃ (n : Nat) (pl : Addr) (es : List (Nat × Nat)), vs = [nV n, .ref pl] ∧ PairsAt K H pl es ∧ (∀ e ∈ es, e.1 < n ∧ e.2 < n) ∧ n ≤ 1000 ∧
  ∀ H' p, Same H H' → H p = none → H' p = some (.lst (nVs ((List.range n).map (labp es)))) → Q (.ref p) H'
theorem sc_roots : FnScope ["many", "pairs", "parent", "a", "b", "one", "other", "place"] ["many", "pairs"] (defScope s_roots_of) := ⟨rfl, rfl, rfl, by decide +kernel, rfl, by decide +kernel, by decide +kernel⟩
theorem max_nat (a b : Nat) : (if (b : Int) > (a : Int) then (b : Int) else (a : Int)) = ((max a b : Nat) : Int) := by
  split <;> omega
theorem min_nat (a b : Nat) : (if (b : Int) < (a : Int) then (b : Int) else (a : Int)) = ((min a b : Nat) : Int) := by
  split <;> omega
section
variable {P : Program} {w : World} {K : PySem.W.Frag} {mg : Str → Option Value} {base : Heap}
theorem ok_roots (D : Def K mg "roots_of" s_roots_of ["many", "pairs"]) (B : Bl mg) (R : Has P w K mg base 1 "root_of" ["parent", "place"] spRoot) : Has P w K mg base 2 "roots_of" ["many", "pairs"] (spRoots K) := by
  refine has_of D sc_roots (fun vs H Q E h => ?_) (fun f cdv A outer s H vs Q E hr h => ?_)
  · obtain ⟨n, pl, es, rfl, _⟩ := h
    rfl
  · obtain ⟨n, pl, es, rfl, hP, hes, hn, q⟩ := h
    refine ⟨_, pss_cons (ps_set (i := 2) sc_roots.nd rfl (.inr rfl) (pe_listRg rfl (by rfl) B.lst (prg_1 (by rfl) B.rng (pv 0))))
      (pss_cons (ps_for PassesOwn.never rfl (pi_list (pv 1)) (pg_tup (by rfl) (pgs_cons (pg_name (i := 3) sc_roots.nd rfl (.inl rfl)) (pgs_cons (pg_name (i := 4) sc_roots.nd rfl (.inl rfl)) pgs_nil)))
        (pss_cons (ps_par (i := 5) (j := 6) rfl sc_roots.nd rfl rfl (by decide) rfl rfl (pa_cons (pe_has R hr (pa_cons (pv 2) (pa_cons (pv 3) pa_nil))) (pa_cons (pe_has R hr (pa_cons (pv 2) (pa_cons (pv 4) pa_nil))) pa_nil)) (by rfl))
          (pss_one (ps_asg (pe_callB (call_min2 rfl) (by rfl) B.min (by decide +kernel) (pa_cons (pv 5) (pa_cons (pv 6) pa_nil))) (pg_sub (pv 2) (pe_callB (call_max2 rfl) (by rfl) B.max (by decide +kernel) (pa_cons (pv 5) (pa_cons (pv 6) pa_nil))) set_list)))))
      (pss_one (ps_ret (pe_lc (own := [("place", 7)]) (g := gName 7) (tt := tYes) rfl sc_roots.nd (pi_range1 (by rfl) B.rng (pa_cons (pv 0) pa_nil)) (blkOk_by (own := [("place", 7)]) (N := ["many", "pairs", "parent", "a", "b", "one", "other", "place"]) (sc := defScope s_roots_of) (by decide +kernel))
        (fun _ _ _ _ _ => pg_name (i := 7) sc_roots.nd rfl (.inl rfl)) (fun _ _ _ _ _ => pts_nil) (fun _ _ _ _ _ => pe_has R hr (pa_cons (pv 2) (pa_cons (pv 7) pa_nil))))))), ?_⟩
    refine ⟨_, rfl, n, rfl, RgOk.nat hn, fun q0 hq0 => ?_⟩
    rw [rgV_nat]
    obtain ⟨ps, eps, hL, hT⟩ := hP
    have hlen : ps.length = es.length := by rw [← eps, List.length_map]
    refine ⟨_, rfl, pl, rfl, ⟨_, (same_new hq0).seq hL⟩, for_list (K := K) (a := pl) (xs := ps.map fun p => .ref p.1) (fun i σ H' => ∃ par y3 y4 y5 y6, σ = [some (nV n), some (.ref pl), some (.ref q0), y3, y4, y5, y6, none] ∧ Same H H' ∧ H' q0 = some (.lst (nVs par)) ∧ Par n par (labp (es.take i)))
      ⟨_, _, _, _, _, rfl, same_new hq0, upd_same, Par.start n⟩ (fun i σ H' _ ⟨_, _, _, _, _, _, sm, _⟩ => sm.seq hL) ?_ ?_⟩
    · rintro i y σ H1 hi ⟨par, y3, y4, y5, y6, rfl, sm, hq1, hPar⟩
      obtain ⟨pe, hpe, rfl⟩ : ∃ pe, ps[i]? = some pe ∧ y = V.ref pe.1 := by
        rw [List.getElem?_map] at hi
        cases e : ps[i]? with
        | none => rw [e] at hi; cases hi
        | some pe => rw [e] at hi; exact ⟨pe, rfl, (Option.some.inj hi).symm⟩
      have hes' : es[i]? = some pe.2 := by
        rw [← eps, List.getElem?_map, hpe]
        rfl
      obtain ⟨ha, hb⟩ := hes _ (List.mem_of_getElem? hes')
      refine ⟨pe.1, _, rfl, sm.tup (hT _ (List.mem_of_getElem? hpe)), rfl, _, _, rfl, _, _, rfl, rfl, ?_⟩
      -- one, other = root_of(parent, a), root_of(parent, b)
      refine ⟨_, rfl, _, rfl, q0, n, pe.2.1, par, _, rfl, hq1, hPar, ha, fun par1 hP1 => ?_⟩
      refine ⟨_, rfl, _, rfl, q0, n, pe.2.2, par1, _, rfl, upd_same, hP1, hb, fun par2 hP2 => ?_⟩
      rw [upd_upd]
      refine ⟨_, _, rfl, ?_⟩
      -- parent[max(one, other)] = min(one, other)
      refine ⟨_, rfl, _, rfl, _, _, rfl, ?_⟩
      refine ⟨_, rfl, _, rfl, _, rfl, _, _, rfl, ?_⟩
      rw [max_nat, min_nat]
      have l1 := labp_le (es.take i) pe.2.1
      have l2 := labp_le (es.take i) pe.2.2
      have hm : max (labp (es.take i) pe.2.1) (labp (es.take i) pe.2.2) < par2.length := by rw [hP2.len]; omega
      refine ⟨q0, _, _, _, rfl, rfl, upd_same, ixN_nat (by rw [List.length_map]; exact hm), ?_⟩
      rw [upd_upd, nVs_set]
      refine ⟨_, _, _, _, _, rfl, sm.set hq0, upd_same, ?_⟩
      rw [take_next hes', labp_snoc]
      exact hP2.join (labp_le _) (labp_idem _) _ _
    · rintro σ H1 ⟨par, y3, y4, y5, y6, rfl, sm, hq1, hPar⟩
      rw [List.length_map, hlen, List.take_length] at hPar
      -- the comprehension
      refine ⟨_, rfl, (n : Int), rfl, by omega, by omega, fun Dd hD => ?_⟩
      have nDq : q0 ≠ Dd := ne_of_none hq1 hD
      refine lc_range (lo := 0) (n := n) (fun i H2 => ∃ par, Same H H2 ∧ H2 q0 = some (.lst (nVs par)) ∧ Par n par (labp es) ∧ H2 Dd = some (.lst (nVs ((List.range i).map (labp es)))))
        ⟨par, sm.upd hD, by rw [upd_ne nDq]; exact hq1, hPar, upd_same⟩ ?_ ?_
      · rintro i H2 hi ⟨par2, sm2, h1, h2, h3⟩
        refine ⟨rfl, yes ?_⟩
        refine ⟨_, rfl, _, rfl, q0, n, i, par2, labp es, ?_, h1, h2, hi, fun par3 hP3 => ?_⟩
        · show [V.ref q0, V.int (0 + (i : Int))] = [V.ref q0, nV i]
          rw [Int.zero_add]
        · have hD0 : H Dd = none := sm.free hD
          refine ⟨_, by rw [upd_ne nDq.symm]; exact h3, ?_, ⟨par3, (sm2.set hq0).set hD0, by rw [upd_ne nDq, upd_same], hP3, ?_⟩⟩
          · rw [List.length_map, List.length_map, List.length_range]
            exact szlt (by omega)
          · rw [upd_same, List.range_succ, List.map_append]
            exact congrArg (fun l => some (HO.lst l)) (nVs_snoc _ _).symm
      · rintro H2 ⟨par2, sm2, h1, h2, h3⟩
        exact q H2 Dd sm2 (sm.free hD) h3
end
end KW
namespace KW
open PySem PySem.Spec PyProof.Rows L2
open LamX (ExtN Tabs)
/-! ### pairs_of, the law's own too -/
theorem as_get {as : List (Addr × Tie)} {ts : List Tie} (e : as.map (·.2) = ts) {i : Nat} (h : i < ts.length) : ∃ ad tie, as[i]? = some (ad, tie) ∧ ts[i]? = some tie := by
  subst e
  rw [List.length_map] at h
  exact ⟨as[i].1, as[i].2, by rw [List.getElem?_eq_getElem h], by rw [List.getElem?_map, List.getElem?_eq_getElem h]; rfl⟩
theorem as_at {α : Type} {as : List (Addr × α)} {i : Nat} {ad : Addr} {x : α} (h : as[i]? = some (ad, x)) : (as.map fun p => V.ref p.1)[i]? = some (.ref ad) := by
  rw [List.getElem?_map, h]
  rfl
/-- a store to a list leaves the tuples -/
theorem sqT_upd {K : PySem.W.Frag} {H : Hp} {l b : Addr} {xs : List V} {o : HO} {zs : List V} (hl : H l = some (.lst zs)) (h : SqT K H b xs) : SqT K (upd H l o) b xs := by
  rcases h with (h | ⟨u, h⟩) | h
  · exact .inl (.inl (by rw [upd_ne (ne_of h hl (by intro z; cases z))]; exact h))
  · exact .inl (.inr ⟨u, by rw [upd_ne (ne_of h hl (by intro z; cases z))]; exact h⟩)
  · exact .inr h
def spPairs (K : PySem.W.Frag) : Sp := fun vs H Q _ => ∃ (wv lt : Addr) (n : Nat) (ts : List Tie) (lot : List Nat), vs = [.ref wv, .ref lt] ∧ WebAt K H wv n ts ∧ Sq K H lt (nVs lot) ∧ (∀ i ∈ lot, i < ts.length) ∧ lot.length ≤ 1000 ∧
  ∀ H' p, Same H H' → H p = none → PairsAt K H' p (lotE ts lot) → Q (.ref p) H'
theorem sc_pairs : FnScope ["web", "lot", "index"] ["web", "lot"] (defScope s_pairs_of) := ⟨rfl, rfl, rfl, by decide +kernel, rfl, by decide +kernel, by decide +kernel⟩
theorem ok_pairs_of {P : Program} {w : World} {K : PySem.W.Frag} {mg : Str → Option Value} {base : Heap} (D : Def K mg "pairs_of" s_pairs_of ["web", "lot"]) : Has P w K mg base 1 "pairs_of" ["web", "lot"] (spPairs K) := by
  refine has_of D sc_pairs (fun vs H Q E h => ?_) (fun f cdv A outer s H vs Q E hr h => ?_)
  · obtain ⟨wv, lt, n, ts, lot, rfl, _⟩ := h
    rfl
  · obtain ⟨wv, lt, n, ts, lot, rfl, ⟨t, as, eas, hwv, ht, hties⟩, hS, hin, hlen, q⟩ := h
    rcases hS with hS | hS
    · refine ⟨_, pss_one (ps_ret (pe_lc (own := [("index", 2)]) (g := gName 2) (tt := tYes) rfl sc_pairs.nd (pi_list (pv 1)) (blkOk_by (own := [("index", 2)]) (N := ["web", "lot", "index"]) (sc := defScope s_pairs_of) (by decide +kernel))
        (fun _ _ _ _ _ => pg_name (i := 2) sc_pairs.nd rfl (.inl rfl)) (fun _ _ _ _ _ => pts_nil) (fun _ _ _ _ _ => pe_slice (r := rSlT K) sl_tup (pe_ix (r := rIxT K) ix_tup (pe_ix (r := rIxT K) ix_tup (pv 0) pe_int (fun _ _ => rfl)) (pv 2) (fun _ _ => rfl)) po_none (po_some pe_int)))), ?_⟩
      refine ⟨_, rfl, lt, rfl, ⟨_, hS⟩, fun Dd hD => lc_list (K := K) (a := lt) (xs := nVs lot) (fun i H' => ∃ ps : List (Addr × Nat × Nat), ps.map (·.2) = lotE ts (lot.take i) ∧ Same H H' ∧ H' Dd = some (.lst (ps.map fun p => .ref p.1)) ∧ ∀ p ∈ ps, SqT K H' p.1 [nV p.2.1, nV p.2.2])
        ⟨[], rfl, same_new hD, upd_same, fun p hp => nomatch hp⟩ (fun i H' _ ⟨_, _, sm, _⟩ => sm.seq hS) ?_ ?_⟩
      · rintro i y H' hi ⟨ps, eps, sm, hDd, hps⟩
        obtain ⟨ix, hix, rfl⟩ := nVs_get hi
        have hlt := hin _ (List.mem_of_getElem? hix)
        obtain ⟨ad, tie, has, hts⟩ := as_get eas hlt
        refine ⟨rfl, yes ?_⟩
        refine ⟨_, rfl, wv, _, 1, .ref t, rfl, rfl, sm.tup hwv, rfl, _, rfl, t, _, _, .ref ad, rfl, rfl, sm.tup ht, atI_nat (as_at has), ?_⟩
        refine ⟨2, rfl, ad, tieV tie, rfl, sm.tup (hties _ (List.mem_of_getElem? has)), (by show ¬ (HT.sIx 3 0 none = 0 ∧ HT.sIx 3 3 (some 2) = 3); decide), fun q hq => ?_⟩
        obtain ⟨e1, e2, _⟩ := eu_at hts
        have nDq : Dd ≠ q := ne_of_none hDd hq
        have hD0 : H Dd = none := hD
        refine ⟨_, by rw [upd_ne nDq]; exact hDd, ?_, ps ++ [(q, eu ts ix, ev ts ix)], ?_, (sm.upd hq).set hD0, ?_, fun p hp => ?_⟩
        · rw [List.length_map]
          have := congrArg List.length eps
          rw [List.length_map] at this
          rw [this]
          unfold lotE
          rw [List.length_map, List.length_take]
          exact szlt (by omega)
        · rw [List.map_append, eps, take_next hix]
          unfold lotE
          rw [List.map_append]
          rfl
        · rw [upd_same, List.map_append]
          rfl
        · have up : ∀ {b : Addr} {xs : List V}, SqT K (upd H' q (.tup (cutV (tieV tie) none (some 2)))) b xs → SqT K (upd (upd H' q (.tup (cutV (tieV tie) none (some 2)))) Dd (.lst (ps.map (fun p => V.ref p.1) ++ [V.ref q]))) b xs := fun {b xs} h => sqT_upd (by rw [upd_ne nDq]; exact hDd) h
          rcases List.mem_append.mp hp with hp | hp
          · exact up ((same_new hq).tup (hps p hp))
          · rw [List.mem_singleton.mp hp]
            refine up (SqT.of ?_)
            rw [upd_same, e1, e2]
            rfl
      · rintro H' ⟨ps, eps, sm, hDd, hps⟩
        rw [List.length_map, List.take_length] at eps
        exact q H' Dd sm hD ⟨ps, eps, SqL.of hDd, hps⟩
    · refine ⟨_, pss_one (ps_ret (pe_lc (own := [("index", 2)]) (g := gName 2) (tt := tYes) rfl sc_pairs.nd (pi_tup (pv 1)) (blkOk_by (own := [("index", 2)]) (N := ["web", "lot", "index"]) (sc := defScope s_pairs_of) (by decide +kernel))
        (fun _ _ _ _ _ => pg_name (i := 2) sc_pairs.nd rfl (.inl rfl)) (fun _ _ _ _ _ => pts_nil) (fun _ _ _ _ _ => pe_slice (r := rSlT K) sl_tup (pe_ix (r := rIxT K) ix_tup (pe_ix (r := rIxT K) ix_tup (pv 0) pe_int (fun _ _ => rfl)) (pv 2) (fun _ _ => rfl)) po_none (po_some pe_int)))), ?_⟩
      refine ⟨_, rfl, lt, rfl, ⟨_, hS⟩, fun Dd hD => lc_tup (K := K) (a := lt) (xs := nVs lot) (fun i H' => ∃ ps : List (Addr × Nat × Nat), ps.map (·.2) = lotE ts (lot.take i) ∧ Same H H' ∧ H' Dd = some (.lst (ps.map fun p => .ref p.1)) ∧ ∀ p ∈ ps, SqT K H' p.1 [nV p.2.1, nV p.2.2])
        ⟨[], rfl, same_new hD, upd_same, fun p hp => nomatch hp⟩ (fun i H' _ ⟨_, _, sm, _⟩ => sm.tup hS) ?_ ?_⟩
      · rintro i y H' hi ⟨ps, eps, sm, hDd, hps⟩
        obtain ⟨ix, hix, rfl⟩ := nVs_get hi
        have hlt := hin _ (List.mem_of_getElem? hix)
        obtain ⟨ad, tie, has, hts⟩ := as_get eas hlt
        refine ⟨rfl, yes ?_⟩
        refine ⟨_, rfl, wv, _, 1, .ref t, rfl, rfl, sm.tup hwv, rfl, _, rfl, t, _, _, .ref ad, rfl, rfl, sm.tup ht, atI_nat (as_at has), ?_⟩
        refine ⟨2, rfl, ad, tieV tie, rfl, sm.tup (hties _ (List.mem_of_getElem? has)), (by show ¬ (HT.sIx 3 0 none = 0 ∧ HT.sIx 3 3 (some 2) = 3); decide), fun q hq => ?_⟩
        obtain ⟨e1, e2, _⟩ := eu_at hts
        have nDq : Dd ≠ q := ne_of_none hDd hq
        have hD0 : H Dd = none := hD
        refine ⟨_, by rw [upd_ne nDq]; exact hDd, ?_, ps ++ [(q, eu ts ix, ev ts ix)], ?_, (sm.upd hq).set hD0, ?_, fun p hp => ?_⟩
        · rw [List.length_map]
          have := congrArg List.length eps
          rw [List.length_map] at this
          rw [this]
          unfold lotE
          rw [List.length_map, List.length_take]
          exact szlt (by omega)
        · rw [List.map_append, eps, take_next hix]
          unfold lotE
          rw [List.map_append]
          rfl
        · rw [upd_same, List.map_append]
          rfl
        · have up : ∀ {b : Addr} {xs : List V}, SqT K (upd H' q (.tup (cutV (tieV tie) none (some 2)))) b xs → SqT K (upd (upd H' q (.tup (cutV (tieV tie) none (some 2)))) Dd (.lst (ps.map (fun p => V.ref p.1) ++ [V.ref q]))) b xs := fun {b xs} h => sqT_upd (by rw [upd_ne nDq]; exact hDd) h
          rcases List.mem_append.mp hp with hp | hp
          · exact up ((same_new hq).tup (hps p hp))
          · rw [List.mem_singleton.mp hp]
            refine up (SqT.of ?_)
            rw [upd_same, e1, e2]
            rfl
      · rintro H' ⟨ps, eps, sm, hDd, hps⟩
        rw [List.length_map, List.take_length] at eps
        exact q H' Dd sm hD ⟨ps, eps, SqL.of hDd, hps⟩
theorem sc_lpairs : FnScope ["_law_web", "_law_lot", "_law_index"] ["_law_web", "_law_lot"] (defScope s_lpairs) := ⟨rfl, rfl, rfl, by decide +kernel, rfl, by decide +kernel, by decide +kernel⟩
theorem ok__law_pairs {P : Program} {w : World} {K : PySem.W.Frag} {mg : Str → Option Value} {base : Heap} (D : Def K mg "_law_pairs" s_lpairs ["_law_web", "_law_lot"]) : Has P w K mg base 1 "_law_pairs" ["_law_web", "_law_lot"] (spPairs K) := by
  refine has_of D sc_lpairs (fun vs H Q E h => ?_) (fun f cdv A outer s H vs Q E hr h => ?_)
  · obtain ⟨wv, lt, n, ts, lot, rfl, _⟩ := h
    rfl
  · obtain ⟨wv, lt, n, ts, lot, rfl, ⟨t, as, eas, hwv, ht, hties⟩, hS, hin, hlen, q⟩ := h
    rcases hS with hS | hS
    · refine ⟨_, pss_one (ps_ret (pe_lc (own := [("_law_index", 2)]) (g := gName 2) (tt := tYes) rfl sc_lpairs.nd (pi_list (pv 1)) (blkOk_by (own := [("_law_index", 2)]) (N := ["_law_web", "_law_lot", "_law_index"]) (sc := defScope s_lpairs) (by decide +kernel))
        (fun _ _ _ _ _ => pg_name (i := 2) sc_lpairs.nd rfl (.inl rfl)) (fun _ _ _ _ _ => pts_nil) (fun _ _ _ _ _ => pe_slice (r := rSlT K) sl_tup (pe_ix (r := rIxT K) ix_tup (pe_ix (r := rIxT K) ix_tup (pv 0) pe_int (fun _ _ => rfl)) (pv 2) (fun _ _ => rfl)) po_none (po_some pe_int)))), ?_⟩
      refine ⟨_, rfl, lt, rfl, ⟨_, hS⟩, fun Dd hD => lc_list (K := K) (a := lt) (xs := nVs lot) (fun i H' => ∃ ps : List (Addr × Nat × Nat), ps.map (·.2) = lotE ts (lot.take i) ∧ Same H H' ∧ H' Dd = some (.lst (ps.map fun p => .ref p.1)) ∧ ∀ p ∈ ps, SqT K H' p.1 [nV p.2.1, nV p.2.2])
        ⟨[], rfl, same_new hD, upd_same, fun p hp => nomatch hp⟩ (fun i H' _ ⟨_, _, sm, _⟩ => sm.seq hS) ?_ ?_⟩
      · rintro i y H' hi ⟨ps, eps, sm, hDd, hps⟩
        obtain ⟨ix, hix, rfl⟩ := nVs_get hi
        have hlt := hin _ (List.mem_of_getElem? hix)
        obtain ⟨ad, tie, has, hts⟩ := as_get eas hlt
        refine ⟨rfl, yes ?_⟩
        refine ⟨_, rfl, wv, _, 1, .ref t, rfl, rfl, sm.tup hwv, rfl, _, rfl, t, _, _, .ref ad, rfl, rfl, sm.tup ht, atI_nat (as_at has), ?_⟩
        refine ⟨2, rfl, ad, tieV tie, rfl, sm.tup (hties _ (List.mem_of_getElem? has)), (by show ¬ (HT.sIx 3 0 none = 0 ∧ HT.sIx 3 3 (some 2) = 3); decide), fun q hq => ?_⟩
        obtain ⟨e1, e2, _⟩ := eu_at hts
        have nDq : Dd ≠ q := ne_of_none hDd hq
        have hD0 : H Dd = none := hD
        refine ⟨_, by rw [upd_ne nDq]; exact hDd, ?_, ps ++ [(q, eu ts ix, ev ts ix)], ?_, (sm.upd hq).set hD0, ?_, fun p hp => ?_⟩
        · rw [List.length_map]
          have := congrArg List.length eps
          rw [List.length_map] at this
          rw [this]
          unfold lotE
          rw [List.length_map, List.length_take]
          exact szlt (by omega)
        · rw [List.map_append, eps, take_next hix]
          unfold lotE
          rw [List.map_append]
          rfl
        · rw [upd_same, List.map_append]
          rfl
        · have up : ∀ {b : Addr} {xs : List V}, SqT K (upd H' q (.tup (cutV (tieV tie) none (some 2)))) b xs → SqT K (upd (upd H' q (.tup (cutV (tieV tie) none (some 2)))) Dd (.lst (ps.map (fun p => V.ref p.1) ++ [V.ref q]))) b xs := fun {b xs} h => sqT_upd (by rw [upd_ne nDq]; exact hDd) h
          rcases List.mem_append.mp hp with hp | hp
          · exact up ((same_new hq).tup (hps p hp))
          · rw [List.mem_singleton.mp hp]
            refine up (SqT.of ?_)
            rw [upd_same, e1, e2]
            rfl
      · rintro H' ⟨ps, eps, sm, hDd, hps⟩
        rw [List.length_map, List.take_length] at eps
        exact q H' Dd sm hD ⟨ps, eps, SqL.of hDd, hps⟩
    · refine ⟨_, pss_one (ps_ret (pe_lc (own := [("_law_index", 2)]) (g := gName 2) (tt := tYes) rfl sc_lpairs.nd (pi_tup (pv 1)) (blkOk_by (own := [("_law_index", 2)]) (N := ["_law_web", "_law_lot", "_law_index"]) (sc := defScope s_lpairs) (by decide +kernel))
        (fun _ _ _ _ _ => pg_name (i := 2) sc_lpairs.nd rfl (.inl rfl)) (fun _ _ _ _ _ => pts_nil) (fun _ _ _ _ _ => pe_slice (r := rSlT K) sl_tup (pe_ix (r := rIxT K) ix_tup (pe_ix (r := rIxT K) ix_tup (pv 0) pe_int (fun _ _ => rfl)) (pv 2) (fun _ _ => rfl)) po_none (po_some pe_int)))), ?_⟩
      refine ⟨_, rfl, lt, rfl, ⟨_, hS⟩, fun Dd hD => lc_tup (K := K) (a := lt) (xs := nVs lot) (fun i H' => ∃ ps : List (Addr × Nat × Nat), ps.map (·.2) = lotE ts (lot.take i) ∧ Same H H' ∧ H' Dd = some (.lst (ps.map fun p => .ref p.1)) ∧ ∀ p ∈ ps, SqT K H' p.1 [nV p.2.1, nV p.2.2])
        ⟨[], rfl, same_new hD, upd_same, fun p hp => nomatch hp⟩ (fun i H' _ ⟨_, _, sm, _⟩ => sm.tup hS) ?_ ?_⟩
      · rintro i y H' hi ⟨ps, eps, sm, hDd, hps⟩
        obtain ⟨ix, hix, rfl⟩ := nVs_get hi
        have hlt := hin _ (List.mem_of_getElem? hix)
        obtain ⟨ad, tie, has, hts⟩ := as_get eas hlt
        refine ⟨rfl, yes ?_⟩
        refine ⟨_, rfl, wv, _, 1, .ref t, rfl, rfl, sm.tup hwv, rfl, _, rfl, t, _, _, .ref ad, rfl, rfl, sm.tup ht, atI_nat (as_at has), ?_⟩
        refine ⟨2, rfl, ad, tieV tie, rfl, sm.tup (hties _ (List.mem_of_getElem? has)), (by show ¬ (HT.sIx 3 0 none = 0 ∧ HT.sIx 3 3 (some 2) = 3); decide), fun q hq => ?_⟩
        obtain ⟨e1, e2, _⟩ := eu_at hts
        have nDq : Dd ≠ q := ne_of_none hDd hq
        have hD0 : H Dd = none := hD
        refine ⟨_, by rw [upd_ne nDq]; exact hDd, ?_, ps ++ [(q, eu ts ix, ev ts ix)], ?_, (sm.upd hq).set hD0, ?_, fun p hp => ?_⟩
        · rw [List.length_map]
          have := congrArg List.length eps
          rw [List.length_map] at this
          rw [this]
          unfold lotE
          rw [List.length_map, List.length_take]
          exact szlt (by omega)
        · rw [List.map_append, eps, take_next hix]
          unfold lotE
          rw [List.map_append]
          rfl
        · rw [upd_same, List.map_append]
          rfl
        · have up : ∀ {b : Addr} {xs : List V}, SqT K (upd H' q (.tup (cutV (tieV tie) none (some 2)))) b xs → SqT K (upd (upd H' q (.tup (cutV (tieV tie) none (some 2)))) Dd (.lst (ps.map (fun p => V.ref p.1) ++ [V.ref q]))) b xs := fun {b xs} h => sqT_upd (by rw [upd_ne nDq]; exact hDd) h
          rcases List.mem_append.mp hp with hp | hp
          · exact up ((same_new hq).tup (hps p hp))
          · rw [List.mem_singleton.mp hp]
            refine up (SqT.of ?_)
            rw [upd_same, e1, e2]
            rfl
      · rintro H' ⟨ps, eps, sm, hDd, hps⟩
        rw [List.length_map, List.take_length] at eps
        exact q H' Dd sm hD ⟨ps, eps, SqL.of hDd, hps⟩
end KW
namespace KW
open PySem PySem.Spec PyProof.Rows L2
open LamX (ExtN Tabs)
/-! ### parts_of -/
/-- the first i roots -/
def rts (r : Nat → Nat) (i : Nat) : List Nat := (List.range i).filter fun p => decide (r p = p)
theorem rts_succ (r : Nat → Nat) (i : Nat) : rts r (i + 1) = if r i = i then rts r i ++ [i] else rts r i := by
  unfold rts
  rw [List.range_succ, List.filter_append]
  by_cases h : r i = i
  · rw [if_pos h]
    simp [h]
  · rw [if_neg h]
    simp [h]
theorem rts_len (r : Nat → Nat) (n : Nat) : (rts r n).length = KM.cnt n r := by
  unfold rts KM.cnt
  rw [List.countP_eq_length_filter]
theorem mem_rts {r : Nat → Nat} {i p : Nat} : p ∈ rts r i ↔ p < i ∧ r p = p := by
  unfold rts
  simp
abbrev kI (n : Nat) : Key := Sum.inl (n : Int)
theorem kI_inj {a b : Nat} (h : kI a = kI b) : a = b := by
  injection h with h
  omega
theorem mem_kI {l : List Nat} {n : Nat} : kI n ∈ l.map kI ↔ n ∈ l := by
  rw [List.mem_map]
  constructor
  · rintro ⟨m, hm, e⟩
    rw [← kI_inj e]
    exact hm
  · exact fun h => ⟨n, h, rfl⟩
theorem valV_mem {κ : Type} [DecidableEq κ] {kvs : List (κ × V)} {k : κ} {v : V} (h : valV kvs k = some v) : (k, v) ∈ kvs := by
  induction kvs with
  | nil => rw [valV_nil] at h; cases h
  | cons p r ih =>
    by_cases e : p.1 = k
    · rw [valV_pos e] at h
      rw [← Option.some.inj h, ← e]
      exact List.mem_cons_self
    · rw [valV_neg e] at h
      exact List.mem_cons_of_mem _ (ih h)
theorem valV_some {κ : Type} [DecidableEq κ] {kvs : List (κ × V)} {k : κ} (h : k ∈ kvs.map (·.1)) : ∃ v, valV kvs k = some v := by
  cases e : valV kvs k with
  | some v => exact ⟨v, rfl⟩
  | none => exact (valV_not e h).elim
def spParts (K : PySem.W.Frag) : Sp := fun vs H Q _ => ∃ (n : Nat) (pl : Addr) (es : List (Nat × Nat)), vs = [nV n, .ref pl] ∧ PairsAt K H pl es ∧ (∀ e ∈ es, e.1 < n ∧ e.2 < n) ∧ n ≤ 12 ∧
  ∀ H' p xs, Same H H' → H p = none → H' p = some (.lst xs) → xs.length = KM.cnt n (labp es) → Q (.ref p) H'
/-- the dict that is filled: its lists -/
structure Filled (H0 : Hp) (H : Hp) (q1 d : Addr) (i : Nat) (kvs : List (Key × V)) : Prop where
  at' : H d = some (.dK kvs)
  vals : ∀ kv ∈ kvs, ∃ l xs, kv.2 = .ref l ∧ H l = some (.lst xs) ∧ xs.length ≤ i ∧ H0 l = none ∧ l ≠ q1
theorem sc_parts : FnScope ["many", "pairs", "found", "place", "root"] ["many", "pairs"] (defScope s_parts_of) := ⟨rfl, rfl, rfl, by decide +kernel, rfl, by decide +kernel, by decide +kernel⟩
/-- tuple(x), the layer's own reading, the written part named -/
def rTup (K : PySem.W.Frag) : List V → Hp → VK → Prop := fun xs H Q => ∃ p ys, xs = [V.ref p] ∧ ((SqL K H p ys ∧ ∀ l, H l = none → Q (.ref l) (upd H l (.tup ys))) ∨ SqT K H p ys ∧ Q (.ref p) H)
theorem cr_tup {X : Cx} : CallR X (.type "tuple") (rTup X.K) := call_tuple_of
section
variable {P : Program} {w : World} {K : PySem.W.Frag} {mg : Str → Option Value} {base : Heap}
theorem ok_parts (D : Def K mg "parts_of" s_parts_of ["many", "pairs"]) (B : Bl mg) (R : Has P w K mg base 2 "roots_of" ["many", "pairs"] (spRoots K)) : Has P w K mg base 3 "parts_of" ["many", "pairs"] (spParts K) := by
  refine has_of D sc_parts (fun vs H Q E h => ?_) (fun f cdv A outer s H vs Q E hr h => ?_)
  · obtain ⟨n, pl, es, rfl, _⟩ := h
    rfl
  · obtain ⟨n, pl, es, rfl, hP, hes, hn, q⟩ := h
    have hu := hu_of hr
    refine ⟨_, pss_cons (ps_set (i := 2) sc_parts.nd rfl (.inr rfl) pe_dnewK)
      (pss_cons (ps_for PassesOwn.never rfl (pi_enum (by rfl) B.enum (pa_cons (pe_has R hr (pa_cons (pv 0) (pa_cons (pv 1) pa_nil))) pa_nil))
          (pg_tup (by rfl) (pgs_cons (pg_name (i := 3) sc_parts.nd rfl (.inl rfl)) (pgs_cons (pg_name (i := 4) sc_parts.nd rfl (.inl rfl)) pgs_nil)))
        (pss_one (ps_expr (pe_bm PySem.F.plainAttrs_list PySem.F.slot_list_append PySem.F.type_list_append mt_append (pe_dsetd (pv 2) (pv 4) (pe_lst pa_nil) ⟨by rfl, by rfl, by rfl, by rfl⟩) (pa_cons (pv 3) pa_nil)))))
      (pss_one (ps_ret (pe_lc (own := [("root", 4)]) (g := gName 4) (tt := tYes) rfl sc_parts.nd (pi_list (pe_callB (call_sortedDI rfl) (by rfl) B.srt (by decide +kernel) (pa_cons (pv 2) pa_nil))) (blkOk_by (own := [("root", 4)]) (N := ["many", "pairs", "found", "place", "root"]) (sc := defScope s_parts_of) (by decide +kernel))
        (fun _ _ _ _ _ => pg_name (i := 4) sc_parts.nd rfl (.inl rfl)) (fun _ _ _ _ _ => pts_nil) (fun _ _ _ _ _ => pe_callTy (r := rTup K) cr_tup (by rfl) B.tup (by decide +kernel) (pa_cons (pe_dget hu (pv 2) (pv 4) (fun _ _ => rfl)) pa_nil)))))), ?_⟩
    refine fun d hd => ?_
    -- enumerate(roots_of(..))
    refine ⟨_, rfl, _, rfl, n, pl, es, rfl, hP.same (same_new hd), hes, by omega, fun H1 q1 s1 n1 h1 => ?_⟩
    have sH1 : Same H H1 := (same_new hd).trans s1
    have n1H : H q1 = none := (same_new hd).free n1
    have d1 : H1 d = some (.dK []) := s1 _ _ upd_same
    have q1d : q1 ≠ d := fun z => by rw [z, upd_same] at n1; cases n1
    refine ⟨q1, _, rfl, SqL.of h1, ?_⟩
    have hrl : (nVs ((List.range n).map (labp es))).length = n := by rw [List.length_map, List.length_map, List.length_range]
    refine for_it (walk_enum (K := K) (a := q1) (xs := nVs ((List.range n).map (labp es)))) (fun i σ H' => ∃ kvs y3 y4, σ = [some (nV n), some (.ref pl), some (.ref d), y3, y4] ∧ Same H H' ∧ H' q1 = some (.lst (nVs ((List.range n).map (labp es)))) ∧ Filled H H' q1 d i kvs ∧ kvs.map (·.1) = (rts (labp es) i).map kI)
      ⟨[], none, none, rfl, sH1, h1, ⟨d1, fun kv h => nomatch h⟩, rfl⟩ (fun i σ H' _ ⟨_, _, _, _, _, hq, _⟩ => SqL.of hq) ?_ ?_
    · rintro i x σ H2 H3 hi ⟨kvs, y3, y4, rfl, sm, hq, hF, hk⟩ ⟨T, a, b, rfl, nT, rfl, ea, eb⟩
      have hin : i < n := by omega
      obtain rfl : a = nV i := (Option.some.inj ea).symm
      have eb : (nVs ((List.range n).map (labp es)))[i]? = some b := eb
      obtain rfl : b = nV (labp es i) := by
        rw [nVs_at (n := labp es i) (by rw [List.getElem?_map, List.getElem?_range hin]; rfl)] at eb
        exact (Option.some.inj eb).symm
      refine ⟨T, _, rfl, SqT.of upd_same, rfl, _, _, rfl, _, _, rfl, rfl, ?_⟩
      have dT : d ≠ T := ne_of_none hF.at' nT
      have d3 : upd H2 T (.tup [nV i, nV (labp es i)]) d = some (.dK kvs) := by rw [upd_ne dT]; exact hF.at'
      have q3 : upd H2 T (.tup [nV i, nV (labp es i)]) q1 = some (.lst (nVs ((List.range n).map (labp es)))) := by rw [upd_ne (ne_of_none hq nT)]; exact hq
      have s3 : Same H (upd H2 T (.tup [nV i, nV (labp es i)])) := sm.upd nT
      have hlen : kvs.length = (rts (labp es) i).length := by
        have := congrArg List.length hk
        rwa [List.length_map, List.length_map] at this
      have hle : (rts (labp es) i).length ≤ i := by
        unfold rts
        exact Nat.le_trans (List.length_filter_le _ _) (by rw [List.length_range]; exact Nat.le_refl _)
      refine ⟨_, rfl, d, rfl, .inl ⟨kvs, .inl d3⟩, _, rfl, Nat.zero_le _, fun l hl => ?_⟩
      generalize hH3 : upd H2 T (.tup [nV i, nV (labp es i)]) = H3 at *
      have dl : d ≠ l := ne_of_none d3 hl
      have q1l : q1 ≠ l := ne_of_none q3 hl
      have lH : H l = none := s3.free hl
      have s4 : Same H (upd H3 l (.lst [])) := s3.upd hl
      have vals3 : ∀ kv ∈ kvs, ∃ l' xs, kv.2 = V.ref l' ∧ H3 l' = some (.lst xs) ∧ xs.length ≤ i ∧ H l' = none ∧ l' ≠ q1 := fun kv hkv => by
        obtain ⟨l', xs, e1, e2, e3, e4, e5⟩ := hF.vals kv hkv
        refine ⟨l', xs, e1, ?_, e3, e4, e5⟩
        rw [← hH3, upd_ne (ne_of_none e2 nT)]
        exact e2
      refine ⟨kvs, kI (labp es i), by rw [upd_ne dl]; exact d3, rfl, szlt (by omega), fun v hv => ?_, fun hv => ?_⟩
      · -- the list is there
        obtain ⟨l', xs, e1, e2, e3, e4, e5⟩ := vals3 _ (valV_mem hv)
        obtain rfl : v = V.ref l' := e1
        have ll : l' ≠ l := ne_of_none e2 hl
        have e2' : upd H3 l (.lst []) l' = some (.lst xs) := by rw [upd_ne ll]; exact e2
        have nri : labp es i ≠ i := fun z => by
          have := valV_in hv
          rw [hk] at this
          have := (mem_rts.mp (mem_kI.mp this)).1
          omega
        have dl' : d ≠ l' := ne_of d3 e2 (by intro z; cases z)
        refine ⟨.inl ⟨rfl, _, SqL.of e2'⟩, _, rfl, l', xs, _, rfl, rfl, e2', szlt (by omega), ?_⟩
        refine ⟨kvs, _, _, rfl, s4.set e4, by rw [upd_ne e5.symm, upd_ne q1l]; exact q3, ⟨by rw [upd_ne dl', upd_ne dl]; exact d3, fun kv hkv => ?_⟩, by rw [rts_succ, if_neg nri]; exact hk⟩
        obtain ⟨l2, ys, f1, f2, f3, f4, f5⟩ := vals3 kv hkv
        by_cases z : l2 = l'
        · subst z
          exact ⟨l2, _, f1, upd_same, by rw [List.length_append]; show xs.length + 1 ≤ i + 1; omega, f4, f5⟩
        · exact ⟨l2, ys, f1, by rw [upd_ne z, upd_ne (ne_of_none f2 hl)]; exact f2, by omega, f4, f5⟩
      · -- the list is new
        have ri : labp es i = i := Classical.byContradiction fun z => by
          have h1 := labp_le es i
          have h2 : labp es i ∈ rts (labp es) i := mem_rts.mpr ⟨by omega, labp_idem es i⟩
          exact valV_not hv (by rw [hk]; exact mem_kI.mpr h2)
        have l5 : upd (upd H3 l (.lst [])) d (.dK (putK kvs (kI (labp es i)) (.ref l))) l = some (.lst []) := by rw [upd_ne dl.symm, upd_same]
        have d0 : H d = none := hd
        refine ⟨.inl ⟨rfl, _, SqL.of l5⟩, _, rfl, l, [], _, rfl, rfl, l5, szlt (by show 0 ≤ 100000; omega), ?_⟩
        refine ⟨putK kvs (kI (labp es i)) (.ref l), _, _, rfl, ((s4.set d0).set lH), by rw [upd_ne q1l, upd_ne q1d, upd_ne q1l]; exact q3, ⟨by rw [upd_ne dl, upd_same], fun kv hkv => ?_⟩, ?_⟩
        · rw [putK_new _ hv] at hkv
          rcases List.mem_append.mp hkv with hkv | hkv
          · obtain ⟨l2, ys, f1, f2, f3, f4, f5⟩ := vals3 kv hkv
            have z : l2 ≠ l := ne_of_none f2 hl
            have z2 : l2 ≠ d := ne_of f2 d3 (by intro z; cases z)
            exact ⟨l2, ys, f1, by rw [upd_ne z, upd_ne z2, upd_ne z]; exact f2, by omega, f4, f5⟩
          · rw [List.mem_singleton.mp hkv]
            exact ⟨l, _, rfl, upd_same, by show 1 ≤ i + 1; omega, lH, q1l.symm⟩
        · rw [putK_new _ hv, List.map_append, hk, rts_succ, if_pos ri, List.map_append, ri]
          rfl
    · rintro σ H2 ⟨kvs, y3, y4, rfl, sm, hq, hF, hk⟩
      rw [hrl] at hk
      -- sorted(found)
      have hk2 : kvs.map (·.1) = ((rts (labp es) n).map fun m : Nat => (m : Int)).map Sum.inl := by rw [hk, List.map_map]; rfl
      have hlen : (rts (labp es) n).length ≤ n := by
        unfold rts
        exact Nat.le_trans (List.length_filter_le _ _) (by rw [List.length_range]; exact Nat.le_refl _)
      refine ⟨_, rfl, d, kvs, _, rfl, .inl hF.at', hk2, by rw [List.length_map]; omega, fun ys p hp _ np => ?_⟩
      have s3 : Same H (upd H2 p (.lst (ys.map V.int))) := sm.upd np
      refine ⟨p, rfl, ⟨_, SqL.of upd_same⟩, fun Dd hD => ?_⟩
      have dp : d ≠ p := ne_of_none hF.at' np
      have d3 : upd H2 p (.lst (ys.map V.int)) d = some (.dK kvs) := by rw [upd_ne dp]; exact hF.at'
      refine lc_list (K := K) (a := p) (xs := ys.map V.int) (fun i H' => Same (upd H2 p (.lst (ys.map V.int))) H' ∧ ∃ xs : List V, H' Dd = some (.lst xs) ∧ xs.length = i) ⟨same_new hD, [], upd_same, rfl⟩ (fun i H' _ ⟨sm', _⟩ => SqL.of (sm' _ _ upd_same)) ?_ ?_
      · rintro i y H4 hi ⟨sm4, xs, hx, hxl⟩
        obtain ⟨z, hz, rfl⟩ : ∃ z, ys[i]? = some z ∧ y = V.int z := by
          rw [List.getElem?_map] at hi
          cases e : ys[i]? with
          | none => rw [e] at hi; cases hi
          | some z => rw [e] at hi; exact ⟨z, rfl, (Option.some.inj hi).symm⟩
        have hzm := hp.mem_iff.mp (List.mem_of_getElem? hz)
        obtain ⟨m, hm, rfl⟩ := List.mem_map.mp hzm
        obtain ⟨v, hv⟩ := valV_some (kvs := kvs) (k := kI m) (by rw [hk]; exact mem_kI.mpr hm)
        obtain ⟨l, zs, e1, e2, e3, e4, e5⟩ := hF.vals _ (valV_mem hv)
        obtain rfl : v = V.ref l := e1
        have l4 : H4 l = some (.lst zs) := sm4 _ _ (by rw [upd_ne (ne_of_none e2 np)]; exact e2)
        have g4 : DGet H4 d (.int (m : Int)) (some (.ref l)) := by
          have := DGet.k (k := kI m) (sm4 _ _ d3)
          rw [hv] at this
          exact this
        have iy : i < ys.length := (List.getElem?_eq_some_iff.mp hz).1
        have hyl := hp.length_eq
        rw [List.length_map] at hyl
        refine ⟨rfl, yes ?_⟩
        refine ⟨_, rfl, _, rfl, d, _, rfl, g4, l, zs, rfl, .inl ⟨SqL.of l4, fun u hu' => ?_⟩⟩
        have Du : Dd ≠ u := ne_of_none hx hu'
        exact ⟨xs, by rw [upd_ne Du]; exact hx, szlt (by omega), (sm4.upd hu').set hD, _, upd_same, by rw [List.length_append, hxl]; rfl⟩
      · rintro H4 ⟨sm4, xs, hx, hxl⟩
        refine q H4 Dd xs (s3.trans sm4) (s3.free hD) hx ?_
        rw [hxl, List.length_map, hp.length_eq, List.length_map, rts_len]
end
end KW
namespace KW
open PySem PySem.Spec PyProof.Rows L2
open LamX (ExtN Tabs)
/-! ### joins, is_tree_of, all_ties, need_joined -/
/-- one part -/
def one1 (n : Nat) (ts : List Tie) (lot : List Nat) : Prop := KM.cnt n (KM.lab (eu ts) (ev ts) lot) = 1
instance {n : Nat} {ts : List Tie} {lot : List Nat} : Decidable (one1 n ts lot) := inferInstanceAs (Decidable (_ = _))
def isT (n : Nat) (ts : List Tie) (lot : List Nat) : Bool := decide (lot.length + 1 = n) && decide (one1 n ts lot)
theorem isT_iff {n : Nat} {ts : List Tie} (h : 0 < n) (lot : List Nat) : isT n ts lot = true ↔ KM.IsTree n (eu ts) (ev ts) lot := by
  unfold isT
  rw [Bool.and_eq_true, decide_eq_true_eq, decide_eq_true_eq, KM.isTree_iff h]
  exact Iff.rfl
/-- what is asked of a web and a lot -/
structure LotAt (K : PySem.W.Frag) (H : Hp) (wv lt : Addr) (n : Nat) (ts : List Tie) (lot : List Nat) : Prop where
  web : WebAt K H wv n ts
  ok : WebOk n ts
  seq : Sq K H lt (nVs lot)
  inn : ∀ i ∈ lot, i < ts.length
  few : lot.length ≤ 1000
theorem Sq.same {K : PySem.W.Frag} {H H' : Hp} {a : Addr} {xs : List V} (e : Same H H') (h : Sq K H a xs) : Sq K H' a xs := h.elim (fun h => .inl (e.seq h)) (fun h => .inr (e.tup h))
theorem LotAt.same {K : PySem.W.Frag} {H H' : Hp} {wv lt n ts lot} (e : Same H H') (h : LotAt K H wv lt n ts lot) : LotAt K H' wv lt n ts lot := ⟨h.web.same e, h.ok, h.seq.same e, h.inn, h.few⟩
theorem lotE_in {n : Nat} {ts : List Tie} {lot : List Nat} (o : WebOk n ts) (h : ∀ i ∈ lot, i < ts.length) : ∀ e ∈ lotE ts lot, e.1 < n ∧ e.2 < n := fun e he => by
  obtain ⟨i, hi, rfl⟩ := List.mem_map.mp he
  exact o.ends (h i hi)
def spJoins (K : PySem.W.Frag) : Sp := fun vs H Q _ => ∃ (wv lt : Addr) (n : Nat) (ts : List Tie) (lot : List Nat), vs = [.ref wv, .ref lt] ∧ LotAt K H wv lt n ts lot ∧ ∀ H', Same H H' → Q (.bl (decide (one1 n ts lot))) H'
def spIsTree (K : PySem.W.Frag) : Sp := fun vs H Q _ => ∃ (wv lt : Addr) (n : Nat) (ts : List Tie) (lot : List Nat), vs = [.ref wv, .ref lt] ∧ LotAt K H wv lt n ts lot ∧ ∀ H', Same H H' → Q (.bl (isT n ts lot)) H'
def spAll (K : PySem.W.Frag) : Sp := fun vs H Q _ => ∃ (wv : Addr) (n : Nat) (ts : List Tie), vs = [.ref wv] ∧ WebAt K H wv n ts ∧ ts.length ≤ 1000 ∧ ∀ p, H p = none → Q (.ref p) (upd H p (.tup (nVs (List.range ts.length))))
def spNeedJ (K : PySem.W.Frag) : Sp := fun vs H Q _ => ∃ (wv : Addr) (n : Nat) (ts : List Tie), vs = [.ref wv] ∧ WebAt K H wv n ts ∧ WebOk n ts ∧ one1 n ts (List.range ts.length) ∧ ∀ H', Same H H' → Q .non H'
theorem sc_joins : FnScope ["web", "lot"] ["web", "lot"] (defScope s_joins) := ⟨rfl, rfl, rfl, by decide +kernel, rfl, by decide +kernel, by decide +kernel⟩
theorem sc_istree : FnScope ["web", "lot"] ["web", "lot"] (defScope s_is_tree_of) := ⟨rfl, rfl, rfl, by decide +kernel, rfl, by decide +kernel, by decide +kernel⟩
theorem sc_all : FnScope ["web"] ["web"] (defScope s_all_ties) := ⟨rfl, rfl, rfl, by decide +kernel, rfl, by decide +kernel, by decide +kernel⟩
theorem sc_needj : FnScope ["web"] ["web"] (defScope s_need_joined) := ⟨rfl, rfl, rfl, by decide +kernel, rfl, by decide +kernel, by decide +kernel⟩
theorem eq_nat (a b : Nat) : decide (V.int (a : Int) = V.int (b : Int)) = decide (a = b) := by
  by_cases e : a = b
  · rw [e]
    simp
  · rw [decide_eq_false e, decide_eq_false (fun h => e (by injection h with h; omega))]
section
variable {P : Program} {w : World} {K : PySem.W.Frag} {mg : Str → Option Value} {base : Heap}
theorem ok_joins (D : Def K mg "joins" s_joins ["web", "lot"]) (B : Bl mg) (R : Has P w K mg base 3 "parts_of" ["many", "pairs"] (spParts K)) (G : Has P w K mg base 1 "pairs_of" ["web", "lot"] (spPairs K)) : Has P w K mg base 4 "joins" ["web", "lot"] (spJoins K) := by
  refine has_of D sc_joins (fun vs H Q E h => ?_) (fun f cdv A outer s H vs Q E hr h => ?_)
  · obtain ⟨wv, lt, n, ts, lot, rfl, _⟩ := h
    rfl
  · obtain ⟨wv, lt, n, ts, lot, rfl, L, q⟩ := h
    refine ⟨_, pss_one (ps_ret (pe_cmpR op_eq (pe_callB call_len_seq (by rfl) B.len (by decide +kernel) (pa_cons (pe_has R hr (pa_cons (pe_ix ix_tup (pv 0) pe_int (fun _ _ => rfl)) (pa_cons (pe_has G hr (pa_cons (pv 0) (pa_cons (pv 1) pa_nil))) pa_nil))) pa_nil)) pe_int (nomark _))), ?_⟩
    obtain ⟨t, as, eas, hwv, ht, hties⟩ := id L.web
    refine ⟨_, rfl, wv, _, 0, nV n, rfl, rfl, hwv, rfl, ?_⟩
    refine ⟨_, rfl, _, rfl, wv, lt, n, ts, lot, rfl, L.web, L.seq, L.inn, L.few, fun H1 p1 s1 n1 hp => ?_⟩
    refine ⟨n, p1, _, rfl, hp, lotE_in L.ok L.inn, L.ok.n12, fun H2 p2 xs s2 n2 h2 hx => ?_⟩
    refine ⟨p2, xs, rfl, .inl (SqL.of h2), rfl, ?_⟩
    rw [labp_lot] at hx
    have e : decide (V.int (xs.length : Int) = V.int 1) = decide (one1 n ts lot) := (eq_nat xs.length 1).trans (decide_eq_decide.mpr (by
      unfold one1
      rw [← hx]))
    rw [e]
    exact q _ (s1.trans s2)
theorem ok_istree (D : Def K mg "is_tree_of" s_is_tree_of ["web", "lot"]) (B : Bl mg) (J : Has P w K mg base 4 "joins" ["web", "lot"] (spJoins K)) : Has P w K mg base 5 "is_tree_of" ["web", "lot"] (spIsTree K) := by
  refine has_of D sc_istree (fun vs H Q E h => ?_) (fun f cdv A outer s H vs Q E hr h => ?_)
  · obtain ⟨wv, lt, n, ts, lot, rfl, _⟩ := h
    rfl
  · obtain ⟨wv, lt, n, ts, lot, rfl, L, q⟩ := h
    refine ⟨_, pss_one (ps_ret (pe_and (pe_cmpR op_eq (pe_callB call_len_seq (by rfl) B.len (by decide +kernel) (pa_cons (pv 1) pa_nil)) (pe_op op_sub (pe_ix ix_tup (pv 0) pe_int (fun _ _ => rfl)) pe_int) (nomark _)) (pe_one (pe_has J hr (pa_cons (pv 0) (pa_cons (pv 1) pa_nil)))))), ?_⟩
    obtain ⟨t, as, eas, hwv, ht, hties⟩ := id L.web
    refine ⟨_, rfl, lt, _, rfl, L.seq, _, rfl, wv, _, 0, nV n, rfl, rfl, hwv, rfl, (n : Int), 1, rfl, rfl, rfl, _, rfl, ?_⟩
    rw [List.length_map]
    have n1 := L.ok.n1
    by_cases e : lot.length + 1 = n
    · rw [decide_eq_true (show V.int (lot.length : Int) = V.int ((n : Int) - 1) by congr 1; omega)]
      refine iteT ?_
      refine ⟨_, rfl, _, rfl, wv, lt, n, ts, lot, rfl, L, fun H' s1 => ?_⟩
      have := q H' s1
      unfold isT at this
      rw [decide_eq_true e, Bool.true_and] at this
      exact this
    · rw [decide_eq_false (show ¬ V.int (lot.length : Int) = V.int ((n : Int) - 1) from fun z => e (by injection z with z; omega))]
      refine iteF ?_
      have := q H (Same.refl H)
      unfold isT at this
      rw [decide_eq_false e, Bool.false_and] at this
      exact this
theorem ok_all (D : Def K mg "all_ties" s_all_ties ["web"]) (B : Bl mg) : Has P w K mg base 1 "all_ties" ["web"] (spAll K) := by
  refine has_of D sc_all (fun vs H Q E h => ?_) (fun f cdv A outer s H vs Q E hr h => ?_)
  · obtain ⟨wv, n, ts, rfl, _⟩ := h
    rfl
  · obtain ⟨wv, n, ts, rfl, W, hm, q⟩ := h
    refine ⟨_, pss_one (ps_ret (pe_tupRg rfl (by rfl) B.tup (prg_1 (by rfl) B.rng (pe_callB call_len_seq (by rfl) B.len (by decide +kernel) (pa_cons (pe_ix ix_tup (pv 0) pe_int (fun _ _ => rfl)) pa_nil))))), ?_⟩
    obtain ⟨t, as, eas, hwv, ht, hties⟩ := W
    refine ⟨_, rfl, wv, _, 1, .ref t, rfl, rfl, hwv, rfl, t, _, rfl, .inr ht, _, rfl, ?_⟩
    have e : (as.map fun p => V.ref p.1).length = ts.length := by rw [← eas, List.length_map, List.length_map]
    rw [e]
    refine ⟨RgOk.nat hm, fun p hp => ?_⟩
    rw [rgV_nat]
    exact q p hp
theorem ok_needj (D : Def K mg "need_joined" s_need_joined ["web"]) (J : Has P w K mg base 4 "joins" ["web", "lot"] (spJoins K)) (L : Has P w K mg base 1 "all_ties" ["web"] (spAll K)) : Has P w K mg base 5 "need_joined" ["web"] (spNeedJ K) := by
  refine has_of D sc_needj (fun vs H Q E h => ?_) (fun f cdv A outer s H vs Q E hr h => ?_)
  · obtain ⟨wv, n, ts, rfl, _⟩ := h
    rfl
  · obtain ⟨wv, n, ts, rfl, W, o, h1, q⟩ := h
    refine ⟨_, pss_one (ps_if (pt_not (pt_val (pe_has J hr (pa_cons (pv 0) (pa_cons (pe_has L hr (pa_cons (pv 0) pa_nil)) pa_nil))))) pss_never pss_nil), ?_⟩
    have hl := o.len
    refine ⟨_, rfl, _, rfl, wv, n, ts, rfl, W, by omega, fun p hp => ?_⟩
    refine ⟨wv, p, n, ts, _, rfl, ⟨W.same (same_new hp), o, .inr (SqT.of upd_same), fun i hi => List.mem_range.mp hi, by rw [List.length_range]; omega⟩, fun H' s1 => ⟨_, rfl, ?_⟩⟩
    rw [decide_eq_true h1]
    refine iteF ?_
    exact q H' ((same_new hp).trans s1)
end
end KW
namespace KW
open PySem PySem.Spec PyProof.Rows L2
open LamX (ExtN Tabs)
/-! ### is_int, is_from, is_tie, need_web -/
theorem ty_tup {K : PySem.W.Frag} {H : Hp} {a : Addr} {xs : List V} (h : SqT K H a xs) : TyX K H (.ref a) (.type "tuple") := by
  rcases h with (h | ⟨o, h⟩) | ⟨o, its, n, h1, h2, _⟩
  · exact .base (.tup h)
  · exact .fTuple h
  · exact .kTuple h1 h2
def spIsInt : Sp := fun vs H Q _ => ∃ i : Int, vs = [.int i] ∧ Q (.bl true) H
def spIsFrom : Sp := fun vs H Q _ => ∃ i l m : Int, vs = [.int i, .int l, .int m] ∧ Q (.bl (decide (l ≤ i) && decide (i ≤ m))) H
def spIsTie (K : PySem.W.Frag) : Sp := fun vs H Q _ => ∃ (a : Addr) (t : Tie) (n : Nat), vs = [.ref a, nV n] ∧ SqT K H a (tieV t) ∧ t.1 < t.2.1 ∧ t.2.1 < n ∧ t.2.2 ≤ 999 ∧ ∀ H', Same H H' → Q (.bl true) H'
def spNeedWeb (K : PySem.W.Frag) : Sp := fun vs H Q _ => ∃ (wv : Addr) (n : Nat) (ts : List Tie), vs = [.ref wv] ∧ WebAt K H wv n ts ∧ WebOk n ts ∧ ∀ H', Same H H' → Q .non H'
theorem sc_isint : FnScope ["value"] ["value"] (defScope s_is_int) := ⟨rfl, rfl, rfl, by decide +kernel, rfl, by decide +kernel, by decide +kernel⟩
theorem sc_isfrom : FnScope ["value", "least", "most"] ["value", "least", "most"] (defScope s_is_from) := ⟨rfl, rfl, rfl, by decide +kernel, rfl, by decide +kernel, by decide +kernel⟩
theorem sc_istie : FnScope ["value", "many", "one"] ["value", "many"] (defScope s_is_tie) := ⟨rfl, rfl, rfl, by decide +kernel, rfl, by decide +kernel, by decide +kernel⟩
theorem sc_needweb : FnScope ["value", "many", "ties", "index", "tie"] ["value"] (defScope s_need_web) := ⟨rfl, rfl, rfl, by decide +kernel, rfl, by decide +kernel, by decide +kernel⟩
section
variable {P : Program} {w : World} {K : PySem.W.Frag} {mg : Str → Option Value} {base : Heap}
theorem ok_isint (D : Def K mg "is_int" s_is_int ["value"]) (B : Bl mg) : Has P w K mg base 1 "is_int" ["value"] spIsInt := by
  refine has_of D sc_isint (fun vs H Q E h => ?_) (fun f cdv A outer s H vs Q E hr h => ?_)
  · obtain ⟨i, rfl, _⟩ := h
    rfl
  · obtain ⟨i, rfl, q⟩ := h
    refine ⟨_, pss_one (ps_ret (pe_and (pe_callB call_isi (by rfl) B.isi (by decide +kernel) (pa_cons (pv 0) (pa_cons (pe_bltn (v := .ty "int") (u := .type "int") (by rfl) B.int (by decide +kernel) rfl) pa_nil)))
      (pe_one (pe_not (pe_callB call_isi (by rfl) B.isi (by decide +kernel) (pa_cons (pv 0) (pa_cons (pe_bltn (v := .ty "bool") (u := .type "bool") (by rfl) B.bool (by decide +kernel) rfl) pa_nil))))))), ?_⟩
    refine ⟨_, rfl, _, _, _, _, true, rfl, ClsV.ty _, .base (.int _), kit_ty (by decide +kernel), _, rfl, iteT ?_⟩
    exact ⟨_, rfl, _, _, _, _, false, rfl, ClsV.ty _, .base (.int _), kit_ty (by decide +kernel), _, rfl, q⟩
theorem ok_isfrom (D : Def K mg "is_from" s_is_from ["value", "least", "most"]) (I : Has P w K mg base 1 "is_int" ["value"] spIsInt) : Has P w K mg base 2 "is_from" ["value", "least", "most"] spIsFrom := by
  refine has_of D sc_isfrom (fun vs H Q E h => ?_) (fun f cdv A outer s H vs Q E hr h => ?_)
  · obtain ⟨i, l, m, rfl, _⟩ := h
    rfl
  · obtain ⟨i, l, m, rfl, q⟩ := h
    refine ⟨_, pss_one (ps_ret (pe_and (pe_has I hr (pa_cons (pv 0) pa_nil)) (pe_one (pe_chain op_le op_le (pv 1) (pv 0) (pv 2))))), ?_⟩
    refine ⟨_, rfl, i, rfl, _, rfl, iteT ?_⟩
    refine ⟨_, rfl, _, rfl, _, _, rfl, rfl, _, rfl, ?_⟩
    by_cases h1 : l ≤ i
    · rw [decide_eq_true h1] at q ⊢
      rw [Bool.true_and] at q
      exact iteT ⟨_, rfl, _, _, rfl, rfl, q⟩
    · rw [decide_eq_false h1] at q ⊢
      rw [Bool.false_and] at q
      exact iteF q
theorem ok_istie (D : Def K mg "is_tie" s_is_tie ["value", "many"]) (B : Bl mg) (C : Cs mg) (I : Has P w K mg base 1 "is_int" ["value"] spIsInt) : Has P w K mg base 2 "is_tie" ["value", "many"] (spIsTie K) := by
  refine has_of D sc_istie (fun vs H Q E h => ?_) (fun f cdv A outer s H vs Q E hr h => ?_)
  · obtain ⟨a, t, n, rfl, _⟩ := h
    rfl
  · obtain ⟨a, t, n, rfl, hT, t1, t2, t3, q⟩ := h
    obtain ⟨tk, hC⟩ := C.price
    refine ⟨_, pss_cons (ps_if (PW.pt (pw_or (pt_not (pt_val (pe_callB call_isi (by rfl) B.isi (by decide +kernel) (pa_cons (pv 0) (pa_cons (pe_bltn (v := .ty "tuple") (u := .type "tuple") (by rfl) B.tup (by decide +kernel) rfl) pa_nil)))))
        (pw_or (pt_cmpR op_ne (pe_callB call_len_seq (by rfl) B.len (by decide +kernel) (pa_cons (pv 0) pa_nil)) pe_int (nomark _))
          (pw_or1 (pt_not (pt_val (pe_callB (cr_all rfl) (by rfl) B.all (by decide +kernel) (pa_cons (pe_lc (own := [("one", 2)]) (g := gName 2) (tt := tYes) rfl sc_istie.nd (pi_tup (pv 0)) (blkOk_by (own := [("one", 2)]) (N := ["value", "many", "one"]) (sc := defScope s_is_tie) (by decide +kernel))
            (fun _ _ _ _ _ => pg_name (i := 2) sc_istie.nd rfl (.inl rfl)) (fun _ _ _ _ _ => pts_nil) (fun _ _ _ _ _ => pe_has I hr (pa_cons (pv 2) pa_nil))) pa_nil))))))))
        pss_never pss_nil)
      (pss_one (ps_ret (pe_and (pe_chain3 op_le op_lt op_lt pe_int (pe_ix ix_tup (pv 0) pe_int (fun _ _ => rfl)) (pe_ix ix_tup (pv 0) pe_int (fun _ _ => rfl)) (pv 1))
        (pe_one (pe_chain op_le op_le pe_int (pe_ix ix_tup (pv 0) pe_int (fun _ _ => rfl)) (pe_glob (v := .int 999) (by rfl) hC ⟨_, rfl⟩)))))), ?_⟩
    refine ⟨_, rfl, _, _, _, _, true, rfl, ClsV.ty _, ty_tup hT, kit_ty (by decide +kernel), _, rfl, iteF ?_⟩
    refine ⟨_, rfl, a, _, rfl, .inr hT, rfl, _, rfl, ?_⟩
    rw [show (!decide (V.int ((tieV t).length : Int) = V.int 3)) = false by rfl]
    refine iteF ?_
    refine ⟨_, rfl, a, rfl, ⟨_, hT⟩, fun Dd hD => lc_tup (K := K) (a := a) (xs := tieV t) (fun i H' => Same H H' ∧ H' Dd = some (.lst ((List.replicate i true).map V.bl))) ⟨same_new hD, upd_same⟩ (fun i H' _ ⟨sm, _⟩ => sm.tup hT) ?_ ?_⟩
    · rintro i y H' hi ⟨sm, hx⟩
      obtain ⟨z, rfl⟩ : ∃ z : Nat, y = nV z := by
        rcases i with _ | _ | _ | i
        · exact ⟨_, (Option.some.inj hi).symm⟩
        · exact ⟨_, (Option.some.inj hi).symm⟩
        · exact ⟨_, (Option.some.inj hi).symm⟩
        · simp at hi
      have hi3 : i < 3 := by
        have := (List.getElem?_eq_some_iff.mp hi).1
        exact this
      refine ⟨rfl, yes ?_⟩
      refine ⟨_, rfl, _, rfl, _, hx, ?_, sm.set hD, ?_⟩
      · rw [List.length_map, List.length_replicate]
        exact szlt (by omega)
      · rw [upd_same, List.replicate_succ', List.map_append]
        rfl
    · rintro H' ⟨sm, hx⟩
      refine ⟨Dd, List.replicate 3 true, rfl, SqL.of hx, _, rfl, ?_⟩
      refine iteF ?_
      have hT' := sm.tup hT
      refine ⟨_, rfl, a, _, 0, nV t.1, rfl, rfl, hT', rfl, 0, _, rfl, rfl, _, rfl, ?_⟩
      rw [decide_eq_true (show (0 : Int) ≤ (t.1 : Int) by omega)]
      refine iteT ?_
      refine ⟨_, rfl, a, _, 1, nV t.2.1, rfl, rfl, hT', rfl, _, _, rfl, rfl, _, rfl, ?_⟩
      rw [decide_eq_true (show (t.1 : Int) < (t.2.1 : Int) by omega)]
      refine iteT ?_
      refine ⟨_, rfl, _, _, rfl, rfl, _, rfl, ?_⟩
      rw [decide_eq_true (show (t.2.1 : Int) < (n : Int) by omega)]
      refine iteT ?_
      refine ⟨_, rfl, a, _, 2, nV t.2.2, rfl, rfl, hT', rfl, 0, _, rfl, rfl, _, rfl, ?_⟩
      rw [decide_eq_true (show (0 : Int) ≤ (t.2.2 : Int) by omega)]
      refine iteT ⟨_, 999, rfl, rfl, ?_⟩
      show Q (.bl (decide ((t.2.2 : Int) ≤ 999))) H'
      rw [decide_eq_true (show (t.2.2 : Int) ≤ 999 by omega)]
      exact q H' sm
theorem lex_no {a b c d : Nat} (h : a < c ∨ (a = c ∧ b < d)) : Ob.lexAt (fun j => decide ((([(c : Int), (d : Int)] : List Int)).getD j 0 = (([(a : Int), (b : Int)] : List Int)).getD j 0)) (fun j => decide ((([(c : Int), (d : Int)] : List Int)).getD j 0 ≤ (([(a : Int), (b : Int)] : List Int)).getD j 0)) true 0 2 = false := by
  rw [Ob.lexAt_succ]
  show (if decide ((c : Int) = (a : Int)) = true then _ else decide ((c : Int) ≤ (a : Int))) = false
  by_cases e : c = a
  · rw [if_pos (decide_eq_true (by omega)), Ob.lexAt_succ]
    show (if decide ((d : Int) = (b : Int)) = true then _ else decide ((d : Int) ≤ (b : Int))) = false
    rw [if_neg (by rw [decide_eq_true_eq]; omega)]
    exact decide_eq_false (by omega)
  · rw [if_neg (by rw [decide_eq_true_eq]; omega)]
    exact decide_eq_false (by omega)
theorem ok_needweb (D : Def K mg "need_web" s_need_web ["value"]) (B : Bl mg) (C : Cs mg) (G : Has P w K mg base 2 "is_from" ["value", "least", "most"] spIsFrom) (T : Has P w K mg base 2 "is_tie" ["value", "many"] (spIsTie K)) : Has P w K mg base 3 "need_web" ["value"] (spNeedWeb K) := by
  refine has_of D sc_needweb (fun vs H Q E h => ?_) (fun f cdv A outer s H vs Q E hr h => ?_)
  · obtain ⟨wv, n, ts, rfl, _⟩ := h
    rfl
  · obtain ⟨wv, n, ts, rfl, ⟨t, as, eas, hwv, ht, hties⟩, o, q⟩ := h
    obtain ⟨tk1, hC1⟩ := C.places
    obtain ⟨tk2, hC2⟩ := C.ties
    have hu0 := hr.units0
    refine ⟨_, pss_cons (ps_if (PW.pt (pw_or (pt_not (pt_val (pe_callB call_isi (by rfl) B.isi (by decide +kernel) (pa_cons (pv 0) (pa_cons (pe_bltn (v := .ty "tuple") (u := .type "tuple") (by rfl) B.tup (by decide +kernel) rfl) pa_nil)))))
        (pw_or (pt_cmpR op_ne (pe_callB call_len_seq (by rfl) B.len (by decide +kernel) (pa_cons (pv 0) pa_nil)) pe_int (nomark _))
          (pw_or1 (pt_not (pt_val (pe_has G hr (pa_cons (pe_ix ix_tup (pv 0) pe_int (fun _ _ => rfl)) (pa_cons pe_int (pa_cons (pe_glob (v := .int 12) (by rfl) hC1 ⟨_, rfl⟩) pa_nil)))))))))) pss_never pss_nil)
      (pss_cons (ps_asg (pv 0) (pg_tup (by rfl) (pgs_cons (pg_name (i := 1) sc_needweb.nd rfl (.inl rfl)) (pgs_cons (pg_name (i := 2) sc_needweb.nd rfl (.inl rfl)) pgs_nil))))
      (pss_cons (ps_if (PW.pt (pw_or (pt_not (pt_val (pe_callB call_isi (by rfl) B.isi (by decide +kernel) (pa_cons (pv 2) (pa_cons (pe_bltn (v := .ty "tuple") (u := .type "tuple") (by rfl) B.tup (by decide +kernel) rfl) pa_nil)))))
        (pw_or1 (pt_cmpR op_gt (pe_callB call_len_seq (by rfl) B.len (by decide +kernel) (pa_cons (pv 2) pa_nil)) (pe_glob (v := .int 30) (by rfl) hC2 ⟨_, rfl⟩) (nomark _))))) pss_never pss_nil)
      (pss_one (ps_for PassesOwn.never rfl (pi_enumT (by rfl) B.enum (pa_cons (pv 2) pa_nil)) (pg_tup (by rfl) (pgs_cons (pg_name (i := 3) sc_needweb.nd rfl (.inl rfl)) (pgs_cons (pg_name (i := 4) sc_needweb.nd rfl (.inl rfl)) pgs_nil)))
        (pss_one (ps_if (PW.pt (pw_or (pt_not (pt_val (pe_has T hr (pa_cons (pv 4) (pa_cons (pv 1) pa_nil)))))
          (pw_or1 (PW.pt (pw_and (pt_cmpR op_gt (pv 3) pe_int (nomark _)) (pw_and1 (pt_cmpR (op_leT hu0) (pe_slice sl_tup (pv 4) po_none (po_some pe_int)) (pe_slice sl_tup (pe_ix ix_tup (pv 2) (pe_op op_sub (pv 3) pe_int) (fun _ _ => rfl)) po_none (po_some pe_int)) (nomark _)))))))) pss_never pss_nil)))))), ?_⟩
    refine ⟨_, rfl, _, _, _, _, true, rfl, ClsV.ty _, ty_tup hwv, kit_ty (by decide +kernel), _, rfl, iteF ?_⟩
    refine ⟨_, rfl, wv, _, rfl, .inr hwv, rfl, _, rfl, ?_⟩
    refine iteF ?_
    refine ⟨_, rfl, wv, _, 0, nV n, rfl, rfl, hwv, rfl, n, 1, 12, rfl, _, rfl, ?_⟩
    have n1 := o.n1
    have n12 := o.n12
    rw [decide_eq_true (show (1 : Int) ≤ (n : Int) by omega), decide_eq_true (show (n : Int) ≤ 12 by omega)]
    refine iteF ?_
    -- many, ties = value
    refine ⟨_, rfl, wv, _, rfl, hwv, rfl, _, _, rfl, _, _, rfl, rfl, ?_⟩
    refine ⟨_, rfl, _, _, _, _, true, rfl, ClsV.ty _, ty_tup ht, kit_ty (by decide +kernel), _, rfl, iteF ?_⟩
    have elen : (as.map fun p => V.ref p.1).length = ts.length := by rw [← eas, List.length_map, List.length_map]
    refine ⟨_, rfl, t, _, rfl, .inr ht, _, 30, rfl, rfl, _, rfl, ?_⟩
    have hl := o.len
    rw [elen, decide_eq_false (show ¬ (30 : Int) < (ts.length : Int) by omega)]
    refine iteF ?_
    -- the loop
    refine ⟨_, rfl, t, _, rfl, ht, for_enumT (K := K) (a := t) (xs := as.map fun p => V.ref p.1) (fun i σ H' => ∃ y3 y4, σ = [some (.ref wv), some (nV n), some (.ref t), y3, y4] ∧ Same H H') ⟨_, _, rfl, Same.refl H⟩ (fun i σ H' ⟨_, _, _, sm⟩ => sm.tup ht) ?_ ?_⟩
    · rintro i x σ H1 p hi ⟨y3, y4, rfl, sm⟩ hp
      have hil : i < ts.length := by
        have := (List.getElem?_eq_some_iff.mp hi).1
        omega
      obtain ⟨ad, tie, has, hts⟩ := as_get eas hil
      rw [as_at has] at hi
      obtain rfl : x = V.ref ad := (Option.some.inj hi).symm
      refine ⟨p, _, rfl, SqT.of upd_same, rfl, _, _, rfl, _, _, rfl, rfl, ?_⟩
      obtain ⟨a1, a2, a3⟩ := o.tie _ (List.mem_of_getElem? hts)
      have sm2 := sm.upd (o := .tup [.int (i : Nat), .ref ad]) hp
      have hT := hties _ (List.mem_of_getElem? has)
      refine ⟨_, rfl, _, rfl, ad, tie, n, rfl, sm2.tup hT, a1, a2, a3, fun H2 s2 => ⟨_, rfl, iteF ?_⟩⟩
      refine ⟨_, rfl, _, 0, rfl, rfl, _, rfl, ?_⟩
      have sm3 := sm2.trans s2
      by_cases hi0 : 0 < i
      · rw [decide_eq_true (show (0 : Int) < (i : Int) by omega)]
        refine iteT ?_
        obtain ⟨ad2, tie2, has2, hts2⟩ := as_get eas (i := i - 1) (by omega)
        have hT2 := hties _ (List.mem_of_getElem? has2)
        refine ⟨_, rfl, 2, rfl, ad, tieV tie, rfl, sm3.tup hT, (by show ¬ (HT.sIx 3 0 none = 0 ∧ HT.sIx 3 3 (some 2) = 3); decide), fun p1 hp1 => ?_⟩
        have sm4 := sm3.upd (o := .tup (cutV (tieV tie) none (some 2))) hp1
        refine ⟨_, rfl, _, rfl, _, 1, rfl, rfl, t, _, _, .ref ad2, rfl, rfl, sm4.tup ht, ?_, 2, rfl, ad2, tieV tie2, rfl, sm4.tup hT2, (by show ¬ (HT.sIx 3 0 none = 0 ∧ HT.sIx 3 3 (some 2) = 3); decide), fun p2 hp2 => ?_⟩
        · exact at_of (j := i - 1) (by omega) (as_at has2)
        · have ne : p1 ≠ p2 := ne_of_none (by rw [upd_same]) hp2
          refine ⟨p1, p2, [(tie.1 : Int), (tie.2.1 : Int)], [(tie2.1 : Int), (tie2.2.1 : Int)], rfl, rfl, SqT.of (by rw [upd_ne ne, upd_same]; rfl), SqT.of (by rw [upd_same]; rfl), _, rfl, ?_⟩
          have hrise := List.pairwise_iff_getElem.mp o.rise (i - 1) i (by omega) hil (by omega)
          obtain ⟨_, g1⟩ := List.getElem?_eq_some_iff.mp hts
          obtain ⟨_, g2⟩ := List.getElem?_eq_some_iff.mp hts2
          rw [g2, g1] at hrise
          have z := lex_no hrise
          rw [show Ob.lexAt (fun j => decide ((([(tie.1 : Int), (tie.2.1 : Int)] : List Int)).getD j 0 = (([(tie2.1 : Int), (tie2.2.1 : Int)] : List Int)).getD j 0)) (fun j => decide ((([(tie.1 : Int), (tie.2.1 : Int)] : List Int)).getD j 0 ≤ (([(tie2.1 : Int), (tie2.2.1 : Int)] : List Int)).getD j 0)) (decide ((([(tie.1 : Int), (tie.2.1 : Int)] : List Int)).length ≤ (([(tie2.1 : Int), (tie2.2.1 : Int)] : List Int)).length)) 0 (min (([(tie.1 : Int), (tie.2.1 : Int)] : List Int)).length (([(tie2.1 : Int), (tie2.2.1 : Int)] : List Int)).length) = false from z]
          refine iteF ?_
          exact ⟨_, _, rfl, sm4.upd hp2⟩
      · rw [decide_eq_false (show ¬ (0 : Int) < (i : Int) by omega)]
        refine iteF (iteF ?_)
        exact ⟨_, _, rfl, sm3⟩
    · rintro σ H1 ⟨y3, y4, rfl, sm⟩
      exact q H1 sm
end
end KW
namespace KW
open PySem PySem.Spec PyProof.Rows L2
open LamX (ExtN Tabs)
/-! ### is_rising, need_lot, need_tree, swapped -/
def spRising (K : PySem.W.Frag) : Sp := fun vs H Q _ => ∃ (a : Addr) (m : Nat) (lot : List Nat), vs = [.ref a, nV m] ∧ SqT K H a (nVs lot) ∧ KM.Asc lot ∧ (∀ i ∈ lot, i < m) ∧ lot.length ≤ 1000 ∧ ∀ H', Same H H' → Q (.bl true) H'
/-- what is asked of a web and a lot that is a tuple -/
structure LotT (K : PySem.W.Frag) (H : Hp) (wv lt : Addr) (n : Nat) (ts : List Tie) (lot : List Nat) : Prop where
  web : WebAt K H wv n ts
  ok : WebOk n ts
  seq : SqT K H lt (nVs lot)
  inn : ∀ i ∈ lot, i < ts.length
  asc : KM.Asc lot
theorem asc_few : ∀ {lot : List Nat} {m : Nat}, KM.Asc lot → (∀ i ∈ lot, i < m) → lot.length ≤ m := by
  intro lot
  induction lot using KM.snoc_ind with
  | h0 => intro m _ _; exact Nat.zero_le _
  | hs l x ih =>
    intro m ha hm
    have h := List.pairwise_append.mp ha
    have hx := hm x (List.mem_append_right _ List.mem_cons_self)
    have := ih (m := x) h.1 fun i hi => h.2.2 i hi x List.mem_cons_self
    rw [List.length_append]
    show l.length + 1 ≤ m
    omega
theorem LotT.few {K : PySem.W.Frag} {H : Hp} {wv lt n ts lot} (h : LotT K H wv lt n ts lot) : lot.length ≤ 20 := Nat.le_trans (asc_few h.asc h.inn) h.ok.len
theorem LotT.at' {K : PySem.W.Frag} {H : Hp} {wv lt n ts lot} (h : LotT K H wv lt n ts lot) : LotAt K H wv lt n ts lot := ⟨h.web, h.ok, .inr h.seq, h.inn, by have := h.few; omega⟩
theorem LotT.ext {K : PySem.W.Frag} {H H' : Hp} {wv lt n ts lot} (e : ExtN H H') (h : LotT K H wv lt n ts lot) : LotT K H' wv lt n ts lot := ⟨h.web.ext e, h.ok, extN_tup e h.seq, h.inn, h.asc⟩
theorem LotT.same {K : PySem.W.Frag} {H H' : Hp} {wv lt n ts lot} (e : Same H H') (h : LotT K H wv lt n ts lot) : LotT K H' wv lt n ts lot := h.ext e.extN
def spNeedLot (K : PySem.W.Frag) : Sp := fun vs H Q _ => ∃ (wv lt : Addr) (n : Nat) (ts : List Tie) (lot : List Nat), vs = [.ref wv, .ref lt] ∧ LotT K H wv lt n ts lot ∧ ∀ H', Same H H' → Q .non H'
def spNeedTree (K : PySem.W.Frag) : Sp := fun vs H Q _ => ∃ (wv lt : Addr) (n : Nat) (ts : List Tie) (lot : List Nat), vs = [.ref wv, .ref lt] ∧ LotT K H wv lt n ts lot ∧ isT n ts lot = true ∧ ∀ H', Same H H' → Q .non H'
def spSwapped (K : PySem.W.Frag) : Sp := fun vs H Q _ => ∃ (lt : Addr) (lot : List Nat) (o m : Nat), vs = [.ref lt, nV o, nV m] ∧ SqT K H lt (nVs lot) ∧ KM.Asc lot ∧ lot.length ≤ 1000 ∧ ∀ H' p, Same H H' → H p = none → H' p = some (.tup (nVs (KM.swp lot o m))) → Q (.ref p) H'
theorem sc_rising : FnScope ["value", "most", "one", "at"] ["value", "most"] (defScope s_is_rising) := ⟨rfl, rfl, rfl, by decide +kernel, rfl, by decide +kernel, by decide +kernel⟩
theorem sc_needlot : FnScope ["web", "value"] ["web", "value"] (defScope s_need_lot) := ⟨rfl, rfl, rfl, by decide +kernel, rfl, by decide +kernel, by decide +kernel⟩
theorem sc_needtree : FnScope ["web", "lot"] ["web", "lot"] (defScope s_need_tree) := ⟨rfl, rfl, rfl, by decide +kernel, rfl, by decide +kernel, by decide +kernel⟩
theorem sc_swapped : FnScope ["lot", "out", "more", "index"] ["lot", "out", "more"] (defScope s_swapped) := ⟨rfl, rfl, rfl, by decide +kernel, rfl, by decide +kernel, by decide +kernel⟩
theorem bls_snoc (n : Nat) (b : Bool) : (List.replicate (n + 1) b).map V.bl = (List.replicate n b).map V.bl ++ [V.bl b] := by
  rw [List.replicate_succ', List.map_append]
  rfl
theorem all_true (n : Nat) : (List.replicate n true).all id = true := by simp
theorem any_false (n : Nat) : (List.replicate n false).any id = false := by simp
theorem nVs_perm_swp {lot : List Nat} {o m : Nat} {ys : List Int} (ha : KM.Asc lot) (hp : ys.Perm (((lot.filter fun i => decide (i ≠ o)) ++ [m]).map fun n : Nat => (n : Int))) (hs : ys.Pairwise (· ≤ ·)) : ys.map V.int = nVs (KM.swp lot o m) := by
  have hperm : ∀ l : List Nat, (KM.ins m l).Perm (l ++ [m]) := by
    intro l
    induction l with
    | nil => exact List.Perm.refl _
    | cons x r ih =>
      unfold KM.ins
      split
      · exact (List.perm_append_comm (l₁ := [m]) (l₂ := x :: r))
      · exact ih.cons x
  have hsort : ∀ l : List Nat, KM.Asc l → (KM.ins m l).Pairwise (· ≤ ·) := by
    intro l
    induction l with
    | nil => intro _; exact List.pairwise_singleton _ _
    | cons x r ih =>
      intro h
      have a := List.pairwise_cons.mp h
      unfold KM.ins
      split
      · rename_i hlt
        refine List.pairwise_cons.mpr ⟨fun y hy => ?_, h.imp fun h => Nat.le_of_lt h⟩
        rcases List.mem_cons.mp hy with rfl | hy
        · omega
        · have := a.1 y hy
          omega
      · rename_i hlt
        refine List.pairwise_cons.mpr ⟨fun y hy => ?_, ih a.2⟩
        rcases KM.mem_ins.mp hy with rfl | hy
        · omega
        · have := a.1 y hy
          omega
  have e : ys = (KM.swp lot o m).map fun n : Nat => (n : Int) := by
    refine PySem.W.ksm_same (hp.trans ((hperm _).map _).symm) hs ?_
    rw [List.pairwise_map]
    exact (hsort _ (ha.filter _)).imp fun h => by omega
  rw [e, nVs_int]
section
variable {P : Program} {w : World} {K : PySem.W.Frag} {mg : Str → Option Value} {base : Heap}
theorem ok_rising (D : Def K mg "is_rising" s_is_rising ["value", "most"]) (B : Bl mg) (G : Has P w K mg base 2 "is_from" ["value", "least", "most"] spIsFrom) : Has P w K mg base 3 "is_rising" ["value", "most"] (spRising K) := by
  refine has_of D sc_rising (fun vs H Q E h => ?_) (fun f cdv A outer s H vs Q E hr h => ?_)
  · obtain ⟨a, m, lot, rfl, _⟩ := h
    rfl
  · obtain ⟨a, m, lot, rfl, hT, asc, inn, few, q⟩ := h
    refine ⟨_, pss_cons (ps_if (PW.pt (pw_or (pt_not (pt_val (pe_callB call_isi (by rfl) B.isi (by decide +kernel) (pa_cons (pv 0) (pa_cons (pe_bltn (v := .ty "tuple") (u := .type "tuple") (by rfl) B.tup (by decide +kernel) rfl) pa_nil)))))
        (pw_or1 (pt_not (pt_val (pe_callB (cr_all rfl) (by rfl) B.all (by decide +kernel) (pa_cons (pe_lc (own := [("one", 2)]) (g := gName 2) (tt := tYes) rfl sc_rising.nd (pi_tup (pv 0)) (blkOk_by (own := [("one", 2)]) (N := ["value", "most", "one", "at"]) (sc := defScope s_is_rising) (by decide +kernel))
            (fun _ _ _ _ _ => pg_name (i := 2) sc_rising.nd rfl (.inl rfl)) (fun _ _ _ _ _ => pts_nil) (fun _ _ _ _ _ => pe_has G hr (pa_cons (pv 2) (pa_cons pe_int (pa_cons (pe_op op_sub (pv 1) pe_int) pa_nil))))) pa_nil)))))))
        pss_never pss_nil)
      (pss_one (ps_ret (pe_not (pe_callB (cr_any rfl) (by rfl) B.any (by decide +kernel) (pa_cons (pe_lc (own := [("at", 3)]) (g := gName 3) (tt := tYes) rfl sc_rising.nd (pi_range2 (by rfl) B.rng (pa_cons pe_int (pa_cons (pe_callB call_len_seq (by rfl) B.len (by decide +kernel) (pa_cons (pv 0) pa_nil)) pa_nil)))
          (blkOk_by (own := [("at", 3)]) (N := ["value", "most", "one", "at"]) (sc := defScope s_is_rising) (by decide +kernel))
          (fun _ _ _ _ _ => pg_name (i := 3) sc_rising.nd rfl (.inl rfl)) (fun _ _ _ _ _ => pts_nil) (fun _ _ _ _ _ => pe_cmpR op_le (pe_ix (r := rIxT K) ix_tup (pv 0) (pv 3) (fun _ _ => rfl)) (pe_ix (r := rIxT K) ix_tup (pv 0) (pe_op op_sub (pv 3) pe_int) (fun _ _ => rfl)) (nomark _))) pa_nil))))), ?_⟩
    refine ⟨_, rfl, _, _, _, _, true, rfl, ClsV.ty _, ty_tup hT, kit_ty (by decide +kernel), _, rfl, iteF ?_⟩
    have hll : (nVs lot).length = lot.length := List.length_map _
    refine ⟨_, rfl, a, rfl, ⟨_, hT⟩, fun Dd hD => lc_tup (K := K) (a := a) (xs := nVs lot) (fun i H' => Same H H' ∧ H' Dd = some (.lst ((List.replicate i true).map V.bl))) ⟨same_new hD, upd_same⟩ (fun i H' _ ⟨sm, _⟩ => sm.tup hT) ?_ ?_⟩
    · rintro i y H' hi ⟨sm, hx⟩
      obtain ⟨z, hz, rfl⟩ := nVs_get hi
      have hzm := inn _ (List.mem_of_getElem? hz)
      have hil := (List.getElem?_eq_some_iff.mp hz).1
      refine ⟨rfl, yes ?_⟩
      refine ⟨_, rfl, _, rfl, (m : Int), 1, rfl, rfl, (z : Int), 0, (m : Int) - 1, rfl, _, hx, ?_, sm.set hD, ?_⟩
      · rw [List.length_map, List.length_replicate]
        exact szlt (by omega)
      · rw [upd_same, decide_eq_true (show (0 : Int) ≤ (z : Int) by omega), decide_eq_true (show (z : Int) ≤ (m : Int) - 1 by omega), bls_snoc]
        rfl
    · rintro H1 ⟨sm, hx⟩
      refine ⟨Dd, _, rfl, SqL.of hx, _, rfl, ?_⟩
      rw [all_true]
      refine iteF ?_
      refine ⟨_, rfl, a, _, rfl, .inr (sm.tup hT), 1, _, rfl, ⟨by omega, by omega, by rw [hll]; omega, by rw [hll]; omega⟩, fun D2 hD2 => ?_⟩
      refine lc_range (lo := 1) (n := (((nVs lot).length : Int) - 1).toNat) (fun i H' => Same H H' ∧ H' D2 = some (.lst ((List.replicate i false).map V.bl))) ⟨sm.upd hD2, upd_same⟩ ?_ ?_
      · rintro i H' hi ⟨sm', hx'⟩
        rw [hll] at hi
        have h0 : H D2 = none := sm.free hD2
        have e1 := List.getElem?_eq_getElem (l := lot) (i := i) (by omega)
        have e2 := List.getElem?_eq_getElem (l := lot) (i := i + 1) (by omega)
        have hlt := List.pairwise_iff_getElem.mp asc i (i + 1) (by omega) (by omega) (by omega)
        refine ⟨rfl, yes ?_⟩
        refine ⟨_, rfl, _, rfl, a, _, _, nV lot[i + 1], rfl, rfl, sm'.tup hT, at_of (j := i + 1) (by omega) (nVs_at e2), _, rfl, _, rfl, 1 + (i : Int), 1, rfl, rfl, a, _, _, nV lot[i], rfl, rfl, sm'.tup hT, at_of (j := i) (by omega) (nVs_at e1), _, _, rfl, rfl, ?_⟩
        refine ⟨_, hx', ?_, sm'.set h0, ?_⟩
        · rw [List.length_map, List.length_replicate]
          exact szlt (by omega)
        · rw [upd_same, bls_snoc]
          show some (HO.lst (_ ++ [V.bl (decide (((lot[i + 1] : Nat) : Int) ≤ ((lot[i] : Nat) : Int)))])) = _
          rw [decide_eq_false (show ¬ ((lot[i + 1] : Nat) : Int) ≤ ((lot[i] : Nat) : Int) by omega)]
      · rintro H' ⟨sm', hx'⟩
        refine ⟨D2, _, rfl, SqL.of hx', _, rfl, ?_⟩
        rw [any_false]
        exact q H' sm'
theorem ok_needlot (D : Def K mg "need_lot" s_need_lot ["web", "value"]) (B : Bl mg) (G : Has P w K mg base 3 "is_rising" ["value", "most"] (spRising K)) : Has P w K mg base 4 "need_lot" ["web", "value"] (spNeedLot K) := by
  refine has_of D sc_needlot (fun vs H Q E h => ?_) (fun f cdv A outer s H vs Q E hr h => ?_)
  · obtain ⟨wv, lt, n, ts, lot, rfl, _⟩ := h
    rfl
  · obtain ⟨wv, lt, n, ts, lot, rfl, L, q⟩ := h
    refine ⟨_, pss_one (ps_if (pt_not (pt_val (pe_has G hr (pa_cons (pv 1) (pa_cons (pe_callB call_len_seq (by rfl) B.len (by decide +kernel) (pa_cons (pe_ix ix_tup (pv 0) pe_int (fun _ _ => rfl)) pa_nil)) pa_nil))))) pss_never pss_nil), ?_⟩
    obtain ⟨t, as, eas, hwv, ht, hties⟩ := id L.web
    have elen : (as.map fun p => V.ref p.1).length = ts.length := by rw [← eas, List.length_map, List.length_map]
    refine ⟨_, rfl, _, rfl, wv, _, 1, .ref t, rfl, rfl, hwv, rfl, t, _, rfl, .inr ht, ?_⟩
    rw [elen]
    have := L.few
    refine ⟨lt, ts.length, lot, rfl, L.seq, L.asc, L.inn, by omega, fun H' sm => ⟨_, rfl, iteF ?_⟩⟩
    exact q H' sm
theorem ok_needtree (D : Def K mg "need_tree" s_need_tree ["web", "lot"]) (G : Has P w K mg base 4 "need_lot" ["web", "value"] (spNeedLot K)) (T : Has P w K mg base 5 "is_tree_of" ["web", "lot"] (spIsTree K)) : Has P w K mg base 6 "need_tree" ["web", "lot"] (spNeedTree K) := by
  refine has_of D sc_needtree (fun vs H Q E h => ?_) (fun f cdv A outer s H vs Q E hr h => ?_)
  · obtain ⟨wv, lt, n, ts, lot, rfl, _⟩ := h
    rfl
  · obtain ⟨wv, lt, n, ts, lot, rfl, L, ht, q⟩ := h
    refine ⟨_, pss_cons (ps_expr (pe_has G hr (pa_cons (pv 0) (pa_cons (pv 1) pa_nil)))) (pss_one (ps_if (pt_not (pt_val (pe_has T hr (pa_cons (pv 0) (pa_cons (pv 1) pa_nil))))) pss_never pss_nil)), ?_⟩
    refine ⟨_, rfl, _, rfl, wv, lt, n, ts, lot, rfl, L, fun H1 s1 => ?_⟩
    refine ⟨_, rfl, _, rfl, wv, lt, n, ts, lot, rfl, (L.same s1).at', fun H2 s2 => ⟨_, rfl, ?_⟩⟩
    rw [ht]
    exact iteF (q H2 (s1.trans s2))
theorem ok_swapped (D : Def K mg "swapped" s_swapped ["lot", "out", "more"]) (B : Bl mg) : Has P w K mg base 1 "swapped" ["lot", "out", "more"] (spSwapped K) := by
  refine has_of D sc_swapped (fun vs H Q E h => ?_) (fun f cdv A outer s H vs Q E hr h => ?_)
  · obtain ⟨lt, lot, o, m, rfl, _⟩ := h
    rfl
  · obtain ⟨lt, lot, o, m, rfl, hT, asc, few, q⟩ := h
    refine ⟨_, pss_one (ps_ret (pe_callTy call_tuple_of (by rfl) B.tup (by decide +kernel) (pa_cons (pe_callB cr_sortedI (by rfl) B.srt (by decide +kernel) (pa_cons (pe_op op_cat
      (pe_lc (own := [("index", 3)]) (g := gName 3) rfl sc_swapped.nd (pi_tup (pv 0)) (blkOk_by (own := [("index", 3)]) (N := ["lot", "out", "more", "index"]) (sc := defScope s_swapped) (by decide +kernel))
        (fun _ _ _ _ _ => pg_name (i := 3) sc_swapped.nd rfl (.inl rfl)) (fun _ _ _ _ _ => pts_one (pt_cmpR op_ne (pv 3) (pv 1) (nomark _))) (fun _ _ _ _ _ => pv 3))
      (pe_lst (pa_cons (pv 2) pa_nil))) pa_nil)) pa_nil))), ?_⟩
    refine ⟨_, rfl, lt, rfl, ⟨_, hT⟩, fun Dd hD => lc_tup (K := K) (a := lt) (xs := nVs lot) (fun i H' => Same H H' ∧ H' Dd = some (.lst (nVs ((lot.take i).filter fun j => decide (j ≠ o))))) ⟨same_new hD, upd_same⟩ (fun i H' _ ⟨sm, _⟩ => sm.tup hT) ?_ ?_⟩
    · rintro i y H' hi ⟨sm, hx⟩
      obtain ⟨z, hz, rfl⟩ := nVs_get hi
      refine ⟨rfl, _, rfl, _, rfl, rfl, _, rfl, ?_⟩
      rw [eq_nat, take_next hz, List.filter_append]
      by_cases e : z = o
      · rw [decide_eq_true e]
        refine iteF ⟨sm, ?_⟩
        rw [hx]
        simp [e]
      · rw [decide_eq_false e]
        refine iteT ⟨_, rfl, _, hx, ?_, sm.set hD, ?_⟩
        · rw [List.length_map]
          refine szlt (Nat.le_trans (List.length_filter_le _ _) ?_)
          rw [List.length_take]
          omega
        · rw [upd_same]
          simp [e, nVs]
    · rintro H1 ⟨sm, hx⟩
      have ell : (nVs lot).length = lot.length := List.length_map _
      rw [ell, List.take_length] at hx
      refine ⟨_, rfl, Nat.succ_le_of_lt (by decide), fun l1 hl1 => ?_⟩
      have Dl : Dd ≠ l1 := ne_of_none hx hl1
      have hx2 : upd H1 l1 (.lst [nV m]) Dd = some (.lst (nVs (lot.filter fun j => decide (j ≠ o)))) := by rw [upd_ne Dl]; exact hx
      have hfl : (lot.filter fun j => decide (j ≠ o)).length ≤ 1000 := Nat.le_trans (List.length_filter_le _ _) few
      refine ⟨Dd, l1, _, _, rfl, rfl, hx2, upd_same, by rw [List.length_map]; exact sz (by show _ + 1 ≤ _; omega), fun l2 hl2 => ?_⟩
      have sm2 := (sm.upd (o := .lst [nV m]) hl1).upd (o := .lst (nVs (lot.filter fun j => decide (j ≠ o)) ++ [nV m])) hl2
      refine ⟨l2, (((lot.filter fun j => decide (j ≠ o)) ++ [m]).map fun n : Nat => (n : Int)), rfl, ?_, fun ys l3 hp hs hl3 => ?_⟩
      · rw [← nVs_int]
        refine SqL.of ?_
        rw [upd_same, nVs_snoc]
      · have sm3 := sm2.upd (o := .lst (ys.map V.int)) hl3
        refine ⟨l3, _, rfl, .inl ⟨SqL.of upd_same, fun l4 hl4 => ?_⟩⟩
        refine q _ l4 (sm3.upd hl4) (sm3.free hl4) ?_
        rw [upd_same, nVs_perm_swp asc hp hs]
end
end KW
namespace KW
open PySem PySem.Spec PyProof.Rows L2
open LamX (ExtN Tabs TabB)
/-! ### order_of, forest_by, least_of, least_tree -/
/-- the lambda's name -/
def lamQ : Str := (envOfC "order_of" (defScope s_order_of) 0 0 .none).qual ++ "<lambda>"
/-- the one table: of order_of's code -/
abbrev tabT (pt : Addr) : List (Addr × Str) := [(pt, lamQ)]
/-- the order by price and index -/
structure Ordered (ts : List Tie) (ord : List Nat) : Prop where
  perm : ord.Perm (List.range ts.length)
  srt : ord.Pairwise fun i j => ep ts i < ep ts j ∨ (ep ts i = ep ts j ∧ i < j)
def spOrder (K : PySem.W.Frag) (pt : Addr) : Sp := fun vs H Q _ => ∃ (wv : Addr) (n : Nat) (ts : List Tie), vs = [.ref wv] ∧ WebAt K H wv n ts ∧ ts.length ≤ 1000 ∧ Tabs (tabT pt) H ∧
  ∀ H' ord p, ExtN H H' → Tabs (tabT pt) H' → Ordered ts ord → H' p = some (.lst (nVs ord)) → Q (.ref p) H'
theorem sc_order : FnScope ["web", "index"] ["web"] (defScope s_order_of) := ⟨rfl, rfl, rfl, by decide +kernel, rfl, by decide +kernel, by decide +kernel⟩
theorem extN_upd {H H' : Hp} {p : Addr} {o : HO} (e : ExtN H H') (h : H' p = none) : ExtN H (upd H' p o) := e.trans (.of (same_new h))
theorem tieAts {K : PySem.W.Frag} {H : Hp} {as : List (Addr × Tie)} {ts : List Tie} (e : as.map (·.2) = ts) : tiePrice (as.map fun p => ((p.1, nV p.2.1, nV p.2.2.1, (p.2.2.2 : Int)) : TieAt)) = fun i => ((ep ts i : Nat) : Int) := by
  funext i
  subst e
  unfold tiePrice ep
  rw [List.map_map, List.getD_eq_getElem?_getD, List.getD_eq_getElem?_getD, List.getElem?_map, List.getElem?_map]
  cases as[i]? with
  | none => rfl
  | some p => rfl
section
variable {P : Program} {w : World} {K : PySem.W.Frag} {mg : Str → Option Value} {base : Heap}
theorem ok_order {f c pt : Addr} {oc kV doc pm ct : Value} {od an : Option Addr} {osl : Array (Option Value)} (B : Bl mg)
    (lk : K.lookup f = some ⟨oc, od, .func (PySem.W.fnOf "order_of" "order_of" (defArgs s_order_of) (defBody s_order_of) (defScope s_order_of) .none kV doc pm an (.ref c) ct), osl⟩) (hcd : PySem.W.codeIn K (.ref c) "order_of" = true)
    (hm : mg "order_of" = some (.ref f)) (kp : PySem.W.keepIn K (.ref f) = true) (hb : Binds K (PySem.W.fnOf "order_of" "order_of" (defArgs s_order_of) (defBody s_order_of) (defScope s_order_of) .none kV doc pm an (.ref c) ct) ["web"] []) (TB : TabB base mg c pt) :
    Has P w K mg base 1 "order_of" ["web"] (spOrder K pt) := by
  refine ⟨f, _, fn_of lk hcd sc_order (fun vs H Q E h => ?_) (fun A outer s H vs Q E hr h => ?_), hm, kp, hb⟩
  · obtain ⟨wv, n, ts, rfl, _⟩ := h
    rfl
  · obtain ⟨wv, n, ts, rfl, ⟨t, as, eas, hwv, ht, hties⟩, few, hT, q⟩ := h
    have elen : (as.map fun p => V.ref p.1).length = ts.length := by rw [← eas, List.length_map, List.length_map]
    refine ⟨_, PSs.nox (pss_one (ps_ret (pe_sortWeb (T := tabT pt) (c := c) (P := pt) (i := 0) rfl hr (by rfl) B.srt (pe_callTy cr_range1 (by rfl) B.rng (by decide +kernel) (pa_cons (pe_callB call_len_seq (by rfl) B.len (by decide +kernel) (pa_cons (pe_ix ix_tup (pv 0) pe_int (fun _ _ => rfl)) pa_nil)) pa_nil))
      TB rfl (List.mem_singleton.mpr rfl) (fun p hp _ => by rw [List.mem_singleton.mp hp]; rfl) rfl rfl rfl rfl rfl rfl rfl (fun _ _ _ _ _ _ => rfl)))), ?_⟩
    refine ⟨_, rfl, wv, _, 1, .ref t, rfl, rfl, hwv, rfl, t, _, rfl, .inr ht, _, rfl, fun r hr0 => ?_⟩
    rw [elen]
    have s1 : Same H (upd H r (.rng 0 (ts.length : Int))) := same_new hr0
    have elen2 : (as.map fun p => ((p.1, nV p.2.1, nV p.2.2.1, (p.2.2.2 : Int)) : TieAt)).length = ts.length := by rw [List.length_map, ← eas, List.length_map]
    refine ⟨LamX.Tabs.ext hT s1, r, wv, t, _, as.map fun p => (p.1, nV p.2.1, nV p.2.2.1, (p.2.2.2 : Int)), rfl, by rw [elen2]; exact upd_same, rfl, s1.tup hwv, ?_, fun x hx => ?_, by rw [elen2]; exact few, fun H2 ord p eN T2 hp hs hn => ?_⟩
    · rw [List.map_map]
      exact s1.tup ht
    · obtain ⟨y, hy, rfl⟩ := List.mem_map.mp hx
      exact s1.tup (hties y hy)
    · rw [elen2] at hp
      rw [tieAts (K := K) (H := H) eas] at hs
      refine q _ ord p (extN_upd (s1.extN.trans eN) hn) (LamX.Tabs.ext T2 (same_new hn)) ⟨hp, hs.imp fun h => ?_⟩ upd_same
      dsimp only at h
      omega
end
end KW
namespace KW
open PySem PySem.Spec PyProof.Rows L2
open LamX (ExtN Tabs TabB)
/-! ### forest_by, least_of, least_tree -/
abbrev krw (ts : List Tie) (ord : List Nat) : List Nat := KM.kr (eu ts) (ev ts) ord
def spForest (K : PySem.W.Frag) : Sp := fun vs H Q _ => ∃ (wv ol : Addr) (n : Nat) (ts : List Tie) (ord : List Nat), vs = [.ref wv, .ref ol] ∧ WebAt K H wv n ts ∧ WebOk n ts ∧ SqL K H ol (nVs ord) ∧ (∀ i ∈ ord, i < ts.length) ∧ ord.Nodup ∧ ord.length ≤ 1000 ∧
  ∀ H' p lot, Same H H' → H' p = some (.tup (nVs lot)) → KM.Asc lot → (∀ i, i ∈ lot ↔ i ∈ krw ts ord) → Q (.ref p) H'
def spLeastOf (K : PySem.W.Frag) (pt : Addr) : Sp := fun vs H Q _ => ∃ (wv : Addr) (n : Nat) (ts : List Tie), vs = [.ref wv] ∧ WebAt K H wv n ts ∧ WebOk n ts ∧ Tabs (tabT pt) H ∧
  ∀ H' p ord lot, ExtN H H' → Tabs (tabT pt) H' → Ordered ts ord → H' p = some (.tup (nVs lot)) → KM.Asc lot → (∀ i, i ∈ lot ↔ i ∈ krw ts ord) → Q (.ref p) H'
def spLeastTree (K : PySem.W.Frag) (pt : Addr) : Sp := fun vs H Q _ => ∃ (wv : Addr) (n : Nat) (ts : List Tie), vs = [.ref wv] ∧ WebAt K H wv n ts ∧ WebOk n ts ∧ one1 n ts (List.range ts.length) ∧ Tabs (tabT pt) H ∧
  ∀ H' p ord lot, ExtN H H' → Tabs (tabT pt) H' → Ordered ts ord → H' p = some (.tup (nVs lot)) → KM.Asc lot → (∀ i, i ∈ lot ↔ i ∈ krw ts ord) → Q (.ref p) H'
theorem sc_forest : FnScope ["web", "order", "found", "index", "roots", "a", "b"] ["web", "order"] (defScope s_forest_by) := ⟨rfl, rfl, rfl, by decide +kernel, rfl, by decide +kernel, by decide +kernel⟩
theorem sc_leastof : FnScope ["web"] ["web"] (defScope s_least_of) := ⟨rfl, rfl, rfl, by decide +kernel, rfl, by decide +kernel, by decide +kernel⟩
theorem sc_leasttree : FnScope ["web"] ["web"] (defScope s_least_tree) := ⟨rfl, rfl, rfl, by decide +kernel, rfl, by decide +kernel, by decide +kernel⟩
theorem nats_back : ∀ {ys : List Int}, (∀ y ∈ ys, ∃ n : Nat, y = (n : Int)) → (ys.map Int.toNat).map (fun n : Nat => (n : Int)) = ys
  | [], _ => rfl
  | y :: ys, h => by
    obtain ⟨n, rfl⟩ := h y List.mem_cons_self
    rw [List.map_cons, List.map_cons, nats_back fun z hz => h z (List.mem_cons_of_mem _ hz)]
    rfl
/-- a list of numbers sorted, as numbers -/
theorem sorted_nats {ys : List Int} {l : List Nat} (hp : ys.Perm (l.map fun n : Nat => (n : Int))) (hs : ys.Pairwise (· ≤ ·)) : ∃ lot : List Nat, ys.map V.int = nVs lot ∧ lot.Perm l ∧ lot.Pairwise (· ≤ ·) := by
  have hb := nats_back (ys := ys) fun y hy => by
    obtain ⟨n, _, e⟩ := List.mem_map.mp (hp.mem_iff.mp hy)
    exact ⟨n, e.symm⟩
  refine ⟨ys.map Int.toNat, by rw [nVs_int, hb], ?_, ?_⟩
  · have := hp.map Int.toNat
    rw [List.map_map] at this
    have e : (Int.toNat ∘ fun n : Nat => (n : Int)) = id := by
      funext n
      rfl
    rw [e, List.map_id] at this
    exact this
  · rw [List.pairwise_map]
    exact hs.imp fun h => by omega
section
variable {P : Program} {w : World} {K : PySem.W.Frag} {mg : Str → Option Value} {base : Heap}
theorem ok_forest (D : Def K mg "forest_by" s_forest_by ["web", "order"]) (B : Bl mg) (R : Has P w K mg base 2 "roots_of" ["many", "pairs"] (spRoots K)) (G : Has P w K mg base 1 "pairs_of" ["web", "lot"] (spPairs K)) : Has P w K mg base 3 "forest_by" ["web", "order"] (spForest K) := by
  refine has_of D sc_forest (fun vs H Q E h => ?_) (fun f cdv A outer s H vs Q E hr h => ?_)
  · obtain ⟨wv, ol, n, ts, ord, rfl, _⟩ := h
    rfl
  · obtain ⟨wv, ol, n, ts, ord, rfl, W, o, hO, inn, nd, few, q⟩ := h
    refine ⟨_, pss_cons (ps_set (i := 2) sc_forest.nd rfl (.inl rfl) (pe_lst pa_nil))
      (pss_cons (ps_for PassesOwn.never rfl (pi_list (pv 1)) (pg_name (i := 3) sc_forest.nd rfl (.inl rfl))
        (pss_cons (ps_set (i := 4) sc_forest.nd rfl (.inl rfl) (pe_has R hr (pa_cons (pe_ix ix_tup (pv 0) pe_int (fun _ _ => rfl)) (pa_cons (pe_has G hr (pa_cons (pv 0) (pa_cons (pv 2) pa_nil))) pa_nil))))
        (pss_cons (ps_asg (pe_slice sl_tup (pe_ix ix_tup (pe_ix ix_tup (pv 0) pe_int (fun _ _ => rfl)) (pv 3) (fun _ _ => rfl)) po_none (po_some pe_int)) (pg_tup (by rfl) (pgs_cons (pg_name (i := 5) sc_forest.nd rfl (.inl rfl)) (pgs_cons (pg_name (i := 6) sc_forest.nd rfl (.inl rfl)) pgs_nil))))
        (pss_one (ps_if (pt_cmpR op_ne (pe_ix ix_list (pv 4) (pv 5) (fun _ _ => rfl)) (pe_ix ix_list (pv 4) (pv 6) (fun _ _ => rfl)) (nomark _))
          (pss_one (ps_expr (pe_bm PySem.F.plainAttrs_list PySem.F.slot_list_append PySem.F.type_list_append mt_append (pv 2) (pa_cons (pv 3) pa_nil)))) pss_nil)))))
      (pss_one (ps_ret (pe_callTy call_tuple_of (by rfl) B.tup (by decide +kernel) (pa_cons (pe_callB cr_sortedI (by rfl) B.srt (by decide +kernel) (pa_cons (pv 2) pa_nil)) pa_nil))))), ?_⟩
    refine ⟨Nat.zero_le _, fun fl hfl => ?_⟩
    have hll : (nVs ord).length = ord.length := List.length_map _
    refine ⟨_, rfl, ol, rfl, ⟨_, (same_new hfl).seq hO⟩, for_list (K := K) (a := ol) (xs := nVs ord) (fun i σ H' => ∃ y3 y4 y5 y6, σ = [some (.ref wv), some (.ref ol), some (.ref fl), y3, y4, y5, y6] ∧ Same H H' ∧ H' fl = some (.lst (nVs (krw ts (ord.take i)))))
      ⟨_, _, _, _, rfl, same_new hfl, upd_same⟩ (fun i σ H' _ ⟨_, _, _, _, _, sm, _⟩ => sm.seq hO) ?_ ?_⟩
    · rintro i y σ H1 hi ⟨y3, y4, y5, y6, rfl, sm, hf⟩
      obtain ⟨ix, hix, rfl⟩ := nVs_get hi
      have hil := (List.getElem?_eq_some_iff.mp hix).1
      have hlt := inn _ (List.mem_of_getElem? hix)
      have W1 := W.same sm
      have fin : ∀ j ∈ krw ts (ord.take i), j < ts.length := fun j hj => inn j (List.mem_of_mem_take (KM.kr_sub _ j hj))
      have ffew : (krw ts (ord.take i)).length ≤ i := by
        have h1 := KM.kr_nodup (u := eu ts) (v := ev ts) (ord.take i) (nd.sublist (List.take_sublist _ _))
        have h2 : ∀ (l l' : List Nat), l.Nodup → (∀ j ∈ l, j ∈ l') → l.length ≤ l'.length := by
          intro l
          induction l with
          | nil => intro l' _ _; exact Nat.zero_le _
          | cons x r ih =>
            intro l' hd h
            have hd' := List.nodup_cons.mp hd
            have hx := h x List.mem_cons_self
            have := ih (l'.erase x) hd'.2 fun j hj => (List.mem_erase_of_ne fun (z : j = x) => hd'.1 (z ▸ hj)).mpr (h j (List.mem_cons_of_mem _ hj))
            rw [List.length_erase_of_mem hx] at this
            have := List.length_pos_of_mem hx
            rw [List.length_cons]
            omega
        have h3 := h2 _ (ord.take i) h1 (KM.kr_sub _)
        rw [List.length_take] at h3
        show (KM.kr (eu ts) (ev ts) (ord.take i)).length ≤ i
        omega
      obtain ⟨t, as, eas, hwv, ht, hties⟩ := id W1
      -- roots = roots_of(web[0], pairs_of(web, found))
      refine ⟨_, rfl, wv, _, 0, nV n, rfl, rfl, hwv, rfl, ?_⟩
      refine ⟨_, rfl, _, rfl, wv, fl, n, ts, _, rfl, W1, .inl (SqL.of hf), fin, by omega, fun H2 p2 s2 n2 hP => ?_⟩
      refine ⟨n, p2, _, rfl, hP, lotE_in o fin, by have := o.n12; omega, fun H3 p3 s3 n3 h3 => ?_⟩
      have s23 := s2.trans s3
      have hrt : ∀ x, x < n → (nVs ((List.range n).map (labp (lotE ts (krw ts (ord.take i))))))[x]? = some (nV (KM.lab (eu ts) (ev ts) (krw ts (ord.take i)) x)) := fun x hx => by
        rw [← labp_lot]
        exact nVs_at (by rw [List.getElem?_map, List.getElem?_range hx]; rfl)
      -- a, b = web[1][index][:2]
      obtain ⟨ad, tie, has, hts⟩ := as_get eas hlt
      obtain ⟨e1, e2, _⟩ := eu_at hts
      obtain ⟨u1, u2⟩ := o.ends hlt
      refine ⟨_, rfl, wv, _, 1, .ref t, rfl, rfl, s23.tup hwv, rfl, _, rfl, t, _, _, .ref ad, rfl, rfl, s23.tup ht, atI_nat (as_at has), 2, rfl, ad, tieV tie, rfl, s23.tup (hties _ (List.mem_of_getElem? has)), (by show ¬ (HT.sIx 3 0 none = 0 ∧ HT.sIx 3 3 (some 2) = 3); decide), fun p4 hp4 => ?_⟩
      refine ⟨p4, [nV (eu ts ix), nV (ev ts ix)], rfl, SqT.of (by rw [upd_same, e1, e2]; rfl), rfl, _, _, rfl, _, _, rfl, rfl, ?_⟩
      have s4 : Same H3 (upd H3 p4 (.tup (cutV (tieV tie) none (some 2)))) := same_new hp4
      have h34 := s4 _ _ h3
      have hf4 := s4 _ _ (s23 _ _ hf)
      refine ⟨_, rfl, _, rfl, p3, _, _, nV _, rfl, rfl, SqL.of h34, atI_nat (hrt _ u1), _, rfl, _, rfl, p3, _, _, nV _, rfl, rfl, SqL.of h34, atI_nat (hrt _ u2), rfl, _, rfl, ?_⟩
      rw [eq_nat]
      have hks := KM.kr_snoc (u := eu ts) (v := ev ts) (ord.take i) ix
      have sm4 := (sm.trans s23).trans s4
      by_cases e : KM.lab (eu ts) (ev ts) (krw ts (ord.take i)) (eu ts ix) = KM.lab (eu ts) (ev ts) (krw ts (ord.take i)) (ev ts ix)
      · rw [decide_eq_true e]
        refine iteF ⟨_, _, _, _, rfl, sm4, ?_⟩
        rw [take_next hix]
        unfold krw
        rw [hks, if_neg (fun z => z e)]
        exact hf4
      · rw [decide_eq_false e]
        refine iteT ?_
        refine ⟨_, rfl, .inl ⟨rfl, _, SqL.of hf4⟩, _, rfl, fl, _, _, rfl, rfl, hf4, ?_, ?_⟩
        · rw [List.length_map]
          exact szlt (by omega)
        · refine ⟨_, _, _, _, rfl, sm4.set hfl, ?_⟩
          rw [upd_same, take_next hix]
          unfold krw
          rw [hks, if_pos e, nVs_snoc]
    · rintro σ H1 ⟨y3, y4, y5, y6, rfl, sm, hf⟩
      rw [hll, List.take_length] at hf
      refine ⟨_, rfl, fl, (krw ts ord).map (fun n : Nat => (n : Int)), rfl, by rw [← nVs_int]; exact SqL.of hf, fun ys l3 hp hs hl3 => ?_⟩
      obtain ⟨lot, elot, plot, slot⟩ := sorted_nats hp hs
      have sm3 := sm.upd (o := .lst (ys.map V.int)) hl3
      refine ⟨l3, _, rfl, .inl ⟨SqL.of upd_same, fun l4 hl4 => ?_⟩⟩
      have hnd : lot.Nodup := plot.nodup_iff.mpr (KM.kr_nodup _ nd)
      refine q _ l4 lot (sm3.upd hl4) (by rw [upd_same, elot]) ((slot.and hnd).imp fun {a b} ⟨h1, h2⟩ => by omega) fun j => plot.mem_iff
theorem ok_leastof {pt : Addr} (D : Def K mg "least_of" s_least_of ["web"]) (F : Has P w K mg base 3 "forest_by" ["web", "order"] (spForest K)) (O : Has P w K mg base 1 "order_of" ["web"] (spOrder K pt)) : Has P w K mg base 4 "least_of" ["web"] (spLeastOf K pt) := by
  refine has_of D sc_leastof (fun vs H Q E h => ?_) (fun f cdv A outer s H vs Q E hr h => ?_)
  · obtain ⟨wv, n, ts, rfl, _⟩ := h
    rfl
  · obtain ⟨wv, n, ts, rfl, W, o, hT, q⟩ := h
    refine ⟨_, pss_one (ps_ret (pe_has F hr (pa_cons (pv 0) (pa_cons (pe_has O hr (pa_cons (pv 0) pa_nil)) pa_nil)))), ?_⟩
    have hl := o.len
    refine ⟨_, rfl, _, rfl, wv, n, ts, rfl, W, by omega, hT, fun H1 ord p1 e1 T1 hO h1 => ?_⟩
    refine ⟨wv, p1, n, ts, ord, rfl, W.ext e1, o, SqL.of h1, fun i hi => List.mem_range.mp (hO.perm.mem_iff.mp hi), hO.perm.nodup_iff.mpr List.nodup_range, by rw [hO.perm.length_eq, List.length_range]; omega, fun H2 p2 lot s2 h2 ha hm => ?_⟩
    exact q H2 p2 ord lot (e1.trans s2.extN) (LamX.Tabs.ext T1 s2) hO h2 ha hm
theorem ok_leasttree {pt : Addr} (D : Def K mg "least_tree" s_least_tree ["web"]) (N : Has P w K mg base 3 "need_web" ["value"] (spNeedWeb K)) (J : Has P w K mg base 5 "need_joined" ["web"] (spNeedJ K)) (L : Has P w K mg base 4 "least_of" ["web"] (spLeastOf K pt)) : Has P w K mg base 6 "least_tree" ["web"] (spLeastTree K pt) := by
  refine has_of D sc_leasttree (fun vs H Q E h => ?_) (fun f cdv A outer s H vs Q E hr h => ?_)
  · obtain ⟨wv, n, ts, rfl, _⟩ := h
    rfl
  · obtain ⟨wv, n, ts, rfl, W, o, h1, hT, q⟩ := h
    refine ⟨_, pss_cons (ps_expr (pe_has N hr (pa_cons (pv 0) pa_nil))) (pss_cons (ps_expr (pe_has J hr (pa_cons (pv 0) pa_nil))) (pss_one (ps_ret (pe_has L hr (pa_cons (pv 0) pa_nil))))), ?_⟩
    refine ⟨_, rfl, wv, n, ts, rfl, W, o, fun H1 s1 => ?_⟩
    refine ⟨_, rfl, wv, n, ts, rfl, W.same s1, o, h1, fun H2 s2 => ?_⟩
    have s12 := s1.trans s2
    refine ⟨_, rfl, wv, n, ts, rfl, W.same s12, o, LamX.Tabs.ext hT s12, fun H3 p ord lot e3 T3 hO h3 ha hm => ?_⟩
    exact q H3 p ord lot (s12.extN.trans e3) T3 hO h3 ha hm
end
end KW
namespace KW
open PySem PySem.W PySem.Spec PyProof.Rows L2
open LamX (ExtN Tabs TabB)
/-! ### the least of data -/
theorem minD_enc {β : Type} (enc : β → PyData) (lt : β → β → Prop) [DecidableRel lt] (h : ∀ a b, dataLt (enc a) (enc b) = decide (lt a b)) (irr : ∀ a, ¬ lt a a) (tr : ∀ a b c, lt a b → lt b c → lt a c) (tr2 : ∀ a b c : β, ¬ lt a b → ¬ lt b c → ¬ lt a c) :
    ∀ (bs : List β) (b : β), ∃ m, m ∈ b :: bs ∧ minD (enc b) (bs.map enc) = enc m ∧ ∀ c ∈ b :: bs, ¬ lt c m
  | [], b => ⟨b, List.mem_cons_self, rfl, fun c hc => by rw [List.mem_singleton.mp hc]; exact irr b⟩
  | c :: bs, b => by
    have e : minD (enc b) ((c :: bs).map enc) = minD (if lt c b then enc c else enc b) (bs.map enc) := by
      show (bs.map enc).foldl _ (if dataLt (enc c) (enc b) = true then enc c else enc b) = _
      rw [h]
      by_cases z : lt c b
      · rw [decide_eq_true z, if_pos rfl, if_pos z]
        rfl
      · rw [decide_eq_false z, if_neg Bool.false_ne_true, if_neg z]
        rfl
    by_cases z : lt c b
    · obtain ⟨m, h1, h2, h3⟩ := minD_enc enc lt h irr tr tr2 bs c
      refine ⟨m, List.mem_cons_of_mem _ h1, by rw [e, if_pos z]; exact h2, fun d hd => ?_⟩
      rcases List.mem_cons.mp hd with rfl | hd
      · exact fun y => h3 c List.mem_cons_self (tr _ _ _ z y)
      · exact h3 d hd
    · obtain ⟨m, h1, h2, h3⟩ := minD_enc enc lt h irr tr tr2 bs b
      refine ⟨m, ?_, by rw [e, if_neg z]; exact h2, fun d hd => ?_⟩
      · rcases List.mem_cons.mp h1 with rfl | h1
        · exact List.mem_cons_self
        · exact List.mem_cons_of_mem _ (List.mem_cons_of_mem _ h1)
      · rcases List.mem_cons.mp hd with rfl | hd
        · exact h3 _ List.mem_cons_self
        · rcases List.mem_cons.mp hd with rfl | hd
          · exact tr2 _ b m z (h3 b List.mem_cons_self)
          · exact h3 d (List.mem_cons_of_mem _ hd)
/-! ### exchanges, by a key -/
abbrev Ex := Nat × Nat
/-- y comes before x: by the key, then the pair -/
def klt (κ : Ex → Int) (y x : Ex) : Prop := κ y < κ x ∨ (κ y = κ x ∧ (y.1 < x.1 ∨ (y.1 = x.1 ∧ y.2 < x.2)))
instance {κ : Ex → Int} : DecidableRel (klt κ) := fun y x => inferInstanceAs (Decidable (_ ∨ _))
def encX (κ : Ex → Int) (x : Ex) : PyData := .tuple [.int (κ x), .tuple [.int (x.1 : Int), .int (x.2 : Int)]]
theorem encX_lt (κ : Ex → Int) (a b : Ex) : dataLt (encX κ a) (encX κ b) = decide (klt κ a b) := by
  unfold encX
  rw [dataLt_pair (by simp [alike]) (by simp [alike, alikeAll]), dataLt_int, dataLt_ii]
  have e1 : PyData.eqv (.int (κ a)) (.int (κ b)) = decide (κ a = κ b) := by
    rw [PyData.eqv]
    by_cases z : κ a = κ b <;> simp [z]
  have e2 : PyData.eqv (.tuple [.int (a.1 : Int), .int (a.2 : Int)]) (.tuple [.int (b.1 : Int), .int (b.2 : Int)]) = decide (a.1 = b.1 ∧ a.2 = b.2) := by
    rw [PyData.eqv, PyData.eqvAll, PyData.eqvAll, PyData.eqvAll, PyData.eqv, PyData.eqv]
    by_cases z1 : a.1 = b.1 <;> by_cases z2 : a.2 = b.2 <;> simp [z1, z2] <;> omega
  rw [e1, e2]
  unfold klt
  by_cases z : κ a = κ b
  · rw [decide_eq_true z, if_pos rfl]
    by_cases z2 : a.1 = b.1 ∧ a.2 = b.2
    · rw [decide_eq_true z2, if_pos rfl]
      exact (decide_eq_false (by omega)).symm
    · rw [decide_eq_false z2, if_neg Bool.false_ne_true]
      exact decide_eq_decide.mpr (by omega)
  · rw [decide_eq_false z, if_neg Bool.false_ne_true]
    exact decide_eq_decide.mpr (by omega)
/-- the least of some exchanges -/
def IsMin (κ : Ex → Int) (cs : List Ex) (x : Ex) : Prop := x ∈ cs ∧ ∀ y ∈ cs, ¬ klt κ y x
theorem IsMin.same {κ κ' : Ex → Int} {cs : List Ex} {x y : Ex} {d : Int} (hk : ∀ z ∈ cs, κ z = κ' z + d) (h : IsMin κ cs x) (h' : IsMin κ' cs y) : x = y := by
  have e1 := h.2 y h'.1
  have e2 := h'.2 x h.1
  have k1 := hk x h.1
  have k2 := hk y h'.1
  unfold klt at e1 e2
  have : x.1 = y.1 ∧ x.2 = y.2 := by omega
  exact Prod.ext this.1 this.2
theorem minX (κ : Ex → Int) (b : Ex) (bs : List Ex) : ∃ m, IsMin κ (b :: bs) m ∧ minD (encX κ b) (bs.map (encX κ)) = encX κ m := by
  obtain ⟨m, h1, h2, h3⟩ := minD_enc (encX κ) (klt κ) (encX_lt κ) (fun a => by unfold klt; omega) (fun a b c => by unfold klt; omega) (fun a b c => by unfold klt; omega) bs b
  exact ⟨m, ⟨h1, h3⟩, h2⟩
theorem encX_inj {κ κ' : Ex → Int} {a b : Ex} (h : encX κ a = encX κ' b) : a = b := by
  unfold encX at h
  injection h with h
  injection h with _ h
  injection h with h _
  injection h with h
  injection h with h1 h
  injection h with h2 _
  injection h1 with h1
  injection h2 with h2
  exact Prod.ext (by omega) (by omega)
theorem shaped_list {β : Type} (enc : β → PyData) (h : ∀ b, (enc b).canLay0 = true) (h2 : ∀ b, (enc b).depth ≤ 9) (bs : List β) : SeqAt.shaped (.list (bs.map enc)) = true := by
  have e1 : PyData.canLayAll0 (bs.map enc) = true := by
    induction bs with
    | nil => rfl
    | cons b bs ih =>
      rw [List.map_cons, PyData.canLayAll0, h, ih]
      rfl
  have e2 : PyData.depthAll (bs.map enc) ≤ 9 := by
    induction bs with
    | nil => simp [PyData.depthAll]
    | cons b bs ih =>
      rw [List.map_cons, PyData.depthAll]
      have := h2 b
      have e3 : PyData.canLayAll0 (bs.map enc) = true := by
        rw [List.map_cons, PyData.canLayAll0, Bool.and_eq_true] at e1
        exact e1.2
      have := ih e3
      omega
  unfold SeqAt.shaped
  rw [PyData.canLay0, e1, PyData.depth]
  simp only [Bool.true_and, decide_eq_true_eq]
  omega
theorem encX_lay (κ : Ex → Int) (b : Ex) : (encX κ b).canLay0 = true := by simp [encX, PyData.canLay0, PyData.canLayAll0]
theorem encX_dep (κ : Ex → Int) (b : Ex) : (encX κ b).depth ≤ 3 := by simp [encX, PyData.depth, PyData.depthAll]
theorem depthAll_le {β : Type} (enc : β → PyData) {k : Nat} (h : ∀ b, (enc b).depth ≤ k) : ∀ bs : List β, PyData.depthAll (bs.map enc) ≤ k
  | [] => by simp [PyData.depthAll]
  | b :: bs => by
    rw [List.map_cons, PyData.depthAll]
    have := h b
    have := depthAll_le enc h bs
    omega
/-! ### a list of exchanges in the heap -/
/-- at l stands the list of the exchanges cs, each with its key -/
def ToldAt (K : PySem.W.Frag) (H : Hp) (l : Addr) (κ : Ex → Int) (cs : List Ex) : Prop :=
  ∃ ps : List (Addr × Addr × Ex), ps.map (·.2.2) = cs ∧ H l = some (.lst (ps.map fun p => .ref p.1)) ∧ ∀ p ∈ ps, SqT K H p.1 [.int (κ p.2.2), .ref p.2.1] ∧ SqT K H p.2.1 [nV p.2.2.1, nV p.2.2.2]
theorem ToldAt.same {K : PySem.W.Frag} {H H' : Hp} {l : Addr} {κ : Ex → Int} {cs : List Ex} (e : ExtN H H') (h : ToldAt K H l κ cs) : ToldAt K H' l κ cs := by
  obtain ⟨ps, h1, h2, h3⟩ := h
  exact ⟨ps, h1, e _ _ h2 (fun _ z => nomatch z), fun p hp => ⟨extN_tup e (h3 p hp).1, extN_tup e (h3 p hp).2⟩⟩
theorem ToldAt.add {K : PySem.W.Frag} {H : Hp} {l p q : Addr} {κ : Ex → Int} {cs : List Ex} {x : Ex} {zs : List V} (h : ToldAt K H l κ cs) (hz : H l = some (.lst zs)) (hp : SqT K H p [.int (κ x), .ref q]) (hq : SqT K H q [nV x.1, nV x.2]) : ToldAt K (upd H l (.lst (zs ++ [.ref p]))) l κ (cs ++ [x]) := by
  obtain ⟨ps, h1, h2, h3⟩ := h
  rw [h2] at hz
  injection hz with hz
  injection hz with hz
  subst hz
  refine ⟨ps ++ [(p, q, x)], by rw [List.map_append, h1]; rfl, by rw [upd_same, List.map_append]; rfl, fun y hy => ?_⟩
  rcases List.mem_append.mp hy with hy | hy
  · exact ⟨sqT_upd h2 (h3 y hy).1, sqT_upd h2 (h3 y hy).2⟩
  · rw [List.mem_singleton.mp hy]
    exact ⟨sqT_upd h2 hp, sqT_upd h2 hq⟩
theorem ToldAt.nil {K : PySem.W.Frag} {H : Hp} {l : Addr} (κ : Ex → Int) (h : H l = some (.lst [])) : ToldAt K H l κ [] := ⟨[], rfl, h, fun p hp => nomatch hp⟩
/-- as data -/
theorem ToldAt.dp {K : PySem.W.Frag} {H : Hp} {l : Addr} {κ : Ex → Int} {cs : List Ex} (h : ToldAt K H l κ cs) : Dp K H (.ref l) (.list (cs.map (encX κ))) := by
  obtain ⟨ps, h1, h2, h3⟩ := h
  subst h1
  refine .lst (SqL.of h2) ?_
  rw [List.map_map]
  have := dpAll_of (K := K) (H := H) (ps := ps.map fun p => (V.ref p.1, encX κ p.2.2)) fun q hq => by
    obtain ⟨p, hp, rfl⟩ := List.mem_map.mp hq
    obtain ⟨a, b⟩ := h3 p hp
    exact .tup a (.cons (.int _) (.cons (.tup b (.cons (.int _) (.cons (.int _) .nil))) .nil))
  rw [List.map_map, List.map_map] at this
  exact this
/-- min of it -/
theorem ToldAt.min {K : PySem.W.Frag} {H : Hp} {l : Addr} {κ : Ex → Int} {c : Ex} {cs : List Ex} {Q : VK} (h : ToldAt K H l κ (c :: cs)) (q : ∀ p r m, IsMin κ (c :: cs) m → SqT K H p [.int (κ m), .ref r] → SqT K H r [nV m.1, nV m.2] → Q (.ref p) H) : rMinD K [.ref l] H Q := by
  obtain ⟨ps, h1, h2, h3⟩ := h
  obtain ⟨m, hm, em⟩ := minX κ c cs
  refine ⟨l, ps.map fun p => (V.ref p.1, encX κ p.2.2), encX κ c, cs.map (encX κ), rfl, ?_, fun y hy => ?_, ?_, ⟨fun x hx y hy => ?_, fun x hx => ?_⟩, ?_, fun y hy e => ?_⟩
  · rw [List.map_map]
    exact SqL.of h2
  · obtain ⟨p, hp, rfl⟩ := List.mem_map.mp hy
    obtain ⟨a, b⟩ := h3 p hp
    exact .tup a (.cons (.int _) (.cons (.tup b (.cons (.int _) (.cons (.int _) .nil))) .nil))
  · rw [List.map_map]
    have := congrArg (List.map (encX κ)) h1
    rw [List.map_map] at this
    exact this
  · rw [← List.map_cons] at hx hy
    obtain ⟨a, _, rfl⟩ := List.mem_map.mp hx
    obtain ⟨b, _, rfl⟩ := List.mem_map.mp hy
    simp [encX, alike, alikeAll]
  · rw [← List.map_cons] at hx
    obtain ⟨a, _, rfl⟩ := List.mem_map.mp hx
    unfold encX
    exact fun z => nomatch z
  · rw [← List.map_cons]
    have := depthAll_le (encX κ) (encX_dep κ) (c :: cs)
    omega
  · obtain ⟨p, hp, rfl⟩ := List.mem_map.mp hy
    have e : encX κ p.2.2 = encX κ m := by
      rw [← em]
      exact e
    have e2 := encX_inj e
    obtain ⟨a, b⟩ := h3 p hp
    rw [e2] at a b
    exact q _ _ m hm a b
theorem eqv_nil (ds : List PyData) : PyData.eqv (.list ds) (.list []) = ds.isEmpty := by
  cases ds <;> simp [PyData.eqv, PyData.eqvAll]
theorem inV_nat (m : Nat) (lot : List Nat) : inV (nV m) (nVs lot) = decide (m ∈ lot) := by
  unfold inV
  induction lot with
  | nil => simp
  | cons x r ih =>
    show (eqV (nV x) (nV m) || (nVs r).any fun y => eqV y (nV m)) = _
    rw [ih]
    have e : eqV (nV x) (nV m) = decide (x = m) := by
      show ((x : Int) == (m : Int)) = _
      by_cases z : x = m
      · simp [z]
      · rw [decide_eq_false z]
        simp
        omega
    rw [e]
    by_cases z : x = m
    · simp [z]
    · have : ¬ m = x := fun w => z w.symm
      simp [z, this]
theorem flat_nats (lot : List Nat) : (nVs lot).all flatV = true := by
  rw [List.all_eq_true]
  intro y hy
  obtain ⟨n, _, rfl⟩ := List.mem_map.mp hy
  rfl
end KW
namespace KW
open PySem PySem.Spec PyProof.Rows L2
open LamX (ExtN Tabs TabB)
/-! ### better -/
/-- m in o's place saves, and leaves a tree -/
def saves (n : Nat) (ts : List Tie) (lot : List Nat) (o m : Nat) : Bool := decide (m ∉ lot) && decide (ep ts m < ep ts o) && isT n ts (KM.swp lot o m)
/-- all of these, as they are met -/
def cands (good : Nat → Nat → Bool) (M : Nat) (outs : List Nat) : List Ex := outs.flatMap fun o => ((List.range M).filter (good o)).map fun m => (o, m)
theorem cands_snoc (good : Nat → Nat → Bool) (M : Nat) (outs : List Nat) (o : Nat) : cands good M (outs ++ [o]) = cands good M outs ++ ((List.range M).filter (good o)).map fun m => (o, m) := by
  unfold cands
  rw [List.flatMap_append, List.flatMap_singleton]
theorem filt_succ (g : Nat → Bool) (j : Nat) (o : Nat) : ((List.range (j + 1)).filter g).map (fun m => ((o, m) : Ex)) = ((List.range j).filter g).map (fun m => ((o, m) : Ex)) ++ if g j = true then [(o, j)] else [] := by
  rw [List.range_succ, List.filter_append, List.map_append]
  by_cases h : g j = true
  · rw [if_pos h]
    simp [h]
  · rw [if_neg h]
    simp [h]
theorem mem_cands {good : Nat → Nat → Bool} {M : Nat} {outs : List Nat} {x : Ex} : x ∈ cands good M outs ↔ x.1 ∈ outs ∧ x.2 < M ∧ good x.1 x.2 = true := by
  unfold cands
  rw [List.mem_flatMap]
  constructor
  · rintro ⟨o, ho, hx⟩
    obtain ⟨m, hm, rfl⟩ := List.mem_map.mp hx
    have := List.mem_filter.mp hm
    exact ⟨ho, List.mem_range.mp this.1, this.2⟩
  · rintro ⟨h1, h2, h3⟩
    exact ⟨x.1, h1, List.mem_map.mpr ⟨x.2, List.mem_filter.mpr ⟨List.mem_range.mpr h2, h3⟩, rfl⟩⟩
theorem cands_congr {g g' : Nat → Nat → Bool} {M : Nat} {outs : List Nat} (h : ∀ o ∈ outs, ∀ m, m < M → g o m = g' o m) : cands g M outs = cands g' M outs := by
  induction outs with
  | nil => rfl
  | cons o outs ih =>
    have ih := ih fun x hx => h x (List.mem_cons_of_mem _ hx)
    unfold cands at ih ⊢
    rw [List.flatMap_cons, List.flatMap_cons, ih]
    congr 1
    exact congrArg (List.map _) (List.filter_congr fun m hm => h o List.mem_cons_self m (List.mem_range.mp hm))
theorem cands_len (g : Nat → Nat → Bool) (M : Nat) : ∀ outs : List Nat, (cands g M outs).length ≤ outs.length * M
  | [] => by simp [cands]
  | o :: outs => by
    have ih := cands_len g M outs
    unfold cands at ih ⊢
    rw [List.flatMap_cons, List.length_append, List.length_map, List.length_cons, Nat.succ_mul]
    have := List.length_filter_le (g o) (List.range M)
    rw [List.length_range] at this
    omega
/-- the saving, below nought -/
def κb (ts : List Tie) (x : Ex) : Int := -((ep ts x.1 : Int) - (ep ts x.2 : Int))
def spBetter (K : PySem.W.Frag) : Sp := fun vs H Q _ => ∃ (wv lt : Addr) (n : Nat) (ts : List Tie) (lot : List Nat), vs = [.ref wv, .ref lt] ∧ LotT K H wv lt n ts lot ∧ isT n ts lot = true ∧
  (cands (saves n ts lot) ts.length lot = [] → ∀ H', Same H H' → Q .non H') ∧
  ∀ H' p x, Same H H' → IsMin (κb ts) (cands (saves n ts lot) ts.length lot) x → SqT K H' p [nV x.1, nV x.2] → Q (.ref p) H'
theorem sc_better : FnScope ["web", "lot", "told", "out", "more", "saved"] ["web", "lot"] (defScope s_better) := ⟨rfl, rfl, rfl, by decide +kernel, rfl, by decide +kernel, by decide +kernel⟩
section
variable {P : Program} {w : World} {K : PySem.W.Frag} {mg : Str → Option Value} {base : Heap}
theorem ok_better (D : Def K mg "better" s_better ["web", "lot"]) (B : Bl mg) (N : Has P w K mg base 3 "need_web" ["value"] (spNeedWeb K)) (T : Has P w K mg base 6 "need_tree" ["web", "lot"] (spNeedTree K)) (A0 : Has P w K mg base 1 "all_ties" ["web"] (spAll K))
    (S : Has P w K mg base 1 "swapped" ["lot", "out", "more"] (spSwapped K)) (I : Has P w K mg base 5 "is_tree_of" ["web", "lot"] (spIsTree K)) : Has P w K mg base 7 "better" ["web", "lot"] (spBetter K) := by
  refine has_of D sc_better (fun vs H Q E h => ?_) (fun f cdv A outer s H vs Q E hr h => ?_)
  · obtain ⟨wv, lt, n, ts, lot, rfl, _⟩ := h
    rfl
  · obtain ⟨wv, lt, n, ts, lot, rfl, L, htr, q0, q1⟩ := h
    refine ⟨_, pss_cons (ps_expr (pe_has N hr (pa_cons (pv 0) pa_nil))) (pss_cons (ps_expr (pe_has T hr (pa_cons (pv 0) (pa_cons (pv 1) pa_nil))))
      (pss_cons (ps_set (i := 2) sc_better.nd rfl (.inl rfl) (pe_lst pa_nil))
      (pss_cons (ps_for PassesOwn.never rfl (pi_tup (pv 1)) (pg_name (i := 3) sc_better.nd rfl (.inl rfl))
        (pss_one (ps_for PassesOwn.never rfl (pi_tup (pe_has A0 hr (pa_cons (pv 0) pa_nil))) (pg_name (i := 4) sc_better.nd rfl (.inl rfl))
          (pss_cons (ps_set (i := 5) sc_better.nd rfl (.inl rfl) (pe_op op_sub (pe_ix ix_tup (pe_ix ix_tup (pe_ix ix_tup (pv 0) pe_int (fun _ _ => rfl)) (pv 3) (fun _ _ => rfl)) pe_int (fun _ _ => rfl)) (pe_ix ix_tup (pe_ix ix_tup (pe_ix ix_tup (pv 0) pe_int (fun _ _ => rfl)) (pv 4) (fun _ _ => rfl)) pe_int (fun _ _ => rfl))))
          (pss_one (ps_if (PW.pt (pw_and (pt_cmpR op_notIn_seq (pv 4) (pv 1) rfl) (pw_and (pt_cmpR op_gt (pv 5) pe_int (nomark _)) (pw_and1 (pt_val (pe_has I hr (pa_cons (pv 0) (pa_cons (pe_has S hr (pa_cons (pv 1) (pa_cons (pv 3) (pa_cons (pv 4) pa_nil)))) pa_nil))))))))
            (pss_one (ps_expr (pe_bm PySem.F.plainAttrs_list PySem.F.slot_list_append PySem.F.type_list_append mt_append (pv 2) (pa_cons (pe_tup (pa_cons (pe_un un_neg (pv 5)) (pa_cons (pe_tup (pa_cons (pv 3) (pa_cons (pv 4) pa_nil))) pa_nil))) pa_nil)))) pss_nil))))))
      (pss_one (ps_ret (pe_ifExp (pt_cmpR (op_neD hr.units) (pv 2) (pe_lst pa_nil) (nomark _)) (pe_ix ix_tup (pe_callB (cr_minD rfl hr) (by rfl) B.min (by decide +kernel) (pa_cons (pv 2) pa_nil)) pe_int (fun _ _ => rfl)) pe_non)))))), ?_⟩
    have hl := L.ok.len
    have hfew := L.few
    refine ⟨_, rfl, wv, n, ts, rfl, L.web, L.ok, fun H1 s1 => ?_⟩
    refine ⟨_, rfl, _, rfl, wv, lt, n, ts, lot, rfl, L.same s1, htr, fun H2 s2 => ?_⟩
    have s12 := s1.trans s2
    refine ⟨Nat.zero_le _, fun tl htl => ?_⟩
    have h0 : H tl = none := s12.free htl
    have s3 : Same H (upd H2 tl (.lst [])) := s12.upd htl
    -- the loops
    refine ⟨_, rfl, lt, rfl, ⟨_, (L.same s3).seq⟩, for_tup (K := K) (a := lt) (xs := nVs lot) (fun i σ H' => ∃ y3 y4 y5, σ = [some (.ref wv), some (.ref lt), some (.ref tl), y3, y4, y5] ∧ Same H H' ∧ ToldAt K H' tl (κb ts) (cands (saves n ts lot) ts.length (lot.take i)))
      ⟨_, _, _, rfl, s3, ToldAt.nil _ upd_same⟩ (fun i σ H' _ ⟨_, _, _, _, sm, _⟩ => (L.same sm).seq) ?_ ?_⟩
    · rintro i y σ H3 hi ⟨y3, y4, y5, rfl, sm, hTo⟩
      obtain ⟨o, ho, rfl⟩ := nVs_get hi
      have hom := List.mem_of_getElem? ho
      have hol := L.inn _ hom
      have L3 := L.same sm
      refine ⟨_, rfl, wv, n, ts, rfl, L3.web, by omega, fun pa hpa => ?_⟩
      have hT0 : SqT K (upd H3 pa (.tup (nVs (List.range ts.length)))) pa (nVs (List.range ts.length)) := SqT.of upd_same
      have sa : Same H3 (upd H3 pa (.tup (nVs (List.range ts.length)))) := same_new hpa
      refine ⟨pa, rfl, ⟨_, hT0⟩, for_tup (K := K) (a := pa) (xs := nVs (List.range ts.length)) (fun j σ H' => ∃ y4 y5, σ = [some (.ref wv), some (.ref lt), some (.ref tl), some (nV o), y4, y5] ∧ Same H H' ∧ SqT K H' pa (nVs (List.range ts.length)) ∧ ToldAt K H' tl (κb ts) (cands (saves n ts lot) ts.length (lot.take i) ++ ((List.range j).filter (saves n ts lot o)).map fun m => (o, m)))
        ⟨_, _, rfl, sm.trans sa, hT0, by rw [show ((List.range 0).filter (saves n ts lot o)).map (fun m => ((o, m) : Ex)) = [] from rfl, List.append_nil]; exact hTo.same sa.extN⟩ (fun j σ H' _ ⟨_, _, _, _, h, _⟩ => h) ?_ ?_⟩
      · rintro j z σ H4 hj ⟨y4, y5, rfl, sm4, hT4, hTo4⟩
        obtain ⟨m, hm, rfl⟩ := nVs_get hj
        have hjl : j < ts.length := by
          have := (List.getElem?_eq_some_iff.mp hm).1
          rwa [List.length_range] at this
        obtain rfl : m = j := by
          rw [List.getElem?_range hjl] at hm
          exact (Option.some.inj hm).symm
        have L4 := L.same sm4
        obtain ⟨t, as, eas, hwv, ht, hties⟩ := id L4.web
        obtain ⟨ad1, tie1, has1, hts1⟩ := as_get eas hol
        obtain ⟨ad2, tie2, has2, hts2⟩ := as_get eas hjl
        have e1 := (eu_at hts1).2.2
        have e2 := (eu_at hts2).2.2
        refine ⟨_, rfl, wv, _, 1, .ref t, rfl, rfl, hwv, rfl, _, rfl, t, _, _, .ref ad1, rfl, rfl, ht, atI_nat (as_at has1), ad1, _, 2, nV tie1.2.2, rfl, rfl, hties _ (List.mem_of_getElem? has1), rfl, ?_⟩
        refine ⟨_, rfl, wv, _, 1, .ref t, rfl, rfl, hwv, rfl, _, rfl, t, _, _, .ref ad2, rfl, rfl, ht, atI_nat (as_at has2), ad2, _, 2, nV tie2.2.2, rfl, rfl, hties _ (List.mem_of_getElem? has2), rfl, _, _, rfl, rfl, ?_⟩
        have hclen : (cands (saves n ts lot) ts.length (lot.take i) ++ ((List.range m).filter (saves n ts lot o)).map fun m => ((o, m) : Ex)).length ≤ 100000 - 1 := by
          have h1 := cands_len (saves n ts lot) ts.length (lot.take i)
          have h2 : ((List.range m).filter (saves n ts lot o)).length ≤ m := Nat.le_trans (List.length_filter_le _ _) (by rw [List.length_range]; exact Nat.le_refl _)
          have h3 : (lot.take i).length ≤ 20 := by rw [List.length_take]; omega
          have h4 : (lot.take i).length * ts.length ≤ 20 * 20 := Nat.mul_le_mul h3 hl
          rw [List.length_append, List.length_map]
          omega
        have skip : ∀ (H5 : Hp) (y5 : Option V), Same H4 H5 → saves n ts lot o m = false → (fun σ H' => ∃ y4 y5, σ = [some (V.ref wv), some (.ref lt), some (.ref tl), some (nV o), y4, y5] ∧ Same H H' ∧ SqT K H' pa (nVs (List.range ts.length)) ∧ ToldAt K H' tl (κb ts) (cands (saves n ts lot) ts.length (lot.take i) ++ ((List.range (m + 1)).filter (saves n ts lot o)).map fun m => (o, m))) [some (V.ref wv), some (.ref lt), some (.ref tl), some (nV o), some (nV m), y5] H5 := fun H5 y5 s5 hs => by
          refine ⟨_, _, rfl, sm4.trans s5, s5.tup hT4, ?_⟩
          rw [filt_succ, if_neg (by rw [hs]; exact Bool.false_ne_true), List.append_nil]
          exact hTo4.same s5.extN
        -- more not in lot
        refine ⟨_, rfl, _, rfl, lt, _, rfl, .inr L4.seq, rfl, flat_nats lot, _, rfl, ?_⟩
        show if (if true = true then !inV (nV m) (nVs lot) else inV (nV m) (nVs lot)) = true then _ else _
        rw [if_pos rfl, inV_nat]
        by_cases hmem : m ∈ lot
        · rw [decide_eq_true hmem]
          refine iteF (iteF ?_)
          exact skip H4 _ (Same.refl _) (by unfold saves; rw [decide_eq_false (fun z => z hmem)]; rfl)
        · rw [decide_eq_false hmem]
          refine iteT ?_
          -- saved > 0
          refine ⟨_, rfl, _, 0, rfl, rfl, _, rfl, ?_⟩
          by_cases hs : ep ts m < ep ts o
          · rw [decide_eq_true (show (0 : Int) < (tie1.2.2 : Int) - (tie2.2.2 : Int) by omega)]
            refine iteT ?_
            -- is_tree_of(web, swapped(lot, out, more))
            refine ⟨_, rfl, _, rfl, _, rfl, _, rfl, lt, lot, o, m, rfl, L4.seq, L.asc, by omega, fun H5 p5 s5 n5 h5 => ?_⟩
            have L5 := L4.same s5
            refine ⟨wv, p5, n, ts, KM.swp lot o m, rfl, ⟨L5.web, L5.ok, .inr (SqT.of h5), fun x hx => ?_, ?_⟩, fun H6 s6 => ⟨_, rfl, ?_⟩⟩
            · rcases KM.mem_swp.mp hx with h | h
              · exact L.inn x h.1
              · rw [h]; exact hjl
            · rw [KM.swp_len L.asc hom]
              omega
            · have s56 := s5.trans s6
              have es : saves n ts lot o m = isT n ts (KM.swp lot o m) := by
                unfold saves
                rw [decide_eq_true hmem, decide_eq_true hs]
                rfl
              by_cases hst : isT n ts (KM.swp lot o m) = true
              · rw [hst]
                refine iteT ?_
                obtain ⟨zs, hzs, hzl⟩ : ∃ zs, H6 tl = some (.lst zs) ∧ zs.length ≤ 100000 - 1 := by
                  obtain ⟨ps, g1, g2, _⟩ := hTo4
                  refine ⟨_, s56 _ _ g2, ?_⟩
                  rw [List.length_map]
                  have := congrArg List.length g1
                  rw [List.length_map] at this
                  rw [this]
                  exact hclen
                refine ⟨_, rfl, .inl ⟨rfl, _, SqL.of hzs⟩, _, rfl, _, rfl, _, rfl, _, rfl, (by show 2 ≤ sizeLine; decide), fun p7 hp7 => ⟨(by show 2 ≤ sizeLine; decide), fun p8 hp8 => ?_⟩⟩
                have s7 : Same H6 (upd H6 p7 (.tup [nV o, nV m])) := same_new hp7
                have s8 := s7.upd (o := .tup [V.int (-((tie1.2.2 : Int) - (tie2.2.2 : Int))), .ref p7]) hp8
                refine ⟨tl, zs, _, rfl, rfl, s8 _ _ hzs, szlt (by omega), ?_⟩
                have s48 := s56.trans s8
                refine ⟨_, _, rfl, (sm4.trans s48).set h0, sqT_upd (s8 _ _ hzs) (s48.tup hT4), ?_⟩
                rw [filt_succ, if_pos (by rw [es]; exact hst), ← List.append_assoc]
                refine (hTo4.same s48.extN).add (s8 _ _ hzs) (q := p7) ?_ ?_
                · refine SqT.of ?_
                  rw [upd_same]
                  unfold κb
                  rw [e1, e2]
                · refine SqT.of ?_
                  rw [upd_ne (ne_of_none upd_same hp8), upd_same]
              · have hst : isT n ts (KM.swp lot o m) = false := by
                  cases z : isT n ts (KM.swp lot o m)
                  · rfl
                  · exact (hst z).elim
                rw [hst]
                refine iteF ?_
                exact skip H6 _ s56 (by rw [es]; exact hst)
          · rw [decide_eq_false (show ¬ (0 : Int) < (tie1.2.2 : Int) - (tie2.2.2 : Int) by omega)]
            refine iteF (iteF ?_)
            exact skip H4 _ (Same.refl _) (by unfold saves; rw [decide_eq_true hmem, decide_eq_false hs]; rfl)
      · rintro σ H4 ⟨y4, y5, rfl, sm4, hT4, hTo4⟩
        refine ⟨_, _, _, rfl, sm4, ?_⟩
        rw [take_next ho, cands_snoc]
        have e : (nVs (List.range ts.length)).length = ts.length := by rw [List.length_map, List.length_range]
        rw [e] at hTo4
        exact hTo4
    · rintro σ H3 ⟨y3, y4, y5, rfl, sm, hTo⟩
      have e : (nVs lot).length = lot.length := List.length_map _
      rw [e, List.take_length] at hTo
      refine ⟨_, rfl, Nat.zero_le _, fun l hl2 => ?_⟩
      have sl : Same H3 (upd H3 l (.lst [])) := same_new hl2
      refine ⟨_, .list [], (hTo.same sl.extN).dp, .lst (SqL.of upd_same) .nil, shaped_list _ (encX_lay _) (fun b => Nat.le_trans (encX_dep _ b) (by decide)) _, rfl, _, rfl, ?_⟩
      rw [eqv_nil]
      cases hc : cands (saves n ts lot) ts.length lot with
      | nil => exact iteF (q0 hc _ (sm.trans sl))
      | cons c cs =>
        rw [hc] at hTo
        refine iteT ?_
        refine ⟨_, rfl, ?_⟩
        unfold tNil
        dsimp only
        show rMinD K [V.ref tl] (upd H3 l (.lst [])) _
        refine (hTo.same sl.extN).min fun p r x hx h1 h2 => ⟨p, _, 1, .ref r, rfl, rfl, h1, rfl, ?_⟩
        exact q1 _ r x (sm.trans sl) (by rw [hc]; exact hx) h2
end
end KW
namespace KW
open PySem PySem.Spec PyProof.Rows L2
open LamX (ExtN Tabs TabB)
/-! ### the law's draws -/
/-- all but what stands at a is as it was -/
def But (a : Addr) (H H' : Hp) : Prop := ∀ b, b ≠ a → H' b = H b
theorem But.refl (a : Addr) (H : Hp) : But a H H := fun _ _ => rfl
theorem But.upd {a : Addr} {H H' : Hp} {o : HO} (h : But a H H') : But a H (L2.upd H' a o) := fun b hb => by rw [upd_ne hb]; exact h b hb
theorem But.trans {a : Addr} {H H1 H2 : Hp} (h : But a H H1) (k : But a H1 H2) : But a H H2 := fun b hb => (k b hb).trans (h b hb)
theorem sqL_ne {K : PySem.W.Frag} {a b : Addr} {H H' : Hp} {xs : List V} (h : But a H H') (hb : b ≠ a) (s : SqL K H b xs) : SqL K H' b xs := by
  rcases s with (s | ⟨o, s⟩) | s
  · exact .inl (.inl ((h b hb).trans s))
  · exact .inl (.inr ⟨o, (h b hb).trans s⟩)
  · exact .inr s
theorem sqL_row {K : PySem.W.Frag} {H H' : Hp} {rw sc : Addr} {vs : List V} {ns : List Int} (h : But rw H H') (hr : H rw = some (.lst (.ref sc :: vs))) (s : SqL K H sc (ns.map V.int)) : SqL K H' sc (ns.map V.int) := by
  rcases s with (s | ⟨o, s⟩) | s
  · refine .inl (.inl ((h sc fun z => ?_).trans s))
    rw [z] at s
    have e := hr.symm.trans s
    injection e with e
    injection e with e
    cases ns with
    | nil => cases e
    | cons x r =>
      injection e with e _
      cases e
  · refine .inl (.inr ⟨o, (h sc fun z => ?_).trans s⟩)
    rw [z, hr] at s
    cases s
  · exact .inr s
/-- at rw the state of the draws: the script, its place, the seed, a cell's rest -/
def RowAt (K : PySem.W.Frag) (H : Hp) (rw : Addr) : Prop :=
  ∃ (sc : Addr) (ns : List Int) (at' sd rs : Int), H rw = some (.lst [.ref sc, .int at', .int sd, .int rs]) ∧ SqL K H sc (ns.map V.int) ∧ 0 ≤ at' ∧ 0 ≤ sd ∧ sd < 2147483647
def spTaken (K : PySem.W.Frag) : Sp := fun vs H Q _ => ∃ (rw : Addr) (m : Nat), vs = [.ref rw, nV m] ∧ RowAt K H rw ∧ 1 ≤ m ∧ m ≤ 100000 ∧ ∀ r H', r < m → RowAt K H' rw → But rw H H' → Q (nV r) H'
def spPick (K : PySem.W.Frag) : Sp := fun vs H Q _ => ∃ (rw tl : Addr) (xs : List V), vs = [.ref rw, .ref tl] ∧ RowAt K H rw ∧ SqL K H tl xs ∧ tl ≠ rw ∧ xs ≠ [] ∧ xs.length ≤ 100000 ∧ ∀ x H', x ∈ xs → RowAt K H' rw → But rw H H' → Q x H'
theorem sc_taken : FnScope ["_law_row", "_law_many", "_law_found", "_law_cell"] ["_law_row", "_law_many"] (defScope s_taken) := ⟨rfl, rfl, rfl, by decide +kernel, rfl, by decide +kernel, by decide +kernel⟩
theorem sc_pick : FnScope ["_law_row", "_law_things"] ["_law_row", "_law_things"] (defScope s_pick) := ⟨rfl, rfl, rfl, by decide +kernel, rfl, by decide +kernel, by decide +kernel⟩
theorem mod_nat (i : Int) {m : Nat} (h : 1 ≤ m) : ∃ r : Nat, r < m ∧ i % (m : Int) = (r : Int) := by
  have h1 := Int.emod_nonneg i (show (m : Int) ≠ 0 by omega)
  have h2 := Int.emod_lt_of_pos i (show (0 : Int) < (m : Int) by omega)
  exact ⟨(i % (m : Int)).toNat, by omega, by omega⟩
section
variable {P : Program} {w : World} {K : PySem.W.Frag} {mg : Str → Option Value} {base : Heap}
theorem ok_taken (D : Def K mg "_law_taken" s_taken ["_law_row", "_law_many"]) (B : Bl mg) : Has P w K mg base 1 "_law_taken" ["_law_row", "_law_many"] (spTaken K) := by
  refine has_of D sc_taken (fun vs H Q E h => ?_) (fun f cdv A outer s H vs Q E hr h => ?_)
  · obtain ⟨rw, m, rfl, _⟩ := h
    rfl
  · obtain ⟨rw, m, rfl, ⟨sc, ns, at', sd, rs, hrw, hsc, a0, d0, d1⟩, m1, m2, q⟩ := h
    have hsq : ∀ {H'' : Hp}, But rw H H'' → SqL K H'' sc (ns.map V.int) := fun b => sqL_row b hrw hsc
    have hm0 : (0 : Int) < (m : Int) := by omega
    have hm1 : (0 : Int) < (m : Int) ∧ (m : Int) < 1073741824 := ⟨by omega, by omega⟩
    refine ⟨_, pss_cons (ps_if (pt_cmpR op_gt (pe_ix ix_list (pv 0) pe_int (fun _ _ => rfl)) pe_int (nomark _))
        (pss_cons (ps_set (i := 2) sc_taken.nd rfl (.inl rfl) (pe_op op_mod (pe_callTy call_int1 (by rfl) B.int (by decide +kernel) (pa_cons (pe_ix ix_list (pv 0) pe_int (fun _ _ => rfl)) pa_nil)) (pv 1)))
        (pss_cons (ps_asg (pe_op op_fdiv (pe_ix ix_list (pv 0) pe_int (fun _ _ => rfl)) (pv 1)) (pg_sub (pv 0) pe_int set_list))
        (pss_one (ps_ret (pv 2))))) pss_nil)
      (pss_cons (ps_asg (pe_op op_add (pe_ix ix_list (pv 0) pe_int (fun _ _ => rfl)) pe_int) (pg_sub (pv 0) pe_int set_list))
      (pss_cons (ps_if (pt_cmpR op_gt (pe_ix ix_list (pv 0) pe_int (fun _ _ => rfl)) (pe_callB call_len_seq (by rfl) B.len (by decide +kernel) (pa_cons (pe_ix ix_list (pv 0) pe_int (fun _ _ => rfl)) pa_nil)) (nomark _))
        (pss_cons (ps_asg (pe_op op_mod (pe_callTy call_int1 (by rfl) B.int (by decide +kernel) (pa_cons (pe_op op_add (pe_op op_mul (pe_ix ix_list (pv 0) pe_int (fun _ _ => rfl)) pe_int) pe_int) pa_nil)) pe_int) (pg_sub (pv 0) pe_int set_list))
        (pss_one (ps_ret (pe_op op_mod (pe_callTy call_int1 (by rfl) B.int (by decide +kernel) (pa_cons (pe_op op_fdiv (pe_ix ix_list (pv 0) pe_int (fun _ _ => rfl)) pe_int) pa_nil)) (pv 1))))) pss_nil)
      (pss_cons (ps_set (i := 3) sc_taken.nd rfl (.inl rfl) (pe_ix ix_list (pe_ix ix_list (pv 0) pe_int (fun _ _ => rfl)) (pe_op op_sub (pe_ix ix_list (pv 0) pe_int (fun _ _ => rfl)) pe_int) (fun _ _ => rfl)))
      (pss_cons (ps_asg (pe_op op_mod (pe_callTy call_int1 (by rfl) B.int (by decide +kernel) (pa_cons (pe_op op_add (pe_op op_add (pe_op op_mul (pe_ix ix_list (pv 0) pe_int (fun _ _ => rfl)) pe_int) (pv 3)) pe_int) pa_nil)) pe_int) (pg_sub (pv 0) pe_int set_list))
      (pss_cons (ps_if (pt_cmpR op_ge (pv 3) (pe_op op_pow pe_int pe_int) (nomark _))
        (pss_one (ps_asg (pe_op op_fdiv (pv 3) (pv 1)) (pg_sub (pv 0) pe_int set_list))) pss_nil)
      (pss_one (ps_ret (pe_op op_mod (pe_callTy call_int1 (by rfl) B.int (by decide +kernel) (pa_cons (pv 3) pa_nil)) (pv 1))))))))), ?_⟩
    -- if row[3] > 0
    refine ⟨_, rfl, rw, _, 3, .int rs, rfl, rfl, SqL.of hrw, rfl, _, 0, rfl, rfl, _, rfl, ite2 (fun h => ?_) (fun h => ?_)⟩
    · obtain ⟨r, hr1, er⟩ := mod_nat rs m1
      refine ⟨_, rfl, rw, _, 3, .int rs, rfl, rfl, SqL.of hrw, rfl, .inl ⟨rs, rfl, ?_⟩⟩
      refine ⟨_, rfl, _, _, rfl, rfl, hm0, ?_⟩
      refine ⟨_, rfl, rw, _, 3, .int rs, rfl, rfl, SqL.of hrw, rfl, _, rfl, _, _, rfl, rfl, hm1, ?_⟩
      refine ⟨_, rfl, rw, _, 3, 3, rfl, rfl, hrw, rfl, ?_⟩
      refine ⟨_, rfl, ?_⟩
      show Q (V.int (rs % (m : Int))) _
      rw [er]
      refine q r _ hr1 ⟨sc, ns, at', sd, rs / (m : Int), upd_same, hsq (But.refl rw H).upd, a0, d0, d1⟩ (But.refl rw H).upd
    · -- row[1] = row[1] + 1
      refine ⟨_, rfl, rw, _, 1, .int at', rfl, rfl, SqL.of hrw, rfl, _, 1, rfl, rfl, ?_⟩
      refine ⟨_, rfl, rw, _, 1, 1, rfl, rfl, hrw, rfl, ?_⟩
      have b1 : But rw H (upd H rw (.lst [.ref sc, .int (at' + 1), .int sd, .int rs])) := (But.refl rw H).upd
      have hs1 := hsq b1
      have h1 : (upd H rw (.lst [.ref sc, .int (at' + 1), .int sd, .int rs])) rw = some (.lst [.ref sc, .int (at' + 1), .int sd, .int rs]) := upd_same
      refine ⟨_, rfl, rw, _, 1, .int (at' + 1), rfl, rfl, SqL.of h1, rfl, _, rfl, rw, _, 0, .ref sc, rfl, rfl, SqL.of h1, rfl, sc, _, rfl, .inl hs1, _, _, rfl, rfl, _, rfl, ite2 (fun h2 => ?_) (fun h2 => ?_)⟩
      · -- beyond the script
        refine ⟨_, rfl, rw, _, 2, .int sd, rfl, rfl, SqL.of h1, rfl, _, 48271, rfl, rfl, .inl ⟨by omega, by omega⟩, _, 11, rfl, rfl, .inl ⟨_, rfl, ?_⟩⟩
        refine ⟨_, _, rfl, rfl, (by show (0 : Int) < 2147483647; decide), ?_⟩
        refine ⟨_, rfl, rw, _, 2, 2, rfl, rfl, h1, rfl, ?_⟩
        rw [upd_upd]
        have h3 : (upd H rw (.lst ([.ref sc, .int (at' + 1), .int sd, .int rs].set 2 (.int ((sd * 48271 + 11) % 2147483647))))) rw = some (.lst [.ref sc, .int (at' + 1), .int ((sd * 48271 + 11) % 2147483647), .int rs]) := upd_same
        refine ⟨_, rfl, rw, _, 2, .int ((sd * 48271 + 11) % 2147483647), rfl, rfl, SqL.of h3, rfl, _, 7, rfl, rfl, ⟨by decide, by decide⟩, .inl ⟨_, rfl, ?_⟩⟩
        refine ⟨_, rfl, _, _, rfl, rfl, hm0, ?_⟩
        obtain ⟨r, hr1, er⟩ := mod_nat ((sd * 48271 + 11) % 2147483647 / 7) m1
        show Q (V.int ((sd * 48271 + 11) % 2147483647 / 7 % (m : Int))) _
        rw [er]
        have b2 : But rw H (upd H rw (.lst ([.ref sc, .int (at' + 1), .int sd, .int rs].set 2 (.int ((sd * 48271 + 11) % 2147483647))))) := (But.refl rw H).upd
        exact q r _ hr1 ⟨sc, ns, at' + 1, _, rs, h3, hsq b2, by omega, Int.emod_nonneg _ (by decide), Int.emod_lt_of_pos _ (by decide)⟩ b2
      · -- a cell
        have h2 : ¬ ((ns.map V.int).length : Int) < at' + 1 := fun z => h2 (decide_eq_true z)
        rw [List.length_map] at h2
        have hat : at'.toNat < ns.length := by omega
        have hcell : (ns.map V.int)[at'.toNat]? = some (.int ns[at'.toNat]) := by
          rw [List.getElem?_map, List.getElem?_eq_getElem hat]
          rfl
        refine ⟨_, rfl, rw, _, 0, .ref sc, rfl, rfl, SqL.of h1, rfl, _, rfl, rw, _, 1, .int (at' + 1), rfl, rfl, SqL.of h1, rfl, _, 1, rfl, rfl, sc, _, _, .int ns[at'.toNat], rfl, rfl, hs1, at_of (j := at'.toNat) (by omega) hcell, ?_⟩
        generalize ns[at'.toNat] = cell
        refine ⟨_, rfl, rw, _, 2, .int sd, rfl, rfl, SqL.of h1, rfl, _, 48271, rfl, rfl, .inl ⟨by omega, by omega⟩, _, rfl, _, cell, rfl, rfl, _, 11, rfl, rfl, .inl ⟨_, rfl, ?_⟩⟩
        refine ⟨_, _, rfl, rfl, (by show (0 : Int) < 2147483647; decide), ?_⟩
        refine ⟨_, rfl, rw, _, 2, 2, rfl, rfl, h1, rfl, ?_⟩
        rw [upd_upd]
        have h3 : (upd H rw (.lst ([.ref sc, .int (at' + 1), .int sd, .int rs].set 2 (.int ((sd * 48271 + cell + 11) % 2147483647))))) rw = some (.lst [.ref sc, .int (at' + 1), .int ((sd * 48271 + cell + 11) % 2147483647), .int rs]) := upd_same
        have b2 : But rw H (upd H rw (.lst ([.ref sc, .int (at' + 1), .int sd, .int rs].set 2 (.int ((sd * 48271 + cell + 11) % 2147483647))))) := (But.refl rw H).upd
        have d2 := Int.emod_nonneg (sd * 48271 + cell + 11) (show (2147483647 : Int) ≠ 0 by decide)
        have d3 := Int.emod_lt_of_pos (sd * 48271 + cell + 11) (show (0 : Int) < 2147483647 by decide)
        obtain ⟨r, hr1, er⟩ := mod_nat cell m1
        refine ⟨_, rfl, 10, 18, rfl, rfl, ⟨by decide, by decide, by decide⟩, _, _, rfl, rfl, _, rfl, ite2 (fun h4 => ?_) (fun h4 => ?_)⟩
        · refine ⟨_, rfl, _, rfl, cell, _, rfl, rfl, hm1, ?_⟩
          refine ⟨_, rfl, rw, _, 3, 3, rfl, rfl, h3, rfl, ?_⟩
          rw [upd_upd]
          refine ⟨_, rfl, .inl ⟨_, rfl, ?_⟩⟩
          refine ⟨_, rfl, _, _, rfl, rfl, hm0, ?_⟩
          show Q (V.int (cell % (m : Int))) _
          rw [er]
          have b3 : But rw H (upd H rw (.lst ([.ref sc, .int (at' + 1), .int ((sd * 48271 + cell + 11) % 2147483647), .int rs].set 3 (.int (cell / (m : Int)))))) := (But.refl rw H).upd
          exact q r _ hr1 ⟨sc, ns, at' + 1, _, _, upd_same, hsq b3, by omega, d2, d3⟩ b3
        · refine ⟨_, rfl, .inl ⟨_, rfl, ?_⟩⟩
          refine ⟨_, rfl, _, _, rfl, rfl, hm0, ?_⟩
          show Q (V.int (cell % (m : Int))) _
          rw [er]
          exact q r _ hr1 ⟨sc, ns, at' + 1, _, rs, h3, hsq b2, by omega, d2, d3⟩ b2
theorem ok_pick (D : Def K mg "_law_pick" s_pick ["_law_row", "_law_things"]) (B : Bl mg) (T : Has P w K mg base 1 "_law_taken" ["_law_row", "_law_many"] (spTaken K)) : Has P w K mg base 2 "_law_pick" ["_law_row", "_law_things"] (spPick K) := by
  refine has_of D sc_pick (fun vs H Q E h => ?_) (fun f cdv A outer s H vs Q E hr h => ?_)
  · obtain ⟨rw, tl, xs, rfl, _⟩ := h
    rfl
  · obtain ⟨rw, tl, xs, rfl, hR, hL, hne, hx, hlen, q⟩ := h
    refine ⟨_, pss_one (ps_ret (pe_ix ix_list (pv 1) (pe_has T hr (pa_cons (pv 0) (pa_cons (pe_callB call_len_seq (by rfl) B.len (by decide +kernel) (pa_cons (pv 1) pa_nil)) pa_nil))) (fun _ _ => rfl))), ?_⟩
    have h1 : 1 ≤ xs.length := List.length_pos_iff.mpr hx
    refine ⟨_, rfl, _, rfl, _, rfl, tl, xs, rfl, .inl hL, rw, xs.length, rfl, hR, h1, hlen, fun r H' hr1 hR' hB => ?_⟩
    refine ⟨tl, xs, _, xs[r], rfl, rfl, sqL_ne hB hne hL, atI_nat (List.getElem?_eq_getElem hr1), ?_⟩
    exact q _ H' (List.getElem_mem hr1) hR' hB
end
end KW
namespace KW
open PySem PySem.Spec PyProof.Rows L2
open LamX (ExtN Tabs TabB)
/-! ### the law's labels: the mathematics -/
/-- a tie's ends get the lesser label -/
def relax (l : List Nat) (e : Nat × Nat) : List Nat := (l.set e.1 (min (l.getD e.1 0) (l.getD e.2 0))).set e.2 (min (l.getD e.1 0) (l.getD e.2 0))
def rnd (es : List (Nat × Nat)) (l : List Nat) : List Nat := es.foldl relax l
def rnds (es : List (Nat × Nat)) (l : List Nat) : Nat → List Nat
  | 0 => l
  | k + 1 => rnd es (rnds es l k)
theorem cnt_one' {n : Nat} {r : Nat → Nat} (le : ∀ p, r p ≤ p) (idm : ∀ p, r (r p) = r p) (hn : 0 < n) : KM.cnt n r = 1 ↔ ∀ p, p < n → r p = 0 := by
  have r0 : r 0 = 0 := Nat.le_zero.mp (le 0)
  unfold KM.cnt
  rw [KM.countP_one (f := fun p => decide (r p = p)) (decide_eq_true r0) hn]
  constructor
  · exact fun h p hp => h (r p) (Nat.lt_of_le_of_lt (le p) hp) (decide_eq_true (idm p))
  · intro h p hp hf
    have := h p hp
    have := of_decide_eq_true hf
    omega
theorem labp_closed {Z : Nat → Prop} {es : List (Nat × Nat)} (h : ∀ e ∈ es, Z e.1 ↔ Z e.2) : ∀ x, Z x ↔ Z (labp es x) := by
  induction es using KM.snoc_ind with
  | h0 => exact fun x => Iff.rfl
  | hs l e ih =>
    have ih := ih fun y hy => h y (List.mem_append_left _ hy)
    have he := h e (List.mem_append_right _ List.mem_cons_self)
    intro x
    rw [labp_snoc]
    have h1 := ih e.1
    have h2 := ih e.2
    have h3 := ih x
    unfold KM.stp
    by_cases hx : labp l x = max (labp l e.1) (labp l e.2)
    · rw [if_pos hx]
      rw [hx] at h3
      rcases Nat.le_total (labp l e.1) (labp l e.2) with q | q
      · rw [Nat.max_eq_right q] at h3
        rw [Nat.min_eq_left q, h3, ← h2, ← he, h1]
      · rw [Nat.max_eq_left q] at h3
        rw [Nat.min_eq_right q, h3, ← h1, he, h2]
    · rw [if_neg hx]
      exact h3
/-- what holds of the labels between two steps -/
structure Labels (n : Nat) (es : List (Nat × Nat)) (l : List Nat) : Prop where
  len : l.length = n
  z0 : l.getD 0 0 = 0
  cls : ∀ p, p < n → labp es (l.getD p 0) = labp es p
theorem labp_same {es : List (Nat × Nat)} {e : Nat × Nat} (he : e ∈ es) : labp es e.1 = labp es e.2 := by
  induction es using KM.snoc_ind with
  | h0 => cases he
  | hs l x ih =>
    rw [labp_snoc]
    rcases List.mem_append.mp he with h | h
    · have := ih h
      unfold KM.stp
      rw [this]
    · rw [List.mem_singleton.mp h]
      unfold KM.stp
      split <;> split <;> omega
theorem getD_set {l : List Nat} {i j z : Nat} (h : i < l.length) : (l.set i z).getD j 0 = if j = i then z else l.getD j 0 := by
  rw [List.getD_eq_getElem?_getD, List.getD_eq_getElem?_getD]
  by_cases e : j = i
  · subst e
    rw [if_pos rfl, List.getElem?_set_self h]
    rfl
  · rw [if_neg e, List.getElem?_set_ne (fun z => e z.symm)]
theorem relax_get {l : List Nat} {e : Nat × Nat} (h1 : e.1 < l.length) (h2 : e.2 < l.length) (p : Nat) : (relax l e).getD p 0 = if p = e.2 then min (l.getD e.1 0) (l.getD e.2 0) else if p = e.1 then min (l.getD e.1 0) (l.getD e.2 0) else l.getD p 0 := by
  unfold relax
  rw [getD_set (by rw [List.length_set]; exact h2), getD_set h1]
theorem Labels.relax {n : Nat} {es : List (Nat × Nat)} {l : List Nat} (L : Labels n es l) {e : Nat × Nat} (he : e ∈ es) (h1 : e.1 < n) (h2 : e.2 < n) : Labels n es (KW.relax l e) where
  len := by unfold KW.relax; rw [List.length_set, List.length_set]; exact L.len
  z0 := by
    rw [relax_get (by rw [L.len]; exact h1) (by rw [L.len]; exact h2)]
    have := L.z0
    split
    · rename_i q; rw [← q, this]; omega
    · split
      · rename_i q; rw [← q, this]; omega
      · exact this
  cls := fun p hp => by
    rw [relax_get (by rw [L.len]; exact h1) (by rw [L.len]; exact h2)]
    have c1 := L.cls e.1 h1
    have c2 := L.cls e.2 h2
    have c3 := labp_same he
    have key : labp es (min (l.getD e.1 0) (l.getD e.2 0)) = labp es e.1 := by
      rcases Nat.le_total (l.getD e.1 0) (l.getD e.2 0) with q | q
      · rw [Nat.min_eq_left q, c1]
      · rw [Nat.min_eq_right q, c2, c3]
    split
    · rename_i q; rw [q, key, c3]
    · split
      · rename_i q; rw [q, key]
      · exact L.cls p hp
theorem Labels.rnd {n : Nat} {es : List (Nat × Nat)} (hes : ∀ e ∈ es, e.1 < n ∧ e.2 < n) : ∀ (fs : List (Nat × Nat)) {l : List Nat}, (∀ e ∈ fs, e ∈ es) → Labels n es l → Labels n es (KW.rnd fs l)
  | [], _, _, L => L
  | e :: fs, l, h, L => by
    have he := h e List.mem_cons_self
    exact Labels.rnd hes fs (fun x hx => h x (List.mem_cons_of_mem _ hx)) (L.relax he (hes e he).1 (hes e he).2)
theorem Labels.start {n : Nat} (es : List (Nat × Nat)) (hn : 0 < n) : Labels n es (List.range n) where
  len := List.length_range
  z0 := by
    rw [List.getD_eq_getElem?_getD, List.getElem?_range hn]
    rfl
  cls := fun p hp => by
    rw [List.getD_eq_getElem?_getD, List.getElem?_range hp]
    rfl
/-- noughts stay -/
theorem rnd_zero {n : Nat} {es : List (Nat × Nat)} (hes : ∀ e ∈ es, e.1 < n ∧ e.2 < n) : ∀ (fs : List (Nat × Nat)) {l : List Nat}, (∀ e ∈ fs, e ∈ es) → l.length = n → ∀ p, l.getD p 0 = 0 → (KW.rnd fs l).getD p 0 = 0
  | [], _, _, _, p, h => h
  | e :: fs, l, hf, hl, p, h => by
    have he := hes e (hf e List.mem_cons_self)
    have hl2 : (relax l e).length = n := by unfold relax; rw [List.length_set, List.length_set]; exact hl
    refine rnd_zero hes fs (fun x hx => hf x (List.mem_cons_of_mem _ hx)) hl2 p ?_
    rw [relax_get (by omega) (by omega)]
    split
    · rename_i q; rw [← q, h]; omega
    · split
      · rename_i q; rw [← q, h]; omega
      · exact h
/-- a tie with a nought at one end: both ends behind the round -/
theorem rnd_both {n : Nat} {es : List (Nat × Nat)} (hes : ∀ e ∈ es, e.1 < n ∧ e.2 < n) : ∀ (fs : List (Nat × Nat)) {l : List Nat}, (∀ e ∈ fs, e ∈ es) → l.length = n → ∀ e ∈ fs, (l.getD e.1 0 = 0 ∨ l.getD e.2 0 = 0) → (KW.rnd fs l).getD e.1 0 = 0 ∧ (KW.rnd fs l).getD e.2 0 = 0
  | [], _, _, _, e, he, _ => nomatch he
  | x :: fs, l, hf, hl, e, he, h => by
    have hx := hes x (hf x List.mem_cons_self)
    have hl2 : (relax l x).length = n := by unfold relax; rw [List.length_set, List.length_set]; exact hl
    have hf2 : ∀ e ∈ fs, e ∈ es := fun y hy => hf y (List.mem_cons_of_mem _ hy)
    have keep : ∀ p, l.getD p 0 = 0 → (relax l x).getD p 0 = 0 := fun p hp => rnd_zero hes [x] (fun y hy => hf y (by rw [List.mem_singleton.mp hy]; exact List.mem_cons_self)) hl p hp
    rcases List.mem_cons.mp he with rfl | he
    · have both : (relax l e).getD e.1 0 = 0 ∧ (relax l e).getD e.2 0 = 0 := by
        rw [relax_get (by omega) (by omega), relax_get (by omega) (by omega)]
        have : min (l.getD e.1 0) (l.getD e.2 0) = 0 := by omega
        rw [this]
        refine ⟨?_, by rw [if_pos rfl]⟩
        split
        · rfl
        · rw [if_pos rfl]
      exact ⟨rnd_zero hes fs hf2 hl2 _ both.1, rnd_zero hes fs hf2 hl2 _ both.2⟩
    · exact rnd_both hes fs hf2 hl2 e he (h.imp (keep _) (keep _))
theorem countP_lt {f g : Nat → Bool} {l : List Nat} (h : ∀ p ∈ l, f p = true → g p = true) {q : Nat} (hq : q ∈ l) (h1 : f q = false) (h2 : g q = true) : l.countP f < l.countP g := by
  induction l with
  | nil => cases hq
  | cons x r ih =>
    have hm : r.countP f ≤ r.countP g := List.countP_mono_left fun p hp => h p (List.mem_cons_of_mem _ hp)
    rw [List.countP_cons, List.countP_cons]
    rcases List.mem_cons.mp hq with rfl | hq
    · rw [h1, h2]
      simp
      omega
    · have := ih (fun p hp => h p (List.mem_cons_of_mem _ hp)) hq
      have hx := h x List.mem_cons_self
      cases hfx : f x with
      | false =>
        have : (if g x = true then 1 else 0) ≥ (0 : Nat) := Nat.zero_le _
        simp
        omega
      | true =>
        rw [hx hfx]
        simp
        omega
/-- how many noughts -/
def zs (n : Nat) (l : List Nat) : Nat := (List.range n).countP fun p => decide (l.getD p 0 = 0)
theorem rnd_grows {n : Nat} {es : List (Nat × Nat)} (hes : ∀ e ∈ es, e.1 < n ∧ e.2 < n) (hn : 0 < n) (hc : KM.cnt n (labp es) = 1) {l : List Nat} (L : Labels n es l) (h : zs n l < n) : zs n l < zs n (KW.rnd es l) := by
  have all0 := (cnt_one' (labp_le es) (labp_idem es) hn).mp hc
  have : ∃ e, e ∈ es ∧ ¬ (l.getD e.1 0 = 0 ↔ l.getD e.2 0 = 0) := Classical.byContradiction fun no => by
    have cl : ∀ e ∈ es, l.getD e.1 0 = 0 ↔ l.getD e.2 0 = 0 := fun e he => Classical.byContradiction fun z => no ⟨e, he, z⟩
    have key := labp_closed (Z := fun p => l.getD p 0 = 0) cl
    have full : zs n l = n := by
      unfold zs
      rw [List.countP_eq_length.mpr, List.length_range]
      intro p hp
      have hp := List.mem_range.mp hp
      refine decide_eq_true ((key p).mpr ?_)
      show l.getD (labp es p) 0 = 0
      rw [all0 p hp]
      exact L.z0
    omega
  obtain ⟨e, he, hne⟩ := this
  have hb := hes e he
  have two := rnd_both hes es (fun _ h => h) L.len e he
  unfold zs
  by_cases h1 : l.getD e.1 0 = 0
  · have h2 : ¬ l.getD e.2 0 = 0 := fun z => hne ⟨fun _ => z, fun _ => h1⟩
    exact countP_lt (fun p _ hp => decide_eq_true (rnd_zero hes es (fun _ h => h) L.len p (of_decide_eq_true hp))) (q := e.2) (List.mem_range.mpr hb.2) (decide_eq_false h2) (decide_eq_true (two (.inl h1)).2)
  · have h2 : l.getD e.2 0 = 0 := Classical.byContradiction fun z => hne ⟨fun y => (h1 y).elim, fun y => (z y).elim⟩
    exact countP_lt (fun p _ hp => decide_eq_true (rnd_zero hes es (fun _ h => h) L.len p (of_decide_eq_true hp))) (q := e.1) (List.mem_range.mpr hb.1) (decide_eq_false h1) (decide_eq_true (two (.inr h2)).1)
theorem rnds_labels {n : Nat} {es : List (Nat × Nat)} (hes : ∀ e ∈ es, e.1 < n ∧ e.2 < n) (hn : 0 < n) : ∀ k, Labels n es (rnds es (List.range n) k)
  | 0 => Labels.start es hn
  | k + 1 => Labels.rnd hes es (fun _ h => h) (rnds_labels hes hn k)
theorem rnds_grow {n : Nat} {es : List (Nat × Nat)} (hes : ∀ e ∈ es, e.1 < n ∧ e.2 < n) (hn : 0 < n) (hc : KM.cnt n (labp es) = 1) : ∀ k, k ≤ n → k ≤ zs n (rnds es (List.range n) k)
  | 0, _ => Nat.zero_le _
  | k + 1, h => by
    have ih := rnds_grow hes hn hc k (by omega)
    by_cases q : zs n (rnds es (List.range n) k) < n
    · have := rnd_grows hes hn hc (rnds_labels hes hn k) q
      show k + 1 ≤ zs n (KW.rnd es (rnds es (List.range n) k))
      omega
    · have : zs n (rnds es (List.range n) k) ≤ zs n (KW.rnd es (rnds es (List.range n) k)) := List.countP_mono_left fun p _ hp => decide_eq_true (rnd_zero hes es (fun _ h => h) (rnds_labels hes hn k).len p (of_decide_eq_true hp))
      show k + 1 ≤ zs n (KW.rnd es (rnds es (List.range n) k))
      omega
/-- behind n rounds: all noughts, exactly if there is one part -/
theorem rnds_flat {n : Nat} {es : List (Nat × Nat)} (hes : ∀ e ∈ es, e.1 < n ∧ e.2 < n) (hn : 0 < n) : (∀ x ∈ rnds es (List.range n) n, x = 0) ↔ KM.cnt n (labp es) = 1 := by
  have L := rnds_labels hes hn n
  constructor
  · intro h
    rw [cnt_one' (labp_le es) (labp_idem es) hn]
    intro p hp
    have hx : (rnds es (List.range n) n).getD p 0 = 0 := by
      rw [List.getD_eq_getElem?_getD, List.getElem?_eq_getElem (by rw [L.len]; exact hp)]
      exact h _ (List.getElem_mem _)
    have := L.cls p hp
    rw [hx] at this
    have := labp_le es 0
    omega
  · intro hc
    have g := rnds_grow hes hn hc n (Nat.le_refl n)
    have le : zs n (rnds es (List.range n) n) ≤ n := by
      unfold zs
      refine Nat.le_trans List.countP_le_length ?_
      rw [List.length_range]
      exact Nat.le_refl _
    have e : zs n (rnds es (List.range n) n) = (List.range n).length := by rw [List.length_range]; omega
    unfold zs at e
    rw [List.countP_eq_length] at e
    intro x hx
    obtain ⟨i, hi, rfl⟩ := List.mem_iff_getElem.mp hx
    have := of_decide_eq_true (e i (List.mem_range.mpr (by rw [← L.len]; exact hi)))
    rw [List.getD_eq_getElem?_getD, List.getElem?_eq_getElem hi] at this
    exact this
end KW
namespace KW
open PySem PySem.Spec PyProof.Rows L2
open LamX (ExtN Tabs TabB)
/-! ### the law's parts -/
def retE (st : Stmt) : Expr := match (defBody st).getLast? with
  | some (.Return (some e) _) => e
  | _ => .Constant .none 0 ⟨0, 0, 0, 0⟩
def lcScope : Expr → Scope
  | .ListComp _ _ sc _ => sc
  | _ => { kind := .function, names := [], isGenerator := false, isCoroutine := false }
def spLParts (K : PySem.W.Frag) : Sp := fun vs H Q _ => ∃ (n : Nat) (pl : Addr) (es : List (Nat × Nat)), vs = [nV n, .ref pl] ∧ PairsAt K H pl es ∧ (∀ e ∈ es, e.1 < n ∧ e.2 < n) ∧ 1 ≤ n ∧ n ≤ 12 ∧
  ∀ H' p xs, Same H H' → H p = none → H' p = some (.lst xs) → (xs.length = 1 ↔ KM.cnt n (labp es) = 1) → Q (.ref p) H'
abbrev NP : List Str := ["_law_many", "_law_pairs_here", "_law_label", "_law_turn", "_law_a", "_law_b", "_law_least", "_law_root", "_law_place"]
theorem sc_lparts : FnScope NP ["_law_many", "_law_pairs_here"] (defScope s_lparts) := ⟨rfl, rfl, rfl, by decide +kernel, rfl, by decide +kernel, by decide +kernel⟩
theorem getD_at {l : List Nat} {i : Nat} (h : i < l.length) : l[i]? = some (l.getD i 0) := by
  rw [List.getD_eq_getElem?_getD, List.getElem?_eq_getElem h]
  rfl
section
variable {P : Program} {w : World} {K : PySem.W.Frag} {mg : Str → Option Value} {base : Heap}
theorem ok_lparts (D : Def K mg "_law_parts" s_lparts ["_law_many", "_law_pairs_here"]) (B : Bl mg) : Has P w K mg base 1 "_law_parts" ["_law_many", "_law_pairs_here"] (spLParts K) := by
  refine has_of D sc_lparts (fun vs H Q E h => ?_) (fun f cdv A outer s H vs Q E hr h => ?_)
  · obtain ⟨n, pl, es, rfl, _⟩ := h
    rfl
  · obtain ⟨n, pl, es, rfl, hP, hes, hn1, hn12, q⟩ := h
    refine ⟨_, pss_cons (ps_set (i := 2) sc_lparts.nd rfl (.inr rfl) (pe_listRg rfl (by rfl) B.lst (prg_1 (by rfl) B.rng (pv 0))))
      (pss_cons (ps_for PassesOwn.never rfl (pi_range1 (by rfl) B.rng (pa_cons (pv 0) pa_nil)) (pg_name (i := 3) sc_lparts.nd rfl (.inl rfl))
        (pss_one (ps_for PassesOwn.never rfl (pi_list (pv 1)) (pg_tup (by rfl) (pgs_cons (pg_name (i := 4) sc_lparts.nd rfl (.inl rfl)) (pgs_cons (pg_name (i := 5) sc_lparts.nd rfl (.inl rfl)) pgs_nil)))
          (pss_cons (ps_set (i := 6) sc_lparts.nd rfl (.inl rfl) (pe_callB (call_min2 rfl) (by rfl) B.min (by decide +kernel) (pa_cons (pe_ix ix_list (pv 2) (pv 4) (fun _ _ => rfl)) (pa_cons (pe_ix ix_list (pv 2) (pv 5) (fun _ _ => rfl)) pa_nil))))
          (pss_one (ps_asg (pe_tup (pa_cons (pv 6) (pa_cons (pv 6) pa_nil))) (pg_tup (by rfl) (pgs_cons (pg_sub (pv 2) (pv 4) set_list) (pgs_cons (pg_sub (pv 2) (pv 5) set_list) pgs_nil)))))))))
      (pss_one (ps_ret (pe_lc (own := [("_law_root", 7)]) (g := gName 7) (tt := tYes) rfl sc_lparts.nd (pi_list (pe_callB (cr_sortedSet rfl) (by rfl) B.srt (by decide +kernel) (pa_cons (pe_callTy (cr_setInts rfl) (by rfl) B.set (by decide +kernel) (pa_cons (pv 2) pa_nil)) pa_nil)))
        (blkOk_by (own := [("_law_root", 7)]) (N := NP) (sc := defScope s_lparts) (by decide +kernel))
        (fun _ _ _ _ _ => pg_name (i := 7) sc_lparts.nd rfl (.inr rfl)) (fun _ _ _ _ _ => pts_nil)
        (fun _ _ _ _ _ => pe_callTy (r := rTup K) cr_tup (by rfl) B.tup (by decide +kernel) (pa_cons (pe_lc (own := [("_law_place", 8)]) (g := gName 8) (tt := tTest (tOp rEq (tOp (rIxL K) (tVar 2) (tVar 8)) (tVar 7))) rfl sc_lparts.nd (pi_range1 (by rfl) B.rng (pa_cons (pv 0) pa_nil))
          (blkOk_by (own := [("_law_place", 8)]) (N := NP) (sc := relS (lcScope (retE s_lparts)) (defScope s_lparts)) (by decide +kernel))
          (fun _ _ _ _ _ => pg_name (i := 8) sc_lparts.nd rfl (.inl rfl)) (fun _ _ _ _ _ => pts_one (pt_cmpR op_eq (pe_ix (r := rIxL K) ix_list (pv 2) (pv 8) (fun _ _ => rfl)) (pv 7) (nomark _))) (fun _ _ _ _ _ => pv 8)) pa_nil)))))), ?_⟩
    have RG : RgOk 0 (n : Int) := RgOk.nat (by omega)
    refine ⟨_, rfl, n, rfl, RG, fun lb hlb => ?_⟩
    rw [rgV_nat]
    obtain ⟨ps, eps, hL, hT⟩ := hP
    have plen : ps.length = es.length := by rw [← eps, List.length_map]
    have s0 : Same H (upd H lb (.lst (nVs (List.range n)))) := same_new hlb
    -- the rounds
    refine ⟨_, rfl, (n : Int), rfl, by omega, by omega, for_range (lo := 0) (n := n) (fun k σ H' => ∃ y3 y4 y5 y6, σ = [some (nV n), some (.ref pl), some (.ref lb), y3, y4, y5, y6, none, none] ∧ Same H H' ∧ H' lb = some (.lst (nVs (rnds es (List.range n) k))))
      ⟨_, _, _, _, rfl, s0, upd_same⟩ ?_ ?_⟩
    · rintro k σ H1 hk ⟨y3, y4, y5, y6, rfl, sm, hl1⟩
      have Lk := rnds_labels hes (show 0 < n by omega) k
      refine ⟨_, rfl, pl, rfl, ⟨_, sm.seq hL⟩, for_list (K := K) (a := pl) (xs := ps.map fun p => .ref p.1) (fun i σ H' => ∃ y3 y4 y5 y6, σ = [some (nV n), some (.ref pl), some (.ref lb), y3, y4, y5, y6, none, none] ∧ Same H H' ∧ H' lb = some (.lst (nVs (rnd (es.take i) (rnds es (List.range n) k)))))
        ⟨_, _, _, _, rfl, sm, hl1⟩ (fun i σ H' _ ⟨_, _, _, _, _, sm, _⟩ => sm.seq hL) ?_ ?_⟩
      · rintro i y σ H2 hi ⟨y3, y4, y5, y6, rfl, sm2, hl2⟩
        obtain ⟨pe, hpe, rfl⟩ : ∃ pe, ps[i]? = some pe ∧ y = V.ref pe.1 := by
          rw [List.getElem?_map] at hi
          cases e : ps[i]? with
          | none => rw [e] at hi; cases hi
          | some pe => rw [e] at hi; exact ⟨pe, rfl, (Option.some.inj hi).symm⟩
        have hes' : es[i]? = some pe.2 := by
          rw [← eps, List.getElem?_map, hpe]
          rfl
        obtain ⟨ha, hb⟩ := hes _ (List.mem_of_getElem? hes')
        have Li := Labels.rnd hes (es.take i) (fun x hx => List.mem_of_mem_take hx) Lk
        generalize hLi : rnd (es.take i) (rnds es (List.range n) k) = L at *
        have la : pe.2.1 < L.length := by rw [Li.len]; exact ha
        have lb' : pe.2.2 < L.length := by rw [Li.len]; exact hb
        refine ⟨pe.1, _, rfl, sm2.tup (hT _ (List.mem_of_getElem? hpe)), rfl, _, _, rfl, _, _, rfl, rfl, ?_⟩
        -- least = min(label[a], label[b])
        refine ⟨_, rfl, _, rfl, lb, _, _, nV (L.getD pe.2.1 0), rfl, rfl, SqL.of hl2, atI_nat (nVs_at (getD_at la)), _, rfl, _, rfl, lb, _, _, nV (L.getD pe.2.2 0), rfl, rfl, SqL.of hl2, atI_nat (nVs_at (getD_at lb')), _, _, rfl, ?_⟩
        rw [min_nat]
        -- label[a], label[b] = least, least
        refine ⟨_, rfl, _, rfl, (by show 2 ≤ sizeLine; decide), fun p hp => ?_⟩
        have np : lb ≠ p := ne_of_none hl2 hp
        have hl3 : (upd H2 p (.tup [nV (min (L.getD pe.2.1 0) (L.getD pe.2.2 0)), nV (min (L.getD pe.2.1 0) (L.getD pe.2.2 0))])) lb = some (.lst (nVs L)) := by rw [upd_ne np]; exact hl2
        refine ⟨p, _, rfl, SqT.of upd_same, rfl, _, _, rfl, ?_⟩
        refine ⟨_, rfl, _, rfl, lb, _, _, pe.2.1, rfl, rfl, hl3, ixN_nat (by rw [List.length_map]; exact la), ?_⟩
        rw [nVs_set]
        refine ⟨_, _, rfl, _, rfl, _, rfl, lb, _, _, pe.2.2, rfl, rfl, upd_same, ixN_nat (by rw [List.length_map, List.length_set]; exact lb'), ?_⟩
        rw [nVs_set, upd_upd]
        refine ⟨rfl, _, _, _, _, rfl, (sm2.upd hp).set hlb, ?_⟩
        rw [upd_same, take_next hes']
        unfold rnd at hLi ⊢
        rw [List.foldl_append, hLi]
        rfl
      · rintro σ H2 ⟨y3, y4, y5, y6, rfl, sm2, hl2⟩
        rw [List.length_map, plen, List.take_length] at hl2
        exact ⟨_, _, _, _, rfl, sm2, hl2⟩
    · rintro σ H1 ⟨y3, y4, y5, y6, rfl, sm, hl1⟩
      have Ln := rnds_labels hes (show 0 < n by omega) n
      have flat := rnds_flat hes (show 0 < n by omega)
      generalize rnds es (List.range n) n = L at *
      -- sorted(set(label))
      refine ⟨_, rfl, lb, L.map fun m : Nat => (m : Int), rfl, by rw [← nVs_int]; exact SqL.of hl1, by rw [List.length_map, Ln.len]; omega, fun p2 m hm hp2 => ?_⟩
      rw [List.length_map, Ln.len] at hm
      refine ⟨p2, _, m, rfl, upd_same, by omega, fun ns p3 hasc hmem hlen hp3 => ?_⟩
      have sm3 := (sm.upd (o := SetO w p2 (fun j => decide (j ∈ L.map fun m : Nat => (m : Int))) m) hp2).upd (o := .lst (ns.map V.int)) hp3
      have l2 : lb ≠ p2 := ne_of_none hl1 hp2
      have l3 : lb ≠ p3 := ne_of_none (by rw [upd_ne l2]; exact hl1) hp3
      refine ⟨p3, rfl, ⟨_, SqL.of upd_same⟩, fun Dd hD => ?_⟩
      obtain ⟨H3, hH3⟩ : ∃ H3 : Hp, H3 = upd (upd H1 p2 (SetO w p2 (fun j => decide (j ∈ L.map fun m : Nat => (m : Int))) m)) p3 (.lst (ns.map V.int)) := ⟨_, rfl⟩
      have hD0 : H3 Dd = none := by rw [hH3]; exact hD
      have sm3 : Same H H3 := by rw [hH3]; exact sm3
      have h3 : H3 p3 = some (.lst (ns.map V.int)) := by rw [hH3, upd_same]
      have hl3 : H3 lb = some (.lst (nVs L)) := by rw [hH3, upd_ne l3, upd_ne l2]; exact hl1
      refine lc_list (K := K) (a := p3) (xs := ns.map V.int) (fun i H' => Same H3 H' ∧ ∃ xs : List V, H' Dd = some (.lst xs) ∧ xs.length = i) ⟨by rw [hH3]; exact same_new hD, [], upd_same, rfl⟩ (fun i H' _ ⟨sm', _⟩ => SqL.of (sm' _ _ h3)) ?_ ?_
      · rintro i y H4 hi ⟨sm4, xs, hx, hxl⟩
        have hin : i < ns.length := by
          have := (List.getElem?_eq_some_iff.mp hi).1
          rwa [List.length_map] at this
        obtain ⟨z, rfl⟩ : ∃ z, y = V.int z := by
          rw [List.getElem?_map, List.getElem?_eq_getElem hin] at hi
          exact ⟨_, (Option.some.inj hi).symm⟩
        refine ⟨rfl, yes ?_⟩
        refine ⟨_, rfl, (n : Int), rfl, by omega, by omega, fun D2 hD2 => ?_⟩
        refine lc_range (lo := 0) (n := n) (fun j H' => Same H4 H' ∧ ∃ zs : List V, H' D2 = some (.lst zs) ∧ zs.length ≤ j) ⟨same_new hD2, [], upd_same, Nat.le_refl _⟩ ?_ ?_
        · rintro j H5 hj ⟨sm5, zs, hz, hzl⟩
          have hl5 := sm5 _ _ (sm4 _ _ hl3)
          refine ⟨rfl, _, rfl, _, rfl, lb, _, _, nV (L.getD j 0), rfl, rfl, SqL.of hl5, at_of (j := j) (by omega) (nVs_at (getD_at (by rw [Ln.len]; exact hj))), _, rfl, rfl, _, rfl, ite2 (fun _ => ?_) (fun _ => ?_)⟩
          · refine ⟨_, rfl, zs, hz, szlt (by omega), sm5.set hD2, _, upd_same, ?_⟩
            rw [List.length_append]
            show zs.length + 1 ≤ j + 1
            omega
          · exact ⟨sm5, zs, hz, by omega⟩
        · rintro H5 ⟨sm5, zs, hz, hzl⟩
          refine ⟨D2, zs, rfl, .inl ⟨SqL.of hz, fun u hu => ?_⟩⟩
          have hx5 := sm5 _ _ hx
          have Du : Dd ≠ u := ne_of_none hx5 hu
          exact ⟨xs, by rw [upd_ne Du]; exact hx5, szlt (by omega), ((sm4.trans sm5).upd hu).set hD0, _, upd_same, by rw [List.length_append, hxl]; rfl⟩
      · rintro H4 ⟨sm4, xs, hx, hxl⟩
        rw [List.length_map] at hxl
        refine q H4 Dd xs (sm3.trans sm4) (sm3.free hD0) hx ?_
        rw [← flat, hxl]
        have hmem' : ∀ k : Int, k ∈ ns ↔ ∃ x ∈ L, (x : Int) = k := fun k => by
          rw [hmem, decide_eq_true_eq, List.mem_map]
        have hne : 0 < L.length := by rw [Ln.len]; omega
        have z0 : (0 : Int) ∈ ns := (hmem' 0).mpr ⟨L.getD 0 0, List.mem_of_getElem? (getD_at hne), by rw [Ln.z0]; rfl⟩
        constructor
        · intro h1 x hx'
          match ns, h1 with
          | [z], _ =>
            have e1 := List.mem_singleton.mp z0
            have e2 := List.mem_singleton.mp ((hmem' (x : Int)).mpr ⟨x, hx', rfl⟩)
            omega
        · intro h1
          match ns, z0, hasc, hmem' with
          | [z], _, _, _ => rfl
          | a :: b :: r, _, hasc, hmem' =>
            obtain ⟨x, hx', ex⟩ := (hmem' a).mp List.mem_cons_self
            obtain ⟨y, hy', ey⟩ := (hmem' b).mp (List.mem_cons_of_mem _ List.mem_cons_self)
            have := h1 x hx'
            have := h1 y hy'
            have := (List.pairwise_cons.mp hasc).1 b List.mem_cons_self
            omega
end
end KW
namespace KW
open PySem PySem.Spec PyProof.Rows L2
open LamX (ExtN Tabs TabB)
/-! ### the law's price, its lots, its trees -/
/-- len, the layer's own reading, the written part named -/
def rLenQ (K : PySem.W.Frag) : List V → Hp → VK → Prop := fun xs H Q => ∃ p ys, xs = [V.ref p] ∧ (SqL K H p ys ∨ SqT K H p ys) ∧ Q (.int ys.length) H
theorem cr_len {X : Cx} : CallR X (.builtin "len") (rLenQ X.K) := call_len_seq
/-- a list of lots -/
def LotsAt (K : PySem.W.Frag) (H : Hp) (a : Addr) (ls : List (List Nat)) : Prop :=
  ∃ ps : List (Addr × List Nat), ps.map (·.2) = ls ∧ H a = some (.lst (ps.map fun p => .ref p.1)) ∧ ∀ p ∈ ps, SqT K H p.1 (nVs p.2)
theorem LotsAt.same {K : PySem.W.Frag} {H H' : Hp} {a ls} (e : Same H H') (h : LotsAt K H a ls) : LotsAt K H' a ls := by
  obtain ⟨ps, h1, h2, h3⟩ := h
  exact ⟨ps, h1, e _ _ h2, fun p hp => e.tup (h3 p hp)⟩
theorem LotsAt.len {K : PySem.W.Frag} {H : Hp} {a ls} (h : LotsAt K H a ls) : ∃ xs, H a = some (.lst xs) ∧ xs.length = ls.length := by
  obtain ⟨ps, h1, h2, h3⟩ := h
  exact ⟨_, h2, by rw [List.length_map, ← h1, List.length_map]⟩
/-- one more lot -/
theorem LotsAt.snoc {K : PySem.W.Frag} {H : Hp} {a b : Addr} {ls : List (List Nat)} {l : List Nat} {acc : List V} (h : LotsAt K H a ls) (hb : SqT K H b (nVs l)) (ha : H a = some (.lst acc)) : LotsAt K (upd H a (.lst (acc ++ [.ref b]))) a (ls ++ [l]) := by
  obtain ⟨ps, h1, h2, h3⟩ := h
  obtain rfl : acc = ps.map fun p => V.ref p.1 := by
    have e := ha.symm.trans h2
    injection e with e
    injection e
  refine ⟨ps ++ [(b, l)], by rw [List.map_append, h1]; rfl, by rw [upd_same, List.map_append]; rfl, fun p hp => ?_⟩
  rcases List.mem_append.mp hp with hp | hp
  · exact sqT_upd ha (h3 p hp)
  · rw [List.mem_singleton.mp hp]
    exact sqT_upd ha hb
/-- the lots of at most sz places below k, as they are found -/
def lotsN (sz : Nat) : Nat → List (List Nat)
  | 0 => [[]]
  | k + 1 => lotsN sz k ++ ((lotsN sz k).filter fun l => decide (l.length < sz)).map fun l => l ++ [k]
theorem lotsN_len (sz : Nat) : ∀ k, (lotsN sz k).length ≤ 2 ^ k
  | 0 => Nat.le_refl _
  | k + 1 => by
    have ih := lotsN_len sz k
    have h2 := List.length_filter_le (fun l : List Nat => decide (l.length < sz)) (lotsN sz k)
    show (lotsN sz k ++ ((lotsN sz k).filter fun l => decide (l.length < sz)).map fun l => l ++ [k]).length ≤ _
    rw [List.length_append, List.length_map, Nat.pow_succ]
    omega
theorem lotsN_mem (sz : Nat) : ∀ (k : Nat) (l : List Nat), l ∈ lotsN sz k ↔ KM.Asc l ∧ (∀ i ∈ l, i < k) ∧ l.length ≤ sz
  | 0, l => by
    show l ∈ [[]] ↔ _
    rw [List.mem_singleton]
    constructor
    · rintro rfl
      exact ⟨List.Pairwise.nil, fun i h => (List.not_mem_nil h).elim, Nat.zero_le _⟩
    · rintro ⟨_, h, _⟩
      cases l with
      | nil => rfl
      | cons x r => exact absurd (h x List.mem_cons_self) (Nat.not_lt_zero _)
  | k + 1, l => by
    show l ∈ lotsN sz k ++ ((lotsN sz k).filter fun l => decide (l.length < sz)).map (fun l => l ++ [k]) ↔ _
    rw [List.mem_append, lotsN_mem sz k l]
    constructor
    · rintro (⟨h1, h2, h3⟩ | h)
      · exact ⟨h1, fun i hi => Nat.lt_succ_of_lt (h2 i hi), h3⟩
      · obtain ⟨l0, h0, rfl⟩ := List.mem_map.mp h
        obtain ⟨h0, h4⟩ := List.mem_filter.mp h0
        obtain ⟨h1, h2, h3⟩ := (lotsN_mem sz k l0).mp h0
        have h4 := of_decide_eq_true h4
        refine ⟨List.pairwise_append.mpr ⟨h1, List.pairwise_singleton _ _, fun a ha b hb => ?_⟩, fun i hi => ?_, ?_⟩
        · rw [List.mem_singleton.mp hb]
          exact h2 a ha
        · rcases List.mem_append.mp hi with hi | hi
          · exact Nat.lt_succ_of_lt (h2 i hi)
          · rw [List.mem_singleton.mp hi]
            exact Nat.lt_succ_self _
        · rw [List.length_append]
          exact h4
    · rintro ⟨h1, h2, h3⟩
      induction l using KM.snoc_ind with
      | h0 => exact .inl ⟨h1, fun i h => (List.not_mem_nil h).elim, h3⟩
      | hs l0 x _ =>
        have h1' := List.pairwise_append.mp h1
        have hlt : ∀ i ∈ l0, i < x := fun i hi => h1'.2.2 i hi x List.mem_cons_self
        have hx := h2 x (List.mem_append_right _ List.mem_cons_self)
        by_cases e : x = k
        · subst e
          rw [List.length_append] at h3
          have h3 : l0.length + 1 ≤ sz := h3
          exact .inr (List.mem_map.mpr ⟨l0, List.mem_filter.mpr ⟨(lotsN_mem sz x l0).mpr ⟨h1'.1, hlt, by omega⟩, decide_eq_true (by omega)⟩, rfl⟩)
        · refine .inl ⟨h1, fun i hi => ?_, h3⟩
          rcases List.mem_append.mp hi with hi | hi
          · have := hlt i hi
            omega
          · rw [List.mem_singleton.mp hi]
            omega
theorem filt_take {α : Type} {l : List α} {i : Nat} {x : α} (p : α → Bool) (h : l[i]? = some x) : (l.take (i + 1)).filter p = (l.take i).filter p ++ if p x = true then [x] else [] := by
  rw [take_next h, List.filter_append]
  by_cases e : p x = true
  · simp [e]
  · simp [e]
def spPrice (K : PySem.W.Frag) : Sp := fun vs H Q _ => ∃ (wv lt : Addr) (n : Nat) (ts : List Tie) (lot : List Nat), vs = [.ref wv, .ref lt] ∧ WebAt K H wv n ts ∧ SqT K H lt (nVs lot) ∧ (∀ i ∈ lot, i < ts.length) ∧ lot.length ≤ 1000 ∧ ∀ H', Same H H' → Q (nV (KM.cost (ep ts) lot)) H'
def spLLots (K : PySem.W.Frag) : Sp := fun vs H Q _ => ∃ (m sz : Nat), vs = [nV m, nV sz] ∧ m ≤ 16 ∧ ∀ H' p ls, Same H H' → H p = none → LotsAt K H' p ls → (∀ l, l ∈ ls ↔ KM.Asc l ∧ (∀ i ∈ l, i < m) ∧ l.length = sz) → ls.length ≤ 90000 → Q (.ref p) H'
def spLTrees (K : PySem.W.Frag) : Sp := fun vs H Q _ => ∃ (wv : Addr) (n : Nat) (ts : List Tie), vs = [.ref wv] ∧ WebAt K H wv n ts ∧ WebOk n ts ∧ ts.length ≤ 16 ∧ ∀ H' p ls, Same H H' → H p = none → LotsAt K H' p ls → (∀ l, l ∈ ls ↔ KM.Asc l ∧ (∀ i ∈ l, i < ts.length) ∧ isT n ts l = true) → ls.length ≤ 90000 → Q (.ref p) H'
theorem sc_lprice : FnScope ["_law_web", "_law_lot", "_law_index"] ["_law_web", "_law_lot"] (defScope s_lprice) := ⟨rfl, rfl, rfl, by decide +kernel, rfl, by decide +kernel, by decide +kernel⟩
theorem sc_listree : FnScope ["_law_web", "_law_lot"] ["_law_web", "_law_lot"] (defScope s_lis_tree) := ⟨rfl, rfl, rfl, by decide +kernel, rfl, by decide +kernel, by decide +kernel⟩
abbrev NL : List Str := ["_law_many", "_law_size", "_law_found", "_law_at", "_law_lot"]
theorem sc_llots : FnScope NL ["_law_many", "_law_size"] (defScope s_llots) := ⟨rfl, rfl, rfl, by decide +kernel, rfl, by decide +kernel, by decide +kernel⟩
theorem sc_ltrees : FnScope ["_law_web", "_law_lot"] ["_law_web"] (defScope s_ltrees) := ⟨rfl, rfl, rfl, by decide +kernel, rfl, by decide +kernel, by decide +kernel⟩
theorem sum_nat (l : List Nat) : (l.map fun n : Nat => (n : Int)).sum = ((l.sum : Nat) : Int) := by
  induction l with
  | nil => rfl
  | cons x r ih =>
    rw [List.map_cons, List.sum_cons, List.sum_cons, ih]
    omega
section
variable {P : Program} {w : World} {K : PySem.W.Frag} {mg : Str → Option Value} {base : Heap}
theorem ok_lprice (D : Def K mg "_law_price" s_lprice ["_law_web", "_law_lot"]) (B : Bl mg) : Has P w K mg base 1 "_law_price" ["_law_web", "_law_lot"] (spPrice K) := by
  refine has_of D sc_lprice (fun vs H Q E h => ?_) (fun f cdv A outer s H vs Q E hr h => ?_)
  · obtain ⟨wv, lt, n, ts, lot, rfl, _⟩ := h
    rfl
  · obtain ⟨wv, lt, n, ts, lot, rfl, ⟨t, as, eas, hwv, ht, hties⟩, hS, hin, hlen, q⟩ := h
    refine ⟨_, pss_one (ps_ret (pe_callB (cr_sum rfl) (by rfl) B.sum (by decide +kernel) (pa_cons (pe_lc (own := [("_law_index", 2)]) (g := gName 2) (tt := tYes) rfl sc_lprice.nd (pi_tup (pv 1)) (blkOk_by (own := [("_law_index", 2)]) (N := ["_law_web", "_law_lot", "_law_index"]) (sc := defScope s_lprice) (by decide +kernel))
        (fun _ _ _ _ _ => pg_name (i := 2) sc_lprice.nd rfl (.inl rfl)) (fun _ _ _ _ _ => pts_nil) (fun _ _ _ _ _ => pe_ix (r := rIxT K) ix_tup (pe_ix (r := rIxT K) ix_tup (pe_ix (r := rIxT K) ix_tup (pv 0) pe_int (fun _ _ => rfl)) (pv 2) (fun _ _ => rfl)) pe_int (fun _ _ => rfl))) pa_nil))), ?_⟩
    refine ⟨_, rfl, lt, rfl, ⟨_, hS⟩, fun Dd hD => lc_tup (K := K) (a := lt) (xs := nVs lot) (fun i H' => Same H H' ∧ H' Dd = some (.lst (nVs ((lot.take i).map (ep ts)))))
        ⟨same_new hD, upd_same⟩ (fun i H' _ ⟨sm, _⟩ => sm.tup hS) ?_ ?_⟩
    · rintro i y H' hi ⟨sm, hDd⟩
      obtain ⟨ix, hix, rfl⟩ := nVs_get hi
      have hlt := hin _ (List.mem_of_getElem? hix)
      obtain ⟨ad, tie, has, hts⟩ := as_get eas hlt
      refine ⟨rfl, yes ?_⟩
      refine ⟨_, rfl, wv, _, 1, .ref t, rfl, rfl, sm.tup hwv, rfl, _, rfl, t, _, _, .ref ad, rfl, rfl, sm.tup ht, atI_nat (as_at has), ad, tieV tie, 2, nV tie.2.2, rfl, rfl, sm.tup (hties _ (List.mem_of_getElem? has)), rfl, ?_⟩
      have hD0 : H Dd = none := hD
      refine ⟨_, hDd, ?_, sm.set hD0, ?_⟩
      · rw [List.length_map, List.length_map, List.length_take]
        exact szlt (by omega)
      · rw [upd_same, take_next hix, List.map_append, (eu_at hts).2.2.symm]
        show _ = some (HO.lst (((lot.take i).map (ep ts) ++ [ep ts ix]).map nV))
        rw [List.map_append]
        rfl
    · rintro H' ⟨sm, hDd⟩
      rw [List.length_map, List.take_length] at hDd
      refine ⟨Dd, (lot.map (ep ts)).map fun n : Nat => (n : Int), rfl, by rw [← nVs_int]; exact SqL.of hDd, ?_⟩
      rw [sum_nat]
      exact q H' sm
theorem ok_listree (D : Def K mg "_law_is_tree" s_lis_tree ["_law_web", "_law_lot"]) (B : Bl mg) (R : Has P w K mg base 1 "_law_parts" ["_law_many", "_law_pairs_here"] (spLParts K)) (G : Has P w K mg base 1 "_law_pairs" ["_law_web", "_law_lot"] (spPairs K)) :
    Has P w K mg base 2 "_law_is_tree" ["_law_web", "_law_lot"] (spIsTree K) := by
  refine has_of D sc_listree (fun vs H Q E h => ?_) (fun f cdv A outer s H vs Q E hr h => ?_)
  · obtain ⟨wv, lt, n, ts, lot, rfl, _⟩ := h
    rfl
  · obtain ⟨wv, lt, n, ts, lot, rfl, L, q⟩ := h
    refine ⟨_, pss_one (ps_ret (pe_and (pe_cmpR op_eq (pe_callB call_len_seq (by rfl) B.len (by decide +kernel) (pa_cons (pv 1) pa_nil)) (pe_op op_sub (pe_ix ix_tup (pv 0) pe_int (fun _ _ => rfl)) pe_int) (nomark _))
      (pe_one (pe_cmpR op_eq (pe_callB call_len_seq (by rfl) B.len (by decide +kernel) (pa_cons (pe_has R hr (pa_cons (pe_ix ix_tup (pv 0) pe_int (fun _ _ => rfl)) (pa_cons (pe_has G hr (pa_cons (pv 0) (pa_cons (pv 1) pa_nil))) pa_nil))) pa_nil)) pe_int (nomark _))))), ?_⟩
    obtain ⟨t, as, eas, hwv, ht, hties⟩ := id L.web
    refine ⟨_, rfl, lt, _, rfl, L.seq, _, rfl, wv, _, 0, nV n, rfl, rfl, hwv, rfl, (n : Int), 1, rfl, rfl, rfl, _, rfl, ?_⟩
    rw [List.length_map]
    have n1 := L.ok.n1
    by_cases e : lot.length + 1 = n
    · rw [decide_eq_true (show V.int (lot.length : Int) = V.int ((n : Int) - 1) by congr 1; omega)]
      refine iteT ?_
      refine ⟨_, rfl, wv, _, 0, nV n, rfl, rfl, hwv, rfl, ?_⟩
      refine ⟨_, rfl, _, rfl, wv, lt, n, ts, lot, rfl, L.web, L.seq, L.inn, L.few, fun H1 p1 s1 n1' hp => ?_⟩
      refine ⟨n, p1, _, rfl, hp, lotE_in L.ok L.inn, n1, L.ok.n12, fun H2 p2 xs s2 n2 h2 hx => ?_⟩
      refine ⟨p2, xs, rfl, .inl (SqL.of h2), rfl, ?_⟩
      rw [labp_lot] at hx
      have ee : decide (V.int (xs.length : Int) = V.int 1) = decide (one1 n ts lot) := (eq_nat xs.length 1).trans (decide_eq_decide.mpr hx)
      rw [ee]
      have := q _ (s1.trans s2)
      unfold isT at this
      rw [decide_eq_true e, Bool.true_and] at this
      exact this
    · rw [decide_eq_false (show ¬ V.int (lot.length : Int) = V.int ((n : Int) - 1) from fun z => e (by injection z with z; omega))]
      refine iteF ?_
      have := q H (Same.refl H)
      unfold isT at this
      rw [decide_eq_false e, Bool.false_and] at this
      exact this
theorem ok_llots (D : Def K mg "_law_lots" s_llots ["_law_many", "_law_size"]) (B : Bl mg) : Has P w K mg base 1 "_law_lots" ["_law_many", "_law_size"] (spLLots K) := by
  refine has_of D sc_llots (fun vs H Q E h => ?_) (fun f cdv A outer s H vs Q E hr h => ?_)
  · obtain ⟨m, sz, rfl, _⟩ := h
    rfl
  · obtain ⟨m, sz, rfl, m16, q⟩ := h
    refine ⟨_, pss_cons (ps_set (i := 2) sc_llots.nd rfl (.inl rfl) (pe_lst (pa_cons (pe_tup pa_nil) pa_nil)))
      (pss_cons (ps_for PassesOwn.never rfl (pi_range1 (by rfl) B.rng (pa_cons (pv 0) pa_nil)) (pg_name (i := 3) sc_llots.nd rfl (.inr rfl))
        (pss_one (ps_set (i := 2) sc_llots.nd rfl (.inl rfl) (pe_op op_cat (pv 2) (pe_lc (own := [("_law_lot", 4)]) (g := gName 4) rfl sc_llots.nd (pi_list (pv 2))
          (blkOk_by (own := [("_law_lot", 4)]) (N := NL) (sc := defScope s_llots) (by decide +kernel))
          (fun _ _ _ _ _ => pg_name (i := 4) sc_llots.nd rfl (.inl rfl)) (fun _ _ _ _ _ => pts_one (pt_cmpR op_lt (pe_callB (r := rLenQ K) cr_len (by rfl) B.len (by decide +kernel) (pa_cons (pv 4) pa_nil)) (pv 1) (nomark _)))
          (fun _ _ _ _ _ => pe_op (r := rCatA K) op_catA (pv 4) (pe_tup (pa_cons (pv 3) pa_nil))))))))
      (pss_one (ps_ret (pe_lc (own := [("_law_lot", 4)]) (g := gName 4) rfl sc_llots.nd (pi_list (pv 2))
          (blkOk_by (own := [("_law_lot", 4)]) (N := NL) (sc := defScope s_llots) (by decide +kernel))
          (fun _ _ _ _ _ => pg_name (i := 4) sc_llots.nd rfl (.inl rfl)) (fun _ _ _ _ _ => pts_one (pt_cmpR op_eq (pe_callB (r := rLenQ K) cr_len (by rfl) B.len (by decide +kernel) (pa_cons (pv 4) pa_nil)) (pv 1) (nomark _)))
          (fun _ _ _ _ _ => pv 4))))), ?_⟩
    -- found = [()]
    refine ⟨Nat.zero_le _, fun p0 hp0 => ⟨(by show 1 ≤ sizeLine; decide), fun q0 hq0 => ?_⟩⟩
    have s0 : Same H (upd (upd H p0 (.tup [])) q0 (.lst [.ref p0])) := (same_new hp0).upd hq0
    have p2l : ∀ k, k ≤ m → (lotsN sz k).length ≤ 2 ^ k := fun k _ => lotsN_len sz k
    have p2m : ∀ k, k ≤ 15 → 2 ^ k ≤ 32768 := fun k hk => Nat.le_trans (Nat.pow_le_pow_right (by decide) hk) (by decide)
    have p2n : ∀ k, k ≤ 16 → 2 ^ k ≤ 65536 := fun k hk => Nat.le_trans (Nat.pow_le_pow_right (by decide) hk) (by decide)
    refine ⟨_, rfl, (m : Int), rfl, by omega, by omega, for_range (lo := 0) (n := m) (fun k σ H' => ∃ fd y3, σ = [some (nV m), some (nV sz), some (.ref fd), y3, none] ∧ Same H H' ∧ H fd = none ∧ LotsAt K H' fd (lotsN sz k))
      ⟨q0, _, rfl, s0, (same_new hp0).free hq0, [(p0, [])], rfl, upd_same, fun p hp => ?_⟩ ?_ ?_⟩
    · rw [List.mem_singleton.mp hp]
      exact SqT.of (by rw [upd_ne (ne_of_none upd_same hq0), upd_same]; rfl)
    · rintro k σ H1 hk ⟨fd, y3, rfl, sm, nfd, hL⟩
      obtain ⟨ps, hps, hfd, hT⟩ := hL
      refine ⟨_, rfl, _, rfl, fd, rfl, ⟨_, SqL.of hfd⟩, fun Dd hD => lc_list (K := K) (a := fd) (xs := ps.map fun p => .ref p.1) (fun i H' => Same H1 H' ∧ LotsAt K H' Dd ((((lotsN sz k).take i).filter fun l => decide (l.length < sz)).map fun l => l ++ [k]))
          ⟨same_new hD, [], rfl, upd_same, fun p hp => nomatch hp⟩ (fun i H' _ ⟨sm, _⟩ => SqL.of (sm _ _ hfd)) ?_ ?_⟩
      · rintro i y H' hi ⟨sm', hDd⟩
        obtain ⟨pe, hpe, rfl⟩ : ∃ pe, ps[i]? = some pe ∧ y = V.ref pe.1 := by
          rw [List.getElem?_map] at hi
          cases e : ps[i]? with
          | none => rw [e] at hi; cases hi
          | some pe => rw [e] at hi; exact ⟨pe, rfl, (Option.some.inj hi).symm⟩
        have hl : (lotsN sz k)[i]? = some pe.2 := by
          rw [← hps, List.getElem?_map, hpe]
          rfl
        obtain ⟨asc, inn, leq⟩ := (lotsN_mem sz k _).mp (List.mem_of_getElem? hl)
        have hfew := asc_few asc inn
        have hTp := sm'.tup (hT _ (List.mem_of_getElem? hpe))
        have hD0 : H1 Dd = none := hD
        refine ⟨rfl, _, rfl, pe.1, nVs pe.2, rfl, .inr hTp, _, rfl, _, _, rfl, rfl, _, rfl, ?_⟩
        have e1 : decide (((nVs pe.2).length : Int) < (sz : Int)) = decide (pe.2.length < sz) := decide_eq_decide.mpr (by rw [List.length_map]; omega)
        rw [e1]
        by_cases ht : pe.2.length < sz
        · rw [decide_eq_true ht]
          refine iteT ?_
          refine ⟨_, rfl, _, rfl, (by show 1 ≤ sizeLine; decide), fun p3 hp3 => ?_⟩
          obtain ⟨xs, hx, hxl⟩ := hDd.len
          have hx3 := same_new hp3 (o := .tup [V.int (0 + (k : Int))]) _ _ hx
          have fin : ∀ (H3 : Hp) (b : Addr), Same H' H3 → SqT K H3 b (nVs (pe.2 ++ [k])) → ∃ acc, H3 Dd = some (.lst acc) ∧ acc.length < sizeLine ∧ Same H1 (upd H3 Dd (.lst (acc ++ [V.ref b]))) ∧ LotsAt K (upd H3 Dd (.lst (acc ++ [V.ref b]))) Dd ((((lotsN sz k).take (i + 1)).filter fun l => decide (l.length < sz)).map fun l => l ++ [k]) := by
            intro H3 b s3 hb
            have hx3 := s3 _ _ hx
            refine ⟨xs, hx3, ?_, (sm'.trans s3).set hD0, ?_⟩
            · rw [hxl, List.length_map]
              refine szlt (Nat.le_trans (List.length_filter_le _ _) ?_)
              rw [List.length_take]
              have := p2l k (by omega)
              have := p2n k (by omega)
              omega
            · rw [filt_take _ hl, if_pos (decide_eq_true ht), List.map_append]
              exact (hDd.same s3).snoc hb hx3
          have st : Same H' (upd H' p3 (.tup [V.int (0 + (k : Int))])) := same_new hp3
          have k0 : (0 : Int) + (k : Int) = (k : Int) := by omega
          refine ⟨pe.1, p3, nVs pe.2, [V.int (0 + (k : Int))], rfl, rfl, st.tup hTp, SqT.of upd_same, ?_, fun z => ?_, fun _ z => ?_, fun z _ p4 hp4 => ?_⟩
          · rw [List.length_map]
            exact KW.sz (by show pe.2.length + 1 ≤ 100000; omega)
          · refine fin _ p3 st (SqT.of ?_)
            have z : pe.2 = [] := by
              cases h : pe.2 with
              | nil => rfl
              | cons x r => rw [h] at z; cases z
            rw [upd_same, z, k0]
            rfl
          · cases z
          · refine fin _ p4 (st.upd hp4) (SqT.of ?_)
            rw [upd_same, k0, show nVs (pe.2 ++ [k]) = nVs pe.2 ++ [nV k] from List.map_append]
        · rw [decide_eq_false ht]
          refine iteF ?_
          refine ⟨sm', ?_⟩
          rw [filt_take _ hl, if_neg (by rw [decide_eq_false ht]; exact Bool.false_ne_true), List.append_nil]
          exact hDd
      · rintro H' ⟨sm', hDd⟩
        have e1 : (ps.map fun p => V.ref p.1).length = (lotsN sz k).length := by rw [← hps, List.length_map, List.length_map]
        rw [e1, List.take_length] at hDd
        obtain ⟨qs, hqs, hD2, hTq⟩ := hDd
        have l1 := p2l k (by omega)
        have l2 := p2m k (by omega)
        have l3 : qs.length ≤ (lotsN sz k).length := by
          have := congrArg List.length hqs
          rw [List.length_map, List.length_map] at this
          rw [this]
          exact List.length_filter_le _ _
        refine ⟨fd, Dd, _, _, rfl, rfl, sm' _ _ hfd, hD2, ?_, fun p5 hp5 => ?_⟩
        · rw [e1, List.length_map]
          exact KW.sz (by omega)
        · refine ⟨p5, _, rfl, (sm.trans sm').upd hp5, (sm.trans sm').free hp5, ps ++ qs, ?_, ?_, fun p hp => ?_⟩
          · rw [List.map_append, hps, hqs]
            rfl
          · rw [upd_same, List.map_append]
          · have s5 : Same H' (upd H' p5 (.lst ((ps.map fun p => V.ref p.1) ++ qs.map fun p => V.ref p.1))) := same_new hp5
            rcases List.mem_append.mp hp with hp | hp
            · exact s5.tup (sm'.tup (hT p hp))
            · exact s5.tup (hTq p hp)
    · rintro σ H1 ⟨fd, y3, rfl, sm, nfd, hL⟩
      obtain ⟨ps, hps, hfd, hT⟩ := hL
      refine ⟨_, rfl, fd, rfl, ⟨_, SqL.of hfd⟩, fun Dd hD => lc_list (K := K) (a := fd) (xs := ps.map fun p => .ref p.1) (fun i H' => Same H1 H' ∧ LotsAt K H' Dd (((lotsN sz m).take i).filter fun l => decide (l.length = sz)))
          ⟨same_new hD, [], rfl, upd_same, fun p hp => nomatch hp⟩ (fun i H' _ ⟨sm, _⟩ => SqL.of (sm _ _ hfd)) ?_ ?_⟩
      · rintro i y H' hi ⟨sm', hDd⟩
        obtain ⟨pe, hpe, rfl⟩ : ∃ pe, ps[i]? = some pe ∧ y = V.ref pe.1 := by
          rw [List.getElem?_map] at hi
          cases e : ps[i]? with
          | none => rw [e] at hi; cases hi
          | some pe => rw [e] at hi; exact ⟨pe, rfl, (Option.some.inj hi).symm⟩
        have hl : (lotsN sz m)[i]? = some pe.2 := by
          rw [← hps, List.getElem?_map, hpe]
          rfl
        have hTp := sm'.tup (hT _ (List.mem_of_getElem? hpe))
        have hD0 : H1 Dd = none := hD
        refine ⟨rfl, _, rfl, pe.1, nVs pe.2, rfl, .inr hTp, _, rfl, rfl, _, rfl, ?_⟩
        rw [eq_nat, List.length_map]
        by_cases ht : pe.2.length = sz
        · rw [decide_eq_true ht]
          refine iteT ?_
          obtain ⟨xs, hx, hxl⟩ := hDd.len
          refine ⟨_, rfl, xs, hx, ?_, sm'.set hD0, ?_⟩
          · rw [hxl]
            refine szlt (Nat.le_trans (List.length_filter_le _ _) ?_)
            rw [List.length_take]
            have := p2l m (by omega)
            have := p2n m (by omega)
            omega
          · rw [filt_take _ hl, if_pos (decide_eq_true ht)]
            exact hDd.snoc hTp hx
        · rw [decide_eq_false ht]
          refine iteF ?_
          refine ⟨sm', ?_⟩
          rw [filt_take _ hl, if_neg (by rw [decide_eq_false ht]; exact Bool.false_ne_true), List.append_nil]
          exact hDd
      · rintro H' ⟨sm', hDd⟩
        have e1 : (ps.map fun p => V.ref p.1).length = (lotsN sz m).length := by rw [← hps, List.length_map, List.length_map]
        rw [e1, List.take_length] at hDd
        refine q H' Dd _ (sm.trans sm') (sm.free hD) hDd (fun l => ?_) (Nat.le_trans (List.length_filter_le _ _) ?_)
        · rw [List.mem_filter, lotsN_mem, decide_eq_true_eq]
          constructor
          · rintro ⟨⟨h1, h2, _⟩, h3⟩
            exact ⟨h1, h2, h3⟩
          · rintro ⟨h1, h2, h3⟩
            exact ⟨⟨h1, h2, by omega⟩, h3⟩
        · have := p2l m (by omega)
          have := p2n m (by omega)
          omega
theorem ok_ltrees (D : Def K mg "_law_trees" s_ltrees ["_law_web"]) (B : Bl mg) (R : Has P w K mg base 1 "_law_lots" ["_law_many", "_law_size"] (spLLots K)) (I : Has P w K mg base 2 "_law_is_tree" ["_law_web", "_law_lot"] (spIsTree K)) :
    Has P w K mg base 3 "_law_trees" ["_law_web"] (spLTrees K) := by
  refine has_of D sc_ltrees (fun vs H Q E h => ?_) (fun f cdv A outer s H vs Q E hr h => ?_)
  · obtain ⟨wv, n, ts, rfl, _⟩ := h
    rfl
  · obtain ⟨wv, n, ts, rfl, W, o, m16, q⟩ := h
    refine ⟨_, pss_one (ps_ret (pe_lc (own := [("_law_lot", 1)]) (g := gName 1) rfl sc_ltrees.nd
      (pi_list (pe_has R hr (pa_cons (pe_callB call_len_seq (by rfl) B.len (by decide +kernel) (pa_cons (pe_ix ix_tup (pv 0) pe_int (fun _ _ => rfl)) pa_nil)) (pa_cons (pe_op op_sub (pe_ix ix_tup (pv 0) pe_int (fun _ _ => rfl)) pe_int) pa_nil))))
      (blkOk_by (own := [("_law_lot", 1)]) (N := ["_law_web", "_law_lot"]) (sc := defScope s_ltrees) (by decide +kernel))
      (fun _ _ _ _ _ => pg_name (i := 1) sc_ltrees.nd rfl (.inl rfl)) (fun _ _ _ _ _ => pts_one (pt_val (pe_has I hr (pa_cons (pv 0) (pa_cons (pv 1) pa_nil))))) (fun _ _ _ _ _ => pv 1))), ?_⟩
    obtain ⟨t, as, eas, hwv, ht, hties⟩ := id W
    have n1 := o.n1
    refine ⟨_, rfl, wv, _, 1, .ref t, rfl, rfl, hwv, rfl, t, _, rfl, .inr ht, _, rfl, wv, _, 0, nV n, rfl, rfl, hwv, rfl, (n : Int), 1, rfl, rfl, ?_⟩
    have e0 : (as.map fun p => V.ref p.1).length = ts.length := by rw [← eas, List.length_map, List.length_map]
    rw [e0]
    refine ⟨ts.length, n - 1, (by show [V.int (ts.length : Int), V.int ((n : Int) - 1)] = _; rw [show ((n : Int) - 1) = ((n - 1 : Nat) : Int) by omega]), m16, fun H1 p ls s1 n1p hL hls hlen => ?_⟩
    obtain ⟨ps, hps, hp, hT⟩ := hL
    refine ⟨p, rfl, ⟨_, SqL.of hp⟩, fun Dd hD => lc_list (K := K) (a := p) (xs := ps.map fun p => .ref p.1) (fun i H' => Same H1 H' ∧ LotsAt K H' Dd ((ls.take i).filter fun l => isT n ts l))
        ⟨same_new hD, [], rfl, upd_same, fun p hp => nomatch hp⟩ (fun i H' _ ⟨sm, _⟩ => SqL.of (sm _ _ hp)) ?_ ?_⟩
    · rintro i y H' hi ⟨sm, hDd⟩
      obtain ⟨pe, hpe, rfl⟩ : ∃ pe, ps[i]? = some pe ∧ y = V.ref pe.1 := by
        rw [List.getElem?_map] at hi
        cases e : ps[i]? with
        | none => rw [e] at hi; cases hi
        | some pe => rw [e] at hi; exact ⟨pe, rfl, (Option.some.inj hi).symm⟩
      have hl : ls[i]? = some pe.2 := by
        rw [← hps, List.getElem?_map, hpe]
        rfl
      obtain ⟨asc, inn, leq⟩ := (hls _).mp (List.mem_of_getElem? hl)
      have hTp := sm.tup (hT _ (List.mem_of_getElem? hpe))
      have hD0 : H1 Dd = none := hD
      refine ⟨rfl, _, rfl, _, rfl, wv, pe.1, n, ts, pe.2, rfl, ⟨W.same (s1.trans sm), o, .inr hTp, inn, by have := o.n12; omega⟩, fun H2 s2 => ⟨_, rfl, ite2 (fun ht => ?_) (fun ht => ?_)⟩⟩
      · obtain ⟨xs, hx, hxl⟩ := hDd.len
        have hx2 := s2 _ _ hx
        refine ⟨_, rfl, xs, hx2, ?_, (sm.trans s2).set hD0, ?_⟩
        · rw [hxl]
          refine szlt (Nat.le_trans (List.length_filter_le _ _) ?_)
          rw [List.length_take]
          omega
        · rw [filt_take _ hl, if_pos ht]
          exact (hDd.same s2).snoc (s2.tup hTp) hx2
      · refine ⟨sm.trans s2, ?_⟩
        rw [filt_take _ hl, if_neg ht, List.append_nil]
        exact hDd.same s2
    · rintro H' ⟨sm, hDd⟩
      have e1 : (ps.map fun p => V.ref p.1).length = ls.length := by rw [← hps, List.length_map, List.length_map]
      rw [e1, List.take_length] at hDd
      refine q H' Dd _ (s1.trans sm) (s1.free hD) hDd (fun l => ?_) (Nat.le_trans (List.length_filter_le _ _) hlen)
      rw [List.mem_filter, hls]
      constructor
      · rintro ⟨⟨h1, h2, _⟩, h3⟩
        exact ⟨h1, h2, h3⟩
      · rintro ⟨h1, h2, h3⟩
        refine ⟨⟨h1, h2, ?_⟩, h3⟩
        have := (isT_iff n1 l).mp h3
        have := ((KM.isTree_iff n1 l).mp this).1
        omega
end
end KW
namespace KW
open PySem PySem.Spec PyProof.Rows L2
open LamX (ExtN Tabs TabB)
/-! ### the law's equality -/
def spAlike1 : Sp := fun vs H Q _ => ∃ x : V, vs = [x, x] ∧ ((∃ i : Int, x = .int i) ∨ x = .non) ∧ ∀ H', Same H H' → Q (.bl true) H'
def spAlike2 (K : PySem.W.Frag) : Sp := fun vs H Q _ => ∃ (a b : Addr) (l : List Nat), vs = [.ref a, .ref b] ∧ SqT K H a (nVs l) ∧ SqT K H b (nVs l) ∧ l.length ≤ 1000 ∧ ∀ H', Same H H' → Q (.bl true) H'
theorem sc_alike : FnScope ["_law_found", "_law_due", "_law_k"] ["_law_found", "_law_due"] (defScope s_alike) := ⟨rfl, rfl, rfl, by decide +kernel, rfl, by decide +kernel, by decide +kernel⟩
theorem kit_none {K : PySem.W.Frag} {a b c : String} (h1 : kitB a b = some false) (h2 : kitB a c = some false) : PySem.W.kitAny K (.type a) [.type b, .type c] = some false :=
  kitAny_cons (kit_ty h1) (fun _ => kitAny_cons (kit_ty h2) (fun _ => kitAny_nil) (fun h => nomatch h)) (fun h => nomatch h)
theorem kit_first {K : PySem.W.Frag} {a b c : String} (h1 : kitB a b = some true) : PySem.W.kitAny K (.type a) [.type b, .type c] = some true :=
  kitAny_cons (kit_ty h1) (fun h => nomatch h) (fun _ => rfl)
section
variable {P : Program} {w : World} {K : PySem.W.Frag} {mg : Str → Option Value} {base : Heap}
theorem ok_alike1 (D : Def K mg "_law_alike" s_alike ["_law_found", "_law_due"]) (B : Bl mg) : Has P w K mg base 1 "_law_alike" ["_law_found", "_law_due"] spAlike1 := by
  refine has_of D sc_alike (fun vs H Q E h => ?_) (fun f cdv A outer s H vs Q E hr h => ?_)
  · obtain ⟨x, rfl, _⟩ := h
    rfl
  · obtain ⟨x, rfl, hx, q⟩ := h
    refine ⟨_, pss_cons (ps_if (pt_val (pe_callB call_isiT (by rfl) B.isi (by decide +kernel) (pa_cons (pv 1) (pa_cons (pe_tup (pa_cons (pe_bltn (v := .ty "tuple") (u := .type "tuple") (by rfl) B.tup (by decide +kernel) rfl) (pa_cons (pe_bltn (v := .ty "list") (u := .type "list") (by rfl) B.lst (by decide +kernel) rfl) pa_nil))) pa_nil)))) pss_never pss_nil)
      (pss_cons (ps_if (PW.pt (pw_or (pt_cmpR op_isN (pv 1) pe_non (nomark _)) (pw_or1 (pt_val (pe_callB call_isi (by rfl) B.isi (by decide +kernel) (pa_cons (pv 1) (pa_cons (pe_bltn (v := .ty "str") (u := .type "str") (by rfl) B.str (by decide +kernel) rfl) pa_nil)))))))
        (pss_one (ps_ret (pe_and (pe_cmpR op_eq (pv 0) (pv 1) (nomark _)) (pe_one (pe_cmpR op_eq (pe_callB call_isi (by rfl) B.isi (by decide +kernel) (pa_cons (pv 0) (pa_cons (pe_bltn (v := .ty "str") (u := .type "str") (by rfl) B.str (by decide +kernel) rfl) pa_nil))) (pe_callB call_isi (by rfl) B.isi (by decide +kernel) (pa_cons (pv 1) (pa_cons (pe_bltn (v := .ty "str") (u := .type "str") (by rfl) B.str (by decide +kernel) rfl) pa_nil))) (nomark _)))))) pss_nil)
      (pss_one (ps_ret (pe_and (pe_callB call_isi (by rfl) B.isi (by decide +kernel) (pa_cons (pv 0) (pa_cons (pe_bltn (v := .ty "int") (u := .type "int") (by rfl) B.int (by decide +kernel) rfl) pa_nil)))
        (pe_and (pe_cmpR op_eq (pe_callB call_isi (by rfl) B.isi (by decide +kernel) (pa_cons (pv 0) (pa_cons (pe_bltn (v := .ty "bool") (u := .type "bool") (by rfl) B.bool (by decide +kernel) rfl) pa_nil))) (pe_callB call_isi (by rfl) B.isi (by decide +kernel) (pa_cons (pv 1) (pa_cons (pe_bltn (v := .ty "bool") (u := .type "bool") (by rfl) B.bool (by decide +kernel) rfl) pa_nil))) (nomark _))
          (pe_one (pe_cmpR op_eq (pv 0) (pv 1) (nomark _)))))))), ?_⟩
    rcases hx with ⟨i, rfl⟩ | rfl
    · refine ⟨_, rfl, (by show 2 ≤ sizeLine; decide), fun p hp => ?_⟩
      refine ⟨_, p, _, _, _, false, rfl, upd_same, .cons (ClsV.ty _) (.cons (ClsV.ty _) .nil), .base (.int _), kit_none (by decide +kernel) (by decide +kernel), _, rfl, iteF ?_⟩
      refine ⟨_, rfl, rfl, _, rfl, iteF ?_⟩
      refine ⟨_, rfl, _, _, _, _, false, rfl, ClsV.ty _, .base (.int _), kit_ty (by decide +kernel), _, rfl, iteF ?_⟩
      refine ⟨_, rfl, _, _, _, _, true, rfl, ClsV.ty _, .base (.int _), kit_ty (by decide +kernel), _, rfl, iteT ?_⟩
      refine ⟨_, rfl, _, _, _, _, false, rfl, ClsV.ty _, .base (.int _), kit_ty (by decide +kernel), _, rfl, _, _, _, _, false, rfl, ClsV.ty _, .base (.int _), kit_ty (by decide +kernel), rfl, _, rfl, iteT ?_⟩
      refine ⟨_, rfl, _, rfl, by simp [scal], ?_⟩
      rw [decide_eq_true rfl]
      exact q _ (same_new hp)
    · refine ⟨_, rfl, (by show 2 ≤ sizeLine; decide), fun p hp => ?_⟩
      refine ⟨_, p, _, _, _, false, rfl, upd_same, .cons (ClsV.ty _) (.cons (ClsV.ty _) .nil), .base .non, kit_none (by decide +kernel) (by decide +kernel), _, rfl, iteF ?_⟩
      refine ⟨_, rfl, rfl, _, rfl, iteT ?_⟩
      refine iteT ?_
      refine ⟨_, rfl, _, rfl, rfl, _, rfl, iteT ?_⟩
      refine ⟨_, rfl, _, _, _, _, false, rfl, ClsV.ty _, .base .non, kit_ty (by decide +kernel), _, rfl, _, _, _, _, false, rfl, ClsV.ty _, .base .non, kit_ty (by decide +kernel), rfl, ?_⟩
      exact q _ (same_new hp)
def spAlike (K : PySem.W.Frag) : Sp := fun vs H Q E => spAlike1 vs H Q E ∨ spAlike2 K vs H Q E
theorem ok_alike (D : Def K mg "_law_alike" s_alike ["_law_found", "_law_due"]) (B : Bl mg) (A1 : Has P w K mg base 1 "_law_alike" ["_law_found", "_law_due"] spAlike1) : Has P w K mg base 2 "_law_alike" ["_law_found", "_law_due"] (spAlike K) := by
  refine has_of D sc_alike (fun vs H Q E h => ?_) (fun f cdv A outer s H vs Q E hr h => ?_)
  · rcases h with h | h
    · obtain ⟨x, rfl, _⟩ := h
      rfl
    · obtain ⟨a, b, l, rfl, _⟩ := h
      rfl
  · rcases h with h | h
    · obtain ⟨x, rfl, hx, q⟩ := h
      refine ⟨_, pss_cons (ps_if (pt_val (pe_callB call_isiT (by rfl) B.isi (by decide +kernel) (pa_cons (pv 1) (pa_cons (pe_tup (pa_cons (pe_bltn (v := .ty "tuple") (u := .type "tuple") (by rfl) B.tup (by decide +kernel) rfl) (pa_cons (pe_bltn (v := .ty "list") (u := .type "list") (by rfl) B.lst (by decide +kernel) rfl) pa_nil))) pa_nil)))) pss_never pss_nil)
        (pss_cons (ps_if (PW.pt (pw_or (pt_cmpR op_isN (pv 1) pe_non (nomark _)) (pw_or1 (pt_val (pe_callB call_isi (by rfl) B.isi (by decide +kernel) (pa_cons (pv 1) (pa_cons (pe_bltn (v := .ty "str") (u := .type "str") (by rfl) B.str (by decide +kernel) rfl) pa_nil)))))))
          (pss_one (ps_ret (pe_and (pe_cmpR op_eq (pv 0) (pv 1) (nomark _)) (pe_one (pe_cmpR op_eq (pe_callB call_isi (by rfl) B.isi (by decide +kernel) (pa_cons (pv 0) (pa_cons (pe_bltn (v := .ty "str") (u := .type "str") (by rfl) B.str (by decide +kernel) rfl) pa_nil))) (pe_callB call_isi (by rfl) B.isi (by decide +kernel) (pa_cons (pv 1) (pa_cons (pe_bltn (v := .ty "str") (u := .type "str") (by rfl) B.str (by decide +kernel) rfl) pa_nil))) (nomark _)))))) pss_nil)
        (pss_one (ps_ret (pe_and (pe_callB call_isi (by rfl) B.isi (by decide +kernel) (pa_cons (pv 0) (pa_cons (pe_bltn (v := .ty "int") (u := .type "int") (by rfl) B.int (by decide +kernel) rfl) pa_nil)))
          (pe_and (pe_cmpR op_eq (pe_callB call_isi (by rfl) B.isi (by decide +kernel) (pa_cons (pv 0) (pa_cons (pe_bltn (v := .ty "bool") (u := .type "bool") (by rfl) B.bool (by decide +kernel) rfl) pa_nil))) (pe_callB call_isi (by rfl) B.isi (by decide +kernel) (pa_cons (pv 1) (pa_cons (pe_bltn (v := .ty "bool") (u := .type "bool") (by rfl) B.bool (by decide +kernel) rfl) pa_nil))) (nomark _))
            (pe_one (pe_cmpR op_eq (pv 0) (pv 1) (nomark _)))))))), ?_⟩
      rcases hx with ⟨i, rfl⟩ | rfl
      · refine ⟨_, rfl, (by show 2 ≤ sizeLine; decide), fun p hp => ?_⟩
        refine ⟨_, p, _, _, _, false, rfl, upd_same, .cons (ClsV.ty _) (.cons (ClsV.ty _) .nil), .base (.int _), kit_none (by decide +kernel) (by decide +kernel), _, rfl, iteF ?_⟩
        refine ⟨_, rfl, rfl, _, rfl, iteF ?_⟩
        refine ⟨_, rfl, _, _, _, _, false, rfl, ClsV.ty _, .base (.int _), kit_ty (by decide +kernel), _, rfl, iteF ?_⟩
        refine ⟨_, rfl, _, _, _, _, true, rfl, ClsV.ty _, .base (.int _), kit_ty (by decide +kernel), _, rfl, iteT ?_⟩
        refine ⟨_, rfl, _, _, _, _, false, rfl, ClsV.ty _, .base (.int _), kit_ty (by decide +kernel), _, rfl, _, _, _, _, false, rfl, ClsV.ty _, .base (.int _), kit_ty (by decide +kernel), rfl, _, rfl, iteT ?_⟩
        refine ⟨_, rfl, _, rfl, by simp [scal], ?_⟩
        rw [decide_eq_true rfl]
        exact q _ (same_new hp)
      · refine ⟨_, rfl, (by show 2 ≤ sizeLine; decide), fun p hp => ?_⟩
        refine ⟨_, p, _, _, _, false, rfl, upd_same, .cons (ClsV.ty _) (.cons (ClsV.ty _) .nil), .base .non, kit_none (by decide +kernel) (by decide +kernel), _, rfl, iteF ?_⟩
        refine ⟨_, rfl, rfl, _, rfl, iteT ?_⟩
        refine iteT ?_
        refine ⟨_, rfl, _, rfl, rfl, _, rfl, iteT ?_⟩
        refine ⟨_, rfl, _, _, _, _, false, rfl, ClsV.ty _, .base .non, kit_ty (by decide +kernel), _, rfl, _, _, _, _, false, rfl, ClsV.ty _, .base .non, kit_ty (by decide +kernel), rfl, ?_⟩
        exact q _ (same_new hp)
    · obtain ⟨a, b, l, rfl, ha, hb, hlen, q⟩ := h
      refine ⟨_, pss_cons (ps_if (pt_val (pe_callB call_isiT (by rfl) B.isi (by decide +kernel) (pa_cons (pv 1) (pa_cons (pe_tup (pa_cons (pe_bltn (v := .ty "tuple") (u := .type "tuple") (by rfl) B.tup (by decide +kernel) rfl) (pa_cons (pe_bltn (v := .ty "list") (u := .type "list") (by rfl) B.lst (by decide +kernel) rfl) pa_nil))) pa_nil))))
          (pss_cons (ps_if (PW.pt (pw_or (pt_not (pt_val (pe_callB call_isiT (by rfl) B.isi (by decide +kernel) (pa_cons (pv 0) (pa_cons (pe_tup (pa_cons (pe_bltn (v := .ty "tuple") (u := .type "tuple") (by rfl) B.tup (by decide +kernel) rfl) (pa_cons (pe_bltn (v := .ty "list") (u := .type "list") (by rfl) B.lst (by decide +kernel) rfl) pa_nil))) pa_nil)))))
              (pw_or1 (pt_cmpR op_ne (pe_callB call_isi (by rfl) B.isi (by decide +kernel) (pa_cons (pv 0) (pa_cons (pe_bltn (v := .ty "list") (u := .type "list") (by rfl) B.lst (by decide +kernel) rfl) pa_nil))) (pe_callB call_isi (by rfl) B.isi (by decide +kernel) (pa_cons (pv 1) (pa_cons (pe_bltn (v := .ty "list") (u := .type "list") (by rfl) B.lst (by decide +kernel) rfl) pa_nil))) (nomark _))))) pss_never pss_nil)
          (pss_cons (ps_if (pt_cmpR op_ne (pe_callB call_len_seq (by rfl) B.len (by decide +kernel) (pa_cons (pv 0) pa_nil)) (pe_callB call_len_seq (by rfl) B.len (by decide +kernel) (pa_cons (pv 1) pa_nil)) (nomark _)) pss_never pss_nil)
          (pss_one (ps_ret (pe_cmpR (op_eqD hr.units) (pe_lc (own := [("_law_k", 2)]) (g := gName 2) rfl sc_alike.nd (pi_range1 (by rfl) B.rng (pa_cons (pe_callB call_len_seq (by rfl) B.len (by decide +kernel) (pa_cons (pv 1) pa_nil)) pa_nil))
              (blkOk_by (own := [("_law_k", 2)]) (N := ["_law_found", "_law_due", "_law_k"]) (sc := defScope s_alike) (by decide +kernel))
              (fun _ _ _ _ _ => pg_name (i := 2) sc_alike.nd rfl (.inl rfl)) (fun _ _ _ _ _ => pts_one (pt_not (pt_val (pe_has A1 hr (pa_cons (pe_ix (r := rIxT K) ix_tup (pv 0) (pv 2) (fun _ _ => rfl)) (pa_cons (pe_ix (r := rIxT K) ix_tup (pv 1) (pv 2) (fun _ _ => rfl)) pa_nil))))))
              (fun _ _ _ _ _ => pv 2)) (pe_lst pa_nil) (nomark _)))))) pss_nil) pss_never, ?_⟩
      refine ⟨_, rfl, (by show 2 ≤ sizeLine; decide), fun p hp => ?_⟩
      have s1 : Same H (upd H p (.tup [.ty "tuple", .ty "list"])) := same_new hp
      refine ⟨_, p, _, _, _, true, rfl, upd_same, .cons (ClsV.ty _) (.cons (ClsV.ty _) .nil), ty_tup (s1.tup hb), kit_first (by decide +kernel), _, rfl, iteT ?_⟩
      refine ⟨_, rfl, (by show 2 ≤ sizeLine; decide), fun p2 hp2 => ?_⟩
      have s2 := s1.upd (o := .tup [.ty "tuple", .ty "list"]) hp2
      refine ⟨_, p2, _, _, _, true, rfl, upd_same, .cons (ClsV.ty _) (.cons (ClsV.ty _) .nil), ty_tup (s2.tup ha), kit_first (by decide +kernel), _, rfl, iteF ?_⟩
      refine ⟨_, rfl, _, _, _, _, false, rfl, ClsV.ty _, ty_tup (s2.tup ha), kit_ty (by decide +kernel), _, rfl, _, _, _, _, false, rfl, ClsV.ty _, ty_tup (s2.tup hb), kit_ty (by decide +kernel), rfl, _, rfl, iteF ?_⟩
      refine ⟨_, rfl, a, _, rfl, .inr (s2.tup ha), _, rfl, b, _, rfl, .inr (s2.tup hb), rfl, _, rfl, ?_⟩
      rw [show (!decide (V.int ((nVs l).length : Int) = V.int ((nVs l).length : Int))) = false by rw [decide_eq_true rfl]; rfl]
      refine iteF ?_
      generalize upd (upd H p (.tup [.ty "tuple", .ty "list"])) p2 (.tup [.ty "tuple", .ty "list"]) = H2 at *
      refine ⟨_, rfl, b, _, rfl, .inr (s2.tup hb), ((nVs l).length : Int), rfl, by omega, by rw [List.length_map]; omega, fun Dd hD => ?_⟩
      refine lc_range (lo := 0) (n := (nVs l).length) (fun i H' => Same H2 H' ∧ H' Dd = some (.lst [])) ⟨same_new hD, upd_same⟩ ?_ ?_
      · rintro i H' hi ⟨sm, hx⟩
        have hi : i < l.length := by rwa [List.length_map] at hi
        have hat := nVs_at (List.getElem?_eq_getElem hi)
        have s3 := s2.trans sm
        refine ⟨rfl, _, rfl, _, rfl, a, _, _, nV l[i], rfl, rfl, s3.tup ha, at_of (j := i) (by omega) hat, _, rfl, _, rfl, b, _, _, nV l[i], rfl, rfl, s3.tup hb, at_of (j := i) (by omega) hat, nV l[i], rfl, .inl ⟨_, rfl⟩, fun H4 s4 => ⟨_, rfl, iteF ?_⟩⟩
        exact ⟨sm.trans s4, s4 _ _ hx⟩
      · rintro H' ⟨sm, hx⟩
        refine ⟨Nat.zero_le _, fun l2 hl2 => ?_⟩
        have s5 : Same H' (upd H' l2 (.lst [])) := same_new hl2
        refine ⟨.list [], .list [], .lst (SqL.of (s5 _ _ hx)) .nil, .lst (SqL.of upd_same) .nil, rfl, rfl, ?_⟩
        rw [eqv_nil]
        exact q _ ((s2.trans sm).trans s5)
end
end KW
namespace KW
open PySem PySem.Spec PyProof.Rows L2
open LamX (ExtN Tabs TabB)
/-! ### the law's drawn web -/
abbrev tk (a b : Nat) : List Key := [.inl (a : Int), .inl (b : Int)]
theorem tk_inj {a b c d : Nat} (h : tk a b = tk c d) : a = c ∧ b = d := by
  injection h with h1 h2
  injection h2 with h2 _
  injection h1 with h1
  injection h2 with h2
  omega
/-- the ties by their places, with their prices -/
structure TiesOk (n : Nat) (kvs : List (List Key × V)) : Prop where
  all : ∀ kv ∈ kvs, ∃ a b p : Nat, kv = (tk a b, nV p) ∧ a < b ∧ b < n ∧ p ≤ 39
  nd : (kvs.map (·.1)).Nodup
theorem TiesOk.put {n : Nat} {kvs : List (List Key × V)} {a b p : Nat} (h : TiesOk n kvs) (h1 : a < b) (h2 : b < n) (h3 : p ≤ 39) : TiesOk n (putK kvs (tk a b) (nV p)) := by
  cases e : valV kvs (tk a b) with
  | none =>
    rw [putK_new _ e]
    refine ⟨fun kv hkv => ?_, ?_⟩
    · rcases List.mem_append.mp hkv with hkv | hkv
      · exact h.all kv hkv
      · exact ⟨a, b, p, List.mem_singleton.mp hkv, h1, h2, h3⟩
    · rw [List.map_append]
      exact nd_snoc h.nd (valV_not e)
  | some v =>
    unfold putK
    rw [valV_any, e, if_pos (show (some v).isSome = true from rfl)]
    refine ⟨fun kv hkv => ?_, ?_⟩
    · obtain ⟨kv0, h0, rfl⟩ := List.mem_map.mp hkv
      by_cases z : kv0.1 = tk a b
      · rw [if_pos z]
        exact ⟨a, b, p, by rw [z], h1, h2, h3⟩
      · rw [if_neg z]
        exact h.all kv0 h0
    · rw [List.map_map]
      have : ((fun x : List Key × V => x.1) ∘ fun kv : List Key × V => if kv.1 = tk a b then (kv.1, nV p) else kv) = fun x => x.1 := by
        funext kv
        show (if kv.1 = tk a b then (kv.1, nV p) else kv).1 = kv.1
        by_cases z : kv.1 = tk a b
        · rw [if_pos z]
        · rw [if_neg z]
      rw [this]
      exact h.nd
theorem sub_len {α : Type} [DecidableEq α] : ∀ {l l' : List α}, l.Nodup → (∀ j ∈ l, j ∈ l') → l.length ≤ l'.length
  | [], _, _, _ => Nat.zero_le _
  | x :: r, l', hd, h => by
    have hd' := List.nodup_cons.mp hd
    have hx := h x List.mem_cons_self
    have := sub_len (l := r) (l' := l'.erase x) hd'.2 fun j hj => (List.mem_erase_of_ne fun (z : j = x) => hd'.1 (z ▸ hj)).mpr (h j (List.mem_cons_of_mem _ hj))
    rw [List.length_erase_of_mem hx] at this
    have := List.length_pos_of_mem hx
    rw [List.length_cons]
    omega
theorem TiesOk.len {n : Nat} {kvs : List (List Key × V)} (h : TiesOk n kvs) (hn : n ≤ 6) : kvs.length ≤ 15 := by
  have := sub_len (l' := (List.range 6).flatMap fun b => (List.range b).map fun a => tk a b) h.nd fun k hk => by
    obtain ⟨kv, hkv, rfl⟩ := List.mem_map.mp hk
    obtain ⟨a, b, p, rfl, h1, h2, _⟩ := h.all kv hkv
    exact List.mem_flatMap.mpr ⟨b, List.mem_range.mpr (by omega), List.mem_map.mpr ⟨a, List.mem_range.mpr h1, rfl⟩⟩
  rw [List.length_map] at this
  exact this
theorem TiesOk.keys {n : Nat} : ∀ {kvs : List (List Key × V)}, (∀ kv ∈ kvs, ∃ a b p : Nat, kv = (tk a b, nV p) ∧ a < b ∧ b < n ∧ p ≤ 39) → ∃ ks : List (Int × Int), kvs.map (·.1) = ks.map fun k => [Sum.inl k.1, Sum.inl k.2]
  | [], _ => ⟨[], rfl⟩
  | kv :: kvs, h => by
    obtain ⟨ks, hks⟩ := TiesOk.keys fun x hx => h x (List.mem_cons_of_mem _ hx)
    obtain ⟨a, b, p, rfl, _⟩ := h kv List.mem_cons_self
    exact ⟨((a : Int), (b : Int)) :: ks, by rw [List.map_cons, List.map_cons, hks]⟩
theorem RowAt.same {K : PySem.W.Frag} {H H' : Hp} {rw : Addr} (e : Same H H') (h : RowAt K H rw) : RowAt K H' rw := by
  obtain ⟨sc, ns, at', sd, rs, h1, h2, h3⟩ := h
  exact ⟨sc, ns, at', sd, rs, e _ _ h1, e.seq h2, h3⟩
theorem sqL_dT {K : PySem.W.Frag} {H : Hp} {d b : Addr} {kvs : List (List Key × V)} {o : HO} {xs : List V} (hd : H d = some (.dT kvs)) (h : SqL K H b xs) : SqL K (upd H d o) b xs := by
  rcases h with (h | ⟨u, h⟩) | h
  · exact .inl (.inl (by rw [upd_ne (ne_of h hd (by intro z; cases z))]; exact h))
  · exact .inl (.inr ⟨u, by rw [upd_ne (ne_of h hd (by intro z; cases z))]; exact h⟩)
  · exact .inr h
theorem RowAt.dT {K : PySem.W.Frag} {H : Hp} {rw d : Addr} {kvs : List (List Key × V)} {o : HO} (hd : H d = some (.dT kvs)) (h : RowAt K H rw) : RowAt K (upd H d o) rw := by
  obtain ⟨sc, ns, at', sd, rs, h1, h2, h3⟩ := h
  exact ⟨sc, ns, at', sd, rs, by rw [upd_ne (ne_of h1 hd (by intro z; cases z))]; exact h1, sqL_dT hd h2, h3⟩
theorem RowAt.ne {K : PySem.W.Frag} {H : Hp} {rw d : Addr} {o : HO} (h : RowAt K H rw) (hd : H d = some o) (hn : ∀ l, o ≠ .lst l) : d ≠ rw := by
  obtain ⟨sc, ns, at', sd, rs, h1, h2, h3⟩ := h
  rintro rfl
  rw [hd] at h1
  injection h1 with h1
  exact hn _ h1
/-- all but what stands at a stays, new things come -/
def KB (a : Addr) (H H' : Hp) : Prop := ∀ b o, b ≠ a → H b = some o → H' b = some o
theorem KB.refl (a : Addr) (H : Hp) : KB a H H := fun _ _ _ h => h
theorem KB.trans {a : Addr} {H H1 H2 : Hp} (h : KB a H H1) (k : KB a H1 H2) : KB a H H2 := fun b o hb e => k b o hb (h b o hb e)
theorem KB.but {a : Addr} {H H1 H2 : Hp} (h : KB a H H1) (k : But a H1 H2) : KB a H H2 := fun b o hb e => (k b hb).trans (h b o hb e)
theorem KB.same {a : Addr} {H H1 H2 : Hp} (h : KB a H H1) (k : Same H1 H2) : KB a H H2 := fun b o hb e => k b o (h b o hb e)
theorem KB.set {a d : Addr} {H H1 : Hp} {o : HO} (h : KB a H H1) (hd : H d = none) : KB a H (upd H1 d o) := fun b u hb e => by
  rw [upd_ne (ne_of_none e hd)]
  exact h b u hb e
/-- sorted keys and their ties: a rising web -/
theorem rise_of {ks : List (Int × Int)} {bs : List PairK} {ts : List Tie} (hp : (bs.map (·.2)).Perm ks) (hs : bs.Pairwise fun a b => pairLe a b = true) (hn : ks.Nodup) (e : ts.map (fun t => ((t.1 : Int), (t.2.1 : Int))) = bs.map (·.2)) :
    ts.Pairwise fun s t => s.1 < t.1 ∨ (s.1 = t.1 ∧ s.2.1 < t.2.1) := by
  have h1 : (bs.map (·.2)).Pairwise fun a b : Int × Int => a.1 < b.1 ∨ (a.1 = b.1 ∧ a.2 ≤ b.2) := by
    rw [List.pairwise_map]
    exact hs.imp fun h => of_decide_eq_true h
  have h2 : (bs.map (·.2)).Pairwise fun a b : Int × Int => a ≠ b := hp.nodup_iff.mpr hn
  have h3 := h1.and h2
  rw [← e, List.pairwise_map] at h3
  refine h3.imp fun {s t} h => ?_
  obtain ⟨h4, h5⟩ := h
  have h4 : (s.1 : Int) < (t.1 : Int) ∨ ((s.1 : Int) = (t.1 : Int) ∧ (s.2.1 : Int) ≤ (t.2.1 : Int)) := h4
  have h6 : s.1 = t.1 → s.2.1 ≠ t.2.1 := fun z1 z2 => h5 (by rw [z1, z2])
  rcases h4 with h4 | ⟨h4, h7⟩
  · exact .inl (by omega)
  · have z : s.1 = t.1 := by omega
    have := h6 z
    exact .inr ⟨z, by omega⟩
def spJW (K : PySem.W.Frag) : Sp := fun vs H Q _ => ∃ (rw : Addr) (dn : Nat), vs = [.ref rw, .int 6, nV dn] ∧ RowAt K H rw ∧ ∀ H' p n ts, KB rw H H' → RowAt K H' rw → WebAt K H' p n ts → WebOk n ts → ts.length ≤ 15 → Q (.ref p) H'
abbrev NJ : List Str := ["_law_row", "_law_most", "_law_dense", "_law_many", "_law_ties", "_law_top", "_law_b", "_law_a"]
theorem sc_jw : FnScope NJ ["_law_row", "_law_most", "_law_dense"] (defScope s_joined_web) := ⟨rfl, rfl, rfl, by decide +kernel, rfl, by decide +kernel, by decide +kernel⟩
section
variable {P : Program} {w : World} {K : PySem.W.Frag} {mg : Str → Option Value} {base : Heap}
theorem ok_jw (D : Def K mg "_law_joined_web" s_joined_web ["_law_row", "_law_most", "_law_dense"]) (B : Bl mg) (T : Has P w K mg base 1 "_law_taken" ["_law_row", "_law_many"] (spTaken K)) (G : Has P w K mg base 2 "_law_pick" ["_law_row", "_law_things"] (spPick K)) :
    Has P w K mg base 3 "_law_joined_web" ["_law_row", "_law_most", "_law_dense"] (spJW K) := by
  refine has_of D sc_jw (fun vs H Q E h => ?_) (fun f cdv A outer s H vs Q E hr h => ?_)
  · obtain ⟨rw, dn, rfl, _⟩ := h
    rfl
  · obtain ⟨rw, dn, rfl, hR, q⟩ := h
    have hu := hu_of hr
    refine ⟨_, pss_cons (ps_asg (pe_tup (pa_cons (pe_op op_add pe_int (pe_has T hr (pa_cons (pv 0) (pa_cons (pv 1) pa_nil)))) (pa_cons pe_dnewT pa_nil))) (pg_tup (by rfl) (pgs_cons (pg_name (i := 3) sc_jw.nd rfl (.inl rfl)) (pgs_cons (pg_name (i := 4) sc_jw.nd rfl (.inr rfl)) pgs_nil))))
      (pss_cons (ps_set (i := 5) sc_jw.nd rfl (.inl rfl) (pe_has G hr (pa_cons (pv 0) (pa_cons (pe_lst (pa_cons pe_int (pa_cons pe_int (pa_cons pe_int pa_nil)))) pa_nil))))
      (pss_cons (ps_for PassesOwn.never rfl (pi_range2 (by rfl) B.rng (pa_cons pe_int (pa_cons (pv 3) pa_nil))) (pg_name (i := 6) sc_jw.nd rfl (.inl rfl))
        (pss_one (ps_dput hu (pv 4) (pe_tup (pa_cons (pe_has T hr (pa_cons (pv 0) (pa_cons (pv 6) pa_nil))) (pa_cons (pv 6) pa_nil))) (pe_has T hr (pa_cons (pv 0) (pa_cons (pv 5) pa_nil))) rfl)))
      (pss_cons (ps_for PassesOwn.never rfl (pi_range1 (by rfl) B.rng (pa_cons (pv 3) pa_nil)) (pg_name (i := 7) sc_jw.nd rfl (.inl rfl))
        (pss_one (ps_for PassesOwn.never rfl (pi_range2 (by rfl) B.rng (pa_cons (pe_op op_add (pv 7) pe_int) (pa_cons (pv 3) pa_nil))) (pg_name (i := 6) sc_jw.nd rfl (.inl rfl))
          (pss_one (ps_if (PW.pt (pw_and (pt_cmp (pc_dnotin hu (pe_tup (pa_cons (pv 7) (pa_cons (pv 6) pa_nil))) (pv 4)) rfl) (pw_and (pt_cmpR op_lt (pe_callB call_len_dT (by rfl) B.len (by decide +kernel) (pa_cons (pv 4) pa_nil)) pe_int (nomark _)) (pw_and1 (pt_cmpR op_lt (pe_has T hr (pa_cons (pv 0) (pa_cons pe_int pa_nil))) (pv 2) (nomark _))))))
            (pss_one (ps_dput hu (pv 4) (pe_tup (pa_cons (pv 7) (pa_cons (pv 6) pa_nil))) (pe_has T hr (pa_cons (pv 0) (pa_cons (pv 5) pa_nil))) rfl)) pss_nil)))))
      (pss_one (ps_ret (pe_tup (pa_cons (pv 3) (pa_cons (pe_callTy call_tuple_of (by rfl) B.tup (by decide +kernel) (pa_cons (pe_lc (own := [("_law_a", 7), ("_law_b", 6)]) (g := gTup K 2 _) (tt := tYes) rfl sc_jw.nd (pi_list (pe_callB (cr_sortedDT rfl hr) (by rfl) B.srt (by decide +kernel) (pa_cons (pv 4) pa_nil)))
          (blkOk_by (own := [("_law_a", 7), ("_law_b", 6)]) (N := NJ) (sc := defScope s_joined_web) (by decide +kernel))
          (fun _ _ _ _ _ => pg_tup (by rfl) (pgs_cons (pg_name (i := 7) sc_jw.nd rfl (.inl rfl)) (pgs_cons (pg_name (i := 6) sc_jw.nd rfl (.inl rfl)) pgs_nil))) (fun _ _ _ _ _ => pts_nil)
          (fun _ _ _ _ _ => pe_tup (pa_cons (pv 7) (pa_cons (pv 6) (pa_cons (pe_dget hu (pv 4) (pe_tup (pa_cons (pv 7) (pa_cons (pv 6) pa_nil))) (fun _ _ => rfl)) pa_nil))))) pa_nil)) pa_nil)))))))), ?_⟩
    -- many, ties = 1 + taken(row, most), {}
    refine ⟨_, rfl, _, rfl, rw, 6, rfl, hR, by decide, by decide, fun r H1 hr1 hR1 hB1 => ⟨1, (r : Int), rfl, rfl, fun d hd => ⟨(by show 2 ≤ sizeLine; decide), fun p1 hp1 => ?_⟩⟩⟩
    obtain ⟨n, hn⟩ : ∃ n : Nat, (n : Int) = 1 + (r : Int) := ⟨1 + r, by omega⟩
    show gTup K 2 _ (V.ref p1) _ (upd (upd H1 d (.dT [])) p1 (.tup [.int (1 + (r : Int)), .ref d])) _
    rw [← hn]
    have n1 : 1 ≤ n := by omega
    have n6 : n ≤ 6 := by omega
    refine ⟨p1, _, rfl, SqT.of upd_same, rfl, _, _, rfl, _, _, rfl, rfl, ?_⟩
    have d1p : d ≠ p1 := ne_of_none upd_same hp1
    have hR2 : RowAt K (upd (upd H1 d (.dT [])) p1 (.tup [.int (n : Int), .ref d])) rw := hR1.same ((same_new hd).upd hp1)
    have hd2 : (upd (upd H1 d (.dT [])) p1 (.tup [.int (n : Int), .ref d])) d = some (.dT []) := by rw [upd_ne d1p, upd_same]
    have kb2 : KB rw H (upd (upd H1 d (.dT [])) p1 (.tup [.int (n : Int), .ref d])) := ((KB.refl rw H).but hB1).same ((same_new hd).upd hp1)
    generalize upd (upd H1 d (.dT [])) p1 (.tup [.int (n : Int), .ref d]) = H2 at *
    have drw : d ≠ rw := hR2.ne hd2 (by intro l z; cases z)
    have d0 : H d = none := (hB1 d drw).symm.trans hd
    -- top
    refine ⟨_, rfl, (by show 3 ≤ sizeLine; decide), fun tl htl => ?_⟩
    have s3 : Same H2 (upd H2 tl (.lst [.int 2, .int 6, .int 40])) := same_new htl
    have hR3 := hR2.same s3
    have tlrw : tl ≠ rw := by
      obtain ⟨_, _, _, _, _, h1, _⟩ := hR2
      exact fun z => by rw [z, h1] at htl; cases htl
    refine ⟨rw, tl, _, rfl, hR3, SqL.of upd_same, tlrw, by simp, (by show 3 ≤ 100000; decide), fun x H4 hx hR4 hB4 => ?_⟩
    obtain ⟨top, rfl, t1, t40⟩ : ∃ t : Nat, x = nV t ∧ 1 ≤ t ∧ t ≤ 40 := by
      rcases List.mem_cons.mp hx with rfl | hx
      · exact ⟨2, rfl, by decide, by decide⟩
      · rcases List.mem_cons.mp hx with rfl | hx
        · exact ⟨6, rfl, by decide, by decide⟩
        · rcases List.mem_cons.mp hx with rfl | hx
          · exact ⟨40, rfl, by decide, by decide⟩
          · cases hx
    have hd4 : H4 d = some (.dT []) := (hB4 d drw).trans (s3 _ _ hd2)
    have kb4 : KB rw H H4 := (kb2.same s3).but hB4
    -- the first ties
    refine ⟨_, rfl, 1, (n : Int), rfl, ⟨by omega, by omega, by omega, by omega⟩, for_range (lo := 1) (n := ((n : Int) - 1).toNat) (fun k σ H' => ∃ y6 kvs, σ = [some (.ref rw), some (.int 6), some (nV dn), some (nV n), some (.ref d), some (nV top), y6, none] ∧ KB rw H H' ∧ RowAt K H' rw ∧ H' d = some (.dT kvs) ∧ TiesOk n kvs)
      ⟨_, [], rfl, kb4, hR4, hd4, ⟨(fun kv h => nomatch h), List.nodup_nil⟩⟩ ?_ ?_⟩
    · rintro k σ H5 hk ⟨y6, kvs, rfl, kb5, hR5, hd5, hT⟩
      obtain ⟨b, hb⟩ : ∃ b : Nat, (b : Int) = 1 + (k : Int) := ⟨1 + k, by omega⟩
      rw [← hb]
      refine ⟨_, rfl, _, rfl, rw, top, rfl, hR5, t1, by omega, fun pr H6 hpr hR6 hB6 => ?_⟩
      refine ⟨_, rfl, _, rfl, _, rfl, rw, b, rfl, hR6, by omega, by omega, fun a H7 ha hR7 hB7 => ?_⟩
      refine ⟨_, rfl, (by show 2 ≤ sizeLine; decide), fun p hp => ?_⟩
      have hd7 : H7 d = some (.dT kvs) := (hB7 d drw).trans ((hB6 d drw).trans hd5)
      have hd8 : upd H7 p (.tup [nV a, nV b]) d = some (.dT kvs) := same_new hp _ _ hd7
      have hl := hT.len n6
      refine ⟨d, _, rfl, DPut.t (k := tk a b) hd8 upd_same (szlt (by omega)), ?_⟩
      exact ⟨_, _, rfl, (((kb5.but hB6).but hB7).same (same_new hp)).set d0, (hR7.same (same_new hp)).dT hd8, upd_same, hT.put ha (by omega) (by omega)⟩
    · rintro σ H5 ⟨y6, kvs, rfl, kb5, hR5, hd5, hT⟩
      -- the others
      refine ⟨_, rfl, (n : Int), rfl, by omega, by omega, for_range (lo := 0) (n := n) (fun k σ H' => ∃ y6 y7 kvs, σ = [some (.ref rw), some (.int 6), some (nV dn), some (nV n), some (.ref d), some (nV top), y6, y7] ∧ KB rw H H' ∧ RowAt K H' rw ∧ H' d = some (.dT kvs) ∧ TiesOk n kvs)
        ⟨_, _, kvs, rfl, kb5, hR5, hd5, hT⟩ ?_ ?_⟩
      · rintro a σ H6 ha ⟨y6, y7, kvs, rfl, kb6, hR6, hd6, hT⟩
        rw [Int.zero_add]
        refine ⟨_, rfl, (a : Int), 1, rfl, rfl, _, rfl, (a : Int) + 1, (n : Int), rfl, ⟨by omega, by omega, by omega, by omega⟩, for_range (lo := (a : Int) + 1) (n := ((n : Int) - ((a : Int) + 1)).toNat) (fun k σ H' => ∃ y6 kvs, σ = [some (.ref rw), some (.int 6), some (nV dn), some (nV n), some (.ref d), some (nV top), y6, some (nV a)] ∧ KB rw H H' ∧ RowAt K H' rw ∧ H' d = some (.dT kvs) ∧ TiesOk n kvs)
          ⟨_, kvs, rfl, kb6, hR6, hd6, hT⟩ ?_ ?_⟩
        · rintro k σ H7 hk ⟨y6, kvs, rfl, kb7, hR7, hd7, hT⟩
          obtain ⟨b, hb⟩ : ∃ b : Nat, (b : Int) = (a : Int) + 1 + (k : Int) := ⟨a + 1 + k, by omega⟩
          rw [← hb]
          refine ⟨_, rfl, _, rfl, (by show 2 ≤ sizeLine; decide), fun p hp => ?_⟩
          have hd8 : upd H7 p (.tup [nV a, nV b]) d = some (.dT kvs) := same_new hp _ _ hd7
          have hR8 : RowAt K (upd H7 p (.tup [nV a, nV b])) rw := hR7.same (same_new hp)
          have kb8 : KB rw H (upd H7 p (.tup [nV a, nV b])) := kb7.same (same_new hp)
          have hl := hT.len n6
          refine ⟨_, rfl, d, _, rfl, DGet.t (k := tk a b) hd8 upd_same, _, rfl, ite2 (fun _ => ?_) (fun _ => iteF ?_)⟩
          · generalize upd H7 p (.tup [nV a, nV b]) = H8 at *
            refine ⟨_, rfl, d, kvs, rfl, hd8, _, 30, rfl, rfl, _, rfl, ite2 (fun _ => ?_) (fun _ => iteF ?_)⟩
            · refine ⟨_, rfl, rw, 10, rfl, hR8, by decide, by decide, fun r2 H9 hr2 hR9 hB9 => ⟨_, rfl, _, _, rfl, rfl, _, rfl, ite2 (fun _ => ?_) (fun _ => ?_)⟩⟩
              · have hd9 : H9 d = some (.dT kvs) := (hB9 d drw).trans hd8
                refine ⟨_, rfl, _, rfl, rw, top, rfl, hR9, t1, by omega, fun pr H10 hpr hR10 hB10 => ?_⟩
                refine ⟨_, rfl, _, rfl, _, rfl, (by show 2 ≤ sizeLine; decide), fun p3 hp3 => ?_⟩
                have hd10 : H10 d = some (.dT kvs) := (hB10 d drw).trans hd9
                have hd11 : upd H10 p3 (.tup [nV a, nV b]) d = some (.dT kvs) := same_new hp3 _ _ hd10
                refine ⟨d, _, rfl, DPut.t (k := tk a b) hd11 upd_same (szlt (by omega)), ?_⟩
                exact ⟨_, _, rfl, (((kb8.but hB9).but hB10).same (same_new hp3)).set d0, (hR10.same (same_new hp3)).dT hd11, upd_same, hT.put (by omega) (by omega) (by omega)⟩
              · exact ⟨_, _, rfl, kb8.but hB9, hR9, (hB9 d drw).trans hd8, hT⟩
            · exact ⟨_, _, rfl, kb8, hR8, hd8, hT⟩
          · exact ⟨_, _, rfl, kb8, hR8, hd8, hT⟩
        · rintro σ H7 ⟨y6, kvs, rfl, kb7, hR7, hd7, hT⟩
          exact ⟨_, _, _, rfl, kb7, hR7, hd7, hT⟩
      · rintro σ H6 ⟨y6, y7, kvs, rfl, kb6, hR6, hd6, hT⟩
        -- the web
        have hl := hT.len n6
        obtain ⟨ks, hks⟩ := TiesOk.keys hT.all
        have ksn : ks.Nodup := by
          have h := hT.nd
          rw [hks] at h
          exact (List.pairwise_map.mp h).imp fun h z => h (by rw [z])
        have ksl : ks.length = kvs.length := by
          have := congrArg List.length hks
          rw [List.length_map, List.length_map] at this
          exact this.symm
        refine ⟨_, rfl, _, rfl, d, kvs, ks, rfl, .inl hd6, hks, fun bs p hperm hsort hbs hp => ?_⟩
        have hkey : ∀ b ∈ bs, ∃ (a c q : Nat), b.2 = ((a : Int), (c : Int)) ∧ valV kvs (tk a c) = some (nV q) ∧ a < c ∧ c < n ∧ q ≤ 39 := fun b hb => by
          have h1 : b.2 ∈ ks := hperm.mem_iff.mp (List.mem_map.mpr ⟨b, hb, rfl⟩)
          have h2 : [Sum.inl b.2.1, Sum.inl b.2.2] ∈ kvs.map (·.1) := by
            rw [hks]
            exact List.mem_map.mpr ⟨b.2, h1, rfl⟩
          obtain ⟨kv, hkv, e⟩ := List.mem_map.mp h2
          obtain ⟨a, c, _, rfl, h3, h4, _⟩ := hT.all kv hkv
          injection e with e1 e2
          injection e2 with e2 _
          injection e1 with e1
          injection e2 with e2
          obtain ⟨v, hv⟩ := valV_some (kvs := kvs) (k := tk a c) (List.mem_map.mpr ⟨_, hkv, rfl⟩)
          obtain ⟨a2, c2, q, e3, _, _, h5⟩ := hT.all _ (valV_mem hv)
          injection e3 with _ e3
          exact ⟨a, c, q, by rw [e1, e2], by rw [hv, e3], h3, h4, h5⟩
        have s7 : Same H6 (upd H6 p (.lst (bs.map fun b => .ref b.1))) := same_new hp
        have hp7 : (upd H6 p (.lst (bs.map fun b => .ref b.1))) p = some (.lst (bs.map fun b => .ref b.1)) := upd_same
        generalize upd H6 p (.lst (bs.map fun b => .ref b.1)) = H7 at *
        have bl : bs.length = kvs.length := by
          have := hperm.length_eq
          rw [List.length_map] at this
          omega
        refine ⟨p, rfl, ⟨_, SqL.of hp7⟩, fun Dd hD => lc_list (K := K) (a := p) (xs := bs.map fun b => .ref b.1) (fun i H' => ∃ as : List (Addr × Tie), Same H7 H' ∧ H' Dd = some (.lst (as.map fun x => .ref x.1)) ∧ as.map (fun x => ((x.2.1 : Int), (x.2.2.1 : Int))) = (bs.take i).map (·.2) ∧ ∀ x ∈ as, SqT K H' x.1 (tieV x.2) ∧ x.2.1 < x.2.2.1 ∧ x.2.2.1 < n ∧ x.2.2.2 ≤ 39)
          ⟨[], same_new hD, upd_same, rfl, fun x hx => nomatch hx⟩ (fun i H' _ ⟨_, sm, _⟩ => SqL.of (sm _ _ hp7)) ?_ ?_⟩
        · rintro i y H8 hi ⟨as, sm, hDd, eas, has⟩
          obtain ⟨b, hb, rfl⟩ : ∃ b, bs[i]? = some b ∧ y = V.ref b.1 := by
            rw [List.getElem?_map] at hi
            cases e : bs[i]? with
            | none => rw [e] at hi; cases hi
            | some b => rw [e] at hi; exact ⟨b, rfl, (Option.some.inj hi).symm⟩
          obtain ⟨a, c, pr, eb, hv, h3, h4, h5⟩ := hkey b (List.mem_of_getElem? hb)
          have hbt := sm _ _ (s7 _ _ (hbs b (List.mem_of_getElem? hb)))
          rw [eb] at hbt
          refine ⟨b.1, [nV a, nV c], rfl, SqT.of hbt, rfl, _, _, rfl, _, _, rfl, rfl, rfl, yes ?_⟩
          refine ⟨_, rfl, _, rfl, _, rfl, _, rfl, _, rfl, (by show 2 ≤ sizeLine; decide), fun p9 hp9 => ?_⟩
          have s9 : Same H8 (upd H8 p9 (.tup [nV a, nV c])) := same_new hp9
          refine ⟨d, nV pr, rfl, by rw [← hv]; exact DGet.t (k := tk a c) (s9 _ _ (sm _ _ (s7 _ _ hd6))) upd_same, (by show 3 ≤ sizeLine; decide), fun p10 hp10 => ?_⟩
          have s10 := s9.upd (o := .tup [nV a, nV c, nV pr]) hp10
          have al : as.length = (bs.take i).length := by
            have := congrArg List.length eas
            rwa [List.length_map, List.length_map] at this
          have hD0 : H7 Dd = none := hD
          have hDd2 := s10 _ _ hDd
          refine ⟨_, hDd2, ?_, as ++ [(p10, (a, c, pr))], (sm.trans s10).set hD0, ?_, ?_, fun x hx => ?_⟩
          · rw [List.length_map, al, List.length_take]
            exact szlt (by omega)
          · rw [upd_same, List.map_append]
            rfl
          · rw [List.map_append, eas, take_next hb, List.map_append]
            show _ ++ [((a : Int), (c : Int))] = _ ++ [b.2]
            rw [eb]
          · rcases List.mem_append.mp hx with hx | hx
            · obtain ⟨g1, g2⟩ := has x hx
              exact ⟨sqT_upd hDd2 (s10.tup g1), g2⟩
            · rw [List.mem_singleton.mp hx]
              exact ⟨sqT_upd hDd2 (SqT.of upd_same), h3, h4, h5⟩
        · rintro H8 ⟨as, sm, hDd, eas, has⟩
          have ebl : (bs.map fun b => V.ref b.1).length = bs.length := List.length_map _
          rw [ebl, List.take_length] at eas
          have al : as.length = bs.length := by
            have := congrArg List.length eas
            rwa [List.length_map, List.length_map] at this
          refine ⟨Dd, _, rfl, .inl ⟨SqL.of hDd, fun t ht => ⟨(by show 2 ≤ sizeLine; decide), fun o ho => ?_⟩⟩⟩
          have st := (same_new ht (o := .tup (as.map fun x => .ref x.1))).upd (o := .tup [nV n, .ref t]) ho
          refine q _ o n (as.map (·.2)) ((kb6.same s7).same (sm.trans st)) ((hR6.same s7).same (sm.trans st)) ⟨t, as, rfl, SqT.of upd_same, SqT.of (by rw [upd_ne (ne_of_none upd_same ho), upd_same]), fun x hx => st.tup (has x hx).1⟩ ⟨n1, by omega, ?_, fun x hx => ?_, ?_⟩ ?_
          · rw [List.length_map]
            omega
          · obtain ⟨y, hy, rfl⟩ := List.mem_map.mp hx
            obtain ⟨_, g1, g2, g3⟩ := has y hy
            exact ⟨g1, g2, by omega⟩
          · refine rise_of hperm hsort ksn ?_
            rw [List.map_map]
            exact eas
          · rw [List.length_map]
            omega
end
end KW
namespace KW
open PySem PySem.W PySem.Spec PyProof.Rows L2
open LamX (ExtN Tabs TabB)
/-! ### lots as data -/
def encL (l : List Nat) : PyData := .tuple (l.map fun n : Nat => .int (n : Int))
def encP (p : Nat → Nat) (l : List Nat) : PyData := .tuple [.int (KM.cost p l : Int), encL l]
theorem encI_dep (n : Nat) : (PyData.int (n : Int)).depth ≤ 0 := by simp [PyData.depth]
theorem layAll_ints : ∀ l : List Nat, PyData.canLayAll0 (l.map fun n : Nat => PyData.int (n : Int)) = true
  | [] => rfl
  | x :: r => by
    rw [List.map_cons, PyData.canLayAll0, layAll_ints r]
    rfl
theorem encL_lay (l : List Nat) : (encL l).canLay0 = true := by
  unfold encL
  rw [PyData.canLay0, layAll_ints]
theorem encL_dep (l : List Nat) : (encL l).depth ≤ 1 := by
  unfold encL
  rw [PyData.depth]
  have := depthAll_le (fun n : Nat => PyData.int (n : Int)) encI_dep l
  omega
theorem encL_shaped (l : List Nat) : SeqAt.shaped (encL l) = true := by
  unfold SeqAt.shaped
  rw [encL_lay]
  have := encL_dep l
  simp only [Bool.true_and, decide_eq_true_eq]
  omega
theorem encP_dep (p : Nat → Nat) (l : List Nat) : (encP p l).depth ≤ 3 := by
  unfold encP
  have := encL_dep l
  simp only [PyData.depth, PyData.depthAll]
  omega
theorem eqvAll_ints : ∀ l m : List Nat, PyData.eqvAll (l.map fun n : Nat => PyData.int (n : Int)) (m.map fun n : Nat => PyData.int (n : Int)) = decide (l = m)
  | [], [] => by simp [PyData.eqvAll]
  | [], y :: s => by simp [PyData.eqvAll]
  | x :: r, [] => by simp [PyData.eqvAll]
  | x :: r, y :: s => by
    rw [List.map_cons, List.map_cons, PyData.eqvAll, eqvAll_ints r s, PyData.eqv]
    by_cases e : x = y
    · by_cases e2 : r = s <;> simp [e, e2]
    · have : ¬ ((x : Int) = (y : Int)) := by omega
      simp [e, this]
theorem encL_eqv (l m : List Nat) : PyData.eqv (encL l) (encL m) = decide (l = m) := by
  unfold encL
  rw [PyData.eqv, eqvAll_ints]
theorem any_encL (l : List Nat) (ls : List (List Nat)) : ((ls.map encL).any fun z => PyData.eqv z (encL l)) = decide (l ∈ ls) := by
  induction ls with
  | nil => simp
  | cons x r ih =>
    rw [List.map_cons, List.any_cons, ih, encL_eqv]
    by_cases e : x = l
    · simp [e]
    · have : ¬ l = x := fun z => e z.symm
      simp [e, this]
theorem lexLt_ints : ∀ l m : List Nat, (l.map (fun n : Nat => (n : Int)) < m.map fun n : Nat => (n : Int)) ↔ KM.lexLt l m
  | [], [] => by simp [KM.lexLt]
  | [], y :: s => by simp [KM.lexLt]
  | x :: r, [] => by simp [KM.lexLt]
  | x :: r, y :: s => by
    rw [List.map_cons, List.map_cons, List.cons_lt_cons_iff, lexLt_ints r s]
    show _ ↔ (x < y ∨ (x = y ∧ KM.lexLt r s))
    constructor
    · rintro (h | ⟨h, h2⟩)
      · exact .inl (by omega)
      · exact .inr ⟨by omega, h2⟩
    · rintro (h | ⟨h, h2⟩)
      · exact .inl (by omega)
      · exact .inr ⟨by omega, h2⟩
theorem alikeAll_ints : ∀ l m : List Nat, alikeAll (l.map fun n : Nat => PyData.int (n : Int)) (m.map fun n : Nat => PyData.int (n : Int)) = true
  | [], _ => rfl
  | x :: r, [] => rfl
  | x :: r, y :: s => by
    rw [List.map_cons, List.map_cons, alikeAll, alike, alikeAll_ints r s]
    rfl
theorem encL_alike (l m : List Nat) : alike (encL l) (encL m) = true := by
  unfold encL
  rw [alike, alikeAll_ints]
theorem lexLt_trans : ∀ {a b c : List Nat}, KM.lexLt a b → KM.lexLt b c → KM.lexLt a c
  | [], [], _, h, _ => h.elim
  | [], _ :: _, [], _, h => h.elim
  | [], _ :: _, _ :: _, _, _ => trivial
  | _ :: _, [], _, h, _ => h.elim
  | _ :: _, _ :: _, [], _, h => h.elim
  | x :: r, y :: s, z :: t, h1, h2 => by
    have h1 : x < y ∨ (x = y ∧ KM.lexLt r s) := h1
    have h2 : y < z ∨ (y = z ∧ KM.lexLt s t) := h2
    show x < z ∨ (x = z ∧ KM.lexLt r t)
    rcases h1 with h1 | ⟨e1, h1⟩
    · rcases h2 with h2 | ⟨e2, h2⟩
      · exact .inl (by omega)
      · exact .inl (by omega)
    · rcases h2 with h2 | ⟨e2, h2⟩
      · exact .inl (by omega)
      · exact .inr ⟨by omega, lexLt_trans h1 h2⟩
theorem lexLt_ntrans : ∀ {a b c : List Nat}, ¬ KM.lexLt a b → ¬ KM.lexLt b c → ¬ KM.lexLt a c
  | [], [], _, _, h2 => h2
  | [], _ :: _, _, h1, _ => (h1 trivial).elim
  | _ :: _, _, [], _, _ => fun h => h
  | _ :: _, [], _ :: _, _, h2 => (h2 trivial).elim
  | x :: r, y :: s, z :: t, h1, h2 => by
    have h1 : ¬ (x < y ∨ (x = y ∧ KM.lexLt r s)) := h1
    have h2 : ¬ (y < z ∨ (y = z ∧ KM.lexLt s t)) := h2
    show ¬ (x < z ∨ (x = z ∧ KM.lexLt r t))
    rintro (h | ⟨e, h⟩)
    · have : ¬ x < y := fun w => h1 (.inl w)
      have : ¬ y < z := fun w => h2 (.inl w)
      omega
    · have a1 : ¬ x < y := fun w => h1 (.inl w)
      have a2 : ¬ y < z := fun w => h2 (.inl w)
      have e1 : x = y := by omega
      have e2 : y = z := by omega
      exact lexLt_ntrans (fun w => h1 (.inr ⟨e1, w⟩)) (fun w => h2 (.inr ⟨e2, w⟩)) h
noncomputable instance : DecidableRel KM.lexLt := fun _ _ => Classical.propDecidable _
/-- a comes before b: by the price, then the lot -/
def plt (p : Nat → Nat) (a b : List Nat) : Prop := KM.cost p a < KM.cost p b ∨ (KM.cost p a = KM.cost p b ∧ KM.lexLt a b)
noncomputable instance {p : Nat → Nat} : DecidableRel (plt p) := fun _ _ => Classical.propDecidable _
theorem encP_lt (p : Nat → Nat) (a b : List Nat) : dataLt (encP p a) (encP p b) = decide (plt p a b) := by
  unfold encP
  rw [dataLt_pair (by simp [alike]) (encL_alike a b), dataLt_int, encL_eqv]
  have e1 : PyData.eqv (.int (KM.cost p a : Int)) (.int (KM.cost p b : Int)) = decide (KM.cost p a = KM.cost p b) := by
    rw [PyData.eqv]
    by_cases z : KM.cost p a = KM.cost p b
    · simp [z]
    · have : ¬ ((KM.cost p a : Int) = (KM.cost p b : Int)) := by omega
      simp [z, this]
  have e2 : dataLt (encL a) (encL b) = decide (KM.lexLt a b) := by
    unfold encL
    rw [dataLt_tuple]
    have h := dataLt_ints (a.map fun n : Nat => (n : Int)) (b.map fun n : Nat => (n : Int))
    rw [List.map_map, List.map_map] at h
    show rowLt _ _ = _
    refine Eq.trans h ?_
    have := lexLt_ints a b
    by_cases z : KM.lexLt a b
    · rw [decide_eq_true z, decide_eq_true (this.mpr z)]
    · rw [decide_eq_false z, decide_eq_false (fun w => z (this.mp w))]
  rw [e1, e2]
  by_cases z : KM.cost p a = KM.cost p b
  · rw [decide_eq_true z, if_pos rfl]
    by_cases z2 : a = b
    · rw [decide_eq_true z2, if_pos rfl]
      refine (decide_eq_false ?_).symm
      rintro (h | ⟨_, h⟩)
      · omega
      · rw [z2] at h
        exact KM.lexLt_irrefl _ h
    · rw [decide_eq_false z2, if_neg Bool.false_ne_true]
      by_cases z3 : KM.lexLt a b
      · rw [decide_eq_true z3]
        exact (decide_eq_true (.inr ⟨z, z3⟩)).symm
      · rw [decide_eq_false z3]
        refine (decide_eq_false ?_).symm
        rintro (h | ⟨_, h⟩)
        · omega
        · exact z3 h
  · rw [decide_eq_false z, if_neg Bool.false_ne_true]
    by_cases z3 : KM.cost p a < KM.cost p b
    · rw [decide_eq_true (show (KM.cost p a : Int) < (KM.cost p b : Int) by omega)]
      exact (decide_eq_true (.inl z3)).symm
    · rw [decide_eq_false (show ¬ (KM.cost p a : Int) < (KM.cost p b : Int) by omega)]
      refine (decide_eq_false ?_).symm
      rintro (h | ⟨h, _⟩)
      · exact z3 h
      · exact z h
theorem encP_inj {p : Nat → Nat} {a b : List Nat} (h : encP p a = encP p b) : a = b := by
  unfold encP at h
  injection h with h
  injection h with _ h
  injection h with h _
  have := encL_eqv a b
  rw [h, encL_eqv] at this
  simpa using this.symm
theorem minP (p : Nat → Nat) (b : List Nat) (bs : List (List Nat)) : ∃ m, m ∈ b :: bs ∧ minD (encP p b) (bs.map (encP p)) = encP p m ∧ ∀ c ∈ b :: bs, ¬ plt p c m :=
  minD_enc (encP p) (plt p) (encP_lt p) (fun a => by
      rintro (h | ⟨_, h⟩)
      · omega
      · exact KM.lexLt_irrefl _ h) (fun a b c h1 h2 => by
      rcases h1 with h1 | ⟨e1, h1⟩ <;> rcases h2 with h2 | ⟨e2, h2⟩
      · exact .inl (by omega)
      · exact .inl (by omega)
      · exact .inl (by omega)
      · exact .inr ⟨by omega, lexLt_trans h1 h2⟩) (fun a b c h1 h2 h => by
      rcases h with h | ⟨e, h⟩
      · have : ¬ KM.cost p a < KM.cost p b := fun w => h1 (.inl w)
        have : ¬ KM.cost p b < KM.cost p c := fun w => h2 (.inl w)
        omega
      · have : ¬ KM.cost p a < KM.cost p b := fun w => h1 (.inl w)
        have : ¬ KM.cost p b < KM.cost p c := fun w => h2 (.inl w)
        exact lexLt_ntrans (fun w => h1 (.inr ⟨by omega, w⟩)) (fun w => h2 (.inr ⟨by omega, w⟩)) h) bs b
theorem dpAll_ints {K : PySem.W.Frag} {H : Hp} : ∀ l : List Nat, DpAll K H (nVs l) (l.map fun n : Nat => .int (n : Int))
  | [] => .nil
  | x :: r => .cons (.int _) (dpAll_ints r)
theorem dpL {K : PySem.W.Frag} {H : Hp} {a : Addr} {l : List Nat} (h : SqT K H a (nVs l)) : Dp K H (.ref a) (encL l) := .tup h (dpAll_ints l)
theorem LotsAt.dp {K : PySem.W.Frag} {H : Hp} {a : Addr} {ls : List (List Nat)} (h : LotsAt K H a ls) : Dp K H (.ref a) (.list (ls.map encL)) := by
  obtain ⟨ps, h1, h2, h3⟩ := h
  subst h1
  refine .lst (SqL.of h2) ?_
  rw [List.map_map]
  have := dpAll_of (K := K) (H := H) (ps := ps.map fun p => (V.ref p.1, encL p.2)) fun q hq => by
    obtain ⟨p, hp, rfl⟩ := List.mem_map.mp hq
    exact dpL (h3 p hp)
  rw [List.map_map, List.map_map] at this
  exact this
theorem lots_shaped (ls : List (List Nat)) : SeqAt.shaped (.list (ls.map encL)) = true := shaped_list _ encL_lay (fun b => Nat.le_trans (encL_dep b) (by decide)) _
/-! ### lots with their prices -/
def PricedAt (K : PySem.W.Frag) (H : Hp) (a : Addr) (p : Nat → Nat) (ls : List (List Nat)) : Prop :=
  ∃ qs : List (Addr × Addr × List Nat), qs.map (·.2.2) = ls ∧ H a = some (.lst (qs.map fun q => .ref q.1)) ∧ ∀ q ∈ qs, SqT K H q.1 [nV (KM.cost p q.2.2), .ref q.2.1] ∧ SqT K H q.2.1 (nVs q.2.2)
theorem PricedAt.min {K : PySem.W.Frag} {H : Hp} {a : Addr} {p : Nat → Nat} {l : List Nat} {ls : List (List Nat)} {Q : VK} (h : PricedAt K H a p (l :: ls))
    (q : ∀ b r m, m ∈ l :: ls → (∀ c ∈ l :: ls, ¬ plt p c m) → SqT K H b [nV (KM.cost p m), .ref r] → SqT K H r (nVs m) → Q (.ref b) H) : rMinD K [.ref a] H Q := by
  obtain ⟨qs, h1, h2, h3⟩ := h
  obtain ⟨m, hm, em, hl⟩ := minP p l ls
  refine ⟨a, qs.map fun q => (V.ref q.1, encP p q.2.2), encP p l, ls.map (encP p), rfl, ?_, fun y hy => ?_, ?_, ⟨fun x hx y hy => ?_, fun x hx => ?_⟩, ?_, fun y hy e => ?_⟩
  · rw [List.map_map]
    exact SqL.of h2
  · obtain ⟨z, hz, rfl⟩ := List.mem_map.mp hy
    obtain ⟨g1, g2⟩ := h3 z hz
    exact .tup g1 (.cons (.int _) (.cons (dpL g2) .nil))
  · rw [List.map_map]
    have := congrArg (List.map (encP p)) h1
    rw [List.map_map] at this
    exact this
  · rw [← List.map_cons] at hx hy
    obtain ⟨x0, _, rfl⟩ := List.mem_map.mp hx
    obtain ⟨y0, _, rfl⟩ := List.mem_map.mp hy
    unfold encP
    simp [alike, alikeAll, encL_alike]
  · rw [← List.map_cons] at hx
    obtain ⟨x0, _, rfl⟩ := List.mem_map.mp hx
    unfold encP
    exact fun z => nomatch z
  · rw [← List.map_cons]
    have := depthAll_le (encP p) (encP_dep p) (l :: ls)
    omega
  · obtain ⟨z, hz, rfl⟩ := List.mem_map.mp hy
    have e : encP p z.2.2 = encP p m := by
      rw [← em]
      exact e
    have e2 := encP_inj e
    obtain ⟨g1, g2⟩ := h3 z hz
    rw [e2] at g1 g2
    exact q _ _ m hm hl g1 g2
/-! ### what stays when the row is written -/
theorem sqT_kb {K : PySem.W.Frag} {H H' : Hp} {rw b : Addr} {l xs : List V} (h : KB rw H H') (hr : H rw = some (.lst l)) (s : SqT K H b xs) : SqT K H' b xs := by
  rcases s with (s | ⟨o, s⟩) | s
  · exact .inl (.inl (h b _ (ne_of s hr (by intro z; cases z)) s))
  · exact .inl (.inr ⟨o, h b _ (ne_of s hr (by intro z; cases z)) s⟩)
  · exact .inr s
theorem WebAt.kb {K : PySem.W.Frag} {H H' : Hp} {rw a : Addr} {l : List V} {n ts} (h : KB rw H H') (hr : H rw = some (.lst l)) (s : WebAt K H a n ts) : WebAt K H' a n ts := by
  obtain ⟨t, as, h1, h2, h3, h4⟩ := s
  exact ⟨t, as, h1, sqT_kb h hr h2, sqT_kb h hr h3, fun p hp => sqT_kb h hr (h4 p hp)⟩
theorem LotsAt.kb {K : PySem.W.Frag} {H H' : Hp} {rw a : Addr} {l : List V} {ls} (h : KB rw H H') (hr : H rw = some (.lst l)) (ne : a ≠ rw) (s : LotsAt K H a ls) : LotsAt K H' a ls := by
  obtain ⟨ps, h1, h2, h3⟩ := s
  exact ⟨ps, h1, h a _ ne h2, fun p hp => sqT_kb h hr (h3 p hp)⟩
theorem LotsAt.ext {K : PySem.W.Frag} {H H' : Hp} {a ls} (e : ExtN H H') (h : LotsAt K H a ls) : LotsAt K H' a ls := by
  obtain ⟨ps, h1, h2, h3⟩ := h
  exact ⟨ps, h1, e _ _ h2 (fun _ z => nomatch z), fun p hp => extN_tup e (h3 p hp)⟩
theorem RowAt.ext {K : PySem.W.Frag} {H H' : Hp} {rw : Addr} (e : ExtN H H') (h : RowAt K H rw) : RowAt K H' rw := by
  obtain ⟨sc, ns, at', sd, rs, h1, h2, h3⟩ := h
  refine ⟨sc, ns, at', sd, rs, e _ _ h1 (fun _ z => nomatch z), ?_, h3⟩
  rcases h2 with (s | ⟨o, s⟩) | s
  · exact .inl (.inl (e _ _ s (fun _ z => nomatch z)))
  · exact .inl (.inr ⟨o, e _ _ s (fun _ z => nomatch z)⟩)
  · exact .inr s
theorem tabs_kb {T : List (Addr × Str)} {H H' : Hp} {rw : Addr} {l : List V} (h : KB rw H H') (hr : H rw = some (.lst l)) (t : Tabs T H) : Tabs T H' := fun p hp => by
  obtain ⟨ps, h1, h2, h3⟩ := t p hp
  refine ⟨ps, h _ _ (fun z => by rw [z, hr] at h1; cases h1) h1, h2, fun pos cv hc => ?_⟩
  obtain ⟨c, e1, e2⟩ := h3 pos cv hc
  exact ⟨c, e1, h _ _ (fun z => by rw [z, hr] at e2; cases e2) e2⟩
theorem RowAt.lst {K : PySem.W.Frag} {H : Hp} {rw : Addr} (h : RowAt K H rw) : ∃ l, H rw = some (.lst l) := by
  obtain ⟨sc, ns, at', sd, rs, h1, _⟩ := h
  exact ⟨_, h1⟩
/-! ### the plain law -/
/-- what each of the law's checks asks of the lots -/
structure AllTrees (n : Nat) (ts : List Tie) (ls : List (List Nat)) : Prop where
  mem : ∀ l, l ∈ ls ↔ KM.Asc l ∧ (∀ i ∈ l, i < ts.length) ∧ isT n ts l = true
theorem one_all {n : Nat} {ts : List Tie} {l : List Nat} (n1 : 1 ≤ n) (h2 : ∀ i ∈ l, i < ts.length) (h3 : isT n ts l = true) : one1 n ts (List.range ts.length) := by
  have t := (isT_iff n1 l).mp h3
  unfold one1
  rw [KM.cnt_one (KM.lab_good _) n1]
  exact fun a b ha hb => (t.2 a b ha hb).mono fun j hj => List.mem_range.mpr (h2 j hj)
theorem least_is {n : Nat} {ts : List Tie} {ls : List (List Nat)} {ord lot m : List Nat} (o : WebOk n ts) (T : AllTrees n ts ls) (O : Ordered ts ord) (a : KM.Asc lot) (e : ∀ i, i ∈ lot ↔ i ∈ krw ts ord) (hm : m ∈ ls) (hl : ∀ c ∈ ls, ¬ plt (ep ts) c m) : lot = m := by
  have hin : ∀ i, i ∈ ord ↔ i < ts.length := fun i => by rw [O.perm.mem_iff, List.mem_range]
  obtain ⟨m1, m2, m3⟩ := (T.mem m).mp hm
  refine (KM.kruskal (u := eu ts) (v := ev ts) (n := n) (p := ep ts) O.srt (fun i hi => o.ends ((hin i).mp hi)) a e m1 ((isT_iff o.n1 m).mp m3) (fun i hi => (hin i).mpr (m2 i hi)) fun t t1 t2 t3 h => ?_).2
  exact hl t ((T.mem t).mpr ⟨t1, fun i hi => (hin i).mp (t3 i hi), (isT_iff o.n1 t).mpr t2⟩) h
theorem conn_congr {u v u' v' : Nat → Nat} {S : Nat → Prop} (h : ∀ i, S i → u i = u' i ∧ v i = v' i) {a b : Nat} (c : KM.Conn u v S a b) : KM.Conn u' v' S a b := by
  induction c with
  | refl a => exact .refl a
  | edge i hi =>
    obtain ⟨h1, h2⟩ := h i hi
    rw [h1, h2]
    exact .edge i hi
  | symm _ ih => exact .symm ih
  | trans _ _ ih1 ih2 => exact .trans ih1 ih2
theorem tree_congr {n : Nat} {u v u' v' : Nat → Nat} {l : List Nat} (h : ∀ i ∈ l, u i = u' i ∧ v i = v' i) (t : KM.IsTree n u v l) : KM.IsTree n u' v' l := ⟨t.1, fun a b ha hb => conn_congr h (t.2 a b ha hb)⟩
/-- the law's own test of an exchange -/
def good (ts : List Tie) (ls : List (List Nat)) (lot : List Nat) (o m : Nat) : Bool := decide (m ∉ lot) && decide (KM.swp lot o m ∈ ls) && decide (KM.cost (ep ts) (KM.swp lot o m) < KM.cost (ep ts) lot)
theorem good_saves {n : Nat} {ts : List Tie} {ls : List (List Nat)} {lot : List Nat} (T : AllTrees n ts ls) (hl : lot ∈ ls) : cands (good ts ls lot) ts.length lot = cands (saves n ts lot) ts.length lot := by
  obtain ⟨a, inn, tr⟩ := (T.mem lot).mp hl
  refine cands_congr fun o ho m hm => ?_
  unfold good saves
  by_cases h : m ∈ lot
  · rw [decide_eq_false (fun z => z h)]
    rfl
  · rw [decide_eq_true h, Bool.true_and, Bool.true_and]
    have c := KM.cost_swp (p := ep ts) (m := m) a ho
    have e1 : decide (KM.swp lot o m ∈ ls) = isT n ts (KM.swp lot o m) := by
      have := T.mem (KM.swp lot o m)
      cases z : isT n ts (KM.swp lot o m) with
      | true =>
        refine decide_eq_true (this.mpr ⟨KM.swp_asc a h, fun i hi => ?_, z⟩)
        rcases KM.mem_swp.mp hi with w | w
        · exact inn i w.1
        · rw [w]; exact hm
      | false =>
        refine decide_eq_false fun w => ?_
        have := (this.mp w).2.2
        rw [z] at this
        cases this
    have e2 : decide (KM.cost (ep ts) (KM.swp lot o m) < KM.cost (ep ts) lot) = decide (ep ts m < ep ts o) := decide_eq_decide.mpr (by omega)
    rw [e1, e2, Bool.and_comm]
theorem no_better {n : Nat} {ts : List Tie} {ls : List (List Nat)} {lot m : List Nat} (o : WebOk n ts) (T : AllTrees n ts ls) (hl : lot ∈ ls) (hm : m ∈ ls) (least : ∀ c ∈ ls, ¬ plt (ep ts) c m) : cands (good ts ls lot) ts.length lot = [] ↔ KM.cost (ep ts) lot = KM.cost (ep ts) m := by
  obtain ⟨a, inn, tr⟩ := (T.mem lot).mp hl
  obtain ⟨a2, inn2, tr2⟩ := (T.mem m).mp hm
  constructor
  · intro h
    rw [good_saves T hl] at h
    have h1 : ¬ plt (ep ts) lot m := least lot hl
    have h2 : ¬ KM.cost (ep ts) lot < KM.cost (ep ts) m := fun w => h1 (.inl w)
    have h3 : KM.cost (ep ts) lot ≤ KM.cost (ep ts) m := by
      have ue : ∀ i, i < ts.length → (if i < ts.length then eu ts i else n) = eu ts i := fun i hi => if_pos hi
      have to : ∀ l : List Nat, (∀ i ∈ l, i < ts.length) → isT n ts l = true → KM.IsTree n (fun i => if i < ts.length then eu ts i else n) (ev ts) l := fun l hl ht => tree_congr (fun i hi => ⟨(ue i (hl i hi)).symm, rfl⟩) ((isT_iff o.n1 l).mp ht)
      have ends : ∀ l : List Nat, (∀ i ∈ l, i < ts.length) → ∀ i ∈ l, (if i < ts.length then eu ts i else n) < n ∧ ev ts i < n := fun l hl i hi => by
        rw [ue i (hl i hi)]
        exact o.ends (hl i hi)
      refine KM.local_least (u := fun i => if i < ts.length then eu ts i else n) (v := ev ts) (n := n) (p := ep ts) a (to lot inn tr) (ends lot inn) (fun f e hf he hb ht => ?_) m.length m (List.length_filter_le _ _) a2 (to m inn2 tr2) (ends m inn2) fun _ _ _ => trivial
      have elt : e < ts.length := Classical.byContradiction fun z => by
        have := hb.1
        rw [if_neg z] at this
        omega
      have inn3 : ∀ i ∈ KM.swp lot f e, i < ts.length := fun i hi => by
        rcases KM.mem_swp.mp hi with w | w
        · exact inn i w.1
        · rw [w]; exact elt
      have tr3 : isT n ts (KM.swp lot f e) = true := (isT_iff o.n1 _).mpr (tree_congr (fun i hi => ⟨ue i (inn3 i hi), rfl⟩) ht)
      refine Classical.byContradiction fun z => ?_
      have : (f, e) ∈ cands (saves n ts lot) ts.length lot := mem_cands.mpr ⟨hf, elt, by
        unfold saves
        rw [tr3, decide_eq_true he, decide_eq_true (show ep ts e < ep ts f by omega)]
        rfl⟩
      rw [h] at this
      cases this
    omega
  · intro h
    cases hc : cands (good ts ls lot) ts.length lot with
    | nil => rfl
    | cons x xs =>
      have hx : x ∈ cands (good ts ls lot) ts.length lot := by rw [hc]; exact List.mem_cons_self
      obtain ⟨_, _, hg⟩ := mem_cands.mp hx
      unfold good at hg
      rw [Bool.and_eq_true, Bool.and_eq_true, decide_eq_true_eq, decide_eq_true_eq, decide_eq_true_eq] at hg
      exact (least _ hg.1.2 (.inl (by omega))).elim
end KW
namespace KW
open PySem PySem.W PySem.Spec PyProof.Rows L2
open LamX (ExtN Tabs TabB)
/-! ### the law -/
theorem hu65 {A : Around} {k : Nat} (hr : Room k A) : A.units + 65 < cLine := by
  have := hr.un
  omega
theorem cut_take {xs : List V} (h : 4 ≤ xs.length) : cutV xs none (some 4) = xs.take 4 := by
  unfold cutV
  rw [HT.sIx_none, show (some (4 : Int)) = some ((4 : Nat) : Int) from rfl, HT.sIx_nat, Nat.min_eq_left h]
  rfl
theorem cut_drop {xs : List V} (h : 4 ≤ xs.length) : cutV xs (some 4) none = xs.drop 4 := by
  unfold cutV
  rw [HT.sIx_none, show (some (4 : Int)) = some ((4 : Nat) : Int) from rfl, HT.sIx_nat, Nat.min_eq_left h]
  rw [← List.length_drop, List.take_length]
def spLaw (K : PySem.W.Frag) (pt : Addr) : Sp := fun vs H Q _ => ∃ (a : Addr) (ns : List Int), vs = [.ref a] ∧ SqL K H a (ns.map V.int) ∧ Tabs (tabT pt) H ∧ ∀ H', Q (.bl true) H'
abbrev NW : List Str := ["_law_script", "_law_row", "_law_web", "_law_every", "_law_lot", "_law_best", "_law_told", "_law_out", "_law_more", "_law_later", "_law_tie", "_law_index"]
theorem sc_law : FnScope NW ["_law_script"] (defScope s_law) := ⟨rfl, rfl, rfl, by decide +kernel, rfl, by decide +kernel, by decide +kernel⟩
section
variable {P : Program} {w : World} {K : PySem.W.Frag} {mg : Str → Option Value} {base : Heap}
theorem ok_law {f : Addr} {fd : FuncData} {pt : Addr} (F : Fun K "law" "law" s_law f fd) (B : Bl mg)
    (G : Has P w K mg base 2 "_law_pick" ["_law_row", "_law_things"] (spPick K)) (J : Has P w K mg base 3 "_law_joined_web" ["_law_row", "_law_most", "_law_dense"] (spJW K))
    (T : Has P w K mg base 3 "_law_trees" ["_law_web"] (spLTrees K)) (R : Has P w K mg base 1 "_law_price" ["_law_web", "_law_lot"] (spPrice K)) (A : Has P w K mg base 2 "_law_alike" ["_law_found", "_law_due"] (spAlike K))
    (L : Has P w K mg base 6 "least_tree" ["web"] (spLeastTree K pt)) (Bt : Has P w K mg base 7 "better" ["web", "lot"] (spBetter K)) : FnOk P w K mg base CX0 8 f fd ["_law_script"] (spLaw K pt) := by
  refine F.ok sc_law (fun vs H Q E h => ?_) (fun cdv A0 outer s H vs Q E hr h => ?_)
  · obtain ⟨a, ns, rfl, _⟩ := h
    rfl
  · obtain ⟨a, ns, rfl, hS, hTab, q⟩ := h
    have hu5 := hu65 hr
    obtain ⟨tR, hP, hRd⟩ : ∃ t, PSs (cxOf CX0 P w K mg base NW "law" (defScope s_law) f cdv A0 outer s H E).nox ((defBody s_law).drop 3) t ∧ ∀ (H4 : Hp) (rw wv : Addr) (n : Nat) (ts : List Tie), WebAt K H4 wv n ts → WebOk n ts → ts.length ≤ 15 → RowAt K H4 rw → Tabs (tabT pt) H4 →
        t { nx := fun _ H' => Q .non H', rt := Q } [some (.ref a), some (.ref rw), some (.ref wv), none, none, none, none, none, none, none, none, none] H4 := by
      refine ⟨_, pss_cons (ps_set (i := 3) sc_law.nd rfl (.inl rfl) (pe_has T hr (pa_cons (pv 2) pa_nil)))
      (pss_cons (ps_if (pt_cmpR (op_eqD hr.units) (pv 3) (pe_lst pa_nil) (nomark _)) (pss_one (ps_ret pe_bl)) pss_nil)
      (pss_cons (ps_set (i := 5) sc_law.nd rfl (.inl rfl) (pe_callB (cr_minD rfl hr) (by rfl) B.min (by decide +kernel) (pa_cons (pe_lc (own := [("_law_lot", 4)]) (g := gName 4) (tt := tYes) rfl sc_law.nd (pi_list (pv 3))
          (blkOk_by (own := [("_law_lot", 4)]) (N := NW) (sc := defScope s_law) (by decide +kernel))
          (fun _ _ _ _ _ => pg_name (i := 4) sc_law.nd rfl (.inl rfl)) (fun _ _ _ _ _ => pts_nil)
          (fun _ _ _ _ _ => pe_tup (pa_cons (pe_has R hr (pa_cons (pv 2) (pa_cons (pv 4) pa_nil))) (pa_cons (pv 4) pa_nil)))) pa_nil)))
      (pss_cons (ps_if (pt_not (pt_val (pe_has A hr (pa_cons (pe_has L hr (pa_cons (pv 2) pa_nil)) (pa_cons (pe_ix ix_tup (pv 5) pe_int (fun _ _ => rfl)) pa_nil))))) pss_never pss_nil)
      (pss_cons (ps_par (i := 4) (j := 6) rfl sc_law.nd rfl rfl (by decide) rfl rfl (pa_cons (pe_has G hr (pa_cons (pv 1) (pa_cons (pv 3) pa_nil))) (pa_cons (pe_lst pa_nil) pa_nil)) (by rfl))
      (pss_cons (ps_for PassesOwn.never rfl (pi_tup (pv 4)) (pg_name (i := 7) sc_law.nd rfl (.inr rfl))
        (pss_one (ps_for PassesOwn.never rfl (pi_range1 (by rfl) B.rng (pa_cons (pe_callB call_len_seq (by rfl) B.len (by decide +kernel) (pa_cons (pe_ix ix_tup (pv 2) pe_int (fun _ _ => rfl)) pa_nil)) pa_nil)) (pg_name (i := 8) sc_law.nd rfl (.inl rfl))
          (pss_cons (ps_set (i := 9) sc_law.nd rfl (.inl rfl) (pe_callTy call_tuple_of (by rfl) B.tup (by decide +kernel) (pa_cons (pe_callB cr_sortedI (by rfl) B.srt (by decide +kernel) (pa_cons (pe_op op_cat
              (pe_lc (own := [("_law_index", 11)]) (g := gName 11) rfl sc_law.nd (pi_tup (pv 4)) (blkOk_by (own := [("_law_index", 11)]) (N := NW) (sc := defScope s_law) (by decide +kernel))
                (fun _ _ _ _ _ => pg_name (i := 11) sc_law.nd rfl (.inl rfl)) (fun _ _ _ _ _ => pts_one (pt_cmpR op_ne (pv 11) (pv 7) (nomark _))) (fun _ _ _ _ _ => pv 11))
              (pe_lst (pa_cons (pv 8) pa_nil))) pa_nil)) pa_nil)))
          (pss_one (ps_if (PW.pt (pw_and (pt_cmpR op_notIn_seq (pv 8) (pv 4) rfl) (pw_and (pt_cmpR (op_inD hu5) (pv 9) (pv 3) rfl) (pw_and1 (pt_cmpR op_lt (pe_has R hr (pa_cons (pv 2) (pa_cons (pv 9) pa_nil))) (pe_has R hr (pa_cons (pv 2) (pa_cons (pv 4) pa_nil))) (nomark _))))))
            (pss_one (ps_expr (pe_bm PySem.F.plainAttrs_list PySem.F.slot_list_append PySem.F.type_list_append mt_append (pv 6) (pa_cons (pe_tup (pa_cons (pe_has R hr (pa_cons (pv 2) (pa_cons (pv 9) pa_nil))) (pa_cons (pe_tup (pa_cons (pv 7) (pa_cons (pv 8) pa_nil))) pa_nil))) pa_nil)))) pss_nil))))))
      (pss_cons (ps_if (pt_not (pt_val (pe_has A hr (pa_cons (pe_has Bt hr (pa_cons (pv 2) (pa_cons (pv 4) pa_nil))) (pa_cons (pe_ifExp (pt_cmpR (op_neD hr.units) (pv 6) (pe_lst pa_nil) (nomark _)) (pe_ix ix_tup (pe_callB (cr_minD rfl hr) (by rfl) B.min (by decide +kernel) (pa_cons (pv 6) pa_nil)) pe_int (fun _ _ => rfl)) pe_non) pa_nil))))) pss_never pss_nil)
      (pss_one (ps_ret (pe_cmpR op_eq (pe_cmpR (op_eqD hr.units) (pv 6) (pe_lst pa_nil) (nomark _)) (pe_cmpR op_eq (pe_has R hr (pa_cons (pv 2) (pa_cons (pv 4) pa_nil))) (pe_ix ix_tup (pv 5) pe_int (fun _ _ => rfl)) (nomark _)) (nomark _)))))))))), ?_⟩
      rintro H4 rw wv n ts hW o l15 hR hTab
      -- every = trees(web)
      have M16 : ts.length ≤ 16 := by omega
      refine ⟨_, rfl, wv, n, ts, rfl, hW, o, M16, fun H5 ev ls s5 nev hLs hmem hlen => ?_⟩
      have hT : AllTrees n ts ls := ⟨hmem⟩
      -- if every == []
      refine ⟨_, rfl, Nat.zero_le _, fun l0 hl0 => ?_⟩
      have s6 : Same H5 (upd H5 l0 (.lst [])) := same_new hl0
      refine ⟨_, .list [], (hLs.same s6).dp, .lst (SqL.of upd_same) .nil, lots_shaped _, rfl, _, rfl, ?_⟩
      rw [eqv_nil]
      cases hls : ls with
      | nil => exact iteT (q _)
      | cons l1 lr =>
      refine iteF ?_
      have hL6 := hLs.same s6
      have s56 := s5.trans s6
      have hW6 := hW.same s56
      have hR6 := hR.same s56
      have T6 := LamX.Tabs.ext hTab s56
      have nev6 : ev ≠ rw := by
        obtain ⟨l, hl⟩ := hR.lst
        exact fun z => by rw [z, hl] at nev; cases nev
      generalize upd H5 l0 (.lst []) = H6 at *
      clear hLs s5 s6 s56 hW hR hTab hl0
      obtain ⟨ps, hps, hev, hpT⟩ := id hL6
      -- best = min([..])
      refine ⟨_, rfl, ev, rfl, ⟨_, SqL.of hev⟩, fun Dd hD => lc_list (K := K) (a := ev) (xs := ps.map fun p => .ref p.1) (fun i H' => Same H6 H' ∧ PricedAt K H' Dd (ep ts) (ls.take i))
        ⟨same_new hD, [], rfl, upd_same, fun q hq => nomatch hq⟩ (fun i H' _ ⟨sm, _⟩ => SqL.of (sm _ _ hev)) ?_ ?_⟩
      · rintro i y H7 hi ⟨sm, hPr⟩
        obtain ⟨pe, hpe, rfl⟩ : ∃ pe, ps[i]? = some pe ∧ y = V.ref pe.1 := by
          rw [List.getElem?_map] at hi
          cases e : ps[i]? with
          | none => rw [e] at hi; cases hi
          | some pe => rw [e] at hi; exact ⟨pe, rfl, (Option.some.inj hi).symm⟩
        have hl : ls[i]? = some pe.2 := by
          rw [← hps, List.getElem?_map, hpe]
          rfl
        obtain ⟨asc, inn, _⟩ := (hmem _).mp (List.mem_of_getElem? hl)
        have few := asc_few asc inn
        have hTp := sm.tup (hpT _ (List.mem_of_getElem? hpe))
        refine ⟨rfl, yes ?_⟩
        refine ⟨_, rfl, _, rfl, wv, pe.1, n, ts, pe.2, rfl, hW6.same sm, hTp, inn, by omega, fun H8 s8 => ⟨_, rfl, (by show 2 ≤ sizeLine; decide), fun p9 hp9 => ?_⟩⟩
        have s9 := s8.upd (o := .tup [nV (KM.cost (ep ts) pe.2), .ref pe.1]) hp9
        have hD0 : H6 Dd = none := hD
        obtain ⟨qs, hqs, hDd, hqT⟩ := hPr
        have hDd9 := s9 _ _ hDd
        refine ⟨_, hDd9, ?_, (sm.trans s9).set hD0, qs ++ [(p9, pe.1, pe.2)], ?_, ?_, fun z hz => ?_⟩
        · rw [List.length_map]
          have := congrArg List.length hqs
          rw [List.length_map, List.length_take] at this
          exact szlt (by omega)
        · rw [List.map_append, hqs, take_next hl]
          rfl
        · rw [upd_same, List.map_append]
          rfl
        · rcases List.mem_append.mp hz with hz | hz
          · obtain ⟨g1, g2⟩ := hqT z hz
            exact ⟨sqT_upd hDd9 (s9.tup g1), sqT_upd hDd9 (s9.tup g2)⟩
          · rw [List.mem_singleton.mp hz]
            exact ⟨sqT_upd hDd9 (SqT.of upd_same), sqT_upd hDd9 (s9.tup hTp)⟩
      · rintro H7 ⟨sm, hPr⟩
        have epl : (ps.map fun p => V.ref p.1).length = ls.length := by rw [← hps, List.length_map, List.length_map]
        rw [epl, List.take_length, hls] at hPr
        unfold tNil
        dsimp only
        show rMinD K [V.ref Dd] H7 _
        refine hPr.min fun b r m hm hleast g1 g2 => ?_
        rw [← hls] at hm hleast
        obtain ⟨masc, minn, mtr⟩ := (hmem m).mp hm
        have mfew := asc_few masc minn
        have hW7 := hW6.same sm
        have hR7 := hR6.same sm
        have T7 := LamX.Tabs.ext T6 sm
        have hL7 := hL6.same sm
        clear hW6 hR6 T6 hL6 hPr hD
        -- alike(least_tree(web), best[1])
        refine ⟨_, rfl, wv, n, ts, rfl, hW7, o, one_all o.n1 minn mtr, T7, fun H8 lp ord lot8 e8 T8 hO h8 ha8 he8 => ?_⟩
        obtain rfl : lot8 = m := least_is o hT hO ha8 he8 hm hleast
        refine ⟨_, rfl, b, _, 1, .ref r, rfl, rfl, extN_tup e8 g1, rfl, .inr ⟨lp, r, lot8, rfl, SqT.of h8, extN_tup e8 g2, by omega, fun H9 s9 => ⟨_, rfl, iteF ?_⟩⟩⟩
        have e9 := e8.trans s9.extN
        have hW9 := hW7.ext e9
        have hR9 := hR7.ext e9
        have hL9 := hL7.ext e9
        have g19 := extN_tup e9 g1
        clear e8 e9 s9 T8 T7 hW7 hR7 hL7 g1 h8 ha8 he8 g2 hev hpT
        -- lot, told = pick(row, every), []
        obtain ⟨ps9, hps9, hev9, hpT9⟩ := id hL9
        have epl9 : (ps9.map fun p => V.ref p.1).length = ls.length := by rw [← hps9, List.length_map, List.length_map]
        refine ⟨_, rfl, _, rfl, rw, ev, _, rfl, hR9, SqL.of hev9, nev6, ?_, by rw [epl9]; omega, fun x H10 hx hR10 hB10 => ?_⟩
        · intro z
          rw [z, hls] at epl9
          cases epl9
        obtain ⟨lw, hlw⟩ := hR9.lst
        have kb10 : KB rw H9 H10 := (KB.refl rw H9).but hB10
        obtain ⟨pe, hpe, rfl⟩ := List.mem_map.mp hx
        have hlot : pe.2 ∈ ls := by rw [← hps9]; exact List.mem_map.mpr ⟨pe, hpe, rfl⟩
        have hLt := sqT_kb kb10 hlw (hpT9 pe hpe)
        obtain ⟨lt, lot⟩ := pe
        dsimp only at hlot hLt
        obtain ⟨asc, inn, tr⟩ := (hmem lot).mp hlot
        have few := asc_few asc inn
        have hW10 := hW9.kb kb10 hlw
        have hL10 := hL9.kb kb10 hlw nev6
        have g110 := sqT_kb kb10 hlw g19
        have LT : LotT K H10 wv lt n ts lot := ⟨hW10, o, hLt, inn, asc⟩
        clear hW9 hR9 hL9 g19 hpT9 hev9 kb10 hB10
        refine ⟨Nat.zero_le _, fun tl htl => ⟨_, _, rfl, ?_⟩⟩
        -- the loops
        let κ : Ex → Int := fun x => (KM.cost (ep ts) (KM.swp lot x.1 x.2) : Int)
        refine ⟨_, rfl, lt, rfl, ⟨_, (LT.same (same_new htl)).seq⟩, for_tup (K := K) (a := lt) (xs := nVs lot) (fun i σ H' => ∃ y7 y8 y9, σ = [some (.ref a), some (.ref rw), some (.ref wv), some (.ref ev), some (.ref lt), some (.ref b), some (.ref tl), y7, y8, y9, none, none] ∧ Same H10 H' ∧ ToldAt K H' tl κ (cands (good ts ls lot) ts.length (lot.take i)))
          ⟨_, _, _, rfl, same_new htl, ToldAt.nil _ upd_same⟩ (fun i σ H' _ ⟨_, _, _, _, sm, _⟩ => (LT.same sm).seq) ?_ ?_⟩
        · rintro i y σ H11 hi ⟨y7, y8, y9, rfl, sm, hTo⟩
          obtain ⟨oo, ho, rfl⟩ := nVs_get hi
          have hom := List.mem_of_getElem? ho
          have hol := inn _ hom
          have L11 := LT.same sm
          obtain ⟨t, as, eas, hwv, ht, hties⟩ := id L11.web
          have elen : (as.map fun p => V.ref p.1).length = ts.length := by rw [← eas, List.length_map, List.length_map]
          refine ⟨_, rfl, wv, _, 1, .ref t, rfl, rfl, hwv, rfl, t, _, rfl, .inr ht, (ts.length : Int), by rw [elen], by omega, by omega, for_range (lo := 0) (n := ts.length) (fun j σ H' => ∃ y8 y9, σ = [some (.ref a), some (.ref rw), some (.ref wv), some (.ref ev), some (.ref lt), some (.ref b), some (.ref tl), some (nV oo), y8, y9, none, none] ∧ Same H10 H' ∧ ToldAt K H' tl κ (cands (good ts ls lot) ts.length (lot.take i) ++ ((List.range j).filter (good ts ls lot oo)).map fun m => (oo, m)))
            ⟨_, _, rfl, sm, by rw [show ((List.range 0).filter (good ts ls lot oo)).map (fun m => ((oo, m) : Ex)) = [] from rfl, List.append_nil]; exact hTo⟩ ?_ ?_⟩
          · rintro mm σ H12 hmm ⟨y8, y9, rfl, sm12, hTo12⟩
            rw [Int.zero_add]
            have L12 := LT.same sm12
            have hclen : (cands (good ts ls lot) ts.length (lot.take i) ++ ((List.range mm).filter (good ts ls lot oo)).map fun m => ((oo, m) : Ex)).length ≤ 100000 - 1 := by
              have h1 := cands_len (good ts ls lot) ts.length (lot.take i)
              have h2 : ((List.range mm).filter (good ts ls lot oo)).length ≤ mm := Nat.le_trans (List.length_filter_le _ _) (by rw [List.length_range]; exact Nat.le_refl _)
              have h3 : (lot.take i).length ≤ 20 := by rw [List.length_take]; omega
              have h4 : (lot.take i).length * ts.length ≤ 20 * 20 := Nat.mul_le_mul h3 (by omega)
              rw [List.length_append, List.length_map]
              omega
            -- later = tuple(sorted([..] + [more]))
            refine ⟨_, rfl, lt, rfl, ⟨_, L12.seq⟩, fun D2 hD2 => lc_tup (K := K) (a := lt) (xs := nVs lot) (fun i H' => Same H12 H' ∧ H' D2 = some (.lst (nVs ((lot.take i).filter fun j => decide (j ≠ oo))))) ⟨same_new hD2, upd_same⟩ (fun i H' _ ⟨sm, _⟩ => sm.tup L12.seq) ?_ ?_⟩
            · rintro i2 y H' hi2 ⟨sm', hx'⟩
              obtain ⟨z, hz, rfl⟩ := nVs_get hi2
              refine ⟨rfl, _, rfl, _, rfl, rfl, _, rfl, ?_⟩
              rw [eq_nat, take_next hz, List.filter_append]
              by_cases e : z = oo
              · rw [decide_eq_true e]
                refine iteF ⟨sm', ?_⟩
                rw [hx']
                simp [e]
              · rw [decide_eq_false e]
                refine iteT ⟨_, rfl, _, hx', ?_, sm'.set hD2, ?_⟩
                · rw [List.length_map]
                  refine szlt (Nat.le_trans (List.length_filter_le _ _) ?_)
                  rw [List.length_take]
                  omega
                · rw [upd_same]
                  simp [e, nVs]
            · rintro H13 ⟨sm13, hx13⟩
              have ell : (nVs lot).length = lot.length := List.length_map _
              rw [ell, List.take_length] at hx13
              refine ⟨_, rfl, (by show 1 ≤ sizeLine; decide), fun z1 hz1 => ?_⟩
              have hx2 := same_new hz1 (o := .lst [nV mm]) _ _ hx13
              have hfl : (lot.filter fun j => decide (j ≠ oo)).length ≤ 1000 := Nat.le_trans (List.length_filter_le _ _) (by omega)
              refine ⟨D2, z1, _, _, rfl, rfl, hx2, upd_same, by rw [List.length_map]; exact KW.sz (by show _ + 1 ≤ _; omega), fun z2 hz2 => ?_⟩
              have sm14 := (sm13.upd (o := .lst [nV mm]) hz1).upd (o := .lst (nVs (lot.filter fun j => decide (j ≠ oo)) ++ [nV mm])) hz2
              refine ⟨z2, (((lot.filter fun j => decide (j ≠ oo)) ++ [mm]).map fun n : Nat => (n : Int)), rfl, ?_, fun ys z3 hyp hys hz3 => ?_⟩
              · rw [← nVs_int]
                refine SqL.of ?_
                rw [upd_same, nVs_snoc]
              have sm15 := sm14.upd (o := .lst (ys.map V.int)) hz3
              refine ⟨z3, _, rfl, .inl ⟨SqL.of upd_same, fun z4 hz4 => ?_⟩⟩
              rw [nVs_perm_swp asc hyp hys]
              have sm16 := sm15.upd (o := .tup (nVs (KM.swp lot oo mm))) hz4
              have h16 : SqT K (upd (upd (upd (upd H13 z1 (.lst [nV mm])) z2 (.lst (nVs (lot.filter fun j => decide (j ≠ oo)) ++ [nV mm]))) z3 (.lst (ys.map V.int))) z4 (.tup (nVs (KM.swp lot oo mm)))) z4 (nVs (KM.swp lot oo mm)) := SqT.of upd_same
              rw [nVs_perm_swp asc hyp hys] at sm16 h16
              generalize upd (upd (upd (upd H13 z1 (.lst [nV mm])) z2 (.lst (nVs (lot.filter fun j => decide (j ≠ oo)) ++ [nV mm]))) z3 (.lst (nVs (KM.swp lot oo mm)))) z4 (.tup (nVs (KM.swp lot oo mm))) = H16 at *
              have st16 := sm12.trans sm16
              have L16 := LT.same st16
              have hTo16 := hTo12.same sm16.extN
              have inn16 : ∀ j ∈ KM.swp lot oo mm, j < ts.length := fun j hj => by
                rcases KM.mem_swp.mp hj with h | h
                · exact inn j h.1
                · rw [h]; exact hmm
              have few16 : (KM.swp lot oo mm).length ≤ 1000 := by
                rw [KM.swp_len asc hom]
                omega
              have skip : ∀ (H' : Hp), Same H16 H' → good ts ls lot oo mm = false → ∃ y8 y9, [some (V.ref a), some (.ref rw), some (.ref wv), some (.ref ev), some (.ref lt), some (.ref b), some (.ref tl), some (nV oo), some (nV mm), some (.ref z4), none, none] = [some (V.ref a), some (.ref rw), some (.ref wv), some (.ref ev), some (.ref lt), some (.ref b), some (.ref tl), some (nV oo), y8, y9, none, none] ∧ Same H10 H' ∧ ToldAt K H' tl κ (cands (good ts ls lot) ts.length (lot.take i) ++ ((List.range (mm + 1)).filter (good ts ls lot oo)).map fun m => (oo, m)) := fun H' s' hg => by
                refine ⟨_, _, rfl, st16.trans s', ?_⟩
                rw [filt_succ, if_neg (by rw [hg]; exact Bool.false_ne_true), List.append_nil]
                exact hTo16.same s'.extN
              -- more not in lot
              refine ⟨_, rfl, _, rfl, lt, _, rfl, .inr L16.seq, rfl, flat_nats lot, _, rfl, ?_⟩
              show if (if true = true then !inV (nV mm) (nVs lot) else inV (nV mm) (nVs lot)) = true then _ else _
              rw [if_pos rfl, inV_nat]
              by_cases hmem1 : mm ∈ lot
              · rw [decide_eq_true hmem1]
                refine iteF (iteF ?_)
                exact skip H16 (Same.refl _) (by unfold good; rw [decide_eq_false (fun z => z hmem1)]; rfl)
              · rw [decide_eq_false hmem1]
                refine iteT ?_
                -- later in every
                refine ⟨_, rfl, _, rfl, _, _, dpL h16, (hL10.same st16).dp, encL_shaped _, lots_shaped _, _, rfl, ?_⟩
                rw [any_encL]
                by_cases hin : KM.swp lot oo mm ∈ ls
                · rw [decide_eq_true hin]
                  refine iteT ?_
                  refine ⟨_, rfl, _, rfl, wv, z4, n, ts, _, rfl, L16.web, h16, inn16, few16, fun H17 s17 => ?_⟩
                  have L17 := L16.same s17
                  refine ⟨_, rfl, _, rfl, wv, lt, n, ts, lot, rfl, L17.web, L17.seq, inn, by omega, fun H18 s18 => ⟨_, _, rfl, rfl, _, rfl, ?_⟩⟩
                  have s78 := s17.trans s18
                  have ec : decide (((KM.cost (ep ts) (KM.swp lot oo mm) : Nat) : Int) < ((KM.cost (ep ts) lot : Nat) : Int)) = decide (KM.cost (ep ts) (KM.swp lot oo mm) < KM.cost (ep ts) lot) := decide_eq_decide.mpr (by omega)
                  rw [ec]
                  by_cases hlt : KM.cost (ep ts) (KM.swp lot oo mm) < KM.cost (ep ts) lot
                  · rw [decide_eq_true hlt]
                    refine iteT ?_
                    have hg : good ts ls lot oo mm = true := by
                      unfold good
                      rw [decide_eq_true hmem1, decide_eq_true hin, decide_eq_true hlt]
                      rfl
                    have hTo18 := hTo16.same s78.extN
                    obtain ⟨zs, hzs, hzl⟩ : ∃ zs, H18 tl = some (.lst zs) ∧ zs.length ≤ 100000 - 1 := by
                      obtain ⟨ps2, f1, f2, _⟩ := hTo18
                      refine ⟨_, f2, ?_⟩
                      rw [List.length_map]
                      have := congrArg List.length f1
                      rw [List.length_map] at this
                      rw [this]
                      exact hclen
                    have L18 := L17.same s18
                    refine ⟨_, rfl, .inl ⟨rfl, _, SqL.of hzs⟩, _, rfl, _, rfl, wv, z4, n, ts, _, rfl, L18.web, s78.tup h16, inn16, few16, fun H19 s19 => ?_⟩
                    refine ⟨_, rfl, _, rfl, (by show 2 ≤ sizeLine; decide), fun p7 hp7 => ⟨(by show 2 ≤ sizeLine; decide), fun p8 hp8 => ?_⟩⟩
                    have s20 : Same H19 (upd H19 p7 (.tup [nV oo, nV mm])) := same_new hp7
                    have s21 := s20.upd (o := .tup [V.int (KM.cost (ep ts) (KM.swp lot oo mm) : Int), .ref p7]) hp8
                    have s22 := s19.trans s21
                    have hz2 := s22 _ _ hzs
                    refine ⟨tl, zs, _, rfl, rfl, hz2, szlt (by omega), ?_⟩
                    have h0 : H10 tl = none := htl
                    refine ⟨_, _, rfl, (st16.trans (s78.trans s22)).set h0, ?_⟩
                    rw [filt_succ, if_pos hg, ← List.append_assoc]
                    refine (hTo18.same s22.extN).add hz2 (q := p7) (SqT.of upd_same) (SqT.of ?_)
                    rw [upd_ne (ne_of_none upd_same hp8), upd_same]
                  · rw [decide_eq_false hlt]
                    refine iteF ?_
                    exact skip H18 s78 (by unfold good; rw [decide_eq_false hlt, Bool.and_false])
                · rw [decide_eq_false hin]
                  refine iteF (iteF ?_)
                  exact skip H16 (Same.refl _) (by unfold good; rw [decide_eq_false hin, Bool.and_false]; rfl)
          · rintro σ H12 ⟨y8, y9, rfl, sm12, hTo12⟩
            refine ⟨_, _, _, rfl, sm12, ?_⟩
            rw [take_next ho, cands_snoc]
            exact hTo12
        · rintro σ H11 ⟨y7, y8, y9, rfl, sm, hTo⟩
          have e : (nVs lot).length = lot.length := List.length_map _
          rw [e, List.take_length] at hTo
          -- the end: the last line from any heap
          have same2 := good_saves hT hlot
          have nb := no_better o hT hlot hm hleast
          have hfin : V.bl ((cands (good ts ls lot) ts.length lot).map (encX κ)).isEmpty = V.bl (decide (V.int ((KM.cost (ep ts) lot : Nat) : Int) = V.int ((KM.cost (ep ts) lot8 : Nat) : Int))) := by
            rw [eq_nat]
            cases hc : cands (good ts ls lot) ts.length lot with
            | nil =>
              rw [decide_eq_true (nb.mp hc)]
              rfl
            | cons c cs =>
              rw [decide_eq_false (fun z => by have := nb.mpr z; rw [hc] at this; cases this)]
              rfl
          refine ⟨_, rfl, _, rfl, wv, lt, n, ts, lot, rfl, LT.same sm, tr, fun hnil H12 s12 => ?_, fun H12 p x s12 hmin hp => ?_⟩
          · rw [← same2] at hnil
            refine ⟨_, rfl, Nat.zero_le _, fun l2 hl2 => ?_⟩
            have s13 := s12.upd (o := .lst []) hl2
            refine ⟨_, .list [], (hTo.same s13.extN).dp, .lst (SqL.of upd_same) .nil, shaped_list _ (encX_lay _) (fun b => Nat.le_trans (encX_dep _ b) (by decide)) _, rfl, _, rfl, ?_⟩
            rw [eqv_nil, hnil]
            refine iteF ?_
            refine .inl ⟨.non, rfl, .inr rfl, fun H14 s14 => ⟨_, rfl, iteF ?_⟩⟩
            have s15 := s13.trans s14
            refine ⟨_, rfl, Nat.zero_le _, fun l3 hl3 => ?_⟩
            have s30 := s15.upd (o := .lst []) hl3
            refine ⟨_, .list [], (hTo.same s30.extN).dp, .lst (SqL.of upd_same) .nil, shaped_list _ (encX_lay _) (fun b => Nat.le_trans (encX_dep _ b) (by decide)) _, rfl, ?_⟩
            refine ⟨_, rfl, _, rfl, wv, lt, n, ts, lot, rfl, (LT.same (sm.trans s30)).web, (LT.same (sm.trans s30)).seq, inn, by omega, fun H16 s16 => ?_⟩
            refine ⟨_, rfl, b, _, 0, nV (KM.cost (ep ts) lot8), rfl, rfl, (sm.trans (s30.trans s16)).tup g110, rfl, rfl, rfl, ?_⟩
            rw [eqv_nil, hfin, decide_eq_true rfl]
            exact q _
          · rw [← same2] at hmin
            refine ⟨_, rfl, Nat.zero_le _, fun l2 hl2 => ?_⟩
            have s13 := s12.upd (o := .lst []) hl2
            refine ⟨_, .list [], (hTo.same s13.extN).dp, .lst (SqL.of upd_same) .nil, shaped_list _ (encX_lay _) (fun b => Nat.le_trans (encX_dep _ b) (by decide)) _, rfl, _, rfl, ?_⟩
            rw [eqv_nil]
            obtain ⟨c, cs, hc⟩ : ∃ c cs, cands (good ts ls lot) ts.length lot = c :: cs := by
              cases hc : cands (good ts ls lot) ts.length lot with
              | nil => rw [hc] at hmin; cases hmin.1
              | cons c cs => exact ⟨c, cs, rfl⟩
            rw [show (List.map (encX κ) (cands (good ts ls lot) ts.length lot)).isEmpty = false by rw [hc]; rfl]
            refine iteT ?_
            refine ⟨_, rfl, ?_⟩
            dsimp only [tNil]
            show rMinD K [V.ref tl] _ _
            have hTo2 := hTo.same s13.extN
            rw [hc] at hTo2
            refine hTo2.min fun p2 r2 x2 hx2 h1 h2 => ⟨p2, _, 1, .ref r2, rfl, rfl, h1, rfl, ?_⟩
            rw [← hc] at hx2
            obtain rfl : x2 = x := IsMin.same (d := (KM.cost (ep ts) lot : Int)) (fun z hz => by
              obtain ⟨f1, _, _⟩ := mem_cands.mp hz
              have := KM.cost_swp (p := ep ts) (m := z.2) asc f1
              show (KM.cost (ep ts) (KM.swp lot z.1 z.2) : Int) = -((ep ts z.1 : Int) - (ep ts z.2 : Int)) + (KM.cost (ep ts) lot : Int)
              omega) hx2 hmin
            refine .inr ⟨p, r2, [x2.1, x2.2], rfl, (same_new hl2).tup hp, h2, (by show 2 ≤ 1000; decide), fun H14 s14 => ⟨_, rfl, iteF ?_⟩⟩
            have s15 := s13.trans s14
            refine ⟨_, rfl, Nat.zero_le _, fun l3 hl3 => ?_⟩
            have s30 := s15.upd (o := .lst []) hl3
            refine ⟨_, .list [], (hTo.same s30.extN).dp, .lst (SqL.of upd_same) .nil, shaped_list _ (encX_lay _) (fun b => Nat.le_trans (encX_dep _ b) (by decide)) _, rfl, ?_⟩
            refine ⟨_, rfl, _, rfl, wv, lt, n, ts, lot, rfl, (LT.same (sm.trans s30)).web, (LT.same (sm.trans s30)).seq, inn, by omega, fun H16 s16 => ?_⟩
            refine ⟨_, rfl, b, _, 0, nV (KM.cost (ep ts) lot8), rfl, rfl, (sm.trans (s30.trans s16)).tup g110, rfl, rfl, rfl, ?_⟩
            rw [eqv_nil, hfin, decide_eq_true rfl]
            exact q _
    refine ⟨_, pss_cons (ps_set (i := 1) sc_law.nd rfl (.inl rfl) (pe_lst (pa_cons (pv 0) (pa_cons pe_int (pa_cons pe_int (pa_cons pe_int pa_nil))))))
      (pss_cons (ps_set (i := 2) sc_law.nd rfl (.inr rfl) (pe_has J hr (pa_cons (pv 1) (pa_cons pe_int (pa_cons (pe_has G hr (pa_cons (pv 1) (pa_cons (pe_lst (pa_cons pe_int (pa_cons pe_int pa_nil))) pa_nil))) pa_nil)))))
      (pss_cons (ps_if (pt_cmpR op_gt (pe_callB call_len_seq (by rfl) B.len (by decide +kernel) (pa_cons (pe_ix ix_tup (pv 2) pe_int (fun _ _ => rfl)) pa_nil)) pe_int (nomark _))
        (pss_one (ps_set (i := 2) sc_law.nd rfl (.inr rfl) (pe_tup (pa_cons (pe_ix ix_tup (pv 2) pe_int (fun _ _ => rfl)) (pa_cons (pe_op op_catA (pe_slice sl_tup (pe_ix ix_tup (pv 2) pe_int (fun _ _ => rfl)) po_none (po_some pe_int))
          (pe_callTy call_tuple_of (by rfl) B.tup (by decide +kernel) (pa_cons (pe_lc (own := [("_law_tie", 10)]) (g := gName 10) rfl sc_law.nd (pi_tup (pe_slice sl_tup (pe_ix ix_tup (pv 2) pe_int (fun _ _ => rfl)) (po_some pe_int) po_none))
            (blkOk_by (own := [("_law_tie", 10)]) (N := NW) (sc := defScope s_law) (by decide +kernel))
            (fun _ _ _ _ _ => pg_name (i := 10) sc_law.nd rfl (.inl rfl)) (fun _ _ _ _ _ => pts_one (pt_cmpR op_ne (pe_ix (r := rIxT K) ix_tup (pv 10) pe_int (fun _ _ => rfl)) (pe_op op_add (pe_ix (r := rIxT K) ix_tup (pv 10) pe_int (fun _ _ => rfl)) pe_int) (nomark _)))
            (fun _ _ _ _ _ => pv 10)) pa_nil))) pa_nil))))) pss_nil)
      hP)), ?_⟩
    -- row, web
    refine ⟨_, rfl, (by show 4 ≤ sizeLine; decide), fun rw hrw => ?_⟩
    have s1 : Same H (upd H rw (.lst [.ref a, .int 0, .int 4301, .int 0])) := same_new hrw
    have hR1 : RowAt K (upd H rw (.lst [.ref a, .int 0, .int 4301, .int 0])) rw := ⟨a, ns, 0, 4301, 0, upd_same, s1.seq hS, by decide, by decide, by decide⟩
    have T1 := LamX.Tabs.ext hTab s1
    generalize upd H rw (.lst [.ref a, .int 0, .int 4301, .int 0]) = H1 at *
    refine ⟨_, rfl, _, rfl, (by show 2 ≤ sizeLine; decide), fun tl htl => ?_⟩
    have s2 : Same H1 (upd H1 tl (.lst [.int 2, .int 5])) := same_new htl
    have hR2 := hR1.same s2
    have T2 := LamX.Tabs.ext T1 s2
    obtain ⟨lw1, hlw1⟩ := hR1.lst
    have tlrw : tl ≠ rw := fun z => by rw [z, hlw1] at htl; cases htl
    refine ⟨rw, tl, _, rfl, hR2, SqL.of upd_same, tlrw, by simp, (by show 2 ≤ 100000; decide), fun x H3 hx hR3 hB3 => ?_⟩
    obtain ⟨dn, rfl⟩ : ∃ t : Nat, x = nV t := by
      rcases List.mem_cons.mp hx with rfl | hx
      · exact ⟨2, rfl⟩
      · rcases List.mem_cons.mp hx with rfl | hx
        · exact ⟨5, rfl⟩
        · cases hx
    obtain ⟨lw2, hlw2⟩ := hR2.lst
    have T3 := tabs_kb ((KB.refl rw _).but hB3) hlw2 T2
    obtain ⟨lw3, hlw3⟩ := hR3.lst
    refine ⟨rw, dn, rfl, hR3, fun H4 wv n ts kb4 hR4 hW o l15 => ?_⟩
    have T4 := tabs_kb kb4 hlw3 T3
    clear T1 T2 T3 s1 s2 hR1 hR2 hR3 hB3 kb4
    obtain ⟨t, as, eas, hwv, ht, hties⟩ := id hW
    have elen : (as.map fun p => V.ref p.1).length = ts.length := by rw [← eas, List.length_map, List.length_map]
    refine ⟨_, rfl, wv, _, 1, .ref t, rfl, rfl, hwv, rfl, t, _, rfl, .inr ht, _, 10, rfl, rfl, _, rfl, ite2 (fun h10 => ?_) (fun _ => hRd H4 rw wv n ts hW o l15 hR4 T4)⟩
    have h10' : 10 < ts.length := by
      have := of_decide_eq_true h10
      rw [elen] at this
      omega
    have eal : as.length = ts.length := by rw [← eas, List.length_map]
    let ref : Addr × Tie → V := fun p => .ref p.1
    -- what stands at the end
    have fin : ∀ (Hz : Hp) (tz : Addr) (as' : List (Addr × Tie)), Same H4 Hz → as'.Sublist as → SqT K Hz tz (as'.map fun p => .ref p.1) → ∀ o', Hz o' = none → tR { nx := fun _ H' => Q .non H', rt := Q } [some (.ref a), some (.ref rw), some (.ref o'), none, none, none, none, none, none, none, none, none] (upd Hz o' (.tup [nV n, .ref tz])) := by
      intro Hz tz as' sz hsub htz o' ho'
      have so : Same H4 (upd Hz o' (.tup [nV n, .ref tz])) := sz.upd ho'
      have sub2 : (as'.map (·.2)).Sublist ts := by rw [← eas]; exact hsub.map _
      refine hRd _ rw o' n (as'.map (·.2)) ⟨tz, as', rfl, SqT.of upd_same, (same_new ho').tup htz, fun p hp => so.tup (hties p (hsub.subset hp))⟩ ⟨o.n1, o.n12, ?_, fun x hx => o.tie x (sub2.subset hx), o.rise.sublist sub2⟩ ?_ (hR4.same so) (LamX.Tabs.ext T4 so)
      · exact Nat.le_trans sub2.length_le o.len
      · exact Nat.le_trans sub2.length_le l15
    refine ⟨_, rfl, wv, _, 0, nV n, rfl, rfl, hwv, rfl, _, rfl, wv, _, 1, .ref t, rfl, rfl, hwv, rfl, 4, rfl, t, _, rfl, ht, fun z => ?_, fun t4 ht4 => ?_⟩
    · have z2 := z.2
      rw [elen, show (some (4 : Int)) = some ((4 : Nat) : Int) from rfl, HT.sIx_nat] at z2
      omega
    have s4 : Same H4 (upd H4 t4 (.tup (cutV (as.map fun p => .ref p.1) none (some 4)))) := same_new ht4
    have h4 : SqT K (upd H4 t4 (.tup (cutV (as.map fun p => V.ref p.1) none (some 4)))) t4 ((as.take 4).map fun p => .ref p.1) := SqT.of (by
      rw [upd_same, cut_take (by rw [elen]; omega), List.map_take])
    generalize upd H4 t4 (.tup (cutV (as.map fun p => .ref p.1) none (some 4))) = H5 at *
    refine ⟨_, rfl, wv, _, 1, .ref t, rfl, rfl, s4.tup hwv, rfl, 4, rfl, t, _, rfl, s4.tup ht, fun z => ?_, fun t5 ht5 => ?_⟩
    · have z1 := z.1
      rw [elen, show (some (4 : Int)) = some ((4 : Nat) : Int) from rfl, HT.sIx_nat] at z1
      omega
    have s5 : Same H5 (upd H5 t5 (.tup (cutV (as.map fun p => .ref p.1) (some 4) none))) := same_new ht5
    have h5 : SqT K (upd H5 t5 (.tup (cutV (as.map fun p => V.ref p.1) (some 4) none))) t5 ((as.drop 4).map fun p => .ref p.1) := SqT.of (by
      rw [upd_same, cut_drop (by rw [elen]; omega), List.map_drop])
    generalize upd H5 t5 (.tup (cutV (as.map fun p => .ref p.1) (some 4) none)) = H6 at *
    have s45 := s4.trans s5
    have h46 := s5.tup h4
    refine ⟨t5, rfl, ⟨_, h5⟩, fun Dd hD => lc_tup (K := K) (a := t5) (xs := (as.drop 4).map fun p => .ref p.1) (fun i H' => Same H6 H' ∧ H' Dd = some (.lst ((((as.drop 4).take i).filter fun p => decide (p.2.2.1 ≠ p.2.1 + 2)).map fun p => .ref p.1)))
      ⟨same_new hD, upd_same⟩ (fun i H' _ ⟨sm, _⟩ => sm.tup h5) ?_ ?_⟩
    · rintro i y H7 hi ⟨sm, hDd⟩
      obtain ⟨pe, hpe, rfl⟩ : ∃ pe, (as.drop 4)[i]? = some pe ∧ y = V.ref pe.1 := by
        rw [List.getElem?_map] at hi
        cases e : (as.drop 4)[i]? with
        | none => rw [e] at hi; cases hi
        | some pe => rw [e] at hi; exact ⟨pe, rfl, (Option.some.inj hi).symm⟩
      have hpt := sm.tup (s45.tup (hties pe (List.mem_of_mem_drop (List.mem_of_getElem? hpe))))
      have hD0 : H6 Dd = none := hD
      refine ⟨rfl, _, rfl, pe.1, _, 1, nV pe.2.2.1, rfl, rfl, hpt, rfl, _, rfl, pe.1, _, 0, nV pe.2.1, rfl, rfl, hpt, rfl, (pe.2.1 : Int), 2, rfl, rfl, rfl, _, rfl, ?_⟩
      by_cases e : pe.2.2.1 = pe.2.1 + 2
      · rw [decide_eq_true (show V.int (pe.2.2.1 : Int) = V.int ((pe.2.1 : Int) + 2) by congr 1; omega)]
        refine iteF ⟨sm, ?_⟩
        rw [filt_take _ hpe, if_neg (by simp [e]), List.append_nil]
        exact hDd
      · rw [decide_eq_false (show ¬ V.int (pe.2.2.1 : Int) = V.int ((pe.2.1 : Int) + 2) from fun z => e (by injection z with z; omega))]
        refine iteT ⟨_, rfl, _, hDd, ?_, sm.set hD0, ?_⟩
        · rw [List.length_map]
          refine szlt (Nat.le_trans (List.length_filter_le _ _) ?_)
          rw [List.length_take, List.length_drop]
          omega
        · rw [upd_same, filt_take _ hpe, if_pos (by simp [e]), List.map_append]
          rfl
    · rintro H7 ⟨sm, hDd⟩
      have edl : ((as.drop 4).map fun p => V.ref p.1).length = (as.drop 4).length := List.length_map _
      rw [edl, List.take_length] at hDd
      refine ⟨Dd, _, rfl, .inl ⟨SqL.of hDd, fun t6 ht6 => ?_⟩⟩
      have s6 := sm.upd (o := .tup (((as.drop 4).filter fun p => decide (p.2.2.1 ≠ p.2.1 + 2)).map fun p => .ref p.1)) ht6
      have s46 := s45.trans s6
      have ne4 : (as.take 4).map (fun p => V.ref p.1) ≠ [] := fun z => by
        have := congrArg List.length z
        rw [List.length_map, List.length_take] at this
        simp only [List.length_nil] at this
        omega
      have sub0 : (as.take 4 ++ (as.drop 4).filter fun p => decide (p.2.2.1 ≠ p.2.1 + 2)).Sublist as := by
        have := (List.Sublist.refl (as.take 4)).append (List.filter_sublist (l := as.drop 4) (p := fun p => decide (p.2.2.1 ≠ p.2.1 + 2)))
        rwa [List.take_append_drop] at this
      refine ⟨t4, t6, _, _, rfl, rfl, s6.tup h46, SqT.of upd_same, ?_, fun z => (ne4 z).elim, fun _ z => ⟨(by show 2 ≤ sizeLine; decide), fun o' ho' => fin _ t4 _ s46 (List.take_sublist 4 as) (s6.tup h46) o' ho'⟩, fun _ _ p7 hp7 => ⟨(by show 2 ≤ sizeLine; decide), fun o' ho' => fin _ p7 _ (s46.upd hp7) sub0 (SqT.of (by rw [upd_same, List.map_append])) o' ho'⟩⟩
      rw [← List.length_append, ← List.map_append, List.length_map]
      exact KW.sz (Nat.le_trans sub0.length_le (by omega))
end
end KW
namespace KW
open PySem PySem.W PySem.Spec PyProof.Rows L2
open LamX (ExtN Tabs TabB)
/-! ### what the top has written -/
/-- the def x of the text at st is written at f -/
structure Raw (K : PySem.W.Frag) (x : Str) (st : Stmt) : Prop where
  ex : ∃ (f : Addr) (oc : Value) (od an : Option Addr) (sl : Array (Option Value)) (kV dc pm cd ct : Value), PySem.W.nsIn K mainGlobals x = some (some (.ref f)) ∧
    K.lookup f = some ⟨oc, od, .func (PySem.W.fnOf x x (defArgs st) (defBody st) (defScope st) .none kV dc pm an cd ct), sl⟩ ∧ PySem.W.codeIn K cd x = true ∧ PySem.W.keepIn K (.ref f) = true
theorem raw_mk {K : PySem.W.Frag} {x : Str} {st : Stmt} {f : Addr} {oc : Value} {od an : Option Addr} {sl : Array (Option Value)} {kV dc pm cd ct : Value} (a : PySem.W.nsIn K mainGlobals x = some (some (.ref f)))
    (l : K.lookup f = some ⟨oc, od, .func (PySem.W.fnOf x x (defArgs st) (defBody st) (defScope st) .none kV dc pm an cd ct), sl⟩) (c : PySem.W.codeIn K cd x = true) (k : PySem.W.keepIn K (.ref f) = true) : Raw K x st := ⟨⟨f, oc, od, an, sl, kV, dc, pm, cd, ct, a, l, c, k⟩⟩
theorem Raw.def_ {K : PySem.W.Frag} {x : Str} {st : Stmt} {h : Heap} {mg : Str → Option Value} {ps : List Str} (r : Raw K x st) (X : K.In h) (G : h.Ns mainGlobals mg)
    (b : ∀ (kV doc pm : Value) (an : Option Addr) (cdv ct : Value) (us : List Value), us.length = ps.length → bindArgs (PySem.W.fnOf x x (defArgs st) (defBody st) (defScope st) .none kV doc pm an cdv ct) ⟨us, []⟩ = pure (ps.zip us)) : Def K mg x st ps := by
  obtain ⟨f, oc, od, an, sl, kV, dc, pm, cd, ct, a, l, c, k⟩ := r.ex
  have F := fun_mk (st := st) l c k
  exact ⟨f, _, F, PySem.W.mg_of X G a, F.binds b⟩
structure RawBl (K : PySem.W.Frag) : Prop where
  isi : PySem.W.nsIn K mainGlobals "isinstance" = some none
  int : PySem.W.nsIn K mainGlobals "int" = some none
  bool : PySem.W.nsIn K mainGlobals "bool" = some none
  str : PySem.W.nsIn K mainGlobals "str" = some none
  len : PySem.W.nsIn K mainGlobals "len" = some none
  all : PySem.W.nsIn K mainGlobals "all" = some none
  any : PySem.W.nsIn K mainGlobals "any" = some none
  rng : PySem.W.nsIn K mainGlobals "range" = some none
  lst : PySem.W.nsIn K mainGlobals "list" = some none
  tup : PySem.W.nsIn K mainGlobals "tuple" = some none
  max : PySem.W.nsIn K mainGlobals "max" = some none
  min : PySem.W.nsIn K mainGlobals "min" = some none
  enum : PySem.W.nsIn K mainGlobals "enumerate" = some none
  srt : PySem.W.nsIn K mainGlobals "sorted" = some none
  sum : PySem.W.nsIn K mainGlobals "sum" = some none
  set : PySem.W.nsIn K mainGlobals "set" = some none
theorem RawBl.bl {K : PySem.W.Frag} {h : Heap} {mg : Str → Option Value} (r : RawBl K) (X : K.In h) (G : h.Ns mainGlobals mg) : Bl mg :=
  ⟨PySem.W.mg_none_of X G r.isi, PySem.W.mg_none_of X G r.int, PySem.W.mg_none_of X G r.bool, PySem.W.mg_none_of X G r.str, PySem.W.mg_none_of X G r.len, PySem.W.mg_none_of X G r.all, PySem.W.mg_none_of X G r.any, PySem.W.mg_none_of X G r.rng, PySem.W.mg_none_of X G r.lst, PySem.W.mg_none_of X G r.tup, PySem.W.mg_none_of X G r.max, PySem.W.mg_none_of X G r.min, PySem.W.mg_none_of X G r.enum, PySem.W.mg_none_of X G r.srt, PySem.W.mg_none_of X G r.sum, PySem.W.mg_none_of X G r.set⟩
structure RawCs (K : PySem.W.Frag) : Prop where
  places : ∃ t, PySem.W.nsIn K mainGlobals "MOST_PLACES" = some (some (.int 12 t))
  ties : ∃ t, PySem.W.nsIn K mainGlobals "MOST_TIES" = some (some (.int 30 t))
  price : ∃ t, PySem.W.nsIn K mainGlobals "MOST_PRICE" = some (some (.int 999 t))
theorem cs_mk {K : PySem.W.Frag} {t1 t2 t3 : Tok} (a : PySem.W.nsIn K mainGlobals "MOST_PLACES" = some (some (.int 12 t1))) (b : PySem.W.nsIn K mainGlobals "MOST_TIES" = some (some (.int 30 t2))) (c : PySem.W.nsIn K mainGlobals "MOST_PRICE" = some (some (.int 999 t3))) : RawCs K := ⟨⟨_, a⟩, ⟨_, b⟩, ⟨_, c⟩⟩
theorem RawCs.cs {K : PySem.W.Frag} {h : Heap} {mg : Str → Option Value} (r : RawCs K) (X : K.In h) (G : h.Ns mainGlobals mg) : Cs mg := by
  obtain ⟨⟨t1, a⟩, ⟨t2, b⟩, ⟨t3, c⟩⟩ := r
  exact ⟨⟨t1, PySem.W.mg_of X G a⟩, ⟨t2, PySem.W.mg_of X G b⟩, ⟨t3, PySem.W.mg_of X G c⟩⟩
/-- the defs of the top -/
structure RawAll (K : PySem.W.Frag) : Prop where
  ris_int : Raw K "is_int" s_is_int
  ris_from : Raw K "is_from" s_is_from
  ris_tie : Raw K "is_tie" s_is_tie
  rneed_web : Raw K "need_web" s_need_web
  ris_rising : Raw K "is_rising" s_is_rising
  rneed_lot : Raw K "need_lot" s_need_lot
  rroot_of : Raw K "root_of" s_root_of
  rroots_of : Raw K "roots_of" s_roots_of
  rpairs_of : Raw K "pairs_of" s_pairs_of
  rparts_of : Raw K "parts_of" s_parts_of
  rjoins : Raw K "joins" s_joins
  ris_tree_of : Raw K "is_tree_of" s_is_tree_of
  rall_ties : Raw K "all_ties" s_all_ties
  rneed_joined : Raw K "need_joined" s_need_joined
  rforest_by : Raw K "forest_by" s_forest_by
  rleast_of : Raw K "least_of" s_least_of
  rleast_tree : Raw K "least_tree" s_least_tree
  rneed_tree : Raw K "need_tree" s_need_tree
  rswapped : Raw K "swapped" s_swapped
  rbetter : Raw K "better" s_better
  r_law_taken : Raw K "_law_taken" s_taken
  r_law_pick : Raw K "_law_pick" s_pick
  r_law_alike : Raw K "_law_alike" s_alike
  r_law_joined_web : Raw K "_law_joined_web" s_joined_web
  r_law_parts : Raw K "_law_parts" s_lparts
  r_law_pairs : Raw K "_law_pairs" s_lpairs
  r_law_price : Raw K "_law_price" s_lprice
  r_law_lots : Raw K "_law_lots" s_llots
  r_law_is_tree : Raw K "_law_is_tree" s_lis_tree
  r_law_trees : Raw K "_law_trees" s_ltrees
/-- the law at the head -/
theorem law_at {l : PySem.W.OpenLaw} {w : World} {K : PySem.W.Frag} {h : Heap} {mg : Str → Option Value} {fa fo c pt f2 : Addr} {oc1 kV1 dc1 pm1 ct1 oc2 kV2 dc2 pm2 cd2 ct2 : Value} {od1 an1 od2 an2 : Option Addr} {sl1 sl2 : Array (Option Value)}
    (X : K.In h) (G : h.Ns mainGlobals mg) (hfa : mg "law" = some (.ref fa)) (hT : ∀ P ∈ [pt], h.get? P = some (PySem.W.tabObj #[])) (B : RawBl K) (C : RawCs K) (R : RawAll K)
    (a1 : PySem.W.nsIn K mainGlobals "order_of" = some (some (.ref fo))) (l1 : K.lookup fo = some ⟨oc1, od1, .func (PySem.W.fnOf "order_of" "order_of" (defArgs s_order_of) (defBody s_order_of) (defScope s_order_of) .none kV1 dc1 pm1 an1 (.ref c) ct1), sl1⟩) (c1 : PySem.W.codeIn K (.ref c) "order_of" = true) (k1 : PySem.W.keepIn K (.ref fo) = true)
    (a2 : PySem.W.nsIn K mainGlobals "law" = some (some (.ref f2))) (l2 : K.lookup f2 = some ⟨oc2, od2, .func (PySem.W.fnOf "law" "law" (defArgs s_law) (defBody s_law) (defScope s_law) .none kV2 dc2 pm2 an2 cd2 ct2), sl2⟩) (c2 : PySem.W.codeIn K cd2 "law" = true) (k2 : PySem.W.keepIn K (.ref f2) = true)
    (hd : PySem.W.codeHdIn K c pt = true) (nT : K.lookup pt = none) : LamX.LawAtS l w K CX0 8 63 "_law_script" mg fa h := by
  have e := hfa.symm.trans (PySem.W.mg_of X G a2)
  cases e
  have F := fun_mk (st := s_law) l2 c2 k2
  have Fo := fun_mk (st := s_order_of) l1 c1 k1
  have Bm := B.bl X G
  have Cm := C.cs X G
  refine ⟨PySem.W.fnOf "law" "law" (defArgs s_law) (defBody s_law) (defScope s_law) .none kV2 dc2 pm2 an2 cd2 ct2, [(c, pt)], spLaw K pt, fun p hp => ?_, fun p hp => ?_, fun p hp => ?_, ?_, fun H a ns _ _ hH hS => ⟨a, ns, rfl, hS, fun p hp => ?_, fun _ => rfl⟩, fun base _ _ hB => ?_⟩
  · rw [List.mem_singleton.mp hp]
    exact hT pt (List.mem_singleton.mpr rfl)
  · rw [List.mem_singleton.mp hp]
    exact nT
  · rw [List.mem_singleton.mp hp]
    exact PySem.W.codeHd_of_K X hd
  · exact fun s v => .of_eq rfl
  · rw [List.mem_singleton.mp hp]
    exact LamX.TabS.nil (hH (c, pt) (List.mem_singleton.mpr rfl))
  have TB := hB (c, pt) (List.mem_singleton.mpr rfl)
  have dis_int := R.ris_int.def_ (ps := ["value"]) X G fun _ _ _ _ _ _ us hl => match us, hl with | [_], _ => rfl
  have dis_from := R.ris_from.def_ (ps := ["value", "least", "most"]) X G fun _ _ _ _ _ _ us hl => match us, hl with | [_, _, _], _ => rfl
  have dis_tie := R.ris_tie.def_ (ps := ["value", "many"]) X G fun _ _ _ _ _ _ us hl => match us, hl with | [_, _], _ => rfl
  have dneed_web := R.rneed_web.def_ (ps := ["value"]) X G fun _ _ _ _ _ _ us hl => match us, hl with | [_], _ => rfl
  have dis_rising := R.ris_rising.def_ (ps := ["value", "most"]) X G fun _ _ _ _ _ _ us hl => match us, hl with | [_, _], _ => rfl
  have dneed_lot := R.rneed_lot.def_ (ps := ["web", "value"]) X G fun _ _ _ _ _ _ us hl => match us, hl with | [_, _], _ => rfl
  have droot_of := R.rroot_of.def_ (ps := ["parent", "place"]) X G fun _ _ _ _ _ _ us hl => match us, hl with | [_, _], _ => rfl
  have droots_of := R.rroots_of.def_ (ps := ["many", "pairs"]) X G fun _ _ _ _ _ _ us hl => match us, hl with | [_, _], _ => rfl
  have dpairs_of := R.rpairs_of.def_ (ps := ["web", "lot"]) X G fun _ _ _ _ _ _ us hl => match us, hl with | [_, _], _ => rfl
  have dparts_of := R.rparts_of.def_ (ps := ["many", "pairs"]) X G fun _ _ _ _ _ _ us hl => match us, hl with | [_, _], _ => rfl
  have djoins := R.rjoins.def_ (ps := ["web", "lot"]) X G fun _ _ _ _ _ _ us hl => match us, hl with | [_, _], _ => rfl
  have dis_tree_of := R.ris_tree_of.def_ (ps := ["web", "lot"]) X G fun _ _ _ _ _ _ us hl => match us, hl with | [_, _], _ => rfl
  have dall_ties := R.rall_ties.def_ (ps := ["web"]) X G fun _ _ _ _ _ _ us hl => match us, hl with | [_], _ => rfl
  have dneed_joined := R.rneed_joined.def_ (ps := ["web"]) X G fun _ _ _ _ _ _ us hl => match us, hl with | [_], _ => rfl
  have dforest_by := R.rforest_by.def_ (ps := ["web", "order"]) X G fun _ _ _ _ _ _ us hl => match us, hl with | [_, _], _ => rfl
  have dleast_of := R.rleast_of.def_ (ps := ["web"]) X G fun _ _ _ _ _ _ us hl => match us, hl with | [_], _ => rfl
  have dleast_tree := R.rleast_tree.def_ (ps := ["web"]) X G fun _ _ _ _ _ _ us hl => match us, hl with | [_], _ => rfl
  have dneed_tree := R.rneed_tree.def_ (ps := ["web", "lot"]) X G fun _ _ _ _ _ _ us hl => match us, hl with | [_, _], _ => rfl
  have dswapped := R.rswapped.def_ (ps := ["lot", "out", "more"]) X G fun _ _ _ _ _ _ us hl => match us, hl with | [_, _, _], _ => rfl
  have dbetter := R.rbetter.def_ (ps := ["web", "lot"]) X G fun _ _ _ _ _ _ us hl => match us, hl with | [_, _], _ => rfl
  have d_law_taken := R.r_law_taken.def_ (ps := ["_law_row", "_law_many"]) X G fun _ _ _ _ _ _ us hl => match us, hl with | [_, _], _ => rfl
  have d_law_pick := R.r_law_pick.def_ (ps := ["_law_row", "_law_things"]) X G fun _ _ _ _ _ _ us hl => match us, hl with | [_, _], _ => rfl
  have d_law_alike := R.r_law_alike.def_ (ps := ["_law_found", "_law_due"]) X G fun _ _ _ _ _ _ us hl => match us, hl with | [_, _], _ => rfl
  have d_law_joined_web := R.r_law_joined_web.def_ (ps := ["_law_row", "_law_most", "_law_dense"]) X G fun _ _ _ _ _ _ us hl => match us, hl with | [_, _, _], _ => rfl
  have d_law_parts := R.r_law_parts.def_ (ps := ["_law_many", "_law_pairs_here"]) X G fun _ _ _ _ _ _ us hl => match us, hl with | [_, _], _ => rfl
  have d_law_pairs := R.r_law_pairs.def_ (ps := ["_law_web", "_law_lot"]) X G fun _ _ _ _ _ _ us hl => match us, hl with | [_, _], _ => rfl
  have d_law_price := R.r_law_price.def_ (ps := ["_law_web", "_law_lot"]) X G fun _ _ _ _ _ _ us hl => match us, hl with | [_, _], _ => rfl
  have d_law_lots := R.r_law_lots.def_ (ps := ["_law_many", "_law_size"]) X G fun _ _ _ _ _ _ us hl => match us, hl with | [_, _], _ => rfl
  have d_law_is_tree := R.r_law_is_tree.def_ (ps := ["_law_web", "_law_lot"]) X G fun _ _ _ _ _ _ us hl => match us, hl with | [_, _], _ => rfl
  have d_law_trees := R.r_law_trees.def_ (ps := ["_law_web"]) X G fun _ _ _ _ _ _ us hl => match us, hl with | [_], _ => rfl
  have kisint := ok_isint (P := l.prog) (w := w) (base := base) dis_int Bm
  have kisfrom := ok_isfrom dis_from kisint
  have kistie := ok_istie dis_tie Bm Cm kisint
  have kneedweb := ok_needweb dneed_web Bm Cm kisfrom kistie
  have krising := ok_rising dis_rising Bm kisfrom
  have kneedlot := ok_needlot dneed_lot Bm krising
  have kroot := ok_root (P := l.prog) (w := w) (base := base) droot_of
  have kroots := ok_roots droots_of Bm kroot
  have kpairs := ok_pairs_of (P := l.prog) (w := w) (base := base) dpairs_of
  have kparts := ok_parts dparts_of Bm kroots
  have kjoins := ok_joins djoins Bm kparts kpairs
  have kistree := ok_istree dis_tree_of Bm kjoins
  have kall := ok_all (P := l.prog) (w := w) (base := base) dall_ties Bm
  have kneedj := ok_needj dneed_joined kjoins kall
  have korder := ok_order (P := l.prog) (w := w) (base := base) Bm l1 c1 (PySem.W.mg_of X G a1) k1 (Fo.binds (ps := ["web"]) fun _ _ _ _ _ _ us hl => match us, hl with | [_], _ => rfl) TB
  have kforest := ok_forest dforest_by Bm kroots kpairs
  have kleastof := ok_leastof dleast_of kforest korder
  have kleasttree := ok_leasttree dleast_tree kneedweb kneedj kleastof
  have kneedtree := ok_needtree dneed_tree kneedlot kistree
  have kswapped := ok_swapped (P := l.prog) (w := w) (base := base) dswapped Bm
  have kbetter := ok_better dbetter Bm kneedweb kneedtree kall kswapped kistree
  have ktaken := ok_taken (P := l.prog) (w := w) (base := base) d_law_taken Bm
  have kpick := ok_pick d_law_pick Bm ktaken
  have kalike1 := ok_alike1 (P := l.prog) (w := w) (base := base) d_law_alike Bm
  have kalike := ok_alike d_law_alike Bm kalike1
  have kjw := ok_jw d_law_joined_web Bm ktaken kpick
  have klparts := ok_lparts (P := l.prog) (w := w) (base := base) d_law_parts Bm
  have klpairs := ok__law_pairs (P := l.prog) (w := w) (base := base) d_law_pairs
  have klprice := ok_lprice (P := l.prog) (w := w) (base := base) d_law_price Bm
  have kllots := ok_llots (P := l.prog) (w := w) (base := base) d_law_lots Bm
  have klistree := ok_listree d_law_is_tree Bm klparts klpairs
  have kltrees := ok_ltrees d_law_trees Bm kllots klistree
  exact ok_law F Bm kpick kjw kltrees klprice kalike kleasttree kbetter
end KW
open PySem PySem.W PyProof.Rows
set_option maxHeartbeats 0 in
theorem PySem.Challenge.cw_joinworks_k01_whole_least_trees_holds : PySem.Challenge.rw_joinworks_k01_whole_least_trees.Holds := by
  w_on; o_law; k_head; (case hw => w_witness2)
  k_fill
  refine LamX.walk_ofTs (l := PySem.Challenge.rw_joinworks_k01_whole_least_trees) (n := 63) (k := 8) (x := "_law_script") (CX := fun _ => L2.CX0) rfl (by decide) rfl ⟨rfl, by decide, by decide⟩ (fun w h Y => PySem.W.km_in_of Y) ?F (fun _ _ _ _ _ h => h)
  case F =>
    intro w mg fa h Y KX G hmg
    have hT := PySem.W.km_tabs_of Y
    refine' KW.law_at KX G hmg hT ⟨?z0, ?z1, ?z2, ?z3, ?z4, ?z5, ?z6, ?z7, ?z8, ?z9, ?z10, ?z11, ?z12, ?z13, ?z14, ?z15⟩ (KW.cs_mk ?y0 ?y1 ?y2) ⟨(KW.raw_mk ?a0 ?l0 ?c0 ?k0), (KW.raw_mk ?a1 ?l1 ?c1 ?k1), (KW.raw_mk ?a2 ?l2 ?c2 ?k2), (KW.raw_mk ?a3 ?l3 ?c3 ?k3), (KW.raw_mk ?a4 ?l4 ?c4 ?k4), (KW.raw_mk ?a5 ?l5 ?c5 ?k5), (KW.raw_mk ?a6 ?l6 ?c6 ?k6), (KW.raw_mk ?a7 ?l7 ?c7 ?k7), (KW.raw_mk ?a8 ?l8 ?c8 ?k8), (KW.raw_mk ?a9 ?l9 ?c9 ?k9), (KW.raw_mk ?a10 ?l10 ?c10 ?k10), (KW.raw_mk ?a11 ?l11 ?c11 ?k11), (KW.raw_mk ?a12 ?l12 ?c12 ?k12), (KW.raw_mk ?a13 ?l13 ?c13 ?k13), (KW.raw_mk ?a14 ?l14 ?c14 ?k14), (KW.raw_mk ?a15 ?l15 ?c15 ?k15), (KW.raw_mk ?a16 ?l16 ?c16 ?k16), (KW.raw_mk ?a17 ?l17 ?c17 ?k17), (KW.raw_mk ?a18 ?l18 ?c18 ?k18), (KW.raw_mk ?a19 ?l19 ?c19 ?k19), (KW.raw_mk ?a20 ?l20 ?c20 ?k20), (KW.raw_mk ?a21 ?l21 ?c21 ?k21), (KW.raw_mk ?a22 ?l22 ?c22 ?k22), (KW.raw_mk ?a23 ?l23 ?c23 ?k23), (KW.raw_mk ?a24 ?l24 ?c24 ?k24), (KW.raw_mk ?a25 ?l25 ?c25 ?k25), (KW.raw_mk ?a26 ?l26 ?c26 ?k26), (KW.raw_mk ?a27 ?l27 ?c27 ?k27), (KW.raw_mk ?a28 ?l28 ?c28 ?k28), (KW.raw_mk ?a29 ?l29 ?c29 ?k29)⟩ ?ao ?lo ?co ?ko ?aw ?lw ?cw ?kw ?hd ?nt
    (case z0 => k_is); (case z1 => k_is); (case z2 => k_is); (case z3 => k_is); (case z4 => k_is); (case z5 => k_is); (case z6 => k_is); (case z7 => k_is); (case z8 => k_is); (case z9 => k_is); (case z10 => k_is); (case z11 => k_is); (case z12 => k_is); (case z13 => k_is); (case z14 => k_is); (case z15 => k_is); (case y0 => k_is); (case y1 => k_is); (case y2 => k_is)
    (case a0 => k_is); (case l0 => k_is); (case c0 => k_is); (case k0 => k_is)
    (case a1 => k_is); (case l1 => k_is); (case c1 => k_is); (case k1 => k_is)
    (case a2 => k_is); (case l2 => k_is); (case c2 => k_is); (case k2 => k_is)
    (case a3 => k_is); (case l3 => k_is); (case c3 => k_is); (case k3 => k_is)
    (case a4 => k_is); (case l4 => k_is); (case c4 => k_is); (case k4 => k_is)
    (case a5 => k_is); (case l5 => k_is); (case c5 => k_is); (case k5 => k_is)
    (case a6 => k_is); (case l6 => k_is); (case c6 => k_is); (case k6 => k_is)
    (case a7 => k_is); (case l7 => k_is); (case c7 => k_is); (case k7 => k_is)
    (case a8 => k_is); (case l8 => k_is); (case c8 => k_is); (case k8 => k_is)
    (case a9 => k_is); (case l9 => k_is); (case c9 => k_is); (case k9 => k_is)
    (case a10 => k_is); (case l10 => k_is); (case c10 => k_is); (case k10 => k_is)
    (case a11 => k_is); (case l11 => k_is); (case c11 => k_is); (case k11 => k_is)
    (case a12 => k_is); (case l12 => k_is); (case c12 => k_is); (case k12 => k_is)
    (case a13 => k_is); (case l13 => k_is); (case c13 => k_is); (case k13 => k_is)
    (case a14 => k_is); (case l14 => k_is); (case c14 => k_is); (case k14 => k_is)
    (case a15 => k_is); (case l15 => k_is); (case c15 => k_is); (case k15 => k_is)
    (case a16 => k_is); (case l16 => k_is); (case c16 => k_is); (case k16 => k_is)
    (case a17 => k_is); (case l17 => k_is); (case c17 => k_is); (case k17 => k_is)
    (case a18 => k_is); (case l18 => k_is); (case c18 => k_is); (case k18 => k_is)
    (case a19 => k_is); (case l19 => k_is); (case c19 => k_is); (case k19 => k_is)
    (case a20 => k_is); (case l20 => k_is); (case c20 => k_is); (case k20 => k_is)
    (case a21 => k_is); (case l21 => k_is); (case c21 => k_is); (case k21 => k_is)
    (case a22 => k_is); (case l22 => k_is); (case c22 => k_is); (case k22 => k_is)
    (case a23 => k_is); (case l23 => k_is); (case c23 => k_is); (case k23 => k_is)
    (case a24 => k_is); (case l24 => k_is); (case c24 => k_is); (case k24 => k_is)
    (case a25 => k_is); (case l25 => k_is); (case c25 => k_is); (case k25 => k_is)
    (case a26 => k_is); (case l26 => k_is); (case c26 => k_is); (case k26 => k_is)
    (case a27 => k_is); (case l27 => k_is); (case c27 => k_is); (case k27 => k_is)
    (case a28 => k_is); (case l28 => k_is); (case c28 => k_is); (case k28 => k_is)
    (case a29 => k_is); (case l29 => k_is); (case c29 => k_is); (case k29 => k_is)
    (case ao => k_is); (case lo => k_is); (case co => k_is); (case ko => k_is)
    (case aw => k_is); (case lw => k_is); (case cw => k_is); (case kw => k_is)
    (case hd => kernel_rfl); (case nt => kernel_rfl)
