import PyProof.Rows.All
import Wide.All
import OpenK.AllK
import Wide.FinOn
import HandS.ForMost
import HandS.Conv
import HandS.SetKeys
import HandS.TupSets
import HandS.TupLe
import HandS.TupAny
import HandS.TupLen
import HandS.SetFor
import HandS.Strs
import HandS.IsInst
import HandS.Wide
import HandS.Walk
import HandS.Style
import KE.GoesEnum
import KE.GoesMore
import HandS.ReSub
import HandS.Evl
import PySem.Challenge.RW_joinworks_k02_whole_shares_of_ties
set_option linter.all false
/-! Plain mathematics: ties, joined places, trees, exchanges. No program here. -/
namespace Mt
inductive Conn (ps : List (Nat × Nat)) : Nat → Nat → Prop
  | refl (u : Nat) : Conn ps u u
  | edge {a b : Nat} : (a, b) ∈ ps → Conn ps a b
  | symm {u v : Nat} : Conn ps u v → Conn ps v u
  | trans {u v w : Nat} : Conn ps u v → Conn ps v w → Conn ps u w
theorem Conn.of {ps qs : List (Nat × Nat)} {u v : Nat} (h : ∀ a b, (a, b) ∈ ps → Conn qs a b) (c : Conn ps u v) : Conn qs u v := by
  induction c with
  | refl u => exact .refl u
  | edge m => exact h _ _ m
  | symm _ ih => exact .symm ih
  | trans _ _ i1 i2 => exact .trans i1 i2
theorem Conn.mono {ps qs : List (Nat × Nat)} {u v : Nat} (h : ∀ p, p ∈ ps → p ∈ qs) (c : Conn ps u v) : Conn qs u v :=
  c.of fun _ _ m => .edge (h _ m)
theorem Conn.inv {ps : List (Nat × Nat)} {u v : Nat} {P : Nat → Prop} (c : Conn ps u v) (h : ∀ a b, (a, b) ∈ ps → (P a ↔ P b)) : P u ↔ P v := by
  induction c with
  | refl u => exact Iff.rfl
  | edge m => exact h _ _ m
  | symm _ ih => exact ih.symm
  | trans _ _ i1 i2 => exact i1.trans i2
theorem Conn.nil {u v : Nat} (c : Conn [] u v) : u = v :=
  ((c.inv (P := fun x => u = x) (fun a b m => by simp at m)).mp rfl)
theorem Conn.cross {ps qs : List (Nat × Nat)} {u v : Nat} (c : Conn ps u v) (n : ¬ Conn qs u v) : ∃ a b, (a, b) ∈ ps ∧ ¬ Conn qs a b :=
  Classical.byContradiction fun h => n (c.of fun a b m => Classical.byContradiction fun k => h ⟨a, b, m, k⟩)
def Joined (n : Nat) (ps : List (Nat × Nat)) : Prop := ∀ x, x < n → Conn ps 0 x
theorem Joined.of {n : Nat} {ps qs : List (Nat × Nat)} (j : Joined n ps) (h : ∀ a b, (a, b) ∈ ps → Conn qs a b) : Joined n qs :=
  fun x hx => (j x hx).of h
theorem Joined.two {n : Nat} {ps : List (Nat × Nat)} (j : Joined n ps) {x y : Nat} (hx : x < n) (hy : y < n) : Conn ps x y := (j x hx).symm.trans (j y hy)
/-! ### so few ties join no more places -/
theorem colors (n : Nat) : ∀ ps : List (Nat × Nat), ∃ (c : Nat → Nat) (ks : List Nat), (∀ a b, (a, b) ∈ ps → c a = c b) ∧ ks.Nodup ∧ n ≤ ks.length + ps.length ∧ ∀ y, y ∈ ks → ∃ x, x < n ∧ c x = y
  | [] => ⟨id, List.range n, fun _ _ m => by simp at m, List.nodup_range, by simp, fun y m => ⟨y, by simpa using m, rfl⟩⟩
  | (a, b) :: r => by
    obtain ⟨c, ks, h1, h2, h3, h4⟩ := colors n r
    refine ⟨fun x => if c x = c b then c a else c x, ks.erase (c b), ?_, h2.erase _, ?_, ?_⟩
    · intro u v m
      rcases List.mem_cons.mp m with e | m
      · cases e
        simp only [if_true]
        by_cases q : c a = c b
        · rw [if_pos q]
        · rw [if_neg q]
      · show (if c u = c b then c a else c u) = (if c v = c b then c a else c v)
        rw [h1 u v m]
    · rw [List.length_cons]
      have := List.le_length_erase (l := ks) (a := c b)
      omega
    · intro y m
      have m2 := List.mem_of_mem_erase m
      have ne : y ≠ c b := fun e => by
        rw [e] at m
        exact (List.Nodup.not_mem_erase h2) m
      obtain ⟨x, hx, e⟩ := h4 y m2
      refine ⟨x, hx, ?_⟩
      show (if c x = c b then c a else c x) = y
      rw [if_neg (by rw [e]; exact ne), e]
theorem all_same {ks : List Nat} (hn : ks.Nodup) {z : Nat} (h : ∀ y, y ∈ ks → y = z) : ks.length ≤ 1 := by
  match ks, hn, h with
  | [], _, _ => simp
  | [_], _, _ => simp
  | a :: b :: r, hn, h =>
    have e1 := h a (by simp)
    have e2 := h b (by simp)
    rw [List.nodup_cons] at hn
    exact absurd (by rw [e1, ← e2]; simp) hn.1
theorem joined_le {n : Nat} {ps : List (Nat × Nat)} (j : Joined n ps) : n ≤ ps.length + 1 := by
  obtain ⟨c, ks, h1, h2, h3, h4⟩ := colors n ps
  have : ks.length ≤ 1 := all_same h2 (z := c 0) fun y m => by
    obtain ⟨x, hx, e⟩ := h4 y m
    rw [← e]
    exact (((j x hx).inv (P := fun y => c 0 = c y) fun a b m => by rw [h1 a b m]).mp rfl).symm
  omega
/-! ### trees -/
structure Tree (n m : Nat) (ed : Nat → Nat × Nat) (T : List Nat) : Prop where
  asc : T.Pairwise (· < ·)
  bd : ∀ x, x ∈ T → x < m
  len : T.length = n - 1
  con : Joined n (T.map ed)
def cost (w : Nat → Int) (T : List Nat) : Int := (T.map w).sum
theorem perm_cost {w : Nat → Int} {S T : List Nat} (p : S.Perm T) : cost w S = cost w T := by
  unfold cost
  induction p with
  | nil => rfl
  | cons x _ ih => simp only [List.map_cons, List.sum_cons, ih]
  | swap x y l => simp only [List.map_cons, List.sum_cons]; omega
  | trans _ _ i1 i2 => exact i1.trans i2
theorem asc_nodup {T : List Nat} (h : T.Pairwise (· < ·)) : T.Nodup := h.imp fun h => Nat.ne_of_lt h
def norm (m : Nat) (T : List Nat) : List Nat := (List.range m).filter fun x => decide (x ∈ T)
theorem norm_perm {m : Nat} {T : List Nat} (hn : T.Nodup) (hb : ∀ x, x ∈ T → x < m) : (norm m T).Perm T := by
  unfold norm
  rw [List.perm_ext_iff_of_nodup (List.Pairwise.filter _ List.nodup_range) hn]
  intro a
  simp only [List.mem_filter, List.mem_range, decide_eq_true_eq]
  exact ⟨fun h => h.2, fun h => ⟨hb a h, h⟩⟩
theorem norm_asc (m : Nat) (T : List Nat) : (norm m T).Pairwise (· < ·) := List.Pairwise.filter _ List.pairwise_lt_range
theorem joined_perm {n : Nat} {ed : Nat → Nat × Nat} {S T : List Nat} (h : ∀ x, x ∈ T → x ∈ S) (j : Joined n (T.map ed)) : Joined n (S.map ed) :=
  j.of fun a b m => by
    obtain ⟨x, hx, e⟩ := List.mem_map.mp m
    exact .edge (List.mem_map.mpr ⟨x, h x hx, e⟩)
theorem tree_norm {n m : Nat} {ed : Nat → Nat × Nat} {T : List Nat} (hn : T.Nodup) (hb : ∀ x, x ∈ T → x < m) (hl : T.length = n - 1) (hc : Joined n (T.map ed)) : Tree n m ed (norm m T) := by
  have p := norm_perm hn hb
  exact ⟨norm_asc m T, fun x hx => hb x (p.mem_iff.mp hx), by rw [p.length_eq, hl], joined_perm (fun x hx => p.mem_iff.mpr hx) hc⟩
section
variable {n m : Nat} {ed : Nat → Nat × Nat}
/-- a tie taken away from a tree: its ends come apart -/
theorem erase_apart {T : List Nat} (t : Tree n m ed T) {i : Nat} (hi : i ∈ T) : ¬ Conn ((T.erase i).map ed) (ed i).1 (ed i).2 := by
  intro c
  have j : Joined n ((T.erase i).map ed) := t.con.of fun a b q => by
    obtain ⟨x, hx, e⟩ := List.mem_map.mp q
    by_cases ex : x = i
    · subst ex
      rw [e] at c
      exact c
    · exact .edge (List.mem_map.mpr ⟨x, (List.mem_erase_of_ne ex).mpr hx, e⟩)
  have h := joined_le j
  rw [List.length_map, List.length_erase_of_mem hi, t.len] at h
  have h2 : 0 < T.length := List.length_pos_of_mem hi
  rw [t.len] at h2
  omega
theorem erase_reach {T : List Nat} (t : Tree n m ed T) {i : Nat} (h1 : (ed i).1 < n) (x : Nat) (hx : x < n) : Conn ((T.erase i).map ed) (ed i).1 x ∨ Conn ((T.erase i).map ed) (ed i).2 x := by
  have c := t.con.two h1 hx
  refine (c.inv (P := fun x => Conn ((T.erase i).map ed) (ed i).1 x ∨ Conn ((T.erase i).map ed) (ed i).2 x) fun a b q => ?_).mp (.inl (.refl _))
  obtain ⟨y, hy, e⟩ := List.mem_map.mp q
  by_cases ey : y = i
  · subst ey
    rw [e]
    exact ⟨fun _ => .inr (.refl _), fun _ => .inl (.refl _)⟩
  · have g : Conn ((T.erase i).map ed) a b := .edge (List.mem_map.mpr ⟨y, (List.mem_erase_of_ne ey).mpr hy, e⟩)
    exact ⟨fun h => h.elim (fun h => .inl (h.trans g)) (fun h => .inr (h.trans g)), fun h => h.elim (fun h => .inl (h.trans g.symm)) (fun h => .inr (h.trans g.symm))⟩
/-- the exchange: i out of the tree, k in, whose ends are apart without i -/
theorem swap {T : List Nat} (t : Tree n m ed T) {i k : Nat} (hi : i ∈ T) (hk : k < m) (i1 : (ed i).1 < n) (k1 : (ed k).1 < n) (k2 : (ed k).2 < n) (ha : ¬ Conn ((T.erase i).map ed) (ed k).1 (ed k).2) :
    k ∉ T.erase i ∧ Tree n m ed (norm m (k :: T.erase i)) ∧ (norm m (k :: T.erase i)).Perm (k :: T.erase i) := by
  have nk : k ∉ T.erase i := fun q => ha (.edge (List.mem_map.mpr ⟨k, q, rfl⟩))
  have nd : (k :: T.erase i).Nodup := List.nodup_cons.mpr ⟨nk, (asc_nodup t.asc).erase _⟩
  have hb : ∀ x, x ∈ k :: T.erase i → x < m := fun x q => by
    rcases List.mem_cons.mp q with e | q
    · rw [e]; exact hk
    · exact t.bd x (List.mem_of_mem_erase q)
  refine ⟨nk, tree_norm nd hb ?_ ?_, norm_perm nd hb⟩
  · rw [List.length_cons, List.length_erase_of_mem hi]
    have h2 : 0 < T.length := List.length_pos_of_mem hi
    have := t.len
    omega
  · have up : ∀ {u v : Nat}, Conn ((T.erase i).map ed) u v → Conn ((k :: T.erase i).map ed) u v := fun c => c.mono fun p q => by
      rw [List.map_cons]
      exact List.mem_cons_of_mem _ q
    have ek : Conn ((k :: T.erase i).map ed) (ed k).1 (ed k).2 := .edge (by rw [List.map_cons]; exact List.mem_cons_self)
    have ab : Conn ((k :: T.erase i).map ed) (ed i).1 (ed i).2 := by
      rcases erase_reach t i1 _ k1 with h | h <;> rcases erase_reach t i1 _ k2 with h' | h'
      · exact absurd (h.symm.trans h') ha
      · exact (up h).trans (ek.trans (up h').symm)
      · exact ((up h').trans ek.symm).trans (up h).symm
      · exact absurd (h.symm.trans h') ha
    have all : ∀ x, x < n → Conn ((k :: T.erase i).map ed) (ed i).1 x := fun x hx => by
      rcases erase_reach t i1 x hx with h | h
      · exact up h
      · exact ab.trans (up h)
    intro x hx
    exact (all 0 (by omega)).symm.trans (all x hx)
theorem swap_cost {T : List Nat} {i k : Nat} {w : Nat → Int} (hi : i ∈ T) (p : (norm m (k :: T.erase i)).Perm (k :: T.erase i)) : cost w (norm m (k :: T.erase i)) = cost w T - w i + w k := by
  have e1 : cost w T = w i + cost w (T.erase i) := perm_cost (List.perm_cons_erase hi)
  rw [perm_cost p]
  show w k + cost w (T.erase i) = _
  omega
/-- one by one: the tie that joins two places first -/
theorem first_join {a b : Nat} : ∀ (D X : List Nat), ¬ Conn (X.map ed) a b → Conn ((X ++ D).map ed) a b → ∃ (Z : List Nat) (j : Nat), (∀ z, z ∈ Z → z ∈ X ∨ z ∈ D) ∧ j ∈ D ∧ ¬ Conn (Z.map ed) a b ∧ Conn ((Z ++ [j]).map ed) a b
  | [], X, h, c => by
    rw [List.append_nil] at c
    exact absurd c h
  | d :: D, X, h, c => by
    by_cases q : Conn ((X ++ [d]).map ed) a b
    · exact ⟨X, d, fun z m => .inl m, List.mem_cons_self, h, q⟩
    · obtain ⟨Z, j, h1, h2, h3, h4⟩ := first_join D (X ++ [d]) q (by rw [List.append_assoc]; exact c)
      refine ⟨Z, j, fun z m => ?_, List.mem_cons_of_mem _ h2, h3, h4⟩
      rcases h1 z m with m | m
      · rcases List.mem_append.mp m with m | m
        · exact .inl m
        · exact .inr (by rw [List.mem_singleton.mp m]; exact List.mem_cons_self)
      · exact .inr (List.mem_cons_of_mem _ m)
theorem last_tie {Z : List Nat} {j a b : Nat} (h : ¬ Conn (Z.map ed) a b) (c : Conn ((Z ++ [j]).map ed) a b) :
    (Conn (Z.map ed) a (ed j).1 ∧ Conn (Z.map ed) (ed j).2 b) ∨ (Conn (Z.map ed) a (ed j).2 ∧ Conn (Z.map ed) (ed j).1 b) := by
  have k := (c.inv (P := fun x => Conn (Z.map ed) a x ∨ (Conn (Z.map ed) a (ed j).1 ∧ Conn (Z.map ed) (ed j).2 x) ∨ (Conn (Z.map ed) a (ed j).2 ∧ Conn (Z.map ed) (ed j).1 x)) ?_).mp (.inl (.refl _))
  · rcases k with k | k
    · exact absurd k h
    · exact k
  · intro u v q
    rw [List.map_append, List.mem_append] at q
    rcases q with q | q
    · have g : Conn (Z.map ed) u v := .edge q
      have g' := g.symm
      exact ⟨fun x => x.elim (fun x => .inl (x.trans g)) fun x => x.elim (fun x => .inr (.inl ⟨x.1, x.2.trans g⟩)) fun x => .inr (.inr ⟨x.1, x.2.trans g⟩),
        fun x => x.elim (fun x => .inl (x.trans g')) fun x => x.elim (fun x => .inr (.inl ⟨x.1, x.2.trans g'⟩)) fun x => .inr (.inr ⟨x.1, x.2.trans g'⟩)⟩
    · have e : (u, v) = ed j := by simpa using q
      rw [← e]
      constructor
      · rintro (x | x | x)
        · exact .inr (.inl ⟨x, .refl _⟩)
        · exact .inr (.inl ⟨x.1, .refl _⟩)
        · exact .inl x.1
      · rintro (x | x | x)
        · exact .inr (.inr ⟨x, .refl _⟩)
        · exact .inl x.1
        · exact .inr (.inr ⟨x.1, .refl _⟩)
/-- a tie put to a tree: one of the tree's ties, none of X, that can be taken for it -/
theorem put_in {T : List Nat} (t : Tree n m ed T) (he : ∀ k, k < m → (ed k).1 < n ∧ (ed k).2 < n) {i : Nat} (hi : i < m) (p : Nat → Bool) (h : ¬ Conn ((T.filter p).map ed) (ed i).1 (ed i).2) :
    ∃ j, j ∈ T ∧ p j = false ∧ ¬ Conn ((T.erase j).map ed) (ed i).1 (ed i).2 := by
  have c : Conn ((T.filter p ++ T.filter fun x => !p x).map ed) (ed i).1 (ed i).2 := (t.con.two (he i hi).1 (he i hi).2).mono fun q m => by
    obtain ⟨x, hx, e⟩ := List.mem_map.mp m
    refine List.mem_map.mpr ⟨x, ?_, e⟩
    rw [List.mem_append, List.mem_filter, List.mem_filter]
    cases hp : p x
    · exact .inr ⟨hx, by simp⟩
    · exact .inl ⟨hx, rfl⟩
  obtain ⟨Z, j, h1, h2, h3, h4⟩ := first_join _ _ h c
  rw [List.mem_filter] at h2
  have hj : p j = false := by simpa using h2.2
  have hZ : ∀ z, z ∈ Z → z ∈ T.erase j := fun z mz => by
    have zT : z ∈ T := by
      rcases h1 z mz with q | q
      · exact (List.mem_filter.mp q).1
      · exact (List.mem_filter.mp q).1
    have zj : z ≠ j := fun e => h3 (h4.mono fun q mq => by
      rw [List.map_append, List.mem_append] at mq
      rcases mq with mq | mq
      · exact mq
      · rw [e] at mz
        have e2 : q = ed j := by simpa using mq
        rw [e2]
        exact List.mem_map.mpr ⟨j, mz, rfl⟩)
    exact (List.mem_erase_of_ne zj).mpr zT
  refine ⟨j, h2.1, hj, fun k => ?_⟩
  have up : ∀ {u v : Nat}, Conn (Z.map ed) u v → Conn ((T.erase j).map ed) u v := fun c => c.mono fun q mq => by
    obtain ⟨x, hx, e⟩ := List.mem_map.mp mq
    exact List.mem_map.mpr ⟨x, hZ x hx, e⟩
  apply erase_apart t h2.1
  rcases last_tie h3 h4 with ⟨x, y⟩ | ⟨x, y⟩
  · exact (up x).symm.trans (k.trans (up y).symm)
  · exact (up y).trans (k.symm.trans (up x))
/-! ### least trees -/
structure Least (n m : Nat) (ed : Nat → Nat × Nat) (w : Nat → Int) (T : List Nat) : Prop where
  tree : Tree n m ed T
  le : ∀ S, Tree n m ed S → cost w T ≤ cost w S
def RL (m : Nat) (ed : Nat → Nat × Nat) (w : Nat → Int) (i : Nat) (t : Int) : List (Nat × Nat) := ((List.range m).filter fun j => decide (j ≠ i) && decide (w j ≤ t)).map ed
theorem mem_RL {w : Nat → Int} {i : Nat} {t : Int} {a b : Nat} : (a, b) ∈ RL m ed w i t ↔ ∃ j, j < m ∧ j ≠ i ∧ w j ≤ t ∧ ed j = (a, b) := by
  unfold RL
  simp only [List.mem_map, List.mem_filter, List.mem_range, Bool.and_eq_true, decide_eq_true_eq]
  exact ⟨fun ⟨j, ⟨h1, h2, h3⟩, h4⟩ => ⟨j, h1, h2, h3, h4⟩, fun ⟨j, h1, h2, h3, h4⟩ => ⟨j, ⟨h1, h2, h3⟩, h4⟩⟩
theorem RL_mono {w : Nat → Int} {i : Nat} {t u : Int} {a b : Nat} (h : t ≤ u) (c : Conn (RL m ed w i t) a b) : Conn (RL m ed w i u) a b :=
  c.mono fun p q => by
    obtain ⟨j, h1, h2, h3, h4⟩ := mem_RL.mp q
    exact mem_RL.mpr ⟨j, h1, h2, by omega, h4⟩
/-- some least tree holds i exactly if its ends are not joined by cheaper ties -/
theorem some_least {w : Nat → Int} (he : ∀ k, k < m → (ed k).1 < n ∧ (ed k).2 < n) {i : Nat} (hi : i < m) (ex : ∃ T, Least n m ed w T) :
    (∃ T, Least n m ed w T ∧ i ∈ T) ↔ ¬ Conn (RL m ed w i (w i - 1)) (ed i).1 (ed i).2 := by
  constructor
  · rintro ⟨T, l, iT⟩ c
    obtain ⟨a, b, q, na⟩ := c.cross (erase_apart l.tree iT)
    obtain ⟨j, h1, h2, h3, h4⟩ := mem_RL.mp q
    have e1 : (ed j).1 = a := by rw [h4]
    have e2 : (ed j).2 = b := by rw [h4]
    obtain ⟨nj, t, p⟩ := swap l.tree iT h1 (he i hi).1 (he j h1).1 (he j h1).2 (by rw [e1, e2]; exact na)
    have := l.le _ t
    rw [swap_cost iT p] at this
    omega
  · intro h
    obtain ⟨T, l⟩ := ex
    by_cases iT : i ∈ T
    · exact ⟨T, l, iT⟩
    · obtain ⟨j, jT, pj, na⟩ := put_in l.tree he hi (fun j => decide (w j < w i)) (fun c => h (c.mono fun p q => by
        obtain ⟨x, hx, e⟩ := List.mem_map.mp q
        rw [List.mem_filter] at hx
        have hw : w x < w i := by simpa using hx.2
        exact mem_RL.mpr ⟨x, l.tree.bd x hx.1, fun z => iT (by rw [← z]; exact hx.1), by omega, e⟩))
      have hj : j < m := l.tree.bd j jT
      have wj : w i ≤ w j := by
        have : ¬ w j < w i := by simpa using pj
        omega
      obtain ⟨nj, t, p⟩ := swap l.tree jT hi (he j hj).1 (he i hi).1 (he i hi).2 na
      refine ⟨_, ⟨t, fun S s => ?_⟩, p.mem_iff.mpr List.mem_cons_self⟩
      have := l.le S s
      rw [swap_cost jT p]
      omega
/-- all least trees hold i exactly if its ends are not joined by the other ties that are no dearer -/
theorem all_least {w : Nat → Int} (he : ∀ k, k < m → (ed k).1 < n ∧ (ed k).2 < n) {i : Nat} (hi : i < m) (ex : ∃ T, Least n m ed w T) :
    (∀ T, Least n m ed w T → i ∈ T) ↔ ¬ Conn (RL m ed w i (w i)) (ed i).1 (ed i).2 := by
  constructor
  · intro h c
    obtain ⟨T, l⟩ := ex
    have iT := h T l
    obtain ⟨a, b, q, na⟩ := c.cross (erase_apart l.tree iT)
    obtain ⟨j, h1, h2, h3, h4⟩ := mem_RL.mp q
    have e1 : (ed j).1 = a := by rw [h4]
    have e2 : (ed j).2 = b := by rw [h4]
    obtain ⟨nj, t, p⟩ := swap l.tree iT h1 (he i hi).1 (he j h1).1 (he j h1).2 (by rw [e1, e2]; exact na)
    have l2 : Least n m ed w (norm m (j :: T.erase i)) := ⟨t, fun S s => by
      have := l.le S s
      rw [swap_cost iT p]
      omega⟩
    have i2 := p.mem_iff.mp (h _ l2)
    rcases List.mem_cons.mp i2 with e | q
    · exact h2 e.symm
    · exact (List.Nodup.not_mem_erase (asc_nodup l.tree.asc)) q
  · intro h T l
    refine Classical.byContradiction fun iT => ?_
    obtain ⟨j, jT, pj, na⟩ := put_in l.tree he hi (fun j => decide (w j ≤ w i)) (fun c => h (c.mono fun p q => by
      obtain ⟨x, hx, e⟩ := List.mem_map.mp q
      rw [List.mem_filter] at hx
      have hw : w x ≤ w i := by simpa using hx.2
      exact mem_RL.mpr ⟨x, l.tree.bd x hx.1, fun z => iT (by rw [← z]; exact hx.1), hw, e⟩))
    have hj : j < m := l.tree.bd j jT
    have wj : w i < w j := by
      have : ¬ w j ≤ w i := by simpa using pj
      omega
    obtain ⟨nj, t, p⟩ := swap l.tree jT hi (he j hj).1 (he i hi).1 (he i hi).2 na
    have := l.le _ t
    rw [swap_cost jT p] at this
    omega
/-! ### the bar -/
theorem RL_some {w : Nat → Int} {i : Nat} {t : Int} {a b : Nat} (hab : a ≠ b) (c : Conn (RL m ed w i t) a b) : ∃ j, j < m ∧ j ≠ i ∧ w j ≤ t ∧ Conn (RL m ed w i (w j)) a b := by
  have key : ∀ (l : List Nat), l ≠ [] → ∃ j, j ∈ l ∧ ∀ k, k ∈ l → w k ≤ w j := by
    intro l
    induction l with
    | nil => intro h; exact absurd rfl h
    | cons x r ih =>
      intro _
      by_cases hr : r = []
      · subst hr
        exact ⟨x, by simp, fun k q => by rw [List.mem_singleton.mp q]; omega⟩
      · obtain ⟨j, hj, hm⟩ := ih hr
        by_cases g : w j ≤ w x
        · exact ⟨x, by simp, fun k q => by
            rcases List.mem_cons.mp q with e | q
            · rw [e]; omega
            · have := hm k q
              omega⟩
        · exact ⟨j, by simp [hj], fun k q => by
            rcases List.mem_cons.mp q with e | q
            · rw [e]; omega
            · exact hm k q⟩
  have ne : ((List.range m).filter fun j => decide (j ≠ i) && decide (w j ≤ t)) ≠ [] := fun e => by
    unfold RL at c
    rw [e] at c
    exact hab c.nil
  obtain ⟨j, hj, hm⟩ := key _ ne
  simp only [List.mem_filter, List.mem_range, Bool.and_eq_true, decide_eq_true_eq] at hj hm
  refine ⟨j, hj.1, hj.2.1, hj.2.2, c.mono fun p q => ?_⟩
  obtain ⟨k, h1, h2, h3, h4⟩ := mem_RL.mp q
  exact mem_RL.mpr ⟨k, h1, h2, hm k ⟨h1, h2, h3⟩, h4⟩
/-- what the program's bar answers, as told of the prices gone through -/
structure IsBar (m : Nat) (ed : Nat → Nat × Nat) (w : Nat → Int) (i : Nat) (B : Int) : Prop where
  yes : Conn (RL m ed w i B) (ed i).1 (ed i).2
  no : ∀ j, j < m → j ≠ i → w j < B → ¬ Conn (RL m ed w i (w j)) (ed i).1 (ed i).2
theorem bar_iff {w : Nat → Int} {i : Nat} {B : Int} (hab : (ed i).1 ≠ (ed i).2) (h : IsBar m ed w i B) (t : Int) : Conn (RL m ed w i t) (ed i).1 (ed i).2 ↔ B ≤ t := by
  constructor
  · intro c
    obtain ⟨j, h1, h2, h3, h4⟩ := RL_some hab c
    by_cases g : w j < B
    · exact absurd h4 (h.no j h1 h2 g)
    · omega
  · intro g
    exact RL_mono g h.yes
theorem bar_none {w : Nat → Int} {i : Nat} (he : ∀ k, k < m → (ed k).1 < n ∧ (ed k).2 < n) (hi : i < m) (hab : (ed i).1 ≠ (ed i).2) (h : ∀ j, j < m → j ≠ i → ¬ Conn (RL m ed w i (w j)) (ed i).1 (ed i).2) {T : List Nat} (t : Tree n m ed T) : i ∈ T := by
  refine Classical.byContradiction fun iT => ?_
  have top : ∀ l : List Nat, ∃ u : Int, ∀ k, k ∈ l → w k ≤ u := by
    intro l
    induction l with
    | nil => exact ⟨0, fun k q => by simp at q⟩
    | cons x r ih =>
      obtain ⟨u, hu⟩ := ih
      refine ⟨max u (w x), fun k q => ?_⟩
      rcases List.mem_cons.mp q with e | q
      · rw [e]; exact Int.le_max_right _ _
      · exact Int.le_trans (hu k q) (Int.le_max_left _ _)
  obtain ⟨u, hu⟩ := top T
  have c : Conn (RL m ed w i u) (ed i).1 (ed i).2 := (t.con.two (he i hi).1 (he i hi).2).mono fun p q => by
    obtain ⟨x, hx, e⟩ := List.mem_map.mp q
    exact mem_RL.mpr ⟨x, t.bd x hx, fun z => iT (by rw [← z]; exact hx), hu x hx, e⟩
  obtain ⟨j, h1, h2, _, h4⟩ := RL_some hab c
  exact h j h1 h2 h4
/-- with one price changed -/
def setP (w : Nat → Int) (i : Nat) (c : Int) : Nat → Int := fun j => if j = i then c else w j
theorem RL_setP {w : Nat → Int} {i : Nat} {c t : Int} : RL m ed (setP w i c) i t = RL m ed w i t := by
  unfold RL setP
  congr 1
  refine List.filter_congr fun j _ => ?_
  by_cases e : j = i
  · simp [e]
  · simp [e]
theorem bar_least {w : Nat → Int} {i : Nat} {B c : Int} (he : ∀ k, k < m → (ed k).1 < n ∧ (ed k).2 < n) (hi : i < m) (hab : (ed i).1 ≠ (ed i).2) (h : IsBar m ed w i B) (ex : ∃ T, Least n m ed (setP w i c) T) :
    (∃ T, Least n m ed (setP w i c) T ∧ i ∈ T) ↔ c ≤ B := by
  rw [some_least he hi ex, RL_setP, bar_iff hab h]
  unfold setP
  rw [if_pos rfl]
  omega
end
end Mt
set_option linter.all false
namespace Mt
theorem nodup_le {n : Nat} {ks : List Nat} (hn : ks.Nodup) (hb : ∀ x, x ∈ ks → x < n) : ks.length ≤ n := by
  rw [← (norm_perm hn hb).length_eq]
  unfold norm
  have := List.length_filter_le (fun x => decide (x ∈ ks)) (List.range n)
  rw [List.length_range] at this
  exact this
/-! ### labels that ties make alike -/
def relax (lab : List Nat) (p : Nat × Nat) : List Nat := (lab.set p.1 (min (lab.getD p.1 0) (lab.getD p.2 0))).set p.2 (min (lab.getD p.1 0) (lab.getD p.2 0))
def turnL (ps : List (Nat × Nat)) (lab : List Nat) : List Nat := ps.foldl relax lab
def turnsL (ps : List (Nat × Nat)) : Nat → List Nat → List Nat
  | 0, lab => lab
  | k + 1, lab => turnL ps (turnsL ps k lab)
theorem relax_length (lab : List Nat) (p : Nat × Nat) : (relax lab p).length = lab.length := by
  unfold relax
  rw [List.length_set, List.length_set]
theorem getD_set (l : List Nat) (i j v : Nat) (hi : i < l.length) : (l.set i v).getD j 0 = if i = j then v else l.getD j 0 := by
  rw [List.getD_eq_getElem?_getD, List.getD_eq_getElem?_getD, List.getElem?_set]
  by_cases h : i = j
  · subst h
    simp [hi]
  · simp [h]
theorem relax_get {lab : List Nat} {p : Nat × Nat} (h1 : p.1 < lab.length) (h2 : p.2 < lab.length) (x : Nat) :
    (relax lab p).getD x 0 = if p.2 = x then min (lab.getD p.1 0) (lab.getD p.2 0) else if p.1 = x then min (lab.getD p.1 0) (lab.getD p.2 0) else lab.getD x 0 := by
  unfold relax
  rw [getD_set _ _ _ _ (by rw [List.length_set]; exact h2), getD_set _ _ _ _ h1]
structure LabOk (n : Nat) (ps : List (Nat × Nat)) (lab : List Nat) : Prop where
  len : lab.length = n
  con : ∀ u, u < n → Conn ps (lab.getD u 0) u
  lt : ∀ u, u < n → lab.getD u 0 < n
theorem relax_ok {n : Nat} {ps : List (Nat × Nat)} {lab : List Nat} (h : LabOk n ps lab) {p : Nat × Nat} (hp : p ∈ ps) (h1 : p.1 < n) (h2 : p.2 < n) : LabOk n ps (relax lab p) := by
  have e12 : Conn ps p.1 p.2 := .edge hp
  have c1 := h.con _ h1
  have c2 := h.con _ h2
  have l1 := h.lt _ h1
  have l2 := h.lt _ h2
  have g := relax_get (lab := lab) (p := p) (by rw [h.len]; exact h1) (by rw [h.len]; exact h2)
  have mc : ∀ x, x = p.1 ∨ x = p.2 → Conn ps (min (lab.getD p.1 0) (lab.getD p.2 0)) x := fun x hx => by
    rcases Nat.le_total (lab.getD p.1 0) (lab.getD p.2 0) with q | q
    · rw [Nat.min_eq_left q]
      rcases hx with e | e
      · rw [e]; exact c1
      · rw [e]; exact c1.trans e12
    · rw [Nat.min_eq_right q]
      rcases hx with e | e
      · rw [e]; exact c2.trans e12.symm
      · rw [e]; exact c2
  refine ⟨by rw [relax_length, h.len], fun u hu => ?_, fun u hu => ?_⟩
  · rw [g u]
    split
    · rename_i e
      exact mc u (.inr e.symm)
    · split
      · rename_i e
        exact mc u (.inl e.symm)
      · exact h.con u hu
  · rw [g u]
    split
    · omega
    · split
      · omega
      · exact h.lt u hu
theorem foldl_ok {n : Nat} {ps : List (Nat × Nat)} (hb : ∀ p, p ∈ ps → p.1 < n ∧ p.2 < n) : ∀ (qs : List (Nat × Nat)) (lab : List Nat), (∀ p, p ∈ qs → p ∈ ps) → LabOk n ps lab → LabOk n ps (qs.foldl relax lab)
  | [], _, _, h => h
  | q :: r, lab, hs, h => foldl_ok hb r _ (fun p m => hs p (List.mem_cons_of_mem _ m)) (relax_ok h (hs q List.mem_cons_self) (hb q (hs q List.mem_cons_self)).1 (hb q (hs q List.mem_cons_self)).2)
theorem range_getD {n u : Nat} (h : u < n) : (List.range n).getD u 0 = u := by
  rw [List.getD_eq_getElem?_getD, List.getElem?_range h]
  rfl
theorem start_ok (n : Nat) (ps : List (Nat × Nat)) : LabOk n ps (List.range n) :=
  ⟨List.length_range, fun u hu => by rw [range_getD hu]; exact .refl u, fun u hu => by rw [range_getD hu]; exact hu⟩
theorem turns_ok {n : Nat} {ps : List (Nat × Nat)} (hb : ∀ p, p ∈ ps → p.1 < n ∧ p.2 < n) : ∀ k, LabOk n ps (turnsL ps k (List.range n))
  | 0 => start_ok n ps
  | k + 1 => foldl_ok hb ps _ (fun _ m => m) (turns_ok hb k)
theorem relax_zero {n : Nat} {lab : List Nat} (hl : lab.length = n) {p : Nat × Nat} (h1 : p.1 < n) (h2 : p.2 < n) {x : Nat} (hx : lab.getD x 0 = 0) : (relax lab p).getD x 0 = 0 := by
  rw [relax_get (by rw [hl]; exact h1) (by rw [hl]; exact h2)]
  split
  · rename_i e
    rw [← e] at hx
    rw [hx]
    exact Nat.min_zero _
  · split
    · rename_i e
      rw [← e] at hx
      rw [hx]
      exact Nat.zero_min _
    · exact hx
theorem foldl_zero {n : Nat} : ∀ (qs : List (Nat × Nat)) (lab : List Nat), lab.length = n → (∀ p, p ∈ qs → p.1 < n ∧ p.2 < n) → ∀ x, lab.getD x 0 = 0 → (qs.foldl relax lab).getD x 0 = 0
  | [], _, _, _, _, h => h
  | q :: r, lab, hl, hs, x, h => foldl_zero r _ (by rw [relax_length, hl]) (fun p m => hs p (List.mem_cons_of_mem _ m)) x (relax_zero hl (hs q List.mem_cons_self).1 (hs q List.mem_cons_self).2 h)
theorem foldl_spread {n : Nat} : ∀ (qs : List (Nat × Nat)) (lab : List Nat), lab.length = n → (∀ p, p ∈ qs → p.1 < n ∧ p.2 < n) → ∀ a b, (a, b) ∈ qs → lab.getD a 0 = 0 ∨ lab.getD b 0 = 0 → (qs.foldl relax lab).getD a 0 = 0 ∧ (qs.foldl relax lab).getD b 0 = 0
  | [], _, _, _, _, _, m, _ => by simp at m
  | q :: r, lab, hl, hs, a, b, m, h => by
    have hr : (relax lab q).length = n := by rw [relax_length, hl]
    have hs' : ∀ p, p ∈ r → p.1 < n ∧ p.2 < n := fun p m => hs p (List.mem_cons_of_mem _ m)
    have hq := hs q List.mem_cons_self
    rcases List.mem_cons.mp m with e | m
    · subst e
      have z : min (lab.getD a 0) (lab.getD b 0) = 0 := by
        rcases h with h | h
        · rw [h]; exact Nat.zero_min _
        · rw [h]; exact Nat.min_zero _
      have ra : (relax lab (a, b)).getD a 0 = 0 := by
        rw [relax_get (by rw [hl]; exact hq.1) (by rw [hl]; exact hq.2)]
        dsimp only
        rw [z]
        split
        · rfl
        · rw [if_pos rfl]
      have rb : (relax lab (a, b)).getD b 0 = 0 := by
        rw [relax_get (by rw [hl]; exact hq.1) (by rw [hl]; exact hq.2)]
        dsimp only
        rw [z, if_pos rfl]
      exact ⟨foldl_zero r _ hr hs' a ra, foldl_zero r _ hr hs' b rb⟩
    · exact foldl_spread r _ hr hs' a b m (h.elim (fun h => .inl (relax_zero hl hq.1 hq.2 h)) fun h => .inr (relax_zero hl hq.1 hq.2 h))
theorem turns_grow {n : Nat} (hn : 0 < n) {ps : List (Nat × Nat)} (hb : ∀ p, p ∈ ps → p.1 < n ∧ p.2 < n) (j : Joined n ps) : ∀ k, (∀ x, x < n → (turnsL ps k (List.range n)).getD x 0 = 0) ∨
    ∃ ks : List Nat, ks.Nodup ∧ k + 1 ≤ ks.length ∧ ∀ x, x ∈ ks → x < n ∧ (turnsL ps k (List.range n)).getD x 0 = 0
  | 0 => .inr ⟨[0], by simp, by simp, fun x m => by
      rw [List.mem_singleton.mp m]
      exact ⟨hn, range_getD hn⟩⟩
  | k + 1 => by
    have hl := (turns_ok hb k).len
    rcases turns_grow hn hb j k with h | ⟨ks, h1, h2, h3⟩
    · exact .inl fun x hx => foldl_zero ps _ hl hb x (h x hx)
    · by_cases all : ∀ x, x < n → (turnsL ps k (List.range n)).getD x 0 = 0
      · exact .inl fun x hx => foldl_zero ps _ hl hb x (all x hx)
      · right
        have z0 : (turnsL ps k (List.range n)).getD 0 0 = 0 := by
          match ks, h2, h3 with
          | [], h2, _ => simp at h2
          | y :: r, _, h3 =>
            have c0 : ∀ k, (turnsL ps k (List.range n)).getD 0 0 = 0 := fun k => by
              induction k with
              | zero => exact range_getD hn
              | succ k ih => exact foldl_zero ps _ (turns_ok hb k).len hb 0 ih
            exact c0 k
        have : ∃ a b, (a, b) ∈ ps ∧ ¬ ((turnsL ps k (List.range n)).getD a 0 = 0 ↔ (turnsL ps k (List.range n)).getD b 0 = 0) := Classical.byContradiction fun no => all fun x hx =>
          ((j x hx).inv (P := fun x => (turnsL ps k (List.range n)).getD x 0 = 0) fun a b m => Classical.byContradiction fun q => no ⟨a, b, m, q⟩).mp z0
        obtain ⟨a, b, m, q⟩ := this
        have sp := foldl_spread ps _ hl hb a b m
        have ks0 : ∀ x, x ∈ ks → x < n ∧ (turnsL ps (k + 1) (List.range n)).getD x 0 = 0 := fun x mx => ⟨(h3 x mx).1, foldl_zero ps _ hl hb x (h3 x mx).2⟩
        by_cases ha : (turnsL ps k (List.range n)).getD a 0 = 0
        · have hbb : ¬ (turnsL ps k (List.range n)).getD b 0 = 0 := fun h => q ⟨fun _ => h, fun _ => ha⟩
          refine ⟨b :: ks, List.nodup_cons.mpr ⟨fun mb => hbb (h3 b mb).2, h1⟩, by rw [List.length_cons]; omega, fun x mx => ?_⟩
          rcases List.mem_cons.mp mx with e | mx
          · rw [e]; exact ⟨(hb _ m).2, (sp (.inl ha)).2⟩
          · exact ks0 x mx
        · have hbb : (turnsL ps k (List.range n)).getD b 0 = 0 := Classical.byContradiction fun h => q ⟨fun x => absurd x ha, fun x => absurd x h⟩
          refine ⟨a :: ks, List.nodup_cons.mpr ⟨fun mb => ha (h3 a mb).2, h1⟩, by rw [List.length_cons]; omega, fun x mx => ?_⟩
          rcases List.mem_cons.mp mx with e | mx
          · rw [e]; exact ⟨(hb _ m).1, (sp (.inr hbb)).1⟩
          · exact ks0 x mx
/-- all labels are alike exactly if the ties join all places -/
theorem labels_iff {n : Nat} (hn : 0 < n) {ps : List (Nat × Nat)} (hb : ∀ p, p ∈ ps → p.1 < n ∧ p.2 < n) : (∀ x, x < n → (turnsL ps n (List.range n)).getD x 0 = (turnsL ps n (List.range n)).getD 0 0) ↔ Joined n ps := by
  constructor
  · intro h x hx
    have c := (turns_ok hb n).con
    have c0 := c 0 hn
    have cx := c x hx
    rw [h x hx] at cx
    exact c0.symm.trans cx
  · intro j
    have all : ∀ x, x < n → (turnsL ps n (List.range n)).getD x 0 = 0 := by
      rcases turns_grow hn hb j n with h | ⟨ks, h1, h2, h3⟩
      · exact h
      · have := nodup_le h1 fun x m => (h3 x m).1
        omega
    intro x hx
    rw [all x hx, all 0 hn]
/-! ### how many unlike ones -/
theorem one_iff {α : Type} {ls ks : List α} (hn : ks.Nodup) (hm : ∀ k, k ∈ ks ↔ k ∈ ls) {z : α} (hz : z ∈ ls) : ks.length = 1 ↔ ∀ x, x ∈ ls → x = z := by
  constructor
  · intro h x hx
    match ks, h with
    | [k], _ =>
      have e1 := List.mem_singleton.mp ((hm x).mpr hx)
      have e2 := List.mem_singleton.mp ((hm z).mpr hz)
      rw [e1, e2]
  · intro h
    match ks, hn, hm with
    | [], _, hm => exact absurd ((hm z).mpr hz) (by simp)
    | [k], _, _ => rfl
    | a :: b :: r, hn, hm =>
      have e1 := h a ((hm a).mp (by simp))
      have e2 := h b ((hm b).mp (by simp))
      rw [List.nodup_cons] at hn
      exact absurd (by rw [e1, ← e2]; simp) hn.1
/-! ### places by their parents -/
def root (p : List Nat) (i : Nat) : Nat := if h : p.getD i 0 < i then root p (p.getD i 0) else i
termination_by i
structure Par (n : Nat) (p : List Nat) : Prop where
  len : p.length = n
  le : ∀ i, i < n → p.getD i 0 ≤ i
theorem root_le (p : List Nat) : ∀ i, root p i ≤ i := by
  intro i
  induction i using Nat.strongRecOn with
  | _ i ih =>
    rw [root]
    split
    · rename_i h
      have := ih _ h
      omega
    · omega
theorem root_step {n : Nat} {p : List Nat} (h : Par n p) {i : Nat} (hi : i < n) : root p (p.getD i 0) = root p i := by
  rw [root.eq_1 p i]
  split
  · rfl
  · rename_i q
    have := h.le i hi
    have e : p.getD i 0 = i := by omega
    rw [e, root, dif_neg (by omega)]
theorem root_end {p : List Nat} {i : Nat} (e : p.getD i 0 = i) : root p i = i := by
  rw [root, dif_neg (by omega)]
theorem root_fix {n : Nat} {p : List Nat} (h : Par n p) : ∀ i, i < n → p.getD (root p i) 0 = root p i := by
  intro i
  induction i using Nat.strongRecOn with
  | _ i ih =>
    intro hi
    by_cases q : p.getD i 0 < i
    · rw [← root_step h hi]
      exact ih _ q (by omega)
    · have := h.le i hi
      have e : p.getD i 0 = i := by omega
      rw [root_end e, e]
theorem halve_par {n : Nat} {p : List Nat} (h : Par n p) {c : Nat} (hc : c < n) : Par n (p.set c (p.getD (p.getD c 0) 0)) := by
  refine ⟨by rw [List.length_set, h.len], fun i hi => ?_⟩
  rw [getD_set _ _ _ _ (by rw [h.len]; exact hc)]
  split
  · rename_i e
    have h1 := h.le c hc
    have h2 := h.le (p.getD c 0) (by omega)
    omega
  · exact h.le i hi
theorem halve_root {n : Nat} {p : List Nat} (h : Par n p) {c : Nat} (hc : c < n) : ∀ i, i < n → root (p.set c (p.getD (p.getD c 0) 0)) i = root p i := by
  have hq := halve_par h hc
  intro i
  induction i using Nat.strongRecOn with
  | _ i ih =>
    intro hi
    have g := getD_set p c i (p.getD (p.getD c 0) 0) (by rw [h.len]; exact hc)
    have hle := h.le i hi
    by_cases e : c = i
    · subst e
      rw [if_pos rfl] at g
      have h2 := h.le (p.getD c 0) (by omega)
      by_cases q : p.getD c 0 < c
      · rw [← root_step hq hi, g, ih _ (by omega) (by omega), root_step h (by omega), root_step h hi]
      · have e2 : p.getD c 0 = c := by omega
        rw [e2, e2] at g
        rw [e2, e2, root_end g, root_end e2]
    · rw [if_neg e] at g
      by_cases q : p.getD i 0 < i
      · rw [← root_step hq hi, g, ih _ q (by omega), root_step h hi]
      · have e2 : p.getD i 0 = i := by omega
        rw [root_end e2, root_end (by rw [g, e2])]
theorem range_par (n : Nat) : Par n (List.range n) := ⟨List.length_range, fun i hi => by rw [range_getD hi]; omega⟩
theorem range_root {n i : Nat} (hi : i < n) : root (List.range n) i = i := root_end (range_getD hi)
theorem union_par {n : Nat} {p : List Nat} (h : Par n p) {r s : Nat} (hr : r < n) (hs : s < n) : Par n (p.set (max r s) (min r s)) := by
  refine ⟨by rw [List.length_set, h.len], fun i hi => ?_⟩
  rw [getD_set _ _ _ _ (by rw [h.len]; omega)]
  split
  · omega
  · exact h.le i hi
theorem union_root {n : Nat} {p : List Nat} (h : Par n p) {r s : Nat} (hr : r < n) (hs : s < n) (er : p.getD r 0 = r) (es : p.getD s 0 = s) : ∀ i, i < n → root (p.set (max r s) (min r s)) i = if root p i = max r s then min r s else root p i := by
  have hq := union_par h hr hs
  have hm : max r s < p.length := by rw [h.len]; omega
  have emx : p.getD (max r s) 0 = max r s := by
    rcases Nat.le_total r s with q | q
    · rw [Nat.max_eq_right q, es]
    · rw [Nat.max_eq_left q, er]
  have emn : p.getD (min r s) 0 = min r s := by
    rcases Nat.le_total r s with q | q
    · rw [Nat.min_eq_left q, er]
    · rw [Nat.min_eq_right q, es]
  have gmn : (p.set (max r s) (min r s)).getD (min r s) 0 = min r s := by
    rw [getD_set _ _ _ _ hm]
    split
    · rfl
    · exact emn
  intro i
  induction i using Nat.strongRecOn with
  | _ i ih =>
    intro hi
    have g := getD_set p (max r s) i (min r s) hm
    have hle := h.le i hi
    by_cases e : max r s = i
    · rw [if_pos e] at g
      have ri : root p i = max r s := by
        rw [← e]
        exact root_end emx
      rw [if_pos ri, ← root_step hq hi, g, root_end gmn]
    · rw [if_neg e] at g
      by_cases q : p.getD i 0 < i
      · rw [← root_step hq hi, g, ih _ q (by omega), root_step h hi]
      · have e2 : p.getD i 0 = i := by omega
        rw [root_end e2, root_end (by rw [g, e2]), if_neg (fun z => e z.symm)]
/-- the parents after the pairs gone through -/
structure Joins (n : Nat) (done : List (Nat × Nat)) (p : List Nat) : Prop where
  par : Par n p
  con : ∀ u, u < n → Conn done (root p u) u
  all : ∀ a b, (a, b) ∈ done → root p a = root p b
theorem Joins.start (n : Nat) : Joins n [] (List.range n) := ⟨range_par n, fun u hu => by rw [range_root hu]; exact .refl u, fun _ _ m => by simp at m⟩
theorem Joins.same {n : Nat} {done : List (Nat × Nat)} {p q : List Nat} (hd : ∀ x, x ∈ done → x.1 < n ∧ x.2 < n) (h : Joins n done p) (hq : Par n q) (e : ∀ i, i < n → root q i = root p i) : Joins n done q :=
  ⟨hq, fun u hu => by rw [e u hu]; exact h.con u hu, fun a b m => by rw [e a (hd _ m).1, e b (hd _ m).2]; exact h.all a b m⟩
theorem Joins.more {n : Nat} {done : List (Nat × Nat)} {p : List Nat} (hd : ∀ x, x ∈ done → x.1 < n ∧ x.2 < n) (h : Joins n done p) {a b : Nat} (ha : a < n) (hb : b < n) :
    Joins n (done ++ [(a, b)]) (p.set (max (root p a) (root p b)) (min (root p a) (root p b))) := by
  have la := root_le p a
  have lb := root_le p b
  have hr : root p a < n := by omega
  have hs : root p b < n := by omega
  have U := union_root h.par hr hs (root_fix h.par a ha) (root_fix h.par b hb)
  have up : ∀ {u v : Nat}, Conn done u v → Conn (done ++ [(a, b)]) u v := fun c => c.mono fun p m => List.mem_append.mpr (.inl m)
  have eab : Conn (done ++ [(a, b)]) a b := .edge (by simp)
  have ca := up (h.con a ha)
  have cb := up (h.con b hb)
  have crs : Conn (done ++ [(a, b)]) (min (root p a) (root p b)) (max (root p a) (root p b)) := by
    rcases Nat.le_total (root p a) (root p b) with q | q
    · rw [Nat.min_eq_left q, Nat.max_eq_right q]
      exact ca.trans (eab.trans cb.symm)
    · rw [Nat.min_eq_right q, Nat.max_eq_left q]
      exact cb.trans (eab.symm.trans ca.symm)
  refine ⟨union_par h.par hr hs, fun u hu => ?_, fun c d m => ?_⟩
  · rw [U u hu]
    split
    · rename_i e
      have := up (h.con u hu)
      rw [e] at this
      exact crs.trans this
    · exact up (h.con u hu)
  · rcases List.mem_append.mp m with m | m
    · have hc : c < n := (hd _ m).1
      have hdd : d < n := (hd _ m).2
      rw [U c hc, U d hdd, h.all c d m]
    · have e : (c, d) = (a, b) := by simpa using m
      have e1 : c = a := congrArg Prod.fst e
      have e2 : d = b := congrArg Prod.snd e
      rw [e1, e2, U a ha, U b hb]
      split <;> split <;> omega
theorem Joins.iff {n : Nat} {done : List (Nat × Nat)} {p : List Nat} (h : Joins n done p) {u v : Nat} (hu : u < n) (hv : v < n) : root p u = root p v ↔ Conn done u v := by
  constructor
  · intro e
    have := h.con u hu
    rw [e] at this
    exact this.symm.trans (h.con v hv)
  · intro c
    exact (c.inv (P := fun x => root p u = root p x) fun a b m => by rw [h.all a b m]).mp rfl
/-! ### all lots -/
def lotsL (k : Nat) : Nat → List (List Nat)
  | 0 => [[]]
  | m + 1 => lotsL k m ++ ((lotsL k m).filter fun L => decide (L.length < k)).map fun L => L ++ [m]
theorem lots_length (k : Nat) : ∀ m, (lotsL k m).length ≤ 2 ^ m
  | 0 => by simp [lotsL]
  | m + 1 => by
    have ih := lots_length k m
    show (lotsL k m ++ _).length ≤ _
    rw [List.length_append, List.length_map, Nat.pow_succ]
    have := List.length_filter_le (fun L => decide (L.length < k)) (lotsL k m)
    omega
theorem asc_snoc {L : List Nat} {m : Nat} : (L ++ [m]).Pairwise (· < ·) ↔ L.Pairwise (· < ·) ∧ ∀ x, x ∈ L → x < m := by
  rw [List.pairwise_append]
  constructor
  · rintro ⟨h1, _, h2⟩
    exact ⟨h1, fun x hx => h2 x hx m (by simp)⟩
  · rintro ⟨h1, h2⟩
    exact ⟨h1, by simp, fun a ha b hb => by rw [List.mem_singleton.mp hb]; exact h2 a ha⟩
theorem mem_lots (k : Nat) : ∀ (m : Nat) (L : List Nat), L ∈ lotsL k m ↔ L.Pairwise (· < ·) ∧ (∀ x, x ∈ L → x < m) ∧ L.length ≤ k
  | 0, L => by
    unfold lotsL
    rw [List.mem_singleton]
    constructor
    · intro e
      subst e
      simp
    · rintro ⟨_, h, _⟩
      cases L with
      | nil => rfl
      | cons x r => exact absurd (h x (by simp)) (by omega)
  | m + 1, L => by
    show L ∈ lotsL k m ++ _ ↔ _
    rw [List.mem_append, List.mem_map, mem_lots k m]
    constructor
    · rintro (⟨h1, h2, h3⟩ | ⟨S, hS, e⟩)
      · exact ⟨h1, fun x hx => by have := h2 x hx; omega, h3⟩
      · rw [List.mem_filter, mem_lots k m] at hS
        obtain ⟨⟨h1, h2, h3⟩, h4⟩ := hS
        have h4 : S.length < k := by simpa using h4
        subst e
        refine ⟨asc_snoc.mpr ⟨h1, h2⟩, fun x hx => ?_, by simp; omega⟩
        rcases List.mem_append.mp hx with hx | hx
        · have := h2 x hx
          omega
        · have := List.mem_singleton.mp hx
          omega
    · rintro ⟨h1, h2, h3⟩
      rcases List.eq_nil_or_concat L with e | ⟨S, z, e⟩
      · subst e
        exact .inl ⟨h1, by simp, h3⟩
      · subst e
        rw [List.concat_eq_append] at *
        obtain ⟨a1, a2⟩ := asc_snoc.mp h1
        have hz : z < m + 1 := h2 z (by simp)
        rw [List.length_append, List.length_singleton] at h3
        by_cases q : z = m
        · subst q
          right
          refine ⟨S, ?_, rfl⟩
          rw [List.mem_filter, mem_lots k z]
          exact ⟨⟨a1, a2, by omega⟩, decide_eq_true (by omega)⟩
        · left
          refine ⟨h1, fun x hx => ?_, by simp; omega⟩
          rcases List.mem_append.mp hx with hx | hx
          · have := a2 x hx
            omega
          · rw [List.mem_singleton.mp hx]
            omega
end Mt
set_option Elab.async false
set_option linter.all false
set_option maxRecDepth 100000
/-! Rules that the layer lacks: a < b < c < d; enumerate of a tuple; set of a list of ints; sorted of a dict keyed by pairs. -/
namespace RK
open PySem PySem.Spec PyProof.Rows L2
section
variable {X : Cx}
/-! ### four in a chain -/
def tCh3 (r1 r2 r3 : R2) (ta tb tc td : TE) : TE := fun σ H Q =>
  ta σ H fun x H1 => tb σ H1 fun y H2 => r1 x y H2 fun z H3 => ∃ k, z = .bl k ∧
    if k = true then
      tc σ H3 fun u H4 => r2 y u H4 fun z' H5 => ∃ k', z' = .bl k' ∧ if k' = true then td σ H5 fun v H6 => r3 u v H6 Q else Q (.bl false) H5
    else Q (.bl false) H3
theorem pe_ch3 {a b c d : Expr} {ta tb tc td : TE} {o1 o2 o3 : CmpOp} {r1 r2 r3 : R2} {pos : Pos}
    (h1 : OpR X (compareOp o1) r1) (h2 : OpR X (compareOp o2) r2) (h3 : OpR X (compareOp o3) r3) (ha : PE X a ta) (hb : PE X b tb) (hc : PE X c tc) (hd : PE X d td)
    (hm : lastMarks [o1, o2, o3] [b, c, d] = false := by with_unfolding_all rfl) : PE X (.Compare a [o1, o2, o3] [b, c, d] pos) (tCh3 r1 r2 r3 ta tb tc td) := by
  refine ⟨fun pins s σ H Q I h => Compare_chain (thn (ha.run pins s σ H _ I h) ?_) hm⟩
  rintro v s1 ⟨x, H1, I1, e1, q1⟩
  refine chain_link (thn (hb.run pins s1 σ H1 _ I1 q1) ?_)
  rintro u s2 ⟨y, H2, I2, e2, q2⟩
  refine thn (h1 pins s2 σ H2 x y v u _ I2 e1 e2 q2) ?_
  rintro g s3 ⟨z, H3, I3, e3, k, rfl, q3⟩
  cases e3
  refine wpAny_truthy_bool ?_
  cases k with
  | false => exact ite_ff ⟨.bl false, H3, I3, rfl, q3⟩
  | true =>
    refine ite_tt (chain_link (thn (hc.run pins s3 σ H3 _ I3 q3) ?_))
    rintro u' s4 ⟨y', H4, I4, e4, q4⟩
    refine thn (h2 pins s4 σ H4 y y' u u' _ I4 e2 e4 q4) ?_
    rintro g' s5 ⟨z', H5, I5, e5, k', rfl, q5⟩
    cases e5
    refine wpAny_truthy_bool ?_
    cases k' with
    | false => exact ite_ff ⟨.bl false, H5, I5, rfl, q5⟩
    | true =>
      refine ite_tt (chain_last (thn (hd.run pins s5 σ H5 _ I5 q5) ?_))
      rintro w s6 ⟨t, H6, I6, e6, q6⟩
      exact h3 pins s6 σ H6 y' t u' w Q I6 e4 e6 q6
end
end RK
set_option Elab.async false
set_option linter.all false
set_option maxRecDepth 100000
set_option maxHeartbeats 4000000
/-! for i, x in enumerate(t), t a tuple. -/
namespace RK
open PySem PySem.Spec PyProof.Rows L2
open AutoSeq1 (wpAny_loadPart')
theorem new_enumT (t : Addr) (its : Array Value) (n : Nat) (dd : Option Addr) (sl : Array (Option Value)) :
    Meets (Builtin.«enumerate.__new__» ⟨[.type "enumerate", .ref t], []⟩) (fun _ R s =>
      s.heap.get? t = some { cls := .type "tuple", dict := dd, data := .seq its n, slots := sl } ∧
      R (.ok (.ret (.ref (s.heap.push { cls := .type "tuple_iterator", data := .fields #[.ref t, .int 0 0] }).objs.size))) { s with heap := (s.heap.push { cls := .type "tuple_iterator", data := .fields #[.ref t, .int 0 0] }).push { cls := .type "enumerate", data := .fields #[.none, .bool false, .ref s.heap.objs.size, rawInt 0, .none, .none] } }) := by
  refine .of_wp fun P w A R s ⟨ht, q⟩ => ?_
  obtain ⟨hp, g, d, tk, os⟩ := s
  have sub := sub_enumerate
  have T : Heap.IsTuple (Shared.heap ⟨hp, g, d, tk, os⟩) t its := ⟨_, ht, rfl, n, rfl⟩
  wp_walk using wpAny_loadPart' ht
  refine wpAny_stack_any fun st => wpAny_pure ?_
  split
  · rename_i c _ _ _ _ _
    cases (c == Value.type "enumerate") <;> (wp_walk using wpAny_loadPart' ht, wpAny_pyIter_tuple T; exact ⟨_, rfl, q⟩)
  · wp_walk using wpAny_loadPart' ht, wpAny_pyIter_tuple T
    exact ⟨_, rfl, q⟩
section
variable {prog : Program} {w : World} {A : Around} {E : Value → Shared → Prop} {s : Shared}
theorem call_enumT {t : Addr} {its : Array Value} {Q : Value → Shared → Prop} (T : s.heap.IsTuple t its)
    (q : ∀ h', IsEnum h' (s.heap.objs.size + 1) s.heap.objs.size 0 .none → h'.IsTupleIter s.heap.objs.size t 0 → (∀ b o, s.heap.get? b = some o → h'.get? b = some o) →
      Q (.ref (s.heap.objs.size + 1)) { s with heap := h' }) : wpAny (model prog w) A (call (.type "enumerate") [.ref t]) Q E s := by
  obtain ⟨⟨c, dd, dt, sl⟩, ht, hc, n, hd⟩ := T
  cases (show c = .type "tuple" from hc)
  cases (show dt = .seq its n from hd)
  refine callType_new F.called_enumerate (by decide) (F.typeCall_enumerate_1 _) (F.newCall_enumerate_1 _) (fun o => F.args_object_init_2 o _) F.entry_enumerate_new (new_enumT t its n dd sl) ⟨ht, ?_⟩
  have g1 := Heap.get?_push_size (s.heap.push { cls := .type "tuple_iterator", data := .fields #[.ref t, .int 0 0] }) (o := { cls := .type "enumerate", data := .fields #[.none, .bool false, .ref s.heap.objs.size, rawInt 0, .none, .none] }) rfl
  rw [Heap.size_push] at g1
  rw [Heap.size_push]
  exact ⟨⟨_, g1, rfl⟩, q _ g1 ⟨_, Heap.get?_push_of_some _ (Heap.get?_push_size _ rfl), rfl, rfl⟩ fun b o z => Heap.get?_push_of_some _ (Heap.get?_push_of_some _ z)⟩
end
/-- the tuple at a, its items with their numbers in new pairs -/
def IteT (K : PySem.W.Frag) (a : Addr) : It where
  go := fun i H => ∃ (xs : List V) (x : V), SqT K H a xs ∧ xs[i]? = some x
  yld := fun i H v H' => ∃ (T : Addr) (x : V), v = .ref T ∧ H T = none ∧ H' = upd H T (.tup [.int (i : Nat), x]) ∧ ∀ xs, SqT K H a xs → xs[i]? = some x
  stop := fun i H => ∃ xs : List V, SqT K H a xs ∧ xs.length ≤ i
theorem turn_enumT {P : Program} {w : World} {K : PySem.W.Frag} {elts : List Expr} {kk : Nat} {tpos : Pos} (a e it : Addr) :
    Turn P w K (.Tuple elts kk tpos) (IteT K a) [e, it] e (fun i h => (∃ old, IsEnum h e it ((i : Nat) : Int) old) ∧ h.IsTupleIter it a i ∧ e ≠ it) where
  mem := List.mem_cons_self
  obj := by
    rintro i h ⟨⟨old, he⟩, ⟨o, ho, hc, hd⟩, _⟩ b hb
    rcases List.mem_cons.mp hb with z | z
    · have he' : h.get? b = some { cls := .type "enumerate", data := .fields #[.none, .bool false, .ref it, rawInt ((i : Nat) : Int), .none, old] } := by rw [z]; exact he
      exact ⟨_, he', fun v q => nomatch q⟩
    · exact ⟨o, by rw [List.mem_singleton.mp z]; exact ho, fun v q => by rw [hd] at q; exact nomatch q⟩
  keep := by
    rintro i h h' ⟨⟨old, he⟩, hi, ne⟩ k
    exact ⟨⟨old, k e List.mem_cons_self _ he⟩, hi.at fun o q => k it (by simp) o q, ne⟩
  item := by
    intro X hP hw hK hc i pins s σ H E I hf st hg
    subst hP hw hK
    obtain ⟨⟨old, he⟩, hit, ne⟩ := st
    obtain ⟨xs, x, hq, hx⟩ := hg
    obtain ⟨its, rv, T, hz⟩ := I.tuple hq
    have T' : s.heap.IsTuple a its.toArray := T
    obtain ⟨u, hu, ru⟩ := rv.get hx
    obtain ⟨ot, hot, hct, _⟩ := id T'
    obtain ⟨oi, hoi, hci, _⟩ := id hit
    have hlt : i < its.toArray.size := by
      rw [List.size_toArray]
      exact (List.getElem?_eq_some_iff.mp hu).1
    have nai : a ≠ it := fun z => by
      rw [z, hoi] at hot
      cases hot
      rw [hci] at hct
      exact absurd hct (by decide)
    have nea : e ≠ a := fun z => by
      have he' : s.heap.get? e = some { cls := .type "enumerate", data := .fields #[.none, .bool false, .ref it, rawInt ((i : Nat) : Int), .none, old] } := he
      rw [z, hot] at he'
      rw [Option.some.inj he'] at hct
      exact absurd (Value.type.inj hct) (by decide)
    have lte : e < s.heap.objs.size := Heap.lt_size he
    have lti : it < s.heap.objs.size := Heap.lt_size hoi
    refine wpAny_pyNext_enum_itemC (Draws.tuple (A := X.A.in1) (by simp [I.ok.hd hc]) it a nai its.toArray) he ⟨hit, T'⟩ hlt ne (by simp [ne, nea]) fun y h' tk hy hO hS hT hsz hk => ?_
    have ey : y = u := by
      have hy' : its.toArray[i]? = some y := hy
      rw [List.getElem?_toArray, hu] at hy'
      exact (Option.some.inj hy').symm
    subst ey
    refine ⟨_, rfl, wpAny_letOwnedTupleGo_enum (s := { s with heap := h', toks := tk + 1 }) hO fun h'' he' sb => ?_⟩
    have hT2 : h''.get? s.heap.objs.size = some { cls := .type "tuple", data := .seq #[.int i tk, y] } := (sb.2 _ (Nat.ne_of_gt lte)).trans hT
    have nob : ObjOk X.prog X.w (upd H s.heap.objs.size (.tup [.int (i : Nat), x])) h'' s.heap.objs.size (.tup [.int (i : Nat), x]) :=
      ⟨(by decide : 2 ≤ sizeLine), [.int i tk, y], .cons ⟨_, rfl⟩ (.cons ru .nil), ⟨_, hT2, rfl, _, rfl⟩⟩
    have J : Inv X pins σ (upd H s.heap.objs.size (.tup [.int (i : Nat), x])) { s with heap := h'', toks := tk + 1 } := by
      refine I.turnedNew (ch := [e, it]) (fun b ob hb q => ?_) hf (Nat.le_refl _) nob
      have b1 : b ≠ e := fun z => hb (by simp [z])
      have b2 : b ≠ it := fun z => hb (by simp [z])
      exact (sb.2 b b1).trans (hk b ob b1 b2 q)
    refine ⟨.ref s.heap.objs.size, _, J, rfl, ⟨_, x, rfl, I.hok.fresh (Nat.le_refl _), rfl, fun ys hy => ?_⟩, ⟨⟨y, ?_⟩, hS.1.at fun o q => (sb.2 it (Ne.symm ne)).trans q, ne⟩, fun b hb => ?_⟩
    · rw [I.tuple_inj hy hq]
      exact hx
    · rw [show ((i + 1 : Nat) : Int) = (i : Int) + 1 by omega]
      exact he'
    · have lb : b < s.heap.objs.size := by
        rcases List.mem_cons.mp hb with z | z
        · rw [z]; exact lte
        · rw [List.mem_singleton.mp z]; exact lti
      rw [upd_ne (Nat.ne_of_lt lb)]
      exact (hf b hb).1
  done := by
    intro X hP hw hK hc i pins s σ H E I hf st hg
    subst hP hw hK
    obtain ⟨⟨old, he⟩, hit, ne⟩ := st
    obtain ⟨xs, hq, hx⟩ := hg
    obtain ⟨its, rv, T, hz⟩ := I.tuple hq
    have T' : s.heap.IsTuple a its.toArray := T
    have hl := rv.length
    obtain ⟨ot, hot, hct, _⟩ := id T'
    obtain ⟨oi, hoi, hci, _⟩ := id hit
    have nai : a ≠ it := fun z => by
      rw [z, hoi] at hot
      cases hot
      rw [hci] at hct
      exact absurd hct (by decide)
    have hT : s.TypeIs (.ref e) "enumerate" := ⟨_, he, rfl⟩
    obtain ⟨f0, f1, f2, f3, f4, f5⟩ := hf it (by simp)
    have D : Draws X.prog X.w X.A.in1 it [it, a] i (fun _ _ => False) (fun j h => j = i ∧ h.IsTupleIter it a i ∧ h.IsTuple a its.toArray) := by
      refine ⟨fun j h st1 => ?_, fun j h h' st1 k => ⟨st1.1, st1.2.1.at fun o z => k it (by simp) o z, st1.2.2.at fun o z => k a (by simp) o z⟩, fun j s1 Q E1 hj st1 hQ => absurd hj (by rw [st1.1]; exact Nat.lt_irrefl i), fun s1 Q E1 st1 hQ => wpAny_nextOf_tuple_end (by simp [I.ok.hd hc]) st1.2.1 st1.2.2 (by simp; omega) hQ⟩
      obtain ⟨o, ho, _⟩ := st1.2.1
      exact ⟨o, ho⟩
    exact wpAny_pyNext_enum_endD D he ⟨rfl, hit, T'⟩ fun h' eb => ⟨rfl, I.turned (t' := s.toks) (fun b o hb q => eb b o hb q) f0 f1 f3 f4 f5⟩
  self := fun A i s Q E st h => by
    obtain ⟨⟨_, he⟩, _⟩ := st
    exact wpAny_pyIter_enum he h
end RK
set_option Elab.async false
set_option linter.all false
set_option maxRecDepth 100000
set_option maxHeartbeats 4000000
/-! The walk of enumerate(t); sorted(d) of a dict keyed by tuples of ints. -/
namespace RK
open PySem PySem.Spec PyProof.Rows L2
section
variable {X : Cx}
def iEnumT (K : PySem.W.Frag) (ta : TA) : TI := fun σ H R => ta σ H fun vs H1 => ∃ (a : Addr) (xs : List V), vs = [.ref a] ∧ SqT K H1 a xs ∧ R (IteT K a) H1
theorem pi_enumT {e : Expr} {ta : TA} {p pos tpos : Pos} {elts : List Expr} {kk : Nat} (hg : Gl X "enumerate") (hm : X.mg "enumerate" = none) (ha : PA X [e] ta)
    (hs : starEach [e] X.env = [(false, eval e X.env)] := by rfl) : PI X (.Tuple elts kk tpos) (.Call (.Name "enumerate" p) [e] [] pos) (iEnumT X.K ta) := by
  refine ⟨fun pins s σ H R I h => Call_ (ld_blt I hg hm boot_enumerate (PyProof.Rows.callWith_type1 (thn (ha.run pos pins s σ H _ I h) ?_) hs rfl))⟩
  rintro us s1 ⟨vs, H1, I1, r1, a, xs, rfl, hq, q⟩
  obtain ⟨u, rfl, ru⟩ := r1.one
  cases ru
  obtain ⟨its, rv, T, hz⟩ := I1.tuple hq
  refine call_enumT (show s1.heap.IsTuple a its.toArray from T) fun h' he hit hk => wpAny_pyIter_enum he ?_
  have J : Inv X pins σ H1 { s1 with heap := h' } := I1.kept (t' := s1.toks) hk
  refine ⟨_, [s1.heap.objs.size + 1, s1.heap.objs.size], _, _, H1, rfl, J, turn_enumT a (s1.heap.objs.size + 1) s1.heap.objs.size, ⟨⟨.none, he⟩, hit, Nat.succ_ne_self _⟩, fun b hb => ?_, q⟩
  have lo : s1.heap.objs.size ≤ b := by
    rcases List.mem_cons.mp hb with z | z
    · rw [z]; exact Nat.le_succ _
    · rw [List.mem_singleton.mp z]; exact Nat.le_refl _
  exact I1.fpOk lo (I1.hok.fresh lo)
theorem walk_enumT {K : PySem.W.Frag} {a : Addr} {xs : List V} : Walk (IteT K a) xs.length (fun H => SqT K H a xs) (fun i H v H' => ∃ (T : Addr) (x : V), v = .ref T ∧ H T = none ∧ H' = upd H T (.tup [.int (i : Nat), x]) ∧ xs[i]? = some x) := by
  refine ⟨fun i H hi hG => ⟨xs, xs[i], hG, List.getElem?_eq_getElem hi⟩, fun H hG => ⟨xs, hG, Nat.le_refl _⟩, ?_⟩
  rintro i H v H' hi hG ⟨T, x, e1, e2, e3, e4⟩
  exact ⟨T, x, e1, e2, e3, e4 xs hG⟩

/-- sorted(d), d keyed by tuples of n ints in [0, B), fewer than 64 -/
def rSortDT (n : Nat) (B : Int) : List V → Hp → VK → Prop := fun vs H Q => ∃ (a : Addr) (kvs : List (List Key × V)) (ks : List (List Int)),
  vs = [V.ref a] ∧ H a = some (.dT kvs) ∧ kvs.map (·.1) = ks.map (fun k => k.map Sum.inl) ∧ ks.length < 64 ∧ (∀ k ∈ ks, k.length = n ∧ TS.Bd B k) ∧
  ∀ (L : List (Addr × List Int)) (p : Addr), (L.map (·.2)).Perm ks → L.Pairwise (fun q r => TS.code B q.2 ≤ TS.code B r.2) → (∀ q ∈ L, H q.1 = some (.tup (q.2.map V.int))) → H p = none →
    Q (.ref p) (upd H p (.lst (L.map fun q => V.ref q.1)))
theorem refs_back {α : Type} (f : α → Addr) (L : List α) : ∀ vs : List Value, (∀ v ∈ vs, ∃ q ∈ L, v = Value.ref (f q)) → ∃ M : List α, vs = M.map (fun q => Value.ref (f q)) ∧ ∀ q ∈ M, q ∈ L
  | [], _ => ⟨[], rfl, fun _ m => nomatch m⟩
  | v :: vs, h => by
    obtain ⟨M, e, hs⟩ := refs_back f L vs fun u m => h u (List.mem_cons_of_mem _ m)
    obtain ⟨q, hq, eq⟩ := h v List.mem_cons_self
    refine ⟨q :: M, by rw [eq, e]; rfl, fun r m => ?_⟩
    rcases List.mem_cons.mp m with z | z
    · rw [z]; exact hq
    · exact hs r z
/-- values that stand for rows are a permutation of the rows: so are the rows -/
theorem rows_perm {α : Type} (f : α → Addr) {L M : List α} (inj : ∀ q ∈ L, ∀ r ∈ L, f q = f r → q = r) (hs : ∀ q ∈ M, q ∈ L) (p : (M.map fun q => Value.ref (f q)).Perm (L.map fun q => Value.ref (f q))) : M.Perm L := by
  classical
  refine List.perm_iff_count.mpr fun x => ?_
  by_cases hx : x ∈ L
  · have c : ∀ N : List α, (∀ q ∈ N, q ∈ L) → (N.map fun q => Value.ref (f q)).countP (fun v => decide (v = Value.ref (f x))) = N.count x := by
      intro N hN
      rw [List.countP_map, List.count_eq_countP]
      refine List.countP_congr fun q hq => ?_
      simp only [Function.comp, decide_eq_true_eq, beq_iff_eq]
      constructor
      · intro e
        exact inj q (hN q hq) x hx (by injection e)
      · intro e
        rw [e]
    rw [← c M hs, ← c L fun _ h => h]
    exact p.countP_eq _
  · rw [List.count_eq_zero.mpr hx, List.count_eq_zero.mpr fun m => hx (hs x m)]
theorem kt_len {H : Hp} {kvs : List (List Key × V)} {xs : List (List Key × Addr × Value)} (r : KT H kvs xs) : kvs.length = xs.length := Paired.length r
theorem kt_keys {H : Hp} {kvs : List (List Key × V)} {xs : List (List Key × Addr × Value)} (r : KT H kvs xs) : xs.map (·.1) = kvs.map (·.1) := by
  unfold KT at r
  induction r with
  | nil => rfl
  | cons h _ ih => rw [List.map_cons, List.map_cons, ih, h.1]
theorem kt_tup {H : Hp} {kvs : List (List Key × V)} {xs : List (List Key × Addr × Value)} (r : KT H kvs xs) : ∀ x ∈ xs, H x.2.1 = some (.tup (x.1.map kV)) := by
  unfold KT at r
  induction r with
  | nil => exact fun _ m => nomatch m
  | cons h _ ih =>
    intro x m
    rcases List.mem_cons.mp m with e | m
    · rw [e, ← h.1]; exact h.2.1
    · exact ih x m
theorem cr_sortedDT {n : Nat} {B : Int} (hc : X.calm = true) (hn : 1 ≤ n) : CallR X (.builtin "sorted") (rSortDT n B) := by
  intro pins s σ H vs us Q I r h
  obtain ⟨a, kvs, ks, rfl, ha, hk, h64, hB, q⟩ := h
  rw [Vals.ref1 r]
  obtain ⟨z, hsys, xs, pr, o, es, ep, ho, hx, hdt, he, hnd⟩ := (show ObjOk X.prog X.w H s.heap a (.dT kvs) from I.hok a _ ha)
  have pr' : KT H kvs xs := pr
  have lx : xs.length = ks.length := by
    have e := congrArg List.length hk
    rw [List.length_map, List.length_map] at e
    rw [← kt_len pr', e]
  have le : es.size = xs.length := size_of_entries he
  have kx : xs.map (·.1) = ks.map (fun k => k.map Sum.inl) := (kt_keys pr').trans hk
  refine Calls.call_function_entry kind_sorted plain_sorted entry_sorted (args_sorted1 _) ?_
  unfold Builtin.«sorted»
  refine wpAny_bind (m := checkCount "sorted" 1 1 _) (wpAny_pure ?_)
  refine wpAny_bind (PySem.W.kdu_collect (A := X.A.in1) (kdl_raw hsys hx hdt) (I.ok.hd hc) ho (by rw [le, ← kt_len pr']; exact z) fun h' tk acc kp it => ?_)
  -- the rows: an address and its ints
  obtain ⟨L, eL, eK⟩ : ∃ L : List (Addr × List Int), xs.map (fun x => x.2.1) = L.map (·.1) ∧ L.map (·.2) = ks ∧ ∀ q ∈ L, H q.1 = some (.tup (q.2.map V.int)) := by
    have tp := kt_tup pr'
    clear hnd it le lx hk pr pr' he hB h64 q
    revert kx tp
    generalize xs = ys
    intro kx tp
    induction ys generalizing ks with
    | nil =>
      cases ks with
      | nil => exact ⟨[], rfl, rfl, fun _ m => nomatch m⟩
      | cons k ks => exact nomatch kx
    | cons y ys ih =>
      cases ks with
      | nil => exact nomatch kx
      | cons k ks =>
        rw [List.map_cons, List.map_cons] at kx
        injection kx with k1 k2
        obtain ⟨L, e1, e2, e3⟩ := ih ks k2 fun x m => tp x (List.mem_cons_of_mem _ m)
        refine ⟨(y.2.1, k) :: L, by rw [List.map_cons, List.map_cons, e1], by rw [List.map_cons, e2], fun q m => ?_⟩
        rcases List.mem_cons.mp m with e | m
        · rw [e]
          have := tp y List.mem_cons_self
          rw [k1, List.map_map] at this
          exact this
        · exact e3 q m
  obtain ⟨eK, tpL⟩ := eK
  have lL : L.length = ks.length := by rw [← eK, List.length_map]
  have eacc : acc.toList = L.map fun q => Value.ref q.1 := by
    have l1 : acc.toList.length = L.length := by rw [Array.length_toList, it.1, le, lx, lL]
    apply List.ext_getElem?
    intro j
    by_cases hj : j < L.length
    · have hja : j < acc.toList.length := by omega
      obtain ⟨en, hen, hv⟩ := it.2 j acc.toList[j] (by rw [← Array.getElem?_toList]; exact List.getElem?_eq_getElem hja)
      have qe := entry_at he j
      have hjx : j < xs.length := by omega
      rw [hen, List.getElem?_eq_getElem hjx] at qe
      have e2 : en = entryOfKey (tupleKind (mixKind X.prog X.w)) xs[j] := Option.some.inj qe
      have e3 : L[j].1 = xs[j].2.1 := by
        have := congrArg (fun l => l[j]?) eL
        simp only [List.getElem?_map, List.getElem?_eq_getElem hjx, List.getElem?_eq_getElem hj, Option.map_some] at this
        exact (Option.some.inj this).symm
      rw [List.getElem?_eq_getElem hja, List.getElem?_map, List.getElem?_eq_getElem hj, hv, e2, Option.map_some, e3]
      rfl
    · rw [List.getElem?_eq_none (by omega), List.getElem?_map, List.getElem?_eq_none (by omega)]
      rfl
  have inj : ∀ q ∈ L, ∀ r ∈ L, q.1 = r.1 → q = r := fun q mq r mr e => by
    have t1 := tpL q mq
    have t2 := tpL r mr
    rw [e, t2] at t1
    have e4 : r.2.map V.int = q.2.map V.int := by
      injection t1 with t1
      injection t1
    have e5 : r.2 = q.2 := by
      have mi : ∀ l m : List Int, l.map V.int = m.map V.int → l = m := by
        intro l
        induction l with
        | nil => intro m h; cases m with
          | nil => rfl
          | cons _ _ => exact nomatch h
        | cons x l ih => intro m h; cases m with
          | nil => exact nomatch h
          | cons y m =>
            rw [List.map_cons, List.map_cons] at h
            injection h with h1 h2
            injection h1 with h1
            rw [h1, ih m h2]
      exact mi _ _ e4
    exact Prod.ext e e5.symm
  have I1 : Inv X pins σ H { s with heap := h', toks := tk } := I.kept kp
  have l64 : acc.toList.length < 64 := by rw [eacc, List.length_map, lL]; exact h64
  refine wpAny_bind (wpAny_newList ?_ (by rw [sizeLine_eq]; omega))
  have g0 : (h'.push (seqObj "list" acc.toList.toArray 0)).get? h'.objs.size = some (seqObj "list" acc.toList.toArray 0) := Heap.get?_push_size _ rfl
  have raw : ∀ q ∈ L, TS.TupInts (h'.push (seqObj "list" acc.toList.toArray 0)) (.ref q.1) q.2 := fun q mq => by
    obtain ⟨its, rv, T, _⟩ := I1.tuple (X := X) (SqT.of (tpL q mq))
    have T' : h'.IsTuple q.1 its.toArray := T
    exact ⟨q.1, its.toArray, rfl, T'.at fun o e => Heap.get?_push_of_some _ e, by simpa using rv.ints⟩
  have ok : TS.TupsOk (h'.push (seqObj "list" acc.toList.toArray 0)) n B acc.toList := fun v hv => by
    rw [eacc] at hv
    obtain ⟨q, mq, e⟩ := List.mem_map.mp hv
    have mk : q.2 ∈ ks := by rw [← eK]; exact List.mem_map.mpr ⟨q, mq, rfl⟩
    exact ⟨q.2, by rw [← e]; exact raw q mq, (hB _ mk).1, (hB _ mk).2⟩
  show wpAny _ _ _ _ _ { s with heap := h'.push (seqObj "list" acc.toList.toArray 0), toks := tk }
  refine wpAny_bind (wpAny_holding (TS.call_sort_tups (s := { s with heap := h'.push (seqObj "list" acc.toList.toArray 0), toks := tk }) g0 l64 hn ok fun out a1 a2 => ?_))
  obtain ⟨c, hcx⟩ := sortedHeap_at (vs := acc.toList) (out := out) g0
  obtain ⟨M, eM, sM⟩ := refs_back (fun q : Addr × List Int => q.1) L out.toList fun v hv => by
    have hv' := a1.mem_iff.mp hv
    rw [eacc] at hv'
    obtain ⟨q, mq, e⟩ := List.mem_map.mp hv'
    exact ⟨q, mq, e.symm⟩
  have pM : M.Perm L := rows_perm (fun q => q.1) inj sM (by rw [← eM, ← eacc]; exact a1)
  have oM : M.Pairwise (fun q r => TS.code B q.2 ≤ TS.code B r.2) := by
    rw [eM] at a2
    refine (List.pairwise_map.mp a2).imp_of_mem fun {q r} mq mr hle => ?_
    rw [← (raw q (sM q mq)).ints, ← (raw r (sM r mr)).ints]
    exact hle
  have hp : H h'.objs.size = none := I1.hok.fresh (Nat.le_refl _)
  refine wpAny_pure ⟨_, rfl, ⟨.ref h'.objs.size, upd H h'.objs.size (.lst (M.map fun q => V.ref q.1)), ?_, rfl, q M _ (by rw [← eK]; exact pM.map _) oM (fun q mq => tpL q (sM q mq)) hp⟩⟩
  refine I1.laid (t' := tk) (fun b u e => ?_) (Nat.le_refl _) ⟨?_, out.toList, c, ?_, by rw [Array.toArray_toList]; exact hcx⟩
  · have lb := Heap.lt_size e
    rw [sortedHeap_old (Nat.ne_of_lt lb) (by rw [Heap.size_push]; exact Nat.lt_succ_of_lt lb)]
    exact Heap.get?_push_of_some _ e
  · rw [List.length_map, pM.length_eq, lL, sizeLine_eq]; omega
  · rw [eM]
    exact vals_of_refs M
end
end RK
set_option Elab.async false
set_option linter.all false
set_option maxRecDepth 100000
set_option maxHeartbeats 4000000
/-! set(xs), xs a list of ints. -/
namespace RK
open PySem PySem.Spec PyProof.Rows L2
/-- a set just made, its order told by the setting -/
abbrev set0 (w : World) : Obj := { cls := .type "set", dict := none, data := .set #[] 0 (.fresh 0 0 (!w.params.followText "set-order")) }
section
variable {P : Program} {w : World} {A : Around} {E : Value → Shared → Prop} {s : Shared}
/-- what set.__init__ leaves of the new set at a -/
def Filled (w : World) (s : Shared) (a : Addr) (ns : List Int) : Value → Shared → Prop := fun r s2 => r = .none ∧
  ∃ (h' : Heap) (tk c : Nat), s2 = { s with heap := h', toks := tk } ∧ SetR w h' a (fun j => decide (j ∈ ns)) c ∧ c ≤ ns.length ∧ ∀ b o, s.heap.get? b = some o → h'.get? b = some o
theorem fill_listI {l : Addr} {us : Array Value} {ns : List Int} (hh : A.handled = none) (hl : s.heap.IsList l us) (hi : IntsAre us.toList ns) (hb : ns.length + 1 < scanBound) :
    codeAny (model P w) A (.call (.builtin "set.__init__") ⟨[.ref s.heap.objs.size, .ref l], []⟩) (wants (Filled w s s.heap.objs.size ns) E) { s with heap := s.heap.push (set0 w) } := by
  have len : us.size = ns.length := by
    have q := IntsAre.length hi
    rwa [Array.length_toList] at q
  have at0 : (s.heap.push (set0 w)).get? s.heap.objs.size = some (set0 w) := Heap.get?_push_size _ rfl
  have ty : Shared.TypeIs { s with heap := s.heap.push (set0 w) } (.ref s.heap.objs.size) "set" := ⟨_, at0, rfl⟩
  refine codeAny_call_builtin F.called_set.init.plain F.entry_set_init (check_set_init_1 ty ?_)
  obtain ⟨⟨oc, od, dt, sl⟩, ho, hc, n, hd⟩ := hl
  cases (show oc = .type "list" from hc)
  cases (show dt = .seq us n from hd)
  have lo : l < s.heap.objs.size := Heap.lt_size ho
  have ho1 : (s.heap.push (set0 w)).get? l = some { cls := .type "list", dict := od, data := .seq us n, slots := sl } := Heap.get?_push_of_some _ ho
  have L1 : (s.heap.push (set0 w)).IsList l us := ⟨_, ho1, rfl, n, rfl⟩
  have f1 := F.sub_list_set
  have f2 := F.sub_list_frozenset
  have f3 : (Value.type "list" == Value.type "dict") = false := by decide
  unfold Builtin.«set.__init__» noKeywords Builtin.Frozenset.updateFrom
  generalize hit : pyIter = it
  wp_walk
  subst hit
  refine wpAny_pyIter_list L1 (wpAny_bind (wpAny_runValue ?_))
  have sz : (s.heap.push (set0 w)).objs.size = s.heap.objs.size + 1 := Heap.size_push ..
  have nI : l ≠ (s.heap.push (set0 w)).objs.size := by rw [sz]; exact Nat.ne_of_lt (Nat.lt_succ_of_lt lo)
  have nS : s.heap.objs.size ∉ [(s.heap.push (set0 w)).objs.size, l] := by
    rw [sz]
    intro m
    rcases List.mem_cons.mp m with z | z
    · exact Nat.ne_of_lt (Nat.lt_succ_self _) z
    · exact Nat.ne_of_gt lo (List.mem_singleton.mp z)
  have val : ∀ (i : Nat) (v : Value), us[i]? = some v → ∃ k t, ns[i]? = some k ∧ v = .int k t := by
    intro i v hv
    have il : i < ns.length := by rw [← len]; exact (Array.getElem?_eq_some_iff.mp hv).1
    obtain ⟨t, e⟩ := IntsAre.int_at hi i v (by rw [Array.getElem?_toList]; exact hv)
    rw [List.getD_eq_getElem?_getD, List.getElem?_eq_getElem il] at e
    exact ⟨ns[i], t, List.getElem?_eq_getElem il, e⟩
  refine set_update_ints ((Walks.list (by simp [hh]) _ l nI us).toS) s.heap.objs.size nS ns len hb val us.size 0 _ (by omega) (Nat.zero_le _) ⟨⟨_, Heap.get?_push_size _ rfl, rfl, rfl⟩, L1.push _⟩ ⟨0, Nat.le_refl 0, setR_new_at (Heap.get?_push_of_some _ at0)⟩ ?_
  rintro ⟨h2, g2, d2, t2, o2⟩ c mv hc2 R
  cases (show g2 = s.gens from mv.gens)
  cases (show d2 = s.drawn from mv.drawn)
  cases (show o2 = s.os from mv.os)
  show wpAny _ _ _ _ _ _
  refine wpAny_pure ?_
  show wpAny _ _ (ret Value.none) _ _ _
  refine wpAny_pure ⟨rfl, h2, t2, c, rfl, R, by rw [← len]; exact hc2, fun b o e => ?_⟩
  have lb := Heap.lt_size e
  refine mv.heap b o (fun m => ?_) (Heap.get?_push_of_some _ (Heap.get?_push_of_some _ e))
  rcases List.mem_cons.mp m with z | z
  · exact Nat.ne_of_lt lb z
  · have := List.mem_singleton.mp z
    rw [sz] at this
    exact Nat.ne_of_lt (Nat.lt_succ_of_lt lb) this
theorem call_setI {l : Addr} {us : Array Value} {ns : List Int} {Q : Value → Shared → Prop} (hh : A.handled = none) (hl : s.heap.IsList l us) (hi : IntsAre us.toList ns) (hb : ns.length + 1 < scanBound)
    (q : ∀ (h' : Heap) (tk c : Nat), SetR w h' s.heap.objs.size (fun j => decide (j ∈ ns)) c → c ≤ ns.length → (∀ b o, s.heap.get? b = some o → h'.get? b = some o) → Q (.ref s.heap.objs.size) { s with heap := h', toks := tk }) :
    wpAny (model P w) A (call (.type "set") [.ref l]) Q E s := by
  obtain ⟨c0, tl, mro⟩ := F.called_set.mro
  have k1 := F.called_set.made
  have k2 := F.called_set.sub
  have k3 := F.called_set.notType
  have k4 := F.called_set.canCreate
  have k5 := F.typeCall_set_1 (.ref l)
  refine wpAny_call (codeAny_of_tree ?_)
  show wpAny _ _ (callAny (.type "set") _) _ _ _
  refine wpAny_pure ⟨Code.quiet_builtin _ (by decide +kernel), codeAny_builtin F.entry_type_call ?_⟩
  rw [Around.under_plain (weight_type_call_type "set" [.ref l] []) rfl]
  repeat (any_goals (first | assumption | wp_step))
  refine codeAny_mono (code_set_led1 (.ref l) (E := E) (Q₁ := fun v s1 => v = .ref s.heap.objs.size ∧ s1 = { s with heap := s.heap.push (set0 w) }) ⟨rfl, rfl⟩) fun r s1 hr => ?_
  cases r with
  | error e => exact hr
  | ok fl =>
    cases fl with
    | ret v =>
      obtain ⟨rfl, rfl⟩ := hr
      have ty : Shared.TypeIs { s with heap := s.heap.push (set0 w) } (.ref s.heap.objs.size) "set" := ⟨_, Heap.get?_push_size _ rfl, rfl⟩
      have k6 := F.called_set.init.lookup
      have k7 := F.called_set.init.bind (.ref s.heap.objs.size)
      repeat (any_goals (first | assumption | wp_step))
      refine codeAny_mono (fill_listI (E := E) (by simp [hh]) hl hi hb) fun r2 s2 hr2 => ?_
      cases r2 with
      | error e => exact hr2
      | ok fl2 =>
        cases fl2 with
        | ret v2 =>
          obtain ⟨rfl, h', tk, c, rfl, R, hc, kp⟩ := hr2
          repeat (any_goals (first | assumption | wp_step))
          exact q _ _ _ R hc kp
        | _ => exact hr2.elim
    | _ => exact hr.elim
end
section
variable {X : Cx}
/-- set(xs): a new set of the ints of xs -/
def rSetI (K : PySem.W.Frag) (w : World) : List V → Hp → VK → Prop := fun vs H Q => ∃ (l : Addr) (ns : List Int), vs = [V.ref l] ∧ SqL K H l (ns.map V.int) ∧ ns.length < 64 ∧
  ∀ (p : Addr) (c : Nat), c ≤ ns.length → H p = none → Q (.ref p) (upd H p (SetO w p (fun j => decide (j ∈ ns)) c))
theorem cr_setI (hc : X.calm = true) : CallR X (.type "set") (rSetI X.K X.w) := by
  intro pins s σ H vs us Q I r h
  obtain ⟨l, ns, rfl, hs, h64, q⟩ := h
  rw [Vals.ref1 r]
  obtain ⟨its, rv, pl, _⟩ := I.list hs
  refine call_setI (I.ok.hd hc) pl.isList (ns := ns) (by simpa using rv.ints) (by unfold scanBound; omega) fun h' tk c R hle kp => ?_
  exact ⟨.ref s.heap.objs.size, _, I.laid (t' := tk) kp (Nat.le_refl _) (setO_new R), rfl, q _ c hle (I.hok.fresh (Nat.le_refl _))⟩
end
end RK
set_option Elab.async false
set_option linter.all false
set_option maxRecDepth 100000
/-! The text by places, what stands in the heap, calls by name. -/
namespace JW
open PySem PySem.Spec PyProof.Rows L2 RK
def topS (i : Nat) : Stmt := PySem.Challenge.pw_joinworks_k02_whole_shares_of_ties.main.body.getD i (.Pass ⟨0, 0, 0, 0⟩)
/-- a def of the text, called by its name -/
structure Cl (P : Program) (w : World) (K : PySem.W.Frag) (mg : Str → Option Value) (base : Heap) (k : Nat) (x : Str) (sp : Sp) : Prop where
  ex : ∃ (f : Addr) (fd : FuncData) (ps : List Str), FnOk P w K mg base CX0 k f fd ps sp ∧ mg x = some (.ref f) ∧ PySem.W.keepIn K (.ref f) = true ∧ Binds K fd ps []
section
variable {X : Cx} {k j : Nat} {x : Str} {sp : Sp} {p pos : Pos} {e : Expr} {es : List Expr} {t : TA}
theorem pe_cl (c : Cl X.prog X.w X.K X.mg X.base k x sp) (hr : Room j X.A) (hk : k ≤ j) (hg : Gl X x) (ha : PA X (e :: es) t)
    (d1 : (x == ("__debug__" : Str)) = false := by decide) (d2 : starEach (e :: es) X.env = (false, eval e X.env) :: starEach es X.env := by rfl) (d3 : (backTo pos (starEach es X.env)).any (·.1) = false := by rfl) :
    PE X (.Call (.Name x p) (e :: es) [] pos) (tCall sp [] E0 t) := by
  obtain ⟨f, fd, ps, F, hm, kp, b⟩ := c.ex
  exact pe_call F (hr.mono hk) hg hm kp b .nil pass0 ha d1 d2 d3
end
/-- the built-ins' names are not the module's; the constants -/
structure Txt (mg : Str → Option Value) : Prop where
  isi : mg "isinstance" = none
  int : mg "int" = none
  bool : mg "bool" = none
  tuple : mg "tuple" = none
  list : mg "list" = none
  str : mg "str" = none
  len : mg "len" = none
  all : mg "all" = none
  enum : mg "enumerate" = none
  range : mg "range" = none
  max : mg "max" = none
  min : mg "min" = none
  sorted : mg "sorted" = none
  set : mg "set" = none
  sum : mg "sum" = none
  cP : ∃ t, mg "MOST_PLACES" = some (.int 12 t)
  cT : ∃ t, mg "MOST_TIES" = some (.int 30 t)
  cM : ∃ t, mg "MOST_PRICE" = some (.int 999 t)
/-! ### things in the heap -/
/-- at the addresses as stand the things xs, in order -/
structure Objs {α : Type} (f : α → HO) (H : Hp) (as : List Addr) (xs : List α) : Prop where
  len : as.length = xs.length
  at_ : ∀ (i : Nat) (x : α), xs[i]? = some x → ∃ a, as[i]? = some a ∧ H a = some (f x)
section
variable {α : Type} {f : α → HO} {H H' : Hp} {as : List Addr} {xs : List α}
theorem Objs.same (o : Objs f H as xs) (s : Same H H') : Objs f H' as xs :=
  ⟨o.len, fun i x h => let ⟨a, h1, h2⟩ := o.at_ i x h; ⟨a, h1, s _ _ h2⟩⟩
theorem Objs.nil : Objs f H [] [] := ⟨rfl, fun i x h => by simp at h⟩
theorem Objs.snoc (o : Objs f H as xs) {a : Addr} {x : α} (h : H a = some (f x)) : Objs f H (as ++ [a]) (xs ++ [x]) := by
  refine ⟨by rw [List.length_append, List.length_append, o.len]; rfl, fun i y hy => ?_⟩
  by_cases hi : i < xs.length
  · rw [List.getElem?_append_left hi] at hy
    obtain ⟨b, h1, h2⟩ := o.at_ i y hy
    exact ⟨b, by rw [List.getElem?_append_left (by rw [o.len]; exact hi)]; exact h1, h2⟩
  · have hi2 : i < (xs ++ [x]).length := (List.getElem?_eq_some_iff.mp hy).1
    rw [List.length_append, List.length_singleton] at hi2
    have e : i = xs.length := by omega
    subst e
    rw [List.getElem?_append_right (Nat.le_refl _), Nat.sub_self] at hy
    have e : x = y := Option.some.inj hy
    subst e
    refine ⟨a, ?_, h⟩
    rw [List.getElem?_append_right (by rw [o.len]; exact Nat.le_refl _), o.len, Nat.sub_self]
    rfl
/-- the other way: an address at a place holds that place's thing -/
theorem Objs.get (o : Objs f H as xs) {i : Nat} {a : Addr} (h : as[i]? = some a) : ∃ x, xs[i]? = some x ∧ H a = some (f x) := by
  have hi : i < xs.length := by rw [← o.len]; exact (List.getElem?_eq_some_iff.mp h).1
  obtain ⟨b, h1, h2⟩ := o.at_ i _ (List.getElem?_eq_getElem hi)
  rw [h] at h1
  cases h1
  exact ⟨_, List.getElem?_eq_getElem hi, h2⟩
end
theorem refs_get {as : List Addr} {i : Nat} {v : V} (h : (as.map V.ref)[i]? = some v) : ∃ a, as[i]? = some a ∧ v = .ref a := by
  rw [List.getElem?_map] at h
  cases e : as[i]? with
  | none => rw [e] at h; cases h
  | some a => rw [e] at h; exact ⟨a, rfl, (Option.some.inj h).symm⟩
theorem refs_at {as : List Addr} {i : Nat} {a : Addr} (h : as[i]? = some a) : (as.map V.ref)[i]? = some (.ref a) := by
  rw [List.getElem?_map, h]; rfl
theorem same_upd {H : Hp} {p : Addr} {o : HO} (h : H p = none) : Same H (upd H p o) := fun b x e => by
  rw [upd_ne (ne_of_none e h)]
  exact e
abbrev Tie := Nat × Nat × Int
def nV (n : Nat) : V := .int (n : Int)
def tieO (e : Tie) : HO := .tup [nV e.1, nV e.2.1, .int e.2.2]
def pairO (q : Nat × Nat) : HO := .tup [nV q.1, nV q.2]
def lotO (L : List Nat) : HO := .tup (L.map nV)
/-- a web at p: n places, the ties E -/
def WebAt (H : Hp) (p t : Addr) (as : List Addr) (n : Nat) (E : List Tie) : Prop := H p = some (.tup [nV n, .ref t]) ∧ H t = some (.tup (as.map V.ref)) ∧ Objs tieO H as E
theorem WebAt.same {H H' : Hp} {p t : Addr} {as : List Addr} {n : Nat} {E : List Tie} (h : WebAt H p t as n E) (s : Same H H') : WebAt H' p t as n E := ⟨s _ _ h.1, s _ _ h.2.1, h.2.2.same s⟩
/-- a list of things, at l -/
def ListAt {α : Type} (f : α → HO) (H : Hp) (l : Addr) (xs : List α) : Prop := ∃ as, H l = some (.lst (as.map V.ref)) ∧ Objs f H as xs
theorem ListAt.same {α : Type} {f : α → HO} {H H' : Hp} {l : Addr} {xs : List α} (h : ListAt f H l xs) (s : Same H H') : ListAt f H' l xs := let ⟨as, h1, h2⟩ := h; ⟨as, s _ _ h1, h2.same s⟩
theorem nV_at {L : List Nat} {i x : Nat} (h : L[i]? = some x) : (L.map nV)[i]? = some (nV x) := by rw [List.getElem?_map, h]; rfl
theorem nV_get {L : List Nat} {i : Nat} {v : V} (h : (L.map nV)[i]? = some v) : ∃ x, L[i]? = some x ∧ v = nV x := by
  rw [List.getElem?_map] at h
  cases e : L[i]? with
  | none => rw [e] at h; cases h
  | some a => rw [e] at h; exact ⟨a, rfl, (Option.some.inj h).symm⟩
theorem nV_ints (L : List Nat) : L.map nV = (L.map fun n : Nat => (n : Int)).map V.int := by rw [List.map_map]; rfl
/-- a comprehension without a test: the turn -/
theorem yes_ {p : Prop} {σ : L2.St} {H : Hp} {T U : Hp → Prop} (h0 : p) (h : T H) : p ∧ tYes σ H (fun b H3 => if b = true then T H3 else U H3) := by
  refine ⟨h0, ?_⟩
  show (if true = true then T H else U H)
  rw [if_pos rfl]
  exact h
theorem sz {n : Nat} (h : n ≤ 5000) : n < sizeLine := Nat.lt_of_le_of_lt h (by decide)
end JW
set_option Elab.async false
set_option linter.all false
set_option maxRecDepth 100000
set_option maxHeartbeats 4000000
namespace JW
open PySem PySem.Spec PyProof.Rows L2 RK
abbrev sIsInt : Stmt := topS 9
abbrev sIsFrom : Stmt := topS 10
abbrev sNeedFrom : Stmt := topS 11
theorem scIsInt : FnScope ["value"] ["value"] (defScope sIsInt) := ⟨rfl, rfl, rfl, by decide +kernel, rfl, by decide +kernel, by decide +kernel⟩
theorem scIsFrom : FnScope ["value", "least", "most"] ["value", "least", "most"] (defScope sIsFrom) := ⟨rfl, rfl, rfl, by decide +kernel, rfl, by decide +kernel, by decide +kernel⟩
theorem scNeedFrom : FnScope ["value", "least", "most"] ["value", "least", "most"] (defScope sNeedFrom) := ⟨rfl, rfl, rfl, by decide +kernel, rfl, by decide +kernel, by decide +kernel⟩
def spIsInt : Sp := fun vs H Q _ => ∃ i : Int, vs = [.int i] ∧ Q (.bl true) H
def spIsFrom : Sp := fun vs H Q _ => ∃ i a b : Int, vs = [.int i, .int a, .int b] ∧ a ≤ i ∧ i ≤ b ∧ Q (.bl true) H
def spNeedFrom : Sp := fun vs H Q _ => ∃ i a b : Int, vs = [.int i, .int a, .int b] ∧ a ≤ i ∧ i ≤ b ∧ Q .non H
section
variable {P : Program} {w : World} {K : PySem.W.Frag} {mg : Str → Option Value} {base : Heap} {f : Addr} {fd : FuncData}
theorem ok_isint (F : Fun K "is_int" "is_int" sIsInt f fd) (T : Txt mg) : FnOk P w K mg base CX0 1 f fd ["value"] spIsInt := by
  refine F.ok scIsInt (fun vs H Q E h => ?_) (fun cdv A outer s H vs Q E hr h => ?_)
  · obtain ⟨i, rfl, _⟩ := h
    rfl
  · obtain ⟨i, rfl, q⟩ := h
    refine ⟨_, pss_one (ps_ret (pe_and (pe_callB call_isi (by rfl) T.isi PyProof.Rows.boot_isinstance (pa_cons (pv 0) (pa_cons (pe_bltn (v := .ty "int") (by rfl) T.int (by decide +kernel) rfl) pa_nil)))
      (pe_one (pe_not (pe_callB call_isi (by rfl) T.isi PyProof.Rows.boot_isinstance (pa_cons (pv 0) (pa_cons (pe_bltn (v := .ty "bool") (by rfl) T.bool (by decide +kernel) rfl) pa_nil))))))), ?_⟩
    refine ⟨_, rfl, _, _, _, _, true, rfl, .ty _, .base (.int _), kit_ty (by decide +kernel), true, rfl, iteT ?_⟩
    exact ⟨_, rfl, _, _, _, _, false, rfl, .ty _, .base (.int _), kit_ty (by decide +kernel), false, rfl, q⟩
theorem ok_isfrom (F : Fun K "is_from" "is_from" sIsFrom f fd) (GI : Cl P w K mg base 1 "is_int" spIsInt) : FnOk P w K mg base CX0 2 f fd ["value", "least", "most"] spIsFrom := by
  refine F.ok scIsFrom (fun vs H Q E h => ?_) (fun cdv A outer s H vs Q E hr h => ?_)
  · obtain ⟨i, a, b, rfl, _⟩ := h
    rfl
  · obtain ⟨i, a, b, rfl, h1, h2, q⟩ := h
    refine ⟨_, pss_one (ps_ret (pe_and (pe_cl GI hr (Nat.le_refl _) (by rfl) (pa_cons (pv 0) pa_nil)) (pe_one (pe_chain op_le op_le (pv 1) (pv 0) (pv 2))))), ?_⟩
    refine ⟨_, rfl, i, rfl, true, rfl, iteT ⟨_, rfl, _, rfl, _, _, rfl, rfl, true, congrArg V.bl (decide_eq_true h1), iteT ⟨_, rfl, _, _, rfl, rfl, ?_⟩⟩⟩
    show Q (.bl (decide (i ≤ b))) H
    rw [decide_eq_true h2]
    exact q
theorem ok_needfrom (F : Fun K "need_from" "need_from" sNeedFrom f fd) (GF : Cl P w K mg base 2 "is_from" spIsFrom) : FnOk P w K mg base CX0 3 f fd ["value", "least", "most"] spNeedFrom := by
  refine F.ok scNeedFrom (fun vs H Q E h => ?_) (fun cdv A outer s H vs Q E hr h => ?_)
  · obtain ⟨i, a, b, rfl, _⟩ := h
    rfl
  · obtain ⟨i, a, b, rfl, h1, h2, q⟩ := h
    refine ⟨_, pss_one (ps_if (pt_not (pt_val (pe_cl GF hr (Nat.le_refl _) (by rfl) (pa_cons (pv 0) (pa_cons (pv 1) (pa_cons (pv 2) pa_nil)))))) (pss_one ps_never) pss_nil), ?_⟩
    exact ⟨_, rfl, _, rfl, _, rfl, i, a, b, rfl, h1, h2, true, rfl, iteF q⟩
end
end JW
set_option Elab.async false
set_option linter.all false
set_option maxRecDepth 100000
set_option maxHeartbeats 4000000
namespace JW
open PySem PySem.Spec PyProof.Rows L2 RK
abbrev sIsTie : Stmt := topS 12
abbrev sNeedWeb : Stmt := topS 13
abbrev sNeedIndex : Stmt := topS 14
theorem scIsTie : FnScope ["value", "many", "one"] ["value", "many"] (defScope sIsTie) := ⟨rfl, rfl, rfl, by decide +kernel, rfl, by decide +kernel, by decide +kernel⟩
theorem scNeedWeb : FnScope ["value", "many", "ties", "index", "tie"] ["value"] (defScope sNeedWeb) := ⟨rfl, rfl, rfl, by decide +kernel, rfl, by decide +kernel, by decide +kernel⟩
theorem scNeedIndex : FnScope ["web", "value"] ["web", "value"] (defScope sNeedIndex) := ⟨rfl, rfl, rfl, by decide +kernel, rfl, by decide +kernel, by decide +kernel⟩
/-- a tie of so many places -/
structure TieOk (n : Nat) (e : Tie) : Prop where
  lt : e.1 < e.2.1
  bd : e.2.1 < n
  p0 : 0 ≤ e.2.2
  p1 : e.2.2 ≤ 999
def Rise (d e : Tie) : Prop := d.1 < e.1 ∨ (d.1 = e.1 ∧ d.2.1 < e.2.1)
structure WebOk (n : Nat) (E : List Tie) : Prop where
  lo : 1 ≤ n
  hi : n ≤ 12
  few : E.length ≤ 30
  ties : ∀ e, e ∈ E → TieOk n e
  rise : ∀ (i : Nat) (d e : Tie), E[i]? = some d → E[i + 1]? = some e → Rise d e
def spIsTie : Sp := fun vs H Q _ => ∃ (a : Addr) (n : Nat) (e : Tie), vs = [.ref a, nV n] ∧ H a = some (tieO e) ∧ TieOk n e ∧ ∀ H', Same H H' → Q (.bl true) H'
def spNeedWeb : Sp := fun vs H Q _ => ∃ (p t : Addr) (as : List Addr) (n : Nat) (E : List Tie), vs = [.ref p] ∧ WebAt H p t as n E ∧ WebOk n E ∧ ∀ H', Same H H' → Q .non H'
def spNeedIndex : Sp := fun vs H Q _ => ∃ (p t : Addr) (as : List Addr) (n : Nat) (E : List Tie) (i : Nat), vs = [.ref p, nV i] ∧ WebAt H p t as n E ∧ i < E.length ∧ Q .non H
theorem cut2 (x y z : V) : cutV [x, y, z] none (some 2) = [x, y] := rfl
theorem cut2_not : ¬ (HT.sIx 3 0 none = 0 ∧ HT.sIx 3 3 (some 2) = 3) := by decide
theorem lex_no {a b c d : Int} (h : c < a ∨ (c = a ∧ d < b)) : Ob.lexAt (fun j => decide (([a, b] : List Int).getD j 0 = ([c, d] : List Int).getD j 0)) (fun j => decide (([a, b] : List Int).getD j 0 ≤ ([c, d] : List Int).getD j 0)) (decide (([a, b] : List Int).length ≤ ([c, d] : List Int).length)) 0
    (min ([a, b] : List Int).length ([c, d] : List Int).length) = false := by
  show Ob.lexAt _ _ _ 0 2 = false
  rw [Ob.lexAt_succ, Ob.lexAt_succ]
  show (if decide (a = c) = true then (if decide (b = d) = true then _ else decide (b ≤ d)) else decide (a ≤ c)) = false
  rcases h with h | ⟨rfl, h⟩
  · rw [if_neg (by simp; omega)]
    exact decide_eq_false (by omega)
  · rw [if_pos (by simp), if_neg (by simp; omega)]
    exact decide_eq_false (by omega)
section
variable {P : Program} {w : World} {K : PySem.W.Frag} {mg : Str → Option Value} {base : Heap} {f : Addr} {fd : FuncData}
theorem ok_istie (F : Fun K "is_tie" "is_tie" sIsTie f fd) (T : Txt mg) (GI : Cl P w K mg base 1 "is_int" spIsInt) : FnOk P w K mg base CX0 2 f fd ["value", "many"] spIsTie := by
  obtain ⟨tM, hM⟩ := T.cM
  refine F.ok scIsTie (fun vs H Q E h => ?_) (fun cdv A outer s H vs Q E hr h => ?_)
  · obtain ⟨a, n, e, rfl, _⟩ := h
    rfl
  · obtain ⟨a, n, e, rfl, ha, ok, q⟩ := h
    refine ⟨_, pss_cons (ps_if (PW.pt (pw_or (pt_not (pt_val (pe_callB call_isi (by rfl) T.isi PyProof.Rows.boot_isinstance (pa_cons (pv 0) (pa_cons (pe_bltn (v := .ty "tuple") (by rfl) T.tuple (by decide +kernel) rfl) pa_nil)))))
        (pw_or (pt_cmpR op_ne (pe_callB call_len_seq (by rfl) T.len PySem.boot_len (pa_cons (pv 0) pa_nil)) pe_int (nomark _))
        (pw_or1 (pt_not (pt_val (pe_callB (cr_all rfl) (by rfl) T.all (by decide +kernel) (pa_cons (pe_lc (own := [("one", 2)]) (g := gName 2) (tt := tYes) rfl scIsTie.nd (pi_tup (pv 0))
          (blkOk_by (own := [("one", 2)]) (N := ["value", "many", "one"]) (sc := defScope sIsTie) (by decide +kernel)) (fun _ _ _ _ _ => pg_name (i := 2) scIsTie.nd rfl (.inl rfl)) (fun _ _ _ _ _ => pts_nil)
          (fun _ _ _ _ _ => pe_cl GI hr (Nat.le_refl _) (by rfl) (pa_cons (pv 2) pa_nil))) pa_nil))))))))
        (pss_one (ps_ret pe_bl)) pss_nil)
      (pss_one (ps_ret (pe_and (pe_ch3 op_le op_lt op_lt pe_int (pe_ix ix_tup (pv 0) pe_int (fun _ _ => rfl)) (pe_ix ix_tup (pv 0) pe_int (fun _ _ => rfl)) (pv 1))
        (pe_one (pe_chain op_le op_le pe_int (pe_ix ix_tup (pv 0) pe_int (fun _ _ => rfl)) (pe_glob (v := .int 999) (by rfl) hM ⟨tM, rfl⟩)))))), ?_⟩
    refine ⟨_, rfl, _, _, _, _, true, rfl, .ty _, .base (.tup ha), kit_ty (by decide +kernel), true, rfl, iteF ⟨_, rfl, a, _, rfl, .inr (SqT.of ha), rfl, _, rfl, iteF ?_⟩⟩
    refine ⟨_, rfl, a, rfl, ⟨_, SqT.of ha⟩, fun D hD => lc_tup (K := K) (a := a) (xs := [nV e.1, nV e.2.1, .int e.2.2]) (fun i H' => Same H H' ∧ H' D = some (.lst ((List.replicate i true).map V.bl)))
      ⟨same_upd hD, upd_same⟩ (fun i H' _ ⟨sm, _⟩ => SqT.of (sm _ _ ha)) (fun i x H3 hx ⟨sm, hl⟩ => ?_) (fun H3 ⟨sm, hl⟩ => ?_)⟩
    · obtain ⟨k, rfl⟩ : ∃ k : Int, x = .int k := by
        match i, hx with
        | 0, hx => exact ⟨_, (Option.some.inj hx).symm⟩
        | 1, hx => exact ⟨_, (Option.some.inj hx).symm⟩
        | 2, hx => exact ⟨_, (Option.some.inj hx).symm⟩
        | i + 3, hx => simp at hx
      have i3 : i < 3 := (List.getElem?_eq_some_iff.mp hx).1
      refine yes_ rfl ?_
      refine ⟨_, rfl, k, rfl, _, hl, by rw [List.length_map, List.length_replicate]; exact sz (by omega), fun b o hb => ?_, ?_⟩
      · rw [upd_ne (ne_of_none hb hD)]
        exact sm _ _ hb
      · rw [upd_same, List.replicate_succ', List.map_append]
        rfl
    · refine ⟨D, List.replicate 3 true, rfl, SqL.of hl, true, rfl, iteF ?_⟩
      have ha3 := sm _ _ ha
      refine ⟨_, rfl, a, _, 0, nV e.1, rfl, rfl, SqT.of ha3, atI_nat (j := 0) rfl, _, _, rfl, rfl, true, congrArg V.bl (decide_eq_true (by omega)), iteT ?_⟩
      refine ⟨_, rfl, a, _, 1, nV e.2.1, rfl, rfl, SqT.of ha3, atI_nat (j := 1) rfl, _, _, rfl, rfl, true, congrArg V.bl (decide_eq_true (by have := ok.lt; omega)), iteT ⟨_, rfl, _, _, rfl, rfl, ?_⟩⟩
      refine ⟨true, congrArg V.bl (decide_eq_true (by have := ok.bd; omega)), iteT ?_⟩
      refine ⟨_, rfl, a, _, 2, .int e.2.2, rfl, rfl, SqT.of ha3, atI_nat (j := 2) rfl, _, _, rfl, rfl, true, congrArg V.bl (decide_eq_true ok.p0), iteT ⟨_, _, rfl, rfl, ?_⟩⟩
      show Q (.bl (decide (e.2.2 ≤ 999))) H3
      rw [decide_eq_true ok.p1]
      exact q _ sm
theorem ok_needindex (F : Fun K "need_index" "need_index" sNeedIndex f fd) (T : Txt mg) (GN : Cl P w K mg base 3 "need_from" spNeedFrom) : FnOk P w K mg base CX0 4 f fd ["web", "value"] spNeedIndex := by
  refine F.ok scNeedIndex (fun vs H Q E h => ?_) (fun cdv A outer s H vs Q E hr h => ?_)
  · obtain ⟨p, t, as, n, E, i, rfl, _⟩ := h
    rfl
  · obtain ⟨p, t, as, n, E, i, rfl, W, hi, q⟩ := h
    refine ⟨_, pss_one (ps_expr (pe_cl GN hr (Nat.le_refl _) (by rfl) (pa_cons (pv 1) (pa_cons pe_int (pa_cons (pe_op op_sub (pe_callB call_len_seq (by rfl) T.len PySem.boot_len (pa_cons (pe_ix ix_tup (pv 0) pe_int (fun _ _ => rfl)) pa_nil)) pe_int) pa_nil))))), ?_⟩
    refine ⟨_, rfl, _, rfl, p, _, 1, .ref t, rfl, rfl, SqT.of W.1, atI_nat (j := 1) rfl, t, _, rfl, .inr (SqT.of W.2.1), _, _, rfl, rfl, i, 0, _, rfl, by omega, ?_, q⟩
    rw [List.length_map, W.2.2.len]
    omega
end
end JW
set_option Elab.async false
set_option linter.all false
set_option maxRecDepth 100000
set_option maxHeartbeats 4000000
namespace JW
open PySem PySem.Spec PyProof.Rows L2 RK
section
variable {P : Program} {w : World} {K : PySem.W.Frag} {mg : Str → Option Value} {base : Heap} {f : Addr} {fd : FuncData}
theorem ok_needweb (F : Fun K "need_web" "need_web" sNeedWeb f fd) (T : Txt mg) (GF : Cl P w K mg base 2 "is_from" spIsFrom) (GT : Cl P w K mg base 2 "is_tie" spIsTie) : FnOk P w K mg base CX0 3 f fd ["value"] spNeedWeb := by
  obtain ⟨tP, hP⟩ := T.cP
  obtain ⟨tT, hT⟩ := T.cT
  refine F.ok scNeedWeb (fun vs H Q E h => ?_) (fun cdv A outer s H vs Q E hr h => ?_)
  · obtain ⟨p, t, as, n, E, rfl, _⟩ := h
    rfl
  · obtain ⟨p, t, as, n, E, rfl, W, ok, q⟩ := h
    obtain ⟨hp, ht, os⟩ := id W
    have hlen : (as.map V.ref).length = E.length := by rw [List.length_map, os.len]
    refine ⟨_, pss_cons (ps_if (PW.pt (pw_or (pt_not (pt_val (pe_callB call_isi (by rfl) T.isi PyProof.Rows.boot_isinstance (pa_cons (pv 0) (pa_cons (pe_bltn (v := .ty "tuple") (by rfl) T.tuple (by decide +kernel) rfl) pa_nil)))))
        (pw_or (pt_cmpR op_ne (pe_callB call_len_seq (by rfl) T.len PySem.boot_len (pa_cons (pv 0) pa_nil)) pe_int (nomark _))
        (pw_or1 (pt_not (pt_val (pe_cl GF hr (Nat.le_refl _) (by rfl) (pa_cons (pe_ix ix_tup (pv 0) pe_int (fun _ _ => rfl)) (pa_cons pe_int (pa_cons (pe_glob (v := .int 12) (by rfl) hP ⟨tP, rfl⟩) pa_nil)))))))))) (pss_one ps_never) pss_nil)
      (pss_cons (ps_asg (pv 0) (pg_tup rfl (pgs_cons (pg_name (i := 1) scNeedWeb.nd rfl (.inl rfl)) (pgs_cons (pg_name (i := 2) scNeedWeb.nd rfl (.inl rfl)) pgs_nil))))
      (pss_cons (ps_if (PW.pt (pw_or (pt_not (pt_val (pe_callB call_isi (by rfl) T.isi PyProof.Rows.boot_isinstance (pa_cons (pv 2) (pa_cons (pe_bltn (v := .ty "tuple") (by rfl) T.tuple (by decide +kernel) rfl) pa_nil)))))
        (pw_or1 (pt_cmpR op_gt (pe_callB call_len_seq (by rfl) T.len PySem.boot_len (pa_cons (pv 2) pa_nil)) (pe_glob (v := .int 30) (by rfl) hT ⟨tT, rfl⟩) (nomark _))))) (pss_one ps_never) pss_nil)
      (pss_one (ps_for PassesOwn.never rfl (pi_enumT (by rfl) T.enum (pa_cons (pv 2) pa_nil)) (pg_tup rfl (pgs_cons (pg_name (i := 3) scNeedWeb.nd rfl (.inl rfl)) (pgs_cons (pg_name (i := 4) scNeedWeb.nd rfl (.inl rfl)) pgs_nil)))
        (pss_one (ps_if (PW.pt (pw_or (pt_not (pt_val (pe_cl GT hr (Nat.le_refl _) (by rfl) (pa_cons (pv 4) (pa_cons (pv 1) pa_nil)))))
          (pw_or1 (PW.pt (pw_and (pt_cmpR op_gt (pv 3) pe_int (nomark _)) (pw_and1 (pt_cmpR (op_leT hr.units0) (pe_slice sl_tup (pv 4) po_none (po_some pe_int))
            (pe_slice sl_tup (pe_ix ix_tup (pv 2) (pe_op op_sub (pv 3) pe_int) (fun _ _ => rfl)) po_none (po_some pe_int)) (nomark _)))))))) (pss_one ps_never) pss_nil)))))), ?_⟩
    refine ⟨_, rfl, _, _, _, _, true, rfl, .ty _, .base (.tup hp), kit_ty (by decide +kernel), true, rfl, iteF ⟨_, rfl, p, _, rfl, .inr (SqT.of hp), rfl, _, rfl, iteF ?_⟩⟩
    refine ⟨_, rfl, p, _, 0, nV n, rfl, rfl, SqT.of hp, atI_nat (j := 0) rfl, n, 1, 12, rfl, by have := ok.lo; omega, by have := ok.hi; omega, true, rfl, iteF ?_⟩
    -- many, ties = value
    refine ⟨_, rfl, p, _, rfl, SqT.of hp, rfl, nV n, _, rfl, .ref t, [], rfl, rfl, ?_⟩
    refine ⟨_, rfl, _, _, _, _, true, rfl, .ty _, .base (.tup ht), kit_ty (by decide +kernel), true, rfl, iteF ⟨_, rfl, t, _, rfl, .inr (SqT.of ht), _, _, rfl, rfl, false, congrArg V.bl (decide_eq_false ?_), iteF ?_⟩⟩
    · rw [hlen]
      have := ok.few
      omega
    -- for index, tie in enumerate(ties)
    refine ⟨_, rfl, t, as.map V.ref, rfl, SqT.of ht, for_it walk_enumT (fun i σ H' => ∃ y3 y4, σ = [some (.ref p), some (nV n), some (.ref t), y3, y4] ∧ Same H H')
      ⟨none, none, rfl, Same.refl H⟩ (fun i σ H' _ ⟨_, _, _, sm⟩ => SqT.of (sm _ _ ht)) ?_ (fun σ H' ⟨_, _, _, sm⟩ => q _ sm)⟩
    rintro i v σ H1 H2 hi ⟨y3, y4, rfl, sm⟩ ⟨T0, x, rfl, nT, rfl, hx⟩
    obtain ⟨a, ha, rfl⟩ := refs_get hx
    obtain ⟨e, he, hae⟩ := os.get ha
    have s2 : Same H (upd H1 T0 (.tup [.int (i : Nat), .ref a])) := sm.trans (same_upd nT)
    have eok := ok.ties e (List.mem_of_getElem? he)
    refine ⟨T0, _, rfl, SqT.of upd_same, rfl, .int (i : Nat), _, rfl, .ref a, [], rfl, rfl, ?_⟩
    refine ⟨_, rfl, _, rfl, a, n, e, rfl, s2 _ _ hae, eok, fun H3 s3 => ⟨true, rfl, iteF ?_⟩⟩
    have s4 : Same H H3 := s2.trans s3
    refine ⟨_, rfl, _, _, rfl, rfl, _, rfl, ?_⟩
    cases i with
    | zero => exact iteF (iteF ⟨_, _, rfl, s4⟩)
    | succ i =>
      rw [decide_eq_true (show (0 : Int) < ((i + 1 : Nat) : Int) by omega)]
      have hil : i < E.length := by
        have := (List.getElem?_eq_some_iff.mp he).1
        omega
      obtain ⟨b, hb, hbd⟩ := os.at_ i _ (List.getElem?_eq_getElem hil)
      have R := ok.rise i _ e (List.getElem?_eq_getElem hil) he
      refine iteT ⟨_, rfl, 2, rfl, a, _, rfl, SqT.of (s4 _ _ hae), cut2_not, fun p1 n1 => ?_⟩
      have s5 := s4.trans (same_upd (o := .tup (cutV [nV e.1, nV e.2.1, .int e.2.2] none (some 2))) n1)
      refine ⟨_, rfl, _, rfl, _, _, rfl, rfl, t, _, (i : Nat), .ref b, rfl, ?_, SqT.of (s5 _ _ ht), atI_nat (refs_at hb), 2, rfl, b, _, rfl, SqT.of (s5 _ _ hbd), cut2_not, fun p2 n2 => ?_⟩
      · exact congrArg V.int (by omega)
      have s6 := s5.trans (same_upd (o := .tup (cutV [nV E[i].1, nV E[i].2.1, .int E[i].2.2] none (some 2))) n2)
      refine ⟨p1, p2, [(e.1 : Int), (e.2.1 : Int)], [(E[i].1 : Int), (E[i].2.1 : Int)], rfl, rfl, SqT.of (same_upd n2 _ _ upd_same), SqT.of upd_same, _, rfl, ?_⟩
      rw [lex_no (by rcases R with h | ⟨h1, h2⟩ <;> omega)]
      exact iteF ⟨_, _, rfl, s6⟩
end
end JW
set_option Elab.async false
set_option linter.all false
set_option maxRecDepth 100000
set_option maxHeartbeats 4000000
namespace JW
open PySem PySem.Spec PyProof.Rows L2 RK Mt
abbrev sRootOf : Stmt := topS 15
theorem scRootOf : FnScope ["parent", "place"] ["parent", "place"] (defScope sRootOf) := ⟨rfl, rfl, rfl, by decide +kernel, rfl, by decide +kernel, by decide +kernel⟩
theorem nV_getD {p : List Nat} {i : Nat} (h : i < p.length) : (p.map nV)[i]? = some (nV (p.getD i 0)) := by
  rw [List.getElem?_map, List.getElem?_eq_getElem h, List.getD_eq_getElem?_getD, List.getElem?_eq_getElem h]
  rfl
theorem ixN_nat {n k : Nat} (h : k < n) : ixN n (k : Int) = some k := by
  unfold ixN
  rw [if_pos (by omega), if_pos (by omega), Int.toNat_natCast]
theorem nV_inj {a b : Nat} (h : nV a = nV b) : a = b := by
  have := V.int.inj h
  omega
theorem nV_dec (a b : Nat) : decide (nV a = nV b) = decide (a = b) := by
  by_cases h : a = b
  · rw [h, decide_eq_true rfl, decide_eq_true rfl]
  · rw [decide_eq_false h, decide_eq_false fun e => h (nV_inj e)]
def spRootOf : Sp := fun vs H Q _ => ∃ (l : Addr) (n c : Nat) (p : List Nat), vs = [.ref l, nV c] ∧ H l = some (.lst (p.map nV)) ∧ Par n p ∧ c < n ∧
  ∀ q : List Nat, Par n q → (∀ i, i < n → root q i = root p i) → Q (nV (root p c)) (upd H l (.lst (q.map nV)))
section
variable {P : Program} {w : World} {K : PySem.W.Frag} {mg : Str → Option Value} {base : Heap} {f : Addr} {fd : FuncData}
theorem ok_rootof (F : Fun K "root_of" "root_of" sRootOf f fd) : FnOk P w K mg base CX0 1 f fd ["parent", "place"] spRootOf := by
  refine F.ok scRootOf (fun vs H Q E h => ?_) (fun cdv A outer s H vs Q E hr h => ?_)
  · obtain ⟨l, n, c, p, rfl, _⟩ := h
    rfl
  · obtain ⟨l, n, c, p, rfl, hl, pp, hc, q⟩ := h
    refine ⟨_, pss_cons (ps_while PassesOwn.never (pt_cmpR op_ne (pe_ix ix_list (pv 0) (pv 1) (fun _ _ => rfl)) (pv 1) (nomark _))
        (pss_cons (ps_asg (pe_ix ix_list (pv 0) (pe_ix ix_list (pv 0) (pv 1) (fun _ _ => rfl)) (fun _ _ => rfl)) (pg_sub (pv 0) (pv 1) set_list))
          (pss_one (ps_set (i := 1) scRootOf.nd rfl (.inl rfl) (pe_ix ix_list (pv 0) (pv 1) (fun _ _ => rfl))))))
      (pss_one (ps_ret (pv 1))), ?_⟩
    refine ⟨fun m σ H' => ∃ p', σ = [some (.ref l), some (nV m)] ∧ H' = upd H l (.lst (p'.map nV)) ∧ Par n p' ∧ (∀ i, i < n → root p' i = root p i) ∧ m < n ∧ root p m = root p c,
      ⟨c, p, rfl, (upd_self hl).symm, pp, fun _ _ => rfl, hc, rfl⟩, ?_⟩
    rintro m σ H' ⟨p', rfl, rfl, pp', rs, hm, er⟩
    have hml : m < p'.length := by rw [pp'.len]; exact hm
    have hle := pp'.le m hm
    have e1 : SqL K (upd H l (.lst (p'.map nV))) l (p'.map nV) := SqL.of upd_same
    refine ⟨_, rfl, _, rfl, l, _, m, _, rfl, rfl, e1, atI_nat (nV_getD hml), _, rfl, rfl, _, rfl, ?_⟩
    rw [nV_dec]
    by_cases he : p'.getD m 0 = m
    · rw [decide_eq_true he]
      refine iteF ⟨_, rfl, ?_⟩
      have : root p c = m := by rw [← er, ← rs m hm, root_end he]
      rw [← this]
      exact q p' pp' rs
    · rw [decide_eq_false he]
      refine iteT ⟨fun σ H1 => ∃ m', m' < m ∧ ∃ p', σ = [some (.ref l), some (nV m')] ∧ H1 = upd H l (.lst (p'.map nV)) ∧ Par n p' ∧ (∀ i, i < n → root p' i = root p i) ∧ m' < n ∧ root p m' = root p c, fun σ H1 h => h, ?_⟩
      have h2 : p'.getD m 0 < p'.length := by rw [pp'.len]; omega
      refine ⟨_, rfl, _, rfl, _, rfl, l, _, m, _, rfl, rfl, e1, atI_nat (nV_getD hml), l, _, _, _, rfl, rfl, e1, atI_nat (nV_getD h2), ?_⟩
      refine ⟨_, rfl, _, rfl, l, _, m, m, rfl, rfl, upd_same, ixN_nat (by rw [List.length_map]; exact hml), ?_⟩
      rw [upd_upd, ← List.map_set]
      have g := getD_set p' m m (p'.getD (p'.getD m 0) 0) hml
      rw [if_pos rfl] at g
      have hml2 : m < (p'.set m (p'.getD (p'.getD m 0) 0)).length := by rw [List.length_set]; exact hml
      refine ⟨_, rfl, _, rfl, l, _, m, _, rfl, rfl, SqL.of upd_same, atI_nat (nV_getD hml2), ?_⟩
      rw [g]
      have h3 := pp'.le (p'.getD m 0) (by omega)
      refine ⟨p'.getD (p'.getD m 0) 0, by omega, _, rfl, rfl, halve_par pp' hm, fun i hi => (halve_root pp' hm i hi).trans (rs i hi), by omega, ?_⟩
      rw [← rs _ (by omega), root_step pp' (by omega), root_step pp' hm, rs m hm, er]
end
end JW
set_option Elab.async false
set_option linter.all false
set_option maxRecDepth 100000
set_option maxHeartbeats 4000000
namespace JW
open PySem PySem.Spec PyProof.Rows L2 RK Mt
abbrev sRootsOf : Stmt := topS 16
theorem scRootsOf : FnScope ["many", "pairs", "parent", "a", "b", "one", "other", "place"] ["many", "pairs"] (defScope sRootsOf) := ⟨rfl, rfl, rfl, by decide +kernel, rfl, by decide +kernel, by decide +kernel⟩
theorem rgV_nat (n : Nat) : rgV 0 (n : Int) = (List.range n).map nV := by
  unfold rgV
  rw [show ((n : Int) - 0).toNat = n by omega]
  refine List.map_congr_left fun i _ => ?_
  exact congrArg V.int (by omega)
theorem rg_ok {n : Nat} (h : n ≤ 5000) : RgOk 0 (n : Int) := by
  unfold RgOk
  have := sz h
  omega
theorem min_nV (a b : Nat) : (V.int (if (b : Int) < (a : Int) then (b : Int) else (a : Int))) = nV (min a b) := by
  by_cases h : b < a
  · rw [if_pos (by omega), Nat.min_eq_right (by omega)]
    rfl
  · rw [if_neg (by omega), Nat.min_eq_left (by omega)]
    rfl
theorem max_nV (a b : Nat) : (V.int (if (b : Int) > (a : Int) then (b : Int) else (a : Int))) = nV (max a b) := by
  by_cases h : b > a
  · rw [if_pos (by omega), Nat.max_eq_right (by omega)]
    rfl
  · rw [if_neg (by omega), Nat.max_eq_left (by omega)]
    rfl
def spRootsOf : Sp := fun vs H Q _ => ∃ (l : Addr) (n : Nat) (ps : List (Nat × Nat)), vs = [nV n, .ref l] ∧ ListAt pairO H l ps ∧ (∀ x, x ∈ ps → x.1 < n ∧ x.2 < n) ∧ n ≤ 12 ∧
  ∀ (H' : Hp) (r : Addr) (ρ : Nat → Nat), Same H H' → H r = none → H' r = some (.lst (((List.range n).map ρ).map nV)) → (∀ u v, u < n → v < n → (ρ u = ρ v ↔ Conn ps u v)) → (∀ u, u < n → ρ u < n) → Q (.ref r) H'
section
variable {P : Program} {w : World} {K : PySem.W.Frag} {mg : Str → Option Value} {base : Heap} {f : Addr} {fd : FuncData}
theorem ok_rootsof (F : Fun K "roots_of" "roots_of" sRootsOf f fd) (T : Txt mg) (GR : Cl P w K mg base 1 "root_of" spRootOf) : FnOk P w K mg base CX0 2 f fd ["many", "pairs"] spRootsOf := by
  refine F.ok scRootsOf (fun vs H Q E h => ?_) (fun cdv A outer s H vs Q E hr h => ?_)
  · obtain ⟨l, n, ps, rfl, _⟩ := h
    rfl
  · obtain ⟨l, n, ps, rfl, ⟨as, hl, os⟩, hb, hn, q⟩ := h
    refine ⟨_, pss_cons (ps_set (i := 2) scRootsOf.nd rfl (.inr rfl) (pe_listRg rfl (by rfl) T.list (prg_1 (by rfl) T.range (pv 0))))
      (pss_cons (ps_for PassesOwn.never rfl (pi_list (pv 1)) (pg_tup rfl (pgs_cons (pg_name (i := 3) scRootsOf.nd rfl (.inl rfl)) (pgs_cons (pg_name (i := 4) scRootsOf.nd rfl (.inl rfl)) pgs_nil)))
        (pss_cons (ps_par (i := 5) (j := 6) (by rfl) scRootsOf.nd rfl rfl (by decide) rfl rfl (pa_cons (pe_cl GR hr (Nat.le_refl _) (by rfl) (pa_cons (pv 2) (pa_cons (pv 3) pa_nil)))
            (pa_cons (pe_cl GR hr (Nat.le_refl _) (by rfl) (pa_cons (pv 2) (pa_cons (pv 4) pa_nil))) pa_nil)) (by rfl))
          (pss_one (ps_asg (pe_callB (call_min2 rfl) (by rfl) T.min (by decide +kernel) (pa_cons (pv 5) (pa_cons (pv 6) pa_nil)))
            (pg_sub (pv 2) (pe_callB (call_max2 rfl) (by rfl) T.max (by decide +kernel) (pa_cons (pv 5) (pa_cons (pv 6) pa_nil))) set_list)))))
      (pss_one (ps_ret (pe_lc (own := [("place", 7)]) (g := gName 7) (tt := tYes) rfl scRootsOf.nd (pi_range1 (by rfl) T.range (pa_cons (pv 0) pa_nil))
        (blkOk_by (own := [("place", 7)]) (N := ["many", "pairs", "parent", "a", "b", "one", "other", "place"]) (sc := defScope sRootsOf) (by decide +kernel)) (fun _ _ _ _ _ => pg_name (i := 7) scRootsOf.nd rfl (.inl rfl)) (fun _ _ _ _ _ => pts_nil)
        (fun _ _ _ _ _ => pe_cl GR hr (Nat.le_refl _) (by rfl) (pa_cons (pv 2) (pa_cons (pv 7) pa_nil))))))), ?_⟩
    refine ⟨_, rfl, n, rfl, rg_ok (by omega), fun pa np => ?_⟩
    rw [rgV_nat]
    have s1 : Same H (upd H pa (.lst ((List.range n).map nV))) := same_upd np
    refine ⟨_, rfl, l, rfl, ⟨_, SqL.of (s1 _ _ hl)⟩, for_list (K := K) (a := l) (xs := as.map V.ref) (fun i σ H' => ∃ y3 y4 y5 y6 p, σ = [some (nV n), some (.ref l), some (.ref pa), y3, y4, y5, y6, none] ∧ Same H H' ∧ H' pa = some (.lst (p.map nV)) ∧ Joins n (ps.take i) p)
      ⟨none, none, none, none, List.range n, rfl, s1, upd_same, Joins.start n⟩ (fun i σ H' _ ⟨_, _, _, _, _, _, sm, _⟩ => SqL.of (sm _ _ hl)) ?_ ?_⟩
    · rintro i x σ H1 hx ⟨y3, y4, y5, y6, p, rfl, sm, hp, J⟩
      obtain ⟨a0, ha0, rfl⟩ := refs_get hx
      obtain ⟨⟨a, b⟩, hab, hto⟩ := os.get ha0
      have hm := hb _ (List.mem_of_getElem? hab)
      have ha : a < n := hm.1
      have hbb : b < n := hm.2
      refine ⟨a0, _, rfl, SqT.of (sm _ _ hto), rfl, nV a, _, rfl, nV b, [], rfl, rfl, ?_⟩
      refine ⟨_, rfl, _, rfl, pa, n, a, p, rfl, hp, J.par, ha, fun q1 pq1 rs1 => ⟨_, rfl, _, rfl, pa, n, b, q1, rfl, upd_same, pq1, hbb, fun q2 pq2 rs2 => ⟨_, _, rfl, ?_⟩⟩⟩
      rw [upd_upd, rs1 b hbb]
      have la := root_le p a
      have lb := root_le p b
      refine ⟨_, rfl, _, rfl, (root p a : Nat), (root p b : Nat), rfl, ?_⟩
      rw [min_nV]
      refine ⟨_, rfl, _, rfl, _, rfl, (root p a : Nat), (root p b : Nat), rfl, ?_⟩
      rw [max_nV]
      refine ⟨pa, _, _, max (root p a) (root p b), rfl, rfl, upd_same, ixN_nat (by rw [List.length_map, pq2.len]; omega), ?_⟩
      rw [upd_upd, ← List.map_set]
      have hd : ∀ x, x ∈ ps.take i → x.1 < n ∧ x.2 < n := fun x m => hb x (List.mem_of_mem_take m)
      have rs : ∀ j, j < n → root q2 j = root p j := fun j hj => (rs2 j hj).trans (rs1 j hj)
      have J2 := (J.same hd pq2 rs).more hd ha hbb
      rw [rs a ha, rs b hbb] at J2
      refine ⟨_, _, _, _, _, rfl, fun c o hc => ?_, upd_same, ?_⟩
      · have nc : c ≠ pa := ne_of_none hc np
        rw [upd_ne nc]
        exact sm _ _ hc
      · rw [List.take_add_one, hab]
        exact J2
    · rintro σ H1 ⟨y3, y4, y5, y6, p, rfl, sm, hp, J⟩
      have et : ps.take (as.map V.ref).length = ps := List.take_of_length_le (by rw [List.length_map, os.len]; exact Nat.le_refl _)
      rw [et] at J
      refine ⟨_, rfl, n, rfl, by omega, by omega, fun D nD => lc_range (lo := 0) (n := ((n : Nat) : Int).toNat) (fun i H' => ∃ p', Same H H' ∧ H' pa = some (.lst (p'.map nV)) ∧ Par n p' ∧ (∀ j, j < n → root p' j = root p j) ∧ H' D = some (.lst (((List.range i).map (root p)).map nV)))
        ⟨p, sm.trans (same_upd nD), same_upd nD _ _ hp, J.par, fun _ _ => rfl, upd_same⟩ (fun i H2 hi ⟨p', s2, hp', pp', rs, hD⟩ => ?_) (fun H2 ⟨p', s2, hp', pp', rs, hD⟩ => ?_)⟩
      · have hin : i < n := by rw [Int.toNat_natCast] at hi; exact hi
        have nDp : D ≠ pa := (ne_of_none hp nD).symm
        have e0 : (V.int ((0 : Int) + (i : Nat))) = nV i := congrArg V.int (by omega)
        refine yes_ rfl ⟨_, rfl, _, rfl, pa, n, i, p', congrArg (fun v => [V.ref pa, v]) e0, hp', pp', hin, fun q2 pq2 rs2 => ⟨_, (upd_ne nDp).trans hD, ?_, q2, fun c o hc => ?_, ?_, pq2, fun j hj => (rs2 j hj).trans (rs j hj), ?_⟩⟩
        · rw [List.length_map, List.length_map, List.length_range]
          exact sz (by omega)
        · have nc : c ≠ pa := ne_of_none hc np
          have nc2 : c ≠ D := ne_of_none (sm _ _ hc) nD
          rw [upd_ne nc2, upd_ne nc]
          exact s2 _ _ hc
        · rw [upd_ne nDp.symm, upd_same]
        · rw [upd_same, List.range_succ, List.map_append, List.map_append, rs i hin]
          rfl
      · rw [Int.toNat_natCast] at hD
        refine q H2 D (root p) s2 (sm.free nD) hD (fun u v hu hv => J.iff hu hv) (fun u hu => ?_)
        have := root_le p u
        omega
end
end JW
set_option Elab.async false
set_option linter.all false
set_option maxRecDepth 100000
set_option maxHeartbeats 4000000
namespace JW
open PySem PySem.Spec PyProof.Rows L2 RK Mt
abbrev sPairsOf : Stmt := topS 17
abbrev sPartsOf : Stmt := topS 18
abbrev sJoins : Stmt := topS 19
abbrev sAllTies : Stmt := topS 20
abbrev sNeedJoined : Stmt := topS 21
theorem scPairsOf : FnScope ["web", "lot", "index"] ["web", "lot"] (defScope sPairsOf) := ⟨rfl, rfl, rfl, by decide +kernel, rfl, by decide +kernel, by decide +kernel⟩
theorem scPartsOf : FnScope ["many", "pairs", "found", "place", "root"] ["many", "pairs"] (defScope sPartsOf) := ⟨rfl, rfl, rfl, by decide +kernel, rfl, by decide +kernel, by decide +kernel⟩
theorem scJoins : FnScope ["web", "lot"] ["web", "lot"] (defScope sJoins) := ⟨rfl, rfl, rfl, by decide +kernel, rfl, by decide +kernel, by decide +kernel⟩
theorem scAllTies : FnScope ["web"] ["web"] (defScope sAllTies) := ⟨rfl, rfl, rfl, by decide +kernel, rfl, by decide +kernel, by decide +kernel⟩
theorem scNeedJoined : FnScope ["web"] ["web"] (defScope sNeedJoined) := ⟨rfl, rfl, rfl, by decide +kernel, rfl, by decide +kernel, by decide +kernel⟩
/-- a tie's ends, its price, by its index -/
def edE (E : List Tie) (i : Nat) : Nat × Nat := ((E.getD i (0, 0, 0)).1, (E.getD i (0, 0, 0)).2.1)
def prE (E : List Tie) (i : Nat) : Int := (E.getD i (0, 0, 0)).2.2
theorem edE_at {E : List Tie} {i : Nat} {e : Tie} (h : E[i]? = some e) : edE E i = (e.1, e.2.1) := by
  unfold edE
  rw [List.getD_eq_getElem?_getD, h]
  rfl
theorem prE_at {E : List Tie} {i : Nat} {e : Tie} (h : E[i]? = some e) : prE E i = e.2.2 := by
  unfold prE
  rw [List.getD_eq_getElem?_getD, h]
  rfl
theorem ed_ok {n : Nat} {E : List Tie} (ok : WebOk n E) {i : Nat} (hi : i < E.length) : (edE E i).1 < n ∧ (edE E i).2 < n ∧ (edE E i).1 ≠ (edE E i).2 := by
  have h := List.getElem?_eq_getElem hi
  have t := ok.ties _ (List.mem_of_getElem? h)
  rw [edE_at h]
  have := t.lt
  have := t.bd
  exact ⟨by show E[i].1 < n; omega, by show E[i].2.1 < n; omega, by show E[i].1 ≠ E[i].2.1; omega⟩
theorem lot_ok {n : Nat} {E : List Tie} (ok : WebOk n E) {L : List Nat} (hL : ∀ x, x ∈ L → x < E.length) : ∀ q, q ∈ L.map (edE E) → q.1 < n ∧ q.2 < n := fun q m => by
  obtain ⟨x, hx, e⟩ := List.mem_map.mp m
  have := ed_ok ok (hL x hx)
  rw [← e]
  exact ⟨this.1, this.2.1⟩
def spPairsOf : Sp := fun vs H Q _ => ∃ (p t : Addr) (as : List Addr) (n : Nat) (E : List Tie) (a : Addr) (L : List Nat), vs = [.ref p, .ref a] ∧ WebAt H p t as n E ∧ H a = some (lotO L) ∧ (∀ x, x ∈ L → x < E.length) ∧ L.length ≤ 5000 ∧
  ∀ (H' : Hp) (l : Addr), Same H H' → H l = none → ListAt pairO H' l (L.map (edE E)) → Q (.ref l) H'
def spPartsOf : Sp := fun vs H Q _ => ∃ (l : Addr) (n : Nat) (ps : List (Nat × Nat)), vs = [nV n, .ref l] ∧ ListAt pairO H l ps ∧ (∀ x, x ∈ ps → x.1 < n ∧ x.2 < n) ∧ 1 ≤ n ∧ n ≤ 12 ∧
  ∀ (H' : Hp) (r : Addr) (xs : List V), Same H H' → H r = none → H' r = some (.lst xs) → (xs.length = 1 ↔ Joined n ps) → Q (.ref r) H'
def spJoins : Sp := fun vs H Q _ => ∃ (p t : Addr) (as : List Addr) (n : Nat) (E : List Tie) (a : Addr) (L : List Nat), vs = [.ref p, .ref a] ∧ WebAt H p t as n E ∧ WebOk n E ∧ H a = some (lotO L) ∧ (∀ x, x ∈ L → x < E.length) ∧ L.length ≤ 5000 ∧
  ∀ (H' : Hp) (b : Bool), Same H H' → (b = true ↔ Joined n (L.map (edE E))) → Q (.bl b) H'
def spAllTies : Sp := fun vs H Q _ => ∃ (p t : Addr) (as : List Addr) (n : Nat) (E : List Tie), vs = [.ref p] ∧ WebAt H p t as n E ∧ WebOk n E ∧ ∀ a, H a = none → Q (.ref a) (upd H a (lotO (List.range E.length)))
def spNeedJoined : Sp := fun vs H Q _ => ∃ (p t : Addr) (as : List Addr) (n : Nat) (E : List Tie), vs = [.ref p] ∧ WebAt H p t as n E ∧ WebOk n E ∧ Joined n ((List.range E.length).map (edE E)) ∧ ∀ H', Same H H' → Q .non H'
section
variable {P : Program} {w : World} {K : PySem.W.Frag} {mg : Str → Option Value} {base : Heap} {f : Addr} {fd : FuncData}
theorem ok_pairsof (F : Fun K "pairs_of" "pairs_of" sPairsOf f fd) : FnOk P w K mg base CX0 1 f fd ["web", "lot"] spPairsOf := by
  refine F.ok scPairsOf (fun vs H Q E h => ?_) (fun cdv A outer s H vs Q E hr h => ?_)
  · obtain ⟨p, t, as, n, E, a, L, rfl, _⟩ := h
    rfl
  · obtain ⟨p, t, as, n, E, a, L, rfl, W, ha, hL, hl, q⟩ := h
    refine ⟨_, pss_one (ps_ret (pe_lc (own := [("index", 2)]) (g := gName 2) (tt := tYes) rfl scPairsOf.nd (pi_tup (pv 1))
      (blkOk_by (own := [("index", 2)]) (N := ["web", "lot", "index"]) (sc := defScope sPairsOf) (by decide +kernel)) (fun _ _ _ _ _ => pg_name (i := 2) scPairsOf.nd rfl (.inl rfl)) (fun _ _ _ _ _ => pts_nil)
      (fun _ _ _ _ _ => pe_slice (r := rSlT K) sl_tup (pe_ix (r := rIxT K) ix_tup (pe_ix (r := rIxT K) ix_tup (pv 0) pe_int (fun _ _ => rfl)) (pv 2) (fun _ _ => rfl)) po_none (po_some pe_int)))), ?_⟩
    refine ⟨_, rfl, a, rfl, ⟨_, SqT.of ha⟩, fun D nD => lc_tup (K := K) (a := a) (xs := L.map nV) (fun i H' => Same H H' ∧ ListAt pairO H' D ((L.take i).map (edE E)))
      ⟨same_upd nD, [], upd_same, Objs.nil⟩ (fun i H' _ ⟨sm, _⟩ => SqT.of (sm _ _ ha)) (fun i x H3 hx ⟨sm, as', hD, os'⟩ => ?_) (fun H3 ⟨sm, hD⟩ => ?_)⟩
    · obtain ⟨j, hj, rfl⟩ := nV_get hx
      have W3 := W.same sm
      have hjE := hL j (List.mem_of_getElem? hj)
      obtain ⟨b, hb, hbe⟩ := W3.2.2.at_ j _ (List.getElem?_eq_getElem hjE)
      refine yes_ rfl ⟨_, rfl, p, _, 1, .ref t, rfl, rfl, SqT.of W3.1, atI_nat (j := 1) rfl, _, rfl, t, _, j, .ref b, rfl, rfl, SqT.of W3.2.1, atI_nat (refs_at hb), 2, rfl, b, _, rfl, SqT.of hbe, cut2_not, fun p1 n1 => ?_⟩
      have nD1 : D ≠ p1 := ne_of_none hD n1
      have hlen : (as'.map V.ref).length = min i L.length := by rw [List.length_map, os'.len, List.length_map, List.length_take]
      refine ⟨_, (upd_ne nD1).trans hD, by rw [hlen]; exact sz (by omega), fun c o hc => ?_, as' ++ [p1], ?_, ?_⟩
      · have nc : c ≠ D := ne_of_none hc nD
        rw [upd_ne nc]
        exact same_upd n1 _ _ (sm _ _ hc)
      · rw [upd_same, List.map_append]
        rfl
      · have e1 : (L.take (i + 1)).map (edE E) = (L.take i).map (edE E) ++ [(E[j].1, E[j].2.1)] := by
          rw [List.take_add_one, hj, List.map_append]
          show _ ++ [edE E j] = _
          rw [edE_at (List.getElem?_eq_getElem hjE)]
        rw [e1]
        refine Objs.snoc ⟨os'.len, fun k y hy => ?_⟩ ?_
        · obtain ⟨c, h1, h2⟩ := os'.at_ k y hy
          refine ⟨c, h1, ?_⟩
          have nc : c ≠ D := ne_of h2 hD (by intro z; cases z)
          rw [upd_ne nc]
          exact same_upd n1 _ _ h2
        · rw [upd_ne nD1.symm, upd_same]
          rfl
    · have e1 : L.take (L.map nV).length = L := List.take_of_length_le (by rw [List.length_map]; exact Nat.le_refl _)
      rw [e1] at hD
      exact q _ _ sm nD hD
theorem ok_allties (F : Fun K "all_ties" "all_ties" sAllTies f fd) (T : Txt mg) : FnOk P w K mg base CX0 1 f fd ["web"] spAllTies := by
  refine F.ok scAllTies (fun vs H Q E h => ?_) (fun cdv A outer s H vs Q E hr h => ?_)
  · obtain ⟨p, t, as, n, E, rfl, _⟩ := h
    rfl
  · obtain ⟨p, t, as, n, E, rfl, W, ok, q⟩ := h
    refine ⟨_, pss_one (ps_ret (pe_tupRg rfl (by rfl) T.tuple (prg_1 (by rfl) T.range (pe_callB call_len_seq (by rfl) T.len PySem.boot_len (pa_cons (pe_ix ix_tup (pv 0) pe_int (fun _ _ => rfl)) pa_nil))))), ?_⟩
    have e : (as.map V.ref).length = E.length := by rw [List.length_map, W.2.2.len]
    have := ok.few
    refine ⟨_, rfl, p, _, 1, .ref t, rfl, rfl, SqT.of W.1, atI_nat (j := 1) rfl, t, _, rfl, .inr (SqT.of W.2.1), _, rfl, ?_⟩
    rw [e]
    refine ⟨rg_ok (by omega), fun a na => ?_⟩
    rw [rgV_nat]
    exact q a na
theorem ok_joins (F : Fun K "joins" "joins" sJoins f fd) (T : Txt mg) (GP : Cl P w K mg base 1 "pairs_of" spPairsOf) (GA : Cl P w K mg base 3 "parts_of" spPartsOf) : FnOk P w K mg base CX0 4 f fd ["web", "lot"] spJoins := by
  refine F.ok scJoins (fun vs H Q E h => ?_) (fun cdv A outer s H vs Q E hr h => ?_)
  · obtain ⟨p, t, as, n, E, a, L, rfl, _⟩ := h
    rfl
  · obtain ⟨p, t, as, n, E, a, L, rfl, W, ok, ha, hL, hl, q⟩ := h
    refine ⟨_, pss_one (ps_ret (pe_cmpR op_eq (pe_callB call_len_seq (by rfl) T.len PySem.boot_len (pa_cons (pe_cl GA hr (Nat.le_refl _) (by rfl) (pa_cons (pe_ix ix_tup (pv 0) pe_int (fun _ _ => rfl))
      (pa_cons (pe_cl GP hr (by decide) (by rfl) (pa_cons (pv 0) (pa_cons (pv 1) pa_nil))) pa_nil))) pa_nil)) pe_int (nomark _))), ?_⟩
    refine ⟨_, rfl, p, _, 0, nV n, rfl, rfl, SqT.of W.1, atI_nat (j := 0) rfl, _, rfl, _, rfl, p, t, as, n, E, a, L, rfl, W, ha, hL, hl, fun H1 l s1 nl hP => ?_⟩
    refine ⟨l, n, _, rfl, hP, lot_ok ok hL, ok.lo, ok.hi, fun H2 r xs s2 nr hx iff => ⟨r, xs, rfl, .inl (SqL.of hx), rfl, ?_⟩⟩
    refine q H2 _ (s1.trans s2) ?_
    rw [decide_eq_true_eq, ← iff]
    constructor
    · intro h
      have := V.int.inj h
      omega
    · intro h
      rw [h]
      rfl
theorem ok_needjoined (F : Fun K "need_joined" "need_joined" sNeedJoined f fd) (GJ : Cl P w K mg base 4 "joins" spJoins) (GA : Cl P w K mg base 1 "all_ties" spAllTies) : FnOk P w K mg base CX0 5 f fd ["web"] spNeedJoined := by
  refine F.ok scNeedJoined (fun vs H Q E h => ?_) (fun cdv A outer s H vs Q E hr h => ?_)
  · obtain ⟨p, t, as, n, E, rfl, _⟩ := h
    rfl
  · obtain ⟨p, t, as, n, E, rfl, W, ok, J, q⟩ := h
    refine ⟨_, pss_one (ps_if (pt_not (pt_val (pe_cl GJ hr (Nat.le_refl _) (by rfl) (pa_cons (pv 0) (pa_cons (pe_cl GA hr (by decide) (by rfl) (pa_cons (pv 0) pa_nil)) pa_nil))))) (pss_one ps_never) pss_nil), ?_⟩
    refine ⟨_, rfl, _, rfl, p, t, as, n, E, rfl, W, ok, fun a na => ?_⟩
    have s1 : Same H (upd H a (lotO (List.range E.length))) := same_upd na
    refine ⟨p, t, as, n, E, a, _, rfl, W.same s1, ok, upd_same, fun x m => List.mem_range.mp m, by rw [List.length_range]; have := ok.few; omega, fun H2 b s2 iff => ⟨b, rfl, ?_⟩⟩
    rw [iff.mpr J]
    exact iteF (q _ (s1.trans s2))
end
end JW
set_option Elab.async false
set_option linter.all false
set_option maxRecDepth 100000
set_option maxHeartbeats 4000000
namespace JW
open PySem PySem.Spec PyProof.Rows L2 RK Mt
def rTupOf (K : PySem.W.Frag) : List V → Hp → VK → Prop := fun xs H Q => ∃ p ys, xs = [.ref p] ∧ ((SqL K H p ys ∧ ∀ l, H l = none → Q (.ref l) (upd H l (.tup ys))) ∨ (SqT K H p ys ∧ Q (.ref p) H))
theorem cr_tupOf {X : Cx} : CallR X (.type "tuple") (rTupOf X.K) := call_tuple_of
/-- a dict of lists: its keys ks, its values lists at addresses that H0 has not -/
structure DL (H0 H : Hp) (d r : Addr) (kvs : List (Key × V)) (ks : List Int) (i : Nat) : Prop where
  at_ : H d = some (.dK kvs)
  keys : kvs.map (·.1) = ks.map Sum.inl
  nd : ks.Nodup
  few : ks.length ≤ i
  vals : ∀ k v, valV kvs k = some v → ∃ la xs, v = .ref la ∧ H la = some (.lst xs) ∧ xs.length ≤ i ∧ H0 la = none ∧ la ≠ r
theorem inl_mem {ks : List Int} {k : Int} : ((Sum.inl k : Key) ∈ ks.map Sum.inl) ↔ k ∈ ks := by
  rw [List.mem_map]
  constructor
  · rintro ⟨j, hj, e⟩
    cases e
    exact hj
  · intro h
    exact ⟨k, h, rfl⟩
section
variable {P : Program} {w : World} {K : PySem.W.Frag} {mg : Str → Option Value} {base : Heap} {f : Addr} {fd : FuncData}
theorem ok_partsof (F : Fun K "parts_of" "parts_of" sPartsOf f fd) (T : Txt mg) (GR : Cl P w K mg base 2 "roots_of" spRootsOf) : FnOk P w K mg base CX0 3 f fd ["many", "pairs"] spPartsOf := by
  refine F.ok scPartsOf (fun vs H Q E h => ?_) (fun cdv A outer s H vs Q E hr h => ?_)
  · obtain ⟨l, n, ps, rfl, _⟩ := h
    rfl
  · obtain ⟨l, n, ps, rfl, hP, hb, n1, n12, q⟩ := h
    refine ⟨_, pss_cons (ps_set (i := 2) scPartsOf.nd rfl (.inr rfl) pe_dnewK)
      (pss_cons (ps_for PassesOwn.never rfl (pi_enum (by rfl) T.enum (pa_cons (pe_cl GR hr (Nat.le_refl _) (by rfl) (pa_cons (pv 0) (pa_cons (pv 1) pa_nil))) pa_nil))
        (pg_tup rfl (pgs_cons (pg_name (i := 3) scPartsOf.nd rfl (.inl rfl)) (pgs_cons (pg_name (i := 4) scPartsOf.nd rfl (.inl rfl)) pgs_nil)))
        (pss_one (ps_expr (pe_bm PySem.F.plainAttrs_list PySem.F.slot_list_append PySem.F.type_list_append mt_append (pe_dsetd (pv 2) (pv 4) (pe_lst pa_nil) ⟨rfl, rfl, rfl, rfl⟩) (pa_cons (pv 3) pa_nil)))))
      (pss_one (ps_ret (pe_lc (own := [("root", 4)]) (g := gName 4) (tt := tYes) rfl scPartsOf.nd (pi_list (pe_callB (call_sortedDI rfl) (by rfl) T.sorted (by decide +kernel) (pa_cons (pv 2) pa_nil)))
        (blkOk_by (own := [("root", 4)]) (N := ["many", "pairs", "found", "place", "root"]) (sc := defScope sPartsOf) (by decide +kernel)) (fun _ _ _ _ _ => pg_name (i := 4) scPartsOf.nd rfl (.inl rfl)) (fun _ _ _ _ _ => pts_nil)
        (fun _ _ _ _ _ => pe_callTy (r := rTupOf K) cr_tupOf (by rfl) T.tuple (by decide +kernel) (pa_cons (pe_dget (hu_of hr) (pv 2) (pv 4) (fun _ _ => rfl)) pa_nil)))))), ?_⟩
    intro d nd
    have s1 : Same H (upd H d (.dK [])) := same_upd nd
    refine ⟨_, rfl, _, rfl, l, n, ps, rfl, hP.same s1, hb, n12, fun H2 r ρ s2 nr hR iff bd => ?_⟩
    have s12 := s1.trans s2
    have nrd : d ≠ r := ne_of_none (upd_same (H := H)) nr
    have hnr : H r = none := s1.free nr
    refine ⟨r, _, rfl, SqL.of hR, for_it walk_enum (fun i σ H' => ∃ y3 y4 kvs ks, σ = [some (nV n), some (.ref l), some (.ref d), y3, y4] ∧ Same H H' ∧ H' r = some (.lst (((List.range n).map ρ).map nV)) ∧ DL H H' d r kvs ks i ∧ ∀ k, k ∈ ks ↔ ∃ j, j < i ∧ (ρ j : Int) = k)
      ⟨none, none, [], [], rfl, s12, hR, ⟨s2 _ _ upd_same, rfl, List.nodup_nil, Nat.le_refl _, fun k v hv => by cases (show none = some v from hv)⟩, fun k => ⟨fun m => absurd m (by simp), fun ⟨j, hj, _⟩ => absurd hj (Nat.not_lt_zero _)⟩⟩
      (fun i σ H' _ ⟨_, _, _, _, _, _, hr', _⟩ => SqL.of hr') ?_ ?_⟩
    · rintro i v σ H3 H4 hi ⟨y3, y4, kvs, ks, rfl, sm, hr3, D, mem⟩ ⟨T0, x, y, rfl, nT, rfl, hx, hy⟩
      cases hx
      have hin : i < n := by simpa using hi
      have ey : y = nV (ρ i) := by
        have hy' : (((List.range n).map ρ).map nV)[i]? = some y := hy
        rw [List.getElem?_map, List.getElem?_map, List.getElem?_range hin] at hy'
        exact (Option.some.inj hy').symm
      subst ey
      have sT : Same H3 (upd H3 T0 (.tup [.int (i : Nat), nV (ρ i)])) := same_upd nT
      refine ⟨T0, _, rfl, SqT.of upd_same, rfl, .int (i : Nat), _, rfl, nV (ρ i), [], rfl, rfl, ?_⟩
      have dT := sT _ _ D.at_
      have kl : kvs.length ≤ i := by
        have e := congrArg List.length D.keys
        rw [List.length_map, List.length_map] at e
        rw [e]
        exact D.few
      refine ⟨_, rfl, d, rfl, .inl ⟨kvs, .inl dT⟩, _, rfl, Nat.zero_le _, fun la nla => ?_⟩
      have sL : Same (upd H3 T0 (.tup [.int (i : Nat), nV (ρ i)])) (upd (upd H3 T0 (.tup [.int (i : Nat), nV (ρ i)])) la (.lst [])) := same_upd nla
      have s3 := sT.trans sL
      refine ⟨kvs, .inl (ρ i : Int), sL _ _ dT, rfl, sz (by omega), fun v hv => ?_, fun hn => ?_⟩
      · obtain ⟨lb, xs, rfl, hlb, hxl, hnb, nlr⟩ := D.vals _ _ hv
        have hb3 := s3 _ _ hlb
        refine ⟨.inl ⟨rfl, _, .inl (.inl hb3)⟩, _, rfl, lb, xs, _, rfl, rfl, hb3, sz (by omega), ?_⟩
        have ndl : d ≠ lb := ne_of (s3 _ _ D.at_) hb3 (by intro z; cases z)
        refine ⟨_, _, kvs, ks, rfl, fun c o hc => ?_, ?_, ⟨?_, D.keys, D.nd, by have := D.few; omega, fun k v hk => ?_⟩, fun k => ?_⟩
        · have nc : c ≠ lb := ne_of_none hc hnb
          rw [upd_ne nc]
          exact s3 _ _ (sm _ _ hc)
        · rw [upd_ne nlr.symm]
          exact s3 _ _ hr3
        · rw [upd_ne ndl]
          exact s3 _ _ D.at_
        · obtain ⟨lc, zs, rfl, hlc, hzl, hnc, ncr⟩ := D.vals k v hk
          by_cases e : lc = lb
          · subst e
            refine ⟨lc, _, rfl, upd_same, ?_, hnc, ncr⟩
            rw [List.length_append, List.length_singleton]
            omega
          · exact ⟨lc, zs, rfl, (upd_ne e).trans (s3 _ _ hlc), by omega, hnc, ncr⟩
        · rw [mem]
          constructor
          · rintro ⟨j, hj, e⟩
            exact ⟨j, by omega, e⟩
          · rintro ⟨j, hj, e⟩
            by_cases q2 : j = i
            · subst q2
              have := valV_in hv
              rw [D.keys, inl_mem, mem] at this
              obtain ⟨j2, h1, h2⟩ := this
              exact ⟨j2, h1, h2.trans e⟩
            · exact ⟨j, by omega, e⟩
      · rw [putK_new _ hn]
        have nla3 : H3 la = none := sT.free nla
        have nlaH : H la = none := sm.free nla3
        have nlr : la ≠ r := (ne_of_none hr3 nla3).symm
        have nld : la ≠ d := (ne_of_none (sT _ _ D.at_) nla).symm
        have hlaz : (upd (upd (upd H3 T0 (.tup [.int (i : Nat), nV (ρ i)])) la (.lst [])) d (.dK (kvs ++ [(Sum.inl (ρ i : Int), V.ref la)]))) la = some (.lst []) := by
          rw [upd_ne nld, upd_same]
        refine ⟨.inl ⟨rfl, _, .inl (.inl hlaz)⟩, _, rfl, la, [], _, rfl, rfl, hlaz, by decide, ?_⟩
        have nks : (ρ i : Int) ∉ ks := fun m => valV_not hn (by rw [D.keys, inl_mem]; exact m)
        have hdn : H d = none := nd
        refine ⟨_, _, kvs ++ [(Sum.inl (ρ i : Int), V.ref la)], ks ++ [(ρ i : Int)], rfl, fun c o hc => ?_, ?_, ⟨?_, ?_, nd_snoc D.nd nks, ?_, fun k v hk => ?_⟩, fun k => ?_⟩
        · have nc : c ≠ la := ne_of_none hc nlaH
          have nc2 : c ≠ d := ne_of_none hc hdn
          rw [upd_ne nc, upd_ne nc2, upd_ne nc]
          exact sT _ _ (sm _ _ hc)
        · rw [upd_ne nlr.symm, upd_ne nrd.symm, upd_ne nlr.symm]
          exact sT _ _ hr3
        · rw [upd_ne nld.symm, upd_same]
        · rw [List.map_append, List.map_append, D.keys]
          rfl
        · rw [List.length_append, List.length_singleton]
          have := D.few
          omega
        · rw [valV_snoc _ _ _ _ hn] at hk
          by_cases e : k = Sum.inl (ρ i : Int)
          · rw [if_pos e] at hk
            cases hk
            exact ⟨la, _, rfl, upd_same, by simp, nlaH, nlr⟩
          · rw [if_neg e] at hk
            obtain ⟨lc, zs, rfl, hlc, hzl, hnc, ncr⟩ := D.vals k v hk
            have n1 : lc ≠ la := ne_of_none hlc nla3
            have n2 : lc ≠ d := ne_of hlc D.at_ (by intro z; cases z)
            exact ⟨lc, zs, rfl, by rw [upd_ne n1, upd_ne n2, upd_ne n1]; exact sT _ _ hlc, by omega, hnc, ncr⟩
        · rw [List.mem_append, mem, List.mem_singleton]
          constructor
          · rintro (⟨j, hj, e⟩ | e)
            · exact ⟨j, by omega, e⟩
            · exact ⟨i, by omega, e.symm⟩
          · rintro ⟨j, hj, e⟩
            by_cases q2 : j = i
            · subst q2
              exact .inr e.symm
            · exact .inl ⟨j, by omega, e⟩
    · rintro σ H3 ⟨y3, y4, kvs, ks, rfl, sm, hr3, D, mem⟩
      have hn0 : (((List.range n).map ρ).map nV).length = n := by simp
      rw [hn0] at D mem
      refine ⟨_, rfl, d, kvs, ks, rfl, .inl D.at_, D.keys, by have := D.few; omega, fun ys S pm asc nS => ?_⟩
      have sS : Same H3 (upd H3 S (.lst (ys.map V.int))) := same_upd nS
      refine ⟨S, rfl, ⟨_, SqL.of upd_same⟩, fun D0 nD0 => lc_list (K := K) (a := S) (xs := ys.map V.int) (fun i H' => Same (upd H3 S (.lst (ys.map V.int))) H' ∧ ∃ acc, H' D0 = some (.lst acc) ∧ acc.length = i)
        ⟨same_upd nD0, [], upd_same, rfl⟩ (fun i H' _ ⟨s4, _⟩ => SqL.of (s4 _ _ upd_same)) (fun i x H4 hx ⟨s4, acc, hacc, hal⟩ => ?_) (fun H4 ⟨s4, acc, hacc, hal⟩ => ?_)⟩
      · rw [List.getElem?_map] at hx
        obtain ⟨k, hk, rfl⟩ := Option.map_eq_some_iff.mp hx
        have hks : k ∈ ks := pm.mem_iff.mp (List.mem_of_getElem? hk)
        have hil : i < ys.length := (List.getElem?_eq_some_iff.mp hk).1
        have s34 := sS.trans s4
        obtain ⟨v, hv⟩ : ∃ v, valV kvs (.inl k) = some v := by
          cases e : valV kvs (.inl k) with
          | some v => exact ⟨v, rfl⟩
          | none => exact absurd (by rw [D.keys, inl_mem]; exact hks) (valV_not e)
        obtain ⟨lc, zs, rfl, hlc, hzl, hnc, ncr⟩ := D.vals _ v hv
        have dg : DGet H4 d (.int k) (some (.ref lc)) := by
          have := DGet.k (k := Sum.inl k) (s34 _ _ D.at_)
          rw [hv] at this
          exact this
        refine yes_ rfl ⟨_, rfl, _, rfl, d, _, rfl, dg, lc, zs, rfl, .inl ⟨SqL.of (s34 _ _ hlc), fun t nt => ?_⟩⟩
        have nt0 : D0 ≠ t := ne_of_none hacc nt
        refine ⟨acc, (upd_ne nt0).trans hacc, by rw [hal]; have := pm.length_eq; have := D.few; exact sz (by omega), fun c o hc => ?_, _, upd_same, ?_⟩
        · have nc : c ≠ D0 := ne_of_none hc nD0
          rw [upd_ne nc]
          exact same_upd nt _ _ (s4 _ _ hc)
        · rw [List.length_append, hal]
          rfl
      · rw [List.length_map] at hal
        refine q H4 D0 acc (sm.trans (sS.trans s4)) (sm.free (sS.free nD0)) hacc ?_
        rw [hal, pm.length_eq]
        have h0 : (ρ 0 : Int) ∈ (List.range n).map fun j => (ρ j : Int) := List.mem_map.mpr ⟨0, List.mem_range.mpr n1, rfl⟩
        rw [one_iff (ls := (List.range n).map fun j => (ρ j : Int)) D.nd (fun k => ?_) h0]
        · constructor
          · intro h x hx
            have := h _ (List.mem_map.mpr ⟨x, List.mem_range.mpr hx, rfl⟩)
            exact (iff 0 x n1 hx).mp (by omega)
          · intro J k hk
            obtain ⟨x, hx, rfl⟩ := List.mem_map.mp hk
            have := (iff 0 x n1 (List.mem_range.mp hx)).mpr (J x (List.mem_range.mp hx))
            show (ρ x : Int) = ρ 0
            omega
        · rw [mem, List.mem_map]
          constructor
          · rintro ⟨j, hj, e⟩
            exact ⟨j, List.mem_range.mpr hj, e⟩
          · rintro ⟨j, hj, e⟩
            exact ⟨j, List.mem_range.mp hj, e⟩
end
end JW
set_option Elab.async false
set_option linter.all false
set_option maxRecDepth 100000
set_option maxHeartbeats 4000000
namespace JW
open PySem PySem.Spec PyProof.Rows L2 RK Mt
abbrev sCheaper : Stmt := topS 23
abbrev sOthers : Stmt := topS 24
abbrev sIsApart : Stmt := topS 25
theorem scCheaper : FnScope ["web", "index", "tie"] ["web", "index"] (defScope sCheaper) := ⟨rfl, rfl, rfl, by decide +kernel, rfl, by decide +kernel, by decide +kernel⟩
theorem scOthers : FnScope ["web", "index", "place", "tie"] ["web", "index"] (defScope sOthers) := ⟨rfl, rfl, rfl, by decide +kernel, rfl, by decide +kernel, by decide +kernel⟩
theorem scIsApart : FnScope ["web", "index", "pairs", "roots", "a", "b"] ["web", "index", "pairs"] (defScope sIsApart) := ⟨rfl, rfl, rfl, by decide +kernel, rfl, by decide +kernel, by decide +kernel⟩
/-- the pairs of the other ties of at most this price -/
abbrev RLE (E : List Tie) (i : Nat) (t : Int) : List (Nat × Nat) := RL E.length (edE E) (prE E) i t
def spCheaper : Sp := fun vs H Q _ => ∃ (p t : Addr) (as : List Addr) (n : Nat) (E : List Tie) (i : Nat), vs = [.ref p, nV i] ∧ WebAt H p t as n E ∧ i < E.length ∧ E.length ≤ 30 ∧
  ∀ (H' : Hp) (l : Addr), Same H H' → H l = none → ListAt pairO H' l (RLE E i (prE E i - 1)) → Q (.ref l) H'
def spOthers : Sp := fun vs H Q _ => ∃ (p t : Addr) (as : List Addr) (n : Nat) (E : List Tie) (i : Nat), vs = [.ref p, nV i] ∧ WebAt H p t as n E ∧ i < E.length ∧ E.length ≤ 30 ∧
  ∀ (H' : Hp) (l : Addr), Same H H' → H l = none → ListAt pairO H' l (RLE E i (prE E i)) → Q (.ref l) H'
def spIsApart : Sp := fun vs H Q _ => ∃ (p t : Addr) (as : List Addr) (n : Nat) (E : List Tie) (i : Nat) (l : Addr) (ps : List (Nat × Nat)), vs = [.ref p, nV i, .ref l] ∧ WebAt H p t as n E ∧ WebOk n E ∧ i < E.length ∧ ListAt pairO H l ps ∧
  (∀ x, x ∈ ps → x.1 < n ∧ x.2 < n) ∧ ∀ (H' : Hp) (b : Bool), Same H H' → (b = true ↔ ¬ Conn ps (edE E i).1 (edE E i).2) → Q (.bl b) H'
/-- one more in a filtered list of the first numbers -/
theorem filt_step {α : Type} (c : Nat → Bool) (g : Nat → α) (k : Nat) : ((List.range (k + 1)).filter c).map g = ((List.range k).filter c).map g ++ (if c k = true then [g k] else []) := by
  rw [List.range_succ, List.filter_append, List.map_append]
  congr 1
  by_cases h : c k = true
  · rw [if_pos h, List.filter_cons_of_pos h]
    rfl
  · rw [if_neg h, List.filter_cons_of_neg h]
    rfl
/-- a list of things in the making grows by a thing just laid -/
theorem list_grow {α : Type} {f : α → HO} (hf : ∀ x, ∃ xs, f x = .tup xs) {H0 H : Hp} {D p1 : Addr} {as : List Addr} {xs : List α} {x : α} (nD : H0 D = none) (hD : H D = some (.lst (as.map V.ref))) (os : Objs f H as xs) (n1 : H p1 = none) (sm : Same H0 H) :
    Same H0 (upd (upd H p1 (f x)) D (.lst (as.map V.ref ++ [.ref p1]))) ∧ ListAt f (upd (upd H p1 (f x)) D (.lst (as.map V.ref ++ [.ref p1]))) D (xs ++ [x]) := by
  have nD1 : D ≠ p1 := ne_of_none hD n1
  refine ⟨fun c o hc => ?_, as ++ [p1], ?_, ?_⟩
  · rw [upd_ne (ne_of_none hc nD)]
    exact same_upd n1 _ _ (sm _ _ hc)
  · rw [upd_same, List.map_append]
    rfl
  · refine Objs.snoc ⟨os.len, fun k y hy => ?_⟩ ?_
    · obtain ⟨c, h1, h2⟩ := os.at_ k y hy
      refine ⟨c, h1, ?_⟩
      have nc : c ≠ D := ne_of h2 hD (by obtain ⟨zs, e⟩ := hf y; rw [e]; intro z; cases z)
      rw [upd_ne nc]
      exact same_upd n1 _ _ h2
    · rw [upd_ne nD1.symm, upd_same]
theorem pair_tup : ∀ q : Nat × Nat, ∃ xs, pairO q = .tup xs := fun _ => ⟨_, rfl⟩
theorem RL_bd {n : Nat} {E : List Tie} (ok : WebOk n E) {i : Nat} {t : Int} : ∀ x, x ∈ RLE E i t → x.1 < n ∧ x.2 < n := fun x m => by
  obtain ⟨a, b⟩ := x
  obtain ⟨j, h1, _, _, h4⟩ := mem_RL.mp m
  have := ed_ok ok h1
  rw [h4] at this
  exact ⟨this.1, this.2.1⟩
section
variable {P : Program} {w : World} {K : PySem.W.Frag} {mg : Str → Option Value} {base : Heap} {f : Addr} {fd : FuncData}
theorem ok_cheaper (F : Fun K "cheaper" "cheaper" sCheaper f fd) : FnOk P w K mg base CX0 1 f fd ["web", "index"] spCheaper := by
  refine F.ok scCheaper (fun vs H Q E h => ?_) (fun cdv A outer s H vs Q E hr h => ?_)
  · obtain ⟨p, t, as, n, E, i, rfl, _⟩ := h
    rfl
  · obtain ⟨p, t, as, n, E, i, rfl, W, hi, few, q⟩ := h
    refine ⟨_, pss_one (ps_ret (pe_lc (own := [("tie", 2)]) (g := gName 2) rfl scCheaper.nd (pi_tup (pe_ix ix_tup (pv 0) pe_int (fun _ _ => rfl)))
      (blkOk_by (own := [("tie", 2)]) (N := ["web", "index", "tie"]) (sc := defScope sCheaper) (by decide +kernel)) (fun _ _ _ _ _ => pg_name (i := 2) scCheaper.nd rfl (.inl rfl))
      (fun _ _ _ _ _ => pts_one (pt_cmpR op_lt (pe_ix (r := rIxT K) ix_tup (pv 2) pe_int (fun _ _ => rfl)) (pe_ix (r := rIxT K) ix_tup (pe_ix (r := rIxT K) ix_tup (pe_ix (r := rIxT K) ix_tup (pv 0) pe_int (fun _ _ => rfl)) (pv 1) (fun _ _ => rfl)) pe_int (fun _ _ => rfl)) (nomark _)))
      (fun _ _ _ _ _ => pe_slice (r := rSlT K) sl_tup (pv 2) po_none (po_some pe_int)))), ?_⟩
    obtain ⟨bi, hbi, hei⟩ := W.2.2.at_ i _ (List.getElem?_eq_getElem hi)
    have pi := prE_at (List.getElem?_eq_getElem hi)
    refine ⟨_, rfl, p, _, 1, .ref t, rfl, rfl, SqT.of W.1, atI_nat (j := 1) rfl, t, rfl, ⟨_, SqT.of W.2.1⟩, fun D nD => lc_tup (K := K) (a := t) (xs := as.map V.ref)
      (fun k H' => Same H H' ∧ ListAt pairO H' D (((List.range k).filter fun j => decide (j ≠ i) && decide (prE E j ≤ prE E i - 1)).map (edE E)))
      ⟨same_upd nD, [], upd_same, Objs.nil⟩ (fun k H' _ ⟨sm, _⟩ => SqT.of (sm _ _ W.2.1)) (fun k x H3 hx ⟨sm, as', hD, os'⟩ => ?_) (fun H3 ⟨sm, hD⟩ => ?_)⟩
    · obtain ⟨b, hb, rfl⟩ := refs_get hx
      have W3 := W.same sm
      obtain ⟨e, he, hbe⟩ := W3.2.2.get hb
      have hk : k < E.length := (List.getElem?_eq_some_iff.mp he).1
      have pk := prE_at he
      have lenD : (as'.map V.ref).length < sizeLine := by
        rw [List.length_map, os'.len, List.length_map]
        have := List.length_filter_le (fun j => decide (j ≠ i) && decide (prE E j ≤ prE E i - 1)) (List.range k)
        rw [List.length_range] at this
        exact sz (by omega)
      refine ⟨rfl, _, rfl, b, _, 2, .int e.2.2, rfl, rfl, SqT.of hbe, atI_nat (j := 2) rfl, _, rfl, p, _, 1, .ref t, rfl, rfl, SqT.of W3.1, atI_nat (j := 1) rfl, _, rfl, t, _, i, .ref bi, rfl, rfl, SqT.of W3.2.1, atI_nat (refs_at hbi),
        bi, _, 2, .int E[i].2.2, rfl, rfl, SqT.of (sm _ _ hei), atI_nat (j := 2) rfl, _, _, rfl, rfl, _, rfl, ite2 (fun hc => ?_) (fun hc => ?_)⟩
      · have hlt : e.2.2 < E[i].2.2 := of_decide_eq_true hc
        refine ⟨_, rfl, 2, rfl, b, _, rfl, SqT.of hbe, cut2_not, fun p1 n1 => ⟨_, (upd_ne (ne_of_none hD n1)).trans hD, lenD, ?_⟩⟩
        rw [filt_step, if_pos (by
          rw [pk, pi]
          have : k ≠ i := fun z => by
            subst z
            rw [List.getElem?_eq_getElem hi] at he
            cases he
            omega
          simp [this]
          omega), edE_at he]
        exact list_grow (x := (e.1, e.2.1)) pair_tup nD hD os' n1 sm
      · have hlt : ¬ e.2.2 < E[i].2.2 := fun z => hc (decide_eq_true z)
        rw [filt_step, if_neg (by
          rw [pk, pi]
          simp
          intro _
          omega), List.append_nil]
        exact ⟨sm, as', hD, os'⟩
    · have e1 : (as.map V.ref).length = E.length := by rw [List.length_map, W.2.2.len]
      rw [e1] at hD
      exact q _ _ sm nD hD
theorem ok_others (F : Fun K "others" "others" sOthers f fd) (T : Txt mg) : FnOk P w K mg base CX0 1 f fd ["web", "index"] spOthers := by
  refine F.ok scOthers (fun vs H Q E h => ?_) (fun cdv A outer s H vs Q E hr h => ?_)
  · obtain ⟨p, t, as, n, E, i, rfl, _⟩ := h
    rfl
  · obtain ⟨p, t, as, n, E, i, rfl, W, hi, few, q⟩ := h
    refine ⟨_, pss_one (ps_ret (pe_lc (own := [("place", 2), ("tie", 3)]) (g := gTup K 2 (gCons (gName 2) (gCons (gName 3) gNil))) rfl scOthers.nd (pi_enumT (by rfl) T.enum (pa_cons (pe_ix ix_tup (pv 0) pe_int (fun _ _ => rfl)) pa_nil))
      (blkOk_by (own := [("place", 2), ("tie", 3)]) (N := ["web", "index", "place", "tie"]) (sc := defScope sOthers) (by decide +kernel))
      (fun _ _ _ _ _ => pg_tup rfl (pgs_cons (pg_name (i := 2) scOthers.nd rfl (.inl rfl)) (pgs_cons (pg_name (i := 3) scOthers.nd rfl (.inl rfl)) pgs_nil)))
      (fun _ _ _ _ _ => pts_one (PW.pt (pw_and (pt_cmpR op_ne (pv 2) (pv 1) (nomark _)) (pw_and1 (pt_cmpR op_le (pe_ix (r := rIxT K) ix_tup (pv 3) pe_int (fun _ _ => rfl)) (pe_ix (r := rIxT K) ix_tup (pe_ix (r := rIxT K) ix_tup (pe_ix (r := rIxT K) ix_tup (pv 0) pe_int (fun _ _ => rfl)) (pv 1) (fun _ _ => rfl)) pe_int (fun _ _ => rfl)) (nomark _))))))
      (fun _ _ _ _ _ => pe_slice (r := rSlT K) sl_tup (pv 3) po_none (po_some pe_int)))), ?_⟩
    obtain ⟨bi, hbi, hei⟩ := W.2.2.at_ i _ (List.getElem?_eq_getElem hi)
    have pi := prE_at (List.getElem?_eq_getElem hi)
    refine ⟨_, rfl, p, _, 1, .ref t, rfl, rfl, SqT.of W.1, atI_nat (j := 1) rfl, t, _, rfl, SqT.of W.2.1, fun D nD => lc_it walk_enumT
      (fun k H' => Same H H' ∧ ListAt pairO H' D (((List.range k).filter fun j => decide (j ≠ i) && decide (prE E j ≤ prE E i)).map (edE E)))
      ⟨same_upd nD, [], upd_same, Objs.nil⟩ (fun k H' _ ⟨sm, _⟩ => SqT.of (sm _ _ W.2.1)) ?_ (fun H3 ⟨sm, hD⟩ => ?_)⟩
    · rintro k v H3 H4 hkl ⟨sm, as', hD, os'⟩ ⟨T0, x, rfl, nT, rfl, hx⟩
      obtain ⟨b, hb, rfl⟩ := refs_get hx
      have sT : Same H3 (upd H3 T0 (.tup [.int (k : Nat), .ref b])) := same_upd nT
      have s4 := sm.trans sT
      have W3 := W.same s4
      obtain ⟨e, he, hbe⟩ := W3.2.2.get hb
      have hk : k < E.length := (List.getElem?_eq_some_iff.mp he).1
      have pk := prE_at he
      have hD4 := sT _ _ hD
      have os4 : Objs pairO (upd H3 T0 (.tup [.int (k : Nat), .ref b])) as' _ := os'.same sT
      have lenD : (as'.map V.ref).length < sizeLine := by
        rw [List.length_map, os'.len, List.length_map]
        have := List.length_filter_le (fun j => decide (j ≠ i) && decide (prE E j ≤ prE E i)) (List.range k)
        rw [List.length_range] at this
        exact sz (by omega)
      refine ⟨T0, _, rfl, SqT.of upd_same, rfl, .int (k : Nat), _, rfl, .ref b, [], rfl, rfl, rfl, ?_⟩
      refine ⟨_, rfl, _, rfl, rfl, _, rfl, ?_⟩
      show if (!decide (nV k = nV i)) = true then _ else _
      rw [nV_dec]
      by_cases hki : k = i
      · rw [decide_eq_true hki]
        refine iteF ?_
        show if false = true then _ else _
        refine iteF ?_
        rw [filt_step, if_neg (by simp [hki]), List.append_nil]
        exact ⟨s4, as', hD4, os4⟩
      · rw [decide_eq_false hki]
        refine iteT ⟨_, rfl, b, _, 2, .int e.2.2, rfl, rfl, SqT.of hbe, atI_nat (j := 2) rfl, _, rfl, p, _, 1, .ref t, rfl, rfl, SqT.of W3.1, atI_nat (j := 1) rfl, _, rfl, t, _, i, .ref bi, rfl, rfl, SqT.of W3.2.1, atI_nat (refs_at hbi),
          bi, _, 2, .int E[i].2.2, rfl, rfl, SqT.of (s4 _ _ hei), atI_nat (j := 2) rfl, _, _, rfl, rfl, _, rfl, ite2 (fun hc => ?_) (fun hc => ?_)⟩
        · have hlt : e.2.2 ≤ E[i].2.2 := of_decide_eq_true hc
          refine ⟨_, rfl, 2, rfl, b, _, rfl, SqT.of hbe, cut2_not, fun p1 n1 => ⟨_, (upd_ne (ne_of_none hD4 n1)).trans hD4, lenD, ?_⟩⟩
          rw [filt_step, if_pos (by rw [pk, pi]; simp [hki]; omega), edE_at he]
          exact list_grow (x := (e.1, e.2.1)) pair_tup nD hD4 os4 n1 s4
        · have hlt : ¬ e.2.2 ≤ E[i].2.2 := fun z => hc (decide_eq_true z)
          rw [filt_step, if_neg (by rw [pk, pi]; simp [hki]; omega), List.append_nil]
          exact ⟨s4, as', hD4, os4⟩
    · have e1 : (as.map V.ref).length = E.length := by rw [List.length_map, W.2.2.len]
      rw [e1] at hD
      exact q _ _ sm nD hD
theorem ok_isapart (F : Fun K "is_apart" "is_apart" sIsApart f fd) (GR : Cl P w K mg base 2 "roots_of" spRootsOf) : FnOk P w K mg base CX0 3 f fd ["web", "index", "pairs"] spIsApart := by
  refine F.ok scIsApart (fun vs H Q E h => ?_) (fun cdv A outer s H vs Q E hr h => ?_)
  · obtain ⟨p, t, as, n, E, i, l, ps, rfl, _⟩ := h
    rfl
  · obtain ⟨p, t, as, n, E, i, l, ps, rfl, W, ok, hi, hP, hb, q⟩ := h
    refine ⟨_, pss_cons (ps_set (i := 3) scIsApart.nd rfl (.inl rfl) (pe_cl GR hr (Nat.le_refl _) (by rfl) (pa_cons (pe_ix ix_tup (pv 0) pe_int (fun _ _ => rfl)) (pa_cons (pv 2) pa_nil))))
      (pss_cons (ps_asg (pe_slice sl_tup (pe_ix ix_tup (pe_ix ix_tup (pv 0) pe_int (fun _ _ => rfl)) (pv 1) (fun _ _ => rfl)) po_none (po_some pe_int)) (pg_tup rfl (pgs_cons (pg_name (i := 4) scIsApart.nd rfl (.inl rfl)) (pgs_cons (pg_name (i := 5) scIsApart.nd rfl (.inl rfl)) pgs_nil))))
      (pss_one (ps_ret (pe_cmpR op_ne (pe_ix ix_list (pv 3) (pv 4) (fun _ _ => rfl)) (pe_ix ix_list (pv 3) (pv 5) (fun _ _ => rfl)) (nomark _))))), ?_⟩
    refine ⟨_, rfl, p, _, 0, nV n, rfl, rfl, SqT.of W.1, atI_nat (j := 0) rfl, _, rfl, l, n, ps, rfl, hP, hb, ok.hi, fun H2 r ρ s2 nr hR iff bd => ?_⟩
    have W2 := W.same s2
    obtain ⟨bi, hbi, hei⟩ := W2.2.2.at_ i _ (List.getElem?_eq_getElem hi)
    have eo := ed_ok ok hi
    have ee := edE_at (List.getElem?_eq_getElem hi)
    rw [ee] at eo
    refine ⟨_, rfl, p, _, 1, .ref t, rfl, rfl, SqT.of W2.1, atI_nat (j := 1) rfl, _, rfl, t, _, i, .ref bi, rfl, rfl, SqT.of W2.2.1, atI_nat (refs_at hbi), 2, rfl, bi, _, rfl, SqT.of hei, cut2_not, fun p1 n1 => ?_⟩
    have hR3 := same_upd (o := .tup (cutV [nV E[i].1, nV E[i].2.1, .int E[i].2.2] none (some 2))) n1 _ _ hR
    refine ⟨p1, _, rfl, SqT.of upd_same, rfl, nV E[i].1, _, rfl, nV E[i].2.1, [], rfl, rfl, ?_⟩
    have at_ : ∀ {x : Nat}, x < n → (((List.range n).map ρ).map nV)[x]? = some (nV (ρ x)) := fun {x} h => by
      rw [List.getElem?_map, List.getElem?_map, List.getElem?_range h]
      rfl
    refine ⟨_, rfl, _, rfl, r, _, E[i].1, _, rfl, rfl, SqL.of hR3, atI_nat (at_ eo.1), _, rfl, _, rfl, r, _, E[i].2.1, _, rfl, rfl, SqL.of hR3, atI_nat (at_ eo.2.1), rfl, ?_⟩
    refine q _ _ (s2.trans (same_upd n1)) ?_
    rw [nV_dec, ee, ← iff _ _ eo.1 eo.2.1]
    simp
end
end JW
set_option Elab.async false
set_option linter.all false
set_option maxRecDepth 100000
set_option maxHeartbeats 4000000
namespace JW
open PySem PySem.Spec PyProof.Rows L2 RK Mt
abbrev sShares : Stmt := topS 26
theorem scShares : FnScope ["web", "sure", "free", "idle", "index"] ["web"] (defScope sShares) := ⟨rfl, rfl, rfl, by decide +kernel, rfl, by decide +kernel, by decide +kernel⟩
open Classical in
/-- 0: in all least trees, 1: in some, 2: in none -/
noncomputable def cls (E : List Tie) (i : Nat) : Nat :=
  if Conn (RLE E i (prE E i)) (edE E i).1 (edE E i).2 then (if Conn (RLE E i (prE E i - 1)) (edE E i).1 (edE E i).2 then 2 else 1) else 0
noncomputable def clsL (E : List Tie) (c m : Nat) : List Nat := (List.range m).filter fun i => decide (cls E i = c)
theorem clsL_step (E : List Tie) (c m : Nat) : clsL E c (m + 1) = if cls E m = c then clsL E c m ++ [m] else clsL E c m := by
  have h := filt_step (fun i => decide (cls E i = c)) id m
  rw [List.map_id, List.map_id] at h
  unfold clsL
  rw [h]
  by_cases e : cls E m = c
  · rw [if_pos (decide_eq_true e), if_pos e]
    rfl
  · rw [if_neg (by simp [e]), if_neg e, List.append_nil]
theorem clsL_len (E : List Tie) (c m : Nat) : (clsL E c m).length ≤ m := by
  have := List.length_filter_le (fun i => decide (cls E i = c)) (List.range m)
  rw [List.length_range] at this
  exact this
def spShares : Sp := fun vs H Q _ => ∃ (p t : Addr) (as : List Addr) (n : Nat) (E : List Tie), vs = [.ref p] ∧ WebAt H p t as n E ∧ WebOk n E ∧ Joined n ((List.range E.length).map (edE E)) ∧
  ∀ (H' : Hp) (r a b c : Addr), Same H H' → H' r = some (.tup [.ref a, .ref b, .ref c]) → H' a = some (lotO (clsL E 0 E.length)) → H' b = some (lotO (clsL E 1 E.length)) → H' c = some (lotO (clsL E 2 E.length)) → Q (.ref r) H'
section
variable {P : Program} {w : World} {K : PySem.W.Frag} {mg : Str → Option Value} {base : Heap} {f : Addr} {fd : FuncData}
theorem ok_shares (F : Fun K "shares" "shares" sShares f fd) (T : Txt mg) (GW : Cl P w K mg base 3 "need_web" spNeedWeb) (GJ : Cl P w K mg base 5 "need_joined" spNeedJoined) (GA : Cl P w K mg base 3 "is_apart" spIsApart)
    (GO : Cl P w K mg base 1 "others" spOthers) (GC : Cl P w K mg base 1 "cheaper" spCheaper) : FnOk P w K mg base CX0 6 f fd ["web"] spShares := by
  refine F.ok scShares (fun vs H Q E h => ?_) (fun cdv A outer s H vs Q E hr h => ?_)
  · obtain ⟨p, t, as, n, E, rfl, _⟩ := h
    rfl
  · obtain ⟨p, t, as, n, E, rfl, W, ok, J, q⟩ := h
    refine ⟨_, pss_cons (ps_expr (pe_cl GW hr (by decide) (by rfl) (pa_cons (pv 0) pa_nil)))
      (pss_cons (ps_expr (pe_cl GJ hr (by decide) (by rfl) (pa_cons (pv 0) pa_nil)))
      (pss_cons (ps_par3 (i := 1) (j := 2) (l := 3) (by rfl) scShares.nd rfl rfl rfl (by decide) (by decide) (by decide) rfl rfl rfl (pa_cons (pe_lst pa_nil) (pa_cons (pe_lst pa_nil) (pa_cons (pe_lst pa_nil) pa_nil))) (by rfl))
      (pss_cons (ps_for PassesOwn.never rfl (pi_range1 (by rfl) T.range (pa_cons (pe_callB call_len_seq (by rfl) T.len PySem.boot_len (pa_cons (pe_ix ix_tup (pv 0) pe_int (fun _ _ => rfl)) pa_nil)) pa_nil)) (pg_name (i := 4) scShares.nd rfl (.inl rfl))
        (pss_one (ps_if (pt_val (pe_cl GA hr (by decide) (by rfl) (pa_cons (pv 0) (pa_cons (pv 4) (pa_cons (pe_cl GO hr (by decide) (by rfl) (pa_cons (pv 0) (pa_cons (pv 4) pa_nil))) pa_nil)))))
          (pss_one (ps_expr (pe_bm PySem.F.plainAttrs_list PySem.F.slot_list_append PySem.F.type_list_append mt_append (pv 1) (pa_cons (pv 4) pa_nil))))
          (pss_one (ps_if (pt_val (pe_cl GA hr (by decide) (by rfl) (pa_cons (pv 0) (pa_cons (pv 4) (pa_cons (pe_cl GC hr (by decide) (by rfl) (pa_cons (pv 0) (pa_cons (pv 4) pa_nil))) pa_nil)))))
            (pss_one (ps_expr (pe_bm PySem.F.plainAttrs_list PySem.F.slot_list_append PySem.F.type_list_append mt_append (pv 2) (pa_cons (pv 4) pa_nil))))
            (pss_one (ps_expr (pe_bm PySem.F.plainAttrs_list PySem.F.slot_list_append PySem.F.type_list_append mt_append (pv 3) (pa_cons (pv 4) pa_nil)))))))))
      (pss_one (ps_ret (pe_tup (pa_cons (pe_callTy cr_tupOf (by rfl) T.tuple (by decide +kernel) (pa_cons (pv 1) pa_nil)) (pa_cons (pe_callTy cr_tupOf (by rfl) T.tuple (by decide +kernel) (pa_cons (pv 2) pa_nil))
        (pa_cons (pe_callTy cr_tupOf (by rfl) T.tuple (by decide +kernel) (pa_cons (pv 3) pa_nil)) pa_nil))))))))), ?_⟩
    refine ⟨_, rfl, p, t, as, n, E, rfl, W, ok, fun H1 s1 => ?_⟩
    have W1 := W.same s1
    refine ⟨_, rfl, p, t, as, n, E, rfl, W1, ok, J, fun H2 s2 => ?_⟩
    have s12 := s1.trans s2
    refine ⟨Nat.zero_le _, fun a na => ⟨Nat.zero_le _, fun b nb => ⟨Nat.zero_le _, fun c nc => ⟨_, _, _, rfl, ?_⟩⟩⟩⟩
    have nab : a ≠ b := ne_of_none upd_same nb
    have nac : a ≠ c := ne_of_none ((upd_ne nab).trans upd_same) nc
    have nbc : b ≠ c := ne_of_none upd_same nc
    have sa := same_upd (o := .lst []) na
    have sb := same_upd (o := .lst []) nb
    have sc := same_upd (o := .lst []) nc
    have ha0 : H a = none := s12.free na
    have hb0 : H b = none := s12.free (sa.free nb)
    have hc0 : H c = none := s12.free (sa.free (sb.free nc))
    have s3 := s12.trans (sa.trans (sb.trans sc))
    have W3 := W.same s3
    have few := ok.few
    have lenE : (as.map V.ref).length = E.length := by rw [List.length_map, W.2.2.len]
    refine ⟨_, rfl, p, _, 1, .ref t, rfl, rfl, SqT.of W3.1, atI_nat (j := 1) rfl, t, _, rfl, .inr (SqT.of W3.2.1), _, rfl, ?_⟩
    rw [lenE]
    refine ⟨by omega, by omega, for_range (lo := 0) (n := ((E.length : Nat) : Int).toNat) (fun i σ H' => ∃ y4, σ = [some (.ref p), some (.ref a), some (.ref b), some (.ref c), y4] ∧ Same H H' ∧ H' a = some (.lst ((clsL E 0 i).map nV)) ∧ H' b = some (.lst ((clsL E 1 i).map nV)) ∧ H' c = some (.lst ((clsL E 2 i).map nV)))
      ⟨none, rfl, s3, (upd_ne nac).trans ((upd_ne nab).trans upd_same), (upd_ne nbc).trans upd_same, upd_same⟩ ?_ ?_⟩
    · rintro i σ H4 hi ⟨y4, rfl, sm, ha, hb, hc⟩
      rw [Int.toNat_natCast] at hi
      have e0 : (V.int ((0 : Int) + (i : Nat))) = nV i := congrArg V.int (by omega)
      rw [e0]
      have W4 := W.same sm
      have l0 : ∀ c, ((clsL E c i).map nV).length < sizeLine := fun c => by
        rw [List.length_map]
        have := clsL_len E c i
        exact sz (by omega)
      refine ⟨_, rfl, _, rfl, _, rfl, _, rfl, p, t, as, n, E, i, rfl, W4, hi, few, fun H5 l5 s5 n5 h5 => ?_⟩
      have W5 := W4.same s5
      refine ⟨p, t, as, n, E, i, l5, _, rfl, W5, ok, hi, h5, RL_bd ok, fun H6 b6 s6 iff6 => ⟨b6, rfl, ?_⟩⟩
      have s46 := s5.trans s6
      have W6 := W5.same s6
      cases b6 with
      | true =>
        have c0 : cls E i = 0 := by
          unfold cls
          rw [if_neg (iff6.mp rfl)]
        refine iteT ⟨_, rfl, .inl ⟨rfl, _, .inl (.inl (s46 _ _ ha))⟩, _, rfl, a, _, _, rfl, rfl, s46 _ _ ha, l0 0, ?_⟩
        refine ⟨_, rfl, fun d o hd => (upd_ne (ne_of_none hd ha0)).trans (s46 _ _ (sm _ _ hd)), ?_, ?_, ?_⟩
        · rw [upd_same, clsL_step, if_pos c0, List.map_append]
          rfl
        · rw [upd_ne nab.symm, clsL_step, if_neg (by omega)]
          exact s46 _ _ hb
        · rw [upd_ne nac.symm, clsL_step, if_neg (by omega)]
          exact s46 _ _ hc
      | false =>
        have k1 : Conn (RLE E i (prE E i)) (edE E i).1 (edE E i).2 := Classical.byContradiction fun h => nomatch iff6.mpr h
        refine iteF ⟨_, rfl, _, rfl, _, rfl, _, rfl, p, t, as, n, E, i, rfl, W6, hi, few, fun H7 l7 s7 n7 h7 => ?_⟩
        have W7 := W6.same s7
        refine ⟨p, t, as, n, E, i, l7, _, rfl, W7, ok, hi, h7, RL_bd ok, fun H8 b8 s8 iff8 => ⟨b8, rfl, ?_⟩⟩
        have s48 := s46.trans (s7.trans s8)
        cases b8 with
        | true =>
          have c1 : cls E i = 1 := by
            unfold cls
            rw [if_pos k1, if_neg (iff8.mp rfl)]
          refine iteT ⟨_, rfl, .inl ⟨rfl, _, .inl (.inl (s48 _ _ hb))⟩, _, rfl, b, _, _, rfl, rfl, s48 _ _ hb, l0 1, ?_⟩
          refine ⟨_, rfl, fun d o hd => (upd_ne (ne_of_none hd hb0)).trans (s48 _ _ (sm _ _ hd)), ?_, ?_, ?_⟩
          · rw [upd_ne nab, clsL_step, if_neg (by omega)]
            exact s48 _ _ ha
          · rw [upd_same, clsL_step, if_pos c1, List.map_append]
            rfl
          · rw [upd_ne nbc.symm, clsL_step, if_neg (by omega)]
            exact s48 _ _ hc
        | false =>
          have k2 : Conn (RLE E i (prE E i - 1)) (edE E i).1 (edE E i).2 := Classical.byContradiction fun h => nomatch iff8.mpr h
          have c2 : cls E i = 2 := by
            unfold cls
            rw [if_pos k1, if_pos k2]
          refine iteF ⟨_, rfl, .inl ⟨rfl, _, .inl (.inl (s48 _ _ hc))⟩, _, rfl, c, _, _, rfl, rfl, s48 _ _ hc, l0 2, ?_⟩
          refine ⟨_, rfl, fun d o hd => (upd_ne (ne_of_none hd hc0)).trans (s48 _ _ (sm _ _ hd)), ?_, ?_, ?_⟩
          · rw [upd_ne nac, clsL_step, if_neg (by omega)]
            exact s48 _ _ ha
          · rw [upd_ne nbc, clsL_step, if_neg (by omega)]
            exact s48 _ _ hb
          · rw [upd_same, clsL_step, if_pos c2, List.map_append]
            rfl
    · rintro σ H4 ⟨y4, rfl, sm, ha, hb, hc⟩
      rw [Int.toNat_natCast] at ha hb hc
      refine ⟨_, rfl, a, _, rfl, .inl ⟨SqL.of ha, fun l1 n1 => ?_⟩⟩
      have t1 := same_upd (o := .tup ((clsL E 0 E.length).map nV)) n1
      refine ⟨_, rfl, b, _, rfl, .inl ⟨SqL.of (t1 _ _ hb), fun l2 n2 => ?_⟩⟩
      have t2 := t1.trans (same_upd (o := .tup ((clsL E 1 E.length).map nV)) n2)
      refine ⟨_, rfl, c, _, rfl, .inl ⟨SqL.of (t2 _ _ hc), fun l3 n3 => ?_⟩⟩
      have u2 := same_upd (o := .tup ((clsL E 1 E.length).map nV)) n2
      have u3 := same_upd (o := .tup ((clsL E 2 E.length).map nV)) n3
      refine ⟨by show 3 ≤ sizeLine; decide, fun r nr => ?_⟩
      have u4 := same_upd (o := .tup [.ref l1, .ref l2, .ref l3]) nr
      exact q _ r l1 l2 l3 (sm.trans (t2.trans (u3.trans u4))) upd_same (u4 _ _ (u3 _ _ (u2 _ _ upd_same))) (u4 _ _ (u3 _ _ upd_same)) (u4 _ _ upd_same)
end
end JW
set_option Elab.async false
set_option linter.all false
set_option maxRecDepth 100000
set_option maxHeartbeats 4000000
namespace JW
open PySem PySem.Spec PyProof.Rows L2 RK Mt
abbrev sBar : Stmt := topS 27
theorem scBar : FnScope ["web", "index", "rest", "top", "place", "tie"] ["web", "index"] (defScope sBar) := ⟨rfl, rfl, rfl, by decide +kernel, rfl, by decide +kernel, by decide +kernel⟩
def tieE (E : List Tie) (i : Nat) : Tie := E.getD i (0, 0, 0)
theorem tieE_at {E : List Tie} {i : Nat} (h : i < E.length) : E[i]? = some (tieE E i) := by
  unfold tieE
  rw [List.getD_eq_getElem?_getD, List.getElem?_eq_getElem h]
  rfl
def restIx (E : List Tie) (i : Nat) : List Nat := (List.range E.length).filter fun j => decide (j ≠ i)
theorem mem_rest' {E : List Tie} {i j : Nat} : j ∈ restIx E i ↔ j < E.length ∧ j ≠ i := by
  unfold restIx
  rw [List.mem_filter, List.mem_range, decide_eq_true_eq]
theorem rest_len (E : List Tie) (i : Nat) : (restIx E i).length ≤ E.length := by
  have := List.length_filter_le (fun j => decide (j ≠ i)) (List.range E.length)
  rw [List.length_range] at this
  exact this
theorem rest_RL (E : List Tie) (i : Nat) (t : Int) : ((restIx E i).filter fun j => decide (prE E j ≤ t)).map (edE E) = RLE E i t := by
  unfold restIx RLE RL
  rw [List.filter_filter]
  congr 1
  refine List.filter_congr fun j _ => ?_
  rw [Bool.and_comm]
theorem tie_tup : ∀ q : Tie, ∃ xs, tieO q = .tup xs := fun _ => ⟨_, rfl⟩
/-- what bar hands back -/
def spBar : Sp := fun vs H Q _ => ∃ (p t : Addr) (as : List Addr) (n : Nat) (E : List Tie) (i : Nat), vs = [.ref p, nV i] ∧ WebAt H p t as n E ∧ WebOk n E ∧ i < E.length ∧
  (∀ (H' : Hp) (B : Int), Same H H' → IsBar E.length (edE E) (prE E) i B → Q (.int B) H') ∧
  (∀ H' : Hp, Same H H' → (∀ j, j < E.length → j ≠ i → ¬ Conn (RLE E i (prE E j)) (edE E i).1 (edE E i).2) → Q .non H')
section
variable {P : Program} {w : World} {K : PySem.W.Frag} {mg : Str → Option Value} {base : Heap} {f : Addr} {fd : FuncData}
theorem ok_bar (F : Fun K "bar" "bar" sBar f fd) (T : Txt mg) (GW : Cl P w K mg base 3 "need_web" spNeedWeb) (GI : Cl P w K mg base 4 "need_index" spNeedIndex) (GA : Cl P w K mg base 3 "is_apart" spIsApart) : FnOk P w K mg base CX0 5 f fd ["web", "index"] spBar := by
  refine F.ok scBar (fun vs H Q E h => ?_) (fun cdv A outer s H vs Q E hr h => ?_)
  · obtain ⟨p, t, as, n, E, i, rfl, _⟩ := h
    rfl
  · obtain ⟨p, t, as, n, E, i, rfl, W, ok, hi, q, qn⟩ := h
    refine ⟨_, pss_cons (ps_expr (pe_cl GW hr (by decide) (by rfl) (pa_cons (pv 0) pa_nil)))
      (pss_cons (ps_expr (pe_cl GI hr (by decide) (by rfl) (pa_cons (pv 0) (pa_cons (pv 1) pa_nil))))
      (pss_cons (ps_setLc (i := 2) (own := [("place", 4), ("tie", 5)]) (g := gTup K 2 (gCons (gName 4) (gCons (gName 5) gNil))) rfl scBar.nd rfl rfl (sw_true rfl rfl rfl (by decide +kernel)) (pi_enumT (by rfl) T.enum (pa_cons (pe_ix ix_tup (pv 0) pe_int (fun _ _ => rfl)) pa_nil))
          (blkOk_by (own := [("place", 4), ("tie", 5)]) (N := ["web", "index", "rest", "top", "place", "tie"]) (sc := defScope sBar) (by decide +kernel))
          (fun _ _ _ _ _ => pg_tup rfl (pgs_cons (pg_name (i := 4) scBar.nd rfl (.inl rfl)) (pgs_cons (pg_name (i := 5) scBar.nd rfl (.inl rfl)) pgs_nil)))
          (fun _ _ _ _ _ => pts_one (pt_cmpR op_ne (pv 4) (pv 1) (nomark _))) (fun _ _ _ _ _ => pv 5))
      (pss_cons (ps_for PassesOwn.never rfl (pi_list (pe_callB (cr_sortedSet rfl) (by rfl) T.sorted (by decide +kernel) (pa_cons (pe_callTy (cr_setI rfl) (by rfl) T.set (by decide +kernel) (pa_cons
          (pe_lc (own := [("tie", 5)]) (g := gName 5) (tt := tYes) rfl scBar.nd (pi_list (pv 2)) (blkOk_by (own := [("tie", 5)]) (N := ["web", "index", "rest", "top", "place", "tie"]) (sc := defScope sBar) (by decide +kernel))
            (fun _ _ _ _ _ => pg_name (i := 5) scBar.nd rfl (.inl rfl)) (fun _ _ _ _ _ => pts_nil) (fun _ _ _ _ _ => pe_ix (r := rIxT K) ix_tup (pv 5) pe_int (fun _ _ => rfl))) pa_nil)) pa_nil))) (pg_name (i := 3) scBar.nd rfl (.inr rfl))
        (pss_one (ps_if (pt_not (pt_val (pe_cl GA hr (by decide) (by rfl) (pa_cons (pv 0) (pa_cons (pv 1) (pa_cons
            (pe_lc (own := [("tie", 5)]) (g := gName 5) rfl scBar.nd (pi_list (pv 2)) (blkOk_by (own := [("tie", 5)]) (N := ["web", "index", "rest", "top", "place", "tie"]) (sc := defScope sBar) (by decide +kernel))
              (fun _ _ _ _ _ => pg_name (i := 5) scBar.nd rfl (.inl rfl)) (fun _ _ _ _ _ => pts_one (pt_cmpR op_le (pe_ix (r := rIxT K) ix_tup (pv 5) pe_int (fun _ _ => rfl)) (pv 3) (nomark _)))
              (fun _ _ _ _ _ => pe_slice (r := rSlT K) sl_tup (pv 5) po_none (po_some pe_int))) pa_nil)))))) (pss_one (ps_ret (pv 3))) pss_nil)))
      (pss_one (ps_ret pe_non))))), ?_⟩
    have few := ok.few
    refine ⟨_, rfl, p, t, as, n, E, rfl, W, ok, fun H1 s1 => ?_⟩
    have W1 := W.same s1
    refine ⟨_, rfl, _, rfl, p, t, as, n, E, i, rfl, W1, hi, ?_⟩
    -- rest
    refine ⟨_, rfl, p, _, 1, .ref t, rfl, rfl, SqT.of W1.1, atI_nat (j := 1) rfl, t, _, rfl, SqT.of W1.2.1, fun D nD => lc_it walk_enumT
      (fun k H' => Same H1 H' ∧ ∃ as', H' D = some (.lst (as'.map V.ref)) ∧ Objs tieO H' as' (((List.range k).filter fun j => decide (j ≠ i)).map (tieE E)))
      ⟨same_upd nD, [], upd_same, Objs.nil⟩ (fun k H' _ ⟨sm, _⟩ => SqT.of (sm _ _ W1.2.1)) ?_ (fun H3 ⟨sm, as', hD, os'⟩ => ?_)⟩
    · rintro k v H3 H4 hkl ⟨sm, as', hD, os'⟩ ⟨T0, x, rfl, nT, rfl, hx⟩
      obtain ⟨b, hb, rfl⟩ := refs_get hx
      have sT : Same H3 (upd H3 T0 (.tup [.int (k : Nat), .ref b])) := same_upd nT
      have s4 := sm.trans sT
      have W3 := W1.same s4
      obtain ⟨e, he, hbe⟩ := W3.2.2.get hb
      have hk : k < E.length := (List.getElem?_eq_some_iff.mp he).1
      have ek : tieE E k = e := by
        have := tieE_at hk
        rw [he] at this
        exact (Option.some.inj this).symm
      have hD4 := sT _ _ hD
      have os4 : Objs tieO (upd H3 T0 (.tup [.int (k : Nat), .ref b])) as' _ := os'.same sT
      have lenD : (as'.map V.ref).length < sizeLine := by
        rw [List.length_map, os'.len, List.length_map]
        have := List.length_filter_le (fun j => decide (j ≠ i)) (List.range k)
        rw [List.length_range] at this
        exact sz (by omega)
      refine ⟨T0, _, rfl, SqT.of upd_same, rfl, .int (k : Nat), _, rfl, .ref b, [], rfl, rfl, rfl, ?_⟩
      refine ⟨_, rfl, _, rfl, rfl, _, rfl, ?_⟩
      show if (!decide (nV k = nV i)) = true then _ else _
      rw [nV_dec]
      by_cases hki : k = i
      · rw [decide_eq_true hki]
        refine iteF ?_
        rw [filt_step, if_neg (by simp [hki]), List.append_nil]
        exact ⟨s4, as', hD4, os4⟩
      · rw [decide_eq_false hki]
        refine iteT ⟨_, rfl, _, hD4, lenD, fun c o hc => ?_, as' ++ [b], ?_, ?_⟩
        · rw [upd_ne (ne_of_none hc nD)]
          exact s4 _ _ hc
        · rw [upd_same, List.map_append]
          rfl
        · rw [filt_step, if_pos (by simp [hki]), ek]
          have nc : ∀ {c : Addr} {y : Tie}, (upd H3 T0 (.tup [.int (k : Nat), .ref b])) c = some (tieO y) → c ≠ D := fun h => ne_of h hD4 (by intro z; cases z)
          refine Objs.snoc ⟨os4.len, fun m y hy => ?_⟩ ((upd_ne (nc hbe)).trans hbe)
          obtain ⟨c, h1, h2⟩ := os4.at_ m y hy
          exact ⟨c, h1, (upd_ne (nc h2)).trans h2⟩
    · have e1 : (as.map V.ref).length = E.length := by rw [List.length_map, W.2.2.len]
      rw [e1] at os'
      have os' : Objs tieO H3 as' ((restIx E i).map (tieE E)) := os'
      have s13 := s1.trans sm
      have W3 := W.same s13
      have al : as'.length = (restIx E i).length := by rw [os'.len, List.length_map]
      have rl := rest_len E i
      -- an item of rest
      have item : ∀ {H' : Hp} {k : Nat} {x : V}, Same H3 H' → (as'.map V.ref)[k]? = some x → ∃ (b : Addr) (j : Nat), x = .ref b ∧ (restIx E i)[k]? = some j ∧ H' b = some (tieO (tieE E j)) ∧ k < E.length := fun {H' k x} s hx => by
        obtain ⟨b, hb, rfl⟩ := refs_get hx
        obtain ⟨e, he, hbe⟩ := os'.get hb
        rw [List.getElem?_map] at he
        obtain ⟨j, hj, rfl⟩ := Option.map_eq_some_iff.mp he
        have := (List.getElem?_eq_some_iff.mp hj).1
        exact ⟨b, j, rfl, hj, s _ _ hbe, by omega⟩
      -- set([tie[2] for tie in rest])
      refine ⟨_, rfl, D, rfl, ⟨_, SqL.of hD⟩, fun D2 nD2 => lc_list (K := K) (a := D) (xs := as'.map V.ref) (fun k H' => Same H3 H' ∧ H' D2 = some (.lst ((((restIx E i).take k).map (prE E)).map V.int)))
        ⟨same_upd nD2, upd_same⟩ (fun k H' _ ⟨s4, _⟩ => SqL.of (s4 _ _ hD)) (fun k x H4 hx ⟨s4, h4⟩ => ?_) (fun H4 ⟨s4, h4⟩ => ?_)⟩
      · obtain ⟨b, j, rfl, hj, hb, hk⟩ := item s4 hx
        refine yes_ rfl ⟨_, rfl, b, _, 2, .int (tieE E j).2.2, rfl, rfl, SqT.of hb, atI_nat (j := 2) rfl, _, h4, ?_, fun c o hc => ?_, ?_⟩
        · rw [List.length_map, List.length_map, List.length_take]
          exact sz (by omega)
        · rw [upd_ne (ne_of_none hc nD2)]
          exact s4 _ _ hc
        · rw [upd_same, List.take_add_one, hj, List.map_append, List.map_append]
          rfl
      · have et : (restIx E i).take (as'.map V.ref).length = restIx E i := List.take_of_length_le (by rw [List.length_map, al]; exact Nat.le_refl _)
        rw [et] at h4
        refine ⟨D2, (restIx E i).map (prE E), rfl, SqL.of h4, by rw [List.length_map]; omega, fun S c cle nS => ?_⟩
        rw [List.length_map] at cle
        have sS : Same H4 (upd H4 S (SetO w S (fun j => decide (j ∈ (restIx E i).map (prE E))) c)) := same_upd nS
        refine ⟨S, _, c, rfl, upd_same, by omega, fun ys R asc mem yl nR => ?_⟩
        have sR := sS.trans (same_upd (o := .lst (ys.map V.int)) nR)
        have s34 := s4.trans sR
        have mem' : ∀ k : Int, k ∈ ys ↔ ∃ j, j < E.length ∧ j ≠ i ∧ prE E j = k := fun k => by
          rw [mem, decide_eq_true_eq, List.mem_map]
          constructor
          · rintro ⟨j, hj, e⟩
            obtain ⟨h1, h2⟩ := mem_rest'.mp hj
            exact ⟨j, h1, h2, e⟩
          · rintro ⟨j, h1, h2, e⟩
            exact ⟨j, mem_rest'.mpr ⟨h1, h2⟩, e⟩
        refine ⟨R, rfl, ⟨_, SqL.of upd_same⟩, for_list (K := K) (a := R) (xs := ys.map V.int) (fun k σ H' => ∃ y3, σ = [some (.ref p), some (nV i), some (.ref D), y3, none, none] ∧ Same (upd (upd H4 S (SetO w S (fun j => decide (j ∈ (restIx E i).map (prE E))) c)) R (.lst (ys.map V.int))) H' ∧
            ∀ (m : Nat) (y : Int), m < k → ys[m]? = some y → ¬ Conn (RLE E i y) (edE E i).1 (edE E i).2)
          ⟨none, rfl, Same.refl _, fun m y hm => absurd hm (Nat.not_lt_zero _)⟩ (fun k σ H' _ ⟨_, _, s5, _⟩ => SqL.of (s5 _ _ upd_same)) ?_ ?_⟩
        · rintro k x σ H5 hx ⟨y3, rfl, s5, no⟩
          rw [List.getElem?_map] at hx
          obtain ⟨top, htop, rfl⟩ := Option.map_eq_some_iff.mp hx
          have s35 := s34.trans s5
          have hD5 := s35 _ _ hD
          refine ⟨_, rfl, _, rfl, _, rfl, D, rfl, ⟨_, SqL.of hD5⟩, fun D3 nD3 => lc_list (K := K) (a := D) (xs := as'.map V.ref) (fun m H' => Same H5 H' ∧ ListAt pairO H' D3 ((((restIx E i).take m).filter fun j => decide (prE E j ≤ top)).map (edE E)))
            ⟨same_upd nD3, [], upd_same, Objs.nil⟩ (fun m H' _ ⟨s6, _⟩ => SqL.of (s6 _ _ hD5)) (fun m x H6 hx ⟨s6, as6, h6, os6⟩ => ?_) (fun H6 ⟨s6, h6⟩ => ?_)⟩
          · obtain ⟨b, j, rfl, hj, hb, hm⟩ := item (s35.trans s6) hx
            have hjE := (mem_rest'.mp (List.mem_of_getElem? hj)).1
            have len6 : (as6.map V.ref).length < sizeLine := by
              rw [List.length_map, os6.len, List.length_map]
              have := List.length_filter_le (fun j => decide (prE E j ≤ top)) ((restIx E i).take m)
              rw [List.length_take] at this
              exact sz (by omega)
            have tk : (restIx E i).take (m + 1) = (restIx E i).take m ++ [j] := by
              rw [List.take_add_one, hj]
              rfl
            refine ⟨rfl, _, rfl, b, _, 2, .int (tieE E j).2.2, rfl, rfl, SqT.of hb, atI_nat (j := 2) rfl, _, rfl, _, _, rfl, rfl, _, rfl, ite2 (fun hc => ?_) (fun hc => ?_)⟩
            · have hlt : prE E j ≤ top := of_decide_eq_true hc
              refine ⟨_, rfl, 2, rfl, b, _, rfl, SqT.of hb, cut2_not, fun p1 n1 => ⟨_, (upd_ne (ne_of_none h6 n1)).trans h6, len6, ?_⟩⟩
              rw [tk, List.filter_append, List.map_append, List.filter_cons_of_pos (by simpa using hlt)]
              exact list_grow (x := edE E j) pair_tup nD3 h6 os6 n1 s6
            · have hlt : ¬ prE E j ≤ top := fun z => hc (decide_eq_true z)
              rw [tk, List.filter_append, List.map_append, List.filter_cons_of_neg (by simpa using hlt)]
              show Same H5 H6 ∧ ListAt pairO H6 D3 (_ ++ [])
              rw [List.append_nil]
              exact ⟨s6, as6, h6, os6⟩
          · rw [et, rest_RL] at h6
            have s36 := s35.trans s6
            refine ⟨p, t, as, n, E, i, D3, _, rfl, W3.same s36, ok, hi, h6, RL_bd ok, fun H7 b7 s7 iff7 => ⟨b7, rfl, ?_⟩⟩
            have s37 := s36.trans s7
            cases b7 with
            | false =>
              have cn : Conn (RLE E i top) (edE E i).1 (edE E i).2 := Classical.byContradiction fun h => nomatch iff7.mpr h
              refine iteT ⟨_, rfl, q H7 top (s13.trans s37) ⟨cn, fun j hj ji hlt => ?_⟩⟩
              have my : prE E j ∈ ys := (mem' _).mpr ⟨j, hj, ji, rfl⟩
              obtain ⟨m, hm, em⟩ := List.getElem_of_mem my
              have hkl := List.getElem?_eq_some_iff.mp htop
              refine no m _ ?_ (by rw [List.getElem?_eq_getElem hm, em])
              by_cases hmk : m < k
              · exact hmk
              · exfalso
                by_cases e : m = k
                · subst e
                  have := hkl.2
                  omega
                · have := List.pairwise_iff_getElem.mp asc k m hkl.1 hm (by omega)
                  rw [hkl.2, em] at this
                  omega
            | true =>
              refine iteF ⟨_, rfl, s5.trans (s6.trans s7), fun m y hm hy => ?_⟩
              by_cases e : m = k
              · subst e
                rw [htop] at hy
                cases hy
                exact iff7.mp rfl
              · exact no m y (by omega) hy
        · rintro σ H5 ⟨y3, rfl, s5, no⟩
          refine qn H5 (s13.trans (s34.trans s5)) fun j hj ji => ?_
          obtain ⟨m, hm, em⟩ := List.getElem_of_mem ((mem' _).mpr ⟨j, hj, ji, rfl⟩)
          exact no m _ (by rw [List.length_map]; exact hm) (by rw [List.getElem?_eq_getElem hm, em])
end
end JW
set_option Elab.async false
set_option linter.all false
set_option maxRecDepth 100000
set_option maxHeartbeats 4000000
namespace JW
open PySem PySem.Spec PyProof.Rows L2 RK Mt
abbrev sTaken : Stmt := topS 29
abbrev sPick : Stmt := topS 30
theorem scTaken : FnScope ["_law_row", "_law_many", "_law_found", "_law_cell"] ["_law_row", "_law_many"] (defScope sTaken) := ⟨rfl, rfl, rfl, by decide +kernel, rfl, by decide +kernel, by decide +kernel⟩
theorem scPick : FnScope ["_law_row", "_law_things"] ["_law_row", "_law_things"] (defScope sPick) := ⟨rfl, rfl, rfl, by decide +kernel, rfl, by decide +kernel, by decide +kernel⟩
/-- the script, read beside the row at r -/
def Scr (K : PySem.W.Frag) (H : Hp) (sc : Addr) (ns : List Int) (r : Addr) : Prop := (SqL K H sc (ns.map V.int) ∧ sc ≠ r) ∨ ∀ H', SqL K H' sc (ns.map V.int)
theorem Scr.sq {K : PySem.W.Frag} {H : Hp} {sc r : Addr} {ns : List Int} (h : Scr K H sc ns r) : SqL K H sc (ns.map V.int) := h.elim (fun h => h.1) fun h => h H
theorem Scr.keep {K : PySem.W.Frag} {H H' : Hp} {sc r : Addr} {ns : List Int} (h : Scr K H sc ns r) (k : ∀ b o, b ≠ r → H b = some o → H' b = some o) : Scr K H' sc ns r := by
  rcases h with ⟨h, ne⟩ | h
  · refine .inl ⟨?_, ne⟩
    rcases h with (h | ⟨o, h⟩) | h
    · exact .inl (.inl (k _ _ ne h))
    · exact .inl (.inr ⟨o, k _ _ ne h⟩)
    · exact .inr h
  · exact .inr h
theorem Scr.start {K : PySem.W.Frag} {H : Hp} {sc r : Addr} {ns : List Int} (h : SqL K H sc (ns.map V.int)) (nr : H r = none) : Scr K H sc ns r := by
  rcases h with (h | ⟨o, h⟩) | h
  · exact .inl ⟨.inl (.inl h), ne_of_none h nr⟩
  · exact .inl ⟨.inl (.inr ⟨o, h⟩), ne_of_none h nr⟩
  · exact .inr fun H' => .inr h
/-- the law's row of draws -/
def rowO (sc : Addr) (i : Nat) (z q : Int) : HO := .lst [.ref sc, .int (i : Int), .int z, .int q]
structure RowAt (K : PySem.W.Frag) (H : Hp) (r sc : Addr) (ns : List Int) (i : Nat) (z q : Int) : Prop where
  at_ : H r = some (rowO sc i z q)
  z0 : 0 ≤ z
  z1 : z < 2147483647
  scr : Scr K H sc ns r
theorem RowAt.same {K : PySem.W.Frag} {H H' : Hp} {r sc : Addr} {ns : List Int} {i : Nat} {z q : Int} (h : RowAt K H r sc ns i z q) (s : Same H H') : RowAt K H' r sc ns i z q := ⟨s _ _ h.at_, h.z0, h.z1, h.scr.keep fun b o _ e => s b o e⟩
theorem RowAt.put {K : PySem.W.Frag} {H : Hp} {r sc : Addr} {ns : List Int} {i i' : Nat} {z z' q q' : Int} (h : RowAt K H r sc ns i z q) (h0 : 0 ≤ z') (h1 : z' < 2147483647) : RowAt K (upd H r (rowO sc i' z' q')) r sc ns i' z' q' :=
  ⟨upd_same, h0, h1, h.scr.keep fun b o nb e => by rw [upd_ne nb]; exact e⟩
/-- a draw: some number below m; the row alone has changed -/
def spTaken (K : PySem.W.Frag) : Sp := fun vs H Q _ => ∃ (r sc : Addr) (ns : List Int) (i : Nat) (z q m : Int), vs = [.ref r, .int m] ∧ RowAt K H r sc ns i z q ∧ 0 < m ∧ m ≤ 1000 ∧
  ∀ (x : Int) (i' : Nat) (z' q' : Int), 0 ≤ x → x < m → RowAt K (upd H r (rowO sc i' z' q')) r sc ns i' z' q' → Q (.int x) (upd H r (rowO sc i' z' q'))
def spPick (K : PySem.W.Frag) : Sp := fun vs H Q _ => ∃ (r sc l : Addr) (ns : List Int) (i : Nat) (z q : Int) (xs : List V), vs = [.ref r, .ref l] ∧ RowAt K H r sc ns i z q ∧ H l = some (.lst xs) ∧ l ≠ r ∧ xs ≠ [] ∧ xs.length ≤ 1000 ∧
  ∀ (x : V) (i' : Nat) (z' q' : Int), x ∈ xs → RowAt K (upd H r (rowO sc i' z' q')) r sc ns i' z' q' → Q x (upd H r (rowO sc i' z' q'))
section
variable {P : Program} {w : World} {K : PySem.W.Frag} {mg : Str → Option Value} {base : Heap} {f : Addr} {fd : FuncData}
theorem ok_taken (F : Fun K "_law_taken" "_law_taken" sTaken f fd) (T : Txt mg) : FnOk P w K mg base CX0 1 f fd ["_law_row", "_law_many"] (spTaken K) := by
  refine F.ok scTaken (fun vs H Q E h => ?_) (fun cdv A outer s H vs Q E hr h => ?_)
  · obtain ⟨r, sc, ns, i, z, q, m, rfl, _⟩ := h
    rfl
  · obtain ⟨r, sc, ns, i, z, q, m, rfl, R, m0, m1, k⟩ := h
    have cd : CDivW q m := wide_div (b := 10) m0 (by show m.natAbs < 1024; omega) (by decide) (by decide)
    refine ⟨_, pss_cons (ps_if (pt_cmpR op_gt (pe_ix ix_list (pv 0) pe_int (fun _ _ => rfl)) pe_int (nomark _))
        (pss_cons (ps_set (i := 2) scTaken.nd rfl (.inl rfl) (pe_op op_mod (pe_callTy call_int1 (by rfl) T.int (by decide +kernel) (pa_cons (pe_ix ix_list (pv 0) pe_int (fun _ _ => rfl)) pa_nil)) (pv 1)))
          (pss_cons (ps_asg (pe_op op_fdivW (pe_ix ix_list (pv 0) pe_int (fun _ _ => rfl)) (pv 1)) (pg_sub (pv 0) pe_int set_list))
            (pss_one (ps_ret (pv 2))))) pss_nil)
      (pss_cons (ps_asg (pe_op op_add (pe_ix ix_list (pv 0) pe_int (fun _ _ => rfl)) pe_int) (pg_sub (pv 0) pe_int set_list))
      (pss_cons (ps_if (pt_cmpR op_gt (pe_ix ix_list (pv 0) pe_int (fun _ _ => rfl)) (pe_callB call_len_seq (by rfl) T.len PySem.boot_len (pa_cons (pe_ix ix_list (pv 0) pe_int (fun _ _ => rfl)) pa_nil)) (nomark _))
        (pss_cons (ps_asg (pe_op op_mod (pe_callTy call_int1 (by rfl) T.int (by decide +kernel) (pa_cons (pe_op op_add (pe_op op_mul (pe_ix ix_list (pv 0) pe_int (fun _ _ => rfl)) pe_int) pe_int) pa_nil)) pe_int) (pg_sub (pv 0) pe_int set_list))
          (pss_one (ps_ret (pe_op op_mod (pe_callTy call_int1 (by rfl) T.int (by decide +kernel) (pa_cons (pe_op op_fdiv (pe_ix ix_list (pv 0) pe_int (fun _ _ => rfl)) pe_int) pa_nil)) (pv 1))))) pss_nil)
      (pss_cons (ps_set (i := 3) scTaken.nd rfl (.inl rfl) (pe_ix ix_list (pe_ix ix_list (pv 0) pe_int (fun _ _ => rfl)) (pe_op op_sub (pe_ix ix_list (pv 0) pe_int (fun _ _ => rfl)) pe_int) (fun _ _ => rfl)))
      (pss_cons (ps_asg (pe_op op_mod (pe_callTy call_int1 (by rfl) T.int (by decide +kernel) (pa_cons (pe_op op_add (pe_op op_add (pe_op op_mul (pe_ix ix_list (pv 0) pe_int (fun _ _ => rfl)) pe_int) (pv 3)) pe_int) pa_nil)) pe_int) (pg_sub (pv 0) pe_int set_list))
      (pss_cons (ps_if (pt_cmpR op_ge (pv 3) (pe_op op_pow pe_int pe_int) (nomark _))
        (pss_one (ps_asg (pe_op op_fdivW (pv 3) (pv 1)) (pg_sub (pv 0) pe_int set_list))) pss_nil)
      (pss_one (ps_ret (pe_op op_mod (pe_callTy call_int1 (by rfl) T.int (by decide +kernel) (pa_cons (pv 3) pa_nil)) (pv 1))))))))), ?_⟩
    have hR := R.at_
    have hS := SqL.of (K := K) hR
    refine ⟨_, rfl, r, _, 3, .int q, rfl, rfl, hS, atI_nat (j := 3) rfl, _, _, rfl, rfl, _, rfl, ite2 (fun _ => ?_) (fun _ => ?_)⟩
    · refine ⟨_, rfl, r, _, 3, .int q, rfl, rfl, hS, atI_nat (j := 3) rfl, .inl ⟨q, rfl, _, rfl, _, _, rfl, rfl, m0, ?_⟩⟩
      refine ⟨_, rfl, r, _, 3, .int q, rfl, rfl, hS, atI_nat (j := 3) rfl, _, rfl, _, _, rfl, rfl, cd, ?_⟩
      refine ⟨_, rfl, r, _, 3, 3, rfl, rfl, hR, rfl, _, rfl, ?_⟩
      exact k (q % m) i z (q / m) (Int.emod_nonneg _ (by omega)) (Int.emod_lt_of_pos _ m0) (R.put R.z0 R.z1)
    · refine ⟨_, rfl, r, _, 1, .int i, rfl, rfl, hS, atI_nat (j := 1) rfl, _, _, rfl, rfl, _, rfl, r, _, 1, 1, rfl, rfl, hR, rfl, ?_⟩
      have R1 : RowAt K (upd H r (rowO sc (i + 1) z q)) r sc ns (i + 1) z q := R.put R.z0 R.z1
      have eR : (HO.lst (List.set [V.ref sc, .int (i : Int), .int z, .int q] 1 (.int ((i : Int) + 1)))) = rowO sc (i + 1) z q := by
        show HO.lst [V.ref sc, .int ((i : Int) + 1), .int z, .int q] = _
        rw [show ((i : Int) + 1) = ((i + 1 : Nat) : Int) by omega]
        rfl
      rw [eR]
      have hR1 := R1.at_
      have hS1 := SqL.of (K := K) hR1
      have sq1 := R1.scr.sq
      refine ⟨_, rfl, r, _, 1, _, rfl, rfl, hS1, atI_nat (j := 1) rfl, _, rfl, r, _, 0, .ref sc, rfl, rfl, hS1, atI_nat (j := 0) rfl, sc, _, rfl, .inl sq1, _, _, rfl, rfl, _, rfl, ite2 (fun _ => ?_) (fun hn => ?_)⟩
      · have z20 : 0 ≤ (z * 48271 + 11) % 2147483647 := Int.emod_nonneg _ (by decide)
        have z21 : (z * 48271 + 11) % 2147483647 < 2147483647 := Int.emod_lt_of_pos _ (by decide)
        have R2 : RowAt K (upd H r (rowO sc (i + 1) ((z * 48271 + 11) % 2147483647) q)) r sc ns (i + 1) ((z * 48271 + 11) % 2147483647) q := R.put z20 z21
        refine ⟨_, rfl, r, _, 2, .int z, rfl, rfl, hS1, atI_nat (j := 2) rfl, _, _, rfl, rfl, .inr ⟨by decide, by decide⟩, _, _, rfl, rfl, .inl ⟨_, rfl, _, _, rfl, rfl, by show (0 : Int) < 2147483647; decide, ?_⟩⟩
        refine ⟨_, rfl, r, _, 2, 2, rfl, rfl, hR1, rfl, ?_⟩
        rw [upd_upd]
        have hS2 := SqL.of (K := K) R2.at_
        refine ⟨_, rfl, r, _, 2, _, rfl, rfl, hS2, atI_nat (j := 2) rfl, _, _, rfl, rfl, ⟨by decide, by decide⟩, .inl ⟨_, rfl, _, rfl, _, _, rfl, rfl, m0, ?_⟩⟩
        exact k _ (i + 1) _ q (Int.emod_nonneg _ (by omega)) (Int.emod_lt_of_pos _ m0) R2
      · have hi : i < ns.length := by
          have : ¬ ((((ns.map V.int).length : Nat) : Int) < (((i + 1 : Nat) : Nat) : Int)) := fun h => hn (decide_eq_true h)
          rw [List.length_map] at this
          omega
        have gi : (ns.map V.int)[i]? = some (.int ns[i]) := by
          rw [List.getElem?_map, List.getElem?_eq_getElem hi]
          rfl
        have z20 : 0 ≤ (z * 48271 + ns[i] + 11) % 2147483647 := Int.emod_nonneg _ (by decide)
        have z21 : (z * 48271 + ns[i] + 11) % 2147483647 < 2147483647 := Int.emod_lt_of_pos _ (by decide)
        have R2 : ∀ q2, RowAt K (upd H r (rowO sc (i + 1) ((z * 48271 + ns[i] + 11) % 2147483647) q2)) r sc ns (i + 1) ((z * 48271 + ns[i] + 11) % 2147483647) q2 := fun q2 => R.put z20 z21
        refine ⟨_, rfl, r, _, 0, .ref sc, rfl, rfl, hS1, atI_nat (j := 0) rfl, _, rfl, r, _, 1, _, rfl, rfl, hS1, atI_nat (j := 1) rfl, _, _, rfl, rfl, sc, _, _, .int ns[i], rfl, rfl, sq1, at_of (j := i) (by omega) gi, ?_⟩
        refine ⟨_, rfl, r, _, 2, .int z, rfl, rfl, hS1, atI_nat (j := 2) rfl, _, _, rfl, rfl, .inr ⟨by decide, by decide⟩, _, rfl, _, _, rfl, rfl, _, _, rfl, rfl, .inl ⟨_, rfl, _, _, rfl, rfl, by show (0 : Int) < 2147483647; decide, ?_⟩⟩
        refine ⟨_, rfl, r, _, 2, 2, rfl, rfl, hR1, rfl, ?_⟩
        rw [upd_upd]
        refine ⟨_, rfl, _, _, rfl, rfl, ⟨by decide, by decide, by decide⟩, _, _, rfl, rfl, _, rfl, ite2 (fun _ => ?_) (fun _ => ?_)⟩
        · refine ⟨_, rfl, _, rfl, _, _, rfl, rfl, wide_div (b := 10) m0 (by show m.natAbs < 1024; omega) (by decide) (by decide), ?_⟩
          refine ⟨_, rfl, r, _, 3, 3, rfl, rfl, (R2 q).at_, rfl, ?_⟩
          rw [upd_upd]
          exact ⟨_, rfl, .inl ⟨_, rfl, _, rfl, _, _, rfl, rfl, m0, k _ (i + 1) _ (ns[i] / m) (Int.emod_nonneg _ (by omega)) (Int.emod_lt_of_pos _ m0) (R2 _)⟩⟩
        · exact ⟨_, rfl, .inl ⟨_, rfl, _, rfl, _, _, rfl, rfl, m0, k _ (i + 1) _ q (Int.emod_nonneg _ (by omega)) (Int.emod_lt_of_pos _ m0) (R2 _)⟩⟩
theorem ok_pick (F : Fun K "_law_pick" "_law_pick" sPick f fd) (T : Txt mg) (GT : Cl P w K mg base 1 "_law_taken" (spTaken K)) : FnOk P w K mg base CX0 2 f fd ["_law_row", "_law_things"] (spPick K) := by
  refine F.ok scPick (fun vs H Q E h => ?_) (fun cdv A outer s H vs Q E hr h => ?_)
  · obtain ⟨r, sc, l, ns, i, z, q, xs, rfl, _⟩ := h
    rfl
  · obtain ⟨r, sc, l, ns, i, z, q, xs, rfl, R, hl, nlr, hx, hx2, k⟩ := h
    refine ⟨_, pss_one (ps_ret (pe_ix ix_list (pv 1) (pe_cl GT hr (Nat.le_refl _) (by rfl) (pa_cons (pv 0) (pa_cons (pe_callB call_len_seq (by rfl) T.len PySem.boot_len (pa_cons (pv 1) pa_nil)) pa_nil))) (fun _ _ => rfl))), ?_⟩
    have l0 : 0 < xs.length := List.length_pos_iff.mpr hx
    refine ⟨_, rfl, _, rfl, _, rfl, l, xs, rfl, .inl (SqL.of hl), r, sc, ns, i, z, q, _, rfl, R, by omega, by omega, fun x i' z' q' x0 x1 R' => ?_⟩
    have hj : x.toNat < xs.length := by omega
    exact ⟨l, xs, x, xs[x.toNat], rfl, rfl, SqL.of ((upd_ne nlr).trans hl), at_of (j := x.toNat) (by omega) (List.getElem?_eq_getElem hj), k _ _ _ _ (List.getElem_mem hj) R'⟩
end
end JW
set_option Elab.async false
set_option linter.all false
set_option maxRecDepth 100000
set_option maxHeartbeats 4000000
namespace JW
open PySem PySem.Spec PyProof.Rows L2 RK Mt
/-! ### the dict of ties as a list -/
abbrev DE := (Nat × Nat) × Int
def kyD (q : Nat × Nat) : List Key := [.inl (q.1 : Int), .inl (q.2 : Int)]
def kvD (D : List DE) : List (List Key × V) := D.map fun e => (kyD e.1, V.int e.2)
theorem kyD_inj {p q : Nat × Nat} (h : kyD p = kyD q) : p = q := by
  unfold kyD at h
  injection h with h1 h2
  injection h2 with h2 _
  have e1 : (p.1 : Int) = q.1 := Sum.inl.inj h1
  have e2 : (p.2 : Int) = q.2 := Sum.inl.inj h2
  exact Prod.ext (by omega) (by omega)
theorem kyD_dec (p q : Nat × Nat) : decide (kyD p = kyD q) = decide (p = q) := by
  by_cases h : p = q
  · rw [h, decide_eq_true rfl, decide_eq_true rfl]
  · rw [decide_eq_false h, decide_eq_false fun e => h (kyD_inj e)]
theorem kyD_kV (q : Nat × Nat) : (kyD q).map kV = [nV q.1, nV q.2] := rfl
structure DOk (n : Nat) (D : List DE) : Prop where
  nd : (D.map (·.1)).Nodup
  ok : ∀ e, e ∈ D → TieOk n (e.1.1, e.1.2, e.2)
theorem find_kvD (q : Nat × Nat) : ∀ D : List DE, valV (kvD D) (kyD q) = (D.find? fun e => decide (e.1 = q)).map fun e => V.int e.2
  | [] => rfl
  | e :: D => by
    have ih := find_kvD q D
    unfold valV at ih ⊢
    show Option.map _ (List.find? _ ((kyD e.1, V.int e.2) :: kvD D)) = _
    rw [List.find?_cons, List.find?_cons]
    show Option.map _ (match decide (kyD e.1 = kyD q) with | true => _ | false => _) = _
    rw [kyD_dec]
    cases h : decide (e.1 = q) with
    | true => rfl
    | false => exact ih
def wD (D : List DE) (q : Nat × Nat) : Int := ((D.find? fun e => decide (e.1 = q)).map (·.2)).getD 0
theorem val_wD {D : List DE} {q : Nat × Nat} (h : q ∈ D.map (·.1)) : valV (kvD D) (kyD q) = some (.int (wD D q)) ∧ (q, wD D q) ∈ D := by
  obtain ⟨e, he, eq⟩ := List.mem_map.mp h
  rw [find_kvD]
  unfold wD
  cases g : D.find? fun e => decide (e.1 = q) with
  | none =>
    have := List.find?_eq_none.mp g e he
    simp [eq] at this
  | some x =>
    refine ⟨rfl, ?_⟩
    have h1 := List.find?_some g
    have h2 := List.mem_of_find?_eq_some g
    have e1 : x.1 = q := of_decide_eq_true h1
    show (q, x.2) ∈ D
    rw [← e1]
    exact h2
theorem put_D {n : Nat} {D : List DE} (ok : DOk n D) {q : Nat × Nat} {w : Int} (hq : TieOk n (q.1, q.2, w)) : ∃ D', putK (kvD D) (kyD q) (.int w) = kvD D' ∧ DOk n D' ∧ D'.length ≤ D.length + 1 := by
  by_cases h : q ∈ D.map (·.1)
  · refine ⟨D.map fun e => if e.1 = q then (e.1, w) else e, ?_, ⟨?_, ?_⟩, by rw [List.length_map]; omega⟩
    · unfold putK
      rw [if_pos]
      · unfold kvD
        rw [List.map_map, List.map_map]
        refine List.map_congr_left fun e _ => ?_
        show (if kyD e.1 = kyD q then (kyD e.1, V.int w) else (kyD e.1, V.int e.2)) = (fun e : DE => (kyD e.1, V.int e.2)) (if e.1 = q then (e.1, w) else e)
        by_cases g : e.1 = q
        · rw [if_pos g, if_pos (by rw [g])]
        · rw [if_neg g, if_neg fun z => g (kyD_inj z)]
      · obtain ⟨e, he, eq⟩ := List.mem_map.mp h
        rw [List.any_eq_true]
        exact ⟨_, List.mem_map.mpr ⟨e, he, rfl⟩, decide_eq_true (by rw [eq])⟩
    · rw [List.map_map]
      have : ((fun x : DE => x.1) ∘ fun e : DE => if e.1 = q then (e.1, w) else e) = fun e => e.1 := by
        funext e
        show (if e.1 = q then (e.1, w) else e).1 = e.1
        split <;> rfl
      rw [this]
      exact ok.nd
    · intro e he
      obtain ⟨x, hx, rfl⟩ := List.mem_map.mp he
      by_cases g : x.1 = q
      · rw [if_pos g]
        show TieOk n (x.1.1, x.1.2, w)
        rw [g]
        exact hq
      · rw [if_neg g]
        exact ok.ok x hx
  · refine ⟨D ++ [(q, w)], ?_, ⟨?_, ?_⟩, by simp⟩
    · rw [putK_new]
      · unfold kvD
        rw [List.map_append]
        rfl
      · rw [find_kvD, List.find?_eq_none.mpr, Option.map_none]
        intro e he
        simp only [decide_eq_true_eq]
        exact fun z => h (List.mem_map.mpr ⟨e, he, z⟩)
    · rw [List.map_append]
      exact nd_snoc ok.nd h
    · intro e he
      rcases List.mem_append.mp he with he | he
      · exact ok.ok e he
      · rw [List.mem_singleton.mp he]
        exact hq
theorem DOk.nil (n : Nat) : DOk n [] := ⟨List.nodup_nil, fun _ m => by simp at m⟩
/-! ### the sorted keys, as the ties of a web -/
def ksD (D : List DE) : List (List Int) := D.map fun e => [(e.1.1 : Int), (e.1.2 : Int)]
theorem ksD_keys (D : List DE) : (kvD D).map (·.1) = (ksD D).map fun k => k.map Sum.inl := by
  unfold kvD ksD
  rw [List.map_map, List.map_map]
  rfl
def prL (k : List Int) : Nat × Nat := ((k.getD 0 0).toNat, (k.getD 1 0).toNat)
def tiesL (D : List DE) (L : List (Addr × List Int)) : List Tie := L.map fun q => ((prL q.2).1, (prL q.2).2, wD D (prL q.2))
theorem mem_ksD {D : List DE} {k : List Int} (h : k ∈ ksD D) : ∃ q : Nat × Nat, q ∈ D.map (·.1) ∧ k = [(q.1 : Int), (q.2 : Int)] ∧ prL k = q := by
  obtain ⟨e, he, rfl⟩ := List.mem_map.mp h
  exact ⟨e.1, List.mem_map.mpr ⟨e, he, rfl⟩, rfl, rfl⟩
theorem bd_ksD {n : Nat} {D : List DE} (ok : DOk n D) (hn : n ≤ 12) : ∀ k, k ∈ ksD D → k.length = 2 ∧ TS.Bd 64 k := fun k hk => by
  obtain ⟨e, he, rfl⟩ := List.mem_map.mp hk
  have t := ok.ok e he
  have h1 : e.1.1 < e.1.2 := t.lt
  have h2 : e.1.2 < n := t.bd
  refine ⟨rfl, fun x hx => ?_⟩
  rcases List.mem_cons.mp hx with z | z
  · rw [z]; omega
  · rw [List.mem_singleton.mp z]; omega
theorem web_of {n : Nat} {D : List DE} (ok : DOk n D) (h1 : 1 ≤ n) (hn : n ≤ 12) (few : D.length ≤ 30) {L : List (Addr × List Int)} (p : (L.map (·.2)).Perm (ksD D)) (asc : L.Pairwise (fun q r => TS.code 64 q.2 ≤ TS.code 64 r.2)) : WebOk n (tiesL D L) := by
  have mem : ∀ {i : Nat} {a : Addr × List Int}, L[i]? = some a → a.2 ∈ ksD D := fun {i a} h => p.mem_iff.mp (List.mem_map.mpr ⟨a, List.mem_of_getElem? h, rfl⟩)
  have lL : L.length = D.length := by
    have := p.length_eq
    rw [List.length_map] at this
    unfold ksD at this
    rw [List.length_map] at this
    exact this
  have ndk : (ksD D).Nodup := by
    have : ksD D = (D.map (·.1)).map fun q : Nat × Nat => [(q.1 : Int), (q.2 : Int)] := by
      unfold ksD
      rw [List.map_map]
      rfl
    rw [this]
    refine List.pairwise_map.mpr (ok.nd.imp fun {a b} ne e => ne ?_)
    injection e with e1 e2
    injection e2 with e2 _
    exact Prod.ext (by omega) (by omega)
  have ndL : (L.map (·.2)).Nodup := p.nodup_iff.mpr ndk
  refine ⟨h1, hn, by unfold tiesL; rw [List.length_map, lL]; exact few, fun e he => ?_, fun i d e hd he => ?_⟩
  · obtain ⟨a, ha, rfl⟩ := List.mem_map.mp he
    obtain ⟨i, hi, ei⟩ := List.getElem_of_mem ha
    obtain ⟨q, hq, ek, ep⟩ := mem_ksD (mem (List.getElem?_eq_getElem hi))
    rw [ei] at ep
    rw [ep]
    exact ok.ok _ (val_wD hq).2
  · unfold tiesL at hd he
    rw [List.getElem?_map] at hd he
    obtain ⟨a, ha, rfl⟩ := Option.map_eq_some_iff.mp hd
    obtain ⟨b, hb, rfl⟩ := Option.map_eq_some_iff.mp he
    obtain ⟨q, hq, ek, ep⟩ := mem_ksD (mem ha)
    obtain ⟨q', hq', ek', ep'⟩ := mem_ksD (mem hb)
    have hia := List.getElem?_eq_some_iff.mp ha
    have hib := List.getElem?_eq_some_iff.mp hb
    have c := List.pairwise_iff_getElem.mp asc i (i + 1) hia.1 hib.1 (by omega)
    rw [hia.2, hib.2, ek, ek'] at c
    have ne : ([(q.1 : Int), (q.2 : Int)] : List Int) ≠ [(q'.1 : Int), (q'.2 : Int)] := fun z => by
      have := List.pairwise_iff_getElem.mp ndL i (i + 1) (by rw [List.length_map]; exact hia.1) (by rw [List.length_map]; exact hib.1) (by omega)
      rw [List.getElem_map, List.getElem_map, hia.2, hib.2, ek, ek'] at this
      exact this z
    have t := ok.ok _ (val_wD hq).2
    have t' := ok.ok _ (val_wD hq').2
    have l1 : q.1 < q.2 := t.lt
    have l2 : q.2 < n := t.bd
    have l3 : q'.1 < q'.2 := t'.lt
    have l4 : q'.2 < n := t'.bd
    have r := pair_lt c ne (by omega) (by omega) (by omega) (by omega)
    show Rise ((prL a.2).1, (prL a.2).2, _) ((prL b.2).1, (prL b.2).2, _)
    rw [ep, ep']
    unfold Rise
    dsimp only
    omega
end JW
set_option Elab.async false
set_option linter.all false
set_option maxRecDepth 100000
set_option maxHeartbeats 4000000
namespace JW
open PySem PySem.Spec PyProof.Rows L2 RK Mt
abbrev sWeb : Stmt := topS 32
abbrev nWeb : List Str := ["_law_row", "_law_most", "_law_dense", "_law_many", "_law_ties", "_law_top", "_law_b", "_law_a"]
theorem scWeb : FnScope nWeb ["_law_row", "_law_most", "_law_dense"] (defScope sWeb) := ⟨rfl, rfl, rfl, by decide +kernel, rfl, by decide +kernel, by decide +kernel⟩
/-- all but the row as before -/
def SameB (r : Addr) (H H' : Hp) : Prop := ∀ b o, b ≠ r → H b = some o → H' b = some o
theorem SameB.refl (r : Addr) (H : Hp) : SameB r H H := fun _ _ _ h => h
theorem SameB.trans {r : Addr} {H H1 H2 : Hp} (a : SameB r H H1) (b : SameB r H1 H2) : SameB r H H2 := fun c o n h => b c o n (a c o n h)
theorem SameB.of {r : Addr} {H H' : Hp} (s : Same H H') : SameB r H H' := fun b o _ h => s b o h
theorem SameB.put {r : Addr} {H : Hp} {o : HO} : SameB r H (upd H r o) := fun b x n h => by rw [upd_ne n]; exact h
/-- a web is drawn: any web of at most six places; the row alone has changed -/
def spWeb (K : PySem.W.Frag) : Sp := fun vs H Q _ => ∃ (r sc : Addr) (ns : List Int) (i : Nat) (z q : Int), vs = [.ref r, .int 6, .int 2] ∧ RowAt K H r sc ns i z q ∧
  ∀ (H' : Hp) (p t : Addr) (as : List Addr) (n : Nat) (E : List Tie) (i' : Nat) (z' q' : Int), SameB r H H' → RowAt K H' r sc ns i' z' q' → WebAt H' p t as n E → WebOk n E → n ≤ 6 → Q (.ref p) H'
/-- the state while the dict at d is filled -/
structure Filling (K : PySem.W.Frag) (H0 H : Hp) (r sc : Addr) (ns : List Int) (d : Addr) (n : Nat) (D : List DE) : Prop where
  fr : SameB r H0 H
  row : ∃ i z q, RowAt K H r sc ns i z q
  at_ : H d = some (.dT (kvD D))
  ok : DOk n D
theorem Filling.same {K : PySem.W.Frag} {H0 H H' : Hp} {r sc d : Addr} {ns : List Int} {n : Nat} {D : List DE} (f : Filling K H0 H r sc ns d n D) (s : Same H H') : Filling K H0 H' r sc ns d n D :=
  ⟨f.fr.trans (.of s), let ⟨i, z, q, R⟩ := f.row; ⟨i, z, q, R.same s⟩, s _ _ f.at_, f.ok⟩
theorem Filling.draw {K : PySem.W.Frag} {H0 H : Hp} {r sc d : Addr} {ns : List Int} {n i' : Nat} {z' q' : Int} {D : List DE} (f : Filling K H0 H r sc ns d n D) (R : RowAt K (upd H r (rowO sc i' z' q')) r sc ns i' z' q') :
    Filling K H0 (upd H r (rowO sc i' z' q')) r sc ns d n D := by
  obtain ⟨i, z, q, R0⟩ := f.row
  have ne : d ≠ r := ne_of f.at_ R0.at_ (by intro e; cases e)
  exact ⟨f.fr.trans .put, ⟨_, _, _, R⟩, (upd_ne ne).trans f.at_, f.ok⟩
/-- the dict is stored to -/
theorem Filling.put {K : PySem.W.Frag} {H0 H : Hp} {r sc d : Addr} {ns : List Int} {n : Nat} {D D' : List DE} (f : Filling K H0 H r sc ns d n D) (hd : H0 d = none) (ok : DOk n D') : Filling K H0 (upd H d (.dT (kvD D'))) r sc ns d n D' := by
  obtain ⟨i, z, q, R0⟩ := f.row
  have ne : d ≠ r := ne_of f.at_ R0.at_ (by intro e; cases e)
  refine ⟨fun b o nb h => (upd_ne (ne_of_none h hd)).trans (f.fr b o nb h), ⟨i, z, q, (upd_ne ne.symm).trans R0.at_, R0.z0, R0.z1, ?_⟩, upd_same, ok⟩
  rcases R0.scr with ⟨h, nr⟩ | h
  · refine .inl ⟨?_, nr⟩
    rcases h with (h | ⟨o, h⟩) | h
    · exact .inl (.inl ((upd_ne (ne_of h f.at_ (by intro e; cases e))).trans h))
    · exact .inl (.inr ⟨o, (upd_ne (ne_of h f.at_ (by intro e; cases e))).trans h⟩)
    · exact .inr h
  · exact .inr h
section
variable {P : Program} {w : World} {K : PySem.W.Frag} {mg : Str → Option Value} {base : Heap} {f : Addr} {fd : FuncData}
theorem ok_web (F : Fun K "_law_joined_web" "_law_joined_web" sWeb f fd) (T : Txt mg) (GT : Cl P w K mg base 1 "_law_taken" (spTaken K)) (GP : Cl P w K mg base 2 "_law_pick" (spPick K)) : FnOk P w K mg base CX0 3 f fd ["_law_row", "_law_most", "_law_dense"] (spWeb K) := by
  refine F.ok scWeb (fun vs H Q E h => ?_) (fun cdv A outer s H vs Q E hr h => ?_)
  · obtain ⟨r, sc, ns, i, z, q, rfl, _⟩ := h
    rfl
  · obtain ⟨r, sc, ns, i, z, q, rfl, R, k⟩ := h
    have hu := hu_of hr
    refine ⟨_, pss_cons (ps_asg (pe_tup (pa_cons (pe_op op_add pe_int (pe_cl GT hr (by decide) (by rfl) (pa_cons (pv 0) (pa_cons (pv 1) pa_nil)))) (pa_cons pe_dnewT pa_nil)))
        (pg_tup rfl (pgs_cons (pg_name (i := 3) scWeb.nd rfl (.inl rfl)) (pgs_cons (pg_name (i := 4) scWeb.nd rfl (.inr rfl)) pgs_nil))))
      (pss_cons (ps_set (i := 5) scWeb.nd rfl (.inl rfl) (pe_cl GP hr (by decide) (by rfl) (pa_cons (pv 0) (pa_cons (pe_lst (pa_cons pe_int (pa_cons pe_int (pa_cons pe_int pa_nil)))) pa_nil))))
      (pss_cons (ps_for PassesOwn.never rfl (pi_range2 (by rfl) T.range (pa_cons pe_int (pa_cons (pv 3) pa_nil))) (pg_name (i := 6) scWeb.nd rfl (.inl rfl))
        (pss_one (ps_dput hu (pv 4) (pe_tup (pa_cons (pe_cl GT hr (by decide) (by rfl) (pa_cons (pv 0) (pa_cons (pv 6) pa_nil))) (pa_cons (pv 6) pa_nil))) (pe_cl GT hr (by decide) (by rfl) (pa_cons (pv 0) (pa_cons (pv 5) pa_nil))) rfl)))
      (pss_cons (ps_for PassesOwn.never rfl (pi_range1 (by rfl) T.range (pa_cons (pv 3) pa_nil)) (pg_name (i := 7) scWeb.nd rfl (.inl rfl))
        (pss_one (ps_for PassesOwn.never rfl (pi_range2 (by rfl) T.range (pa_cons (pe_op op_add (pv 7) pe_int) (pa_cons (pv 3) pa_nil))) (pg_name (i := 6) scWeb.nd rfl (.inl rfl))
          (pss_one (ps_if (PW.pt (pw_and (pt_cmp (pc_dnotin hu (pe_tup (pa_cons (pv 7) (pa_cons (pv 6) pa_nil))) (pv 4)) rfl)
              (pw_and (pt_cmpR op_lt (pe_callB call_len_dT (by rfl) T.len PySem.boot_len (pa_cons (pv 4) pa_nil)) pe_int (nomark _))
              (pw_and1 (pt_cmpR op_lt (pe_cl GT hr (by decide) (by rfl) (pa_cons (pv 0) (pa_cons pe_int pa_nil))) (pv 2) (nomark _))))))
            (pss_one (ps_dput hu (pv 4) (pe_tup (pa_cons (pv 7) (pa_cons (pv 6) pa_nil))) (pe_cl GT hr (by decide) (by rfl) (pa_cons (pv 0) (pa_cons (pv 5) pa_nil))) rfl)) pss_nil)))))
      (pss_one (ps_ret (pe_tup (pa_cons (pv 3) (pa_cons (pe_callTy cr_tupOf (by rfl) T.tuple (by decide +kernel) (pa_cons
        (pe_lc (own := [("_law_a", 7), ("_law_b", 6)]) (g := gTup K 2 (gCons (gName 7) (gCons (gName 6) gNil))) (tt := tYes) rfl scWeb.nd (pi_list (pe_callB (cr_sortedDT (n := 2) (B := 64) rfl (by decide)) (by rfl) T.sorted (by decide +kernel) (pa_cons (pv 4) pa_nil)))
          (blkOk_by (own := [("_law_a", 7), ("_law_b", 6)]) (N := nWeb) (sc := defScope sWeb) (by decide +kernel))
          (fun _ _ _ _ _ => pg_tup rfl (pgs_cons (pg_name (i := 7) scWeb.nd rfl (.inl rfl)) (pgs_cons (pg_name (i := 6) scWeb.nd rfl (.inl rfl)) pgs_nil))) (fun _ _ _ _ _ => pts_nil)
          (fun _ _ _ _ _ => pe_tup (pa_cons (pv 7) (pa_cons (pv 6) (pa_cons (pe_dget hu (pv 4) (pe_tup (pa_cons (pv 7) (pa_cons (pv 6) pa_nil))) (fun _ _ => rfl)) pa_nil))))) pa_nil)) pa_nil)))))))), ?_⟩
    -- many, ties
    refine ⟨_, rfl, _, rfl, r, sc, ns, i, z, q, 6, rfl, R, by decide, by decide, fun x i1 z1 q1 x0 x1 R1 => ?_⟩
    obtain ⟨m, rfl⟩ : ∃ m : Nat, x = (m : Int) := ⟨x.toNat, by omega⟩
    have hm6 : m < 6 := by omega
    refine ⟨_, _, rfl, rfl, fun d nd => ⟨by show 2 ≤ sizeLine; decide, fun u nu => ?_⟩⟩
    have nd0 : H d = none := by
      cases e : H d with
      | none => rfl
      | some o =>
        by_cases z : d = r
        · rw [z, upd_same] at nd
          cases nd
        · rw [upd_ne z, e] at nd
          cases nd
    have en : (1 : Int) + (m : Int) = ((m + 1 : Nat) : Int) := by omega
    refine ⟨u, _, rfl, SqT.of upd_same, rfl, nV (m + 1), [.ref d], congrArg (fun y => [V.int y, V.ref d]) en, .ref d, [], rfl, rfl, ?_⟩
    have F0 : Filling K H (upd (upd (upd H r (rowO sc i1 z1 q1)) d (.dT [])) u (.tup [.int (1 + (m : Int)), .ref d])) r sc ns d (m + 1) [] := by
      refine Filling.same (H := upd (upd H r (rowO sc i1 z1 q1)) d (.dT [])) ⟨SameB.trans .put (.of (same_upd nd)), ⟨_, _, _, R1.same (same_upd nd)⟩, upd_same, .nil _⟩ (same_upd nu)
    revert F0
    generalize upd (upd (upd H r (rowO sc i1 z1 q1)) d (.dT [])) u (.tup [.int (1 + (m : Int)), .ref d]) = H1
    intro F0
    -- top
    refine ⟨_, rfl, by show 3 ≤ sizeLine; decide, fun l nl => ?_⟩
    have F1 := F0.same (same_upd (o := .lst [.int 2, .int 6, .int 40]) nl)
    obtain ⟨i2, z2, q2, R2⟩ := F1.row
    refine ⟨r, sc, l, ns, i2, z2, q2, _, rfl, R2, upd_same, ?_, by simp, by decide, fun x i3 z3 q3 hx R3 => ?_⟩
    · obtain ⟨_, _, _, R0⟩ := F0.row
      exact (ne_of_none R0.at_ nl).symm
    have F2 := F1.draw R3
    obtain ⟨tp, rfl, t0, t1⟩ : ∃ tp : Int, x = .int tp ∧ 0 < tp ∧ tp ≤ 40 := by
      simp only [List.mem_cons, List.mem_singleton, List.not_mem_nil, or_false] at hx
      rcases hx with rfl | rfl | rfl
      · exact ⟨2, rfl, by decide, by decide⟩
      · exact ⟨6, rfl, by decide, by decide⟩
      · exact ⟨40, rfl, by decide, by decide⟩
    revert F2
    generalize upd (upd H1 l (.lst [.int 2, .int 6, .int 40])) r (rowO sc i3 z3 q3) = H2
    intro F2
    -- for b in range(1, many)
    refine ⟨_, rfl, 1, ((m + 1 : Nat) : Int), rfl, ⟨by decide, by decide, by omega, by omega⟩, for_range (lo := 1) (n := (((m + 1 : Nat) : Int) - 1).toNat)
      (fun j σ H' => ∃ y6 D, σ = [some (.ref r), some (.int 6), some (.int 2), some (nV (m + 1)), some (.ref d), some (.int tp), y6, none] ∧ Filling K H H' r sc ns d (m + 1) D ∧ D.length ≤ j)
      ⟨none, [], rfl, F2, Nat.le_refl _⟩ ?_ ?_⟩
    · rintro j σ H3 hj ⟨y6, D, rfl, F3, dl⟩
      have hjm : j < m := by omega
      have eb : (1 : Int) + (j : Nat) = ((j + 1 : Nat) : Int) := by omega
      rw [eb]
      obtain ⟨i4, z4, q4, R4⟩ := F3.row
      refine ⟨_, rfl, _, rfl, r, sc, ns, i4, z4, q4, tp, rfl, R4, t0, by omega, fun x i5 z5 q5 x0 x1 R5 => ?_⟩
      have F5 := F3.draw R5
      refine ⟨_, rfl, _, rfl, _, rfl, r, sc, ns, i5, z5, q5, ((j + 1 : Nat) : Int), rfl, R5, by omega, by omega, fun y i6 z6 q6 y0 y1 R6 => ?_⟩
      have F6 := F5.draw R6
      obtain ⟨yn, rfl⟩ : ∃ yn : Nat, y = (yn : Int) := ⟨y.toNat, by omega⟩
      refine ⟨_, rfl, by show 2 ≤ sizeLine; decide, fun p np => ?_⟩
      have F7 := F6.same (same_upd (o := .tup [.int (yn : Int), .int ((j + 1 : Nat) : Int)]) np)
      obtain ⟨D', e, ok', dl'⟩ := put_D (q := (yn, j + 1)) (w := x) F7.ok ⟨by show yn < j + 1; omega, by show j + 1 < m + 1; omega, x0, by show x ≤ 999; omega⟩
      refine ⟨d, _, rfl, DPut.t (k := kyD (yn, j + 1)) F7.at_ upd_same (by unfold kvD; rw [List.length_map]; exact sz (by omega)), ?_⟩
      rw [e]
      exact ⟨_, D', rfl, F7.put nd0 ok', by omega⟩
    · rintro σ H3 ⟨y6, D, rfl, F3, dl⟩
      -- for a in range(many): for b in range(a + 1, many)
      refine ⟨_, rfl, ((m + 1 : Nat) : Int), rfl, by omega, by omega, for_range (lo := 0) (n := ((m + 1 : Nat) : Int).toNat)
        (fun j σ H' => ∃ y6 y7 D, σ = [some (.ref r), some (.int 6), some (.int 2), some (nV (m + 1)), some (.ref d), some (.int tp), y6, y7] ∧ Filling K H H' r sc ns d (m + 1) D ∧ D.length ≤ 30)
        ⟨y6, none, D, rfl, F3, by omega⟩ ?_ ?_⟩
      · rintro a σ H4 ha ⟨y6, y7, D, rfl, F4, dl⟩
        have ea : (0 : Int) + (a : Nat) = (a : Int) := by omega
        rw [ea]
        have ham : a < m + 1 := by omega
        refine ⟨_, rfl, _, _, rfl, rfl, _, rfl, (a : Int) + 1, ((m + 1 : Nat) : Int), rfl, ⟨by omega, by omega, by omega, by omega⟩, for_range (lo := (a : Int) + 1) (n := (((m + 1 : Nat) : Int) - ((a : Int) + 1)).toNat)
          (fun j σ H' => ∃ y6 D, σ = [some (.ref r), some (.int 6), some (.int 2), some (nV (m + 1)), some (.ref d), some (.int tp), y6, some (.int (a : Int))] ∧ Filling K H H' r sc ns d (m + 1) D ∧ D.length ≤ 30)
          ⟨y6, D, rfl, F4, dl⟩ ?_ (fun σ H5 ⟨y6, D, e, F5, dl⟩ => ⟨y6, _, D, e, F5, dl⟩)⟩
        rintro j σ H5 hj ⟨y6, D, rfl, F5, dl⟩
        have eb : (a : Int) + 1 + (j : Nat) = ((a + 1 + j : Nat) : Int) := by omega
        rw [eb]
        have hb : a + 1 + j < m + 1 := by omega
        refine ⟨_, rfl, _, rfl, by show 2 ≤ sizeLine; decide, fun p np => ?_⟩
        have F6 := F5.same (same_upd (o := .tup [.int (a : Int), .int ((a + 1 + j : Nat) : Int)]) np)
        refine ⟨_, rfl, d, _, rfl, DGet.t (k := kyD (a, a + 1 + j)) F6.at_ upd_same, _, rfl, ite2 (fun _ => ?_) (fun hc => ?_)⟩
        · refine ⟨_, rfl, d, _, rfl, F6.at_, _, _, rfl, rfl, _, rfl, ite2 (fun hl => ?_) (fun _ => ?_)⟩
          · have hl : ((((kvD D).length : Nat)) : Int) < 30 := of_decide_eq_true hl
            have hl : D.length < 30 := by
              unfold kvD at hl
              rw [List.length_map] at hl
              omega
            obtain ⟨i7, z7, q7, R7⟩ := F6.row
            refine ⟨_, rfl, r, sc, ns, i7, z7, q7, 10, rfl, R7, by decide, by decide, fun x i8 z8 q8 x0 x1 R8 => ?_⟩
            have F8 := F6.draw R8
            refine ⟨_, rfl, _, _, rfl, rfl, _, rfl, ite2 (fun _ => ?_) (fun _ => ?_)⟩
            · refine ⟨_, rfl, _, rfl, r, sc, ns, i8, z8, q8, tp, rfl, R8, t0, by omega, fun y i9 z9 q9 y0 y1 R9 => ?_⟩
              have F9 := F8.draw R9
              refine ⟨_, rfl, _, rfl, _, rfl, by show 2 ≤ sizeLine; decide, fun p2 np2 => ?_⟩
              have F10 := F9.same (same_upd (o := .tup [.int (a : Int), .int ((a + 1 + j : Nat) : Int)]) np2)
              obtain ⟨D', e, ok', dl'⟩ := put_D (q := (a, a + 1 + j)) (w := y) F10.ok ⟨by show a < a + 1 + j; omega, by show a + 1 + j < m + 1; omega, y0, by show y ≤ 999; omega⟩
              refine ⟨d, _, rfl, DPut.t (k := kyD (a, a + 1 + j)) F10.at_ upd_same (by unfold kvD; rw [List.length_map]; exact sz (by omega)), ?_⟩
              rw [e]
              exact ⟨_, D', rfl, F10.put nd0 ok', by omega⟩
            · exact ⟨_, D, rfl, F8, dl⟩
          · exact ⟨_, D, rfl, F6, dl⟩
        · exact ⟨_, D, rfl, F6, dl⟩
      · rintro σ H4 ⟨y6, y7, D, rfl, F4, dl⟩
        refine ⟨_, rfl, _, rfl, d, kvD D, ksD D, rfl, F4.at_, ksD_keys D, by unfold ksD; rw [List.length_map]; omega, bd_ksD F4.ok (by omega), fun L S pm asc tup nS => ?_⟩
        have W := web_of F4.ok (by omega) (by omega) dl pm asc
        have sS : Same H4 (upd H4 S (.lst (L.map fun q => V.ref q.1))) := same_upd nS
        refine ⟨S, rfl, ⟨_, SqL.of upd_same⟩, fun D0 nD0 => lc_list (K := K) (a := S) (xs := L.map fun q => V.ref q.1) (fun j H' => Same (upd H4 S (.lst (L.map fun q => V.ref q.1))) H' ∧ ListAt tieO H' D0 ((tiesL D L).take j))
          ⟨same_upd nD0, [], upd_same, Objs.nil⟩ (fun j H' _ ⟨s4, _⟩ => SqL.of (s4 _ _ upd_same)) (fun j x H5 hx ⟨s5, as', hD, os'⟩ => ?_) (fun H5 ⟨s5, as', hD, os'⟩ => ?_)⟩
        · rw [List.getElem?_map] at hx
          obtain ⟨a, ha, rfl⟩ := Option.map_eq_some_iff.mp hx
          have s45 := sS.trans s5
          have hjl : j < L.length := (List.getElem?_eq_some_iff.mp ha).1
          have mk : a.2 ∈ ksD D := pm.mem_iff.mp (List.mem_map.mpr ⟨a, List.mem_of_getElem? ha, rfl⟩)
          obtain ⟨q0, hq, ek, ep⟩ := mem_ksD mk
          have ht := s45 _ _ (tup a (List.mem_of_getElem? ha))
          rw [ek] at ht
          refine ⟨a.1, _, rfl, SqT.of ht, rfl, .int (q0.1 : Int), _, rfl, .int (q0.2 : Int), [], rfl, rfl, ?_⟩
          have hd5 := s45 _ _ F4.at_
          refine yes_ rfl ⟨_, rfl, _, rfl, _, rfl, _, rfl, _, rfl, by show 2 ≤ sizeLine; decide, fun p np => ?_⟩
          have sp := same_upd (o := .tup [.int (q0.1 : Int), .int (q0.2 : Int)]) np
          have dg : DGet (upd H5 p (.tup [.int (q0.1 : Int), .int (q0.2 : Int)])) d (.ref p) (some (.int (wD D q0))) := by
            have := DGet.t (k := kyD q0) (sp _ _ hd5) upd_same
            rw [(val_wD hq).1] at this
            exact this
          refine ⟨d, _, rfl, dg, by show 3 ≤ sizeLine; decide, fun p2 np2 => ?_⟩
          have hDp := sp _ _ hD
          have osp := os'.same sp
          have s5p := s5.trans sp
          have lenD : (as'.map V.ref).length < sizeLine := by
            rw [List.length_map, os'.len, List.length_take]
            have := W.few
            exact sz (by omega)
          refine ⟨_, (upd_ne (ne_of_none hDp np2)).trans hDp, lenD, ?_⟩
          have et : (tiesL D L)[j]? = some (q0.1, q0.2, wD D q0) := by
            unfold tiesL
            rw [List.getElem?_map, ha]
            show some ((prL a.2).1, (prL a.2).2, wD D (prL a.2)) = _
            rw [ep]
          rw [List.take_add_one, et]
          exact list_grow (x := (q0.1, q0.2, wD D q0)) tie_tup nD0 hDp osp np2 s5p
        · have lT : (L.map fun q => V.ref q.1).length = (tiesL D L).length := by
            unfold tiesL
            rw [List.length_map, List.length_map]
          rw [lT, List.take_length] at os'
          refine ⟨D0, _, rfl, .inl ⟨SqL.of hD, fun t nt => ⟨by show 2 ≤ sizeLine; decide, fun p np => ?_⟩⟩⟩
          have s1 := same_upd (o := .tup (as'.map V.ref)) nt
          have s2 := same_upd (o := .tup [.int ((m + 1 : Nat) : Int), .ref t]) np
          have sAll := sS.trans (s5.trans (s1.trans s2))
          have F6 := F4.same sAll
          obtain ⟨i9, z9, q9, R9⟩ := F6.row
          exact k _ p t as' (m + 1) _ i9 z9 q9 F6.fr R9 ⟨upd_same, s2 _ _ upd_same, os'.same (s1.trans s2)⟩ W (by omega)
end
end JW
set_option Elab.async false
set_option linter.all false
set_option maxRecDepth 100000
set_option maxHeartbeats 4000000
namespace JW
open PySem PySem.Spec PyProof.Rows L2 RK Mt
abbrev sLParts : Stmt := topS 33
abbrev nLParts : List Str := ["_law_many", "_law_pairs_here", "_law_label", "_law_turn", "_law_a", "_law_b", "_law_least", "_law_place", "_law_root"]
theorem scLParts : FnScope nLParts ["_law_many", "_law_pairs_here"] (defScope sLParts) := ⟨rfl, rfl, rfl, by decide +kernel, rfl, by decide +kernel, by decide +kernel⟩
/-- the scope of the comprehension that is handed back -/
def outScope (s : Stmt) (j : Nat) : Scope := match (defBody s).getD j (.Pass ⟨0, 0, 0, 0⟩) with
  | .Return (some (.ListComp _ _ sc _)) _ => sc
  | _ => { kind := .function, names := [], isGenerator := false, isCoroutine := false }
section
variable {P : Program} {w : World} {K : PySem.W.Frag} {mg : Str → Option Value} {base : Heap} {f : Addr} {fd : FuncData}
theorem ok_lparts (F : Fun K "_law_parts" "_law_parts" sLParts f fd) (T : Txt mg) : FnOk P w K mg base CX0 1 f fd ["_law_many", "_law_pairs_here"] spPartsOf := by
  refine F.ok scLParts (fun vs H Q E h => ?_) (fun cdv A outer s H vs Q E hr h => ?_)
  · obtain ⟨l, n, ps, rfl, _⟩ := h
    rfl
  · obtain ⟨l, n, ps, rfl, ⟨as, hl, os⟩, hb, n1, n12, q⟩ := h
    refine ⟨_, pss_cons (ps_set (i := 2) scLParts.nd rfl (.inr rfl) (pe_listRg rfl (by rfl) T.list (prg_1 (by rfl) T.range (pv 0))))
      (pss_cons (ps_for PassesOwn.never rfl (pi_range1 (by rfl) T.range (pa_cons (pv 0) pa_nil)) (pg_name (i := 3) scLParts.nd rfl (.inl rfl))
        (pss_one (ps_for PassesOwn.never rfl (pi_list (pv 1)) (pg_tup rfl (pgs_cons (pg_name (i := 4) scLParts.nd rfl (.inl rfl)) (pgs_cons (pg_name (i := 5) scLParts.nd rfl (.inl rfl)) pgs_nil)))
          (pss_cons (ps_set (i := 6) scLParts.nd rfl (.inl rfl) (pe_callB (call_min2 rfl) (by rfl) T.min (by decide +kernel) (pa_cons (pe_ix ix_list (pv 2) (pv 4) (fun _ _ => rfl)) (pa_cons (pe_ix ix_list (pv 2) (pv 5) (fun _ _ => rfl)) pa_nil))))
            (pss_one (ps_asg (pe_tup (pa_cons (pv 6) (pa_cons (pv 6) pa_nil))) (pg_tup rfl (pgs_cons (pg_sub (pv 2) (pv 4) set_list) (pgs_cons (pg_sub (pv 2) (pv 5) set_list) pgs_nil)))))))))
      (pss_one (ps_ret (pe_lc (own := [("_law_root", 8)]) (g := gName 8) (tt := tYes) rfl scLParts.nd
        (pi_list (pe_callB (cr_sortedSet rfl) (by rfl) T.sorted (by decide +kernel) (pa_cons (pe_callTy (cr_setI rfl) (by rfl) T.set (by decide +kernel) (pa_cons (pv 2) pa_nil)) pa_nil)))
        (blkOk_by (own := [("_law_root", 8)]) (N := nLParts) (sc := defScope sLParts) (by decide +kernel)) (fun _ _ _ _ _ => pg_name (i := 8) scLParts.nd rfl (.inr rfl)) (fun _ _ _ _ _ => pts_nil)
        (fun _ _ _ _ _ => pe_callTy (r := rTupOf K) cr_tupOf (by rfl) T.tuple (by decide +kernel) (pa_cons
          (pe_lc (own := [("_law_place", 7)]) (g := gName 7) rfl scLParts.nd (pi_range1 (by rfl) T.range (pa_cons (pv 0) pa_nil))
            (blkOk_by (own := [("_law_place", 7)]) (N := nLParts) (sc := relS (outScope sLParts 2) (defScope sLParts)) (by decide +kernel)) (fun _ _ _ _ _ => pg_name (i := 7) scLParts.nd rfl (.inl rfl))
            (fun _ _ _ _ _ => pts_one (pt_cmpR op_eq (pe_ix (r := rIxL K) ix_list (pv 2) (pv 7) (fun _ _ => rfl)) (pv 8) (nomark _))) (fun _ _ _ _ _ => pv 7)) pa_nil)))))), ?_⟩
    refine ⟨_, rfl, n, rfl, rg_ok (by omega), fun la nla => ?_⟩
    rw [rgV_nat]
    have s1 : Same H (upd H la (.lst ((List.range n).map nV))) := same_upd nla
    refine ⟨_, rfl, (n : Int), rfl, by omega, by omega, for_range (lo := 0) (n := ((n : Nat) : Int).toNat) (fun i σ H' => ∃ y3 y4 y5 y6, σ = [some (nV n), some (.ref l), some (.ref la), y3, y4, y5, y6, none, none] ∧ Same H H' ∧ H' la = some (.lst ((turnsL ps i (List.range n)).map nV)))
      ⟨none, none, none, none, rfl, s1, upd_same⟩ ?_ ?_⟩
    · rintro i σ H1 hi ⟨y3, y4, y5, y6, rfl, sm, hla⟩
      have L0 := turns_ok hb i
      refine ⟨_, rfl, l, rfl, ⟨_, SqL.of (sm _ _ hl)⟩, for_list (K := K) (a := l) (xs := as.map V.ref) (fun j σ H' => ∃ y3 y4 y5 y6, σ = [some (nV n), some (.ref l), some (.ref la), y3, y4, y5, y6, none, none] ∧ Same H H' ∧ H' la = some (.lst (((ps.take j).foldl relax (turnsL ps i (List.range n))).map nV)))
        ⟨_, y4, y5, y6, rfl, sm, hla⟩ (fun j σ H' _ ⟨_, _, _, _, _, s2, _⟩ => SqL.of (s2 _ _ hl)) ?_ ?_⟩
      · rintro j x σ H2 hx ⟨z3, z4, z5, z6, rfl, s2, hla2⟩
        obtain ⟨a0, ha0, rfl⟩ := refs_get hx
        obtain ⟨⟨a, b⟩, hab, hto⟩ := os.get ha0
        have hm := hb _ (List.mem_of_getElem? hab)
        have ha : a < n := hm.1
        have hbb : b < n := hm.2
        have L2' := foldl_ok hb (ps.take j) _ (fun p m => List.mem_of_mem_take m) L0
        have tk : (ps.take (j + 1)).foldl relax (turnsL ps i (List.range n)) = relax ((ps.take j).foldl relax (turnsL ps i (List.range n))) (a, b) := by
          rw [List.take_add_one, hab, List.foldl_append]
          rfl
        revert hla2 L2'
        generalize hlab : (ps.take j).foldl relax (turnsL ps i (List.range n)) = lab
        rw [hlab] at tk
        intro hla2 L2'
        have al : a < lab.length := by rw [L2'.len]; exact ha
        have bl : b < lab.length := by rw [L2'.len]; exact hbb
        refine ⟨a0, _, rfl, SqT.of (s2 _ _ hto), rfl, nV a, _, rfl, nV b, [], rfl, rfl, ?_⟩
        refine ⟨_, rfl, _, rfl, la, _, a, _, rfl, rfl, SqL.of hla2, atI_nat (nV_getD al), _, rfl, _, rfl, la, _, b, _, rfl, rfl, SqL.of hla2, atI_nat (nV_getD bl), (lab.getD a 0 : Nat), (lab.getD b 0 : Nat), rfl, ?_⟩
        rw [min_nV]
        refine ⟨_, rfl, _, rfl, by show 2 ≤ sizeLine; decide, fun p np => ?_⟩
        have sp := same_upd (o := .tup [nV (min (lab.getD a 0) (lab.getD b 0)), nV (min (lab.getD a 0) (lab.getD b 0))]) np
        refine ⟨p, _, rfl, SqT.of upd_same, rfl, nV (min (lab.getD a 0) (lab.getD b 0)), _, rfl, _, rfl, _, rfl, la, _, a, a, rfl, rfl, sp _ _ hla2, ixN_nat (by rw [List.length_map]; exact al), ?_⟩
        refine ⟨nV (min (lab.getD a 0) (lab.getD b 0)), [], rfl, _, rfl, _, rfl, la, _, b, b, rfl, rfl, upd_same, ixN_nat (by rw [List.length_set, List.length_map]; exact bl), rfl, ?_⟩
        rw [upd_upd, ← List.map_set, ← List.map_set]
        refine ⟨_, _, _, _, rfl, fun c o hc => ?_, ?_⟩
        · rw [upd_ne (ne_of_none hc nla)]
          exact sp _ _ (s2 _ _ hc)
        · rw [upd_same, tk]
          rfl
      · rintro σ H2 ⟨z3, z4, z5, z6, rfl, s2, hla2⟩
        have et : ps.take (as.map V.ref).length = ps := List.take_of_length_le (by rw [List.length_map, os.len]; exact Nat.le_refl _)
        rw [et] at hla2
        exact ⟨_, _, _, _, rfl, s2, hla2⟩
    · rintro σ H1 ⟨y3, y4, y5, y6, rfl, sm, hla⟩
      rw [Int.toNat_natCast] at hla
      have LO := turns_ok hb n
      have LI := labels_iff n1 hb
      revert hla LO LI
      generalize turnsL ps n (List.range n) = lab
      intro hla LO LI
      have ll := LO.len
      refine ⟨_, rfl, la, lab.map fun x : Nat => (x : Int), rfl, by rw [← nV_ints]; exact SqL.of hla, by rw [List.length_map]; omega, fun S c cle nS => ?_⟩
      rw [List.length_map] at cle
      have sS := same_upd (o := SetO w S (fun j => decide (j ∈ lab.map fun x : Nat => (x : Int))) c) nS
      refine ⟨S, _, c, rfl, upd_same, by omega, fun ys R asc mem yl nR => ?_⟩
      have sR := sS.trans (same_upd (o := .lst (ys.map V.int)) nR)
      refine ⟨R, rfl, ⟨_, SqL.of upd_same⟩, fun D nD => lc_list (K := K) (a := R) (xs := ys.map V.int) (fun i H' => Same (upd (upd H1 S (SetO w S (fun j => decide (j ∈ lab.map fun x : Nat => (x : Int))) c)) R (.lst (ys.map V.int))) H' ∧ ∃ acc, H' D = some (.lst acc) ∧ acc.length = i)
        ⟨same_upd nD, [], upd_same, rfl⟩ (fun i H' _ ⟨s4, _⟩ => SqL.of (s4 _ _ upd_same)) (fun i x H4 hx ⟨s4, acc, hacc, hal⟩ => ?_) (fun H4 ⟨s4, acc, hacc, hal⟩ => ?_)⟩
      · rw [List.getElem?_map] at hx
        obtain ⟨k, hk, rfl⟩ := Option.map_eq_some_iff.mp hx
        have hil : i < ys.length := (List.getElem?_eq_some_iff.mp hk).1
        have s14 := sR.trans s4
        refine yes_ rfl ⟨_, rfl, (n : Int), rfl, by omega, by omega, fun D2 nD2 => lc_range (lo := 0) (n := ((n : Nat) : Int).toNat) (fun j H' => Same H4 H' ∧ ∃ zs, H' D2 = some (.lst zs) ∧ zs.length ≤ j)
          ⟨same_upd nD2, [], upd_same, Nat.le_refl _⟩ (fun j H5 hj ⟨s5, zs, hzs, hzl⟩ => ?_) (fun H5 ⟨s5, zs, hzs, hzl⟩ => ?_)⟩
        · have hjn : j < n := by rw [Int.toNat_natCast] at hj; exact hj
          have ej : (0 : Int) + (j : Nat) = (j : Int) := by omega
          rw [ej]
          have hla5 := s5 _ _ (s14 _ _ hla)
          refine ⟨rfl, _, rfl, _, rfl, la, _, j, _, rfl, rfl, SqL.of hla5, atI_nat (nV_getD (by omega)), _, rfl, rfl, _, rfl, ite2 (fun _ => ?_) (fun _ => ⟨s5, zs, hzs, by omega⟩)⟩
          refine ⟨_, rfl, zs, hzs, sz (by omega), fun c o hc => ?_, _, upd_same, ?_⟩
          · rw [upd_ne (ne_of_none hc nD2)]
            exact s5 _ _ hc
          · rw [List.length_append, List.length_singleton]
            omega
        · refine ⟨D2, zs, rfl, .inl ⟨SqL.of hzs, fun t nt => ?_⟩⟩
          have h5 := s5 _ _ hacc
          refine ⟨acc, (upd_ne (ne_of_none h5 nt)).trans h5, by rw [hal]; exact sz (by omega), fun c o hc => ?_, _, upd_same, ?_⟩
          · rw [upd_ne (ne_of_none hc nD)]
            exact same_upd nt _ _ (s5 _ _ (s4 _ _ hc))
          · rw [List.length_append, hal]
            rfl
      · rw [List.length_map] at hal
        refine q H4 D acc (sm.trans (sR.trans s4)) (sm.free (sR.free nD)) hacc ?_
        rw [hal]
        have at_ : ∀ x, x < n → lab[x]? = some (lab.getD x 0) := fun x hx => by
          rw [List.getD_eq_getElem?_getD, List.getElem?_eq_getElem (by omega)]
          rfl
        have h0 : ((lab.getD 0 0 : Nat) : Int) ∈ lab.map fun x : Nat => (x : Int) := List.mem_map.mpr ⟨_, List.mem_of_getElem? (at_ 0 n1), rfl⟩
        rw [one_iff (ls := lab.map fun x : Nat => (x : Int)) (asc.imp fun h => Int.ne_of_lt h) (fun k => by rw [mem, decide_eq_true_eq]) h0, ← LI]
        constructor
        · intro h x hx
          have := h _ (List.mem_map.mpr ⟨_, List.mem_of_getElem? (at_ x hx), rfl⟩)
          omega
        · intro h k hk
          obtain ⟨v, hv, rfl⟩ := List.mem_map.mp hk
          obtain ⟨x, hx, ex⟩ := List.getElem_of_mem hv
          have h2 := h x (by omega)
          rw [List.getD_eq_getElem?_getD, List.getElem?_eq_getElem hx] at h2
          show ((v : Nat) : Int) = _
          rw [← ex]
          exact congrArg Int.ofNat h2
end
end JW
set_option Elab.async false
set_option linter.all false
set_option maxRecDepth 100000
set_option maxHeartbeats 4000000
namespace JW
open PySem PySem.Spec PyProof.Rows L2 RK Mt
abbrev sLPairs : Stmt := topS 34
abbrev sLPrice : Stmt := topS 35
abbrev sLLots : Stmt := topS 36
abbrev sLIsTree : Stmt := topS 37
abbrev sLTrees : Stmt := topS 38
theorem scLPairs : FnScope ["_law_web", "_law_lot", "_law_index"] ["_law_web", "_law_lot"] (defScope sLPairs) := ⟨rfl, rfl, rfl, by decide +kernel, rfl, by decide +kernel, by decide +kernel⟩
theorem scLPrice : FnScope ["_law_web", "_law_lot", "_law_index"] ["_law_web", "_law_lot"] (defScope sLPrice) := ⟨rfl, rfl, rfl, by decide +kernel, rfl, by decide +kernel, by decide +kernel⟩
abbrev nLots : List Str := ["_law_many", "_law_size", "_law_found", "_law_at", "_law_lot"]
theorem scLLots : FnScope nLots ["_law_many", "_law_size"] (defScope sLLots) := ⟨rfl, rfl, rfl, by decide +kernel, rfl, by decide +kernel, by decide +kernel⟩
theorem scLIsTree : FnScope ["_law_web", "_law_lot"] ["_law_web", "_law_lot"] (defScope sLIsTree) := ⟨rfl, rfl, rfl, by decide +kernel, rfl, by decide +kernel, by decide +kernel⟩
theorem scLTrees : FnScope ["_law_web", "_law_lot"] ["_law_web"] (defScope sLTrees) := ⟨rfl, rfl, rfl, by decide +kernel, rfl, by decide +kernel, by decide +kernel⟩
/-- len of a list or tuple, the written part told -/
theorem cr_lenS {X : Cx} : CallR X (.builtin "len") (Evl.rLenS X.K) := call_len_seq
theorem lot_tup : ∀ q : List Nat, ∃ xs, lotO q = .tup xs := fun _ => ⟨_, rfl⟩
/-- a list in the making grows by a thing that stands -/
theorem list_keep {α : Type} {f : α → HO} (hf : ∀ x, ∃ xs, f x = .tup xs) {H0 H : Hp} {D a : Addr} {as : List Addr} {xs : List α} {x : α} (nD : H0 D = none) (hD : H D = some (.lst (as.map V.ref))) (os : Objs f H as xs) (ha : H a = some (f x)) (sm : Same H0 H) :
    Same H0 (upd H D (.lst (as.map V.ref ++ [.ref a]))) ∧ ListAt f (upd H D (.lst (as.map V.ref ++ [.ref a]))) D (xs ++ [x]) := by
  have nc : ∀ {c : Addr} {y : α}, H c = some (f y) → c ≠ D := fun {c y} h => ne_of h hD (by obtain ⟨zs, e⟩ := hf y; rw [e]; intro z; cases z)
  refine ⟨fun c o hc => (upd_ne (ne_of_none hc nD)).trans (sm _ _ hc), as ++ [a], ?_, ?_⟩
  · rw [upd_same, List.map_append]
    rfl
  · refine Objs.snoc ⟨os.len, fun k y hy => ?_⟩ ((upd_ne (nc ha)).trans ha)
    obtain ⟨c, h1, h2⟩ := os.at_ k y hy
    exact ⟨c, h1, (upd_ne (nc h2)).trans h2⟩
theorem take_step {α : Type} {l : List α} {i : Nat} {x : α} (h : l[i]? = some x) : l.take (i + 1) = l.take i ++ [x] := by
  rw [List.take_add_one, h]
  rfl
theorem filt_take {α β : Type} (c : α → Bool) (g : α → β) {l : List α} {i : Nat} {x : α} (h : l[i]? = some x) : ((l.take (i + 1)).filter c).map g = ((l.take i).filter c).map g ++ (if c x = true then [g x] else []) := by
  rw [take_step h, List.filter_append, List.map_append]
  congr 1
  by_cases q : c x = true
  · rw [if_pos q, List.filter_cons_of_pos q]
    rfl
  · rw [if_neg q, List.filter_cons_of_neg q]
    rfl
/-- a lot met in a list of lots -/
theorem lots_get {H H' : Hp} {as : List Addr} {Ls : List (List Nat)} {i : Nat} {x : V} (os : Objs lotO H as Ls) (s : Same H H') (hx : (as.map V.ref)[i]? = some x) : ∃ (b : Addr) (L : List Nat), x = .ref b ∧ Ls[i]? = some L ∧ H' b = some (lotO L) := by
  obtain ⟨b, hb, rfl⟩ := refs_get hx
  obtain ⟨L, hL, hbe⟩ := os.get hb
  exact ⟨b, L, rfl, hL, s _ _ hbe⟩
def spLPrice : Sp := fun vs H Q _ => ∃ (p t : Addr) (as : List Addr) (n : Nat) (E : List Tie) (a : Addr) (L : List Nat), vs = [.ref p, .ref a] ∧ WebAt H p t as n E ∧ H a = some (lotO L) ∧ (∀ x, x ∈ L → x < E.length) ∧ L.length ≤ 5000 ∧
  ∀ H' : Hp, Same H H' → Q (.int (cost (prE E) L)) H'
def spLLots : Sp := fun vs H Q _ => ∃ m k : Nat, vs = [nV m, nV k] ∧ m ≤ 10 ∧ ∀ (H' : Hp) (l : Addr), Same H H' → H l = none → ListAt lotO H' l ((lotsL k m).filter fun L => decide (L.length = k)) → Q (.ref l) H'
def spLIsTree : Sp := fun vs H Q _ => ∃ (p t : Addr) (as : List Addr) (n : Nat) (E : List Tie) (a : Addr) (L : List Nat), vs = [.ref p, .ref a] ∧ WebAt H p t as n E ∧ WebOk n E ∧ H a = some (lotO L) ∧ (∀ x, x ∈ L → x < E.length) ∧ L.length ≤ 5000 ∧
  ∀ (H' : Hp) (b : Bool), Same H H' → (b = true ↔ L.length = n - 1 ∧ Joined n (L.map (edE E))) → Q (.bl b) H'
def spLTrees : Sp := fun vs H Q _ => ∃ (p t : Addr) (as : List Addr) (n : Nat) (E : List Tie), vs = [.ref p] ∧ WebAt H p t as n E ∧ WebOk n E ∧ E.length ≤ 10 ∧
  ∀ (H' : Hp) (l : Addr) (Ts : List (List Nat)), Same H H' → H l = none → ListAt lotO H' l Ts → (∀ L, L ∈ Ts ↔ Tree n E.length (edE E) L) → Ts.length ≤ 1024 → Q (.ref l) H'
section
variable {P : Program} {w : World} {K : PySem.W.Frag} {mg : Str → Option Value} {base : Heap} {f : Addr} {fd : FuncData}
theorem ok_lpairs (F : Fun K "_law_pairs" "_law_pairs" sLPairs f fd) : FnOk P w K mg base CX0 1 f fd ["_law_web", "_law_lot"] spPairsOf := by
  refine F.ok scLPairs (fun vs H Q E h => ?_) (fun cdv A outer s H vs Q E hr h => ?_)
  · obtain ⟨p, t, as, n, E, a, L, rfl, _⟩ := h
    rfl
  · obtain ⟨p, t, as, n, E, a, L, rfl, W, ha, hL, hl, q⟩ := h
    refine ⟨_, pss_one (ps_ret (pe_lc (own := [("_law_index", 2)]) (g := gName 2) (tt := tYes) rfl scLPairs.nd (pi_tup (pv 1))
      (blkOk_by (own := [("_law_index", 2)]) (N := ["_law_web", "_law_lot", "_law_index"]) (sc := defScope sLPairs) (by decide +kernel)) (fun _ _ _ _ _ => pg_name (i := 2) scLPairs.nd rfl (.inl rfl)) (fun _ _ _ _ _ => pts_nil)
      (fun _ _ _ _ _ => pe_slice (r := rSlT K) sl_tup (pe_ix (r := rIxT K) ix_tup (pe_ix (r := rIxT K) ix_tup (pv 0) pe_int (fun _ _ => rfl)) (pv 2) (fun _ _ => rfl)) po_none (po_some pe_int)))), ?_⟩
    refine ⟨_, rfl, a, rfl, ⟨_, SqT.of ha⟩, fun D nD => lc_tup (K := K) (a := a) (xs := L.map nV) (fun i H' => Same H H' ∧ ListAt pairO H' D ((L.take i).map (edE E)))
      ⟨same_upd nD, [], upd_same, Objs.nil⟩ (fun i H' _ ⟨sm, _⟩ => SqT.of (sm _ _ ha)) (fun i x H3 hx ⟨sm, as', hD, os'⟩ => ?_) (fun H3 ⟨sm, hD⟩ => ?_)⟩
    · obtain ⟨j, hj, rfl⟩ := nV_get hx
      have W3 := W.same sm
      have hjE := hL j (List.mem_of_getElem? hj)
      obtain ⟨b, hb, hbe⟩ := W3.2.2.at_ j _ (List.getElem?_eq_getElem hjE)
      refine yes_ rfl ⟨_, rfl, p, _, 1, .ref t, rfl, rfl, SqT.of W3.1, atI_nat (j := 1) rfl, _, rfl, t, _, j, .ref b, rfl, rfl, SqT.of W3.2.1, atI_nat (refs_at hb), 2, rfl, b, _, rfl, SqT.of hbe, cut2_not, fun p1 n1 => ?_⟩
      have nD1 : D ≠ p1 := ne_of_none hD n1
      have hlen : (as'.map V.ref).length = min i L.length := by rw [List.length_map, os'.len, List.length_map, List.length_take]
      refine ⟨_, (upd_ne nD1).trans hD, by rw [hlen]; exact sz (by omega), fun c o hc => ?_, as' ++ [p1], ?_, ?_⟩
      · have nc : c ≠ D := ne_of_none hc nD
        rw [upd_ne nc]
        exact same_upd n1 _ _ (sm _ _ hc)
      · rw [upd_same, List.map_append]
        rfl
      · have e1 : (L.take (i + 1)).map (edE E) = (L.take i).map (edE E) ++ [(E[j].1, E[j].2.1)] := by
          rw [List.take_add_one, hj, List.map_append]
          show _ ++ [edE E j] = _
          rw [edE_at (List.getElem?_eq_getElem hjE)]
        rw [e1]
        refine Objs.snoc ⟨os'.len, fun k y hy => ?_⟩ ?_
        · obtain ⟨c, h1, h2⟩ := os'.at_ k y hy
          refine ⟨c, h1, ?_⟩
          have nc : c ≠ D := ne_of h2 hD (by intro z; cases z)
          rw [upd_ne nc]
          exact same_upd n1 _ _ h2
        · rw [upd_ne nD1.symm, upd_same]
          rfl
    · have e1 : L.take (L.map nV).length = L := List.take_of_length_le (by rw [List.length_map]; exact Nat.le_refl _)
      rw [e1] at hD
      exact q _ _ sm nD hD

theorem ok_lprice (F : Fun K "_law_price" "_law_price" sLPrice f fd) (T : Txt mg) : FnOk P w K mg base CX0 1 f fd ["_law_web", "_law_lot"] spLPrice := by
  refine F.ok scLPrice (fun vs H Q E h => ?_) (fun cdv A outer s H vs Q E hr h => ?_)
  · obtain ⟨p, t, as, n, E, a, L, rfl, _⟩ := h
    rfl
  · obtain ⟨p, t, as, n, E, a, L, rfl, W, ha, hL, hl, q⟩ := h
    refine ⟨_, pss_one (ps_ret (pe_callB (cr_sum rfl) (by rfl) T.sum (by decide +kernel) (pa_cons (pe_lc (own := [("_law_index", 2)]) (g := gName 2) (tt := tYes) rfl scLPrice.nd (pi_tup (pv 1))
      (blkOk_by (own := [("_law_index", 2)]) (N := ["_law_web", "_law_lot", "_law_index"]) (sc := defScope sLPrice) (by decide +kernel)) (fun _ _ _ _ _ => pg_name (i := 2) scLPrice.nd rfl (.inl rfl)) (fun _ _ _ _ _ => pts_nil)
      (fun _ _ _ _ _ => pe_ix (r := rIxT K) ix_tup (pe_ix (r := rIxT K) ix_tup (pe_ix (r := rIxT K) ix_tup (pv 0) pe_int (fun _ _ => rfl)) (pv 2) (fun _ _ => rfl)) pe_int (fun _ _ => rfl))) pa_nil))), ?_⟩
    refine ⟨_, rfl, a, rfl, ⟨_, SqT.of ha⟩, fun D nD => lc_tup (K := K) (a := a) (xs := L.map nV) (fun i H' => Same H H' ∧ H' D = some (.lst (((L.take i).map (prE E)).map V.int)))
      ⟨same_upd nD, upd_same⟩ (fun i H' _ ⟨sm, _⟩ => SqT.of (sm _ _ ha)) (fun i x H3 hx ⟨sm, hD⟩ => ?_) (fun H3 ⟨sm, hD⟩ => ?_)⟩
    · obtain ⟨j, hj, rfl⟩ := nV_get hx
      have W3 := W.same sm
      have hjE := hL j (List.mem_of_getElem? hj)
      obtain ⟨b, hb, hbe⟩ := W3.2.2.at_ j _ (List.getElem?_eq_getElem hjE)
      refine yes_ rfl ⟨_, rfl, p, _, 1, .ref t, rfl, rfl, SqT.of W3.1, atI_nat (j := 1) rfl, _, rfl, t, _, j, .ref b, rfl, rfl, SqT.of W3.2.1, atI_nat (refs_at hb), b, _, 2, .int E[j].2.2, rfl, rfl, SqT.of hbe, atI_nat (j := 2) rfl, _, hD, ?_, fun c o hc => ?_, ?_⟩
      · rw [List.length_map, List.length_map, List.length_take]
        exact sz (by omega)
      · rw [upd_ne (ne_of_none hc nD)]
        exact sm _ _ hc
      · rw [upd_same, take_step hj, List.map_append, List.map_append]
        show _ = some (HO.lst (_ ++ [V.int (prE E j)]))
        rw [prE_at (List.getElem?_eq_getElem hjE)]
    · have e1 : L.take (L.map nV).length = L := List.take_of_length_le (by rw [List.length_map]; exact Nat.le_refl _)
      rw [e1] at hD
      exact ⟨D, _, rfl, SqL.of hD, q _ sm⟩
theorem ok_llots (F : Fun K "_law_lots" "_law_lots" sLLots f fd) (T : Txt mg) : FnOk P w K mg base CX0 1 f fd ["_law_many", "_law_size"] spLLots := by
  refine F.ok scLLots (fun vs H Q E h => ?_) (fun cdv A outer s H vs Q E hr h => ?_)
  · obtain ⟨m, k, rfl, _⟩ := h
    rfl
  · obtain ⟨m, k, rfl, hm, q⟩ := h
    refine ⟨_, pss_cons (ps_set (i := 2) scLLots.nd rfl (.inl rfl) (pe_lst (pa_cons (pe_tup pa_nil) pa_nil)))
      (pss_cons (ps_for PassesOwn.never rfl (pi_range1 (by rfl) T.range (pa_cons (pv 0) pa_nil)) (pg_name (i := 3) scLLots.nd rfl (.inr rfl))
        (pss_one (ps_set (i := 2) scLLots.nd rfl (.inl rfl) (pe_op op_cat (pv 2) (pe_lc (own := [("_law_lot", 4)]) (g := gName 4) rfl scLLots.nd (pi_list (pv 2))
          (blkOk_by (own := [("_law_lot", 4)]) (N := nLots) (sc := defScope sLLots) (by decide +kernel)) (fun _ _ _ _ _ => pg_name (i := 4) scLLots.nd rfl (.inl rfl))
          (fun _ _ _ _ _ => pts_one (pt_cmpR op_lt (pe_callB (r := Evl.rLenS K) cr_lenS (by rfl) T.len PySem.boot_len (pa_cons (pv 4) pa_nil)) (pv 1) (nomark _)))
          (fun _ _ _ _ _ => pe_op (r := rCatA K) op_catA (pv 4) (pe_tup (pa_cons (pv 3) pa_nil))))))))
      (pss_one (ps_ret (pe_lc (own := [("_law_lot", 4)]) (g := gName 4) rfl scLLots.nd (pi_list (pv 2))
          (blkOk_by (own := [("_law_lot", 4)]) (N := nLots) (sc := defScope sLLots) (by decide +kernel)) (fun _ _ _ _ _ => pg_name (i := 4) scLLots.nd rfl (.inl rfl))
          (fun _ _ _ _ _ => pts_one (pt_cmpR op_eq (pe_callB (r := Evl.rLenS K) cr_lenS (by rfl) T.len PySem.boot_len (pa_cons (pv 4) pa_nil)) (pv 1) (nomark _)))
          (fun _ _ _ _ _ => pv 4))))), ?_⟩
    refine ⟨by show 0 ≤ sizeLine; exact Nat.zero_le _, fun e0 ne0 => ⟨by show 1 ≤ sizeLine; decide, fun f0 nf0 => ?_⟩⟩
    have s1 := (same_upd (o := .tup []) ne0).trans (same_upd (o := .lst [.ref e0]) nf0)
    have nfH : H f0 = none := (same_upd (o := .tup []) ne0).free nf0
    have low : ∀ a, a ≤ m → (lotsL k a).length ≤ 1024 := fun a ha => Nat.le_trans (lots_length k a) (Nat.le_trans (Nat.pow_le_pow_right (by decide) (show a ≤ 10 by omega)) (by decide))
    refine ⟨_, rfl, (m : Int), rfl, by omega, by omega, for_range (lo := 0) (n := ((m : Nat) : Int).toNat) (fun a σ H' => ∃ l y3, σ = [some (nV m), some (nV k), some (.ref l), y3, none] ∧ Same H H' ∧ ListAt lotO H' l (lotsL k a))
      ⟨f0, none, rfl, s1, [e0], upd_same, Objs.snoc (Objs.nil) (same_upd nf0 _ _ upd_same)⟩ ?_ ?_⟩
    · rintro a σ H1 ha ⟨l, y3, rfl, sm, as, hl, os⟩
      rw [Int.toNat_natCast] at ha
      have ea : (0 : Int) + (a : Nat) = (a : Int) := by omega
      rw [ea]
      have lw := low a (by omega)
      refine ⟨_, rfl, _, rfl, l, rfl, ⟨_, SqL.of hl⟩, fun D nD => lc_list (K := K) (a := l) (xs := as.map V.ref) (fun j H' => Same H1 H' ∧ ListAt lotO H' D ((((lotsL k a).take j).filter fun L => decide (L.length < k)).map fun L => L ++ [a]))
        ⟨same_upd nD, [], upd_same, Objs.nil⟩ (fun j H' _ ⟨s2, _⟩ => SqL.of (s2 _ _ hl)) (fun j x H2 hx ⟨s2, as2, h2, os2⟩ => ?_) (fun H2 ⟨s2, as2, h2, os2⟩ => ?_)⟩
      · obtain ⟨b, L, rfl, hL, hb⟩ := lots_get os s2 hx
        have hj : j < (lotsL k a).length := (List.getElem?_eq_some_iff.mp hL).1
        have len2 : (as2.map V.ref).length < sizeLine := by
          rw [List.length_map, os2.len, List.length_map]
          have := List.length_filter_le (fun L : List Nat => decide (L.length < k)) ((lotsL k a).take j)
          rw [List.length_take] at this
          exact sz (by omega)
        refine ⟨rfl, _, rfl, b, _, rfl, .inr (SqT.of hb), _, rfl, _, _, rfl, rfl, _, rfl, ite2 (fun hc => ?_) (fun hc => ?_)⟩
        · have hlt : L.length < k := by
            have h3 : (((L.map nV).length : Nat) : Int) < (k : Int) := of_decide_eq_true hc
            rw [List.length_map] at h3
            omega
          rw [filt_take (fun L : List Nat => decide (L.length < k)) (fun L => L ++ [a]) hL, if_pos (decide_eq_true hlt)]
          have lb : L.length ≤ a := by
            have h4 := (mem_lots k a L).mp (List.mem_of_getElem? hL)
            exact nodup_le (asc_nodup h4.1) h4.2.1
          refine ⟨_, rfl, _, rfl, by show 1 ≤ sizeLine; decide, fun p np => ?_⟩
          have sp := same_upd (o := .tup [.int (a : Int)]) np
          have s2p := s2.trans sp
          have h2p := sp _ _ h2
          have os2p := os2.same sp
          refine ⟨b, p, L.map nV, [.int (a : Int)], rfl, rfl, SqT.of (sp _ _ hb), SqT.of upd_same, Nat.le_of_lt (by rw [List.length_map]; exact sz (by show L.length + 1 ≤ 5000; omega)), fun e => ?_, fun _ e => (by cases e), fun _ _ p2 np2 => ?_⟩
          · have eL : L = [] := List.map_eq_nil_iff.mp e
            subst eL
            refine ⟨_, h2p, len2, ?_⟩
            exact list_keep (x := [] ++ [a]) lot_tup nD h2p os2p upd_same s2p
          · refine ⟨_, (upd_ne (ne_of_none h2p np2)).trans h2p, len2, ?_⟩
            have eo : (HO.tup (L.map nV ++ [V.int (a : Int)])) = lotO (L ++ [a]) := by
              unfold lotO
              rw [List.map_append]
              rfl
            rw [eo]
            exact list_grow (x := L ++ [a]) lot_tup nD h2p os2p np2 s2p
        · have hlt : ¬ L.length < k := fun z => hc (decide_eq_true (by
            show (((L.map nV).length : Nat) : Int) < (k : Int)
            rw [List.length_map]
            omega))
          rw [filt_take (fun L : List Nat => decide (L.length < k)) (fun L => L ++ [a]) hL, if_neg (by simpa using hlt), List.append_nil]
          exact ⟨s2, as2, h2, os2⟩
      · have et : (lotsL k a).take (as.map V.ref).length = lotsL k a := List.take_of_length_le (by rw [List.length_map, os.len]; exact Nat.le_refl _)
        rw [et] at os2
        have l2 := os2.len
        rw [List.length_map] at l2
        have l3 := List.length_filter_le (fun L : List Nat => decide (L.length < k)) (lotsL k a)
        refine ⟨l, D, _, _, rfl, rfl, s2 _ _ hl, h2, Nat.le_of_lt (by rw [List.length_map, List.length_map, os.len]; exact sz (by omega)), fun p np => ?_⟩
        have sp := same_upd (o := .lst (as.map V.ref ++ as2.map V.ref)) np
        refine ⟨p, _, rfl, sm.trans (s2.trans sp), as ++ as2, by rw [upd_same, List.map_append], ?_⟩
        have o1 := os.same (s2.trans sp)
        have o2 := os2.same sp
        show Objs lotO _ (as ++ as2) (lotsL k a ++ _)
        refine ⟨by rw [List.length_append, List.length_append, o1.len, o2.len], fun i x hx => ?_⟩
        by_cases hi : i < (lotsL k a).length
        · rw [List.getElem?_append_left hi] at hx
          obtain ⟨c, h3, h4⟩ := o1.at_ i x hx
          exact ⟨c, by rw [List.getElem?_append_left (by rw [o1.len]; exact hi)]; exact h3, h4⟩
        · rw [List.getElem?_append_right (by omega)] at hx
          obtain ⟨c, h3, h4⟩ := o2.at_ _ x hx
          exact ⟨c, by rw [List.getElem?_append_right (by rw [o1.len]; omega), o1.len]; exact h3, h4⟩
    · rintro σ H1 ⟨l, y3, rfl, sm, as, hl, os⟩
      rw [Int.toNat_natCast] at os
      have lw := low m (Nat.le_refl _)
      refine ⟨_, rfl, l, rfl, ⟨_, SqL.of hl⟩, fun D nD => lc_list (K := K) (a := l) (xs := as.map V.ref) (fun j H' => Same H1 H' ∧ ListAt lotO H' D ((((lotsL k m).take j).filter fun L => decide (L.length = k)).map id))
        ⟨same_upd nD, [], upd_same, Objs.nil⟩ (fun j H' _ ⟨s2, _⟩ => SqL.of (s2 _ _ hl)) (fun j x H2 hx ⟨s2, as2, h2, os2⟩ => ?_) (fun H2 ⟨s2, h2⟩ => ?_)⟩
      · obtain ⟨b, L, rfl, hL, hb⟩ := lots_get os s2 hx
        have hj : j < (lotsL k m).length := (List.getElem?_eq_some_iff.mp hL).1
        have len2 : (as2.map V.ref).length < sizeLine := by
          rw [List.length_map, os2.len, List.length_map]
          have := List.length_filter_le (fun L : List Nat => decide (L.length = k)) ((lotsL k m).take j)
          rw [List.length_take] at this
          exact sz (by omega)
        refine ⟨rfl, _, rfl, b, _, rfl, .inr (SqT.of hb), _, rfl, rfl, _, rfl, ite2 (fun hc => ?_) (fun hc => ?_)⟩
        · have heq : L.length = k := by
            have h3 : (((L.map nV).length : Nat) : Int) = (k : Int) := V.int.inj (of_decide_eq_true hc)
            rw [List.length_map] at h3
            omega
          rw [filt_take (fun L : List Nat => decide (L.length = k)) id hL, if_pos (decide_eq_true heq)]
          exact ⟨_, rfl, _, h2, len2, list_keep lot_tup nD h2 os2 hb s2⟩
        · have heq : ¬ L.length = k := fun z => hc (decide_eq_true (congrArg V.int (by rw [List.length_map, z])))
          rw [filt_take (fun L : List Nat => decide (L.length = k)) id hL, if_neg (by simpa using heq), List.append_nil]
          exact ⟨s2, as2, h2, os2⟩
      · have et : (lotsL k m).take (as.map V.ref).length = lotsL k m := List.take_of_length_le (by rw [List.length_map, os.len]; exact Nat.le_refl _)
        rw [et, List.map_id] at h2
        exact q _ _ (sm.trans s2) (sm.free nD) h2
theorem ok_listree (F : Fun K "_law_is_tree" "_law_is_tree" sLIsTree f fd) (T : Txt mg) (GP : Cl P w K mg base 1 "_law_pairs" spPairsOf) (GA : Cl P w K mg base 1 "_law_parts" spPartsOf) : FnOk P w K mg base CX0 2 f fd ["_law_web", "_law_lot"] spLIsTree := by
  refine F.ok scLIsTree (fun vs H Q E h => ?_) (fun cdv A outer s H vs Q E hr h => ?_)
  · obtain ⟨p, t, as, n, E, a, L, rfl, _⟩ := h
    rfl
  · obtain ⟨p, t, as, n, E, a, L, rfl, W, ok, ha, hL, hl, q⟩ := h
    refine ⟨_, pss_one (ps_ret (pe_and (pe_cmpR op_eq (pe_callB call_len_seq (by rfl) T.len PySem.boot_len (pa_cons (pv 1) pa_nil)) (pe_op op_sub (pe_ix ix_tup (pv 0) pe_int (fun _ _ => rfl)) pe_int) (nomark _))
      (pe_one (pe_cmpR op_eq (pe_callB call_len_seq (by rfl) T.len PySem.boot_len (pa_cons (pe_cl GA hr (by decide) (by rfl) (pa_cons (pe_ix ix_tup (pv 0) pe_int (fun _ _ => rfl))
        (pa_cons (pe_cl GP hr (by decide) (by rfl) (pa_cons (pv 0) (pa_cons (pv 1) pa_nil))) pa_nil))) pa_nil)) pe_int (nomark _))))), ?_⟩
    have lo := ok.lo
    refine ⟨_, rfl, a, _, rfl, .inr (SqT.of ha), _, rfl, p, _, 0, nV n, rfl, rfl, SqT.of W.1, atI_nat (j := 0) rfl, _, _, rfl, rfl, rfl, _, rfl, ite2 (fun hc => ?_) (fun hc => ?_)⟩
    · have e1 : L.length = n - 1 := by
        have h3 : (((L.map nV).length : Nat) : Int) = (n : Int) - 1 := V.int.inj (of_decide_eq_true hc)
        rw [List.length_map] at h3
        omega
      refine ⟨_, rfl, p, _, 0, nV n, rfl, rfl, SqT.of W.1, atI_nat (j := 0) rfl, _, rfl, _, rfl, p, t, as, n, E, a, L, rfl, W, ha, hL, hl, fun H1 l s1 nl hP => ?_⟩
      refine ⟨l, n, _, rfl, hP, lot_ok ok hL, ok.lo, ok.hi, fun H2 r xs s2 nr hx iff => ⟨r, xs, rfl, .inl (SqL.of hx), rfl, ?_⟩⟩
      refine q H2 _ (s1.trans s2) ?_
      rw [decide_eq_true_eq, ← iff]
      constructor
      · intro h
        have := V.int.inj h
        exact ⟨e1, by omega⟩
      · rintro ⟨_, h⟩
        rw [h]
        rfl
    · refine q H false (Same.refl H) ⟨fun h => (by cases h), fun h => absurd (decide_eq_true ?_) hc⟩
      show V.int (((L.map nV).length : Nat) : Int) = V.int ((n : Int) - 1)
      rw [List.length_map, h.1]
      exact congrArg V.int (by omega)
theorem ok_ltrees (F : Fun K "_law_trees" "_law_trees" sLTrees f fd) (T : Txt mg) (GL : Cl P w K mg base 1 "_law_lots" spLLots) (GI : Cl P w K mg base 2 "_law_is_tree" spLIsTree) : FnOk P w K mg base CX0 3 f fd ["_law_web"] spLTrees := by
  refine F.ok scLTrees (fun vs H Q E h => ?_) (fun cdv A outer s H vs Q E hr h => ?_)
  · obtain ⟨p, t, as, n, E, rfl, _⟩ := h
    rfl
  · obtain ⟨p, t, as, n, E, rfl, W, ok, few, q⟩ := h
    refine ⟨_, pss_one (ps_ret (pe_lc (own := [("_law_lot", 1)]) (g := gName 1) rfl scLTrees.nd (pi_list (pe_cl GL hr (by decide) (by rfl) (pa_cons (pe_callB call_len_seq (by rfl) T.len PySem.boot_len (pa_cons (pe_ix ix_tup (pv 0) pe_int (fun _ _ => rfl)) pa_nil))
        (pa_cons (pe_op op_sub (pe_ix ix_tup (pv 0) pe_int (fun _ _ => rfl)) pe_int) pa_nil))))
      (blkOk_by (own := [("_law_lot", 1)]) (N := ["_law_web", "_law_lot"]) (sc := defScope sLTrees) (by decide +kernel)) (fun _ _ _ _ _ => pg_name (i := 1) scLTrees.nd rfl (.inl rfl))
      (fun _ _ _ _ _ => pts_one (pt_val (pe_cl GI hr (by decide) (by rfl) (pa_cons (pv 0) (pa_cons (pv 1) pa_nil)))))
      (fun _ _ _ _ _ => pv 1))), ?_⟩
    have lo := ok.lo
    have lenE : (as.map V.ref).length = E.length := by rw [List.length_map, W.2.2.len]
    refine ⟨_, rfl, p, _, 1, .ref t, rfl, rfl, SqT.of W.1, atI_nat (j := 1) rfl, t, _, rfl, .inr (SqT.of W.2.1), _, rfl, p, _, 0, nV n, rfl, rfl, SqT.of W.1, atI_nat (j := 0) rfl, _, _, rfl, rfl, E.length, n - 1, ?_, few, fun H1 l s1 nl hl => ?_⟩
    · rw [lenE]
      show [V.int ((E.length : Nat) : Int), V.int ((n : Int) - 1)] = [V.int ((E.length : Nat) : Int), V.int ((n - 1 : Nat) : Int)]
      rw [show (n : Int) - 1 = ((n - 1 : Nat) : Int) by omega]
    obtain ⟨as1, h1, os1⟩ := hl
    have W1 := W.same s1
    have memL : ∀ L, L ∈ (lotsL (n - 1) E.length).filter (fun L => decide (L.length = n - 1)) ↔ L.Pairwise (· < ·) ∧ (∀ x, x ∈ L → x < E.length) ∧ L.length = n - 1 := fun L => by
      rw [List.mem_filter, mem_lots, decide_eq_true_eq]
      constructor
      · rintro ⟨⟨h1, h2, _⟩, h3⟩
        exact ⟨h1, h2, h3⟩
      · rintro ⟨h1, h2, h3⟩
        exact ⟨⟨h1, h2, by omega⟩, h3⟩
    have lnL : ((lotsL (n - 1) E.length).filter (fun L => decide (L.length = n - 1))).length ≤ 1024 :=
      Nat.le_trans (List.length_filter_le _ _) (Nat.le_trans (lots_length _ _) (Nat.le_trans (Nat.pow_le_pow_right (by decide) few) (by decide)))
    revert os1 memL lnL
    generalize (lotsL (n - 1) E.length).filter (fun L => decide (L.length = n - 1)) = Ls
    intro os1 memL lnL
    refine ⟨l, rfl, ⟨_, SqL.of h1⟩, fun D nD => lc_list (K := K) (a := l) (xs := as1.map V.ref) (fun j H' => Same H1 H' ∧ ∃ Ts, ListAt lotO H' D Ts ∧ Ts.length ≤ j ∧ ∀ L, L ∈ Ts ↔ L ∈ Ls.take j ∧ Joined n (L.map (edE E)))
      ⟨same_upd nD, [], ⟨[], upd_same, Objs.nil⟩, Nat.le_refl _, fun L => by simp⟩ (fun j H' _ ⟨s2, _⟩ => SqL.of (s2 _ _ h1)) (fun j x H2 hx ⟨s2, Ts, ⟨as2, h2, os2⟩, tl, mt⟩ => ?_) (fun H2 ⟨s2, Ts, h2, tl, mt⟩ => ?_)⟩
    · obtain ⟨b, L, rfl, hL, hb⟩ := lots_get os1 s2 hx
      have hj : j < Ls.length := (List.getElem?_eq_some_iff.mp hL).1
      obtain ⟨m1, m2, m3⟩ := (memL L).mp (List.mem_of_getElem? hL)
      have lL : L.length ≤ 5000 := by have := nodup_le (asc_nodup m1) m2; omega
      refine ⟨rfl, _, rfl, _, rfl, p, t, as, n, E, b, L, rfl, W1.same s2, ok, hb, m2, lL, fun H3 b3 s3 iff => ⟨b3, rfl, ?_⟩⟩
      have s23 := s2.trans s3
      cases b3 with
      | true =>
        have J := (iff.mp rfl).2
        have len2 : (as2.map V.ref).length < sizeLine := by
          rw [List.length_map, os2.len]
          exact sz (by omega)
        refine iteT ⟨_, rfl, _, s3 _ _ h2, len2, ?_⟩
        have g := list_keep lot_tup nD (s3 _ _ h2) (os2.same s3) (s3 _ _ hb) s23
        refine ⟨g.1, _, g.2, by rw [List.length_append, List.length_singleton]; omega, fun M => ?_⟩
        rw [take_step hL, List.mem_append, List.mem_append, mt, List.mem_singleton]
        constructor
        · rintro (h | rfl)
          · exact ⟨.inl h.1, h.2⟩
          · exact ⟨.inr rfl, J⟩
        · rintro ⟨h | h, J'⟩
          · exact .inl ⟨h, J'⟩
          · exact .inr h
      | false =>
        refine iteF ⟨s23, Ts, ⟨as2, s3 _ _ h2, os2.same s3⟩, by omega, fun M => ?_⟩
        rw [take_step hL, List.mem_append, mt, List.mem_singleton]
        constructor
        · rintro h
          exact ⟨.inl h.1, h.2⟩
        · rintro ⟨h | rfl, J'⟩
          · exact ⟨h, J'⟩
          · exact nomatch iff.mpr ⟨m3, J'⟩
    · have et : Ls.take (as1.map V.ref).length = Ls := List.take_of_length_le (by rw [List.length_map, os1.len]; exact Nat.le_refl _)
      rw [et] at mt
      rw [List.length_map, os1.len] at tl
      refine q H2 D Ts (s1.trans s2) (s1.free nD) h2 (fun L => ?_) (by omega)
      rw [mt, memL]
      constructor
      · rintro ⟨⟨h1, h2, h3⟩, J⟩
        exact ⟨h1, h2, h3, J⟩
      · intro t
        exact ⟨⟨t.asc, t.bd, t.len⟩, t.con⟩
end
end JW
set_option Elab.async false
set_option linter.all false
set_option maxRecDepth 100000
set_option maxHeartbeats 4000000
namespace JW
open PySem PySem.Spec PyProof.Rows L2 RK Mt
abbrev sAlike : Stmt := topS 31
abbrev nAlike : List Str := ["_law_found", "_law_due", "_law_k"]
theorem scAlike : FnScope nAlike ["_law_found", "_law_due"] (defScope sAlike) := ⟨rfl, rfl, rfl, by decide +kernel, rfl, by decide +kernel, by decide +kernel⟩
/-- alike by R: the answer is True -/
def spAl (R : Hp → V → V → Prop) : Sp := fun vs H Q _ => ∃ x y : V, vs = [x, y] ∧ R H x y ∧ ∀ H', Same H H' → Q (.bl true) H'
def R0 : Hp → V → V → Prop := fun _ x y => ∃ n : Nat, x = nV n ∧ y = nV n
/-- tuples of things that are alike by R -/
def RT (R : Hp → V → V → Prop) : Hp → V → V → Prop := fun H x y => ∃ (a b : Addr) (xs ys : List V), x = .ref a ∧ y = .ref b ∧ H a = some (.tup xs) ∧ H b = some (.tup ys) ∧ xs.length = ys.length ∧ ys.length ≤ 5000 ∧ ∀ (i : Nat) (u v : V), xs[i]? = some u → ys[i]? = some v → R H u v
def Mono (R : Hp → V → V → Prop) : Prop := ∀ H H' x y, Same H H' → R H x y → R H' x y
theorem R0.mono : Mono R0 := fun _ _ _ _ _ h => h
theorem RT.mono {R : Hp → V → V → Prop} (m : Mono R) : Mono (RT R) := by
  rintro H H' x y s ⟨a, b, xs, ys, e1, e2, h1, h2, h3, h4, h5⟩
  exact ⟨a, b, xs, ys, e1, e2, s _ _ h1, s _ _ h2, h3, h4, fun i u v hu hv => m _ _ _ _ s (h5 i u v hu hv)⟩
section
variable {P : Program} {w : World} {K : PySem.W.Frag} {mg : Str → Option Value} {base : Heap} {f : Addr} {fd : FuncData}
theorem kit2T : PySem.W.kitAny K (.type "tuple") [.type "tuple", .type "list"] = some true := kitAny_cons (b := true) (kit_ty (by decide +kernel)) (fun h => nomatch h) fun _ => rfl
theorem kit2I : PySem.W.kitAny K (.type "int") [.type "tuple", .type "list"] = some false :=
  kitAny_cons (b := false) (kit_ty (by decide +kernel)) (fun _ => kitAny_cons (b := false) (kit_ty (by decide +kernel)) (fun _ => kitAny_nil) fun h => nomatch h) fun h => nomatch h
theorem cls2 : Paired ClsV [V.ty "tuple", V.ty "list"] [Value.type "tuple", Value.type "list"] := .cons (.ty _) (.cons (.ty _) .nil)
theorem ok_alike0 (F : Fun K "_law_alike" "_law_alike" sAlike f fd) (T : Txt mg) : FnOk P w K mg base CX0 1 f fd ["_law_found", "_law_due"] (spAl R0) := by
  refine F.ok scAlike (fun vs H Q E h => ?_) (fun cdv A outer s H vs Q E hr h => ?_)
  · obtain ⟨x, y, rfl, _⟩ := h
    rfl
  · obtain ⟨x, y, rfl, ⟨n, rfl, rfl⟩, q⟩ := h
    refine ⟨_, pss_cons (ps_if (pt_val (pe_callB call_isiT (by rfl) T.isi PyProof.Rows.boot_isinstance (pa_cons (pv 1) (pa_cons (pe_tup (pa_cons (pe_bltn (v := .ty "tuple") (by rfl) T.tuple (by decide +kernel) rfl) (pa_cons (pe_bltn (v := .ty "list") (by rfl) T.list (by decide +kernel) rfl) pa_nil))) pa_nil)))) pss_never pss_nil)
      (pss_cons (ps_if (PW.pt (pw_or (pt_cmpR op_isN (pv 1) pe_non (nomark _)) (pw_or1 (pt_val (pe_callB call_isi (by rfl) T.isi PyProof.Rows.boot_isinstance (pa_cons (pv 1) (pa_cons (pe_bltn (v := .ty "str") (by rfl) T.str (by decide +kernel) rfl) pa_nil))))))) pss_never pss_nil)
      (pss_one (ps_ret (pe_and (pe_callB call_isi (by rfl) T.isi PyProof.Rows.boot_isinstance (pa_cons (pv 0) (pa_cons (pe_bltn (v := .ty "int") (by rfl) T.int (by decide +kernel) rfl) pa_nil)))
        (pe_and (pe_cmpR op_eq (pe_callB call_isi (by rfl) T.isi PyProof.Rows.boot_isinstance (pa_cons (pv 0) (pa_cons (pe_bltn (v := .ty "bool") (by rfl) T.bool (by decide +kernel) rfl) pa_nil)))
          (pe_callB call_isi (by rfl) T.isi PyProof.Rows.boot_isinstance (pa_cons (pv 1) (pa_cons (pe_bltn (v := .ty "bool") (by rfl) T.bool (by decide +kernel) rfl) pa_nil))) (nomark _))
        (pe_one (pe_cmpR op_eq (pv 0) (pv 1) (nomark _)))))))), ?_⟩
    refine ⟨_, rfl, by show 2 ≤ sizeLine; decide, fun T0 nT => ⟨_, T0, _, _, _, false, rfl, upd_same, cls2, .base (.int _), kit2I, false, rfl, iteF ?_⟩⟩
    refine ⟨_, rfl, rfl, false, rfl, ?_⟩
    refine iteF ⟨_, rfl, _, _, _, _, false, rfl, .ty _, .base (.int _), kit_ty (by decide +kernel), false, rfl, iteF ?_⟩
    refine ⟨_, rfl, _, _, _, _, true, rfl, .ty _, .base (.int _), kit_ty (by decide +kernel), true, rfl, iteT ?_⟩
    refine ⟨_, rfl, _, _, _, _, false, rfl, .ty _, .base (.int _), kit_ty (by decide +kernel), _, rfl, _, _, _, _, false, rfl, .ty _, .base (.int _), kit_ty (by decide +kernel), rfl, true, rfl, iteT ?_⟩
    refine ⟨_, rfl, _, rfl, rfl, ?_⟩
    rw [decide_eq_true rfl]
    exact q _ (same_upd nT)
theorem ok_alikeT {k : Nat} {R : Hp → V → V → Prop} (F : Fun K "_law_alike" "_law_alike" sAlike f fd) (T : Txt mg) (m : Mono R) (G : Cl P w K mg base k "_law_alike" (spAl R)) : FnOk P w K mg base CX0 (k + 1) f fd ["_law_found", "_law_due"] (spAl (RT R)) := by
  refine F.ok scAlike (fun vs H Q E h => ?_) (fun cdv A outer s H vs Q E hr h => ?_)
  · obtain ⟨x, y, rfl, _⟩ := h
    rfl
  · obtain ⟨x, y, rfl, ⟨a, b, xs, ys, rfl, rfl, ha, hb, hl, h5, hR⟩, q⟩ := h
    refine ⟨_, pss_cons (ps_if (pt_val (pe_callB call_isiT (by rfl) T.isi PyProof.Rows.boot_isinstance (pa_cons (pv 1) (pa_cons (pe_tup (pa_cons (pe_bltn (v := .ty "tuple") (by rfl) T.tuple (by decide +kernel) rfl) (pa_cons (pe_bltn (v := .ty "list") (by rfl) T.list (by decide +kernel) rfl) pa_nil))) pa_nil))))
        (pss_cons (ps_if (PW.pt (pw_or (pt_not (pt_val (pe_callB call_isiT (by rfl) T.isi PyProof.Rows.boot_isinstance (pa_cons (pv 0) (pa_cons (pe_tup (pa_cons (pe_bltn (v := .ty "tuple") (by rfl) T.tuple (by decide +kernel) rfl) (pa_cons (pe_bltn (v := .ty "list") (by rfl) T.list (by decide +kernel) rfl) pa_nil))) pa_nil)))))
            (pw_or1 (pt_cmpR op_ne (pe_callB call_isi (by rfl) T.isi PyProof.Rows.boot_isinstance (pa_cons (pv 0) (pa_cons (pe_bltn (v := .ty "list") (by rfl) T.list (by decide +kernel) rfl) pa_nil)))
              (pe_callB call_isi (by rfl) T.isi PyProof.Rows.boot_isinstance (pa_cons (pv 1) (pa_cons (pe_bltn (v := .ty "list") (by rfl) T.list (by decide +kernel) rfl) pa_nil))) (nomark _))))) (pss_one (ps_ret pe_bl)) pss_nil)
        (pss_cons (ps_if (pt_cmpR op_ne (pe_callB call_len_seq (by rfl) T.len PySem.boot_len (pa_cons (pv 0) pa_nil)) (pe_callB call_len_seq (by rfl) T.len PySem.boot_len (pa_cons (pv 1) pa_nil)) (nomark _)) (pss_one (ps_ret pe_bl)) pss_nil)
        (pss_one (ps_ret (pe_cmpR (op_eqD hr.units) (pe_lc (own := [("_law_k", 2)]) (g := gName 2) rfl scAlike.nd (pi_range1 (by rfl) T.range (pa_cons (pe_callB call_len_seq (by rfl) T.len PySem.boot_len (pa_cons (pv 1) pa_nil)) pa_nil))
          (blkOk_by (own := [("_law_k", 2)]) (N := nAlike) (sc := defScope sAlike) (by decide +kernel)) (fun _ _ _ _ _ => pg_name (i := 2) scAlike.nd rfl (.inl rfl))
          (fun _ _ _ _ _ => pts_one (pt_not (pt_val (pe_cl G hr (Nat.le_refl _) (by rfl) (pa_cons (pe_ix (r := rIxT K) ix_tup (pv 0) (pv 2) (fun _ _ => rfl)) (pa_cons (pe_ix (r := rIxT K) ix_tup (pv 1) (pv 2) (fun _ _ => rfl)) pa_nil))))))
          (fun _ _ _ _ _ => pv 2)) (pe_lst pa_nil) (nomark _)))))) pss_nil) pss_never, ?_⟩
    refine ⟨_, rfl, by show 2 ≤ sizeLine; decide, fun T0 nT => ?_⟩
    have s0 := same_upd (o := .tup [.ty "tuple", .ty "list"]) nT
    refine ⟨_, T0, _, _, _, true, rfl, upd_same, cls2, .base (.tup (s0 _ _ hb)), kit2T, true, rfl, iteT ?_⟩
    refine ⟨_, rfl, by show 2 ≤ sizeLine; decide, fun T1 nT1 => ?_⟩
    have s1 := s0.trans (same_upd (o := .tup [.ty "tuple", .ty "list"]) nT1)
    refine ⟨_, T1, _, _, _, true, rfl, upd_same, cls2, .base (.tup (s1 _ _ ha)), kit2T, true, rfl, iteF ?_⟩
    refine ⟨_, rfl, _, _, _, _, false, rfl, .ty _, .base (.tup (s1 _ _ ha)), kit_ty (by decide +kernel), _, rfl, _, _, _, _, false, rfl, .ty _, .base (.tup (s1 _ _ hb)), kit_ty (by decide +kernel), rfl, false, rfl, iteF ?_⟩
    refine ⟨_, rfl, a, xs, rfl, .inr (SqT.of (s1 _ _ ha)), _, rfl, b, ys, rfl, .inr (SqT.of (s1 _ _ hb)), rfl, false, ?_, iteF ?_⟩
    · rw [hl, decide_eq_true rfl]
      rfl
    refine ⟨_, rfl, b, ys, rfl, .inr (SqT.of (s1 _ _ hb)), _, rfl, by omega, by omega, fun D nD => lc_range (lo := 0) (n := ((ys.length : Nat) : Int).toNat) (fun i H' => Same H H' ∧ H' D = some (.lst []))
      ⟨s1.trans (same_upd nD), upd_same⟩ (fun i H3 hi ⟨sm, hD⟩ => ?_) (fun H3 ⟨sm, hD⟩ => ?_)⟩
    · rw [Int.toNat_natCast] at hi
      have ei : (0 : Int) + (i : Nat) = (i : Int) := by omega
      rw [ei]
      have hx : xs[i]? = some xs[i] := List.getElem?_eq_getElem (by omega)
      have hy : ys[i]? = some ys[i] := List.getElem?_eq_getElem hi
      refine ⟨rfl, _, rfl, _, rfl, a, xs, i, xs[i], rfl, rfl, SqT.of (sm _ _ ha), atI_nat hx, _, rfl, _, rfl, b, ys, i, ys[i], rfl, rfl, SqT.of (sm _ _ hb), atI_nat hy, _, _, rfl, m _ _ _ _ sm (hR i _ _ hx hy), fun H4 s4 => ⟨true, rfl, ?_⟩⟩
      exact iteF ⟨sm.trans s4, s4 _ _ hD⟩
    · refine ⟨Nat.zero_le _, fun l nl => ⟨.list [], .list [], .lst (SqL.of (same_upd nl _ _ hD)) .nil, .lst (SqL.of upd_same) .nil, by decide, by decide, ?_⟩⟩
      exact q _ (sm.trans (same_upd nl))
end
end JW
set_option Elab.async false
set_option linter.all false
set_option maxRecDepth 100000
set_option maxHeartbeats 4000000
namespace JW
open PySem PySem.Spec PyProof.Rows L2 RK Mt
/-! ### two comprehensions over a list of lots, once for all -/
section
variable {K : PySem.W.Frag} {l D : Addr} {as : List Addr} {Ls : List (List Nat)} {σ : L2.St} {H1 : Hp} {Qd : Hp → Prop} {v : Nat}
theorem wipe_set {x : Option V} : wipe ((wipe σ [v]).set v x) [v] = wipe σ [v] := by
  show (((σ.set v none).set v x).set v none) = σ.set v none
  rw [List.set_set, List.set_set]
theorem wipe_get (hv : v < σ.length) {x : V} : ((wipe σ [v]).set v (some x))[v]? = some (some x) := by
  show ((σ.set v none).set v (some x))[v]? = _
  rw [List.set_set, List.getElem?_set_self hv]
/-- [lot for lot in .. if c(lot)] -/
theorem lc_filter {tt : TT} (c : List Nat → Bool) (hl : H1 l = some (.lst (as.map V.ref))) (os : Objs lotO H1 as Ls) (nD : H1 D = none) (few : Ls.length ≤ 1024) (hv : v < σ.length)
    (ht : ∀ (L : List Nat) (b : Addr) (H2 : Hp) (k : Bool → Hp → Prop), L ∈ Ls → H2 b = some (lotO L) → Same H1 H2 → (∀ H3, Same H2 H3 → k (c L) H3) → tt ((wipe σ [v]).set v (some (.ref b))) H2 k)
    (hd : ∀ H2, Same H1 H2 → ListAt lotO H2 D (Ls.filter c) → Qd H2) :
    ∃ W : Nat → Nat → Hp → Prop, (∃ m, W 0 m (upd H1 D (.lst []))) ∧ ∀ i m H, W i m H →
      ((Itl K l).stop i H ∧ Qd H) ∨ ((Itl K l).go i H ∧ ∃ Nx : Hp → Prop, (∀ H', Nx H' → ∃ m', m' < m ∧ W (i + 1) m' H') ∧ ∀ x H', (Itl K l).yld i H x H' → gName v x (wipe σ [v]) H' fun σ2 H2 => wipe σ2 [v] = wipe σ [v] ∧ tt σ2 H2 fun b H3 =>
        if b = true then (tVar v : TE) σ2 H3 fun y H4 => ∃ acc, H4 D = some (.lst acc) ∧ acc.length < sizeLine ∧ Nx (upd H4 D (.lst (acc ++ [y]))) else Nx H3) := by
  refine lc_list (K := K) (a := l) (xs := as.map V.ref) (fun j H' => Same H1 H' ∧ ListAt lotO H' D (((Ls.take j).filter c).map id))
    ⟨same_upd nD, [], upd_same, Objs.nil⟩ (fun j H' _ ⟨s2, _⟩ => SqL.of (s2 _ _ hl)) (fun j x H2 hx ⟨s2, as2, h2, os2⟩ => ?_) (fun H2 ⟨s2, h2⟩ => ?_)
  · obtain ⟨b, L, rfl, hL, hb⟩ := lots_get os s2 hx
    have hj : j < Ls.length := (List.getElem?_eq_some_iff.mp hL).1
    refine ⟨wipe_set, ht L b H2 _ (List.mem_of_getElem? hL) hb s2 fun H3 s3 => ?_⟩
    have len2 : (as2.map V.ref).length < sizeLine := by
      rw [List.length_map, os2.len, List.length_map]
      have := List.length_filter_le c (Ls.take j)
      rw [List.length_take] at this
      exact sz (by omega)
    show if c L = true then _ else _
    by_cases hc : c L = true
    · rw [if_pos hc]
      refine ⟨_, wipe_get hv, _, s3 _ _ h2, len2, ?_⟩
      rw [filt_take c id hL, if_pos hc]
      exact list_keep lot_tup nD (s3 _ _ h2) (os2.same s3) (s3 _ _ hb) (s2.trans s3)
    · rw [if_neg hc, filt_take c id hL, if_neg hc, List.append_nil]
      exact ⟨s2.trans s3, as2, s3 _ _ h2, os2.same s3⟩
  · have et : Ls.take (as.map V.ref).length = Ls := List.take_of_length_le (by rw [List.length_map, os.len]; exact Nat.le_refl _)
    rw [et, List.map_id] at h2
    exact hd H2 s2 h2
/-- [g(lot) for lot in ..], ints -/
theorem lc_ints {te : TE} (g : List Nat → Int) (hl : H1 l = some (.lst (as.map V.ref))) (os : Objs lotO H1 as Ls) (nD : H1 D = none) (few : Ls.length ≤ 1024) (hv : v < σ.length)
    (ht : ∀ (L : List Nat) (b : Addr) (H2 : Hp) (k : V → Hp → Prop), L ∈ Ls → H2 b = some (lotO L) → Same H1 H2 → (∀ H3, Same H2 H3 → k (.int (g L)) H3) → te ((wipe σ [v]).set v (some (.ref b))) H2 k)
    (hd : ∀ H2, Same H1 H2 → H2 D = some (.lst ((Ls.map g).map V.int)) → Qd H2) :
    ∃ W : Nat → Nat → Hp → Prop, (∃ m, W 0 m (upd H1 D (.lst []))) ∧ ∀ i m H, W i m H →
      ((Itl K l).stop i H ∧ Qd H) ∨ ((Itl K l).go i H ∧ ∃ Nx : Hp → Prop, (∀ H', Nx H' → ∃ m', m' < m ∧ W (i + 1) m' H') ∧ ∀ x H', (Itl K l).yld i H x H' → gName v x (wipe σ [v]) H' fun σ2 H2 => wipe σ2 [v] = wipe σ [v] ∧ tYes σ2 H2 fun b H3 =>
        if b = true then te σ2 H3 fun y H4 => ∃ acc, H4 D = some (.lst acc) ∧ acc.length < sizeLine ∧ Nx (upd H4 D (.lst (acc ++ [y]))) else Nx H3) := by
  refine lc_list (K := K) (a := l) (xs := as.map V.ref) (fun j H' => Same H1 H' ∧ H' D = some (.lst (((Ls.take j).map g).map V.int)))
    ⟨same_upd nD, upd_same⟩ (fun j H' _ ⟨s2, _⟩ => SqL.of (s2 _ _ hl)) (fun j x H2 hx ⟨s2, h2⟩ => ?_) (fun H2 ⟨s2, h2⟩ => ?_)
  · obtain ⟨b, L, rfl, hL, hb⟩ := lots_get os s2 hx
    have hj : j < Ls.length := (List.getElem?_eq_some_iff.mp hL).1
    refine yes_ wipe_set (ht L b H2 _ (List.mem_of_getElem? hL) hb s2 fun H3 s3 => ?_)
    refine ⟨_, s3 _ _ h2, ?_, fun o u hc => ?_, ?_⟩
    · rw [List.length_map, List.length_map, List.length_take]
      exact sz (by omega)
    · rw [upd_ne (ne_of_none hc nD)]
      exact s3 _ _ (s2 _ _ hc)
    · rw [upd_same, take_step hL, List.map_append, List.map_append]
      rfl
  · have et : Ls.take (as.map V.ref).length = Ls := List.take_of_length_le (by rw [List.length_map, os.len]; exact Nat.le_refl _)
    rw [et] at h2
    exact hd H2 s2 h2
end
/-! ### what the law asks, in plain words -/
theorem inV_dec (i : Nat) (L : List Nat) : inV (nV i) (L.map nV) = decide (i ∈ L) := by
  unfold inV
  rw [List.any_map]
  by_cases h : i ∈ L
  · rw [decide_eq_true h, List.any_eq_true]
    exact ⟨i, h, by show ((i : Int) == (i : Int)) = true; simp⟩
  · rw [decide_eq_false h, List.any_eq_false]
    intro x hx e
    have e' : ((x : Int) == (i : Int)) = true := e
    have : (x : Int) = (i : Int) := by simpa using e'
    have : x = i := by omega
    exact h (this ▸ hx)
theorem flat_nV (L : List Nat) : (L.map nV).all flatV = true := by
  rw [List.all_map]
  exact List.all_eq_true.mpr fun _ _ => rfl
section
variable {n m : Nat} {ed : Nat → Nat × Nat} {w : Nat → Int} {Ts : List (List Nat)}
theorem least_of (mem : ∀ L, L ∈ Ts ↔ Tree n m ed L) {c : Int} (h1 : c ∈ Ts.map (cost w)) (h2 : ∀ y, y ∈ Ts.map (cost w) → c ≤ y) : (∀ L, Least n m ed w L ↔ L ∈ Ts ∧ cost w L = c) ∧ ∃ L, Least n m ed w L := by
  have key : ∀ L, Least n m ed w L ↔ L ∈ Ts ∧ cost w L = c := fun L => by
    constructor
    · intro l
      obtain ⟨S, hS, e⟩ := List.mem_map.mp h1
      have a1 := l.le S ((mem S).mp hS)
      have mL := (mem L).mpr l.tree
      have a2 := h2 _ (List.mem_map.mpr ⟨L, mL, rfl⟩)
      exact ⟨mL, by omega⟩
    · rintro ⟨hL, e⟩
      exact ⟨(mem L).mp hL, fun S hS => by
        have := h2 _ (List.mem_map.mpr ⟨S, (mem S).mpr hS, rfl⟩)
        omega⟩
  obtain ⟨S, hS, e⟩ := List.mem_map.mp h1
  exact ⟨key, S, (key S).mpr ⟨hS, e⟩⟩
end
/-- the three classes, by how many of the least trees hold a tie -/
theorem cls_by {n : Nat} {E : List Tie} (ok : WebOk n E) {Hs : List (List Nat)} (mem : ∀ L, L ∈ Hs ↔ Least n E.length (edE E) (prE E) L) (ex : ∃ L, Least n E.length (edE E) (prE E) L) {i : Nat} (hi : i < E.length) :
    cls E i = if (Hs.filter fun L => decide (i ∈ L)).length = Hs.length then 0 else if (Hs.filter fun L => decide (i ∈ L)).length = 0 then 2 else 1 := by
  have he : ∀ k, k < E.length → (edE E k).1 < n ∧ (edE E k).2 < n := fun k hk => ⟨(ed_ok ok hk).1, (ed_ok ok hk).2.1⟩
  have A := all_least (w := prE E) he hi ex
  have S := some_least (w := prE E) he hi ex
  have a1 : (Hs.filter fun L => decide (i ∈ L)).length = Hs.length ↔ ∀ L, Least n E.length (edE E) (prE E) L → i ∈ L := by
    rw [List.length_filter_eq_length_iff]
    constructor
    · intro h L l
      exact of_decide_eq_true (h L ((mem L).mpr l))
    · intro h L hL
      exact decide_eq_true (h L ((mem L).mp hL))
  have a2 : (Hs.filter fun L => decide (i ∈ L)).length = 0 ↔ ¬ ∃ L, Least n E.length (edE E) (prE E) L ∧ i ∈ L := by
    rw [List.length_eq_zero_iff, List.filter_eq_nil_iff]
    constructor
    · rintro h ⟨L, l, q⟩
      exact h L ((mem L).mpr l) (decide_eq_true q)
    · intro h L hL q
      exact h ⟨L, (mem L).mp hL, of_decide_eq_true q⟩
  unfold cls
  by_cases c1 : Conn (RLE E i (prE E i)) (edE E i).1 (edE E i).2
  · rw [if_pos c1, if_neg (fun e => (A.mp (a1.mp e)) c1)]
    by_cases c2 : Conn (RLE E i (prE E i - 1)) (edE E i).1 (edE E i).2
    · rw [if_pos c2, if_pos (a2.mpr fun h => (S.mp h) c2)]
    · rw [if_neg c2, if_neg (fun e => a2.mp e (S.mpr c2))]
  · rw [if_neg c1, if_pos (a1.mpr (A.mpr c1))]
theorem cls_two {E : List Tie} {i : Nat} : cls E i = 2 ↔ Conn (RLE E i (prE E i - 1)) (edE E i).1 (edE E i).2 := by
  unfold cls
  constructor
  · intro h
    split at h
    · split at h
      · assumption
      · cases h
    · cases h
  · intro h
    rw [if_pos (RL_mono (by omega) h), if_pos h]
/-! ### the web with one price changed -/
def chg (E : List Tie) (i : Nat) (c : Int) : List Tie := E.set i ((edE E i).1, (edE E i).2, c)
theorem chg_len (E : List Tie) (i : Nat) (c : Int) : (chg E i c).length = E.length := by
  unfold chg
  rw [List.length_set]
theorem chg_ed {E : List Tie} {i : Nat} (hi : i < E.length) (c : Int) : edE (chg E i c) = edE E := by
  funext j
  unfold edE chg
  rw [List.getD_eq_getElem?_getD, List.getElem?_set]
  by_cases h : i = j
  · subst h
    rw [if_pos rfl, if_pos hi]
    rfl
  · rw [if_neg h, ← List.getD_eq_getElem?_getD]
theorem chg_pr {E : List Tie} {i : Nat} (hi : i < E.length) (c : Int) : prE (chg E i c) = setP (prE E) i c := by
  funext j
  unfold prE chg setP
  rw [List.getD_eq_getElem?_getD, List.getElem?_set]
  by_cases h : i = j
  · subst h
    rw [if_pos rfl, if_pos hi, if_pos rfl]
    rfl
  · rw [if_neg h, if_neg (fun z => h z.symm), ← List.getD_eq_getElem?_getD]
theorem chg_objs {H : Hp} {as : List Addr} {E : List Tie} {i : Nat} {c : Int} {a : Addr} (os : Objs tieO H as E) (hi : i < E.length) (ha : H a = some (tieO ((edE E i).1, (edE E i).2, c))) : Objs tieO H (as.set i a) (chg E i c) := by
  refine ⟨by rw [List.length_set, chg_len, os.len], fun j e he => ?_⟩
  unfold chg at he
  rw [List.getElem?_set] at he
  by_cases h : i = j
  · subst h
    rw [if_pos rfl, if_pos hi] at he
    cases he
    exact ⟨a, List.getElem?_set_self (by rw [os.len]; exact hi), ha⟩
  · rw [if_neg h] at he
    obtain ⟨b, h1, h2⟩ := os.at_ j e he
    exact ⟨b, by rw [List.getElem?_set_ne h]; exact h1, h2⟩
/-! ### a list of lots against [] -/
def lotD (L : List Nat) : PyData := .tuple (L.map fun n : Nat => .int (n : Int))
theorem ints_lay (L : List Nat) : PyData.canLayAll0 (L.map fun n : Nat => PyData.int (n : Int)) = true ∧ PyData.depthAll (L.map fun n : Nat => PyData.int (n : Int)) = 0 := by
  induction L with
  | nil => exact ⟨rfl, rfl⟩
  | cons x L ih =>
    refine ⟨?_, ?_⟩
    · show (PyData.canLay0 (.int _) && PyData.canLayAll0 _) = true
      rw [ih.1]
      rfl
    · show max (PyData.depth (.int _)) (PyData.depthAll _) = 0
      rw [ih.2]
      rfl
theorem lots_lay (Ts : List (List Nat)) : PyData.canLayAll0 (Ts.map lotD) = true ∧ PyData.depthAll (Ts.map lotD) ≤ 1 := by
  induction Ts with
  | nil => exact ⟨rfl, Nat.zero_le _⟩
  | cons L Ts ih =>
    refine ⟨?_, ?_⟩
    · show (PyData.canLayAll0 _ && PyData.canLayAll0 _) = true
      rw [ih.1, (ints_lay L).1]
      rfl
    · show max (PyData.depthAll _ + 1) (PyData.depthAll _) ≤ 1
      rw [(ints_lay L).2]
      have := ih.2
      omega
theorem lots_shaped (Ts : List (List Nat)) : SeqAt.shaped (.list (Ts.map lotD)) = true := by
  unfold SeqAt.shaped
  rw [Bool.and_eq_true]
  refine ⟨(lots_lay Ts).1, decide_eq_true ?_⟩
  show PyData.depthAll _ + 1 ≤ 64
  have := (lots_lay Ts).2
  omega
theorem lot_dpall {K : PySem.W.Frag} {H : Hp} : ∀ L : List Nat, DpAll K H (L.map nV) (L.map fun n : Nat => PyData.int (n : Int))
  | [] => .nil
  | n :: L => .cons (.int _) (lot_dpall L)
theorem lots_dpall {K : PySem.W.Frag} {H : Hp} : ∀ (as : List Addr) (Ts : List (List Nat)), Objs lotO H as Ts → DpAll K H (as.map V.ref) (Ts.map lotD)
  | [], [], _ => .nil
  | a :: as, [], o => by have := o.len; simp at this
  | [], L :: Ts, o => by have := o.len; simp at this
  | a :: as, L :: Ts, o => by
    obtain ⟨b, h1, h2⟩ := o.at_ 0 L rfl
    have e : a = b := Option.some.inj h1
    refine .cons (.tup (SqT.of (by rw [e]; exact h2)) (lot_dpall L)) (lots_dpall as Ts ⟨by have := o.len; simpa using this, fun i x hx => ?_⟩)
    obtain ⟨c, h3, h4⟩ := o.at_ (i + 1) x hx
    exact ⟨c, h3, h4⟩
theorem lots_dp {K : PySem.W.Frag} {H : Hp} {l : Addr} {Ts : List (List Nat)} (h : ListAt lotO H l Ts) : Dp K H (.ref l) (.list (Ts.map lotD)) := by
  obtain ⟨as, h1, h2⟩ := h
  exact .lst (SqL.of h1) (lots_dpall as Ts h2)
theorem nil_dp {K : PySem.W.Frag} {H : Hp} {l : Addr} (h : H l = some (.lst [])) : Dp K H (.ref l) (.list []) := .lst (SqL.of h) .nil
theorem eqv_nil (Ts : List (List Nat)) : PyData.eqv (.list (Ts.map lotD)) (.list []) = decide (Ts = []) := by
  cases Ts with
  | nil => rfl
  | cons L Ts => rfl
end JW
set_option Elab.async false
set_option linter.all false
set_option maxRecDepth 100000
set_option maxHeartbeats 16000000
namespace JW
open PySem PySem.Spec PyProof.Rows L2 RK Mt
abbrev sLaw : Stmt := topS 39
abbrev nLaw : List Str := ["_law_script", "_law_row", "_law_web", "_law_every", "_law_least", "_law_held", "_law_due", "_law_index", "_law_many", "_law_found", "_law_cost", "_law_ties", "_law_other", "_law_some", "_law_lot"]
theorem scLaw : FnScope nLaw ["_law_script"] (defScope sLaw) := ⟨rfl, rfl, rfl, by decide +kernel, rfl, by decide +kernel, by decide +kernel⟩
def spLaw (K : PySem.W.Frag) : Sp := fun vs H Q _ => ∃ (a : Addr) (ns : List Int), vs = [.ref a] ∧ SqL K H a (ns.map V.int) ∧ ns.length ≤ 63 ∧ ∀ H', Q (.bl true) H'
theorem int_dec (a b : Int) : decide (V.int a = V.int b) = decide (a = b) := by
  by_cases h : a = b
  · rw [h, decide_eq_true rfl, decide_eq_true rfl]
  · rw [decide_eq_false h, decide_eq_false fun e => h (V.int.inj e)]
theorem WebAt.tup {H H' : Hp} {p t : Addr} {as : List Addr} {n : Nat} {E : List Tie} (h : WebAt H p t as n E) (k : ∀ b xs, H b = some (.tup xs) → H' b = some (.tup xs)) : WebAt H' p t as n E :=
  ⟨k _ _ h.1, k _ _ h.2.1, h.2.2.len, fun i x hx => let ⟨a, h1, h2⟩ := h.2.2.at_ i x hx; ⟨a, h1, k _ _ h2⟩⟩
section
variable {P : Program} {w : World} {K : PySem.W.Frag} {mg : Str → Option Value} {base : Heap} {f : Addr} {fd : FuncData}
theorem ok_law (F : Fun K "law" "law" sLaw f fd) (T : Txt mg) (GW : Cl P w K mg base 3 "_law_joined_web" (spWeb K)) (GTr : Cl P w K mg base 3 "_law_trees" spLTrees) (GPr : Cl P w K mg base 1 "_law_price" spLPrice)
    (GAl : Cl P w K mg base 3 "_law_alike" (spAl (RT (RT R0)))) (GSh : Cl P w K mg base 6 "shares" spShares) (GT : Cl P w K mg base 1 "_law_taken" (spTaken K)) (GB : Cl P w K mg base 5 "bar" spBar) : FnOk P w K mg base CX0 7 f fd ["_law_script"] (spLaw K) := by
  refine F.ok scLaw (fun vs H Q E h => ?_) (fun cdv A outer s H vs Q E0' hr h => ?_)
  · obtain ⟨a, ns, rfl, _⟩ := h
    rfl
  · obtain ⟨a, ns, rfl, hS, hlen, k⟩ := h
    refine ⟨_, pss_cons (ps_set (i := 1) scLaw.nd rfl (.inl rfl) (pe_lst (pa_cons (pv 0) (pa_cons pe_int (pa_cons pe_int (pa_cons pe_int pa_nil))))))
      (pss_cons (ps_set (i := 2) scLaw.nd rfl (.inr rfl) (pe_cl GW hr (by decide) (by rfl) (pa_cons (pv 1) (pa_cons pe_int (pa_cons pe_int pa_nil)))))
      (pss_cons (ps_set (i := 3) scLaw.nd rfl (.inl rfl) (pe_ifExp (pt_cmpR op_lt (pe_callB call_len_seq (by rfl) T.len PySem.boot_len (pa_cons (pe_ix ix_tup (pv 2) pe_int (fun _ _ => rfl)) pa_nil)) pe_int (nomark _)) (pe_cl GTr hr (by decide) (by rfl) (pa_cons (pv 2) pa_nil)) (pe_lst pa_nil)))
      (pss_cons (ps_if (pt_cmpR (op_eqD hr.units) (pv 3) (pe_lst pa_nil) (nomark _)) (pss_one (ps_ret pe_bl)) pss_nil)
      (pss_cons (ps_set (i := 4) scLaw.nd rfl (.inr rfl) (pe_callB (cr_min rfl) (by rfl) T.min (by decide +kernel) (pa_cons (pe_lc (own := [("_law_lot", 14)]) (g := gName 14) (tt := tYes) rfl scLaw.nd (pi_list (pv 3)) (blkOk_by (own := [("_law_lot", 14)]) (N := nLaw) (sc := defScope sLaw) (by decide +kernel))
          (fun _ _ _ _ _ => pg_name (i := 14) scLaw.nd rfl (.inl rfl)) (fun _ _ _ _ _ => pts_nil) (fun _ _ _ _ _ => (pe_cl GPr hr (by decide) (by rfl) (pa_cons (pv 2) (pa_cons (pv 14) pa_nil))))) pa_nil)))
      (pss_cons (ps_setLc (i := 5) (own := [("_law_lot", 14)]) (g := gName 14) rfl scLaw.nd rfl rfl (sw_true rfl rfl rfl (by decide +kernel)) (pi_list (pv 3)) (blkOk_by (own := [("_law_lot", 14)]) (N := nLaw) (sc := defScope sLaw) (by decide +kernel))
          (fun _ _ _ _ _ => pg_name (i := 14) scLaw.nd rfl (.inl rfl)) (fun _ _ _ _ _ => pts_one (pt_cmpR op_eq (pe_cl GPr hr (by decide) (by rfl) (pa_cons (pv 2) (pa_cons (pv 14) pa_nil))) (pv 4) (nomark _))) (fun _ _ _ _ _ => pv 14))
      (pss_cons (ps_set (i := 6) scLaw.nd rfl (.inl rfl) (pe_lst (pa_cons (pe_lst pa_nil) (pa_cons (pe_lst pa_nil) (pa_cons (pe_lst pa_nil) pa_nil)))))
      (pss_cons (ps_for PassesOwn.never rfl (pi_range1 (by rfl) T.range (pa_cons (pe_callB call_len_seq (by rfl) T.len PySem.boot_len (pa_cons (pe_ix ix_tup (pv 2) pe_int (fun _ _ => rfl)) pa_nil)) pa_nil)) (pg_name (i := 7) scLaw.nd rfl (.inr rfl))
        (pss_cons (ps_set (i := 8) scLaw.nd rfl (.inl rfl) (pe_callB call_len_seq (by rfl) T.len PySem.boot_len (pa_cons (pe_lc (own := [("_law_lot", 14)]) (g := gName 14) rfl scLaw.nd (pi_list (pv 5)) (blkOk_by (own := [("_law_lot", 14)]) (N := nLaw) (sc := defScope sLaw) (by decide +kernel))
          (fun _ _ _ _ _ => pg_name (i := 14) scLaw.nd rfl (.inl rfl)) (fun _ _ _ _ _ => pts_one (pt_cmpR (r := rIn K false) op_in_seq (pv 7) (pv 14) (by rfl))) (fun _ _ _ _ _ => (pv 14))) pa_nil)))
      (pss_one (ps_expr (pe_bm PySem.F.plainAttrs_list PySem.F.slot_list_append PySem.F.type_list_append mt_append (pe_ix ix_list (pv 6) (pe_ifExp (pt_cmpR op_eq (pv 8) (pe_callB call_len_seq (by rfl) T.len PySem.boot_len (pa_cons (pv 5) pa_nil)) (nomark _)) pe_int (pe_ifExp (pt_cmpR op_eq (pv 8) pe_int (nomark _)) pe_int pe_int)) (fun _ _ => rfl)) (pa_cons (pv 7) pa_nil))))))
      (pss_cons (ps_if (pt_not (pt_val (pe_cl GAl hr (by decide) (by rfl) (pa_cons (pe_cl GSh hr (by decide) (by rfl) (pa_cons (pv 2) pa_nil)) (pa_cons (pe_tup (pa_cons (pe_callTy cr_tupOf (by rfl) T.tuple (by decide +kernel) (pa_cons (pe_ix ix_list (pv 6) pe_int (fun _ _ => rfl)) pa_nil)) (pa_cons (pe_callTy cr_tupOf (by rfl) T.tuple (by decide +kernel) (pa_cons (pe_ix ix_list (pv 6) pe_int (fun _ _ => rfl)) pa_nil)) (pa_cons (pe_callTy cr_tupOf (by rfl) T.tuple (by decide +kernel) (pa_cons (pe_ix ix_list (pv 6) pe_int (fun _ _ => rfl)) pa_nil)) pa_nil)))) pa_nil))))) (pss_one (ps_ret pe_bl)) pss_nil)
      (pss_cons (ps_if (pt_cmpR op_eq (pe_callB call_len_seq (by rfl) T.len PySem.boot_len (pa_cons (pe_ix ix_tup (pv 2) pe_int (fun _ _ => rfl)) pa_nil)) pe_int (nomark _)) (pss_one (ps_ret pe_bl)) pss_nil)
      (pss_cons (ps_set (i := 7) scLaw.nd rfl (.inr rfl) (pe_cl GT hr (by decide) (by rfl) (pa_cons (pv 1) (pa_cons (pe_callB call_len_seq (by rfl) T.len PySem.boot_len (pa_cons (pe_ix ix_tup (pv 2) pe_int (fun _ _ => rfl)) pa_nil)) pa_nil))))
      (pss_cons (ps_set (i := 9) scLaw.nd rfl (.inl rfl) (pe_cl GB hr (by decide) (by rfl) (pa_cons (pv 2) (pa_cons (pv 7) pa_nil))))
      (pss_cons (ps_if (pt_cmpR op_isN (pv 9) pe_non (nomark _)) (pss_one (ps_ret (pe_cmpR (op_eqD hr.units) (pe_lc (own := [("_law_lot", 14)]) (g := gName 14) rfl scLaw.nd (pi_list (pv 3)) (blkOk_by (own := [("_law_lot", 14)]) (N := nLaw) (sc := defScope sLaw) (by decide +kernel))
          (fun _ _ _ _ _ => pg_name (i := 14) scLaw.nd rfl (.inl rfl)) (fun _ _ _ _ _ => pts_one (pt_cmpR (r := rIn K true) op_notIn_seq (pv 7) (pv 14) (by rfl))) (fun _ _ _ _ _ => (pv 14))) (pe_lst pa_nil) (nomark _)))) pss_nil)
      (pss_cons (ps_if (pt_cmpR op_eq (pe_cmpR op_in_seq (pv 7) (pe_ix ix_list (pv 6) pe_int (fun _ _ => rfl)) (by rfl)) (pe_cmpR op_le (pe_ix ix_tup (pe_ix ix_tup (pe_ix ix_tup (pv 2) pe_int (fun _ _ => rfl)) (pv 7) (fun _ _ => rfl)) pe_int (fun _ _ => rfl)) (pv 9) (nomark _)) (nomark _)) (pss_one (ps_ret pe_bl)) pss_nil)
      (pss_cons (ps_for PassesOwn.never rfl (pi_list (pe_lst (pa_cons (pv 9) (pa_cons (pe_op op_add (pv 9) pe_int) pa_nil)))) (pg_name (i := 10) scLaw.nd rfl (.inl rfl))
        (pss_cons (ps_set (i := 11) scLaw.nd rfl (.inl rfl) (pe_callTy call_list_of (by rfl) T.list (by decide +kernel) (pa_cons (pe_ix ix_tup (pv 2) pe_int (fun _ _ => rfl)) pa_nil)))
      (pss_cons (ps_asg (pe_tup (pa_cons (pe_ix ix_tup (pe_ix ix_list (pv 11) (pv 7) (fun _ _ => rfl)) pe_int (fun _ _ => rfl)) (pa_cons (pe_ix ix_tup (pe_ix ix_list (pv 11) (pv 7) (fun _ _ => rfl)) pe_int (fun _ _ => rfl)) (pa_cons (pv 10) pa_nil)))) (pg_sub (pv 11) (pv 7) set_list))
      (pss_cons (ps_set (i := 12) scLaw.nd rfl (.inr rfl) (pe_tup (pa_cons (pe_ix ix_tup (pv 2) pe_int (fun _ _ => rfl)) (pa_cons (pe_callTy cr_tupOf (by rfl) T.tuple (by decide +kernel) (pa_cons (pv 11) pa_nil)) pa_nil))))
      (pss_cons (ps_set (i := 4) scLaw.nd rfl (.inr rfl) (pe_callB (cr_min rfl) (by rfl) T.min (by decide +kernel) (pa_cons (pe_lc (own := [("_law_lot", 14)]) (g := gName 14) (tt := tYes) rfl scLaw.nd (pi_list (pv 3)) (blkOk_by (own := [("_law_lot", 14)]) (N := nLaw) (sc := defScope sLaw) (by decide +kernel))
          (fun _ _ _ _ _ => pg_name (i := 14) scLaw.nd rfl (.inl rfl)) (fun _ _ _ _ _ => pts_nil) (fun _ _ _ _ _ => (pe_cl GPr hr (by decide) (by rfl) (pa_cons (pv 12) (pa_cons (pv 14) pa_nil))))) pa_nil)))
      (pss_cons (ps_setLc (i := 13) (own := [("_law_lot", 14)]) (g := gName 14) rfl scLaw.nd rfl rfl (sw_true rfl rfl rfl (by decide +kernel)) (pi_list (pv 3)) (blkOk_by (own := [("_law_lot", 14)]) (N := nLaw) (sc := defScope sLaw) (by decide +kernel))
          (fun _ _ _ _ _ => pg_name (i := 14) scLaw.nd rfl (.inl rfl)) (fun _ _ _ _ _ => pts_one (PW.pt (pw_and (pt_cmpR op_eq (pe_cl GPr hr (by decide) (by rfl) (pa_cons (pv 12) (pa_cons (pv 14) pa_nil))) (pv 4) (nomark _)) (pw_and1 (pt_cmpR (r := rIn K false) op_in_seq (pv 7) (pv 14) (by rfl)))))) (fun _ _ _ _ _ => pv 14))
      (pss_one (ps_if (pt_cmpR op_ne (pe_cmpR (op_neD hr.units) (pv 13) (pe_lst pa_nil) (nomark _)) (pe_cmpR op_eq (pv 10) (pv 9) (nomark _)) (nomark _)) (pss_one (ps_ret pe_bl)) pss_nil))))))))
      (pss_one (ps_ret pe_bl)))))))))))))))), ?_⟩
    -- the row, the web
    refine ⟨_, rfl, by show 4 ≤ sizeLine; decide, fun r nr => ?_⟩
    have R1 : RowAt K (upd H r (.lst [.ref a, .int 0, .int 4302, .int 0])) r a ns 0 4302 0 := ⟨upd_same, by decide, by decide, (Scr.start hS nr).keep fun b o nb e => (upd_ne nb).trans e⟩
    refine ⟨_, rfl, r, a, ns, 0, 4302, 0, rfl, R1, fun H2 p t as n E i2 z2 q2 fr R2 W ok n6 => ?_⟩
    have lenE : (as.map V.ref).length = E.length := by rw [List.length_map, W.2.2.len]
    refine ⟨_, rfl, p, _, 1, .ref t, rfl, rfl, SqT.of W.1, atI_nat (j := 1) rfl, t, _, rfl, .inr (SqT.of W.2.1), _, _, rfl, rfl, _, rfl, ite2 (fun hfew => ?_) (fun _ => ?_)⟩
    rotate_left
    · -- too many ties: no trees are looked for
      refine ⟨Nat.zero_le _, fun ev nev => ⟨_, rfl, Nat.zero_le _, fun l nl => ⟨.list [], .list [], nil_dp (same_upd nl _ _ upd_same), nil_dp upd_same, by decide, by decide, true, rfl, iteT (k _)⟩⟩⟩
    have few : E.length ≤ 10 := by
      have : (((as.map V.ref).length : Nat) : Int) < 11 := of_decide_eq_true hfew
      rw [lenE] at this
      omega
    refine ⟨_, rfl, p, t, as, n, E, rfl, W, ok, few, fun H3 ev Ts s3 nev hT3 memT lenT => ?_⟩
    have nevr : ev ≠ r := (ne_of_none R2.at_ nev).symm
    -- if every == []
    refine ⟨_, rfl, Nat.zero_le _, fun l nl => ⟨_, _, lots_dp (hT3.same (same_upd nl)), nil_dp upd_same, lots_shaped Ts, by decide, _, rfl, ?_⟩⟩
    show if PyData.eqv (.list (Ts.map lotD)) (.list []) = true then _ else _
    rw [eqv_nil]
    refine ite2 (fun _ => k _) (fun hne => ?_)
    have hne : Ts ≠ [] := fun e => hne (decide_eq_true e)
    have s4 : Same H2 (upd H3 l (.lst [])) := s3.trans (same_upd nl)
    have hT4 : ListAt lotO (upd H3 l (.lst [])) ev Ts := hT3.same (same_upd nl)
    revert s4 hT4
    generalize upd H3 l (.lst []) = H4
    intro s4 hT4
    obtain ⟨aev, hev, oev⟩ := hT4
    have W4 := W.same s4
    have R4 := R2.same s4
    have lotOk : ∀ L, L ∈ Ts → (∀ x, x ∈ L → x < E.length) ∧ L.length ≤ 5000 := fun L hL => by
      have tr := (memT L).mp hL
      exact ⟨tr.bd, by rw [tr.len]; have := ok.hi; omega⟩
    -- least
    refine ⟨_, rfl, ev, rfl, ⟨_, SqL.of hev⟩, fun D nD => lc_ints (v := 14) (cost (prE E)) hev oev nD lenT (by show 14 < 15; decide) (fun L b Hx kx hL hb sx hk => ?_) (fun H5 s5 h5 => ?_)⟩
    · exact ⟨_, rfl, _, rfl, p, t, as, n, E, b, L, rfl, W4.same sx, hb, (lotOk L hL).1, (lotOk L hL).2, hk⟩
    refine ⟨D, _, rfl, SqL.of h5, by rw [List.length_map]; exact List.length_pos_iff.mpr hne, fun c hc1 hc2 => ?_⟩
    obtain ⟨leastIff, leastEx⟩ := least_of memT hc1 hc2
    have hev5 := s5 _ _ hev
    have oev5 := oev.same s5
    have W5 := W4.same s5
    have R5 := R4.same s5
    -- held
    refine ⟨_, rfl, ev, rfl, ⟨_, SqL.of hev5⟩, fun hd nhd => lc_filter (v := 14) (fun L => decide (cost (prE E) L = c)) hev5 oev5 nhd lenT (by show 14 < 15; decide) (fun L b Hx kx hL hb sx hk => ?_) (fun H6 s6 h6 => ?_)⟩
    · refine ⟨_, rfl, _, rfl, p, t, as, n, E, b, L, rfl, W5.same sx, hb, (lotOk L hL).1, (lotOk L hL).2, fun Hy sy => ⟨_, rfl, rfl, _, rfl, ?_⟩⟩
      rw [int_dec]
      exact hk Hy sy
    have memH : ∀ L, L ∈ Ts.filter (fun L => decide (cost (prE E) L = c)) ↔ Least n E.length (edE E) (prE E) L := fun L => by
      rw [leastIff, List.mem_filter, decide_eq_true_eq]
    have lenH : (Ts.filter (fun L => decide (cost (prE E) L = c))).length ≤ 1024 := Nat.le_trans (List.length_filter_le _ _) lenT
    revert h6 memH lenH
    generalize Ts.filter (fun L => decide (cost (prE E) L = c)) = Hs
    intro h6 memH lenH
    obtain ⟨ahd, hhd, ohd⟩ := h6
    have hev6 := s6 _ _ hev5
    have oev6 := oev5.same s6
    have W6 := W5.same s6
    have R6 := R5.same s6
    -- due
    refine ⟨Nat.zero_le _, fun d0 nd0 => ⟨Nat.zero_le _, fun d1 nd1 => ⟨Nat.zero_le _, fun d2 nd2 => ⟨by show 3 ≤ sizeLine; decide, fun du ndu => ?_⟩⟩⟩⟩
    have sd0 := same_upd (o := .lst []) nd0
    have sd1 := same_upd (o := .lst []) nd1
    have sd2 := same_upd (o := .lst []) nd2
    have sdu := same_upd (o := .lst [.ref d0, .ref d1, .ref d2]) ndu
    have n01 : d0 ≠ d1 := ne_of_none upd_same nd1
    have n02 : d0 ≠ d2 := ne_of_none (sd1 _ _ upd_same) nd2
    have n12 : d1 ≠ d2 := ne_of_none upd_same nd2
    have nu0 : d0 ≠ du := ne_of_none (sd2 _ _ (sd1 _ _ upd_same)) ndu
    have nu1 : d1 ≠ du := ne_of_none (sd2 _ _ upd_same) ndu
    have nu2 : d2 ≠ du := ne_of_none upd_same ndu
    have e0 : H6 d0 = none := nd0
    have e1 : H6 d1 = none := sd0.free nd1
    have e2 : H6 d2 = none := sd0.free (sd1.free nd2)
    have eu : H6 du = none := sd0.free (sd1.free (sd2.free ndu))
    have s7 : Same H6 _ := sd0.trans (sd1.trans (sd2.trans sdu))
    -- for index in range(len(web[1]))
    have W7 := W6.same s7
    refine ⟨_, rfl, p, _, 1, .ref t, rfl, rfl, SqT.of W7.1, atI_nat (j := 1) rfl, t, _, rfl, .inr (SqT.of W7.2.1), _, rfl, ?_⟩
    rw [lenE]
    refine ⟨by omega, by omega, for_range (lo := 0) (n := ((E.length : Nat) : Int).toNat)
      (fun i σ H' => ∃ y7 y8, σ = [some (.ref a), some (.ref r), some (.ref p), some (.ref ev), some (.int c), some (.ref hd), some (.ref du), y7, y8, none, none, none, none, none, none] ∧ Same H6 H' ∧
        H' du = some (.lst [.ref d0, .ref d1, .ref d2]) ∧ H' d0 = some (.lst ((clsL E 0 i).map nV)) ∧ H' d1 = some (.lst ((clsL E 1 i).map nV)) ∧ H' d2 = some (.lst ((clsL E 2 i).map nV)))
      ⟨none, none, rfl, s7, upd_same, sdu _ _ (sd2 _ _ (sd1 _ _ upd_same)), sdu _ _ (sd2 _ _ upd_same), sdu _ _ upd_same⟩ ?_ ?_⟩
    · rintro i σ H8 hi ⟨y7, y8, rfl, s8, gu, g0, g1, g2⟩
      rw [Int.toNat_natCast] at hi
      have ei : (V.int ((0 : Int) + (i : Nat))) = nV i := congrArg V.int (by omega)
      rw [ei]
      have hhd8 := s8 _ _ hhd
      have ohd8 := ohd.same s8
      refine ⟨_, rfl, hd, rfl, ⟨_, SqL.of hhd8⟩, fun D9 nD9 => lc_filter (v := 14) (fun L => decide (i ∈ L)) hhd8 ohd8 nD9 lenH (by show 14 < 15; decide) (fun L b Hx kx hL hb sx hk => ?_) (fun H9 s9 h9 => ?_)⟩
      · refine ⟨_, rfl, _, rfl, b, L.map nV, rfl, .inr (SqT.of hb), rfl, flat_nV L, _, rfl, ?_⟩
        show kx (inV (nV i) (L.map nV)) Hx
        rw [inV_dec]
        exact hk Hx (Same.refl _)
      obtain ⟨as9, h9, o9⟩ := h9
      have s89 := s8.trans s9
      have hcls := cls_by ok memH leastEx hi
      have l9 : ((as9.map V.ref).length : Nat) = (Hs.filter fun L => decide (i ∈ L)).length := by rw [List.length_map, o9.len]
      have lh : ((ahd.map V.ref).length : Nat) = Hs.length := by rw [List.length_map, ohd.len]
      refine ⟨D9, _, rfl, .inl (SqL.of h9), ?_⟩
      rw [l9]
      have gu9 := s9 _ _ gu
      have lc : ∀ j, ((clsL E j i).map nV).length < sizeLine := fun j => by
        rw [List.length_map]
        have := clsL_len E j i
        exact sz (by omega)
      have fin0 : cls E i = 0 → Same H6 (upd H9 d0 (.lst ((clsL E 0 i).map nV ++ [nV i]))) ∧ (upd H9 d0 (.lst ((clsL E 0 i).map nV ++ [nV i]))) du = some (.lst [.ref d0, .ref d1, .ref d2]) ∧ (upd H9 d0 (.lst ((clsL E 0 i).map nV ++ [nV i]))) d0 = some (.lst ((clsL E 0 (i + 1)).map nV)) ∧
          (upd H9 d0 (.lst ((clsL E 0 i).map nV ++ [nV i]))) d1 = some (.lst ((clsL E 1 (i + 1)).map nV)) ∧ (upd H9 d0 (.lst ((clsL E 0 i).map nV ++ [nV i]))) d2 = some (.lst ((clsL E 2 (i + 1)).map nV)) := fun hc => by
        refine ⟨fun b o hb => (upd_ne (ne_of_none hb e0)).trans (s89 _ _ hb), (upd_ne nu0.symm).trans gu9, ?_, ?_, ?_⟩
        · rw [upd_same, clsL_step, if_pos hc, List.map_append]; rfl
        · rw [upd_ne n01.symm, clsL_step, if_neg (by omega)]; exact s9 _ _ g1
        · rw [upd_ne n02.symm, clsL_step, if_neg (by omega)]; exact s9 _ _ g2
      have fin1 : cls E i = 1 → Same H6 (upd H9 d1 (.lst ((clsL E 1 i).map nV ++ [nV i]))) ∧ (upd H9 d1 (.lst ((clsL E 1 i).map nV ++ [nV i]))) du = some (.lst [.ref d0, .ref d1, .ref d2]) ∧ (upd H9 d1 (.lst ((clsL E 1 i).map nV ++ [nV i]))) d0 = some (.lst ((clsL E 0 (i + 1)).map nV)) ∧
          (upd H9 d1 (.lst ((clsL E 1 i).map nV ++ [nV i]))) d1 = some (.lst ((clsL E 1 (i + 1)).map nV)) ∧ (upd H9 d1 (.lst ((clsL E 1 i).map nV ++ [nV i]))) d2 = some (.lst ((clsL E 2 (i + 1)).map nV)) := fun hc => by
        refine ⟨fun b o hb => (upd_ne (ne_of_none hb e1)).trans (s89 _ _ hb), (upd_ne nu1.symm).trans gu9, ?_, ?_, ?_⟩
        · rw [upd_ne n01, clsL_step, if_neg (by omega)]; exact s9 _ _ g0
        · rw [upd_same, clsL_step, if_pos hc, List.map_append]; rfl
        · rw [upd_ne n12.symm, clsL_step, if_neg (by omega)]; exact s9 _ _ g2
      have fin2 : cls E i = 2 → Same H6 (upd H9 d2 (.lst ((clsL E 2 i).map nV ++ [nV i]))) ∧ (upd H9 d2 (.lst ((clsL E 2 i).map nV ++ [nV i]))) du = some (.lst [.ref d0, .ref d1, .ref d2]) ∧ (upd H9 d2 (.lst ((clsL E 2 i).map nV ++ [nV i]))) d0 = some (.lst ((clsL E 0 (i + 1)).map nV)) ∧
          (upd H9 d2 (.lst ((clsL E 2 i).map nV ++ [nV i]))) d1 = some (.lst ((clsL E 1 (i + 1)).map nV)) ∧ (upd H9 d2 (.lst ((clsL E 2 i).map nV ++ [nV i]))) d2 = some (.lst ((clsL E 2 (i + 1)).map nV)) := fun hc => by
        refine ⟨fun b o hb => (upd_ne (ne_of_none hb e2)).trans (s89 _ _ hb), (upd_ne nu2.symm).trans gu9, ?_, ?_, ?_⟩
        · rw [upd_ne n02, clsL_step, if_neg (by omega)]; exact s9 _ _ g0
        · rw [upd_ne n12, clsL_step, if_neg (by omega)]; exact s9 _ _ g1
        · rw [upd_same, clsL_step, if_pos hc, List.map_append]; rfl
      refine ⟨_, rfl, _, rfl, _, rfl, hd, _, rfl, .inl (SqL.of (s9 _ _ hhd8)), rfl, _, rfl, ?_⟩
      rw [lh, int_dec]
      by_cases c1 : (Hs.filter fun L => decide (i ∈ L)).length = Hs.length
      · have hc : cls E i = 0 := by rw [hcls, if_pos c1]
        rw [decide_eq_true (by omega)]
        have g9 := s9 _ _ g0
        exact iteT ⟨du, _, 0, .ref d0, rfl, rfl, SqL.of gu9, atI_nat (j := 0) rfl, .inl ⟨rfl, _, .inl (.inl g9)⟩, _, rfl, d0, _, _, rfl, rfl, g9, lc 0, _, _, rfl, fin0 hc⟩
      · rw [decide_eq_false (by omega)]
        refine iteF ⟨_, rfl, rfl, _, rfl, ?_⟩
        rw [int_dec]
        by_cases c2 : (Hs.filter fun L => decide (i ∈ L)).length = 0
        · have hc : cls E i = 2 := by rw [hcls, if_neg c1, if_pos c2]
          rw [decide_eq_true (by omega)]
          have g9 := s9 _ _ g2
          exact iteT ⟨du, _, 2, .ref d2, rfl, rfl, SqL.of gu9, atI_nat (j := 2) rfl, .inl ⟨rfl, _, .inl (.inl g9)⟩, _, rfl, d2, _, _, rfl, rfl, g9, lc 2, _, _, rfl, fin2 hc⟩
        · have hc : cls E i = 1 := by rw [hcls, if_neg c1, if_neg c2]
          rw [decide_eq_false (by omega)]
          have g9 := s9 _ _ g1
          exact iteF ⟨du, _, 1, .ref d1, rfl, rfl, SqL.of gu9, atI_nat (j := 1) rfl, .inl ⟨rfl, _, .inl (.inl g9)⟩, _, rfl, d1, _, _, rfl, rfl, g9, lc 1, _, _, rfl, fin1 hc⟩
    · rintro σ H8 ⟨y7, y8, rfl, s8, gu, g0, g1, g2⟩
      rw [Int.toNat_natCast] at g0 g1 g2
      have W8 := W6.same s8
      have R8 := R6.same s8
      have hev8 := s8 _ _ hev6
      have oev8 := oev6.same s8
      obtain ⟨T0, hT0⟩ : ∃ T0, T0 ∈ Ts := List.exists_mem_of_ne_nil _ hne
      have J : Joined n ((List.range E.length).map (edE E)) := joined_perm (fun x hx => List.mem_range.mpr (((memT T0).mp hT0).bd x hx)) ((memT T0).mp hT0).con
      -- alike(shares(web), (..))
      refine ⟨_, rfl, p, t, as, n, E, rfl, W8, ok, J, fun H9 rr x0 x1 x2 s9 hrr h0 h1 h2 => ?_⟩
      have gu9 := s9 _ _ gu
      refine ⟨_, rfl, du, _, 0, .ref d0, rfl, rfl, SqL.of gu9, atI_nat (j := 0) rfl, d0, _, rfl, .inl ⟨SqL.of (s9 _ _ g0), fun t0 nt0 => ?_⟩⟩
      have st0 := same_upd (o := .tup ((clsL E 0 E.length).map nV)) nt0
      refine ⟨_, rfl, du, _, 1, .ref d1, rfl, rfl, SqL.of (st0 _ _ gu9), atI_nat (j := 1) rfl, d1, _, rfl, .inl ⟨SqL.of (st0 _ _ (s9 _ _ g1)), fun t1 nt1 => ?_⟩⟩
      have st1 := same_upd (o := .tup ((clsL E 1 E.length).map nV)) nt1
      refine ⟨_, rfl, du, _, 2, .ref d2, rfl, rfl, SqL.of (st1 _ _ (st0 _ _ gu9)), atI_nat (j := 2) rfl, d2, _, rfl, .inl ⟨SqL.of (st1 _ _ (st0 _ _ (s9 _ _ g2))), fun t2 nt2 => ?_⟩⟩
      have st2 := same_upd (o := .tup ((clsL E 2 E.length).map nV)) nt2
      refine ⟨by show 3 ≤ sizeLine; decide, fun tt ntt => ?_⟩
      have stt := same_upd (o := .tup [.ref t0, .ref t1, .ref t2]) ntt
      have stA := st0.trans (st1.trans (st2.trans stt))
      have al : ∀ {u v : Addr} {L : List Nat} {Hz : Hp}, Hz u = some (lotO L) → Hz v = some (lotO L) → L.length ≤ 5000 → RT R0 Hz (.ref u) (.ref v) := fun {u v L Hz} hu hv hl =>
        ⟨u, v, _, _, rfl, rfl, hu, hv, rfl, by rw [List.length_map]; exact hl, fun i x y hx hy => by
          obtain ⟨q1, q2, q3⟩ := nV_get hx
          rw [hx] at hy
          cases hy
          exact ⟨q1, q3, q3⟩⟩
      have cl5 : ∀ j, (clsL E j E.length).length ≤ 5000 := fun j => by have := clsL_len E j E.length; omega
      refine ⟨.ref rr, .ref tt, rfl, ⟨rr, tt, _, _, rfl, rfl, stA _ _ hrr, upd_same, rfl, by show 3 ≤ 5000; decide, fun i x y hx hy => ?_⟩, fun H10 s10 => ⟨true, rfl, iteF ?_⟩⟩
      · match i, hx, hy with
        | 0, hx, hy =>
          cases hx
          cases hy
          exact al (stA _ _ h0) (stt _ _ (st2 _ _ (st1 _ _ upd_same))) (cl5 0)
        | 1, hx, hy =>
          cases hx
          cases hy
          exact al (stA _ _ h1) (stt _ _ (st2 _ _ upd_same)) (cl5 1)
        | 2, hx, hy =>
          cases hx
          cases hy
          exact al (stA _ _ h2) (stt _ _ upd_same) (cl5 2)
        | i + 3, hx, hy => simp at hx
      have s810 : Same H8 H10 := s9.trans (stA.trans s10)
      have W10 := W8.same s810
      have R10 := R8.same s810
      have hev10 := s810 _ _ hev8
      have oev10 := oev8.same s810
      have gu10 := s810 _ _ gu
      have g210 := s810 _ _ g2
      -- if len(web[1]) == 0
      refine ⟨_, rfl, p, _, 1, .ref t, rfl, rfl, SqT.of W10.1, atI_nat (j := 1) rfl, t, _, rfl, .inr (SqT.of W10.2.1), rfl, _, rfl, ite2 (fun _ => k _) (fun h0 => ?_)⟩
      have m0 : 0 < E.length := by
        have : ¬ ((((as.map V.ref).length : Nat) : Int) = 0) := fun e => h0 (decide_eq_true (congrArg V.int e))
        rw [lenE] at this
        omega
      -- index = taken(row, len(web[1]))
      refine ⟨_, rfl, _, rfl, p, _, 1, .ref t, rfl, rfl, SqT.of W10.1, atI_nat (j := 1) rfl, t, _, rfl, .inr (SqT.of W10.2.1), r, a, ns, i2, z2, q2, _, rfl, R10, by rw [lenE]; omega, by rw [lenE]; omega, fun x i3 z3 q3 x0 x1 R11 => ?_⟩
      rw [lenE] at x1
      obtain ⟨i, rfl⟩ : ∃ i : Nat, x = (i : Int) := ⟨x.toNat, by omega⟩
      have hi : i < E.length := by omega
      have kt : ∀ b xs, H10 b = some (.tup xs) → (upd H10 r (rowO a i3 z3 q3)) b = some (.tup xs) := fun b xs hb => (upd_ne (ne_of hb R10.at_ (by intro z; cases z))).trans hb
      have W11 := W10.tup kt
      have hev11 : (upd H10 r (rowO a i3 z3 q3)) ev = some (.lst (aev.map V.ref)) := (upd_ne nevr).trans hev10
      have oev11 : Objs lotO (upd H10 r (rowO a i3 z3 q3)) aev Ts := ⟨oev10.len, fun j y hy => let ⟨b, h1, h2⟩ := oev10.at_ j y hy; ⟨b, h1, kt _ _ h2⟩⟩
      have gu11 : (upd H10 r (rowO a i3 z3 q3)) du = some (.lst [.ref d0, .ref d1, .ref d2]) := (upd_ne (ne_of_none R6.at_ eu).symm).trans gu10
      have g211 : (upd H10 r (rowO a i3 z3 q3)) d2 = some (.lst ((clsL E 2 E.length).map nV)) := (upd_ne (ne_of_none R6.at_ e2).symm).trans g210
      revert W11 hev11 oev11 gu11 g211
      generalize upd H10 r (rowO a i3 z3 q3) = H11
      intro W11 hev11 oev11 gu11 g211
      have he : ∀ j, j < E.length → (edE E j).1 < n ∧ (edE E j).2 < n := fun j hj => ⟨(ed_ok ok hj).1, (ed_ok ok hj).2.1⟩
      have hab := (ed_ok ok hi).2.2
      -- found = bar(web, index)
      refine ⟨_, rfl, _, rfl, p, t, as, n, E, i, rfl, W11, ok, hi, fun H12 B s12 isb => ?_, fun H12 s12 hno => ?_⟩
      rotate_left
      · -- no bar: all trees hold the tie
        refine ⟨_, rfl, rfl, true, rfl, iteT ?_⟩
        have hev12 := s12 _ _ hev11
        have oev12 := oev11.same s12
        refine ⟨_, rfl, ev, rfl, ⟨_, SqL.of hev12⟩, fun D nD => lc_filter (v := 14) (fun L => !decide (i ∈ L)) hev12 oev12 nD lenT (by show 14 < 15; decide) (fun L b Hx kx hL hb sx hk => ?_) (fun H13 s13 h13 => ?_)⟩
        · refine ⟨_, rfl, _, rfl, b, L.map nV, rfl, .inr (SqT.of hb), rfl, flat_nV L, _, rfl, ?_⟩
          show kx (!inV (nV i) (L.map nV)) Hx
          rw [inV_dec]
          exact hk Hx (Same.refl _)
        · refine ⟨Nat.zero_le _, fun l2 nl2 => ⟨_, _, lots_dp (h13.same (same_upd nl2)), nil_dp upd_same, lots_shaped _, by decide, ?_⟩⟩
          rw [eqv_nil, decide_eq_true]
          · exact k _
          · rw [List.filter_eq_nil_iff]
            intro L hL
            have := bar_none he hi hab hno ((memT L).mp hL)
            simp [this]
      · have W12 := W11.same s12
        have hev12 := s12 _ _ hev11
        have oev12 := oev11.same s12
        have gu12 := s12 _ _ gu11
        have g212 := s12 _ _ g211
        obtain ⟨bi, hbi, hei⟩ := W12.2.2.at_ i _ (List.getElem?_eq_getElem hi)
        have pi := prE_at (List.getElem?_eq_getElem hi)
        have ee := edE_at (List.getElem?_eq_getElem hi)
        refine ⟨_, rfl, rfl, false, rfl, iteF ?_⟩
        -- if (index in due[2]) == (web[1][index][2] <= found)
        refine ⟨_, rfl, _, rfl, du, _, 2, .ref d2, rfl, rfl, SqL.of gu12, atI_nat (j := 2) rfl, d2, _, rfl, .inl (SqL.of g212), rfl, flat_nV _, ?_⟩
        refine ⟨_, rfl, p, _, 1, .ref t, rfl, rfl, SqT.of W12.1, atI_nat (j := 1) rfl, _, rfl, t, _, i, .ref bi, rfl, rfl, SqT.of W12.2.1, atI_nat (refs_at hbi), bi, _, 2, .int E[i].2.2, rfl, rfl, SqT.of hei, atI_nat (j := 2) rfl, _, rfl, _, _, rfl, rfl, rfl, false, ?_, iteF ?_⟩
        · show V.bl (decide (V.bl (inV (nV i) ((clsL E 2 E.length).map nV)) = V.bl (decide (E[i].2.2 ≤ B)))) = V.bl false
          refine congrArg V.bl (decide_eq_false fun e => ?_)
          rw [inV_dec] at e
          have e' := V.bl.inj e
          have m2 : i ∈ clsL E 2 E.length ↔ B ≤ prE E i - 1 := by
            unfold clsL
            rw [List.mem_filter, List.mem_range, decide_eq_true_eq, cls_two]
            exact ⟨fun h => (bar_iff hab isb _).mp h.2, fun h => ⟨hi, (bar_iff hab isb _).mpr h⟩⟩
          have m3 : i ∈ clsL E 2 E.length ↔ E[i].2.2 ≤ B := by
            rw [← decide_eq_true_iff (p := i ∈ clsL E 2 E.length), e', decide_eq_true_iff]
          rw [pi] at m2
          have : ¬ (E[i].2.2 ≤ B) := fun h => by
            have := m2.mp (m3.mpr h)
            omega
          have h4 := m2.mpr (by omega)
          exact this (m3.mp h4)
        -- for cost in [found, found + 1]
        refine ⟨_, rfl, _, rfl, _, _, rfl, rfl, by show 2 ≤ sizeLine; decide, fun lb nlb => ⟨lb, rfl, ⟨_, SqL.of upd_same⟩, for_list (K := K) (a := lb) (xs := [.int B, .int (B + 1)])
          (fun j σ H' => ∃ y4 y10 y11 y12 y13, σ = [some (.ref a), some (.ref r), some (.ref p), some (.ref ev), y4, some (.ref hd), some (.ref du), some (nV i), y8, some (.int B), y10, y11, y12, y13, none] ∧ Same (upd H12 lb (.lst [.int B, .int (B + 1)])) H')
          ⟨_, none, none, none, none, rfl, Same.refl _⟩ (fun j σ H' _ ⟨_, _, _, _, _, _, sx⟩ => SqL.of (sx _ _ upd_same)) ?_ (fun σ H' _ => k _)⟩⟩
        rintro j x σ H13 hx ⟨y4, y10, y11, y12, y13, rfl, sx⟩
        obtain ⟨cc, rfl, hcc⟩ : ∃ cc : Int, x = .int cc ∧ (cc = B ∨ cc = B + 1) := by
          match j, hx with
          | 0, hx => exact ⟨B, (Option.some.inj hx).symm, .inl rfl⟩
          | 1, hx => exact ⟨B + 1, (Option.some.inj hx).symm, .inr rfl⟩
          | j + 2, hx => simp at hx
        have s13 : Same H12 H13 := (same_upd nlb).trans sx
        have W13 := W12.same s13
        have hev13 := s13 _ _ hev12
        have oev13 := oev12.same s13
        -- ties = list(web[1])
        refine ⟨_, rfl, p, _, 1, .ref t, rfl, rfl, SqT.of W13.1, atI_nat (j := 1) rfl, t, _, rfl, .inr (SqT.of W13.2.1), fun lt nlt => ?_⟩
        have slt := same_upd (o := .lst (as.map V.ref)) nlt
        have hei14 := slt _ _ (s13 _ _ hei)
        -- ties[index] = (.., .., cost)
        refine ⟨_, rfl, _, rfl, lt, _, i, .ref bi, rfl, rfl, SqL.of upd_same, atI_nat (refs_at hbi), bi, _, 0, nV E[i].1, rfl, rfl, SqT.of hei14, atI_nat (j := 0) rfl, _, rfl, _, rfl, lt, _, i, .ref bi, rfl, rfl, SqL.of upd_same, atI_nat (refs_at hbi), bi, _, 1, nV E[i].2.1, rfl, rfl, SqT.of hei14, atI_nat (j := 1) rfl, _, rfl, by show 3 ≤ sizeLine; decide, fun na nna => ?_⟩
        have sna := same_upd (o := .tup [nV E[i].1, nV E[i].2.1, .int cc]) nna
        refine ⟨_, rfl, _, rfl, lt, _, i, i, rfl, rfl, sna _ _ upd_same, ixN_nat (by rw [lenE]; exact hi), ?_⟩
        have nlt13 : H13 lt = none := nlt
        have nltna : na ≠ lt := (ne_of_none (upd_same (H := H13)) nna).symm
        have s15 : Same H13 (upd (upd (upd H13 lt (.lst (as.map V.ref))) na (.tup [nV E[i].1, nV E[i].2.1, .int cc])) lt (.lst ((as.map V.ref).set i (.ref na)))) := fun b o hb => (upd_ne (ne_of_none hb nlt13)).trans (sna _ _ (slt _ _ hb))
        have hna15 : (upd (upd (upd H13 lt (.lst (as.map V.ref))) na (.tup [nV E[i].1, nV E[i].2.1, .int cc])) lt (.lst ((as.map V.ref).set i (.ref na)))) na = some (tieO ((edE E i).1, (edE E i).2, cc)) := by
          rw [upd_ne nltna, upd_same, ee]
          rfl
        have hlt15 : (upd (upd (upd H13 lt (.lst (as.map V.ref))) na (.tup [nV E[i].1, nV E[i].2.1, .int cc])) lt (.lst ((as.map V.ref).set i (.ref na)))) lt = some (.lst ((as.set i na).map V.ref)) := by
          rw [upd_same, List.map_set]
        revert s15 hna15 hlt15
        generalize upd (upd (upd H13 lt (.lst (as.map V.ref))) na (.tup [nV E[i].1, nV E[i].2.1, .int cc])) lt (.lst ((as.map V.ref).set i (.ref na))) = H15
        intro s15 hna15 hlt15
        have W15 := W13.same s15
        -- other = (web[0], tuple(ties))
        refine ⟨_, rfl, p, _, 0, nV n, rfl, rfl, SqT.of W15.1, atI_nat (j := 0) rfl, _, rfl, lt, _, rfl, .inl ⟨SqL.of hlt15, fun to nto => ⟨by show 2 ≤ sizeLine; decide, fun po npo => ?_⟩⟩⟩
        have sto := same_upd (o := .tup ((as.set i na).map V.ref)) nto
        have spo := same_upd (o := .tup [nV n, .ref to]) npo
        have s16 := s15.trans (sto.trans spo)
        have WO : WebAt (upd (upd H15 to (.tup ((as.set i na).map V.ref))) po (.tup [nV n, .ref to])) po to (as.set i na) n (chg E i cc) := ⟨upd_same, spo _ _ upd_same, (chg_objs W15.2.2 hi hna15).same (sto.trans spo)⟩
        have hev16 := s16 _ _ hev13
        have oev16 := oev13.same s16
        revert s16 WO hev16 oev16
        generalize upd (upd H15 to (.tup ((as.set i na).map V.ref))) po (.tup [nV n, .ref to]) = H16
        intro s16 WO hev16 oev16
        have lotOk' : ∀ L, L ∈ Ts → (∀ x, x ∈ L → x < (chg E i cc).length) ∧ L.length ≤ 5000 := fun L hL => by
          rw [chg_len]
          exact lotOk L hL
        -- least
        refine ⟨_, rfl, ev, rfl, ⟨_, SqL.of hev16⟩, fun D nD => lc_ints (v := 14) (cost (prE (chg E i cc))) hev16 oev16 nD lenT (by show 14 < 15; decide) (fun L b Hx kx hL hb sx hk => ?_) (fun H17 s17 h17 => ?_)⟩
        · exact ⟨_, rfl, _, rfl, po, to, _, n, _, b, L, rfl, WO.same sx, hb, (lotOk' L hL).1, (lotOk' L hL).2, hk⟩
        refine ⟨D, _, rfl, SqL.of h17, by rw [List.length_map]; exact List.length_pos_iff.mpr hne, fun c' hc1' hc2' => ?_⟩
        have hev17 := s17 _ _ hev16
        have oev17 := oev16.same s17
        have WO17 := WO.same s17
        have LO := least_of memT hc1' hc2'
        rw [chg_pr hi] at LO
        obtain ⟨leastIff', leastEx'⟩ := LO
        have bl := bar_least he hi hab isb leastEx'
        -- some
        refine ⟨_, rfl, ev, rfl, ⟨_, SqL.of hev17⟩, fun D2 nD2 => lc_filter (v := 14) (fun L => decide (cost (prE (chg E i cc)) L = c') && decide (i ∈ L)) hev17 oev17 nD2 lenT (by show 14 < 15; decide) (fun L b Hx kx hL hb sx hk => ?_) (fun H18 s18 h18 => ?_)⟩
        · refine ⟨_, rfl, _, rfl, po, to, _, n, _, b, L, rfl, WO17.same sx, hb, (lotOk' L hL).1, (lotOk' L hL).2, fun Hy sy => ⟨_, rfl, rfl, _, rfl, ?_⟩⟩
          rw [int_dec]
          have hk' := hk Hy sy
          by_cases q1 : cost (prE (chg E i cc)) L = c'
          · rw [decide_eq_true q1] at hk' ⊢
            refine iteT ⟨_, rfl, _, rfl, b, L.map nV, rfl, .inr (SqT.of (sy _ _ hb)), rfl, flat_nV L, _, rfl, ?_⟩
            show kx (inV (nV i) (L.map nV)) Hy
            rw [inV_dec]
            rw [Bool.true_and] at hk'
            exact hk'
          · rw [decide_eq_false q1] at hk' ⊢
            rw [Bool.false_and] at hk'
            exact iteF hk'
        · -- if (some != []) != (cost == found)
          refine ⟨_, rfl, Nat.zero_le _, fun l2 nl2 => ⟨_, _, lots_dp (h18.same (same_upd nl2)), nil_dp upd_same, lots_shaped _, by decide, ?_⟩⟩
          refine ⟨_, rfl, _, rfl, rfl, rfl, false, ?_, iteF ⟨_, _, _, _, _, rfl, sx.trans (s16.trans (s17.trans (s18.trans (same_upd nl2))))⟩⟩
          rw [eqv_nil, int_dec]
          have iffB : (Ts.filter (fun L => decide (cost (prE (chg E i cc)) L = c') && decide (i ∈ L)) = []) ↔ ¬ cc ≤ B := by
            rw [← bl, List.filter_eq_nil_iff]
            constructor
            · rintro h ⟨L, lL, iL⟩
              have hL := (leastIff' L).mp lL
              refine h L hL.1 ?_
              rw [chg_pr hi, decide_eq_true hL.2, decide_eq_true iL]
              rfl
            · intro h L hL hc
              rw [Bool.and_eq_true, decide_eq_true_eq, decide_eq_true_eq, chg_pr hi] at hc
              exact h ⟨L, (leastIff' L).mpr ⟨hL, hc.1⟩, hc.2⟩
          rcases hcc with hcc | hcc
          · have h1 : ¬ (Ts.filter (fun L => decide (cost (prE (chg E i cc)) L = c') && decide (i ∈ L)) = []) := fun e => iffB.mp e (by omega)
            rw [decide_eq_false h1, decide_eq_true hcc]
            rfl
          · have h1 := iffB.mpr (by omega)
            have h2 : ¬ cc = B := by omega
            rw [decide_eq_true h1, decide_eq_false h2]
            rfl
end
end JW
set_option Elab.async false
set_option linter.all false
set_option maxRecDepth 100000
set_option maxHeartbeats 16000000
namespace JW
open PySem PySem.Spec PyProof.Rows L2 RK Mt
/-- where a def of the text stands -/
structure At (K : PySem.W.Frag) (x : Str) (st : Stmt) (f : Addr) : Prop where
  ns : PySem.W.nsIn K mainGlobals x = some (some (.ref f))
  fn : ∃ fd, Fun K x x st f fd
theorem at_mk {K : PySem.W.Frag} {x : Str} {st : Stmt} {f : Addr} {oc : Value} {od an : Option Addr} {osl : Array (Option Value)} {kV doc pm cdv ct : Value} (a : PySem.W.nsIn K mainGlobals x = some (some (.ref f)))
    (l : K.lookup f = some ⟨oc, od, .func (PySem.W.fnOf x x (defArgs st) (defBody st) (defScope st) .none kV doc pm an cdv ct), osl⟩) (c : PySem.W.codeIn K cdv x = true) (k : PySem.W.keepIn K (.ref f) = true) : At K x st f := ⟨a, _, fun_mk l c k⟩
section
variable {P : Program} {w : World} {K : PySem.W.Frag} {mg : Str → Option Value} {base h : Heap} {f : Addr}
theorem cl_mk {x : Str} {st : Stmt} {ps : List Str} {k : Nat} {sp : Sp} (X : K.In h) (G : h.Ns mainGlobals mg) (A : At K x st f) (ok : ∀ fd, Fun K x x st f fd → FnOk P w K mg base CX0 k f fd ps sp)
    (hb : ∀ (kV doc pm : Value) (an : Option Addr) (cdv ct : Value) (us : List Value), us.length = ps.length → bindArgs (PySem.W.fnOf x x (defArgs st) (defBody st) (defScope st) .none kV doc pm an cdv ct) ⟨us, []⟩ = pure (ps.zip us)) : Cl P w K mg base k x sp := by
  obtain ⟨fd, F⟩ := A.fn
  exact ⟨f, fd, ps, ok fd F, PySem.W.mg_of X G A.ns, F.kp, F.binds hb⟩
end
theorem all_mk {l : PySem.W.OpenLaw} {w : World} {K : PySem.W.Frag} {h : Heap} {mg : Str → Option Value} {fa f9 f10 f11 f12 f13 f14 f15 f16 f17 f18 f19 f20 f21 f23 f24 f25 f26 f27 f29 f30 f31 f32 f33 f34 f35 f36 f37 f38 f39 : Addr} (X : K.In h) (G : h.Ns mainGlobals mg) (hfa : mg "law" = some (.ref fa))
    (A9 : At K "is_int" sIsInt f9)
    (A10 : At K "is_from" sIsFrom f10)
    (A11 : At K "need_from" sNeedFrom f11)
    (A12 : At K "is_tie" sIsTie f12)
    (A13 : At K "need_web" sNeedWeb f13)
    (A14 : At K "need_index" sNeedIndex f14)
    (A15 : At K "root_of" sRootOf f15)
    (A16 : At K "roots_of" sRootsOf f16)
    (A17 : At K "pairs_of" sPairsOf f17)
    (A18 : At K "parts_of" sPartsOf f18)
    (A19 : At K "joins" sJoins f19)
    (A20 : At K "all_ties" sAllTies f20)
    (A21 : At K "need_joined" sNeedJoined f21)
    (A23 : At K "cheaper" sCheaper f23)
    (A24 : At K "others" sOthers f24)
    (A25 : At K "is_apart" sIsApart f25)
    (A26 : At K "shares" sShares f26)
    (A27 : At K "bar" sBar f27)
    (A29 : At K "_law_taken" sTaken f29)
    (A30 : At K "_law_pick" sPick f30)
    (A31 : At K "_law_alike" sAlike f31)
    (A32 : At K "_law_joined_web" sWeb f32)
    (A33 : At K "_law_parts" sLParts f33)
    (A34 : At K "_law_pairs" sLPairs f34)
    (A35 : At K "_law_price" sLPrice f35)
    (A36 : At K "_law_lots" sLLots f36)
    (A37 : At K "_law_is_tree" sLIsTree f37)
    (A38 : At K "_law_trees" sLTrees f38)
    (A39 : At K "law" sLaw f39)
    (z_isinstance : PySem.W.nsIn K mainGlobals "isinstance" = some none)
    (z_int : PySem.W.nsIn K mainGlobals "int" = some none)
    (z_bool : PySem.W.nsIn K mainGlobals "bool" = some none)
    (z_tuple : PySem.W.nsIn K mainGlobals "tuple" = some none)
    (z_list : PySem.W.nsIn K mainGlobals "list" = some none)
    (z_str : PySem.W.nsIn K mainGlobals "str" = some none)
    (z_len : PySem.W.nsIn K mainGlobals "len" = some none)
    (z_all : PySem.W.nsIn K mainGlobals "all" = some none)
    (z_enumerate : PySem.W.nsIn K mainGlobals "enumerate" = some none)
    (z_range : PySem.W.nsIn K mainGlobals "range" = some none)
    (z_max : PySem.W.nsIn K mainGlobals "max" = some none)
    (z_min : PySem.W.nsIn K mainGlobals "min" = some none)
    (z_sorted : PySem.W.nsIn K mainGlobals "sorted" = some none)
    (z_set : PySem.W.nsIn K mainGlobals "set" = some none)
    (z_sum : PySem.W.nsIn K mainGlobals "sum" = some none)
    {tP tT tM : Tok}
    (c_MOST_PLACES : PySem.W.nsIn K mainGlobals "MOST_PLACES" = some (some (.int 12 tP)))
    (c_MOST_TIES : PySem.W.nsIn K mainGlobals "MOST_TIES" = some (some (.int 30 tT)))
    (c_MOST_PRICE : PySem.W.nsIn K mainGlobals "MOST_PRICE" = some (some (.int 999 tM)))
    : ∃ fd : FuncData, (∀ (s : Shared) (v : Value), BindsTo s fd ⟨[v], []⟩ [("_law_script", v)]) ∧ ∀ base : Heap, K.In base → base.Ns mainGlobals mg → FnOk l.prog w K mg base CX0 7 fa fd ["_law_script"] (spLaw K) := by
  have e := hfa.symm.trans (PySem.W.mg_of X G A39.ns)
  cases e
  have T : Txt mg := ⟨PySem.W.mg_none_of X G z_isinstance, PySem.W.mg_none_of X G z_int, PySem.W.mg_none_of X G z_bool, PySem.W.mg_none_of X G z_tuple, PySem.W.mg_none_of X G z_list, PySem.W.mg_none_of X G z_str, PySem.W.mg_none_of X G z_len, PySem.W.mg_none_of X G z_all, PySem.W.mg_none_of X G z_enumerate, PySem.W.mg_none_of X G z_range, PySem.W.mg_none_of X G z_max, PySem.W.mg_none_of X G z_min, PySem.W.mg_none_of X G z_sorted, PySem.W.mg_none_of X G z_set, PySem.W.mg_none_of X G z_sum, ⟨_, PySem.W.mg_of X G c_MOST_PLACES⟩, ⟨_, PySem.W.mg_of X G c_MOST_TIES⟩, ⟨_, PySem.W.mg_of X G c_MOST_PRICE⟩⟩
  obtain ⟨fd, F39⟩ := A39.fn
  refine ⟨fd, fun s v => ?_, fun base _ _ => ?_⟩
  · obtain ⟨oc, od, kV, doc, pm, an, cdv, ct, osl, rfl, _, _⟩ := F39.ex
    exact .of_eq rfl
  have g9 : Cl l.prog w K mg base 1 "is_int" spIsInt := cl_mk X G A9 (fun fd F => ok_isint F T) fun _ _ _ _ _ _ us hl => match us, hl with | [_], _ => rfl
  have g10 : Cl l.prog w K mg base 2 "is_from" spIsFrom := cl_mk X G A10 (fun fd F => ok_isfrom F g9) fun _ _ _ _ _ _ us hl => match us, hl with | [_, _, _], _ => rfl
  have g11 : Cl l.prog w K mg base 3 "need_from" spNeedFrom := cl_mk X G A11 (fun fd F => ok_needfrom F g10) fun _ _ _ _ _ _ us hl => match us, hl with | [_, _, _], _ => rfl
  have g12 : Cl l.prog w K mg base 2 "is_tie" spIsTie := cl_mk X G A12 (fun fd F => ok_istie F T g9) fun _ _ _ _ _ _ us hl => match us, hl with | [_, _], _ => rfl
  have g13 : Cl l.prog w K mg base 3 "need_web" spNeedWeb := cl_mk X G A13 (fun fd F => ok_needweb F T g10 g12) fun _ _ _ _ _ _ us hl => match us, hl with | [_], _ => rfl
  have g14 : Cl l.prog w K mg base 4 "need_index" spNeedIndex := cl_mk X G A14 (fun fd F => ok_needindex F T g11) fun _ _ _ _ _ _ us hl => match us, hl with | [_, _], _ => rfl
  have g15 : Cl l.prog w K mg base 1 "root_of" spRootOf := cl_mk X G A15 (fun fd F => ok_rootof F) fun _ _ _ _ _ _ us hl => match us, hl with | [_, _], _ => rfl
  have g16 : Cl l.prog w K mg base 2 "roots_of" spRootsOf := cl_mk X G A16 (fun fd F => ok_rootsof F T g15) fun _ _ _ _ _ _ us hl => match us, hl with | [_, _], _ => rfl
  have g17 : Cl l.prog w K mg base 1 "pairs_of" spPairsOf := cl_mk X G A17 (fun fd F => ok_pairsof F) fun _ _ _ _ _ _ us hl => match us, hl with | [_, _], _ => rfl
  have g18 : Cl l.prog w K mg base 3 "parts_of" spPartsOf := cl_mk X G A18 (fun fd F => ok_partsof F T g16) fun _ _ _ _ _ _ us hl => match us, hl with | [_, _], _ => rfl
  have g19 : Cl l.prog w K mg base 4 "joins" spJoins := cl_mk X G A19 (fun fd F => ok_joins F T g17 g18) fun _ _ _ _ _ _ us hl => match us, hl with | [_, _], _ => rfl
  have g20 : Cl l.prog w K mg base 1 "all_ties" spAllTies := cl_mk X G A20 (fun fd F => ok_allties F T) fun _ _ _ _ _ _ us hl => match us, hl with | [_], _ => rfl
  have g21 : Cl l.prog w K mg base 5 "need_joined" spNeedJoined := cl_mk X G A21 (fun fd F => ok_needjoined F g19 g20) fun _ _ _ _ _ _ us hl => match us, hl with | [_], _ => rfl
  have g23 : Cl l.prog w K mg base 1 "cheaper" spCheaper := cl_mk X G A23 (fun fd F => ok_cheaper F) fun _ _ _ _ _ _ us hl => match us, hl with | [_, _], _ => rfl
  have g24 : Cl l.prog w K mg base 1 "others" spOthers := cl_mk X G A24 (fun fd F => ok_others F T) fun _ _ _ _ _ _ us hl => match us, hl with | [_, _], _ => rfl
  have g25 : Cl l.prog w K mg base 3 "is_apart" spIsApart := cl_mk X G A25 (fun fd F => ok_isapart F g16) fun _ _ _ _ _ _ us hl => match us, hl with | [_, _, _], _ => rfl
  have g26 : Cl l.prog w K mg base 6 "shares" spShares := cl_mk X G A26 (fun fd F => ok_shares F T g13 g21 g25 g24 g23) fun _ _ _ _ _ _ us hl => match us, hl with | [_], _ => rfl
  have g27 : Cl l.prog w K mg base 5 "bar" spBar := cl_mk X G A27 (fun fd F => ok_bar F T g13 g14 g25) fun _ _ _ _ _ _ us hl => match us, hl with | [_, _], _ => rfl
  have g29 : Cl l.prog w K mg base 1 "_law_taken" (spTaken K) := cl_mk X G A29 (fun fd F => ok_taken F T) fun _ _ _ _ _ _ us hl => match us, hl with | [_, _], _ => rfl
  have g30 : Cl l.prog w K mg base 2 "_law_pick" (spPick K) := cl_mk X G A30 (fun fd F => ok_pick F T g29) fun _ _ _ _ _ _ us hl => match us, hl with | [_, _], _ => rfl
  have g31a : Cl l.prog w K mg base 1 "_law_alike" (spAl R0) := cl_mk X G A31 (fun fd F => ok_alike0 F T) fun _ _ _ _ _ _ us hl => match us, hl with | [_, _], _ => rfl
  have g31b : Cl l.prog w K mg base 2 "_law_alike" (spAl (RT R0)) := cl_mk X G A31 (fun fd F => ok_alikeT F T R0.mono g31a) fun _ _ _ _ _ _ us hl => match us, hl with | [_, _], _ => rfl
  have g31 : Cl l.prog w K mg base 3 "_law_alike" (spAl (RT (RT R0))) := cl_mk X G A31 (fun fd F => ok_alikeT F T (RT.mono R0.mono) g31b) fun _ _ _ _ _ _ us hl => match us, hl with | [_, _], _ => rfl
  have g32 : Cl l.prog w K mg base 3 "_law_joined_web" (spWeb K) := cl_mk X G A32 (fun fd F => ok_web F T g29 g30) fun _ _ _ _ _ _ us hl => match us, hl with | [_, _, _], _ => rfl
  have g33 : Cl l.prog w K mg base 1 "_law_parts" spPartsOf := cl_mk X G A33 (fun fd F => ok_lparts F T) fun _ _ _ _ _ _ us hl => match us, hl with | [_, _], _ => rfl
  have g34 : Cl l.prog w K mg base 1 "_law_pairs" spPairsOf := cl_mk X G A34 (fun fd F => ok_lpairs F) fun _ _ _ _ _ _ us hl => match us, hl with | [_, _], _ => rfl
  have g35 : Cl l.prog w K mg base 1 "_law_price" spLPrice := cl_mk X G A35 (fun fd F => ok_lprice F T) fun _ _ _ _ _ _ us hl => match us, hl with | [_, _], _ => rfl
  have g36 : Cl l.prog w K mg base 1 "_law_lots" spLLots := cl_mk X G A36 (fun fd F => ok_llots F T) fun _ _ _ _ _ _ us hl => match us, hl with | [_, _], _ => rfl
  have g37 : Cl l.prog w K mg base 2 "_law_is_tree" spLIsTree := cl_mk X G A37 (fun fd F => ok_listree F T g34 g33) fun _ _ _ _ _ _ us hl => match us, hl with | [_, _], _ => rfl
  have g38 : Cl l.prog w K mg base 3 "_law_trees" spLTrees := cl_mk X G A38 (fun fd F => ok_ltrees F T g36 g37) fun _ _ _ _ _ _ us hl => match us, hl with | [_], _ => rfl
  exact ok_law F39 T g32 g38 g35 g31 g26 g29 g27
end JW
set_option Elab.async false
set_option linter.all false
set_option maxRecDepth 100000
open PySem PySem.W PyProof.Rows
set_option maxRecDepth 100000 in
set_option maxHeartbeats 0 in
theorem PySem.Challenge.cw_joinworks_k02_whole_shares_of_ties_holds : PySem.Challenge.rw_joinworks_k02_whole_shares_of_ties.Holds := by
  w_on; o_law; k_head; (case hw => w_witness2)
  k_fill
  refine L2.walk_of (l := PySem.Challenge.rw_joinworks_k02_whole_shares_of_ties) (n := 63) (k := 7) (x := "_law_script") (CX := fun _ => L2.CX0) (sp := fun w => JW.spLaw _) rfl (by decide) rfl ⟨rfl, by decide, by decide⟩ (fun w h Y => PySem.W.kIn_of Y) ?F (fun _ _ a ns hl _ hS => ⟨a, ns, rfl, hS, hl, fun _ => rfl⟩) (fun _ _ _ _ _ h => h)
  case F =>
    intro w mg fa h KX G hmg
    refine' JW.all_mk KX G hmg (JW.at_mk ?a9 ?l9 ?c9 ?k9) (JW.at_mk ?a10 ?l10 ?c10 ?k10) (JW.at_mk ?a11 ?l11 ?c11 ?k11) (JW.at_mk ?a12 ?l12 ?c12 ?k12) (JW.at_mk ?a13 ?l13 ?c13 ?k13) (JW.at_mk ?a14 ?l14 ?c14 ?k14) (JW.at_mk ?a15 ?l15 ?c15 ?k15) (JW.at_mk ?a16 ?l16 ?c16 ?k16) (JW.at_mk ?a17 ?l17 ?c17 ?k17) (JW.at_mk ?a18 ?l18 ?c18 ?k18) (JW.at_mk ?a19 ?l19 ?c19 ?k19) (JW.at_mk ?a20 ?l20 ?c20 ?k20) (JW.at_mk ?a21 ?l21 ?c21 ?k21) (JW.at_mk ?a23 ?l23 ?c23 ?k23) (JW.at_mk ?a24 ?l24 ?c24 ?k24) (JW.at_mk ?a25 ?l25 ?c25 ?k25) (JW.at_mk ?a26 ?l26 ?c26 ?k26) (JW.at_mk ?a27 ?l27 ?c27 ?k27) (JW.at_mk ?a29 ?l29 ?c29 ?k29) (JW.at_mk ?a30 ?l30 ?c30 ?k30) (JW.at_mk ?a31 ?l31 ?c31 ?k31) (JW.at_mk ?a32 ?l32 ?c32 ?k32) (JW.at_mk ?a33 ?l33 ?c33 ?k33) (JW.at_mk ?a34 ?l34 ?c34 ?k34) (JW.at_mk ?a35 ?l35 ?c35 ?k35) (JW.at_mk ?a36 ?l36 ?c36 ?k36) (JW.at_mk ?a37 ?l37 ?c37 ?k37) (JW.at_mk ?a38 ?l38 ?c38 ?k38) (JW.at_mk ?a39 ?l39 ?c39 ?k39) ?z_isinstance ?z_int ?z_bool ?z_tuple ?z_list ?z_str ?z_len ?z_all ?z_enumerate ?z_range ?z_max ?z_min ?z_sorted ?z_set ?z_sum ?c_MOST_PLACES ?c_MOST_TIES ?c_MOST_PRICE 
    (case a9 => k_is)
    (case l9 => k_is)
    (case c9 => k_is)
    (case k9 => k_is)
    (case a10 => k_is)
    (case l10 => k_is)
    (case c10 => k_is)
    (case k10 => k_is)
    (case a11 => k_is)
    (case l11 => k_is)
    (case c11 => k_is)
    (case k11 => k_is)
    (case a12 => k_is)
    (case l12 => k_is)
    (case c12 => k_is)
    (case k12 => k_is)
    (case a13 => k_is)
    (case l13 => k_is)
    (case c13 => k_is)
    (case k13 => k_is)
    (case a14 => k_is)
    (case l14 => k_is)
    (case c14 => k_is)
    (case k14 => k_is)
    (case a15 => k_is)
    (case l15 => k_is)
    (case c15 => k_is)
    (case k15 => k_is)
    (case a16 => k_is)
    (case l16 => k_is)
    (case c16 => k_is)
    (case k16 => k_is)
    (case a17 => k_is)
    (case l17 => k_is)
    (case c17 => k_is)
    (case k17 => k_is)
    (case a18 => k_is)
    (case l18 => k_is)
    (case c18 => k_is)
    (case k18 => k_is)
    (case a19 => k_is)
    (case l19 => k_is)
    (case c19 => k_is)
    (case k19 => k_is)
    (case a20 => k_is)
    (case l20 => k_is)
    (case c20 => k_is)
    (case k20 => k_is)
    (case a21 => k_is)
    (case l21 => k_is)
    (case c21 => k_is)
    (case k21 => k_is)
    (case a23 => k_is)
    (case l23 => k_is)
    (case c23 => k_is)
    (case k23 => k_is)
    (case a24 => k_is)
    (case l24 => k_is)
    (case c24 => k_is)
    (case k24 => k_is)
    (case a25 => k_is)
    (case l25 => k_is)
    (case c25 => k_is)
    (case k25 => k_is)
    (case a26 => k_is)
    (case l26 => k_is)
    (case c26 => k_is)
    (case k26 => k_is)
    (case a27 => k_is)
    (case l27 => k_is)
    (case c27 => k_is)
    (case k27 => k_is)
    (case a29 => k_is)
    (case l29 => k_is)
    (case c29 => k_is)
    (case k29 => k_is)
    (case a30 => k_is)
    (case l30 => k_is)
    (case c30 => k_is)
    (case k30 => k_is)
    (case a31 => k_is)
    (case l31 => k_is)
    (case c31 => k_is)
    (case k31 => k_is)
    (case a32 => k_is)
    (case l32 => k_is)
    (case c32 => k_is)
    (case k32 => k_is)
    (case a33 => k_is)
    (case l33 => k_is)
    (case c33 => k_is)
    (case k33 => k_is)
    (case a34 => k_is)
    (case l34 => k_is)
    (case c34 => k_is)
    (case k34 => k_is)
    (case a35 => k_is)
    (case l35 => k_is)
    (case c35 => k_is)
    (case k35 => k_is)
    (case a36 => k_is)
    (case l36 => k_is)
    (case c36 => k_is)
    (case k36 => k_is)
    (case a37 => k_is)
    (case l37 => k_is)
    (case c37 => k_is)
    (case k37 => k_is)
    (case a38 => k_is)
    (case l38 => k_is)
    (case c38 => k_is)
    (case k38 => k_is)
    (case a39 => k_is)
    (case l39 => k_is)
    (case c39 => k_is)
    (case k39 => k_is)
    (case z_isinstance => k_is)
    (case z_int => k_is)
    (case z_bool => k_is)
    (case z_tuple => k_is)
    (case z_list => k_is)
    (case z_str => k_is)
    (case z_len => k_is)
    (case z_all => k_is)
    (case z_enumerate => k_is)
    (case z_range => k_is)
    (case z_max => k_is)
    (case z_min => k_is)
    (case z_sorted => k_is)
    (case z_set => k_is)
    (case z_sum => k_is)
    (case c_MOST_PLACES => k_is)
    (case c_MOST_TIES => k_is)
    (case c_MOST_PRICE => k_is)
