import PyProof.Rows.All
import Wide.All
import OpenK.AllK
import Wide.FinOn
import HandS.ForMost
import HandS.Evl
import HandS.TupSets
import HandS.Deep
import HandS.Flow
import HandS.Style
import HandS.IsInst
import HandS.TupAny
import HandS.Conv
import HandS.Walk
import HandS.GenList
import KE.GoesEnum
import KE.GoesMore
import PySem.Challenge.RW_webnumbers_k22_whole_cores_and_ranks
set_option Elab.async false
set_option linter.all false
set_option maxRecDepth 100000
set_option maxHeartbeats 4000000
/-! K22, part A: lists -/
namespace K22

theorem perm_of_subset {α : Type} [BEq α] [LawfulBEq α] : ∀ (l1 l2 : List α), l1.Nodup → (∀ x ∈ l1, x ∈ l2) → l2.length ≤ l1.length → l2.Perm l1
  | [], l2, _, _, h => by
    have : l2 = [] := List.eq_nil_of_length_eq_zero (Nat.le_zero.mp h)
    rw [this]
  | x :: t, l2, nd, sub, h => by
    have hx : x ∈ l2 := sub x List.mem_cons_self
    have p : l2.Perm (x :: l2.erase x) := List.perm_cons_erase hx
    have nt := List.nodup_cons.mp nd
    have ih := perm_of_subset t (l2.erase x) nt.2 (fun y hy => by
      have hy2 := sub y (List.mem_cons_of_mem _ hy)
      have hne : y ≠ x := fun e => nt.1 (e ▸ hy)
      exact (List.mem_erase_of_ne hne).mpr hy2) (by
        have := p.length_eq
        simp only [List.length_cons] at this h
        omega)
    exact p.trans (ih.cons x)

theorem length_le_of_subset {α : Type} [BEq α] [LawfulBEq α] : ∀ (l1 l2 : List α), l1.Nodup → (∀ x ∈ l1, x ∈ l2) → l1.length ≤ l2.length
  | [], _, _, _ => Nat.zero_le _
  | x :: t, l2, nd, sub => by
    have hx : x ∈ l2 := sub x List.mem_cons_self
    have p : l2.Perm (x :: l2.erase x) := List.perm_cons_erase hx
    have nt := List.nodup_cons.mp nd
    have ih := length_le_of_subset t (l2.erase x) nt.2 (fun y hy => by
      have hy2 := sub y (List.mem_cons_of_mem _ hy)
      have hne : y ≠ x := fun e => nt.1 (e ▸ hy)
      exact (List.mem_erase_of_ne hne).mpr hy2)
    have := p.length_eq
    simp only [List.length_cons] at this ⊢
    omega

/-- two lists ordered by an antisymmetric relation with the same members (as often) are one -/
theorem eq_of_perm {α : Type} {R : α → α → Prop} (anti : ∀ a b, R a b → R b a → a = b) : ∀ {l1 l2 : List α}, l1.Perm l2 → l1.Pairwise R → l2.Pairwise R → l1 = l2
  | [], l2, p, _, _ => by rw [List.Perm.nil_eq p]
  | x :: t, [], p, _, _ => by simpa using p.length_eq
  | x :: t, y :: u, p, h1, h2 => by
    have e : x = y := by
      have hx : x ∈ y :: u := p.mem_iff.mp List.mem_cons_self
      have hy : y ∈ x :: t := p.mem_iff.mpr List.mem_cons_self
      rcases List.mem_cons.mp hx with e | hx
      · exact e
      rcases List.mem_cons.mp hy with e | hy
      · exact e.symm
      exact anti x y ((List.pairwise_cons.mp h1).1 y hy) ((List.pairwise_cons.mp h2).1 x hx)
    subst e
    rw [eq_of_perm anti (List.Perm.cons_inv p) (List.pairwise_cons.mp h1).2 (List.pairwise_cons.mp h2).2]

/-- the order of pairs -/
def Lt2 (p q : Nat × Nat) : Prop := p.1 < q.1 ∨ (p.1 = q.1 ∧ p.2 < q.2)
theorem Lt2.asymm {p q : Nat × Nat} (h : Lt2 p q) (h' : Lt2 q p) : False := by
  unfold Lt2 at h h'
  omega
theorem lt2_nodup {l : List (Nat × Nat)} (h : l.Pairwise Lt2) : l.Nodup := h.imp fun {a b} hab e => by
  subst e
  exact hab.asymm hab
theorem lt_nodup {l : List Nat} (h : l.Pairwise (· < ·)) : l.Nodup := h.imp fun {a b} hab => Nat.ne_of_lt hab
theorem perm_of_mem {α : Type} [BEq α] [LawfulBEq α] {l1 l2 : List α} (n1 : l1.Nodup) (n2 : l2.Nodup) (h : ∀ x, x ∈ l1 ↔ x ∈ l2) : l1.Perm l2 := by
  have h1 := length_le_of_subset l1 l2 n1 (fun x hx => (h x).mp hx)
  have h2 := length_le_of_subset l2 l1 n2 (fun x hx => (h x).mpr hx)
  exact perm_of_subset l2 l1 n2 (fun x hx => (h x).mpr hx) h1
theorem eq_of_lt2 {l1 l2 : List (Nat × Nat)} (h1 : l1.Pairwise Lt2) (h2 : l2.Pairwise Lt2) (h : ∀ x, x ∈ l1 ↔ x ∈ l2) : l1 = l2 :=
  eq_of_perm (fun _ _ a b => (a.asymm b).elim) (perm_of_mem (lt2_nodup h1) (lt2_nodup h2) h) h1 h2
theorem eq_of_lt {l1 l2 : List Nat} (h1 : l1.Pairwise (· < ·)) (h2 : l2.Pairwise (· < ·)) (h : ∀ x, x ∈ l1 ↔ x ∈ l2) : l1 = l2 :=
  eq_of_perm (fun _ _ h1 h2 => (Nat.lt_asymm h1 h2).elim) (perm_of_mem (lt_nodup h1) (lt_nodup h2) h) h1 h2
theorem range_lt (n : Nat) : (List.range n).Pairwise (· < ·) := List.pairwise_lt_range

theorem getD_lt {r : List Nat} {i d : Nat} (h : i < r.length) : r.getD i d = r[i] := by
  rw [List.getD_eq_getElem?_getD, List.getElem?_eq_getElem h]; rfl
theorem getD_mem {r : List Nat} {i d : Nat} (h : i < r.length) : r.getD i d ∈ r := by
  rw [getD_lt h]; exact List.getElem_mem h
theorem getD_map {r : List Nat} {i d : Nat} (f : Nat → Nat) (h : i < r.length) : (r.map f).getD i d = f (r.getD i d) := by
  rw [getD_lt (by simpa using h), getD_lt h, List.getElem_map]
theorem getD_app_left {r q : List Nat} {i d : Nat} (h : i < r.length) : (r ++ q).getD i d = r.getD i d := by
  rw [getD_lt (by rw [List.length_append]; omega), getD_lt h, List.getElem_append_left h]
theorem getD_app_at {r : List Nat} {v d : Nat} : (r ++ [v]).getD r.length d = v := by
  rw [getD_lt (by simp)]; simp
theorem mem_getD {r : List Nat} {x : Nat} (h : x ∈ r) (d : Nat) : ∃ i, i < r.length ∧ r.getD i d = x := by
  obtain ⟨i, hi, e⟩ := List.getElem_of_mem h
  exact ⟨i, hi, by rw [getD_lt hi, e]⟩
theorem getD_inj {r : List Nat} (nd : r.Nodup) {i j d : Nat} (hi : i < r.length) (hj : j < r.length) (e : r.getD i d = r.getD j d) : i = j := by
  rw [getD_lt hi, getD_lt hj] at e
  exact (List.getElem_inj nd).mp e
theorem ext_getD {r q : List Nat} (hl : r.length = q.length) (h : ∀ i, i < r.length → r.getD i 0 = q.getD i 0) : r = q := by
  refine List.ext_getElem hl fun i h1 h2 => ?_
  have := h i h1
  rw [getD_lt h1, getD_lt h2] at this
  exact this
theorem range_getD {n i : Nat} (h : i < n) : (List.range n).getD i 0 = i := by
  rw [getD_lt (by simpa using h)]; simp
/-- every number below the length stands in it: it is a rearrangement -/
theorem perm_range {r : List Nat} {m : Nat} (hl : r.length = m) (h : ∀ y, y < m → y ∈ r) : r.Perm (List.range m) :=
  perm_of_subset (List.range m) r List.nodup_range (fun x hx => h x (List.mem_range.mp hx)) (by rw [hl, List.length_range]; exact Nat.le_refl _)
theorem perm_range_of_nodup {r : List Nat} {m : Nat} (hl : r.length = m) (nd : r.Nodup) (h : ∀ x ∈ r, x < m) : r.Perm (List.range m) :=
  (perm_of_subset r (List.range m) nd (fun x hx => List.mem_range.mpr (h x hx)) (by rw [hl, List.length_range]; exact Nat.le_refl _)).symm
theorem flatMap_congr_mem {α β : Type} : ∀ {l : List α} {f g : α → List β}, (∀ x ∈ l, f x = g x) → l.flatMap f = l.flatMap g
  | [], _, _, _ => rfl
  | x :: t, f, g, h => by
    rw [List.flatMap_cons, List.flatMap_cons, h x List.mem_cons_self, flatMap_congr_mem fun y hy => h y (List.mem_cons_of_mem _ hy)]
theorem map_getD_range (s : List Nat) : (List.range s.length).map (fun i => s.getD i 0) = s := by
  refine ext_getD (by simp) fun i hi => ?_
  have hi' : i < s.length := by simpa using hi
  rw [getD_map _ (by simpa using hi'), range_getD hi']
end K22
/-! K22, part B: homs -/
namespace K22
abbrev Adj := Nat → Nat → Bool
def fitsB (a b : Adj) (row : List Nat) (v : Nat) : Bool :=
  (List.range row.length).all (fun k => !(a k row.length) || b (row.getD k 0) v) && (!(a row.length row.length) || b v v)
def dfs (a b : Adj) (m : Nat) : Nat → List Nat → List (List Nat)
  | 0, row => [row]
  | k + 1, row => ((List.range m).filter (fitsB a b row)).flatMap fun v => dfs a b m k (row ++ [v])
def homsL (n : Nat) (a : Adj) (m : Nat) (b : Adj) : List (List Nat) := dfs a b m n []
def bfs (a b : Adj) (m : Nat) : Nat → List (List Nat)
  | 0 => [[]]
  | k + 1 => (bfs a b m k).flatMap fun row => ((List.range m).filter (fitsB a b row)).map fun v => row ++ [v]
theorem bfs_dfs (a b : Adj) (m : Nat) : ∀ k j, (bfs a b m j).flatMap (dfs a b m k) = bfs a b m (j + k)
  | 0, j => by
    show (bfs a b m j).flatMap (fun row => [row]) = bfs a b m j
    induction bfs a b m j with
    | nil => rfl
    | cons x t ih => rw [List.flatMap_cons, ih]; rfl
  | k + 1, j => by
    have e : (bfs a b m j).flatMap (dfs a b m (k + 1)) = (bfs a b m (j + 1)).flatMap (dfs a b m k) := by
      show _ = ((bfs a b m j).flatMap fun row => ((List.range m).filter (fitsB a b row)).map fun v => row ++ [v]).flatMap (dfs a b m k)
      rw [List.flatMap_assoc]
      congr 1
      funext row
      show ((List.range m).filter (fitsB a b row)).flatMap (fun v => dfs a b m k (row ++ [v])) = _
      rw [List.flatMap_map]
    rw [e, bfs_dfs a b m k (j + 1)]
    congr 1
    omega
theorem homs_bfs (n : Nat) (a : Adj) (m : Nat) (b : Adj) : homsL n a m b = bfs a b m n := by
  have := bfs_dfs a b m n 0
  rw [Nat.zero_add] at this
  rw [← this]
  show dfs a b m n [] = [[]].flatMap (dfs a b m n)
  simp
theorem fits_iff {a b : Adj} {row : List Nat} {v : Nat} : fitsB a b row v = true ↔ (∀ k, k < row.length → a k row.length = true → b (row.getD k 0) v = true) ∧ (a row.length row.length = true → b v v = true) := by
  unfold fitsB
  simp only [Bool.and_eq_true, List.all_eq_true, List.mem_range, Bool.or_eq_true, Bool.not_eq_true']
  constructor
  · rintro ⟨h1, h2⟩
    refine ⟨fun k hk e => ?_, fun e => ?_⟩
    · rcases h1 k hk with q | q
      · rw [e] at q; cases q
      · exact q
    · rcases h2 with q | q
      · rw [e] at q; cases q
      · exact q
  · rintro ⟨h1, h2⟩
    refine ⟨fun k hk => ?_, ?_⟩
    · cases e : a k row.length with
      | false => exact .inl rfl
      | true => exact .inr (h1 k hk e)
    · cases e : a row.length row.length with
      | false => exact .inl rfl
      | true => exact .inr (h2 e)
/-- r goes on from row, and from there on all is in order -/
def Ext (a b : Adj) (m : Nat) (row r : List Nat) : Prop :=
  row <+: r ∧ ∀ j, row.length ≤ j → j < r.length → r.getD j 0 < m ∧ ∀ i, i ≤ j → a i j = true → b (r.getD i 0) (r.getD j 0) = true
theorem prefix_getD {row r : List Nat} (h : row <+: r) {i : Nat} (hi : i < row.length) : r.getD i 0 = row.getD i 0 := by
  obtain ⟨q, rfl⟩ := h
  exact getD_app_left hi
theorem prefix_snoc {row r : List Nat} (h : row <+: r) (hl : row.length < r.length) : row ++ [r.getD row.length 0] <+: r := by
  obtain ⟨q, rfl⟩ := h
  cases q with
  | nil => simp at hl
  | cons x t =>
    have e : (row ++ x :: t).getD row.length 0 = x := by rw [getD_lt hl]; simp
    rw [e]
    exact ⟨t, by simp⟩
theorem mem_dfs {a b : Adj} {m : Nat} : ∀ {k : Nat} {row r : List Nat}, r ∈ dfs a b m k row ↔ Ext a b m row r ∧ r.length = row.length + k
  | 0, row, r => by
    show r ∈ [row] ↔ _
    rw [List.mem_singleton]
    constructor
    · rintro rfl
      exact ⟨⟨List.prefix_refl _, fun j h1 h2 => absurd h2 (Nat.not_lt.mpr h1)⟩, rfl⟩
    · rintro ⟨⟨h1, _⟩, h2⟩
      exact (List.IsPrefix.eq_of_length h1 h2.symm).symm
  | k + 1, row, r => by
    show r ∈ ((List.range m).filter (fitsB a b row)).flatMap (fun v => dfs a b m k (row ++ [v])) ↔ _
    rw [List.mem_flatMap]
    constructor
    · rintro ⟨v, hv, hr⟩
      rw [List.mem_filter, List.mem_range] at hv
      obtain ⟨hv1, hv2⟩ := hv
      obtain ⟨⟨p, h⟩, hl⟩ := mem_dfs.mp hr
      rw [List.length_append, List.length_singleton] at hl h
      have p0 : row <+: r := (List.prefix_append row [v]).trans p
      have ev : r.getD row.length 0 = v := by
        rw [prefix_getD p (by simp), getD_app_at]
      refine ⟨⟨p0, fun j h1 h2 => ?_⟩, by omega⟩
      by_cases hj : j = row.length
      · subst hj
        obtain ⟨f1, f2⟩ := fits_iff.mp hv2
        refine ⟨by rw [ev]; exact hv1, fun i hi e => ?_⟩
        rw [ev]
        by_cases hij : i = row.length
        · subst hij
          rw [ev]
          exact f2 e
        · rw [prefix_getD p0 (show i < row.length by omega)]
          exact f1 i (by omega) e
      · exact h j (by omega) h2
    · rintro ⟨⟨p, h⟩, hl⟩
      have hlt : row.length < r.length := by omega
      obtain ⟨h1, h2⟩ := h row.length (Nat.le_refl _) hlt
      refine ⟨r.getD row.length 0, ?_, ?_⟩
      · rw [List.mem_filter, List.mem_range]
        refine ⟨h1, fits_iff.mpr ⟨fun i hi e => ?_, fun e => h2 row.length (Nat.le_refl _) e⟩⟩
        rw [← prefix_getD p hi]
        exact h2 i (Nat.le_of_lt hi) e
      · refine mem_dfs.mpr ⟨⟨prefix_snoc p hlt, fun j hj1 hj2 => h j (by rw [List.length_append, List.length_singleton] at hj1; omega) hj2⟩, ?_⟩
        rw [List.length_append, List.length_singleton]
        omega

def Sym (a : Adj) : Prop := ∀ i j, a i j = a j i
structure IsHom (n : Nat) (a : Adj) (m : Nat) (b : Adj) (r : List Nat) : Prop where
  len : r.length = n
  lt : ∀ x ∈ r, x < m
  adj : ∀ i j, i < n → j < n → a i j = true → b (r.getD i 0) (r.getD j 0) = true
theorem mem_homs {n m : Nat} {a b : Adj} (sa : Sym a) (sb : Sym b) {r : List Nat} : r ∈ homsL n a m b ↔ IsHom n a m b r := by
  unfold homsL
  rw [mem_dfs]
  constructor
  · rintro ⟨⟨_, h⟩, hl⟩
    have hl' : r.length = n := by simpa using hl
    refine ⟨hl', fun x hx => ?_, fun i j hi hj e => ?_⟩
    · obtain ⟨i, hi, rfl⟩ := mem_getD hx 0
      exact (h i (Nat.zero_le _) hi).1
    · rcases Nat.le_total i j with c | c
      · exact (h j (Nat.zero_le _) (by omega)).2 i c e
      · rw [sb]
        exact (h i (Nat.zero_le _) (by omega)).2 j c (by rw [sa]; exact e)
  · intro h
    refine ⟨⟨List.nil_prefix, fun j _ hj => ⟨h.lt _ (getD_mem hj), fun i hi e => h.adj i j (by have := h.len; omega) (by have := h.len; omega) e⟩⟩, by simpa using h.len⟩
/-- only what lies below the sizes counts -/
theorem dfs_congr {a a' b b' : Adj} {n m : Nat} (ha : ∀ i j, i < n → j < n → a i j = a' i j) (hb : ∀ i j, i < m → j < m → b i j = b' i j) :
    ∀ (k : Nat) (row : List Nat), row.length + k = n → (∀ x ∈ row, x < m) → dfs a b m k row = dfs a' b' m k row
  | 0, _, _, _ => rfl
  | k + 1, row, hl, hr => by
    have ef : (List.range m).filter (fitsB a b row) = (List.range m).filter (fitsB a' b' row) := by
      refine List.filter_congr fun v hv => ?_
      have hv := List.mem_range.mp hv
      unfold fitsB
      congr 1
      · rw [Bool.eq_iff_iff]
        simp only [List.all_eq_true, List.mem_range]
        constructor
        · intro h k hk
          rw [← ha k row.length (by omega) (by omega), ← hb _ v (hr _ (getD_mem hk)) hv]
          exact h k hk
        · intro h k hk
          rw [ha k row.length (by omega) (by omega), hb _ v (hr _ (getD_mem hk)) hv]
          exact h k hk
      · rw [ha _ _ (by omega) (by omega), hb _ _ hv hv]
    show ((List.range m).filter (fitsB a b row)).flatMap (fun v => dfs a b m k (row ++ [v])) = ((List.range m).filter (fitsB a' b' row)).flatMap (fun v => dfs a' b' m k (row ++ [v]))
    rw [ef]
    refine flatMap_congr_mem fun v hv => ?_
    have hv := List.mem_range.mp (List.mem_filter.mp hv).1
    refine dfs_congr ha hb k (row ++ [v]) (by simp; omega) fun x hx => ?_
    rcases List.mem_append.mp hx with hx | hx
    · exact hr x hx
    · rw [List.mem_singleton.mp hx]; exact hv
theorem homs_congr {a a' b b' : Adj} {n m : Nat} (ha : ∀ i j, i < n → j < n → a i j = a' i j) (hb : ∀ i j, i < m → j < m → b i j = b' i j) : homsL n a m b = homsL n a' m b' :=
  dfs_congr ha hb n [] (by simp) (by simp)

theorem IsHom.comp {n m p : Nat} {a b c : Adj} {f g : List Nat} (hf : IsHom n a m b f) (hg : IsHom m b p c g) : IsHom n a p c (f.map fun x => g.getD x 0) where
  len := by rw [List.length_map, hf.len]
  lt := fun x hx => by
    obtain ⟨y, hy, rfl⟩ := List.mem_map.mp hx
    exact hg.lt _ (getD_mem (by rw [hg.len]; exact hf.lt y hy))
  adj := fun i j hi hj e => by
    rw [getD_map _ (by rw [hf.len]; exact hi), getD_map _ (by rw [hf.len]; exact hj)]
    exact hg.adj _ _ (hf.lt _ (getD_mem (by rw [hf.len]; exact hi))) (hf.lt _ (getD_mem (by rw [hf.len]; exact hj))) (hf.adj i j hi hj e)
theorem IsHom.id (n : Nat) (a : Adj) : IsHom n a n a (List.range n) where
  len := List.length_range
  lt := fun x hx => List.mem_range.mp hx
  adj := fun i j hi hj e => by rw [range_getD hi, range_getD hj]; exact e
theorem IsHom.congr {n m : Nat} {a a' b b' : Adj} {r : List Nat} (h : IsHom n a m b r) (ha : ∀ i j, i < n → j < n → a i j = a' i j) (hb : ∀ i j, i < m → j < m → b i j = b' i j) : IsHom n a' m b' r where
  len := h.len
  lt := h.lt
  adj := fun i j hi hj e => by
    rw [← hb _ _ (h.lt _ (getD_mem (by rw [h.len]; exact hi))) (h.lt _ (getD_mem (by rw [h.len]; exact hj)))]
    exact h.adj i j hi hj (by rw [ha i j hi hj]; exact e)
end K22
/-! K22, part C: cores -/
namespace K22
def ind (a : Adj) (s : List Nat) : Adj := fun i j => a (s.getD i 0) (s.getD j 0)
theorem Sym.ind {a : Adj} (h : Sym a) (s : List Nat) : Sym (ind a s) := fun i j => h _ _
def Asc (n : Nat) (s : List Nat) : Prop := s.Pairwise (· < ·) ∧ ∀ x ∈ s, x < n
def Leads (n : Nat) (a : Adj) (m : Nat) (b : Adj) : Prop := ∃ r, IsHom n a m b r
theorem Leads.trans {n m p : Nat} {a b c : Adj} (h : Leads n a m b) (h' : Leads m b p c) : Leads n a p c := by
  obtain ⟨f, hf⟩ := h
  obtain ⟨g, hg⟩ := h'
  exact ⟨_, hf.comp hg⟩
theorem Leads.congr {n m : Nat} {a a' b b' : Adj} (h : Leads n a m b) (ha : ∀ i j, i < n → j < n → a i j = a' i j) (hb : ∀ i j, i < m → j < m → b i j = b' i j) : Leads n a' m b' := by
  obtain ⟨f, hf⟩ := h
  exact ⟨f, hf.congr ha hb⟩
structure IsCore (n : Nat) (a : Adj) (s : List Nat) : Prop where
  asc : Asc n s
  to : Leads n a s.length (ind a s)
  least : ∀ t, Asc n t → t.length < s.length → ¬ Leads n a t.length (ind a t)
theorem hom_back {n : Nat} {a : Adj} {s : List Nat} (h : Asc n s) : IsHom s.length (ind a s) n a s where
  len := rfl
  lt := h.2
  adj := fun _ _ _ _ e => e
theorem Asc.range (n : Nat) : Asc n (List.range n) := ⟨range_lt n, fun _ hx => List.mem_range.mp hx⟩
theorem Asc.len {n : Nat} {s : List Nat} (h : Asc n s) : s.length ≤ n := by
  have := length_le_of_subset s (List.range n) (lt_nodup h.1) (fun x hx => List.mem_range.mpr (h.2 x hx))
  rwa [List.length_range] at this
theorem asc_getD {n : Nat} {s : List Nat} (h : Asc n s) {i j : Nat} (hij : i < j) (hj : j < s.length) : s.getD i 0 < s.getD j 0 := by
  rw [getD_lt (Nat.lt_trans hij hj), getD_lt hj]
  exact List.pairwise_iff_getElem.mp h.1 i j (Nat.lt_trans hij hj) hj hij
theorem Asc.sub {n : Nat} {s t : List Nat} (hs : Asc n s) (ht : Asc s.length t) : Asc n (t.map fun i => s.getD i 0) := by
  refine ⟨?_, fun x hx => ?_⟩
  · rw [List.pairwise_map]
    refine List.Pairwise.imp_of_mem (fun {x y} hx hy hxy => ?_) ht.1
    exact asc_getD hs hxy (ht.2 y hy)
  · obtain ⟨i, hi, rfl⟩ := List.mem_map.mp hx
    exact hs.2 _ (getD_mem (ht.2 i hi))
theorem ind_ind {a : Adj} {s t : List Nat} {i j : Nat} (hi : i < t.length) (hj : j < t.length) : ind (ind a s) t i j = ind a (t.map fun i => s.getD i 0) i j := by
  unfold ind
  rw [getD_map _ hi, getD_map _ hj]
theorem IsCore.sub_not {n : Nat} {a : Adj} {s t : List Nat} (h : IsCore n a s) (ht : Asc s.length t) (hl : t.length < s.length) : ¬ Leads s.length (ind a s) t.length (ind (ind a s) t) := fun q => by
  have e := h.least _ (h.asc.sub ht) (by rw [List.length_map]; exact hl)
  rw [List.length_map] at e
  exact e (h.to.trans (q.congr (fun _ _ _ _ => rfl) fun i j hi hj => ind_ind hi hj))
theorem getD_idxOf {t : List Nat} {x : Nat} (h : x ∈ t) : t.getD (t.idxOf x) 0 = x := by
  have hl := List.idxOf_lt_length_of_mem h
  rw [getD_lt hl]
  exact List.getElem_idxOf hl
/-- a hom that misses a node leads to a smaller web -/
theorem hom_misses {m : Nat} {b : Adj} {f : List Nat} (hf : IsHom m b m b f) {y : Nat} (hy : y < m) (hn : y ∉ f) : ∃ t, Asc m t ∧ t.length < m ∧ Leads m b t.length (ind b t) := by
  have hm : ∀ x, x ∈ (List.range m).filter (fun y => decide (y ∈ f)) ↔ x ∈ f := fun x => by
    rw [List.mem_filter, List.mem_range, decide_eq_true_eq]
    exact ⟨fun h => h.2, fun h => ⟨hf.lt x h, h⟩⟩
  have asc : Asc m ((List.range m).filter fun y => decide (y ∈ f)) := ⟨(range_lt m).filter _, fun x hx => hf.lt x ((hm x).mp hx)⟩
  refine ⟨_, asc, ?_, f.map fun x => ((List.range m).filter fun y => decide (y ∈ f)).idxOf x, ?_⟩
  · have := length_le_of_subset (y :: (List.range m).filter fun y => decide (y ∈ f)) (List.range m) (List.nodup_cons.mpr ⟨fun h => hn ((hm y).mp h), lt_nodup asc.1⟩) (fun x hx => by
      rcases List.mem_cons.mp hx with e | hx
      · rw [e]; exact List.mem_range.mpr hy
      · exact (List.mem_filter.mp hx).1)
    rw [List.length_range, List.length_cons] at this
    omega
  · refine ⟨by rw [List.length_map, hf.len], fun x hx => ?_, fun i j hi hj e => ?_⟩
    · obtain ⟨z, hz, rfl⟩ := List.mem_map.mp hx
      exact List.idxOf_lt_length_of_mem ((hm z).mpr hz)
    · have hi' : i < f.length := by rw [hf.len]; exact hi
      have hj' : j < f.length := by rw [hf.len]; exact hj
      rw [getD_map _ hi', getD_map _ hj']
      show b _ _ = true
      rw [getD_idxOf ((hm _).mpr (getD_mem hi')), getD_idxOf ((hm _).mpr (getD_mem hj'))]
      exact hf.adj i j hi hj e
theorem IsCore.perm {n : Nat} {a : Adj} {s f : List Nat} (h : IsCore n a s) (hf : IsHom s.length (ind a s) s.length (ind a s) f) : f.Perm (List.range s.length) := by
  refine perm_range hf.len fun y hy => ?_
  by_cases hn : y ∈ f
  · exact hn
  · obtain ⟨t, h1, h2, h3⟩ := hom_misses hf hy hn
    exact (h.sub_not h1 h2 h3).elim

/-! ### sets of nodes -/
def nodeSets (size : Nat) : Nat → List (List Nat)
  | 0 => [[]]
  | c + 1 => (nodeSets size c).flatMap fun row => ((List.range size).filter fun node => match row.getLast? with | none => true | some l => decide (l < node)).map fun node => row ++ [node]
theorem asc_snoc {n : Nat} {row : List Nat} {x : Nat} : Asc n (row ++ [x]) ↔ Asc n row ∧ x < n ∧ (match row.getLast? with | none => true | some l => decide (l < x)) = true := by
  unfold Asc
  rw [List.pairwise_append]
  simp only [List.mem_append, List.mem_singleton]
  constructor
  · rintro ⟨⟨h1, _, h3⟩, h4⟩
    refine ⟨⟨h1, fun y hy => h4 y (.inl hy)⟩, h4 x (.inr rfl), ?_⟩
    cases e : row.getLast? with
    | none => rfl
    | some l => exact decide_eq_true (h3 l (List.mem_of_getLast? e) x rfl)
  · rintro ⟨⟨h1, h2⟩, h3, h4⟩
    refine ⟨⟨h1, List.pairwise_singleton _ _, fun y hy z hz => ?_⟩, fun y hy => ?_⟩
    · subst hz
      cases e : row.getLast? with
      | none =>
        rw [List.getLast?_eq_none_iff] at e
        rw [e] at hy; cases hy
      | some l =>
        rw [e] at h4
        have hl : l < z := of_decide_eq_true h4
        obtain ⟨r', er⟩ := List.getLast?_eq_some_iff.mp e
        rw [er] at hy h1
        rcases List.mem_append.mp hy with q | q
        · exact Nat.lt_trans ((List.pairwise_append.mp h1).2.2 y q l (List.mem_singleton.mpr rfl)) hl
        · rw [List.mem_singleton.mp q]; exact hl
    · rcases hy with hy | hy
      · exact h2 y hy
      · rw [hy]; exact h3
theorem mem_nodeSets {size : Nat} : ∀ {c : Nat} {s : List Nat}, s ∈ nodeSets size c ↔ Asc size s ∧ s.length = c
  | 0, s => by
    show s ∈ [[]] ↔ _
    rw [List.mem_singleton]
    constructor
    · rintro rfl
      exact ⟨⟨List.Pairwise.nil, fun _ h => nomatch h⟩, rfl⟩
    · exact fun h => List.eq_nil_of_length_eq_zero h.2
  | c + 1, s => by
    show s ∈ (nodeSets size c).flatMap _ ↔ _
    rw [List.mem_flatMap]
    constructor
    · rintro ⟨row, h1, h2⟩
      obtain ⟨x, hx, rfl⟩ := List.mem_map.mp h2
      rw [List.mem_filter, List.mem_range] at hx
      obtain ⟨q1, q2⟩ := mem_nodeSets.mp h1
      exact ⟨asc_snoc.mpr ⟨q1, hx.1, hx.2⟩, by rw [List.length_append, List.length_singleton, q2]⟩
    · rintro ⟨h1, h2⟩
      have hne : s ≠ [] := fun e => by rw [e] at h2; cases h2
      have es := List.dropLast_concat_getLast hne
      rw [← es] at h1
      obtain ⟨q1, q2, q3⟩ := asc_snoc.mp h1
      refine ⟨s.dropLast, mem_nodeSets.mpr ⟨q1, by rw [List.length_dropLast, h2]; rfl⟩, ?_⟩
      refine List.mem_map.mpr ⟨s.getLast hne, ?_, es⟩
      rw [List.mem_filter, List.mem_range]
      exact ⟨q2, q3⟩

def leadsB (n : Nat) (a : Adj) (m : Nat) (b : Adj) : Bool := !(homsL n a m b).isEmpty
theorem leadsB_iff {n m : Nat} {a b : Adj} (sa : Sym a) (sb : Sym b) : leadsB n a m b = true ↔ Leads n a m b := by
  unfold leadsB
  cases e : homsL n a m b with
  | nil =>
    constructor
    · intro h; cases h
    · rintro ⟨r, hr⟩
      have := (mem_homs sa sb).mpr hr
      rw [e] at this; cases this
  | cons x t =>
    constructor
    · intro _
      exact ⟨x, (mem_homs sa sb).mp (by rw [e]; exact List.mem_cons_self)⟩
    · intro _; rfl
def candidates (n : Nat) : List (List Nat) := (List.range n).flatMap (nodeSets n)
def coreN (n : Nat) (a : Adj) : List Nat := ((candidates n).find? fun s => leadsB n a s.length (ind a s)).getD (List.range n)
theorem mem_candidates {n : Nat} {s : List Nat} : s ∈ candidates n ↔ Asc n s ∧ s.length < n := by
  unfold candidates
  rw [List.mem_flatMap]
  constructor
  · rintro ⟨c, hc, h⟩
    obtain ⟨h1, h2⟩ := mem_nodeSets.mp h
    exact ⟨h1, by rw [h2]; exact List.mem_range.mp hc⟩
  · rintro ⟨h1, h2⟩
    exact ⟨s.length, List.mem_range.mpr h2, mem_nodeSets.mpr ⟨h1, rfl⟩⟩
/-- the candidates stand by their size -/
theorem candidates_sorted (n : Nat) : (candidates n).Pairwise fun s t => s.length ≤ t.length := by
  unfold candidates
  rw [List.pairwise_flatMap]
  refine ⟨fun c _ => List.pairwise_of_forall_mem_list fun s hs t ht => ?_, (range_lt n).imp fun {c d} hcd s hs t ht => ?_⟩
  · rw [(mem_nodeSets.mp hs).2, (mem_nodeSets.mp ht).2]; exact Nat.le_refl _
  · rw [(mem_nodeSets.mp hs).2, (mem_nodeSets.mp ht).2]; exact Nat.le_of_lt hcd
theorem find_least {α : Type} {p : α → Bool} {R : α → α → Prop} : ∀ {l : List α} {x : α}, l.Pairwise R → l.find? p = some x → ∀ y ∈ l, p y = true → x = y ∨ R x y
  | [], _, _, h => by cases h
  | z :: t, x, pw, h => by
    rw [List.find?_cons] at h
    cases e : p z with
    | true =>
      rw [e] at h
      have ez : z = x := Option.some.inj h
      intro y hy _
      rcases List.mem_cons.mp hy with q | q
      · exact .inl (ez.symm.trans q.symm)
      · rw [← ez]; exact .inr ((List.pairwise_cons.mp pw).1 y q)
    | false =>
      rw [e] at h
      intro y hy hp
      rcases List.mem_cons.mp hy with q | q
      · rw [q, e] at hp; cases hp
      · exact find_least (List.pairwise_cons.mp pw).2 h y q hp
theorem coreN_core {n : Nat} {a : Adj} (sa : Sym a) : IsCore n a (coreN n a) := by
  unfold coreN
  cases e : (candidates n).find? fun s => leadsB n a s.length (ind a s) with
  | none =>
    show IsCore n a (List.range n)
    refine ⟨.range n, ?_, fun t ht hl q => ?_⟩
    · rw [List.length_range]
      exact ⟨List.range n, (IsHom.id n a).congr (fun _ _ _ _ => rfl) fun i j hi hj => by unfold ind; rw [range_getD hi, range_getD hj]⟩
    · rw [List.length_range] at hl
      have := List.find?_eq_none.mp e t (mem_candidates.mpr ⟨ht, hl⟩)
      exact this ((leadsB_iff sa (sa.ind t)).mpr q)
  | some s =>
    show IsCore n a s
    have hm := List.mem_of_find?_eq_some e
    have hp := List.find?_some e
    obtain ⟨h1, h2⟩ := mem_candidates.mp hm
    refine ⟨h1, (leadsB_iff sa (sa.ind s)).mp hp, fun t ht hl q => ?_⟩
    rcases find_least (candidates_sorted n) e t (mem_candidates.mpr ⟨ht, by omega⟩) ((leadsB_iff sa (sa.ind t)).mpr q) with r | r
    · rw [r] at hl; exact Nat.lt_irrefl _ hl
    · omega
/-- the core of a core is all of it -/
theorem coreN_of_core {n : Nat} {a : Adj} (sa : Sym a) {s : List Nat} (h : IsCore n a s) {b : Adj} (sb : Sym b) (hb : ∀ i j, i < s.length → j < s.length → b i j = ind a s i j) : coreN s.length b = List.range s.length := by
  unfold coreN
  have e : (candidates s.length).find? (fun t => leadsB s.length b t.length (ind b t)) = none := by
    rw [List.find?_eq_none]
    intro t ht q
    obtain ⟨h1, h2⟩ := mem_candidates.mp ht
    refine h.sub_not h1 h2 (((leadsB_iff sb (sb.ind t)).mp q).congr hb fun i j hi hj => ?_)
    exact hb _ _ (h1.2 _ (getD_mem hi)) (h1.2 _ (getD_mem hj))
  rw [e]
  rfl
end K22
/-! K22, part D: edges, two cores -/
namespace K22
def canonE (m : Nat) (b : Adj) : List (Nat × Nat) :=
  (List.range m).flatMap fun u => ((List.range' u (m - u)).filter fun v => b u v).map fun v => (u, v)
theorem mem_canonE {m : Nat} {b : Adj} {p : Nat × Nat} : p ∈ canonE m b ↔ p.1 ≤ p.2 ∧ p.2 < m ∧ b p.1 p.2 = true := by
  unfold canonE
  rw [List.mem_flatMap]
  constructor
  · rintro ⟨u, hu, h⟩
    obtain ⟨v, hv, rfl⟩ := List.mem_map.mp h
    rw [List.mem_filter, List.mem_range'_1] at hv
    have hu := List.mem_range.mp hu
    exact ⟨hv.1.1, (by have := hv.1.2; show v < m; omega), hv.2⟩
  · rintro ⟨h1, h2, h3⟩
    obtain ⟨u, v⟩ := p
    simp only at h1 h2 h3
    exact ⟨u, List.mem_range.mpr (by omega), List.mem_map.mpr ⟨v, by rw [List.mem_filter, List.mem_range'_1]; exact ⟨⟨h1, by omega⟩, h3⟩, rfl⟩⟩
theorem range'_lt (u k : Nat) : (List.range' u k).Pairwise (· < ·) := List.pairwise_lt_range'
theorem canonE_sorted (m : Nat) (b : Adj) : (canonE m b).Pairwise Lt2 := by
  unfold canonE
  rw [List.pairwise_flatMap]
  refine ⟨fun u _ => ?_, (range_lt m).imp fun {c d} hcd p hp q hq => ?_⟩
  · rw [List.pairwise_map]
    exact ((range'_lt u (m - u)).filter _).imp fun {x y} hxy => .inr ⟨rfl, hxy⟩
  · obtain ⟨v, _, rfl⟩ := List.mem_map.mp hp
    obtain ⟨w, _, rfl⟩ := List.mem_map.mp hq
    exact .inl hcd
theorem canonE_congr {m : Nat} {b c : Adj} (h : ∀ i j, i < m → j < m → b i j = c i j) : canonE m b = canonE m c := by
  refine eq_of_lt2 (canonE_sorted m b) (canonE_sorted m c) fun p => ?_
  rw [mem_canonE, mem_canonE]
  constructor
  · rintro ⟨h1, h2, h3⟩
    exact ⟨h1, h2, by rw [← h _ _ (by omega) h2]; exact h3⟩
  · rintro ⟨h1, h2, h3⟩
    exact ⟨h1, h2, by rw [h _ _ (by omega) h2]; exact h3⟩
/-- the edge of two nodes as the program writes it -/
def mkE (x y : Nat) : Nat × Nat := (min x y, max x y)
def imgE (r : List Nat) (es : List (Nat × Nat)) : List (Nat × Nat) := es.map fun e => mkE (r.getD e.1 0) (r.getD e.2 0)
theorem mkE_le (x y : Nat) : (mkE x y).1 ≤ (mkE x y).2 := by unfold mkE; simp only; omega
theorem mkE_eq {x y x' y' : Nat} (h : mkE x y = mkE x' y') : (x = x' ∧ y = y') ∨ (x = y' ∧ y = x') := by
  unfold mkE at h
  have h1 := congrArg Prod.fst h
  have h2 := congrArg Prod.snd h
  simp only at h1 h2
  omega
theorem mkE_adj {m : Nat} {b : Adj} (sb : Sym b) {x y : Nat} (hx : x < m) (hy : y < m) : mkE x y ∈ canonE m b ↔ b x y = true := by
  rw [mem_canonE]
  unfold mkE
  simp only
  rcases Nat.le_total x y with c | c
  · rw [Nat.min_eq_left c, Nat.max_eq_right c]
    exact ⟨fun h => h.2.2, fun h => ⟨c, hy, h⟩⟩
  · rw [Nat.min_eq_right c, Nat.max_eq_left c]
    exact ⟨fun h => by rw [sb]; exact h.2.2, fun h => ⟨c, hx, by rw [sb]; exact h⟩⟩
theorem imgE_nodup {m : Nat} {b : Adj} {r : List Nat} (hl : r.length = m) (nd : r.Nodup) : (imgE r (canonE m b)).Nodup := by
  unfold imgE
  rw [List.Nodup, List.pairwise_map]
  refine List.Pairwise.imp_of_mem (fun {p q} hp hq hpq e => ?_) (lt2_nodup (canonE_sorted m b))
  obtain ⟨p1, p2, _⟩ := mem_canonE.mp hp
  obtain ⟨q1, q2, _⟩ := mem_canonE.mp hq
  have inj : ∀ {i j : Nat}, i < m → j < m → r.getD i 0 = r.getD j 0 → i = j := fun {i j} hi hj e => getD_inj nd (by rw [hl]; exact hi) (by rw [hl]; exact hj) e
  apply hpq
  rcases mkE_eq e with ⟨e1, e2⟩ | ⟨e1, e2⟩
  · exact Prod.ext (inj (by omega) (by omega) e1) (inj p2 q2 e2)
  · have h1 := inj (by omega) q2 e1
    have h2 := inj p2 (by omega) e2
    exact Prod.ext (by omega) (by omega)
theorem imgE_sub {n m : Nat} {a b : Adj} (sb : Sym b) {r : List Nat} (h : IsHom n a m b r) : ∀ p ∈ imgE r (canonE n a), p ∈ canonE m b := fun p hp => by
  obtain ⟨e, he, rfl⟩ := List.mem_map.mp hp
  obtain ⟨h1, h2, h3⟩ := mem_canonE.mp he
  have l1 : e.1 < r.length := by rw [h.len]; omega
  have l2 : e.2 < r.length := by rw [h.len]; exact h2
  exact (mkE_adj sb (h.lt _ (getD_mem l1)) (h.lt _ (getD_mem l2))).mpr (h.adj _ _ (by omega) h2 h3)
/-- a renaming: a rearrangement that carries edges to edges and back -/
structure IsRen (m : Nat) (b c : Adj) (r : List Nat) : Prop where
  perm : r.Perm (List.range m)
  adj : ∀ i j, i < m → j < m → b i j = c (r.getD i 0) (r.getD j 0)
theorem IsRen.len {m : Nat} {b c : Adj} {r : List Nat} (h : IsRen m b c r) : r.length = m := by rw [h.perm.length_eq, List.length_range]
theorem IsRen.nodup {m : Nat} {b c : Adj} {r : List Nat} (h : IsRen m b c r) : r.Nodup := h.perm.nodup_iff.mpr List.nodup_range
theorem IsRen.lt {m : Nat} {b c : Adj} {r : List Nat} (h : IsRen m b c r) : ∀ x ∈ r, x < m := fun x hx => List.mem_range.mp (h.perm.mem_iff.mp hx)
theorem IsRen.hom {m : Nat} {b c : Adj} {r : List Nat} (h : IsRen m b c r) : IsHom m b m c r := ⟨h.len, h.lt, fun i j hi hj e => by rw [← h.adj i j hi hj]; exact e⟩
/-- by counting: a one-to-one hom onto a web with no more edges is a renaming -/
theorem ren_of_count {m : Nat} {b c : Adj} (sb : Sym b) (sc : Sym c) {r : List Nat} (h : IsHom m b m c r) (hp : r.Perm (List.range m)) (hc : (canonE m c).length ≤ (canonE m b).length) : IsRen m b c r := by
  have nd : r.Nodup := hp.nodup_iff.mpr List.nodup_range
  have pe := perm_of_subset _ (canonE m c) (imgE_nodup (b := b) h.len nd) (imgE_sub sc h) (by unfold imgE; rw [List.length_map]; exact hc)
  refine ⟨hp, fun i j hi hj => ?_⟩
  have l1 : i < r.length := by rw [h.len]; exact hi
  have l2 : j < r.length := by rw [h.len]; exact hj
  rw [Bool.eq_iff_iff]
  refine ⟨fun e => h.adj i j hi hj e, fun e => ?_⟩
  have hm := pe.mem_iff.mp ((mkE_adj sc (h.lt _ (getD_mem l1)) (h.lt _ (getD_mem l2))).mpr e)
  obtain ⟨p, hp1, hp2⟩ := List.mem_map.mp hm
  obtain ⟨q1, q2, q3⟩ := mem_canonE.mp hp1
  have inj : ∀ {i j : Nat}, i < m → j < m → r.getD i 0 = r.getD j 0 → i = j := fun {i j} hi hj e => getD_inj nd (by rw [h.len]; exact hi) (by rw [h.len]; exact hj) e
  rcases mkE_eq hp2 with ⟨e1, e2⟩ | ⟨e1, e2⟩
  · rw [← inj (by omega) hi e1, ← inj q2 hj e2]; exact q3
  · rw [← inj (by omega) hj e1, ← inj q2 hi e2, sb]; exact q3
theorem ren_img {m : Nat} {b c : Adj} (sc : Sym c) {r : List Nat} (h : IsRen m b c r) : (imgE r (canonE m b)).Perm (canonE m c) := by
  refine perm_of_mem (imgE_nodup h.len h.nodup) (lt2_nodup (canonE_sorted m c)) fun p => ⟨imgE_sub sc h.hom p, fun hp => ?_⟩
  obtain ⟨q1, q2, q3⟩ := mem_canonE.mp hp
  obtain ⟨i, hi, ei⟩ := mem_getD (h.perm.mem_iff.mpr (List.mem_range.mpr (show p.1 < m by omega))) 0
  obtain ⟨j, hj, ej⟩ := mem_getD (h.perm.mem_iff.mpr (List.mem_range.mpr q2)) 0
  rw [h.len] at hi hj
  have hb : b i j = true := by rw [h.adj i j hi hj, ei, ej]; exact q3
  have ep : mkE p.1 p.2 = p := by unfold mkE; rw [Nat.min_eq_left q1, Nat.max_eq_right q1]
  refine List.mem_map.mpr ?_
  rcases Nat.le_total i j with d | d
  · exact ⟨(i, j), mem_canonE.mpr ⟨d, hj, hb⟩, by show mkE (r.getD i 0) (r.getD j 0) = p; rw [ei, ej, ep]⟩
  · have hb' : b j i = true := by
      rw [h.adj j i hj hi, sc, ← h.adj i j hi hj]; exact hb
    refine ⟨(j, i), mem_canonE.mpr ⟨d, hi, hb'⟩, ?_⟩
    show mkE (r.getD j 0) (r.getD i 0) = p
    rw [ei, ej]
    unfold mkE
    rw [Nat.min_comm, Nat.max_comm]
    exact ep
/-- a hom of a core into itself is a renaming -/
theorem IsCore.ren {n : Nat} {a : Adj} (sa : Sym a) {s f : List Nat} (h : IsCore n a s) (hf : IsHom s.length (ind a s) s.length (ind a s) f) : IsRen s.length (ind a s) (ind a s) f :=
  ren_of_count (sa.ind s) (sa.ind s) hf (h.perm hf) (Nat.le_refl _)
/-- homs both ways between two cores: the same size, the same number of edges, a renaming -/
theorem cores_ren {n1 n2 : Nat} {a1 a2 : Adj} {s1 s2 f g : List Nat} (sa1 : Sym a1) (sa2 : Sym a2) (h1 : IsCore n1 a1 s1) (h2 : IsCore n2 a2 s2) (hf : IsHom s1.length (ind a1 s1) s2.length (ind a2 s2) f) (hg : IsHom s2.length (ind a2 s2) s1.length (ind a1 s1) g) :
    s1.length = s2.length ∧ (canonE s1.length (ind a1 s1)).length = (canonE s2.length (ind a2 s2)).length ∧ IsRen s1.length (ind a1 s1) (ind a2 s2) f := by
  have inj : ∀ {n m : Nat} {a b : Adj} {f g : List Nat}, IsHom n a m b f → (f.map fun x => g.getD x 0).Perm (List.range n) → f.Nodup := fun {n m a b f g} hf p => by
    have nd : (f.map fun x => g.getD x 0).Nodup := p.nodup_iff.mpr List.nodup_range
    exact List.Pairwise.of_map _ (fun x y hne e => hne (by rw [e])) nd
  have n1 := inj hf (h1.perm (hf.comp hg))
  have n2 := inj hg (h2.perm (hg.comp hf))
  have l1 : s1.length ≤ s2.length := by
    have := length_le_of_subset f (List.range s2.length) n1 (fun x hx => List.mem_range.mpr (hf.lt x hx))
    rw [hf.len, List.length_range] at this
    exact this
  have l2 : s2.length ≤ s1.length := by
    have := length_le_of_subset g (List.range s1.length) n2 (fun x hx => List.mem_range.mpr (hg.lt x hx))
    rw [hg.len, List.length_range] at this
    exact this
  have e : s1.length = s2.length := Nat.le_antisymm l1 l2
  have c1 := length_le_of_subset _ (canonE s2.length (ind a2 s2)) (imgE_nodup (b := ind a1 s1) hf.len n1) (imgE_sub (sa2.ind s2) hf)
  have c2 := length_le_of_subset _ (canonE s1.length (ind a1 s1)) (imgE_nodup (b := ind a2 s2) hg.len n2) (imgE_sub (sa1.ind s1) hg)
  unfold imgE at c1 c2
  rw [List.length_map] at c1 c2
  refine ⟨e, Nat.le_antisymm c1 c2, ?_⟩
  have hf' : IsHom s1.length (ind a1 s1) s1.length (ind a2 s2) f := by rw [← e] at hf; exact hf
  refine ren_of_count (sa1.ind s1) (sa2.ind s2) hf' (perm_range_of_nodup hf'.len n1 hf'.lt) ?_
  rw [e] at c1 ⊢
  rw [e] at c2
  exact c2
theorem ren_back {m : Nat} {b c : Adj} {r : List Nat} (h : IsRen m b c r) : IsHom m c m b ((List.range m).map fun y => r.idxOf y) := by
  have mem : ∀ y, y < m → y ∈ r := fun y hy => h.perm.mem_iff.mpr (List.mem_range.mpr hy)
  refine ⟨by simp, fun x hx => ?_, fun i j hi hj e => ?_⟩
  · obtain ⟨y, hy, rfl⟩ := List.mem_map.mp hx
    have := List.idxOf_lt_length_of_mem (mem y (List.mem_range.mp hy))
    rwa [h.len] at this
  · rw [getD_map _ (by simpa using hi), getD_map _ (by simpa using hj), range_getD hi, range_getD hj]
    have l1 := List.idxOf_lt_length_of_mem (mem i hi)
    have l2 := List.idxOf_lt_length_of_mem (mem j hj)
    rw [h.len] at l1 l2
    rw [h.adj _ _ l1 l2, getD_idxOf (mem i hi), getD_idxOf (mem j hj)]
    exact e
/-- the first hom of a core into itself is the identity -/
theorem dfs_first {m : Nat} {b : Adj} (sb : Sym b) (hp : ∀ f, IsHom m b m b f → f.Nodup) : ∀ (k j : Nat), j + k = m → (dfs b b m k (List.range j)).head? = some (List.range m)
  | 0, j, h => by
    have e : j = m := h
    subst e
    rfl
  | k + 1, j, h => by
    have ih := dfs_first sb hp k (j + 1) (by omega)
    have hm : List.range m ∈ dfs b b m (k + 1) (List.range j) := by
      refine mem_dfs.mpr ⟨⟨?_, fun i h1 h2 => ?_⟩, by rw [List.length_range, List.length_range]; omega⟩
      · have e : List.range m = List.range j ++ (List.range (m - j)).map (j + ·) := by
          rw [← List.range_add, show j + (m - j) = m by omega]
        rw [e]; exact List.prefix_append _ _
      · rw [List.length_range] at h2
        refine ⟨by rw [range_getD h2]; exact h2, fun c hc e => by rw [range_getD h2, range_getD (by omega)]; exact e⟩
    -- of the values below j none goes on
    have skip : ∀ v, v < j → dfs b b m k (List.range j ++ [v]) = [] ∨ fitsB b b (List.range j) v = false := fun v hv => by
      cases ef : fitsB b b (List.range j) v with
      | false => exact .inr rfl
      | true =>
        refine .inl (List.eq_nil_iff_forall_not_mem.mpr fun r hr => ?_)
        have hr2 : r ∈ dfs b b m (k + 1) (List.range j) := by
          show r ∈ ((List.range m).filter (fitsB b b (List.range j))).flatMap fun v => dfs b b m k (List.range j ++ [v])
          exact List.mem_flatMap.mpr ⟨v, List.mem_filter.mpr ⟨List.mem_range.mpr (by omega), ef⟩, hr⟩
        obtain ⟨⟨p, _⟩, hl⟩ := mem_dfs.mp hr
        obtain ⟨⟨_, q⟩, hl2⟩ := mem_dfs.mp hr2
        rw [List.length_range] at hl2 q
        have hom : IsHom m b m b r := by
          have pre : ∀ i, i < j → r.getD i 0 = i := fun i hi => by
            rw [prefix_getD ((List.prefix_append _ _).trans p) (by rw [List.length_range]; exact hi), range_getD hi]
          have lt : ∀ i, i < m → r.getD i 0 < m := fun i hi => by
            by_cases c : i < j
            · rw [pre i c]; exact hi
            · exact (q i (by omega) (by omega)).1
          have ad : ∀ i j', i ≤ j' → j' < m → b i j' = true → b (r.getD i 0) (r.getD j' 0) = true := fun i j' h1 h2 e => by
            by_cases c : j' < j
            · rw [pre i (by omega), pre j' c]; exact e
            · exact (q j' (by omega) (by omega)).2 i h1 e
          refine ⟨by omega, fun x hx => ?_, fun i j' hi hj e => ?_⟩
          · obtain ⟨i, hi, rfl⟩ := mem_getD hx 0
            exact lt i (by omega)
          · rcases Nat.le_total i j' with c | c
            · exact ad i j' c hj e
            · rw [sb]; exact ad j' i c hi (by rw [sb]; exact e)
        have nd := hp r hom
        have e1 : r.getD v 0 = v := by
          rw [prefix_getD ((List.prefix_append _ _).trans p) (by rw [List.length_range]; exact hv), range_getD hv]
        have e2 : r.getD j 0 = v := by
          have := prefix_getD p (i := j) (by simp)
          rw [this]
          have e3 := getD_app_at (r := List.range j) (v := v) (d := 0)
          rw [List.length_range] at e3
          exact e3
        have := getD_inj nd (d := 0) (show v < r.length by omega) (show j < r.length by omega) (e1.trans e2.symm)
        omega
    show (((List.range m).filter (fitsB b b (List.range j))).flatMap fun v => dfs b b m k (List.range j ++ [v])).head? = _
    -- split the range at j
    have er : List.range m = List.range j ++ j :: List.range' (j + 1) (m - (j + 1)) := by
      have e1 : m = j + (m - j) := by omega
      have e2 : m - j = (m - (j + 1)) + 1 := by omega
      rw [e1, List.range_add]
      congr 1
      have e3 : j + (m - j) - j = (j + (m - j) - (j + 1)) + 1 := by omega
      rw [e2, List.range_succ_eq_map]
      simp only [List.map_cons, Nat.add_zero, List.map_map]
      congr 1
      rw [show j + (m - (j + 1) + 1) - (j + 1) = m - (j + 1) by omega, List.range'_eq_map_range]
      refine List.map_congr_left fun x _ => ?_
      show j + (x + 1) = j + 1 + x
      omega
    have fj : fitsB b b (List.range j) j = true := by
      obtain ⟨v, hv, hr⟩ := List.mem_flatMap.mp hm
      obtain ⟨hv1, hv2⟩ := List.mem_filter.mp hv
      obtain ⟨⟨p, _⟩, _⟩ := mem_dfs.mp hr
      have e2 : (List.range m).getD j 0 = v := by
        rw [prefix_getD p (by simp)]
        have e3 := getD_app_at (r := List.range j) (v := v) (d := 0)
        rw [List.length_range] at e3
        exact e3
      rw [range_getD (by omega)] at e2
      rw [← e2] at hv2
      exact hv2
    rw [er, List.filter_append, List.filter_cons, if_pos fj, List.flatMap_append, List.flatMap_cons]
    have none : (List.filter (fitsB b b (List.range j)) (List.range j)).flatMap (fun v => dfs b b m k (List.range j ++ [v])) = [] := by
      rw [List.flatMap_eq_nil_iff]
      intro v hv
      obtain ⟨h1, h2⟩ := List.mem_filter.mp hv
      rcases skip v (List.mem_range.mp h1) with q | q
      · exact q
      · rw [h2] at q; cases q
    rw [none, List.nil_append, ← List.range_succ]
    rw [List.head?_append, ih]
    rw [← er]
    rfl
end K22
/-! K22, part E: webs, what the program reckons of them -/
namespace K22
abbrev Web := Nat × List (Nat × Nat)
def adjW (W : Web) : Adj := fun u v => decide ((u, v) ∈ W.2) || decide ((v, u) ∈ W.2)
theorem adjW_iff {W : Web} {u v : Nat} : adjW W u v = true ↔ (u, v) ∈ W.2 ∨ (v, u) ∈ W.2 := by
  unfold adjW
  rw [Bool.or_eq_true, decide_eq_true_eq, decide_eq_true_eq]
theorem adjW_sym (W : Web) : Sym (adjW W) := fun i j => by unfold adjW; exact Bool.or_comm _ _
structure WOk (W : Web) : Prop where
  n : W.1 ≤ 5
  lt : ∀ e ∈ W.2, e.1 < W.1 ∧ e.2 < W.1
  few : W.2.length ≤ 40
theorem WOk.adj_lt {W : Web} (h : WOk W) {u v : Nat} (e : adjW W u v = true) : u < W.1 ∧ v < W.1 := by
  rcases adjW_iff.mp e with q | q
  · exact h.lt _ q
  · exact (h.lt _ q).symm
def indW (W : Web) (s : List Nat) : Web := (s.length, canonE s.length (ind (adjW W) s))
theorem adj_canon {m : Nat} {b : Adj} (sb : Sym b) {i j : Nat} (hi : i < m) (hj : j < m) : adjW (m, canonE m b) i j = b i j := by
  rw [Bool.eq_iff_iff, adjW_iff, mem_canonE, mem_canonE]
  simp only
  constructor
  · rintro (h | h)
    · exact h.2.2
    · rw [sb]; exact h.2.2
  · intro h
    rcases Nat.le_total i j with c | c
    · exact .inl ⟨c, hj, h⟩
    · exact .inr ⟨c, hi, by rw [sb]; exact h⟩
theorem adj_indW {W : Web} {s : List Nat} {i j : Nat} (hi : i < s.length) (hj : j < s.length) : adjW (indW W s) i j = ind (adjW W) s i j :=
  adj_canon ((adjW_sym W).ind s) hi hj
def homsW (X A : Web) : List (List Nat) := homsL X.1 (adjW X) A.1 (adjW A)
def leadsW (X A : Web) : Bool := !(homsW X A).isEmpty
theorem mem_homsW {X A : Web} {r : List Nat} : r ∈ homsW X A ↔ IsHom X.1 (adjW X) A.1 (adjW A) r := mem_homs (adjW_sym X) (adjW_sym A)
theorem leadsW_iff {X A : Web} : leadsW X A = true ↔ Leads X.1 (adjW X) A.1 (adjW A) := leadsB_iff (adjW_sym X) (adjW_sym A)
def coreNW (W : Web) : List Nat := coreN W.1 (adjW W)
def coreW (W : Web) : Web := indW W (coreNW W)
theorem leads_indW (W : Web) (s : List Nat) : leadsW W (indW W s) = leadsB W.1 (adjW W) s.length (ind (adjW W) s) := by
  have e : homsL W.1 (adjW W) (indW W s).1 (adjW (indW W s)) = homsL W.1 (adjW W) s.length (ind (adjW W) s) :=
    homs_congr (fun _ _ _ _ => rfl) fun i j hi hj => adj_indW hi hj
  unfold leadsW leadsB homsW
  rw [e]
theorem coreNW_find (W : Web) : coreNW W = ((candidates W.1).find? fun s => leadsW W (indW W s)).getD (List.range W.1) := by
  unfold coreNW coreN
  congr 2
  funext s
  exact (leads_indW W s).symm
theorem coreNW_core (W : Web) : IsCore W.1 (adjW W) (coreNW W) := coreN_core (adjW_sym W)
theorem coreW_n (W : Web) : (coreW W).1 = (coreNW W).length := rfl
theorem coreW_adj (W : Web) : ∀ i j, i < (coreNW W).length → j < (coreNW W).length → adjW (coreW W) i j = ind (adjW W) (coreNW W) i j := fun i j hi hj => adj_indW hi hj
theorem coreW_es (W : Web) : (coreW W).2 = canonE (coreW W).1 (adjW (coreW W)) := canonE_congr fun i j hi hj => (coreW_adj W i j hi hj).symm
theorem canonE_len5 {m : Nat} {b : Adj} (h : m ≤ 5) : (canonE m b).length ≤ 40 := by
  have nd := lt2_nodup (canonE_sorted m b)
  have := length_le_of_subset (canonE m b) ((List.range 5).flatMap fun u => (List.range 5).map fun v => (u, v)) nd fun p hp => by
    obtain ⟨h1, h2, _⟩ := mem_canonE.mp hp
    exact List.mem_flatMap.mpr ⟨p.1, List.mem_range.mpr (by omega), List.mem_map.mpr ⟨p.2, List.mem_range.mpr (by omega), rfl⟩⟩
  exact Nat.le_trans this (by decide)
theorem indW_ok {W : Web} {s : List Nat} (h : s.length ≤ 5) : WOk (indW W s) := ⟨h, fun e he => by
  obtain ⟨h1, h2, _⟩ := mem_canonE.mp he
  exact ⟨Nat.lt_of_le_of_lt h1 h2, h2⟩, canonE_len5 h⟩
theorem coreNW_len {W : Web} (h : WOk W) : (coreNW W).length ≤ 5 := Nat.le_trans (coreNW_core W).asc.len h.n
theorem coreW_ok {W : Web} (h : WOk W) : WOk (coreW W) := indW_ok (coreNW_len h)

/-! ### what the law asks of a core -/
theorem core_leads (W : Web) : leadsW W (coreW W) = true := by
  rw [leadsW_iff]
  exact (coreNW_core W).to.congr (fun _ _ _ _ => rfl) fun i j hi hj => (coreW_adj W i j hi hj).symm
theorem leads_back (W : Web) : leadsW (coreW W) W = true := by
  rw [leadsW_iff]
  exact ⟨_, (hom_back (coreNW_core W).asc).congr (fun i j hi hj => (coreW_adj W i j hi hj).symm) fun _ _ _ _ => rfl⟩
theorem leadsW_trans {A B C : Web} (h : leadsW A B = true) (h' : leadsW B C = true) : leadsW A C = true :=
  leadsW_iff.mpr ((leadsW_iff.mp h).trans (leadsW_iff.mp h'))
theorem leads_cores (A B : Web) : leadsW (coreW A) (coreW B) = leadsW A B := by
  rw [Bool.eq_iff_iff]
  exact ⟨fun h => leadsW_trans (core_leads A) (leadsW_trans h (leads_back B)), fun h => leadsW_trans (leads_back A) (leadsW_trans h (core_leads B))⟩
theorem leads_core_r (A B : Web) : leadsW A (coreW B) = leadsW A B := by
  rw [Bool.eq_iff_iff]
  exact ⟨fun h => leadsW_trans h (leads_back B), fun h => leadsW_trans h (core_leads B)⟩
theorem leads_core_l (A B : Web) : leadsW (coreW A) B = leadsW A B := by
  rw [Bool.eq_iff_iff]
  exact ⟨fun h => leadsW_trans (core_leads A) h, fun h => leadsW_trans (leads_back A) h⟩
theorem core_hom {W : Web} {r : List Nat} (h : r ∈ homsW (coreW W) (coreW W)) : IsHom (coreNW W).length (ind (adjW W) (coreNW W)) (coreNW W).length (ind (adjW W) (coreNW W)) r :=
  (mem_homsW.mp h).congr (coreW_adj W) (coreW_adj W)
theorem core_ren {W : Web} {r : List Nat} (h : r ∈ homsW (coreW W) (coreW W)) : IsRen (coreW W).1 (adjW (coreW W)) (adjW (coreW W)) r := by
  obtain ⟨p, q⟩ := (coreNW_core W).ren (adjW_sym W) (core_hom h)
  have hr := (core_hom h)
  refine ⟨p, fun i j hi hj => ?_⟩
  rw [coreW_adj W i j hi hj, q i j hi hj, coreW_adj W _ _ (hr.lt _ (getD_mem (by rw [hr.len]; exact hi))) (hr.lt _ (getD_mem (by rw [hr.len]; exact hj)))]
theorem core_core (W : Web) : coreNW (coreW W) = List.range (coreW W).1 :=
  coreN_of_core (adjW_sym W) (coreNW_core W) (adjW_sym _) (coreW_adj W)
theorem indW_range (W : Web) (h : W.2 = canonE W.1 (adjW W)) : indW W (List.range W.1) = W := by
  unfold indW
  rw [List.length_range]
  have e : canonE W.1 (ind (adjW W) (List.range W.1)) = W.2 := by
    rw [h]
    exact canonE_congr fun i j hi hj => by unfold ind; rw [range_getD hi, range_getD hj]
  rw [e]
theorem core_coreW (W : Web) : coreW (coreW W) = coreW W := by
  show indW (coreW W) (coreNW (coreW W)) = coreW W
  rw [core_core]
  exact indW_range _ (coreW_es W)
theorem core_first (W : Web) : (homsW (coreW W) (coreW W)).head? = some (List.range (coreW W).1) := by
  refine dfs_first (adjW_sym _) (fun f hf => ?_) (coreW W).1 0 (Nat.zero_add _)
  exact (core_ren (mem_homsW.mpr hf)).nodup
/-- the fold -/
def foldR (W : Web) : List Nat := ((homsW W (coreW W)).headD []).map fun p => (coreNW W).getD p 0
theorem head_mem (W : Web) : (homsW W (coreW W)).head? = some ((homsW W (coreW W)).headD []) ∧ (homsW W (coreW W)).headD [] ∈ homsW W (coreW W) := by
  have h := core_leads W
  unfold leadsW at h
  cases e : homsW W (coreW W) with
  | nil => rw [e] at h; cases h
  | cons x t => exact ⟨rfl, List.mem_cons_self⟩
theorem fold_core (W : Web) : foldR (coreW W) = List.range (coreW W).1 := by
  unfold foldR
  rw [core_coreW, core_core]
  have e : (homsW (coreW W) (coreW W)).headD [] = List.range (coreW W).1 := by
    have h := core_first W
    cases e : homsW (coreW W) (coreW W) with
    | nil => rw [e] at h; cases h
    | cons x t => rw [e] at h; exact Option.some.inj h
  rw [e]
  have := map_getD_range (List.range (coreW W).1)
  rwa [List.length_range] at this
structure FoldOk (W : Web) (f : List Nat) : Prop where
  len : f.length = W.1
  mem : ∀ x ∈ f, x ∈ coreNW W
  adj : ∀ e ∈ W.2, adjW W (f.getD e.1 0) (f.getD e.2 0) = true
  onto : ((coreNW W).map fun x => f.getD x 0).Perm (coreNW W)
theorem fold_ok {W : Web} (hW : WOk W) : FoldOk W (foldR W) := by
  have hr := mem_homsW.mp (head_mem W).2
  have hlt : ∀ x ∈ (homsW W (coreW W)).headD [], x < (coreNW W).length := hr.lt
  have get : ∀ i, i < W.1 → (foldR W).getD i 0 = (coreNW W).getD (((homsW W (coreW W)).headD []).getD i 0) 0 := fun i hi => by
    unfold foldR
    rw [getD_map _ (by rw [hr.len]; exact hi)]
  refine ⟨by unfold foldR; rw [List.length_map, hr.len], fun x hx => ?_, fun e he => ?_, ?_⟩
  · obtain ⟨p, hp, rfl⟩ := List.mem_map.mp hx
    exact getD_mem (hlt p hp)
  · obtain ⟨h1, h2⟩ := hW.lt e he
    rw [get _ h1, get _ h2]
    have q := hr.adj e.1 e.2 h1 h2 (adjW_iff.mpr (.inl he))
    rw [coreW_adj W _ _ (hlt _ (getD_mem (by rw [hr.len]; exact h1))) (hlt _ (getD_mem (by rw [hr.len]; exact h2)))] at q
    exact q
  · -- the hom on the core's own nodes is a rearrangement
    have back := (hom_back (coreNW_core W).asc).congr (fun i j hi hj => (coreW_adj W i j hi hj).symm) (fun i j _ _ => rfl)
    have self := back.comp hr
    have p := (core_ren (mem_homsW.mpr self)).perm
    have p2 := p.map fun i => (coreNW W).getD i 0
    rw [coreW_n, map_getD_range, List.map_map] at p2
    refine List.Perm.trans (List.Perm.of_eq ?_) p2
    refine List.map_congr_left fun x hx => ?_
    exact get x ((coreNW_core W).asc.2 x hx)

/-! ### neighbours -/
def sortN (l : List Nat) : List Nat := l.mergeSort fun a b => decide (a ≤ b)
theorem sortN_perm (l : List Nat) : (sortN l).Perm l := List.mergeSort_perm _ _
theorem sortN_le (l : List Nat) : (sortN l).Pairwise (· ≤ ·) := by
  have := List.pairwise_mergeSort (le := fun a b : Nat => decide (a ≤ b)) (fun a b c h1 h2 => by
    have h1 := of_decide_eq_true h1
    have h2 := of_decide_eq_true h2
    exact decide_eq_true (Nat.le_trans h1 h2)) (fun a b => by
    rcases Nat.le_total a b with c | c
    · simp [c]
    · simp [c]) l
  exact this.imp fun {a b} h => of_decide_eq_true h
theorem sortN_unique {l l' : List Nat} (p : l'.Perm l) (h : l'.Pairwise (· ≤ ·)) : l' = sortN l :=
  eq_of_perm (fun _ _ h1 h2 => Nat.le_antisymm h1 h2) (p.trans (sortN_perm l).symm) h (sortN_le l)
def rawE (v : Nat) (e : Nat × Nat) : List Nat := (if e.1 = v then [e.2] else []) ++ (if e.1 ≠ e.2 ∧ e.2 = v then [e.1] else [])
def raw (es : List (Nat × Nat)) (v : Nat) : List Nat := es.flatMap (rawE v)
def nbr (W : Web) (v : Nat) : List Nat := sortN (raw W.2 v)
theorem mem_rawE {v x : Nat} {e : Nat × Nat} : x ∈ rawE v e ↔ e = (v, x) ∨ e = (x, v) := by
  unfold rawE
  obtain ⟨a, b⟩ := e
  simp only [List.mem_append, Prod.mk.injEq]
  constructor
  · rintro (h | h)
    · split at h
      · rename_i e
        exact .inl ⟨e, (List.mem_singleton.mp h).symm⟩
      · cases h
    · split at h
      · rename_i e
        exact .inr ⟨(List.mem_singleton.mp h).symm, e.2⟩
      · cases h
  · rintro (⟨rfl, rfl⟩ | ⟨rfl, rfl⟩)
    · left; simp
    · by_cases e : a = b
      · subst e; left; simp
      · right; simp [e]
theorem mem_nbr {W : Web} {v x : Nat} : x ∈ nbr W v ↔ adjW W v x = true := by
  unfold nbr
  rw [(sortN_perm _).mem_iff]
  unfold raw
  rw [List.mem_flatMap, adjW_iff]
  constructor
  · rintro ⟨e, he, hx⟩
    rcases mem_rawE.mp hx with q | q
    · rw [q] at he; exact .inl he
    · rw [q] at he; exact .inr he
  · rintro (h | h)
    · exact ⟨_, h, mem_rawE.mpr (.inl rfl)⟩
    · exact ⟨_, h, mem_rawE.mpr (.inr rfl)⟩
theorem rawE_len (v : Nat) (e : Nat × Nat) : (rawE v e).length ≤ 1 := by
  unfold rawE
  rw [List.length_append]
  by_cases h1 : e.1 = v
  · have h2 : ¬ (e.1 ≠ e.2 ∧ e.2 = v) := fun q => q.1 (h1.trans q.2.symm)
    rw [if_pos h1, if_neg h2]
    simp
  · rw [if_neg h1]
    split <;> simp
theorem raw_len (es : List (Nat × Nat)) (v : Nat) : (raw es v).length ≤ es.length := by
  unfold raw
  induction es with
  | nil => simp
  | cons e t ih =>
    rw [List.flatMap_cons, List.length_append, List.length_cons]
    have := rawE_len v e
    omega
theorem nbr_len (W : Web) (v : Nat) : (nbr W v).length ≤ W.2.length := by
  unfold nbr
  rw [(sortN_perm _).length_eq]
  exact raw_len _ _
theorem raw_nodup {es : List (Nat × Nat)} (h : es.Pairwise Lt2) (hn : ∀ e ∈ es, e.1 ≤ e.2) (v : Nat) : (raw es v).Nodup := by
  unfold raw
  rw [List.Nodup, List.pairwise_flatMap]
  refine ⟨fun e _ => ?_, List.Pairwise.imp_of_mem (fun {p q} hp hq hpq x hx y hy e => ?_) h⟩
  · have hl := rawE_len v e
    match rawE v e, hl with
    | [], _ => exact List.Pairwise.nil
    | [x], _ => exact List.pairwise_singleton _ _
    | _ :: _ :: _, hl => simp at hl
  · subst e
    have n1 := hn p hp
    have n2 := hn q hq
    have l := hpq
    unfold Lt2 at l
    rcases mem_rawE.mp hx with e1 | e1 <;> rcases mem_rawE.mp hy with e2 | e2 <;> rw [e1] at n1 l <;> rw [e2] at n2 l <;> simp only at n1 n2 l <;> omega
/-- a web whose edges stand in order, each once -/
def Canon (W : Web) : Prop := W.2 = canonE W.1 (adjW W)
theorem nbr_canon {W : Web} (h : Canon W) {v : Nat} (hv : v < W.1) : (nbr W v).Perm ((List.range W.1).filter fun x => adjW W v x) := by
  have nd : (nbr W v).Nodup := by
    unfold nbr
    rw [(sortN_perm _).nodup_iff]
    refine raw_nodup (by rw [h]; exact canonE_sorted _ _) (fun e he => ?_) v
    rw [h] at he
    exact (mem_canonE.mp he).1
  refine perm_of_mem nd (List.nodup_range.filter _) fun x => ?_
  rw [mem_nbr, List.mem_filter, List.mem_range]
  refine ⟨fun e => ⟨?_, e⟩, fun e => e.2⟩
  rcases adjW_iff.mp e with q | q
  · rw [h] at q
    exact (mem_canonE.mp q).2.1
  · rw [h] at q
    have := mem_canonE.mp q
    exact Nat.lt_of_le_of_lt this.1 this.2.1
theorem ren_deg {A B : Web} (hA : Canon A) (hB : Canon B) (e : A.1 = B.1) {r : List Nat} (h : IsRen A.1 (adjW A) (adjW B) r) {v : Nat} (hv : v < A.1) : (nbr A v).length = (nbr B (r.getD v 0)).length := by
  have hv' : r.getD v 0 < A.1 := h.lt _ (getD_mem (by rw [h.len]; exact hv))
  rw [(nbr_canon hA hv).length_eq, (nbr_canon hB (by rw [← e]; exact hv')).length_eq, ← e]
  have nd : (((List.range A.1).filter fun x => adjW A v x).map fun x => r.getD x 0).Nodup := by
    rw [List.Nodup, List.pairwise_map]
    refine List.Pairwise.imp_of_mem (fun {x y} hx hy hxy q => ?_) (List.nodup_range.filter _)
    have hx := List.mem_range.mp (List.mem_filter.mp hx).1
    have hy := List.mem_range.mp (List.mem_filter.mp hy).1
    exact hxy (getD_inj h.nodup (by rw [h.len]; exact hx) (by rw [h.len]; exact hy) q)
  have p := perm_of_mem nd (List.nodup_range.filter fun x => adjW B (r.getD v 0) x) fun y => by
    rw [List.mem_map, List.mem_filter, List.mem_range]
    constructor
    · rintro ⟨x, hx, rfl⟩
      rw [List.mem_filter, List.mem_range] at hx
      exact ⟨h.lt _ (getD_mem (by rw [h.len]; exact hx.1)), by rw [← h.adj v x hv hx.1]; exact hx.2⟩
    · rintro ⟨h1, h2⟩
      obtain ⟨x, hx, rfl⟩ := mem_getD (h.perm.mem_iff.mpr (List.mem_range.mpr h1)) 0
      rw [h.len] at hx
      exact ⟨x, by rw [List.mem_filter, List.mem_range]; exact ⟨hx, by rw [h.adj v x hv hx]; exact h2⟩, rfl⟩
  rw [← p.length_eq, List.length_map]
/-- the program's own test of a next entry -/
def fitsP (X A : Web) (row : List Nat) (v : Nat) : Bool :=
  ((nbr X row.length).filter fun x => decide (x ≤ row.length)).all fun node => decide ((if node < row.length then row.getD node 0 else v) ∈ nbr A v)
theorem fitsP_eq (X A : Web) (row : List Nat) (v : Nat) : fitsP X A row v = fitsB (adjW X) (adjW A) row v := by
  rw [Bool.eq_iff_iff, fits_iff]
  unfold fitsP
  simp only [List.all_eq_true, List.mem_filter, decide_eq_true_eq]
  constructor
  · intro h
    refine ⟨fun k hk e => ?_, fun e => ?_⟩
    · have q := h k ⟨mem_nbr.mpr (by rw [adjW_sym]; exact e), Nat.le_of_lt hk⟩
      rw [if_pos hk, mem_nbr, adjW_sym] at q
      exact q
    · have q := h row.length ⟨mem_nbr.mpr e, Nat.le_refl _⟩
      rw [if_neg (Nat.lt_irrefl _), mem_nbr] at q
      exact q
  · rintro ⟨h1, h2⟩ node ⟨hn, hl⟩
    rw [mem_nbr] at hn ⊢
    by_cases c : node < row.length
    · rw [if_pos c, adjW_sym]
      exact h1 node c (by rw [adjW_sym]; exact hn)
    · have e : node = row.length := by omega
      rw [if_neg c]
      subst e
      exact h2 hn

/-! ### the search for a renaming -/
def mayB (F S : Web) (row : List Nat) (p : Nat) : Bool :=
  !decide (p ∈ row) && decide ((nbr F row.length).length = (nbr S p).length) && (adjW F row.length row.length == adjW S p p) && (List.range row.length).all fun i => adjW F row.length i == adjW S p (row.getD i 0)
def compR (F S : Web) : Nat → List Nat → Option (List Nat)
  | 0, row => some row
  | k + 1, row => (List.range S.1).findSome? fun p => if mayB F S row p then compR F S k (row ++ [p]) else none
def findRen (A B : Web) : Option (List Nat) := if A.1 ≠ B.1 then none else if A.2.length ≠ B.2.length then none else compR A B A.1 []
theorem may_iff {F S : Web} {row : List Nat} {p : Nat} : mayB F S row p = true ↔ p ∉ row ∧ (nbr F row.length).length = (nbr S p).length ∧ adjW F row.length row.length = adjW S p p ∧ ∀ i, i < row.length → adjW F row.length i = adjW S p (row.getD i 0) := by
  unfold mayB
  simp only [Bool.and_eq_true, Bool.not_eq_true', decide_eq_false_iff_not, decide_eq_true_eq, beq_iff_eq, List.all_eq_true, List.mem_range, and_assoc]
theorem comp_some {F S : Web} : ∀ {k : Nat} {row r : List Nat}, compR F S k row = some r → row <+: r ∧ r.length = row.length + k ∧
    ∀ j, row.length ≤ j → j < r.length → r.getD j 0 < S.1 ∧ (∀ i, i < j → r.getD i 0 ≠ r.getD j 0) ∧ ∀ i, i ≤ j → adjW F j i = adjW S (r.getD j 0) (r.getD i 0)
  | 0, row, r, h => by
    have e : row = r := Option.some.inj h
    subst e
    exact ⟨List.prefix_refl _, rfl, fun j h1 h2 => absurd h2 (Nat.not_lt.mpr h1)⟩
  | k + 1, row, r, h => by
    obtain ⟨p, hp, h⟩ := List.exists_of_findSome?_eq_some (show (List.range S.1).findSome? (fun p => if mayB F S row p then compR F S k (row ++ [p]) else none) = some r from h)
    have hp := List.mem_range.mp hp
    split at h
    · rename_i hm
      obtain ⟨m1, m2, m3, m4⟩ := may_iff.mp hm
      obtain ⟨q1, q2, q3⟩ := comp_some h
      rw [List.length_append, List.length_singleton] at q2 q3
      have p0 : row <+: r := (List.prefix_append row [p]).trans q1
      have ev : r.getD row.length 0 = p := by rw [prefix_getD q1 (by simp), getD_app_at]
      refine ⟨p0, by omega, fun j h1 h2 => ?_⟩
      by_cases hj : j = row.length
      · subst hj
        refine ⟨by rw [ev]; exact hp, fun i hi e => ?_, fun i hi => ?_⟩
        · rw [ev, prefix_getD p0 hi] at e
          exact m1 (e ▸ getD_mem hi)
        · rw [ev]
          by_cases c : i = row.length
          · subst c; rw [ev]; exact m3
          · rw [prefix_getD p0 (by omega)]
            exact m4 i (by omega)
      · exact q3 j (by omega) h2
    · cases h
theorem comp_ren {A B : Web} (e : A.1 = B.1) {r : List Nat} (h : compR A B A.1 [] = some r) : IsRen A.1 (adjW A) (adjW B) r := by
  obtain ⟨_, hl, q⟩ := comp_some h
  have hl : r.length = A.1 := by simpa using hl
  have nd : r.Nodup := by
    rw [List.Nodup, List.pairwise_iff_getElem]
    intro i j hi hj hij
    have := (q j (Nat.zero_le _) hj).2.1 i hij
    rw [getD_lt hi, getD_lt hj] at this
    exact this
  refine ⟨perm_range_of_nodup hl nd fun x hx => ?_, fun i j hi hj => ?_⟩
  · obtain ⟨i, hi, rfl⟩ := mem_getD hx 0
    rw [e]
    exact (q i (Nat.zero_le _) hi).1
  · rcases Nat.le_total i j with c | c
    · rw [adjW_sym, (q j (Nat.zero_le _) (by omega)).2.2 i c, adjW_sym]
    · exact (q i (Nat.zero_le _) (by omega)).2.2 j c
theorem comp_found {A B : Web} (hA : Canon A) (hB : Canon B) (e : A.1 = B.1) {r : List Nat} (h : IsRen A.1 (adjW A) (adjW B) r) : ∀ (k : Nat) (row : List Nat), row <+: r → row.length + k = A.1 → (compR A B k row).isSome = true
  | 0, _, _, _ => rfl
  | k + 1, row, hp, hl => by
    have lt : row.length < r.length := by rw [h.len]; omega
    have ih := comp_found hA hB e h k (row ++ [r.getD row.length 0]) (prefix_snoc hp lt) (by rw [List.length_append, List.length_singleton]; omega)
    show ((List.range B.1).findSome? fun p => if mayB A B row p then compR A B k (row ++ [p]) else none).isSome = true
    rw [List.findSome?_isSome_iff]
    refine ⟨r.getD row.length 0, List.mem_range.mpr (by rw [← e]; exact h.lt _ (getD_mem lt)), ?_⟩
    have hv : row.length < A.1 := by omega
    have hm : mayB A B row (r.getD row.length 0) = true := by
      refine may_iff.mpr ⟨fun hm => ?_, ren_deg hA hB e h hv, h.adj _ _ hv hv, fun i hi => ?_⟩
      · obtain ⟨i, hi, ei⟩ := mem_getD hm 0
        rw [← prefix_getD hp hi] at ei
        have := getD_inj h.nodup (Nat.lt_trans hi lt) lt ei
        omega
      · rw [← prefix_getD hp hi]
        exact h.adj _ _ hv (by omega)
    rw [if_pos hm]
    exact ih
theorem coreW_canon (W : Web) : Canon (coreW W) := coreW_es W
theorem ren_found {a b : Web} (h1 : leadsW a b = true) (h2 : leadsW b a = true) : ∃ r, findRen (coreW a) (coreW b) = some r ∧ IsRen (coreW a).1 (adjW (coreW a)) (adjW (coreW b)) r ∧ (coreW a).1 = (coreW b).1 := by
  obtain ⟨f, hf⟩ := leadsW_iff.mp (show leadsW (coreW a) (coreW b) = true by rw [leads_cores]; exact h1)
  obtain ⟨g, hg⟩ := leadsW_iff.mp (show leadsW (coreW b) (coreW a) = true by rw [leads_cores]; exact h2)
  obtain ⟨e1, e2, e3⟩ := cores_ren (adjW_sym a) (adjW_sym b) (coreNW_core a) (coreNW_core b) (hf.congr (coreW_adj a) (coreW_adj b)) (hg.congr (coreW_adj b) (coreW_adj a))
  have hl : (coreW a).1 = (coreW b).1 := e1
  have ren : IsRen (coreW a).1 (adjW (coreW a)) (adjW (coreW b)) f := ⟨e3.perm, fun i j hi hj => by
    have l := e3.lt
    have l1 : f.getD i 0 < (coreNW b).length := by rw [← e1]; exact l _ (getD_mem (by rw [e3.len]; exact hi))
    have l2 : f.getD j 0 < (coreNW b).length := by rw [← e1]; exact l _ (getD_mem (by rw [e3.len]; exact hj))
    rw [coreW_adj a i j hi hj, coreW_adj b _ _ l1 l2]
    exact e3.adj i j hi hj⟩
  have fnd := comp_found (coreW_canon a) (coreW_canon b) hl ren (coreW a).1 [] List.nil_prefix (Nat.zero_add _)
  obtain ⟨r, hr⟩ := Option.isSome_iff_exists.mp fnd
  refine ⟨r, ?_, comp_ren hl hr, hl⟩
  unfold findRen
  rw [if_neg (fun h => h hl), if_neg (fun h => h e2)]
  exact hr
theorem ren_none {a b : Web} (h : ¬ (leadsW a b = true ∧ leadsW b a = true)) : findRen (coreW a) (coreW b) = none := by
  unfold findRen
  split
  · rfl
  split
  · rfl
  rename_i e _
  have e : (coreW a).1 = (coreW b).1 := Classical.not_not.mp e
  cases hr : compR (coreW a) (coreW b) (coreW a).1 [] with
  | none => rfl
  | some r =>
    have ren := comp_ren e hr
    refine (h ⟨?_, ?_⟩).elim
    · rw [← leads_cores, leadsW_iff, ← e]
      exact ⟨r, ren.hom⟩
    · rw [← leads_cores, leadsW_iff, ← e]
      exact ⟨_, ren_back ren⟩
end K22
/-! K22, text 1: data in the heap, what an expression is worth, statements -/
namespace K22
open PySem PySem.Spec PyProof.Rows L2 Evl

/-! ### data: as L2.Dp, every list and tuple of it tracked -/
mutual
inductive DD (K : PySem.W.Frag) (H : Hp) : V → PyData → Prop
  | non : DD K H .non .none
  | bl (b : Bool) : DD K H (.bl b) (.bool b)
  | int (i : Int) : DD K H (.int i) (.int i)
  | str (x : Str) : DD K H (.str x) (.str x)
  | lst {a : Addr} {xs : List V} {ds : List PyData} : H a = some (.lst xs) → DDA K H xs ds → DD K H (.ref a) (.list ds)
  | tup {a : Addr} {xs : List V} {ds : List PyData} : H a = some (.tup xs) → DDA K H xs ds → DD K H (.ref a) (.tuple ds)
inductive DDA (K : PySem.W.Frag) (H : Hp) : List V → List PyData → Prop
  | nil : DDA K H [] []
  | cons {v : V} {vs : List V} {d : PyData} {ds : List PyData} : DD K H v d → DDA K H vs ds → DDA K H (v :: vs) (d :: ds)
end
section
variable {K : PySem.W.Frag} {H : Hp}
mutual
theorem dd_dp : ∀ (d : PyData) (v : V), DD K H v d → Dp K H v d
  | .none, _, h => by cases h; exact .non
  | .bool b, _, h => by cases h; exact .bl b
  | .int i, _, h => by cases h; exact .int i
  | .str x, _, h => by cases h; exact .str x
  | .list ds, _, h => by
    cases h with
    | lst hs ha => exact .lst (sq_of hs) (dda_dp ds _ ha)
  | .tuple ds, _, h => by
    cases h with
    | tup hs ha => exact .tup (st_of hs) (dda_dp ds _ ha)
  | .dict _, _, h => by cases h
theorem dda_dp : ∀ (ds : List PyData) (vs : List V), DDA K H vs ds → DpAll K H vs ds
  | [], _, h => by cases h; exact .nil
  | d :: ds, _, h => by
    cases h with
    | cons h1 h2 => exact .cons (dd_dp d _ h1) (dda_dp ds _ h2)
end
end
section
variable {K : PySem.W.Frag} {H H' : Hp}
mutual
theorem dp_mono (e : Ex H H') : ∀ (d : PyData) (v : V), DD K H v d → DD K H' v d
  | .none, _, h => by cases h; exact .non
  | .bool b, _, h => by cases h; exact .bl b
  | .int i, _, h => by cases h; exact .int i
  | .str x, _, h => by cases h; exact .str x
  | .list ds, _, h => by
    cases h with
    | lst hs ha => exact .lst (e _ _ hs) (da_mono e ds _ ha)
  | .tuple ds, _, h => by
    cases h with
    | tup hs ha => exact .tup (e _ _ hs) (da_mono e ds _ ha)
  | .dict _, _, h => by cases h
theorem da_mono (e : Ex H H') : ∀ (ds : List PyData) (vs : List V), DDA K H vs ds → DDA K H' vs ds
  | [], _, h => by cases h; exact .nil
  | d :: ds, _, h => by
    cases h with
    | cons h1 h2 => exact .cons (dp_mono e d _ h1) (da_mono e ds _ h2)
end
theorem Dpm {d : PyData} {v : V} (h : DD K H v d) (e : Ex H H') : DD K H' v d := dp_mono e d v h
theorem Dam {ds : List PyData} {vs : List V} (h : DDA K H vs ds) (e : Ex H H') : DDA K H' vs ds := da_mono e ds vs h
theorem dp_int {i : Int} {v : V} (h : DD K H v (.int i)) : v = .int i := by cases h; rfl
theorem dp_bool {b : Bool} {v : V} (h : DD K H v (.bool b)) : v = .bl b := by cases h; rfl
theorem dp_none {v : V} (h : DD K H v .none) : v = .non := by cases h; rfl
theorem dp_list {ds : List PyData} {v : V} (h : DD K H v (.list ds)) : ∃ a xs, v = .ref a ∧ SqL K H a xs ∧ DDA K H xs ds := by
  cases h with
  | lst hs ha => exact ⟨_, _, rfl, sq_of hs, ha⟩
theorem dp_listX {ds : List PyData} {v : V} (h : DD K H v (.list ds)) : ∃ a xs, v = .ref a ∧ H a = some (.lst xs) ∧ DDA K H xs ds := by
  cases h with
  | lst hs ha => exact ⟨_, _, rfl, hs, ha⟩
theorem dp_tuple {ds : List PyData} {v : V} (h : DD K H v (.tuple ds)) : ∃ a xs, v = .ref a ∧ SqT K H a xs ∧ DDA K H xs ds := by
  cases h with
  | tup hs ha => exact ⟨_, _, rfl, st_of hs, ha⟩
theorem dp_tupleX {ds : List PyData} {v : V} (h : DD K H v (.tuple ds)) : ∃ a xs, v = .ref a ∧ H a = some (.tup xs) ∧ DDA K H xs ds := by
  cases h with
  | tup hs ha => exact ⟨_, _, rfl, hs, ha⟩
theorem da_nil {vs : List V} (h : DDA K H vs []) : vs = [] := by cases h; rfl
theorem da_cons {vs : List V} {d : PyData} {ds : List PyData} (h : DDA K H vs (d :: ds)) : ∃ v r, vs = v :: r ∧ DD K H v d ∧ DDA K H r ds := by
  cases h with
  | cons h1 h2 => exact ⟨_, _, rfl, h1, h2⟩
theorem da1 {vs : List V} {d : PyData} (h : DDA K H vs [d]) : ∃ v, vs = [v] ∧ DD K H v d := by
  obtain ⟨v, r, rfl, h1, h2⟩ := da_cons h
  cases da_nil h2
  exact ⟨v, rfl, h1⟩
theorem da2 {vs : List V} {d e : PyData} (h : DDA K H vs [d, e]) : ∃ v w, vs = [v, w] ∧ DD K H v d ∧ DD K H w e := by
  obtain ⟨v, r, rfl, h1, h2⟩ := da_cons h
  obtain ⟨w, rfl, h3⟩ := da1 h2
  exact ⟨v, w, rfl, h1, h3⟩
theorem da3 {vs : List V} {d e f : PyData} (h : DDA K H vs [d, e, f]) : ∃ v w u, vs = [v, w, u] ∧ DD K H v d ∧ DD K H w e ∧ DD K H u f := by
  obtain ⟨v, r, rfl, h1, h2⟩ := da_cons h
  obtain ⟨w, u, rfl, h3, h4⟩ := da2 h2
  exact ⟨v, w, u, rfl, h1, h3, h4⟩
theorem da4 {vs : List V} {d e f g : PyData} (h : DDA K H vs [d, e, f, g]) : ∃ v w u x, vs = [v, w, u, x] ∧ DD K H v d ∧ DD K H w e ∧ DD K H u f ∧ DD K H x g := by
  obtain ⟨v, r, rfl, h1, h2⟩ := da_cons h
  obtain ⟨w, u, x, rfl, h3, h4, h5⟩ := da3 h2
  exact ⟨v, w, u, x, rfl, h1, h3, h4, h5⟩
theorem da_len : ∀ {ds : List PyData} {vs : List V}, DDA K H vs ds → vs.length = ds.length
  | [], _, h => by rw [da_nil h]; rfl
  | d :: ds, _, h => by
    obtain ⟨v, r, rfl, _, h2⟩ := da_cons h
    rw [List.length_cons, List.length_cons, da_len h2]
theorem da_get : ∀ {ds : List PyData} {vs : List V} {i : Nat} {d : PyData}, DDA K H vs ds → ds[i]? = some d → ∃ v, vs[i]? = some v ∧ DD K H v d
  | [], _, _, _, _, e => by simp at e
  | d :: ds, _, i, d', h, e => by
    obtain ⟨v, r, rfl, h1, h2⟩ := da_cons h
    cases i with
    | zero =>
      rw [List.getElem?_cons_zero] at e
      cases e
      exact ⟨v, rfl, h1⟩
    | succ i =>
      rw [List.getElem?_cons_succ] at e
      obtain ⟨w, e1, e2⟩ := da_get h2 e
      exact ⟨w, by rw [List.getElem?_cons_succ]; exact e1, e2⟩
theorem da_get' {ds : List PyData} {vs : List V} {i : Nat} {v : V} (h : DDA K H vs ds) (e : vs[i]? = some v) : ∃ d, ds[i]? = some d ∧ DD K H v d := by
  have hl : i < ds.length := by rw [← da_len h]; exact (List.getElem?_eq_some_iff.mp e).1
  obtain ⟨w, e1, e2⟩ := da_get h (List.getElem?_eq_getElem hl)
  rw [e] at e1
  cases e1
  exact ⟨_, List.getElem?_eq_getElem hl, e2⟩
theorem da_app : ∀ {ds es : List PyData} {vs ws : List V}, DDA K H vs ds → DDA K H ws es → DDA K H (vs ++ ws) (ds ++ es)
  | [], _, _, _, h, h' => by rw [da_nil h]; exact h'
  | d :: ds, es, _, ws, h, h' => by
    obtain ⟨v, r, rfl, h1, h2⟩ := da_cons h
    exact .cons h1 (da_app h2 h')
theorem da_snoc {ds : List PyData} {vs : List V} {d : PyData} {v : V} (h : DDA K H vs ds) (h' : DD K H v d) : DDA K H (vs ++ [v]) (ds ++ [d]) := da_app h (.cons h' .nil)
theorem da_of_get : ∀ {ds : List PyData} {vs : List V}, vs.length = ds.length → (∀ (i : Nat) (v : V) (d : PyData), vs[i]? = some v → ds[i]? = some d → DD K H v d) → DDA K H vs ds
  | [], vs, e, _ => by rw [List.eq_nil_of_length_eq_zero e]; exact .nil
  | d :: ds, [], e, _ => by simp at e
  | d :: ds, v :: vs, e, h => .cons (h 0 v d rfl rfl) (da_of_get (by simpa using e) fun i w f h1 h2 => h (i + 1) w f (by simpa using h1) (by simpa using h2))
/-- rows of whole numbers -/
def dI (n : Nat) : PyData := .int n
def vI (n : Nat) : V := .int n
def dT (r : List Nat) : PyData := .tuple (r.map dI)
def dL (r : List Nat) : PyData := .list (r.map dI)
def dE (e : Nat × Nat) : PyData := .tuple [dI e.1, dI e.2]
def dEs (es : List (Nat × Nat)) : PyData := .tuple (es.map dE)
def dW (W : Web) : PyData := .tuple [dI W.1, dEs W.2]
theorem da_ints : ∀ {r : List Nat} {vs : List V}, DDA K H vs (r.map dI) → vs = r.map vI
  | [], _, h => da_nil h
  | n :: r, _, h => by
    obtain ⟨v, w, rfl, h1, h2⟩ := da_cons h
    rw [dp_int h1, da_ints h2]
    rfl
theorem da_of_ints : ∀ (r : List Nat), DDA K H (r.map vI) (r.map dI)
  | [] => .nil
  | n :: r => .cons (.int n) (da_of_ints r)
theorem vI_cast (r : List Nat) : r.map vI = (r.map fun (n : Nat) => ((n : Nat) : Int)).map V.int := by rw [List.map_map]; rfl
theorem dp_T {r : List Nat} {v : V} (h : DD K H v (dT r)) : ∃ a, v = .ref a ∧ SqT K H a (r.map vI) := by
  obtain ⟨a, xs, rfl, h1, h2⟩ := dp_tuple h
  rw [da_ints h2] at h1
  exact ⟨a, rfl, h1⟩
theorem dp_L {r : List Nat} {v : V} (h : DD K H v (dL r)) : ∃ a, v = .ref a ∧ SqL K H a (r.map vI) := by
  obtain ⟨a, xs, rfl, h1, h2⟩ := dp_list h
  rw [da_ints h2] at h1
  exact ⟨a, rfl, h1⟩
theorem dp_LX {r : List Nat} {v : V} (h : DD K H v (dL r)) : ∃ a, v = .ref a ∧ H a = some (.lst (r.map vI)) := by
  obtain ⟨a, xs, rfl, h1, h2⟩ := dp_listX h
  rw [da_ints h2] at h1
  exact ⟨a, rfl, h1⟩
theorem dp_TX {r : List Nat} {v : V} (h : DD K H v (dT r)) : ∃ a, v = .ref a ∧ H a = some (.tup (r.map vI)) := by
  obtain ⟨a, xs, rfl, h1, h2⟩ := dp_tupleX h
  rw [da_ints h2] at h1
  exact ⟨a, rfl, h1⟩
theorem dp_ofT {r : List Nat} {a : Addr} (h : H a = some (.tup (r.map vI))) : DD K H (.ref a) (dT r) := .tup h (da_of_ints r)
theorem dp_ofL {r : List Nat} {a : Addr} (h : H a = some (.lst (r.map vI))) : DD K H (.ref a) (dL r) := .lst h (da_of_ints r)
theorem dp_web {W : Web} {v : V} (h : DD K H v (dW W)) : ∃ a e xs, v = .ref a ∧ SqT K H a [vI W.1, .ref e] ∧ SqT K H e xs ∧ DDA K H xs (W.2.map dE) := by
  obtain ⟨a, xs, rfl, h1, h2⟩ := dp_tuple h
  obtain ⟨x, y, rfl, h3, h4⟩ := da2 h2
  obtain ⟨e, ys, rfl, h5, h6⟩ := dp_tuple h4
  rw [dp_int h3] at h1
  exact ⟨a, e, ys, rfl, h1, h5, h6⟩
end

/-! ### the stable part S of the heap H, and how both grow -/
structure Nw (S H S' H' : Hp) : Prop where
  st : Ex S S'
  within : Ex S' H'
  hp : Ex H H'
  new : ∀ b o, S' b = some o → H b = none ∨ ∃ o', S b = some o'
theorem Nw.refl {S H : Hp} (h : Ex S H) : Nw S H S H := ⟨Ex.refl S, h, Ex.refl H, fun b o e => .inr ⟨o, e⟩⟩
theorem Nw.only {S H H' : Hp} (h : Ex S H) (e : Ex H H') : Nw S H S H' := ⟨Ex.refl S, h.trans e, e, fun b o e => .inr ⟨o, e⟩⟩
theorem Nw.trans {S H S1 H1 S2 H2 : Hp} (a : Nw S H S1 H1) (b : Nw S1 H1 S2 H2) : Nw S H S2 H2 where
  st := a.st.trans b.st
  within := b.within
  hp := a.hp.trans b.hp
  new := fun c o e => by
    rcases b.new c o e with q | ⟨o', q⟩
    · exact .inl (fresh_back a.hp q)
    · exact a.new c o' q
/-- a new object, stable at once -/
theorem Nw.put {S H : Hp} {p : Addr} {o : HO} (h : Ex S H) (hp : H p = none) : Nw S H (upd S p o) (upd H p o) where
  st := Ex.new (fresh_back h hp)
  within := fun b u e => by
    by_cases c : b = p
    · subst c; rw [upd_same] at e ⊢; exact e
    · rw [upd_ne c] at e ⊢; exact h b u e
  hp := Ex.new hp
  new := fun b u e => by
    by_cases c : b = p
    · subst c; exact .inl hp
    · rw [upd_ne c] at e; exact .inr ⟨u, e⟩
/-- the same from a larger stable part -/
def join (S T : Hp) : Hp := fun b => match S b with | some o => some o | none => T b
theorem Nw.widen {S T H S' H' : Hp} (a : Nw S H S' H') (h : Ex S T) (hT : Ex T H) : Nw T H (join S' T) H' ∧ Ex S' (join S' T) := by
  have j1 : ∀ b o, S' b = some o → join S' T b = some o := fun b o e => by unfold join; rw [e]
  refine ⟨⟨fun b o e => ?_, fun b o e => ?_, a.hp, fun b o e => ?_⟩, j1⟩
  · unfold join
    cases q : S' b with
    | none => exact e
    | some u =>
      have h1 := a.within b u q
      have h2 := a.hp b o (hT b o e)
      rw [h1] at h2
      exact h2
  · unfold join at e
    cases q : S' b with
    | none => rw [q] at e; exact a.hp b o (hT b o e)
    | some u => rw [q] at e; cases e; exact a.within b _ q
  · unfold join at e
    cases q : S' b with
    | none => rw [q] at e; exact .inr ⟨o, e⟩
    | some u =>
      rcases a.new b u q with z | ⟨o', z⟩
      · exact .inl z
      · exact .inr ⟨o', h b o' z⟩
/-- what is not stable and stands stays unstable -/
theorem Nw.keepOut {S H S' H' : Hp} (a : Nw S H S' H') {l : Addr} {o : HO} (h1 : S l = none) (h2 : H l = some o) : S' l = none := by
  cases q : S' l with
  | none => rfl
  | some u =>
    rcases a.new l u q with z | ⟨o', z⟩
    · rw [h2] at z; cases z
    · rw [h1] at z; cases z
theorem ex_upd {S H : Hp} {l : Addr} {o : HO} (h : Ex S H) (n : S l = none) : Ex S (upd H l o) := h.mut n
/-- an object of ours is no longer changed: it becomes stable -/
theorem ex_freeze {S H : Hp} {l : Addr} {o : HO} (h : Ex S H) (e : H l = some o) : Ex (upd S l o) H := fun b u q => by
  by_cases c : b = l
  · subst c; rw [upd_same] at q; cases q; exact e
  · rw [upd_ne c] at q; exact h b u q
/-- from the entry (S0, H0) to now (S, H), objects of ours being changed meanwhile -/
structure At (S0 H0 S H : Hp) : Prop where
  nw : Nw S0 H0 S H
theorem At.step {S0 H0 S H S' H' : Hp} (a : At S0 H0 S H) (b : Nw S H S' H') : At S0 H0 S' H' := ⟨a.nw.trans b⟩
theorem At.only {S0 H0 S H H' : Hp} (a : At S0 H0 S H) (e : Ex H H') : At S0 H0 S H' := a.step (Nw.only a.nw.within e)
theorem At.mut {S0 H0 S H : Hp} {l : Addr} {o : HO} (a : At S0 H0 S H) (h0 : H0 l = none) (hs : S l = none) : At S0 H0 S (upd H l o) :=
  ⟨⟨a.nw.st, a.nw.within.mut hs, a.nw.hp.mut h0, a.nw.new⟩⟩
theorem At.freeze {S0 H0 S H : Hp} {l : Addr} {o : HO} (a : At S0 H0 S H) (h0 : H0 l = none) (hs : S l = none) (e : H l = some o) : At S0 H0 (upd S l o) H :=
  ⟨⟨a.nw.st.trans (Ex.new hs), ex_freeze a.nw.within e, a.nw.hp, fun b u q => by
    by_cases c : b = l
    · subst c; exact .inl h0
    · rw [upd_ne c] at q; exact a.nw.new b u q⟩⟩
theorem At.refl {S H : Hp} (h : Ex S H) : At S H S H := ⟨Nw.refl h⟩

/-! ### what an expression is worth -/
/-- d, told from the stable part S: wherever S stands, the reading hands on a value of d over a grown stable part -/
def ED (K : PySem.W.Frag) (te : TE) (σ : L2.St) (S : Hp) (d : PyData) : Prop := ∀ H, Ex S H → ∀ Q : VK, (∀ v S' H', Nw S H S' H' → DD K S' v d → Q v H') → te σ H Q
def EDA (K : PySem.W.Frag) (ta : TA) (σ : L2.St) (S : Hp) (ds : List PyData) : Prop := ∀ H, Ex S H → ∀ Q : List V → Hp → Prop, (∀ vs S' H', Nw S H S' H' → DDA K S' vs ds → Q vs H') → ta σ H Q
section
variable {K : PySem.W.Frag} {te : TE} {ta : TA} {σ : L2.St} {S T : Hp} {d d' : PyData} {ds : List PyData}
theorem ED.mono (h : ED K te σ S d) (e : Ex S T) : ED K te σ T d := fun H eH Q q => h H (e.trans eH) Q fun v S' H' w p => q v _ H' (w.widen e eH).1 (Dpm p (w.widen e eH).2)
theorem EDA.mono (h : EDA K ta σ S ds) (e : Ex S T) : EDA K ta σ T ds := fun H eH Q q => h H (e.trans eH) Q fun v S' H' w p => q v _ H' (w.widen e eH).1 (Dam p (w.widen e eH).2)
theorem ED.is (h : ED K te σ S d) (e : d = d') : ED K te σ S d' := by rw [← e]; exact h
/-- a value, no new data -/
theorem ED.of_ev {v : V} (h : Ev te σ S v) (p : DD K S v d) : ED K te σ S d := fun H e Q q => h H e Q fun H' e' => q v S H' (Nw.only e e') p
theorem ED.ev_int {i : Int} (h : ED K te σ S (.int i)) : Ev te σ S (.int i) := fun H e Q q => h H e Q fun v S' H' w p => by rw [dp_int p]; exact q H' w.hp
theorem ED.ev_bool {b : Bool} (h : ED K te σ S (.bool b)) : Ev te σ S (.bl b) := fun H e Q q => h H e Q fun v S' H' w p => by rw [dp_bool p]; exact q H' w.hp
theorem ED.ev_none (h : ED K te σ S .none) : Ev te σ S .non := fun H e Q q => h H e Q fun v S' H' w p => by rw [dp_none p]; exact q H' w.hp
end

/-! ### the judgements by the machine itself -/
def VE (X : Cx) (e : Expr) : TE := fun σ H Q => ∀ (pins : List (Addr × Obj)) (s : Shared), Inv X pins σ H s → wpAny (model X.prog X.w) X.A (eval e X.env) (EP X pins σ Q) X.xe s
def VT (X : Cx) (e : Expr) : TT := fun σ H Q => ∀ (pins : List (Addr × Obj)) (s : Shared), Inv X pins σ H s → wpAny (model X.prog X.w) X.A (isTrue e X.env (eval e X.env)) (TP X pins σ Q) X.xe s
def VA (X : Cx) (es : List Expr) : TA := fun σ H Q => ∀ (pos : Pos) (pins : List (Addr × Obj)) (s : Shared), Inv X pins σ H s → wpAny (model X.prog X.w) X.A (spliced (backTo pos (starEach es X.env))) (AP X pins σ Q) X.xe s
def VS (X : Cx) (st : Stmt) : TS := fun D σ H => ∀ (pins : List (Addr × Obj)) (s : Shared), Inv X pins σ H s → wpAny (model X.prog X.w) X.A (exec st X.env) (SP X pins D) X.xe s
def VSs (X : Cx) (sts : List Stmt) : TS := fun D σ H => ∀ (pins : List (Addr × Obj)) (s : Shared), Inv X pins σ H s → wpAny (model X.prog X.w) X.A (execs sts X.env) (SP X pins D) X.xe s
section
variable {X : Cx} {e : Expr} {es : List Expr} {st : Stmt} {sts : List Stmt} {te : TE} {tt : TT} {ta : TA} {ts : TS} {σ : L2.St} {H S : Hp} {d : PyData} {ds : List PyData}
theorem pe_ve : PE X e (VE X e) := ⟨fun pins s _ _ _ I h => h pins s I⟩
theorem pt_vt : PT X e (VT X e) := ⟨fun pins s _ _ _ I h => h pins s I⟩
theorem pa_va : PA X es (VA X es) := ⟨fun pos pins s _ _ _ I h => h pos pins s I⟩
theorem ps_vs : PS X st (VS X st) := ⟨fun pins s _ _ _ I h => h pins s I⟩
theorem pss_vss : PSs X sts (VSs X sts) := ⟨fun pins s _ _ _ I h => h pins s I⟩
theorem ve_of (h : PE X e te) {Q : VK} (q : te σ H Q) : VE X e σ H Q := fun pins s I => h.run pins s σ H Q I q
theorem vt_of (h : PT X e tt) {Q : Bool → Hp → Prop} (q : tt σ H Q) : VT X e σ H Q := fun pins s I => h.run pins s σ H Q I q
theorem va_of (h : PA X es ta) {Q : List V → Hp → Prop} (q : ta σ H Q) : VA X es σ H Q := fun pos pins s I => h.run pos pins s σ H Q I q
theorem vs_of (h : PS X st ts) {D : Ends} (q : ts D σ H) : VS X st D σ H := fun pins s I => h.run pins s σ H D I q
theorem vss_of (h : PSs X sts ts) {D : Ends} (q : ts D σ H) : VSs X sts D σ H := fun pins s I => h.run pins s σ H D I q
abbrev VD (X : Cx) (e : Expr) (σ : L2.St) (S : Hp) (d : PyData) : Prop := ED X.K (VE X e) σ S d
abbrev VDA (X : Cx) (es : List Expr) (σ : L2.St) (S : Hp) (ds : List PyData) : Prop := EDA X.K (VA X es) σ S ds
abbrev VB (X : Cx) (e : Expr) (σ : L2.St) (S : Hp) (b : Bool) : Prop := EvT (VT X e) σ S b
abbrev VV (X : Cx) (e : Expr) (σ : L2.St) (S : Hp) (v : V) : Prop := Ev (VE X e) σ S v
theorem vd_of (h : PE X e te) (q : ED X.K te σ S d) : VD X e σ S d := fun H e1 Q k => ve_of h (q H e1 Q k)
theorem vv_of {v : V} (h : PE X e te) (q : Ev te σ S v) : VV X e σ S v := fun H e1 Q k => ve_of h (q H e1 Q k)
theorem vb_of {b : Bool} (h : PT X e tt) (q : EvT tt σ S b) : VB X e σ S b := fun H e1 Q k => vt_of h (q H e1 Q k)
theorem vda_of (h : PA X es ta) (q : EDA X.K ta σ S ds) : VDA X es σ S ds := fun H e1 Q k => va_of h (q H e1 Q k)

/-! ### names, constants, arguments -/
theorem vd_var (i : Nat) {x : Str} {pos : Pos} {v : V} (hd : DD X.K S v d) (hs : σ[i]? = some (some v) := by rfl) (hN : X.N[i]? = some x := by rfl)
    (hv : Vis X.env.scope x := by first | exact Or.inl rfl | exact Or.inr (Or.inl rfl) | exact Or.inr (Or.inr rfl)) (hdb : (x == ("__debug__" : Str)) = false := by decide) (hcd : (x == ("__classdict__" : Str)) = false := by decide) :
    VD X (.Name x pos) σ S d := vd_of (pe_var hN hv hdb hcd) (.of_ev (ev_var hs) hd)
theorem vd_int {i : Int} {j : Nat} {pos : Pos} : VD X (.Constant (.int i) j pos) σ S (.int i) := vd_of pe_int (.of_ev ev_c (.int i))
theorem vd_bool {b : Bool} {j : Nat} {pos : Pos} : VD X (.Constant (.bool b) j pos) σ S (.bool b) := vd_of pe_bl (.of_ev ev_c (.bl b))
theorem vd_none {j : Nat} {pos : Pos} : VD X (.Constant .none j pos) σ S .none := vd_of pe_non (.of_ev ev_c .non)
theorem vda_nil : VDA X [] σ S [] := vda_of pa_nil fun H e Q q => q [] S H (Nw.refl e) .nil
theorem vda_cons (h : VD X e σ S d) (hr : VDA X es σ S ds) (hs : starEach (e :: es) X.env = (false, eval e X.env) :: starEach es X.env := by rfl) : VDA X (e :: es) σ S (d :: ds) :=
  vda_of (pa_cons pe_ve pa_va hs) fun H e1 Q q => h H e1 _ fun v S1 H1 w1 p1 => hr.mono w1.st H1 w1.within _ fun vs S2 H2 w2 p2 => q (v :: vs) S2 H2 (w1.trans w2) (.cons (Dpm p1 w2.st) p2)
end
end K22
/-! K22, text 2: operators, calls, statements -/
namespace K22
open PySem PySem.Spec PyProof.Rows L2 Evl

/-! ### operators over data -/
section
variable {K : PySem.W.Frag} {ta tb tc : TE} {tr : TA} {σ : L2.St} {S : Hp} {d d1 d2 : PyData} {ds : List PyData} {r r' : R2}
theorem ed_op (ha : ED K ta σ S d1) (hb : ED K tb σ S d2)
    (hr : ∀ x y S1 H1, Ex S S1 → Ex S1 H1 → DD K S1 x d1 → DD K S1 y d2 → ∀ Q : VK, (∀ v S' H', Nw S1 H1 S' H' → DD K S' v d → Q v H') → r x y H1 Q) : ED K (tOp r ta tb) σ S d := fun H e Q q =>
  ha H e _ fun x S1 H1 w1 p1 => hb.mono w1.st H1 w1.within _ fun y S2 H2 w2 p2 => hr x y S2 H2 (w1.st.trans w2.st) w2.within (Dpm p1 w2.st) p2 Q fun v S' H' w3 p3 => q v S' H' ((w1.trans w2).trans w3) p3
theorem ed_call1 {rc : List V → Hp → VK → Prop} (ha : EDA K tr σ S ds)
    (hr : ∀ vs S1 H1, Ex S S1 → Ex S1 H1 → DDA K S1 vs ds → ∀ Q : VK, (∀ v S' H', Nw S1 H1 S' H' → DD K S' v d → Q v H') → rc vs H1 Q) : ED K (tCB rc tr) σ S d := fun H e Q q =>
  ha H e _ fun vs S1 H1 w1 p1 => hr vs S1 H1 w1.st w1.within p1 Q fun v S' H' w2 p2 => q v S' H' (w1.trans w2) p2
/-- ints in, a value out -/
theorem rI0_of {g : Int → Int → V} {i j : Int} {x y : V} {S1 H1 : Hp} (hS : Ex S1 H1) (hx : DD K S1 x (.int i)) (hy : DD K S1 y (.int j)) (hg : DD K S1 (g i j) d) {Q : VK} (q : ∀ v S' H', Nw S1 H1 S' H' → DD K S' v d → Q v H') : rI0 g x y H1 Q :=
  ⟨i, j, dp_int hx, dp_int hy, q _ S1 H1 (Nw.refl hS) hg⟩
theorem rI_of {C : Int → Int → Prop} {g : Int → Int → V} {i j : Int} {x y : V} {S1 H1 : Hp} (hc : C i j) (hS : Ex S1 H1) (hx : DD K S1 x (.int i)) (hy : DD K S1 y (.int j)) (hg : DD K S1 (g i j) d) {Q : VK} (q : ∀ v S' H', Nw S1 H1 S' H' → DD K S' v d → Q v H') : rI C g x y H1 Q :=
  ⟨i, j, dp_int hx, dp_int hy, hc, q _ S1 H1 (Nw.refl hS) hg⟩
end
section
variable {X : Cx} {a b c e : Expr} {es : List Expr} {pos p : Pos} {σ : L2.St} {S H : Hp} {i j k : Int} {d d1 d2 : PyData} {ds : List PyData} {x : Str}
theorem vd_bin {op : Operator} {r : R2} (ho : OpR X (binaryOp op) r) (ha : VD X a σ S d1) (hb : VD X b σ S d2)
    (hr : ∀ x y S1 H1, Ex S S1 → Ex S1 H1 → DD X.K S1 x d1 → DD X.K S1 y d2 → ∀ Q : VK, (∀ v S' H', Nw S1 H1 S' H' → DD X.K S' v d → Q v H') → r x y H1 Q) : VD X (.BinOp a op b pos) σ S d :=
  vd_of (pe_op ho pe_ve pe_ve) (ed_op ha hb hr)
theorem vd_add (ha : VD X a σ S (.int i)) (hb : VD X b σ S (.int j)) : VD X (.BinOp a .Add b pos) σ S (.int (i + j)) := vd_bin op_add ha hb fun _ _ _ _ _ hS hx hy _ q => rI0_of hS hx hy (.int _) q
theorem vd_sub (ha : VD X a σ S (.int i)) (hb : VD X b σ S (.int j)) : VD X (.BinOp a .Sub b pos) σ S (.int (i - j)) := vd_bin op_sub ha hb fun _ _ _ _ _ hS hx hy _ q => rI0_of hS hx hy (.int _) q
theorem vd_mul (ha : VD X a σ S (.int i)) (hb : VD X b σ S (.int j)) (h : CMul i j) : VD X (.BinOp a .Mult b pos) σ S (.int (i * j)) := vd_bin op_mul ha hb fun _ _ _ _ _ hS hx hy _ q => rI_of h hS hx hy (.int _) q
theorem vd_mod (ha : VD X a σ S (.int i)) (hb : VD X b σ S (.int j)) (h : 0 < j) : VD X (.BinOp a .Mod b pos) σ S (.int (i % j)) := vd_bin op_mod ha hb fun _ _ _ _ _ hS hx hy _ q => rI_of (C := fun _ j => 0 < j) h hS hx hy (.int _) q
theorem vd_fdiv (ha : VD X a σ S (.int i)) (hb : VD X b σ S (.int j)) (h : 0 < j ∧ j < 1073741824) : VD X (.BinOp a .FloorDiv b pos) σ S (.int (i / j)) := vd_bin op_fdiv ha hb fun _ _ _ _ _ hS hx hy _ q => rI_of h hS hx hy (.int _) q
theorem vd_pow (ha : VD X a σ S (.int i)) (hb : VD X b σ S (.int j)) (h : CPow i j) : VD X (.BinOp a .Pow b pos) σ S (.int (i ^ j.toNat)) := vd_bin op_pow ha hb fun _ _ _ _ _ hS hx hy _ q => rI_of h hS hx hy (.int _) q
/-! comparisons: as a value, as a test -/
theorem vd_cmp {op : CmpOp} {r : R2} (ho : OpR X (compareOp op) r) (ha : VD X a σ S d1) (hb : VD X b σ S d2)
    (hr : ∀ x y S1 H1, Ex S S1 → Ex S1 H1 → DD X.K S1 x d1 → DD X.K S1 y d2 → ∀ Q : VK, (∀ v S' H', Nw S1 H1 S' H' → DD X.K S' v d → Q v H') → r x y H1 Q) (hm : behindInMarks op b = false := by first | exact nomark _ | rfl) : VD X (.Compare a [op] [b] pos) σ S d :=
  vd_of (pe_cmpR ho pe_ve pe_ve hm) (ed_op ha hb hr)
theorem vb_cmp {op : CmpOp} {r : R2} {t : Bool} (ho : OpR X (compareOp op) r) (ha : VD X a σ S d1) (hb : VD X b σ S d2)
    (hr : ∀ x y S1 H1, Ex S S1 → Ex S1 H1 → DD X.K S1 x d1 → DD X.K S1 y d2 → ∀ Q : VK, (∀ v S' H', Nw S1 H1 S' H' → DD X.K S' v (.bool t) → Q v H') → r x y H1 Q) (hm : behindInMarks op b = false := by first | exact nomark _ | rfl) : VB X (.Compare a [op] [b] pos) σ S t :=
  vb_of (pt_cmpR ho pe_ve pe_ve hm) (et_test (ed_op ha hb hr).ev_bool)
theorem vb_lt (ha : VD X a σ S (.int i)) (hb : VD X b σ S (.int j)) : VB X (.Compare a [.Lt] [b] pos) σ S (decide (i < j)) := vb_cmp op_lt ha hb fun _ _ _ _ _ hS hx hy _ q => rI0_of hS hx hy (.bl _) q
theorem vb_le (ha : VD X a σ S (.int i)) (hb : VD X b σ S (.int j)) : VB X (.Compare a [.LtE] [b] pos) σ S (decide (i ≤ j)) := vb_cmp op_le ha hb fun _ _ _ _ _ hS hx hy _ q => rI0_of hS hx hy (.bl _) q
theorem vb_gt (ha : VD X a σ S (.int i)) (hb : VD X b σ S (.int j)) : VB X (.Compare a [.Gt] [b] pos) σ S (decide (j < i)) := vb_cmp op_gt ha hb fun _ _ _ _ _ hS hx hy _ q => rI0_of hS hx hy (.bl _) q
theorem vb_ge (ha : VD X a σ S (.int i)) (hb : VD X b σ S (.int j)) : VB X (.Compare a [.GtE] [b] pos) σ S (decide (j ≤ i)) := vb_cmp op_ge ha hb fun _ _ _ _ _ hS hx hy _ q => rI0_of hS hx hy (.bl _) q
theorem rEq_int {K : PySem.W.Frag} {x y : V} {S1 H1 : Hp} (hS : Ex S1 H1) (hx : DD K S1 x (.int i)) (hy : DD K S1 y (.int j)) {Q : VK} (q : ∀ v S' H', Nw S1 H1 S' H' → DD K S' v (.bool (decide (i = j))) → Q v H') : rEq x y H1 Q := by
  rw [dp_int hx, dp_int hy]
  refine ⟨rfl, ?_⟩
  rw [dec_int, Bool.beq_eq_decide_eq]
  exact q _ S1 H1 (Nw.refl hS) (.bl _)
theorem rNe_int {K : PySem.W.Frag} {x y : V} {S1 H1 : Hp} (hS : Ex S1 H1) (hx : DD K S1 x (.int i)) (hy : DD K S1 y (.int j)) {Q : VK} (q : ∀ v S' H', Nw S1 H1 S' H' → DD K S' v (.bool (!decide (i = j))) → Q v H') : rNe x y H1 Q := by
  rw [dp_int hx, dp_int hy]
  refine ⟨rfl, ?_⟩
  rw [dec_int, Bool.beq_eq_decide_eq]
  exact q _ S1 H1 (Nw.refl hS) (.bl _)
theorem vb_eq (ha : VD X a σ S (.int i)) (hb : VD X b σ S (.int j)) : VB X (.Compare a [.Eq] [b] pos) σ S (decide (i = j)) := vb_cmp op_eq ha hb fun _ _ _ _ _ hS hx hy _ q => rEq_int hS hx hy q
theorem vb_ne (ha : VD X a σ S (.int i)) (hb : VD X b σ S (.int j)) : VB X (.Compare a [.NotEq] [b] pos) σ S (!decide (i = j)) := vb_cmp op_ne ha hb fun _ _ _ _ _ hS hx hy _ q => rNe_int hS hx hy q
theorem vd_eq (ha : VD X a σ S (.int i)) (hb : VD X b σ S (.int j)) : VD X (.Compare a [.Eq] [b] pos) σ S (.bool (decide (i = j))) := vd_cmp op_eq ha hb fun _ _ _ _ _ hS hx hy _ q => rEq_int hS hx hy q
theorem vb_neB {t u : Bool} (ha : VD X a σ S (.bool t)) (hb : VD X b σ S (.bool u)) : VB X (.Compare a [.NotEq] [b] pos) σ S (!(t == u)) := vb_cmp op_ne ha hb fun _ _ _ _ _ hS hx hy _ q => by
  rw [dp_bool hx, dp_bool hy]
  refine ⟨rfl, ?_⟩
  rw [dec_bl]
  exact q _ _ _ (Nw.refl hS) (.bl _)
theorem vd_eqB {t u : Bool} (ha : VD X a σ S (.bool t)) (hb : VD X b σ S (.bool u)) : VD X (.Compare a [.Eq] [b] pos) σ S (.bool (t == u)) := vd_cmp op_eq ha hb fun _ _ _ _ _ hS hx hy _ q => by
  rw [dp_bool hx, dp_bool hy]
  refine ⟨rfl, ?_⟩
  rw [dec_bl]
  exact q _ _ _ (Nw.refl hS) (.bl _)
/-- is None of data -/
def isNone : PyData → Bool
  | .none => true
  | _ => false
theorem dp_isNone {K : PySem.W.Frag} {v : V} (h : DD K S v d) : decide (v = .non) = isNone d := by cases h <;> rfl
theorem vd_isN {j' : Nat} {p' : Pos} (ha : VD X a σ S d) : VD X (.Compare a [.Is] [.Constant .none j' p'] pos) σ S (.bool (isNone d)) := vd_cmp op_isN ha vd_none fun _ _ S1 H1 _ hS hx hy _ q => ⟨dp_none hy, by rw [dp_isNone hx]; exact q _ S1 H1 (Nw.refl hS) (.bl _)⟩
theorem vd_notN {j' : Nat} {p' : Pos} (ha : VD X a σ S d) : VD X (.Compare a [.IsNot] [.Constant .none j' p'] pos) σ S (.bool (!isNone d)) := vd_cmp op_notN ha vd_none fun _ _ S1 H1 _ hS hx hy _ q => ⟨dp_none hy, by rw [dp_isNone hx]; exact q _ S1 H1 (Nw.refl hS) (.bl _)⟩
theorem vb_isN {j' : Nat} {p' : Pos} (ha : VD X a σ S d) : VB X (.Compare a [.Is] [.Constant .none j' p'] pos) σ S (isNone d) := vb_cmp op_isN ha vd_none fun _ _ S1 H1 _ hS hx hy _ q => ⟨dp_none hy, by rw [dp_isNone hx]; exact q _ S1 H1 (Nw.refl hS) (.bl _)⟩
theorem vb_notN {j' : Nat} {p' : Pos} (ha : VD X a σ S d) : VB X (.Compare a [.IsNot] [.Constant .none j' p'] pos) σ S (!isNone d) := vb_cmp op_notN ha vd_none fun _ _ S1 H1 _ hS hx hy _ q => ⟨dp_none hy, by rw [dp_isNone hx]; exact q _ S1 H1 (Nw.refl hS) (.bl _)⟩
/-- e is not True, e a truth value -/
theorem vb_notTrue {t : Bool} {j' : Nat} {p' : Pos} (ha : VD X a σ S (.bool t)) : VB X (.Compare a [.IsNot] [.Constant (.bool true) j' p'] pos) σ S (!t) := vb_cmp op_notBl ha vd_bool fun _ _ S1 H1 _ hS hx hy _ q =>
  ⟨t, true, dp_bool hx, dp_bool hy, by
    have e : (!decide (t = true)) = !t := by cases t <;> rfl
    rw [e]; exact q _ S1 H1 (Nw.refl hS) (.bl _)⟩
/-- lo <= e < hi -/
theorem vb_within (ha : VD X a σ S (.int i)) (hb : VD X b σ S (.int j)) (hc : VD X c σ S (.int k)) (hm : lastMarks [.LtE, .Lt] [b, c] = false := by with_unfolding_all rfl) : VB X (.Compare a [.LtE, .Lt] [b, c] pos) σ S (decide (i ≤ j) && decide (j < k)) := by
  refine vb_of (pt_chain op_le op_lt pe_ve pe_ve pe_ve hm) (et_test fun H e Q q => ?_)
  refine ha.ev_int H e _ fun H1 e1 => hb.ev_int H1 (e.trans e1) _ fun H2 e2 => ?_
  refine ⟨i, j, rfl, rfl, _, rfl, ?_⟩
  by_cases hij : i ≤ j
  · rw [decide_eq_true hij]
    refine iteT (hc.ev_int H2 ((e.trans e1).trans e2) _ fun H3 e3 => ⟨j, k, rfl, rfl, ?_⟩)
    rw [decide_eq_true hij, Bool.true_and] at q
    exact q H3 ((e1.trans e2).trans e3)
  · rw [decide_eq_false hij]
    refine iteF ?_
    rw [decide_eq_false hij, Bool.false_and] at q
    exact q H2 (e1.trans e2)
/-- a value as a test -/
theorem vb_val {t : Bool} (h : VD X e σ S (.bool t)) (he : ∀ whole, isTrue e X.env whole = (do let v ← whole; standAt e.pos; holding [v] (truthy v)) := by intro _; rfl) : VB X e σ S t := vb_of (pt_val pe_ve he) (et_B h.ev_bool)
theorem vb_is {t u : Bool} (h : VB X e σ S t) (hu : t = u) : VB X e σ S u := et_is h hu
/-- the truth of a list, a tuple -/
theorem vb_truL {ds : List PyData} (h : VD X e σ S (.list ds)) (he : ∀ whole, isTrue e X.env whole = (do let v ← whole; standAt e.pos; holding [v] (truthy v)) := by intro _; rfl) : VB X e σ S (!ds.isEmpty) :=
  vb_of (pt_truth pe_ve he) fun H e1 Q q => h H e1 _ fun v S1 H1 w1 p1 => by
    obtain ⟨p, xs, rfl, hq, ha⟩ := dp_list p1
    refine ⟨_, .inl ⟨xs, ex_l w1.within hq, rfl⟩, ?_⟩
    have e2 : xs.isEmpty = ds.isEmpty := by have := da_len ha; cases xs <;> cases ds <;> simp_all
    rw [e2]; exact q H1 w1.hp
theorem vb_truT {ds : List PyData} (h : VD X e σ S (.tuple ds)) (he : ∀ whole, isTrue e X.env whole = (do let v ← whole; standAt e.pos; holding [v] (truthy v)) := by intro _; rfl) : VB X e σ S (!ds.isEmpty) :=
  vb_of (pt_truth pe_ve he) fun H e1 Q q => h H e1 _ fun v S1 H1 w1 p1 => by
    obtain ⟨p, xs, rfl, hq, ha⟩ := dp_tuple p1
    refine ⟨_, .inr (.inl ⟨xs, ex_t w1.within hq, rfl⟩), ?_⟩
    have e2 : xs.isEmpty = ds.isEmpty := by have := da_len ha; cases xs <;> cases ds <;> simp_all
    rw [e2]; exact q H1 w1.hp
theorem vb_and {t u : Bool} (h1 : VB X a σ S t) (h2 : t = true → VB X b σ S u) : VB X (.BoolOp .And [a, b] pos) σ S (t && u) := vb_of (PW.pt (pw_and pt_vt (pw_and1 pt_vt))) (et_and h1 h2)
theorem vb_or {t u : Bool} (h1 : VB X a σ S t) (h2 : t = false → VB X b σ S u) : VB X (.BoolOp .Or [a, b] pos) σ S (t || u) := vb_of (PW.pt (pw_or pt_vt (pw_or1 pt_vt))) (et_or h1 h2)
theorem vb_or3 {t u w : Bool} (h1 : VB X a σ S t) (h2 : t = false → VB X b σ S u) (h3 : t = false → u = false → VB X c σ S w) : VB X (.BoolOp .Or [a, b, c] pos) σ S (t || (u || w)) := vb_of (PW.pt (pw_or pt_vt (pw_or pt_vt (pw_or1 pt_vt)))) (et_or h1 fun ht => et_or (h2 ht) (h3 ht))
theorem vb_not {t : Bool} (h1 : VB X a σ S t) : VB X (.UnaryOp .Not a pos) σ S (!t) := vb_of (pt_not pt_vt) (et_not h1)
theorem vd_and {t u : Bool} (h1 : VD X a σ S (.bool t)) (h2 : t = true → VD X b σ S (.bool u)) : VD X (.BoolOp .And [a, b] pos) σ S (.bool (t && u)) := vd_of (pe_and pe_ve (pe_one pe_ve)) (.of_ev (ev_andV h1.ev_bool fun ht => (h2 ht).ev_bool) (.bl _))
theorem vd_or {t u : Bool} (h1 : VD X a σ S (.bool t)) (h2 : t = false → VD X b σ S (.bool u)) : VD X (.BoolOp .Or [a, b] pos) σ S (.bool (t || u)) := vd_of (pe_or pe_ve (pe_one pe_ve)) (.of_ev (ev_orV h1.ev_bool fun ht => (h2 ht).ev_bool) (.bl _))
theorem vd_not {t : Bool} (h1 : VD X a σ S (.bool t)) : VD X (.UnaryOp .Not a pos) σ S (.bool (!t)) := vd_of (pe_not pe_ve) (.of_ev (ev_notV h1.ev_bool) (.bl _))
theorem vd_if {t : Bool} (h : VB X c σ S t) (h1 : t = true → VD X a σ S d) (h2 : t = false → VD X b σ S d) : VD X (.IfExp c a b pos) σ S d := vd_of (pe_ifExp pt_vt pe_ve pe_ve) fun H e Q q => h H e _ fun H1 e1 => by
  cases t with
  | true => exact iteT (h1 rfl H1 (e.trans e1) Q fun v S' H' w p => q v S' H' ((Nw.only e e1).trans w) p)
  | false => exact iteF (h2 rfl H1 (e.trans e1) Q fun v S' H' w p => q v S' H' ((Nw.only e e1).trans w) p)

/-! ### displays, length, items -/
theorem sz5 {n : Nat} (h : n ≤ 100000) : n ≤ sizeLine := sz_of h
theorem vd_tup {k : Nat} (h : VDA X es σ S ds) (hz : ds.length ≤ 100000) : VD X (.Tuple es k pos) σ S (.tuple ds) := vd_of (pe_tup pa_va) fun H e Q q => h H e _ fun vs S1 H1 w1 p1 =>
  ⟨sz5 (by rw [da_len p1]; exact hz), fun p hp => q (.ref p) _ _ (w1.trans (Nw.put w1.within hp)) (.tup upd_same (Dam p1 (Ex.new (fresh_back w1.within hp))))⟩
theorem vd_lst (h : VDA X es σ S ds) (hz : ds.length ≤ 100000) : VD X (.List es pos) σ S (.list ds) := vd_of (pe_lst pa_va) fun H e Q q => h H e _ fun vs S1 H1 w1 p1 =>
  ⟨sz5 (by rw [da_len p1]; exact hz), fun p hp => q (.ref p) _ _ (w1.trans (Nw.put w1.within hp)) (.lst upd_same (Dam p1 (Ex.new (fresh_back w1.within hp))))⟩
/-- a call of a built-in function, of a built-in class -/
theorem vd_callB {id : String} {rc : List V → Hp → VK → Prop} (hc : CallR X (.builtin id) rc) (hm : X.mg x = none) (ha : VDA X (e :: es) σ S ds)
    (hr : ∀ vs S1 H1, Ex S S1 → Ex S1 H1 → DDA X.K S1 vs ds → ∀ Q : VK, (∀ v S' H', Nw S1 H1 S' H' → DD X.K S' v d → Q v H') → rc vs H1 Q)
    (hv : bootBuiltins x = some (.builtin id) := by decide +kernel) (hg : Gl X x := by rfl) (hn : x ≠ "__name__" := by decide) (hdb : (x == ("__debug__" : Str)) = false := by decide)
    (he : starEach (e :: es) X.env = (false, eval e X.env) :: starEach es X.env := by rfl) (hpl : (backTo pos (starEach es X.env)).any (·.1) = false := by rfl) : VD X (.Call (.Name x p) (e :: es) [] pos) σ S d :=
  vd_of (pe_callB hc hg hm hv pa_va hn hdb he hpl) (ed_call1 ha hr)
theorem vd_callTy {T : String} {rc : List V → Hp → VK → Prop} (hc : CallR X (.type T) rc) (hm : X.mg x = none) (ha : VDA X (e :: es) σ S ds)
    (hr : ∀ vs S1 H1, Ex S S1 → Ex S1 H1 → DDA X.K S1 vs ds → ∀ Q : VK, (∀ v S' H', Nw S1 H1 S' H' → DD X.K S' v d → Q v H') → rc vs H1 Q)
    (hv : bootBuiltins x = some (.type T) := by decide +kernel) (hg : Gl X x := by rfl) (hn : x ≠ "__name__" := by decide) (hdb : (x == ("__debug__" : Str)) = false := by decide)
    (he : starEach (e :: es) X.env = (false, eval e X.env) :: starEach es X.env := by rfl) (hpl : (backTo pos (starEach es X.env)).any (·.1) = false := by rfl) : VD X (.Call (.Name x p) (e :: es) [] pos) σ S d :=
  vd_of (pe_callTy hc hg hm hv pa_va hn hdb he hpl) (ed_call1 ha hr)
end
end K22
/-! K22, text 3: built-in calls, own calls, statements, loops -/
namespace K22
open PySem PySem.Spec PyProof.Rows L2 Evl

section
variable {X : Cx} {a b c e : Expr} {es : List Expr} {pos p : Pos} {σ : L2.St} {S H : Hp} {i j k : Int} {d d1 d2 : PyData} {ds : List PyData} {x : Str}
theorem vd_lenL (hm : X.mg "len" = none) (ha : VD X e σ S (.list ds)) (hg : Gl X "len" := by rfl)
    (he : starEach [e] X.env = (false, eval e X.env) :: starEach [] X.env := by rfl) (hpl : (backTo pos (starEach [] X.env)).any (·.1) = false := by rfl) : VD X (.Call (.Name "len" p) [e] [] pos) σ S (.int (ds.length : Int)) :=
  vd_callB call_len_seq hm (vda_cons ha vda_nil he) (fun vs S1 H1 _ hS hp Q q => by
    obtain ⟨v, rfl, hv⟩ := da1 hp
    obtain ⟨a, xs, rfl, h1, h2⟩ := dp_list hv
    refine ⟨a, xs, rfl, .inl (ex_l hS h1), ?_⟩
    rw [da_len h2]
    exact q _ S1 H1 (Nw.refl hS) (.int _)) PySem.boot_len hg (by decide) (by decide) he hpl
theorem vd_lenT (hm : X.mg "len" = none) (ha : VD X e σ S (.tuple ds)) (hg : Gl X "len" := by rfl)
    (he : starEach [e] X.env = (false, eval e X.env) :: starEach [] X.env := by rfl) (hpl : (backTo pos (starEach [] X.env)).any (·.1) = false := by rfl) : VD X (.Call (.Name "len" p) [e] [] pos) σ S (.int (ds.length : Int)) :=
  vd_callB call_len_seq hm (vda_cons ha vda_nil he) (fun vs S1 H1 _ hS hp Q q => by
    obtain ⟨v, rfl, hv⟩ := da1 hp
    obtain ⟨a, xs, rfl, h1, h2⟩ := dp_tuple hv
    refine ⟨a, xs, rfl, .inr (ex_t hS h1), ?_⟩
    rw [da_len h2]
    exact q _ S1 H1 (Nw.refl hS) (.int _)) PySem.boot_len hg (by decide) (by decide) he hpl
/-- an item by its place -/
theorem vd_ix {r : R2} (hr : IxR X r) (ha : VD X a σ S d1) (hb : VD X b σ S d2)
    (h : ∀ x y S1 H1, Ex S S1 → Ex S1 H1 → DD X.K S1 x d1 → DD X.K S1 y d2 → ∀ Q : VK, (∀ v S' H', Nw S1 H1 S' H' → DD X.K S' v d → Q v H') → r x y H1 Q) (hp : PlainIx b := by exact fun _ _ => rfl) : VD X (.Subscript a b pos) σ S d :=
  vd_of (pe_ix hr pe_ve pe_ve hp) (ed_op ha hb h)
theorem vd_ixL {n : Nat} (ha : VD X a σ S (.list ds)) (hb : VD X b σ S (.int i)) (hi : i = (n : Int)) (hd : ds[n]? = some d) (hp : PlainIx b := by exact fun _ _ => rfl) : VD X (.Subscript a b pos) σ S d :=
  vd_ix ix_list ha hb (fun x y S1 H1 _ hS hx hy Q q => by
    obtain ⟨a, xs, rfl, h1, h2⟩ := dp_list hx
    obtain ⟨v, h3, h4⟩ := da_get h2 hd
    refine ⟨a, xs, i, v, rfl, dp_int hy, ex_l hS h1, ?_, q v S1 H1 (Nw.refl hS) h4⟩
    rw [hi]; exact atI_nat h3) hp
theorem vd_ixT {n : Nat} (ha : VD X a σ S (.tuple ds)) (hb : VD X b σ S (.int i)) (hi : i = (n : Int)) (hd : ds[n]? = some d) (hp : PlainIx b := by exact fun _ _ => rfl) : VD X (.Subscript a b pos) σ S d :=
  vd_ix ix_tup ha hb (fun x y S1 H1 _ hS hx hy Q q => by
    obtain ⟨a, xs, rfl, h1, h2⟩ := dp_tuple hx
    obtain ⟨v, h3, h4⟩ := da_get h2 hd
    refine ⟨a, xs, i, v, rfl, dp_int hy, ex_t hS h1, ?_, q v S1 H1 (Nw.refl hS) h4⟩
    rw [hi]; exact atI_nat h3) hp
/-- the size, the edges of a web -/
theorem vd_web0 {W : Web} {p' : Pos} {j' : Nat} (ha : VD X a σ S (dW W)) : VD X (.Subscript a (.Constant (.int 0) j' p') pos) σ S (dI W.1) := vd_ixT (n := 0) ha vd_int rfl rfl
theorem vd_web1 {W : Web} {p' : Pos} {j' : Nat} (ha : VD X a σ S (dW W)) : VD X (.Subscript a (.Constant (.int 1) j' p') pos) σ S (dEs W.2) := vd_ixT (n := 1) ha vd_int rfl rfl
theorem get_ints {r : List Nat} {n : Nat} (h : n < r.length) : (r.map dI)[n]? = some (dI (r.getD n 0)) := by
  rw [List.getElem?_map, List.getElem?_eq_getElem h, getD_lt h]; rfl

/-! ### x in a row of whole numbers -/
theorem inV_ints (n : Nat) : ∀ r : List Nat, inV (.int n) (r.map vI) = decide (n ∈ r)
  | [] => by simp [inV]
  | m :: r => by
    have ih := inV_ints n r
    unfold inV at ih ⊢
    rw [List.map_cons, List.any_cons, ih]
    have e1 : eqV (vI m) (.int n) = decide (m = n) := by
      show (((m : Int)) == ((n : Int))) = _
      rw [Bool.eq_iff_iff, beq_iff_eq, decide_eq_true_eq]
      omega
    rw [e1, Bool.eq_iff_iff, Bool.or_eq_true, decide_eq_true_eq, decide_eq_true_eq, decide_eq_true_eq, List.mem_cons]
    constructor
    · rintro (h | h)
      · exact .inl h.symm
      · exact .inr h
    · rintro (h | h)
      · exact .inl h.symm
      · exact .inr h
theorem flat_ints : ∀ r : List Nat, (r.map vI).all flatV = true
  | [] => rfl
  | _ :: r => by rw [List.map_cons, List.all_cons, flat_ints r]; rfl
theorem rIn_L {K : PySem.W.Frag} {neg : Bool} {n : Nat} {r : List Nat} {x y : V} {S1 H1 : Hp} (hS : Ex S1 H1) (hx : DD K S1 x (dI n)) (hy : DD K S1 y (dL r)) {Q : VK} (q : ∀ v S' H', Nw S1 H1 S' H' → DD K S' v (.bool (if neg then !decide (n ∈ r) else decide (n ∈ r))) → Q v H') : rIn K neg x y H1 Q := by
  obtain ⟨a, rfl, h1⟩ := dp_L hy
  rw [dp_int hx]
  refine ⟨a, _, rfl, .inl (ex_l hS h1), rfl, flat_ints r, ?_⟩
  rw [inV_ints]
  exact q _ S1 H1 (Nw.refl hS) (.bl _)
theorem rIn_T {K : PySem.W.Frag} {neg : Bool} {n : Nat} {r : List Nat} {x y : V} {S1 H1 : Hp} (hS : Ex S1 H1) (hx : DD K S1 x (dI n)) (hy : DD K S1 y (dT r)) {Q : VK} (q : ∀ v S' H', Nw S1 H1 S' H' → DD K S' v (.bool (if neg then !decide (n ∈ r) else decide (n ∈ r))) → Q v H') : rIn K neg x y H1 Q := by
  obtain ⟨a, rfl, h1⟩ := dp_T hy
  rw [dp_int hx]
  refine ⟨a, _, rfl, .inr (ex_t hS h1), rfl, flat_ints r, ?_⟩
  rw [inV_ints]
  exact q _ S1 H1 (Nw.refl hS) (.bl _)
theorem vb_inL {n : Nat} {r : List Nat} (ha : VD X a σ S (dI n)) (hb : VD X b σ S (dL r)) (hm : behindInMarks .In b = false := by rfl) : VB X (.Compare a [.In] [b] pos) σ S (decide (n ∈ r)) := vb_cmp op_in_seq ha hb (fun _ _ _ _ _ hS hx hy _ q => rIn_L hS hx hy q) hm
theorem vb_inT {n : Nat} {r : List Nat} (ha : VD X a σ S (dI n)) (hb : VD X b σ S (dT r)) (hm : behindInMarks .In b = false := by rfl) : VB X (.Compare a [.In] [b] pos) σ S (decide (n ∈ r)) := vb_cmp op_in_seq ha hb (fun _ _ _ _ _ hS hx hy _ q => rIn_T hS hx hy q) hm
theorem vb_niL {n : Nat} {r : List Nat} (ha : VD X a σ S (dI n)) (hb : VD X b σ S (dL r)) (hm : behindInMarks .NotIn b = false := by rfl) : VB X (.Compare a [.NotIn] [b] pos) σ S (!decide (n ∈ r)) := vb_cmp op_notIn_seq ha hb (fun _ _ _ _ _ hS hx hy _ q => rIn_L hS hx hy q) hm
theorem vb_niT {n : Nat} {r : List Nat} (ha : VD X a σ S (dI n)) (hb : VD X b σ S (dT r)) (hm : behindInMarks .NotIn b = false := by rfl) : VB X (.Compare a [.NotIn] [b] pos) σ S (!decide (n ∈ r)) := vb_cmp op_notIn_seq ha hb (fun _ _ _ _ _ hS hx hy _ q => rIn_T hS hx hy q) hm
theorem vd_inL {n : Nat} {r : List Nat} (ha : VD X a σ S (dI n)) (hb : VD X b σ S (dL r)) (hm : behindInMarks .In b = false := by rfl) : VD X (.Compare a [.In] [b] pos) σ S (.bool (decide (n ∈ r))) := vd_cmp op_in_seq ha hb (fun _ _ _ _ _ hS hx hy _ q => rIn_L hS hx hy q) hm

/-! ### int, abs, min, max, list, tuple, sorted of whole numbers -/
theorem vd_intOf (hm : X.mg "int" = none) (ha : VD X e σ S (.int i)) (hg : Gl X "int" := by rfl)
    (he : starEach [e] X.env = (false, eval e X.env) :: starEach [] X.env := by rfl) (hpl : (backTo pos (starEach [] X.env)).any (·.1) = false := by rfl) : VD X (.Call (.Name "int" p) [e] [] pos) σ S (.int i) :=
  vd_callTy call_int1 hm (vda_cons ha vda_nil he) (fun vs S1 H1 _ hS hp Q q => by
    obtain ⟨v, rfl, hv⟩ := da1 hp
    rw [dp_int hv]
    exact .inl ⟨i, rfl, q _ S1 H1 (Nw.refl hS) (.int _)⟩) (by decide +kernel) hg (by decide) (by decide) he hpl
theorem vd_abs (hm : X.mg "abs" = none) (ha : VD X e σ S (.int i)) (hg : Gl X "abs" := by rfl)
    (he : starEach [e] X.env = (false, eval e X.env) :: starEach [] X.env := by rfl) (hpl : (backTo pos (starEach [] X.env)).any (·.1) = false := by rfl) : VD X (.Call (.Name "abs" p) [e] [] pos) σ S (.int (if i < 0 then -i else i)) :=
  vd_callB call_abs hm (vda_cons ha vda_nil he) (fun vs S1 H1 _ hS hp Q q => by
    obtain ⟨v, rfl, hv⟩ := da1 hp
    rw [dp_int hv]
    exact ⟨i, rfl, q _ S1 H1 (Nw.refl hS) (.int _)⟩) (by decide +kernel) hg (by decide) (by decide) he hpl
theorem vd_min {n m : Nat} (hc : X.calm = true) (hm : X.mg "min" = none) (ha : VD X a σ S (dI n)) (hb : VD X b σ S (dI m)) (hg : Gl X "min" := by rfl)
    (he : starEach [a, b] X.env = (false, eval a X.env) :: starEach [b] X.env := by rfl) (he2 : starEach [b] X.env = (false, eval b X.env) :: starEach [] X.env := by rfl) (hpl : (backTo pos (starEach [b] X.env)).any (·.1) = false := by rfl) : VD X (.Call (.Name "min" p) [a, b] [] pos) σ S (dI (min n m)) :=
  vd_callB (call_min2 hc) hm (vda_cons ha (vda_cons hb vda_nil he2) he) (fun vs S1 H1 _ hS hp Q q => by
    obtain ⟨v, w, rfl, hv, hw⟩ := da2 hp
    rw [dp_int hv, dp_int hw]
    refine ⟨n, m, rfl, ?_⟩
    have e : (if (m : Int) < (n : Int) then (m : Int) else (n : Int)) = ((min n m : Nat) : Int) := by split <;> omega
    rw [e]
    exact q _ S1 H1 (Nw.refl hS) (.int _)) (by decide +kernel) hg (by decide) (by decide) he hpl
theorem vd_max {n m : Nat} (hc : X.calm = true) (hm : X.mg "max" = none) (ha : VD X a σ S (dI n)) (hb : VD X b σ S (dI m)) (hg : Gl X "max" := by rfl)
    (he : starEach [a, b] X.env = (false, eval a X.env) :: starEach [b] X.env := by rfl) (he2 : starEach [b] X.env = (false, eval b X.env) :: starEach [] X.env := by rfl) (hpl : (backTo pos (starEach [b] X.env)).any (·.1) = false := by rfl) : VD X (.Call (.Name "max" p) [a, b] [] pos) σ S (dI (max n m)) :=
  vd_callB (call_max2 hc) hm (vda_cons ha (vda_cons hb vda_nil he2) he) (fun vs S1 H1 _ hS hp Q q => by
    obtain ⟨v, w, rfl, hv, hw⟩ := da2 hp
    rw [dp_int hv, dp_int hw]
    refine ⟨n, m, rfl, ?_⟩
    have e : (if (m : Int) > (n : Int) then (m : Int) else (n : Int)) = ((max n m : Nat) : Int) := by split <;> omega
    rw [e]
    exact q _ S1 H1 (Nw.refl hS) (.int _)) (by decide +kernel) hg (by decide) (by decide) he hpl
/-- list(x), tuple(x) of lists and tuples -/
inductive Items : PyData → List PyData → Prop
  | lst (ds : List PyData) : Items (.list ds) ds
  | tup (ds : List PyData) : Items (.tuple ds) ds
theorem dp_items {K : PySem.W.Frag} {v : V} (h : DD K S v d) (hi : Items d ds) : ∃ a xs, v = .ref a ∧ (SqL K S a xs ∨ SqT K S a xs) ∧ DDA K S xs ds := by
  cases hi with
  | lst => obtain ⟨a, xs, e, h1, h2⟩ := dp_list h; exact ⟨a, xs, e, .inl h1, h2⟩
  | tup => obtain ⟨a, xs, e, h1, h2⟩ := dp_tuple h; exact ⟨a, xs, e, .inr h1, h2⟩
theorem vd_listOf (hm : X.mg "list" = none) (ha : VD X e σ S d1) (hi : Items d1 ds) (hg : Gl X "list" := by rfl)
    (he : starEach [e] X.env = (false, eval e X.env) :: starEach [] X.env := by rfl) (hpl : (backTo pos (starEach [] X.env)).any (·.1) = false := by rfl) : VD X (.Call (.Name "list" p) [e] [] pos) σ S (.list ds) :=
  vd_callTy call_list_of hm (vda_cons ha vda_nil he) (fun vs S1 H1 _ hS hp Q q => by
    obtain ⟨v, rfl, hv⟩ := da1 hp
    obtain ⟨a, xs, rfl, h1, h2⟩ := dp_items hv hi
    refine ⟨a, xs, rfl, h1.imp (ex_l hS) (ex_t hS), fun l hl => q _ _ _ (Nw.put hS hl) (.lst upd_same (Dam h2 (Ex.new (fresh_back hS hl))))⟩) (by decide +kernel) hg (by decide) (by decide) he hpl
theorem vd_tupleOf (hm : X.mg "tuple" = none) (ha : VD X e σ S d1) (hi : Items d1 ds) (hg : Gl X "tuple" := by rfl)
    (he : starEach [e] X.env = (false, eval e X.env) :: starEach [] X.env := by rfl) (hpl : (backTo pos (starEach [] X.env)).any (·.1) = false := by rfl) : VD X (.Call (.Name "tuple" p) [e] [] pos) σ S (.tuple ds) :=
  vd_callTy call_tuple_of hm (vda_cons ha vda_nil he) (fun vs S1 H1 _ hS hp Q q => by
    obtain ⟨v, rfl, hv⟩ := da1 hp
    cases hi with
    | lst =>
      obtain ⟨a, xs, rfl, h1, h2⟩ := dp_list hv
      exact ⟨a, xs, rfl, .inl ⟨ex_l hS h1, fun l hl => q _ _ _ (Nw.put hS hl) (.tup upd_same (Dam h2 (Ex.new (fresh_back hS hl))))⟩⟩
    | tup =>
      obtain ⟨a, xs, rfl, h1, h2⟩ := dp_tuple hv
      exact ⟨a, xs, rfl, .inr ⟨ex_t hS h1, q _ S1 H1 (Nw.refl hS) hv⟩⟩) (by decide +kernel) hg (by decide) (by decide) he hpl
theorem perm_casts {l : List Int} {r : List Nat} (h : l.Perm (r.map fun (n : Nat) => (n : Int))) : ∃ r' : List Nat, l = r'.map (fun (n : Nat) => (n : Int)) ∧ r'.Perm r := by
  have e : l = (l.map Int.toNat).map (fun (n : Nat) => (n : Int)) := by
    rw [List.map_map]
    conv => lhs; rw [← List.map_id l]
    refine List.map_congr_left fun x hx => ?_
    obtain ⟨n, _, rfl⟩ := List.mem_map.mp (h.mem_iff.mp hx)
    rfl
  refine ⟨_, e, ?_⟩
  have h2 := h.map Int.toNat
  rw [List.map_map] at h2
  have e2 : (Int.toNat ∘ fun (n : Nat) => (n : Int)) = id := rfl
  rw [e2, List.map_id] at h2
  exact h2
theorem sorted_casts {l : List Int} {r : List Nat} (h : l.Perm (r.map fun (n : Nat) => (n : Int))) (hp : l.Pairwise (· ≤ ·)) : l.map V.int = (sortN r).map vI := by
  obtain ⟨r', rfl, q⟩ := perm_casts h
  rw [vI_cast]
  congr 2
  refine sortN_unique q ?_
  rw [List.pairwise_map] at hp
  exact hp.imp fun {a b} hab => by omega
theorem vd_sortedL {r : List Nat} (hm : X.mg "sorted" = none) (ha : VD X e σ S (dL r)) (hz : r.length < 64) (hg : Gl X "sorted" := by rfl)
    (he : starEach [e] X.env = (false, eval e X.env) :: starEach [] X.env := by rfl) (hpl : (backTo pos (starEach [] X.env)).any (·.1) = false := by rfl) : VD X (.Call (.Name "sorted" p) [e] [] pos) σ S (dL (sortN r)) :=
  vd_callB cr_sorted hm (vda_cons ha vda_nil he) (fun vs S1 H1 _ hS hp Q q => by
    obtain ⟨v, rfl, hv⟩ := da1 hp
    obtain ⟨a, rfl, h1⟩ := dp_L hv
    rw [vI_cast] at h1
    refine ⟨a, _, rfl, ex_l hS h1, by rw [List.length_map]; exact hz, fun ns' l h2 h3 hl => ?_⟩
    rw [sorted_casts h2 h3]
    exact q _ _ _ (Nw.put hS hl) (dp_ofL upd_same)) PyProof.Rows.boot_sorted hg (by decide) (by decide) he hpl
end
/-! ### sorted of a tuple of whole numbers -/
section
variable {prog : Program} {w : World} {A : Around} {E : Value → Shared → Prop} {s : Shared}
theorem sortedTup {l : Addr} {vs : List Value} {ns : List Int} {Q : Value → Shared → Prop} (hl : IsTup s.heap l vs.toArray) (hI : IntsAre vs ns) (h64 : vs.length < 64)
    (hQ : ∀ (out : Array Value) (c : Nat) (ns' : List Int) (h1 h' : Heap), (∀ b o, s.heap.get? b = some o → h1.get? b = some o) → (∀ b o, h1.get? b = some o → h'.get? b = some o) → h'.get? h1.objs.size = some (seqObj "list" out c) → IntsAre out.toList ns' → ns'.Perm ns → ns'.Pairwise (· ≤ ·) → Q (.ref h1.objs.size) { s with heap := h' }) :
    wpAny (model prog w) A (call (.builtin "sorted") [.ref l]) Q E s := by
  obtain ⟨o, ho, hc, n, hd⟩ := hl
  have hvs : vs.length ≤ sizeLine := by rw [sizeLine_eq]; omega
  refine Calls.call_function_entry kind_sorted plain_sorted entry_sorted (args_sorted1 _) ?_
  unfold Builtin.«sorted»
  refine wpAny_bind (m := checkCount "sorted" 1 1 _) (wpAny_pure ?_)
  refine wpAny_bind (wpAny_collect_seq l (.inr rfl) ho hc hd (fun h1 k1 => ?_) (by simpa using hvs))
  simp only [List.toList_toArray]
  refine wpAny_bind (wpAny_newList ?_ hvs)
  have hoL : (h1.push (seqObj "list" vs.toArray 0)).get? h1.objs.size = some (seqObj "list" vs.toArray 0) := Heap.get?_push_size _ rfl
  refine wpAny_bind (wpAny_holding (wpAny_call_entry slot_list_sort ⟨_, hoL, rfl⟩ entry_list_sort (list_sort_tree (s := { s with heap := h1.push (seqObj "list" vs.toArray 0) }) hoL hI h64 fun out ns' a1 a2 a3 => ⟨_, rfl, ?_⟩) (args_list_sort _)))
  obtain ⟨c, hcc⟩ := sortedHeap_at (vs := vs) (out := out) hoL
  exact wpAny_pure ⟨_, rfl, hQ out c ns' h1 _ k1 (fun b u q => by
    have hlt := Heap.lt_size q
    rw [sortedHeap_old (Nat.ne_of_lt hlt) (by rw [size_push']; exact Nat.lt_succ_of_lt hlt)]
    exact Heap.get?_push_of_some _ q) hcc a1 a2 a3⟩
end
section
variable {X : Cx} {e : Expr} {pos p : Pos} {σ : L2.St} {S : Hp}
def rSortedTI (K : PySem.W.Frag) : List V → Hp → VK → Prop := fun vs H Q => ∃ (a : Addr) (ns : List Int), vs = [V.ref a] ∧ SqT K H a (ns.map V.int) ∧ ns.length < 64 ∧
  ∀ (ns' : List Int) (p : Addr), ns'.Perm ns → ns'.Pairwise (fun x y => x ≤ y) → H p = none → Q (.ref p) (upd H p (.lst (ns'.map V.int)))
theorem cr_sortedTI : CallR X (.builtin "sorted") (rSortedTI X.K) := by
  intro pins s σ H vs us Q I r h
  obtain ⟨a, ns, rfl, hs, h64, q⟩ := h
  obtain ⟨its, rv, hT, _⟩ := I.tuple hs
  rw [Vals.ref1 r]
  refine sortedTup hT rv.ints (by rw [rv.ints.length]; exact h64) fun out c ns' h1 h' k1 k2 hg b1 b2 b3 => ?_
  have hlen : (ns'.map V.int).length ≤ sizeLine := by rw [List.length_map, b2.length_eq]; exact small64 h64
  have I1 : Inv X pins σ H { s with heap := h1 } := I.kept (t' := s.toks) k1
  exact ⟨.ref h1.objs.size, upd H h1.objs.size (.lst (ns'.map V.int)), I1.laid (t' := s.toks) k2 (Nat.le_refl _) ⟨hlen, out.toList, c, vals_of_ints b1, hg⟩, rfl, q ns' _ b2 b3 (I1.hok.fresh (Nat.le_refl _))⟩
theorem vd_sortedT {r : List Nat} (hm : X.mg "sorted" = none) (ha : VD X e σ S (dT r)) (hz : r.length < 64) (hg : Gl X "sorted" := by rfl)
    (he : starEach [e] X.env = (false, eval e X.env) :: starEach [] X.env := by rfl) (hpl : (backTo pos (starEach [] X.env)).any (·.1) = false := by rfl) : VD X (.Call (.Name "sorted" p) [e] [] pos) σ S (dL (sortN r)) :=
  vd_callB cr_sortedTI hm (vda_cons ha vda_nil he) (fun vs S1 H1 _ hS hp Q q => by
    obtain ⟨v, rfl, hv⟩ := da1 hp
    obtain ⟨a, rfl, h1⟩ := dp_T hv
    rw [vI_cast] at h1
    refine ⟨a, _, rfl, ex_t hS h1, by rw [List.length_map]; exact hz, fun ns' l h2 h3 hl => ?_⟩
    rw [sorted_casts h2 h3]
    exact q _ _ _ (Nw.put hS hl) (dp_ofL upd_same)) PyProof.Rows.boot_sorted hg (by decide) (by decide) he hpl
end
end K22
/-! K22, text 4: own defs, statements, loops, comprehensions -/
namespace K22
open PySem PySem.Spec PyProof.Rows L2 Evl

/-! ### own defs: data in, data out -/
abbrev PTr := List PyData → (PyData → Prop) → Prop
def spD (K : PySem.W.Frag) (Pr : PTr) : Sp := fun vs H Q _ => ∃ S ds, Ex S H ∧ DDA K S vs ds ∧ Pr ds fun d => ∀ v S' H', Nw S H S' H' → DD K S' v d → Q v H'
structure Fn (P : Program) (w : World) (K : PySem.W.Frag) (mg : Str → Option Value) (base : Heap) (k : Nat) (x : Str) (Pr : PTr) : Prop where
  ex : ∃ (f : Addr) (fd : FuncData) (ps : List Str), mg x = some (.ref f) ∧ PySem.W.keepIn K (.ref f) = true ∧ Binds K fd ps [] ∧ FnOk P w K mg base CX0 k f fd ps (spD K Pr)
theorem Fn.mono {P : Program} {w : World} {K : PySem.W.Frag} {mg : Str → Option Value} {base : Heap} {j k : Nat} {x : Str} {Pr : PTr} (G : Fn P w K mg base j x Pr) (h : j ≤ k) : Fn P w K mg base k x Pr := by
  obtain ⟨f, fd, ps, h1, h2, h3, h4⟩ := G.ex
  exact ⟨f, fd, ps, h1, h2, h3, h4.mono h⟩
/-- a reading that hands on what R allows -/
def EDP (K : PySem.W.Frag) (te : TE) (σ : L2.St) (S : Hp) (R : (PyData → Prop) → Prop) : Prop := ∀ H, Ex S H → ∀ Q : VK, R (fun d => ∀ v S' H', Nw S H S' H' → DD K S' v d → Q v H') → te σ H Q
section
variable {X : Cx} {e : Expr} {es : List Expr} {p pos : Pos} {σ : L2.St} {S H : Hp} {d : PyData} {ds : List PyData} {x : Str} {k : Nat} {Pr : PTr}
theorem ve_call (G : Fn X.prog X.w X.K X.mg X.base k x Pr) (hr : Room k X.A) (ha : VDA X (e :: es) σ S ds) (hS : Ex S H) {Q : VK} (hp : ∀ S1 H1, Nw S H S1 H1 → Pr ds fun d => ∀ v S' H', Nw S1 H1 S' H' → DD X.K S' v d → Q v H') (hg : Gl X x := by rfl) (hdb : (x == ("__debug__" : Str)) = false := by decide)
    (he : starEach (e :: es) X.env = (false, eval e X.env) :: starEach es X.env := by rfl) (hpl : (backTo pos (starEach es X.env)).any (·.1) = false := by rfl) : VE X (.Call (.Name x p) (e :: es) [] pos) σ H Q := by
  obtain ⟨f, fd, ps, h1, h2, h3, h4⟩ := G.ex
  refine ve_of (pe_call h4 hr hg h1 h2 h3 .nil pass0 pa_va hdb he hpl) (ha H hS _ fun vs S1 H1 w1 p1 => ?_)
  show spD X.K Pr (vs ++ []) H1 Q E0
  rw [List.append_nil]
  exact ⟨S1, ds, w1.within, p1, hp S1 H1 w1⟩
theorem vd_call (G : Fn X.prog X.w X.K X.mg X.base k x Pr) (hr : Room k X.A) (ha : VDA X (e :: es) σ S ds) (hp : ∀ R : PyData → Prop, R d → Pr ds R) (hg : Gl X x := by rfl) (hdb : (x == ("__debug__" : Str)) = false := by decide)
    (he : starEach (e :: es) X.env = (false, eval e X.env) :: starEach es X.env := by rfl) (hpl : (backTo pos (starEach es X.env)).any (·.1) = false := by rfl) : VD X (.Call (.Name x p) (e :: es) [] pos) σ S d := fun H hS Q q =>
  ve_call G hr ha hS (fun S1 H1 w1 => hp _ fun v S' H' w2 p2 => q v S' H' (w1.trans w2) p2) hg hdb he hpl
end
/-- the context of a def's body where nothing is raised -/
abbrev cxB (P : Program) (w : World) (K : PySem.W.Frag) (mg : Str → Option Value) (base : Heap) (N : List Str) (qual : Str) (sc : Scope) (f : Addr) (cdv : Value) (A : Around) (outer : List Env) (s : Shared) (H : Hp) (E : XK) : Cx := (cxOf CX0 P w K mg base N qual sc f cdv A outer s H E).nox
theorem fn_def {P : Program} {w : World} {K : PySem.W.Frag} {mg : Str → Option Value} {base : Heap} {x : Str} {st : Stmt} {f : Addr} {fd : FuncData} {N ps : List Str} {k : Nat} {Pr : PTr} (F : Fun K x x st f fd) (hm : mg x = some (.ref f)) (hb : Binds K fd ps []) (Sc : FnScope N ps (defScope st))
    (hl : ∀ ds R, Pr ds R → ds.length = ps.length)
    (body : ∀ (cdv : Value) (A : Around) (outer : List Env) (s : Shared) (S H : Hp) (vs : List V) (ds : List PyData) (Q : VK) (E : XK), Room k (A.deeper (envOfC x (defScope st) s.heap.objs.size f cdv)) → Ex S H → DDA K S vs ds → (Pr ds fun d => ∀ v S' H', Nw S H S' H' → DD K S' v d → Q v H') →
      VSs (cxB P w K mg base N x (defScope st) f cdv A outer s H E) (defBody st) { nx := fun _ H' => Q .non H', rt := Q } (start N vs) H) : Fn P w K mg base (k + 1) x Pr := by
  refine ⟨f, fd, ps, hm, F.kp, hb, F.ok Sc (fun vs H Q E h => ?_) fun cdv A outer s H vs Q E hr h => ?_⟩
  · obtain ⟨S, ds, _, h1, h2⟩ := h
    rw [da_len h1, hl _ _ h2]
  · obtain ⟨S, ds, h0, h1, h2⟩ := h
    exact ⟨_, pss_vss, body cdv A outer s S H vs ds Q E hr h0 h1 h2⟩

/-! ### statements -/
section
variable {X : Cx} {e c o a b l : Expr} {st : Stmt} {sts body els : List Stmt} {pos p p2 : Pos} {σ : L2.St} {S H : Hp} {d : PyData} {ds : List PyData} {x : Str} {D : Ends}
theorem vs_nil (h : D.nx σ H) : VSs X [] D σ H := vss_of pss_nil h
theorem vs_cons (h : VS X st { D with nx := fun σ' H' => VSs X sts D σ' H' } σ H) : VSs X (st :: sts) D σ H := vss_of (pss_cons ps_vs pss_vss) h
theorem vs_last (h : VS X st D σ H) : VSs X [st] D σ H := vss_of (pss_one ps_vs) h
theorem vs_set (i : Nat) (h : VD X e σ S d) (hS : Ex S H) (k : ∀ v S' H', Nw S H S' H' → DD X.K S' v d → D.nx (σ.set i (some v)) H') (hN : X.N.Nodup) (hi : X.N[i]? = some x := by rfl) (hx : Loc X.env.scope x := by first | exact Or.inl rfl | exact Or.inr rfl)
    (hs : swapsWith e (some (.Name x p)) pos.line X.env = pure false := by rfl) (hf : X.fn x = true ∨ X.env.scope.names.lookup x = some .local := by first | exact Or.inl rfl | exact Or.inr rfl) : VS X (.Assign [.Name x p] e pos) D σ H :=
  vs_of (ps_set (i := i) hN hi hx pe_ve hs hf) (h H hS _ fun v S' H' w q => k v S' H' w q)
/-- of a call whose answer is told by R -/
theorem vs_setE (i : Nat) (h : VE X e σ H fun v H' => D.nx (σ.set i (some v)) H') (hN : X.N.Nodup) (hi : X.N[i]? = some x := by rfl) (hx : Loc X.env.scope x := by first | exact Or.inl rfl | exact Or.inr rfl)
    (hs : swapsWith e (some (.Name x p)) pos.line X.env = pure false := by rfl) (hf : X.fn x = true ∨ X.env.scope.names.lookup x = some .local := by first | exact Or.inl rfl | exact Or.inr rfl) : VS X (.Assign [.Name x p] e pos) D σ H :=
  vs_of (ps_set (i := i) hN hi hx pe_ve hs hf) h
theorem vs_ret (h : VD X e σ S d) (hS : Ex S H) (k : ∀ v S' H', Nw S H S' H' → DD X.K S' v d → D.rt v H') : VS X (.Return (some e) pos) D σ H := vs_of (ps_ret pe_ve) (h H hS _ fun v S' H' w q => k v S' H' w q)
theorem vs_retE (h : VE X e σ H D.rt) : VS X (.Return (some e) pos) D σ H := vs_of (ps_ret pe_ve) h
theorem vs_retN (h : D.rt .non H) : VS X (.Return none pos) D σ H := vs_of ps_retN h
theorem vs_if {t : Bool} (h : VB X c σ S t) (hS : Ex S H) (h1 : t = true → ∀ H', Ex H H' → VSs X body D σ H') (h2 : t = false → ∀ H', Ex H H' → VSs X els D σ H') : VS X (.If c body els pos) D σ H :=
  vs_of (ps_if pt_vt pss_vss pss_vss) (h H hS _ fun H' e => by
    cases t with
    | true => exact iteT (h1 rfl H' e)
    | false => exact iteF (h2 rfl H' e))
/-- if c: raise .. (never) -/
theorem vs_unless (h : VB X c σ S false) (hS : Ex S H) (h2 : ∀ H', Ex H H' → D.nx σ H') : VS X (.If c body [] pos) D σ H := vs_if h hS (fun z => nomatch z) fun _ H' e => vs_nil (h2 H' e)
/-- xs.append(e), o's value being the list at l -/
theorem vs_app {m : Addr} {xs : List V} {apos : Pos} (ho : Ev (VE X o) σ H (.ref m)) (hm : H m = some (.lst xs)) (he : VD X e σ S d) (hS : Ex S H) (hz : xs.length < 100000) (k : ∀ v S' H', Nw S H S' H' → DD X.K S' v d → D.nx σ (upd H' m (.lst (xs ++ [v]))))
    (hs : swapsWith (.Call (.Attribute o "append" apos) [e] [] p) none pos.line X.env = pure false := by rfl) (hq : PE X (.Call (.Attribute o "append" apos) [e] [] p) (tBM X.K "list" rAppend (VE X o) (tCons (VE X e) tNil)) := by exact pe_bm PySem.F.plainAttrs_list PySem.F.slot_list_append PySem.F.type_list_append mt_append pe_ve (pa_cons pe_ve pa_nil)) :
    VS X (.Expr (.Call (.Attribute o "append" apos) [e] [] p) pos) D σ H :=
  vs_of (ps_expr hq hs) (ho H (Ex.refl H) _ fun H1 e1 => ⟨Or.inl ⟨rfl, xs, sq_of (e1 m _ hm)⟩, he H1 (hS.trans e1) _ fun v S' H' w q => ⟨m, xs, v, rfl, rfl, w.hp m _ (e1 m _ hm), sz_lt hz, k v S' H' ((Nw.only hS e1).trans w) q⟩⟩)
/-- a name's value as it stands -/
theorem vv_var (i : Nat) {v : V} (hs : σ[i]? = some (some v) := by rfl) (hN : X.N[i]? = some x := by rfl) (hv : Vis X.env.scope x := by first | exact Or.inl rfl | exact Or.inr (Or.inl rfl) | exact Or.inr (Or.inr rfl)) (hdb : (x == ("__debug__" : Str)) = false := by decide) (hcd : (x == ("__classdict__" : Str)) = false := by decide) :
    Ev (VE X (.Name x pos)) σ H v := vv_of (pe_var hN hv hdb hcd) (ev_var hs)
theorem vv_int {i : Int} (h : VD X e σ S (.int i)) (hS : Ex S H) : Ev (VE X e) σ H (.int i) := h.ev_int.mono hS
theorem vv_bool {t : Bool} (h : VD X e σ S (.bool t)) (hS : Ex S H) : Ev (VE X e) σ H (.bl t) := h.ev_bool.mono hS
theorem vv_ixL {m : Addr} {xs : List V} {n : Nat} {i : Int} {v : V} (ha : Ev (VE X a) σ H (.ref m)) (hm : H m = some (.lst xs)) (hb : Ev (VE X b) σ H (.int i)) (hi : i = (n : Int)) (hv : xs[n]? = some v) (hp : PlainIx b := by exact fun _ _ => rfl) : Ev (VE X (.Subscript a b pos)) σ H v :=
  vv_of (pe_ix ix_list pe_ve pe_ve hp) (ev_op ha hb (rv_ixL (K := X.K) (sq_of hm) (by rw [hi]; exact atI_nat hv)))
/-- xs[i] = e -/
theorem vs_put {m : Addr} {xs : List V} {n : Nat} {v : V} {pt : Pos} (hm : H m = some (.lst xs)) (he : Ev (VE X e) σ H v) (ha : Ev (VE X a) σ H (.ref m)) (hb : Ev (VE X b) σ H (.int (n : Int))) (hn : n < xs.length) (k : ∀ H', Ex H H' → D.nx σ (upd H' m (.lst (xs.set n v))))
    (hq : PS X (.Assign [.Subscript a b pt] e pos) (tAsg (VE X e) (gSub (VE X a) (VE X b) rSetL)) := by exact ps_asg pe_ve (pg_sub pe_ve pe_ve set_list)) : VS X (.Assign [.Subscript a b pt] e pos) D σ H :=
  vs_of hq (s_setL hm he ha hb hn k)
end

/-! ### what is walked -/
/-- the iterable's turns hand out values of the data ds, one after another -/
def EW (K : PySem.W.Frag) (wi : TI) (σ : L2.St) (S : Hp) (ds : List PyData) : Prop := ∀ H, Ex S H → ∀ R : It → Hp → Prop,
  (∀ (J : It) (G : Hp → Prop) (Y : Nat → Hp → V → Hp → Prop) S1 H1, Nw S H S1 H1 → L2.Walk J ds.length G Y → (∀ H', Ex S1 H' → G H') → (∀ i d H' x H'' Si, ds[i]? = some d → Ex S1 Si → Ex Si H' → Y i H' x H'' → ∃ Si', Nw Si H' Si' H'' ∧ DD K Si' x d) → R J H1) → wi σ H R
section
variable {X : Cx} {K : PySem.W.Frag} {te : TE} {ta : TA} {σ : L2.St} {S : Hp} {ds : List PyData}
theorem ew_list (h : ED K te σ S (.list ds)) : EW K (iList K te) σ S ds := fun H e R q => h H e _ fun v S1 H1 w1 p1 => by
  obtain ⟨a, xs, rfl, h1, h2⟩ := dp_list p1
  refine ⟨a, rfl, ⟨xs, ex_l w1.within h1⟩, ?_⟩
  have w : L2.Walk (Itl K a) ds.length (fun H => SqL K H a xs) (YAt xs) := by rw [← da_len h2]; exact walk_list
  refine q _ _ _ S1 H1 w1 w (fun H' e' => ex_l e' h1) fun i d H' x H'' Si hd e1 e2 y => ?_
  obtain ⟨rfl, hx⟩ := y
  obtain ⟨v, hv, pv⟩ := da_get h2 hd
  rw [hx] at hv
  cases hv
  exact ⟨Si, Nw.refl e2, Dpm pv e1⟩
theorem ew_tup (h : ED K te σ S (.tuple ds)) : EW K (iTup K te) σ S ds := fun H e R q => h H e _ fun v S1 H1 w1 p1 => by
  obtain ⟨a, xs, rfl, h1, h2⟩ := dp_tuple p1
  refine ⟨a, rfl, ⟨xs, ex_t w1.within h1⟩, ?_⟩
  have w : L2.Walk (Itt K a) ds.length (fun H => SqT K H a xs) (YAt xs) := by rw [← da_len h2]; exact walk_tup
  refine q _ _ _ S1 H1 w1 w (fun H' e' => ex_t e' h1) fun i d H' x H'' Si hd e1 e2 y => ?_
  obtain ⟨rfl, hx⟩ := y
  obtain ⟨v, hv, pv⟩ := da_get h2 hd
  rw [hx] at hv
  cases hv
  exact ⟨Si, Nw.refl e2, Dpm pv e1⟩
theorem ew_range1 {n : Nat} (h : EDA K ta σ S [dI n]) (hn : n ≤ 100000) : EW K (iRng1 ta) σ S ((List.range n).map dI) := fun H e R q => h H e _ fun vs S1 H1 w1 p1 => by
  obtain ⟨v, rfl, hv⟩ := da1 p1
  rw [dp_int hv]
  refine ⟨(n : Int), rfl, by omega, by omega, ?_⟩
  have w : L2.Walk (Itr 0 ((n : Int)).toNat) ((List.range n).map dI).length (fun _ => True) (YFn fun i => .int (0 + i)) := by rw [List.length_map, List.length_range]; exact walk_range
  refine q _ _ _ S1 H1 w1 w (fun _ _ => trivial) fun i d H' x H'' Si hd e1 e2 y => ?_
  obtain ⟨rfl, rfl⟩ := y
  have hi : i < n := by
    have := (List.getElem?_eq_some_iff.mp hd).1
    simpa using this
  have ed : d = .int (0 + (i : Int)) := by
    rw [List.getElem?_map, List.getElem?_range hi] at hd
    have := Option.some.inj hd
    rw [← this, Int.zero_add]; rfl
  rw [ed]
  exact ⟨Si, Nw.refl e2, .int _⟩
theorem ew_range2 {u n : Nat} (h : EDA K ta σ S [dI u, dI n]) (hn : u ≤ 100000 ∧ n ≤ 100000) : EW K (iRng2 ta) σ S ((List.range' u (n - u)).map dI) := fun H e R q => h H e _ fun vs S1 H1 w1 p1 => by
  obtain ⟨v, v2, rfl, hv, hv2⟩ := da2 p1
  rw [dp_int hv, dp_int hv2]
  refine ⟨(u : Int), (n : Int), rfl, ⟨by omega, by omega, by omega, by omega⟩, ?_⟩
  have en : (((n : Int) - (u : Int))).toNat = n - u := by omega
  have w : L2.Walk (Itr (u : Int) ((n : Int) - (u : Int)).toNat) ((List.range' u (n - u)).map dI).length (fun _ => True) (YFn fun i => .int ((u : Int) + i)) := by rw [List.length_map, List.length_range', en]; exact walk_range
  refine q _ _ _ S1 H1 w1 w (fun _ _ => trivial) fun i d H' x H'' Si hd e1 e2 y => ?_
  obtain ⟨rfl, rfl⟩ := y
  have hi : i < n - u := by
    have := (List.getElem?_eq_some_iff.mp hd).1
    simpa using this
  have ed : d = .int ((u : Int) + (i : Int)) := by
    rw [List.getElem?_map, List.getElem?_range' hi] at hd
    have := Option.some.inj hd
    rw [← this]
    show PyData.int (((u + 1 * i : Nat)) : Int) = _
    congr 1
    omega
  rw [ed]
  exact ⟨Si, Nw.refl e2, .int _⟩
end
section
variable {X : Cx} {tg iter : Expr} {body : List Stmt} {pos : Pos} {wi : TI} {g : TG} {σ : L2.St} {S H : Hp} {ds : List PyData} {D : Ends}
theorem vs_for (hi : PI X tg iter wi) (hg : PG X tg g) (hw : EW X.K wi σ S ds) (hS : Ex S H) (hc : X.calm = true) (Pv : Hp → Nat → L2.St → Hp → Prop)
    (h0 : ∀ S1 H1, Nw S H S1 H1 → Pv S1 0 σ H1) (hk : ∀ S1 i σ' H', Pv S1 i σ' H' → Ex S1 H')
    (hs : ∀ S1 i d x σ' H' H'', Ex S S1 → ds[i]? = some d → Pv S1 i σ' H' → (∀ Si, Ex S1 Si → Ex Si H' → ∃ Si', Nw Si H' Si' H'' ∧ DD X.K Si' x d) → g x σ' H'' fun σ2 H2 => VSs X body { D with nx := Pv S1 (i + 1), ct := Pv S1 (i + 1), bk := D.nx } σ2 H2)
    (hd : ∀ S1 σ' H', Ex S S1 → Pv S1 ds.length σ' H' → D.nx σ' H') (hp : PassesOwn (model X.prog X.w) X.A X.env X.xe := by exact PassesOwn.never) (hf : ∀ x, foldedSetIterable iter X.env x = pure x := by intro _; rfl) : VS X (.For tg iter body [] pos) D σ H := by
  refine vs_of (ps_for hp hc hi hg pss_vss hf) (hw H hS _ fun J G Y S1 H1 w1 w hG hY => ?_)
  refine for_it w (Pv S1) (h0 S1 H1 w1) (fun i σ' H' _ p => hG H' (hk S1 i σ' H' p)) (fun i x σ' H' H'' hi p y => ?_) fun σ' H' p => hd S1 σ' H' w1.st p
  exact hs S1 i ds[i] x σ' H' H'' w1.st (List.getElem?_eq_getElem hi) p fun Si e1 e2 => hY i ds[i] H' x H'' Si (List.getElem?_eq_getElem hi) e1 e2 y
/-- the target a name -/
theorem vs_forN (j : Nat) {x : Str} {p : Pos} (hi : PI X (.Name x p) iter wi) (hw : EW X.K wi σ S ds) (hS : Ex S H) (hN : X.N.Nodup) (hc : X.calm = true) (Pv : Hp → Nat → L2.St → Hp → Prop)
    (h0 : ∀ S1 H1, Nw S H S1 H1 → Pv S1 0 σ H1) (hk : ∀ S1 i σ' H', Pv S1 i σ' H' → Ex S1 H')
    (hs : ∀ S1 i d v σ' H' H'', Ex S S1 → ds[i]? = some d → Pv S1 i σ' H' → (∀ Si, Ex S1 Si → Ex Si H' → ∃ Si', Nw Si H' Si' H'' ∧ DD X.K Si' v d) → VSs X body { D with nx := Pv S1 (i + 1), ct := Pv S1 (i + 1), bk := D.nx } (σ'.set j (some v)) H'')
    (hd : ∀ S1 σ' H', Ex S S1 → Pv S1 ds.length σ' H' → D.nx σ' H') (hj : X.N[j]? = some x := by rfl) (hx : Loc X.env.scope x := by first | exact Or.inl rfl | exact Or.inr rfl) (hf0 : X.fn x = true ∨ X.env.scope.names.lookup x = some .local := by first | exact Or.inl rfl | exact Or.inr rfl)
    (hp : PassesOwn (model X.prog X.w) X.A X.env X.xe := by exact PassesOwn.never) (hf : ∀ x, foldedSetIterable iter X.env x = pure x := by intro _; rfl) : VS X (.For (.Name x p) iter body [] pos) D σ H :=
  vs_for hi (pg_name hN hj hx hf0) hw hS hc Pv h0 hk (fun S1 i d v σ' H' H'' e hd p y => hs S1 i d v σ' H' H'' e hd p y) hd hp hf
end

/-! ### comprehensions -/
/-- in the block of a comprehension of X: whatever the frame is -/
def VEb (X : Cx) (scope : Scope) (e : Expr) : TE := fun σ H Q => ∀ (s : Shared) (H0 : Hp) (C : Addr) (cl : List (Str × Addr)) (fp : List Addr), VE (X.blk s H0 scope (compEnvC scope cl C X.env) fp) e σ H Q
def VTb (X : Cx) (scope : Scope) (e : Expr) : TT := fun σ H Q => ∀ (s : Shared) (H0 : Hp) (C : Addr) (cl : List (Str × Addr)) (fp : List Addr), VT (X.blk s H0 scope (compEnvC scope cl C X.env) fp) e σ H Q
section
variable {X : Cx} {scope : Scope} {elt : Expr} {σ : L2.St} {S : Hp} {d : PyData}
theorem peb (s : Shared) (H0 : Hp) (C : Addr) (cl : List (Str × Addr)) (fp : List Addr) : PE (X.blk s H0 scope (compEnvC scope cl C X.env) fp) elt (VEb X scope elt) := ⟨fun pins s' _ _ _ I h => h s H0 C cl fp pins s' I⟩
theorem edb (h : ∀ s H0 C cl fp, VD (X.blk s H0 scope (compEnvC scope cl C X.env) fp) elt σ S d) : ED X.K (VEb X scope elt) σ S d := fun H e Q q s H0 C cl fp => h s H0 C cl fp H e Q q
theorem ptb (s : Shared) (H0 : Hp) (C : Addr) (cl : List (Str × Addr)) (fp : List Addr) : PT (X.blk s H0 scope (compEnvC scope cl C X.env) fp) elt (VTb X scope elt) := ⟨fun pins s' _ _ _ I h => h s H0 C cl fp pins s' I⟩
theorem etb {t : Bool} (h : ∀ s H0 C cl fp, VB (X.blk s H0 scope (compEnvC scope cl C X.env) fp) elt σ S t) : EvT (VTb X scope elt) σ S t := fun H e Q q s H0 C cl fp => h s H0 C cl fp H e Q q
end
theorem ed_lc {K : PySem.W.Frag} {wi : TI} {g : TG} {tt : TT} {te : TE} {vs : List Nat} {σ : L2.St} {S : Hp} {ds : List PyData} (hw : EW K wi σ S ds) (out : Nat → Option PyData) (hz : ds.length ≤ 40000)
    (hs : ∀ i d x Si H', ds[i]? = some d → Ex S Si → Ex Si H' → DD K Si x d → ∃ σ2, (∀ Q : L2.St → Hp → Prop, Q σ2 H' → g x (wipe σ vs) H' Q) ∧ wipe σ2 vs = wipe σ vs ∧ EvT tt σ2 Si (out i).isSome ∧ ∀ e, out i = some e → ED K te σ2 Si e) :
    ED K (tLc wi g tt te vs) σ S (.list ((List.range ds.length).filterMap out)) := fun H e Q q => hw H e _ fun J G Y S1 H1 w1 w hG hY => fun D hD => by
  have hD1 : S1 D = none := fresh_back w1.within hD
  have step : ∀ i, (List.range (i + 1)).filterMap out = (List.range i).filterMap out ++ (match out i with | some e => [e] | none => []) := fun i => by
    rw [List.range_succ, List.filterMap_append]
    cases q : out i with
    | none => simp [q]
    | some e => simp [q]
  have hlen : ∀ i, ((List.range i).filterMap out).length ≤ i := fun i => by
    have := List.length_filterMap_le out (List.range i)
    rwa [List.length_range] at this
  refine lc_it w (fun i H' => ∃ Si acc, At S1 H1 Si H' ∧ Si D = none ∧ H' D = some (.lst acc) ∧ DDA K Si acc ((List.range i).filterMap out)) ⟨S1, [], (At.refl w1.within).mut hD hD1, hD1, upd_same, .nil⟩ (fun i H' _ ⟨Si, acc, ha, _⟩ => hG H' (ha.nw.st.trans ha.nw.within)) (fun i x H2 H3 hi ⟨Si, acc, ha, hn, hl, hp⟩ y => ?_) fun H' ⟨Si, acc, ha, hn, hl, hp⟩ => ?_
  · obtain ⟨Sj, w3, p3⟩ := hY i ds[i] H2 x H3 Si (List.getElem?_eq_getElem hi) ha.nw.st ha.nw.within y
    obtain ⟨σ2, gq, hwp, ht, he⟩ := hs i ds[i] x Sj H3 (List.getElem?_eq_getElem hi) (w1.st.trans (ha.nw.st.trans w3.st)) w3.within p3
    have hn3 : Sj D = none := w3.keepOut hn hl
    refine gq _ ⟨hwp, ht H3 w3.within _ fun H4 e4 => ?_⟩
    have a4 : At S1 H1 Sj H4 := (ha.step w3).only e4
    have hl4 : H4 D = some (.lst acc) := e4 D _ (w3.hp D _ hl)
    cases ho : out i with
    | none =>
      refine iteF ⟨Sj, acc, a4, hn3, hl4, ?_⟩
      rw [step, ho, List.append_nil]
      exact Dam hp w3.st
    | some e' =>
      refine iteT (he e' ho H4 a4.nw.within _ fun v S5 H5 w5 p5 => ⟨acc, w5.hp D _ hl4, ?_, S5, acc ++ [v], (a4.step w5).mut hD (w5.keepOut hn3 hl4), w5.keepOut hn3 hl4, upd_same, ?_⟩)
      · have h1 := da_len hp
        have h2 := hlen i
        exact sz_lt (by omega)
      · rw [step, ho]
        exact da_snoc (Dam hp (w3.st.trans w5.st)) p5
  · have fz := ha.freeze hD hn hl
    exact q (.ref D) _ H' (w1.trans fz.nw) (.lst upd_same (Dam hp (Ex.new hn)))
theorem wipe1 (σ : L2.St) (j : Nat) (x : V) : wipe ((wipe σ [j]).set j (some x)) [j] = wipe σ [j] := by
  show (((σ.set j none).set j (some x)).set j none) = σ.set j none
  rw [List.set_set, List.set_set]
section
variable {X : Cx} {iter elt c : Expr} {pos p : Pos} {wi : TI} {σ : L2.St} {S : Hp} {ds : List PyData} {scope : Scope} {x : Str}
/-- [elt for x in iter] -/
theorem vd_lcN (j : Nat) (hi : PI X (.Name x p) iter wi) (hw : EW X.K wi σ S ds) (hz : ds.length ≤ 40000) (hN : X.N.Nodup) (hc : X.calm = true) (f : Nat → PyData) (ok : BlkOk X.N X.env.scope scope [(x, j)])
    (hg : ∀ (s : Shared) (H : Hp) (C : Addr) (cl : List (Str × Addr)) (fp : List Addr), PG (X.blk s H scope (compEnvC scope cl C X.env) fp) (.Name x p) (gName j))
    (he : ∀ i d v Si, ds[i]? = some d → Ex S Si → DD X.K Si v d → ∀ s H0 C cl fp, VD (X.blk s H0 scope (compEnvC scope cl C X.env) fp) elt ((wipe σ [j]).set j (some v)) Si (f i)) (hf : ∀ x, foldedSetIterable iter X.env x = pure x := by intro _; rfl) :
    VD X (.ListComp elt [⟨.Name x p, iter, [], 0⟩] scope pos) σ S (.list ((List.range ds.length).map f)) := by
  have e : (List.range ds.length).map f = (List.range ds.length).filterMap (fun i => some (f i)) := by rw [List.filterMap_eq_map']
  rw [e]
  refine vd_of (pe_lc (own := [(x, j)]) (g := gName j) (tt := tYes) (te := VEb X scope elt) hc hN hi ok hg (fun _ _ _ _ _ => pts_nil) (fun s H C cl fp => peb s H C cl fp) hf) (ed_lc hw _ hz fun i d v Si H' hd e1 e2 p1 => ⟨_, fun Q q => q, wipe1 σ j v, fun H e Q q => q H (Ex.refl H), fun e he' => ?_⟩)
  cases he'
  exact edb (he i d v Si hd e1 p1)
/-- [elt for x in iter if c] -/
theorem vd_lcN1 (j : Nat) (hi : PI X (.Name x p) iter wi) (hw : EW X.K wi σ S ds) (hz : ds.length ≤ 40000) (hN : X.N.Nodup) (hc : X.calm = true) (t : Nat → Bool) (f : Nat → PyData) (ok : BlkOk X.N X.env.scope scope [(x, j)])
    (hg : ∀ (s : Shared) (H : Hp) (C : Addr) (cl : List (Str × Addr)) (fp : List Addr), PG (X.blk s H scope (compEnvC scope cl C X.env) fp) (.Name x p) (gName j))
    (ht : ∀ i d v Si, ds[i]? = some d → Ex S Si → DD X.K Si v d → ∀ s H0 C cl fp, VB (X.blk s H0 scope (compEnvC scope cl C X.env) fp) c ((wipe σ [j]).set j (some v)) Si (t i))
    (he : ∀ i d v Si, ds[i]? = some d → t i = true → Ex S Si → DD X.K Si v d → ∀ s H0 C cl fp, VD (X.blk s H0 scope (compEnvC scope cl C X.env) fp) elt ((wipe σ [j]).set j (some v)) Si (f i)) (hf : ∀ x, foldedSetIterable iter X.env x = pure x := by intro _; rfl) :
    VD X (.ListComp elt [⟨.Name x p, iter, [c], 0⟩] scope pos) σ S (.list (((List.range ds.length).filter t).map f)) := by
  have e : ((List.range ds.length).filter t).map f = (List.range ds.length).filterMap (fun i => if t i then some (f i) else none) := by
    rw [← List.filterMap_eq_filter, List.map_filterMap]
    congr 1
    funext i
    by_cases h : t i = true <;> simp [h]
  rw [e]
  refine vd_of (pe_lc (own := [(x, j)]) (g := gName j) (tt := VTb X scope c) (te := VEb X scope elt) hc hN hi ok hg (fun s H C cl fp => pts_one (ptb s H C cl fp)) (fun s H C cl fp => peb s H C cl fp) hf) (ed_lc hw _ hz fun i d v Si H' hd e1 e2 p1 => ⟨_, fun Q q => q, wipe1 σ j v, ?_, fun e he' => ?_⟩)
  · have es : (if t i = true then some (f i) else none).isSome = t i := by cases t i <;> rfl
    rw [es]
    exact etb (ht i d v Si hd e1 p1)
  · cases hti : t i with
    | false => rw [hti] at he'; cases he'
    | true =>
      rw [hti] at he'
      cases he'
      exact edb (he i d v Si hd hti e1 p1)
end
end K22
/-! K22, text 5: the program's text by places -/
namespace K22
open PySem PySem.Spec PyProof.Rows L2 Evl
def topS (i : Nat) : Stmt := PySem.Challenge.pw_webnumbers_k22_whole_cores_and_ranks.main.body.getD i (.Pass ⟨0, 0, 0, 0⟩)
/-- the def at place i of the text stands behind the top by its name -/
structure Def (K : PySem.W.Frag) (mg : Str → Option Value) (i : Nat) (x : Str) (ps : List Str) : Prop where
  ex : ∃ (f : Addr) (fd : FuncData), Fun K x x (topS i) f fd ∧ mg x = some (.ref f) ∧ Binds K fd ps []
/-- what the top has left -/
structure Txt (K : PySem.W.Frag) (mg : Str → Option Value) : Prop where
  make_web : Def K mg 7 "make_web" ["size", "pairs"]
  neighbour_rows : Def K mg 8 "neighbour_rows" ["web"]
  induced : Def K mg 9 "induced" ["web", "nodes"]
  count_maps : Def K mg 12 "count_maps" ["length", "size", "limit"]
  fits : Def K mg 13 "fits" ["earlier", "near", "row", "value"]
  homs : Def K mg 14 "homs" ["x", "a"]
  first_hom : Def K mg 16 "first_hom" ["x", "a"]
  leads : Def K mg 17 "leads" ["x", "a"]
  same_rank : Def K mg 18 "same_rank" ["a", "b"]
  node_sets : Def K mg 21 "node_sets" ["size", "count"]
  core_nodes : Def K mg 22 "core_nodes" ["web"]
  core : Def K mg 23 "core" ["web"]
  fold_row : Def K mg 24 "fold_row" ["web"]
  may_follow : Def K mg 27 "may_follow" ["first", "second", "row", "place"]
  completed : Def K mg 28 "completed" ["first", "second", "row"]
  find_renaming : Def K mg 29 "find_renaming" ["a", "b"]
  law_cell : Def K mg 31 "_law_cell" ["_law_script", "_law_place"]
  law_draws : Def K mg 32 "_law_draws" ["_law_script", "_law_place", "_law_count", "_law_base"]
  law_same : Def K mg 33 "_law_same" ["_law_first", "_law_second"]
  law_is_integer : Def K mg 34 "_law_is_integer" ["_law_value"]
  law_web : Def K mg 35 "_law_web" ["_law_size", "_law_bits", "_law_loops"]
  law_matrix : Def K mg 36 "_law_matrix" ["_law_web_here"]
  law_shuffle : Def K mg 37 "_law_shuffle" ["_law_draws_here"]
  law_renamed : Def K mg 38 "_law_renamed" ["_law_web_here", "_law_row"]
  law_renames : Def K mg 39 "_law_renames" ["_law_a", "_law_b", "_law_row"]
  law_sum : Def K mg 40 "_law_sum" ["_law_a", "_law_b"]
  law_drawn_row : Def K mg 41 "_law_drawn_row" ["_law_script", "_law_place", "_law_size", "_law_skip"]
  law_fits : Def K mg 42 "_law_fits" ["_law_x", "_law_near", "_law_row", "_law_value"]
  law_homs : Def K mg 43 "_law_homs" ["_law_x", "_law_near"]
  law_leads : Def K mg 44 "_law_leads" ["_law_x", "_law_near", "_law_row"]
  law_induced : Def K mg 45 "_law_induced" ["_law_near", "_law_nodes"]
  law_turned : Def K mg 46 "_law_turned" ["_law_web_here", "_law_first", "_law_second"]
  law_image : Def K mg 47 "_law_image" ["_law_web_here", "_law_row", "_law_size"]
  law_drawn : Def K mg 48 "_law_drawn" ["_law_script", "_law_place", "_law_size", "_law_number"]
  law_pair : Def K mg 49 "_law_pair" ["_law_script"]
  law_is_core : Def K mg 50 "_law_is_core" ["_law_web_here", "_law_told", "_law_nodes"]
  law_is_fold : Def K mg 51 "_law_is_fold" ["_law_web_here", "_law_nodes", "_law_row"]
  c_nodes : ∃ t, mg "MAX_NODES" = some (.int 64 t)
  c_maps : ∃ t, mg "MAX_MAPS" = some (.int 4096 t)
  c_folded : ∃ t, mg "MAX_FOLDED" = some (.int 5 t)
  c_renamed : ∃ t, mg "MAX_RENAMED" = some (.int 9 t)
  b_range : mg "range" = none
  b_len : mg "len" = none
  b_enumerate : mg "enumerate" = none
  b_min : mg "min" = none
  b_max : mg "max" = none
  b_tuple : mg "tuple" = none
  b_sorted : mg "sorted" = none
  b_set : mg "set" = none
  b_abs : mg "abs" = none
  b_int : mg "int" = none
  b_isinstance : mg "isinstance" = none
  b_bool : mg "bool" = none
  b_str : mg "str" = none
  b_list : mg "list" = none
section
variable {P : Program} {w : World} {K : PySem.W.Frag} {mg : Str → Option Value} {base : Heap}
/-- THE RULE for a def of the text -/
theorem def_ok {i : Nat} {x : Str} {N ps : List Str} {k : Nat} {Pr : PTr} (D : Def K mg i x ps) (Sc : FnScope N ps (defScope (topS i))) (hl : ∀ ds R, Pr ds R → ds.length = ps.length)
    (body : ∀ (f : Addr) (cdv : Value) (A : Around) (outer : List Env) (s : Shared) (S H : Hp) (vs : List V) (ds : List PyData) (Q : VK) (E : XK), Room k (A.deeper (envOfC x (defScope (topS i)) s.heap.objs.size f cdv)) → Ex S H → DDA K S vs ds → (Pr ds fun d => ∀ v S' H', Nw S H S' H' → DD K S' v d → Q v H') →
      VSs (cxB P w K mg base N x (defScope (topS i)) f cdv A outer s H E) (defBody (topS i)) { nx := fun _ H' => Q .non H', rt := Q } (start N vs) H) : Fn P w K mg base (k + 1) x Pr := by
  obtain ⟨f, fd, F, hm, hb⟩ := D.ex
  exact fn_def F hm hb Sc hl fun cdv A outer s S H vs ds Q E => body f cdv A outer s S H vs ds Q E
end
theorem vd_glob {X : Cx} {σ : L2.St} {S : Hp} {x : Str} {i : Int} {pos : Pos} (hm : ∃ t, X.mg x = some (.int i t)) (hg : Gl X x := by rfl) (hd : (x == ("__debug__" : Str)) = false := by decide) : VD X (.Name x pos) σ S (.int i) := by
  obtain ⟨t, h⟩ := hm
  exact vd_of (pe_glob (v := .int i) hg h ⟨t, rfl⟩ hd) (.of_ev ev_c (.int i))
theorem pi_range1' {X : Cx} {tg a : Expr} {p pos : Pos} (hm : X.mg "range" = none) (hg : Gl X "range" := by rfl) (hs : starEach [a] X.env = [(false, eval a X.env)] := by rfl) : PI X tg (.Call (.Name "range" p) [a] [] pos) (iRng1 (VA X [a])) := pi_range1 hg hm pa_va hs

/-! ### count_maps -/
theorem pow_le {n m : Nat} (hn : n ≤ 5) (hm : m ≤ 5) : m ^ n ≤ 3125 := by
  have h1 : m ^ n ≤ 5 ^ n := Nat.pow_le_pow_left hm n
  have h2 : 5 ^ n ≤ 5 ^ 5 := Nat.pow_le_pow_right (by decide) hn
  have h3 : (5 : Nat) ^ 5 = 3125 := by decide
  omega
def prCount : PTr := fun ds R => ∃ n m : Nat, ds = [dI n, dI m, .int 4096] ∧ n ≤ 5 ∧ m ≤ 5 ∧ R (dI (m ^ n))
theorem scCount : FnScope ["length", "size", "limit", "count", "_"] ["length", "size", "limit"] (defScope (topS 12)) := ⟨rfl, rfl, rfl, by decide +kernel, rfl, by decide +kernel, by decide +kernel⟩
theorem ok_count {P : Program} {w : World} {K : PySem.W.Frag} {mg : Str → Option Value} {base : Heap} (T : Txt K mg) : Fn P w K mg base 1 "count_maps" prCount := by
  refine def_ok T.count_maps scCount (fun ds R h => by obtain ⟨n, m, rfl, _⟩ := h; rfl) fun f cdv A outer s S H vs ds Q E hr hS hp h => ?_
  obtain ⟨n, m, rfl, hn, hm, q⟩ := h
  obtain ⟨v1, v2, v3, rfl, p1, p2, p3⟩ := da3 hp
  refine vs_cons (vs_set 3 vd_int hS (fun v S1 H1 w1 c1 => ?_) scCount.nd)
  refine vs_cons (vs_forN 4 (pi_range1' T.b_range) (ew_range1 (vda_cons (vd_var 0 (Dpm p1 w1.st)) vda_nil) (by omega)) w1.within scCount.nd rfl
    (fun S2 i σ' H' => ∃ u y, At S H S2 H' ∧ Ex S1 S2 ∧ i ≤ n ∧ σ' = [some v1, some v2, some v3, some u, y] ∧ u = .int ((m ^ i : Nat) : Int)) (fun S2 H2 w2 => ?_) (fun S2 i σ' H' h => ?_) (fun S2 i d x σ' H' H'' e hd h y => ?_) (fun S2 σ' H' e h => ?_))
  · exact ⟨v, none, ⟨w1.trans w2⟩, w2.st, Nat.zero_le _, rfl, dp_int c1⟩
  · obtain ⟨u, y, a, _⟩ := h
    exact a.nw.within
  · obtain ⟨u, y0, a, e1, hi, rfl, rfl⟩ := h
    obtain ⟨S3, w3, p4⟩ := y S2 (Ex.refl _) a.nw.within
    have hin : i < n := by
      have := (List.getElem?_eq_some_iff.mp hd).1
      simpa using this
    have hpow : m ^ (i + 1) ≤ 3125 := pow_le (by omega) hm
    have hmi : m ^ i ≤ 3125 := pow_le (by omega) hm
    have ex3 : Ex S S3 := a.nw.st.trans w3.st
    have em : ((m ^ i : Nat) : Int) * (m : Int) = ((m ^ (i + 1) : Nat) : Int) := by rw [Nat.pow_succ, Int.natCast_mul]
    refine vs_cons (vs_set 3 (d := dI (m ^ (i + 1))) ((vd_mul (vd_var 3 (.int _)) (vd_var 1 (Dpm p2 ex3)) (.inl ⟨by omega, by omega⟩)).is (by rw [em]; rfl)) w3.within (fun v5 S5 H5 w5 p5 => ?_) scCount.nd)
    refine vs_last (vs_unless ?_ w5.within fun H6 e6 => ?_)
    · exact vb_is (vb_gt (vd_var 3 p5) (vd_var 2 (Dpm p3 (ex3.trans w5.st)))) (decide_eq_false (by omega))
    · exact ⟨v5, _, a.only (w3.hp.trans (w5.hp.trans e6)), e1, hin, rfl, dp_int p5⟩
  · obtain ⟨u, y0, a, e1, hi, rfl, rfl⟩ := h
    refine vs_last (vs_ret (vd_var 3 (d := dI (m ^ n)) ?_) a.nw.within fun v6 S6 H6 w6 p6 => ?_)
    · rw [List.length_map, List.length_range]
      exact .int _
    · exact q v6 S6 H6 (a.nw.trans w6) p6
end K22
/-! K22, text 6: enumerate over a tuple; enumerate as data; pairs as targets -/
namespace K22
open PySem PySem.Spec PyProof.Rows L2 Evl
abbrev tupIt (t : Addr) : Obj := { cls := .type "tuple_iterator", data := .fields #[.ref t, .int 0 0] }
abbrev enumOb (i : Addr) : Obj := { cls := .type "enumerate", data := .fields #[.none, .bool false, .ref i, rawInt 0, .none, .none] }
section
variable {prog : Program} {w : World} {A : Around} {E : Value → Shared → Prop} {s : Shared}
theorem enumNewTup (t : Addr) (items : Array Value) : Meets (Builtin.«enumerate.__new__» ⟨[.type "enumerate", .ref t], []⟩) (fun _ R s => s.heap.IsTuple t items ∧
    R (.ok (.ret (.ref (s.heap.push (tupIt t)).objs.size))) { s with heap := (s.heap.push (tupIt t)).push (enumOb s.heap.objs.size) }) :=
  .of_wp fun prog w A R s h => by
    obtain ⟨h1, h⟩ := h
    have hsub := sub_enumerate
    obtain ⟨hp, g, d, tk, os⟩ := s
    have go : ∀ {A' : Around} {E : Value → Shared → Prop} {Q : Value → Shared → Prop}, Q (.ref hp.objs.size) ⟨hp.push (tupIt t), g, d, tk, os⟩ → wpAny (model prog w) A' (pyIter (.ref t)) Q E ⟨hp, g, d, tk, os⟩ := fun q => (begins_tuple t items).iter prog w _ _ ⟨hp, g, d, tk, os⟩ _ h1 q
    wp_walk using go
    refine wpAny_stack_any fun st => wpAny_pure ?_
    split
    · rename_i c _ _ _ _ _
      cases (c == Value.type "enumerate") <;> (wp_walk using go; exact ⟨_, rfl, h⟩)
    · (wp_walk using go; exact ⟨_, rfl, h⟩)
theorem callEnumTup {t : Addr} {items : Array Value} {Q : Value → Shared → Prop} (ht : s.heap.IsTuple t items)
    (h : ∀ h', IsEnum h' (s.heap.objs.size + 1) s.heap.objs.size 0 .none → h'.IsTupleIter s.heap.objs.size t 0 → (∀ b o, s.heap.get? b = some o → h'.get? b = some o) → Q (.ref (s.heap.objs.size + 1)) { s with heap := h' }) :
    wpAny (model prog w) A (call (.type "enumerate") [.ref t]) Q E s := by
  refine callType_new F.called_enumerate (by decide) (F.typeCall_enumerate_1 _) (F.newCall_enumerate_1 _) (fun obj => F.args_object_init_2 obj _) F.entry_enumerate_new (enumNewTup t items) ⟨ht, ?_⟩
  have hz : (s.heap.push (tupIt t)).objs.size = s.heap.objs.size + 1 := Heap.size_push ..
  show _ ∧ _
  rw [hz]
  have he : IsEnum ((s.heap.push (tupIt t)).push (enumOb s.heap.objs.size)) (s.heap.objs.size + 1) s.heap.objs.size 0 .none := by
    have q := Heap.get?_push_size (s.heap.push (tupIt t)) (o := enumOb s.heap.objs.size) rfl
    rw [hz] at q
    exact q
  exact ⟨⟨_, he, rfl⟩, h _ he ⟨_, Heap.get?_push_of_some _ (Heap.get?_push_size _ rfl), rfl, rfl⟩ fun b o x => Heap.get?_push_of_some _ (Heap.get?_push_of_some _ x)⟩
end
/-- the tuple at a, its items in new pairs with their places -/
def IteT (K : PySem.W.Frag) (a : Addr) : It :=
  ⟨fun i H => ∃ xs x, SqT K H a xs ∧ xs[i]? = some x, fun i H v H' => ∃ T x, v = .ref T ∧ H T = none ∧ H' = upd H T (.tup [.int (i : Nat), x]) ∧ (∀ xs, SqT K H a xs → xs[i]? = some x), fun i H => ∃ xs, SqT K H a xs ∧ xs.length ≤ i⟩
theorem turnEnumT {P : Program} {w : World} {K : PySem.W.Frag} {elts : List Expr} {kk : Nat} {tpos : Pos} (a e it : Addr) (items : Array Value) (hea : a ≠ e) (hia : a ≠ it) :
    Turn P w K (.Tuple elts kk tpos) (IteT K a) [e, it] e (fun i h => (∃ old, IsEnum h e it ((i : Nat) : Int) old) ∧ h.IsTupleIter it a i ∧ e ≠ it) where
  mem := List.mem_cons_self
  obj := fun i h st b hb => by
    obtain ⟨⟨old, he⟩, ⟨o, ho, hc, hd⟩, _⟩ := st
    rcases (show b = e ∨ b = it by simpa using hb) with z | z
    · rw [z]; exact ⟨_, he, fun v q => nomatch q⟩
    · rw [z]; exact ⟨o, ho, fun v q => by rw [hd] at q; cases q⟩
  keep := fun i h h' st k => by
    obtain ⟨⟨old, he⟩, hi, hne⟩ := st
    exact ⟨⟨old, k e List.mem_cons_self _ he⟩, hi.at fun o q => k it (by simp) o q, hne⟩
  item := by
    intro X hP hw hK hc i pins s σ H E I hf st hg
    subst hP hw hK
    obtain ⟨⟨old, he⟩, hit, hne⟩ := st
    obtain ⟨xs, x, hq, hx⟩ := hg
    obtain ⟨its, rv, hT, hz⟩ := I.tuple hq
    obtain ⟨u, hu, ru⟩ := rv.get hx
    have hel := Heap.lt_size he
    have hil : it < s.heap.objs.size := by obtain ⟨_, q, _⟩ := id hit; exact Heap.lt_size q
    have hlen : i < its.toArray.size := by rw [List.size_toArray]; exact (List.getElem?_eq_some_iff.mp hu).1
    have Dr := PySem.Draws.tuple (prog := X.prog) (w := X.w) (A := X.A.in1) (I.ok.hd hc) it a hia its.toArray
    refine wpAny_pyNext_enum_itemD (fp := [it, a]) Dr he ⟨hit, hT⟩ hlen hne (by simp [hne, Ne.symm hea]) fun x' h' tk hPx ho hst' hTn hsz hk => ?_
    have ex : x' = u := by
      have q : its.toArray[i]? = some u := by simpa using hu
      exact Option.some.inj (hPx.symm.trans q)
    subst ex
    refine ⟨_, rfl, wpAny_letOwnedTupleGo_enum (s := { s with heap := h', toks := tk + 1 }) ho fun h'' he' sb => ?_⟩
    have hT2 : h''.get? s.heap.objs.size = some { cls := .type "tuple", data := .seq #[.int i tk, x'] } := (sb.2 _ (Nat.ne_of_gt hel)).trans hTn
    have new : ObjOk X.prog X.w (upd H s.heap.objs.size (.tup [.int (i : Nat), x])) h'' s.heap.objs.size (.tup [.int (i : Nat), x]) := ⟨by show 2 ≤ sizeLine; decide, [.int i tk, x'], .cons ⟨_, rfl⟩ (.cons ru .nil), ⟨_, hT2, rfl, _, rfl⟩⟩
    have I1 : Inv X pins σ (upd H s.heap.objs.size (.tup [.int (i : Nat), x])) { s with heap := h'', toks := tk + 1 } :=
      I.turnedNew (ch := [e, it]) (fun b ob hb q => (sb.2 b (fun z => hb (by simp [z]))).trans (hk b ob (fun z => hb (by simp [z])) (fun z => hb (by simp [z])) q)) hf (Nat.le_refl _) new
    refine ⟨.ref s.heap.objs.size, _, I1, rfl, ⟨_, x, rfl, I.hok.fresh (Nat.le_refl _), rfl, fun ys hy => by rw [I.tuple_inj hy hq]; exact hx⟩, ⟨⟨x', ?_⟩, hst'.1.at fun o q => (sb.2 it (Ne.symm hne)).trans q, hne⟩, fun b hb => ?_⟩
    · rw [show ((i + 1 : Nat) : Int) = (i : Int) + 1 by omega]
      exact he'
    · have hb' : b < s.heap.objs.size := by
        rcases (show b = e ∨ b = it by simpa using hb) with z | z
        · rw [z]; exact hel
        · rw [z]; exact hil
      rw [upd_ne (Nat.ne_of_lt hb')]
      exact (hf b hb).1
  done := by
    intro X hP hw hK hc i pins s σ H E I hf st hg
    subst hP hw hK
    obtain ⟨⟨old, he⟩, hit, hne⟩ := st
    obtain ⟨xs, hq, hx⟩ := hg
    obtain ⟨its, rv, hT, hz⟩ := I.tuple hq
    obtain ⟨f0, f1, f2, f3, f4, f5⟩ := hf it (by simp)
    have hl := rv.length
    have Dr := PySem.Draws.tuple (prog := X.prog) (w := X.w) (A := X.A.in1) (I.ok.hd hc) it a hia its.toArray
    unfold pyNext
    have hTy : s.TypeIs (.ref e) "enumerate" := ⟨_, he, rfl⟩
    refine wpAny_bind (wpAny_attempt (wpAny_callSpecial?_slot (name := Str.ofString "__next__") hTy F.slot_enumerate_next (wpAny_call_entry F.slot_enumerate_next hTy F.entry_enumerate_next ?_ (F.args_enumerate_next_1 _))))
    show wpAny _ _ (field (.ref e) 2 >>= _) _ _ _
    refine wpAny_bind (wpAny_field he rfl (x := .ref it) rfl ?_)
    refine wpAny_bind (wpAny_nextOf_tuple_end (I.ok.hd hc) hit hT (by simp; omega) fun h' y hx1 hx2 => ?_)
    obtain ⟨o, ho, hcl⟩ := hx2
    refine wpAny_bind (wpAny_isInstance (T := "StopIteration") (b := true) ⟨o, ho, hcl⟩ isSubtype_stop (wpAny_pure ?_))
    exact ⟨rfl, I.turned (t' := s.toks) (fun b o hb q => hx1 b o hb q) f0 f1 f3 f4 f5⟩
  self := fun A i s Q E st h => by
    obtain ⟨⟨_, he⟩, _⟩ := st
    exact wpAny_pyIter_enum he h
def iEnumT (K : PySem.W.Frag) (ta : TA) : TI := fun σ H R => ta σ H fun vs H1 => ∃ a xs, vs = [.ref a] ∧ SqT K H1 a xs ∧ R (IteT K a) H1
section
variable {X : Cx} {e : Expr} {ta : TA} {p pos tpos : Pos} {elts : List Expr} {kk : Nat} {σ : L2.St} {S H : Hp} {ds : List PyData}
theorem pi_enumT (hm : X.mg "enumerate" = none) (hg : Gl X "enumerate" := by rfl) (hs : starEach [e] X.env = [(false, eval e X.env)] := by rfl) :
    PI X (.Tuple elts kk tpos) (.Call (.Name "enumerate" p) [e] [] pos) (iEnumT X.K (VA X [e])) := by
  refine ⟨fun pins s σ H R I h => Call_ (ld_blt I hg hm boot_enumerate (PyProof.Rows.callWith_type1 (thn ((pa_va (X := X) (es := [e])).run pos pins s σ H _ I h) fun us s1 ⟨vs, H1, I1, r1, q1⟩ => ?_) hs rfl))⟩
  obtain ⟨a, xs, rfl, hq, q⟩ := q1
  cases r1 with
  | cons r rr =>
    cases rr
    cases r
    obtain ⟨its, rv, hT, hz⟩ := I1.tuple hq
    have hla : a < s1.heap.objs.size := by obtain ⟨_, q, _⟩ := id hT; exact Heap.lt_size q
    refine callEnumTup (show s1.heap.IsTuple a its.toArray from hT) fun h' he hit hk => wpAny_pyIter_enum he ?_
    refine ⟨s1.heap.objs.size + 1, [s1.heap.objs.size + 1, s1.heap.objs.size], _, _, H1, rfl, I1.kept (t' := s1.toks) hk, turnEnumT a (s1.heap.objs.size + 1) s1.heap.objs.size its.toArray (Nat.ne_of_lt (Nat.lt_succ_of_lt hla)) (Nat.ne_of_lt hla), ⟨⟨.none, he⟩, hit, Nat.succ_ne_self _⟩, fun b hb => ?_, q⟩
    have hle : s1.heap.objs.size ≤ b := by
      rcases (show b = s1.heap.objs.size + 1 ∨ b = s1.heap.objs.size by simpa using hb) with z | z
      · rw [z]; exact Nat.le_succ _
      · rw [z]; exact Nat.le_refl _
    exact I1.fpOk hle (I1.hok.fresh hle)
theorem walk_enumT {K : PySem.W.Frag} {a : Addr} {xs : List V} : L2.Walk (IteT K a) xs.length (fun H => SqT K H a xs) (YPair (fun i => some (.int (i : Nat))) (fun i => xs[i]?)) := by
  refine ⟨fun i _ hi q => ⟨xs, xs[i], q, by simp [hi]⟩, fun _ q => ⟨xs, q, Nat.le_refl _⟩, fun i H v H' _ q y => ?_⟩
  obtain ⟨T, x, h1, h2, h3, h4⟩ := y
  exact ⟨T, .int (i : Nat), x, h1, h2, h3, rfl, h4 xs q⟩
/-- pairs of place and item -/
def enumD (ds : List PyData) : List PyData := (List.range ds.length).map fun i => .tuple [dI i, ds.getD i .none]
theorem enumD_len (ds : List PyData) : (enumD ds).length = ds.length := by unfold enumD; rw [List.length_map, List.length_range]
theorem enumD_get {ds : List PyData} {i : Nat} {d : PyData} (h : (enumD ds)[i]? = some d) : ∃ e, ds[i]? = some e ∧ d = .tuple [dI i, e] := by
  have hi : i < ds.length := by rw [← enumD_len ds]; exact (List.getElem?_eq_some_iff.mp h).1
  unfold enumD at h
  rw [List.getElem?_map, List.getElem?_range hi] at h
  refine ⟨ds[i], List.getElem?_eq_getElem hi, ?_⟩
  have q : PyData.tuple [dI i, ds.getD i .none] = d := Option.some.inj h
  rw [← q, List.getD_eq_getElem?_getD, List.getElem?_eq_getElem hi]
  rfl
theorem pair_step {K : PySem.W.Frag} {Si H' H'' : Hp} {i : Nat} {e : PyData} {T : Addr} {x : V} (e2 : Ex Si H') (hT : H' T = none) (hp : DD K Si x e) (h : H'' = upd H' T (.tup [.int (i : Nat), x])) : ∃ Sj, Nw Si H' Sj H'' ∧ DD K Sj (.ref T) (.tuple [dI i, e]) := by
  subst h
  exact ⟨_, Nw.put e2 hT, .tup upd_same (.cons (.int _) (.cons (Dpm hp (Ex.new (fresh_back e2 hT))) .nil))⟩
theorem ew_enumL {K : PySem.W.Frag} (h : EDA K ta σ S [.list ds]) : EW K (iEnum K ta) σ S (enumD ds) := fun H e R q => h H e _ fun vs S1 H1 w1 p1 => by
  obtain ⟨v, rfl, hv⟩ := da1 p1
  obtain ⟨a, xs, rfl, h1, h2⟩ := dp_list hv
  refine ⟨a, xs, rfl, ex_l w1.within h1, ?_⟩
  have w : L2.Walk (Ite K a) (enumD ds).length (fun H => SqL K H a xs) (YPair (fun i => some (.int (i : Nat))) (fun i => xs[i]?)) := by rw [enumD_len, ← da_len h2]; exact walk_enum
  refine q _ _ _ S1 H1 w1 w (fun H' e' => ex_l e' h1) fun i d H' x H'' Si hd e1 e2 y => ?_
  obtain ⟨d', hd', rfl⟩ := enumD_get hd
  obtain ⟨T, x1, x2, rfl, hT, hH, f1, f2⟩ := y
  cases f1
  have f2 : xs[i]? = some x2 := f2
  obtain ⟨v, hv, pv⟩ := da_get h2 hd'
  rw [hv] at f2
  cases f2
  exact pair_step e2 hT (Dpm pv e1) hH
theorem ew_enumT {K : PySem.W.Frag} (h : EDA K ta σ S [.tuple ds]) : EW K (iEnumT K ta) σ S (enumD ds) := fun H e R q => h H e _ fun vs S1 H1 w1 p1 => by
  obtain ⟨v, rfl, hv⟩ := da1 p1
  obtain ⟨a, xs, rfl, h1, h2⟩ := dp_tuple hv
  refine ⟨a, xs, rfl, ex_t w1.within h1, ?_⟩
  have w : L2.Walk (IteT K a) (enumD ds).length (fun H => SqT K H a xs) (YPair (fun i => some (.int (i : Nat))) (fun i => xs[i]?)) := by rw [enumD_len, ← da_len h2]; exact walk_enumT
  refine q _ _ _ S1 H1 w1 w (fun H' e' => ex_t e' h1) fun i d H' x H'' Si hd e1 e2 y => ?_
  obtain ⟨d', hd', rfl⟩ := enumD_get hd
  obtain ⟨T, x1, x2, rfl, hT, hH, f1, f2⟩ := y
  cases f1
  have f2 : xs[i]? = some x2 := f2
  obtain ⟨v, hv, pv⟩ := da_get h2 hd'
  rw [hv] at f2
  cases f2
  exact pair_step e2 hT (Dpm pv e1) hH
theorem pi_enumL (hm : X.mg "enumerate" = none) (hg : Gl X "enumerate" := by rfl) (hs : starEach [e] X.env = [(false, eval e X.env)] := by rfl) : PI X (.Tuple elts kk tpos) (.Call (.Name "enumerate" p) [e] [] pos) (iEnum X.K (VA X [e])) := pi_enum hg hm pa_va hs
end
/-! ### targets: a pair of names, a name and a pair -/
section
variable {X : Cx} {x y z : Str} {p1 p2 p3 p4 pos : Pos} {k k2 : Nat}
def gPair (K : PySem.W.Frag) (i j : Nat) : TG := gTup K 2 (gCons (gName i) (gCons (gName j) gNil))
theorem pg_pair {i j : Nat} (hN : X.N.Nodup) (hc : X.calm = true) (hi : X.N[i]? = some x := by rfl) (hj : X.N[j]? = some y := by rfl) (hx : Loc X.env.scope x := by first | exact Or.inl rfl | exact Or.inr rfl) (hy : Loc X.env.scope y := by first | exact Or.inl rfl | exact Or.inr rfl)
    (fx : X.fn x = true ∨ X.env.scope.names.lookup x = some .local := by first | exact Or.inl rfl | exact Or.inr rfl) (fy : X.fn y = true ∨ X.env.scope.names.lookup y = some .local := by first | exact Or.inl rfl | exact Or.inr rfl) (hn : (assignEach [.Name x p1, .Name y p2] X.env).length = 2 := by rfl)
    (h1 : (assignEach [.Name x p1, .Name y p2] X.env).map (·.2) = assign (.Name x p1) X.env :: (assignEach [.Name y p2] X.env).map (·.2) := by rfl) (h2 : (assignEach [.Name y p2] X.env).map (·.2) = assign (.Name y p2) X.env :: (assignEach [] X.env).map (·.2) := by rfl)
    (hst : (assignEach [.Name x p1, .Name y p2] X.env).findIdx? (·.1) = none := by rfl) : PG X (.Tuple [.Name x p1, .Name y p2] k pos) (gPair X.K i j) :=
  pg_tup hc (pgs_cons (pg_name hN hi hx fx) (pgs_cons (pg_name hN hj hy fy) pgs_nil h2) h1) hn hst
theorem g_pair {K : PySem.W.Frag} {i j : Nat} {S H : Hp} {v : V} {σ : L2.St} {d e : PyData} {Q : L2.St → Hp → Prop} (hS : Ex S H) (hv : DD K S v (.tuple [d, e])) (q : ∀ a b, DD K S a d → DD K S b e → Q ((σ.set i (some a)).set j (some b)) H) : gPair K i j v σ H Q := by
  obtain ⟨a, xs, rfl, h1, h2⟩ := dp_tuple hv
  obtain ⟨u, w, rfl, h3, h4⟩ := da2 h2
  exact ⟨a, _, rfl, ex_t hS h1, rfl, u, [w], rfl, w, [], rfl, rfl, q u w h3 h4⟩
/-- n, (a, b) -/
def gNest (K : PySem.W.Frag) (i j l : Nat) : TG := gTup K 2 (gCons (gName i) (gCons (gPair K j l) gNil))
theorem pg_nest {i j l : Nat} (hN : X.N.Nodup) (hc : X.calm = true) (hi : X.N[i]? = some x := by rfl) (hx : Loc X.env.scope x := by first | exact Or.inl rfl | exact Or.inr rfl) (fx : X.fn x = true ∨ X.env.scope.names.lookup x = some .local := by first | exact Or.inl rfl | exact Or.inr rfl)
    (h2' : PG X (.Tuple [.Name y p2, .Name z p3] k2 p4) (gPair X.K j l)) (hn : (assignEach [.Name x p1, .Tuple [.Name y p2, .Name z p3] k2 p4] X.env).length = 2 := by rfl)
    (h1 : (assignEach [.Name x p1, .Tuple [.Name y p2, .Name z p3] k2 p4] X.env).map (·.2) = assign (.Name x p1) X.env :: (assignEach [.Tuple [.Name y p2, .Name z p3] k2 p4] X.env).map (·.2) := by rfl)
    (h2 : (assignEach [.Tuple [.Name y p2, .Name z p3] k2 p4] X.env).map (·.2) = assign (.Tuple [.Name y p2, .Name z p3] k2 p4) X.env :: (assignEach [] X.env).map (·.2) := by rfl)
    (hst : (assignEach [.Name x p1, .Tuple [.Name y p2, .Name z p3] k2 p4] X.env).findIdx? (·.1) = none := by rfl) : PG X (.Tuple [.Name x p1, .Tuple [.Name y p2, .Name z p3] k2 p4] k pos) (gNest X.K i j l) :=
  pg_tup hc (pgs_cons (pg_name hN hi hx fx) (pgs_cons h2' pgs_nil h2) h1) hn hst
theorem g_nest {K : PySem.W.Frag} {i j l : Nat} {S H : Hp} {v : V} {σ : L2.St} {c d e : PyData} {Q : L2.St → Hp → Prop} (hS : Ex S H) (hv : DD K S v (.tuple [c, .tuple [d, e]])) (q : ∀ n a b, DD K S n c → DD K S a d → DD K S b e → Q (((σ.set i (some n)).set j (some a)).set l (some b)) H) : gNest K i j l v σ H Q := by
  obtain ⟨a, xs, rfl, h1, h2⟩ := dp_tuple hv
  obtain ⟨u, w, rfl, h3, h4⟩ := da2 h2
  exact ⟨a, _, rfl, ex_t hS h1, rfl, u, [w], rfl, w, [], rfl, g_pair hS h4 fun x y hx hy => ⟨rfl, q u x y h3 hx hy⟩⟩
end
end K22
/-! K22, text 7: sorted lists of pairs -/
namespace K22
open PySem PySem.Spec PyProof.Rows L2 Evl
def keyE (e : Nat × Nat) : List Int := [(e.1 : Int), (e.2 : Int)]
def prE (l : List Int) : Nat × Nat := ((l.getD 0 0).toNat, (l.getD 1 0).toNat)
theorem prE_key (e : Nat × Nat) : prE (keyE e) = e := rfl
section
variable {K : PySem.W.Frag} {S : Hp}
theorem dp_E {e : Nat × Nat} {v : V} (h : DD K S v (dE e)) : ∃ a, v = .ref a ∧ S a = some (.tup ((keyE e).map V.int)) := by
  obtain ⟨a, xs, rfl, h1, h2⟩ := dp_tupleX h
  obtain ⟨u, w, rfl, h3, h4⟩ := da2 h2
  rw [dp_int h3, dp_int h4] at h1
  exact ⟨a, rfl, h1⟩
theorem dp_ofE {e : Nat × Nat} {a : Addr} (h : S a = some (.tup ((keyE e).map V.int))) : DD K S (.ref a) (dE e) := .tup h (.cons (.int _) (.cons (.int _) .nil))
theorem keys_of : ∀ {es : List (Nat × Nat)} {xs : List V}, DDA K S xs (es.map dE) → ∃ ks : List (Addr × List Int), xs = ks.map (fun p => V.ref p.1) ∧ (∀ p ∈ ks, S p.1 = some (.tup (p.2.map V.int))) ∧ ks.map (·.2) = es.map keyE
  | [], _, h => ⟨[], da_nil h, fun _ h => (by cases h), rfl⟩
  | e :: es, _, h => by
    obtain ⟨v, r, rfl, h1, h2⟩ := da_cons h
    obtain ⟨a, rfl, h3⟩ := dp_E h1
    obtain ⟨ks, rfl, h4, h5⟩ := keys_of h2
    refine ⟨(a, keyE e) :: ks, rfl, fun p hp => ?_, by rw [List.map_cons, List.map_cons, h5]⟩
    rcases List.mem_cons.mp hp with q | q
    · rw [q]; exact h3
    · exact h4 p q
theorem da_ofKeys : ∀ {ks : List (Addr × List Int)}, (∀ p ∈ ks, S p.1 = some (.tup (p.2.map V.int)) ∧ ∃ e, p.2 = keyE e) → DDA K S (ks.map fun p => V.ref p.1) ((ks.map fun p => prE p.2).map dE)
  | [], _ => .nil
  | p :: ks, h => by
    obtain ⟨h1, e, h2⟩ := h p List.mem_cons_self
    refine .cons ?_ (da_ofKeys fun q hq => h q (List.mem_cons_of_mem _ hq))
    show DD K S (.ref p.1) (dE (prE p.2))
    rw [h2, prE_key]
    rw [h2] at h1
    exact dp_ofE h1
end
theorem perm_data {K : PySem.W.Frag} {S : Hp} {us ws : List V} (pm : ws.Perm us) : ∀ gs : List (Nat × Nat), DDA K S ws (gs.map dE) → ∃ fs : List (Nat × Nat), DDA K S us (fs.map dE) ∧ fs.Perm gs := by
  induction pm with
  | nil => intro gs h; exact ⟨gs, h, List.Perm.refl _⟩
  | cons x _ ih =>
    intro gs h
    cases gs with
    | nil => cases h
    | cons g gs =>
      obtain ⟨v, r, e1, h1, h2⟩ := da_cons h
      cases e1
      obtain ⟨fs, h3, h4⟩ := ih gs h2
      exact ⟨g :: fs, .cons h1 h3, h4.cons g⟩
  | swap x y l =>
    intro gs h
    cases gs with
    | nil => cases h
    | cons g gs =>
      obtain ⟨v, r, e1, h1, h2⟩ := da_cons h
      cases e1
      cases gs with
      | nil => cases h2
      | cons g2 gs =>
        obtain ⟨v, r, e1, h3, h4⟩ := da_cons h2
        cases e1
        exact ⟨g2 :: g :: gs, .cons h3 (.cons h1 h4), List.Perm.swap g g2 gs⟩
  | trans _ _ ih1 ih2 =>
    intro gs h
    obtain ⟨fs, h1, h2⟩ := ih1 gs h
    obtain ⟨fs2, h3, h4⟩ := ih2 fs h1
    exact ⟨fs2, h3, h4.trans h2⟩
def codeE (e : Nat × Nat) : Nat := e.1 * 64 + e.2
theorem code_key (e : Nat × Nat) : TS.code 64 (keyE e) = (codeE e : Int) := by
  show TS.code 64 [(e.1 : Int), (e.2 : Int)] = _
  rw [code_pair]
  unfold codeE
  omega
theorem bd_key {e : Nat × Nat} (h : e.1 < 64 ∧ e.2 < 64) : TS.Bd 64 (keyE e) := by
  intro x hx
  rcases List.mem_cons.mp hx with q | q
  · rw [q]; omega
  · rw [List.mem_singleton.mp q]; omega
def Small (es : List (Nat × Nat)) : Prop := es.length < 64 ∧ ∀ e ∈ es, e.1 < 64 ∧ e.2 < 64
section
variable {X : Cx} {e : Expr} {p p2 pos pos2 : Pos} {σ : L2.St} {S : Hp} {es es0 : List (Nat × Nat)}
/-- sorted(set(e)) -/
theorem vd_sortedSet (hm : X.mg "sorted" = none) (hm2 : X.mg "set" = none) (hc : X.calm = true) (hu : X.A.units + 64 < cLine) (ha : VD X e σ S (.list (es.map dE))) (hz : Small es) (h0 : es0.Pairwise Lt2) (hmem : ∀ x, x ∈ es0 ↔ x ∈ es)
    (hg : Gl X "sorted" := by rfl) (hg2 : Gl X "set" := by rfl) (hs1 : starEach [.Call (.Name "set" p2) [e] [] pos2] X.env = (false, eval (.Call (.Name "set" p2) [e] [] pos2) X.env) :: starEach [] X.env := by rfl)
    (hs2 : starEach [e] X.env = (false, eval e X.env) :: starEach [] X.env := by rfl) (hpl : (backTo pos (starEach [] X.env)).any (·.1) = false := by rfl) (hpl2 : (backTo pos2 (starEach [] X.env)).any (·.1) = false := by rfl) :
    VD X (.Call (.Name "sorted" p) [.Call (.Name "set" p2) [e] [] pos2] [] pos) σ S (.list (es0.map dE)) := by
  have pset : PE X (.Call (.Name "set" p2) [e] [] pos2) (tCB (rSetOfT X.K X.prog X.w) (tCons (VE X e) tNil)) := pe_callTy (cr_setOfT hc hu) hg2 hm2 (by decide +kernel) (pa_cons pe_ve pa_nil hs2) (by decide) (by decide) hs2 hpl2
  refine vd_of (pe_callB (cr_sortedT hc) hg hm PyProof.Rows.boot_sorted (pa_cons pset pa_nil hs1) (by decide) (by decide) hs1 hpl) fun H hS Q q => ?_
  refine ha H hS _ fun v S1 H1 w1 p1 => ?_
  obtain ⟨l, xs, rfl, h1, h2⟩ := dp_list p1
  obtain ⟨ks, rfl, h3, h4⟩ := keys_of h2
  have hlen : ks.length = es.length := by
    have := congrArg List.length h4
    simpa using this
  refine ⟨l, ks, rfl, ex_l w1.within h1, fun p hp => st_of (w1.within _ _ (h3 p hp)), by rw [hlen]; exact hz.1, fun a L hL sub cov => ?_⟩
  have ofk : ∀ p ∈ L, ∃ e ∈ es, p.2 = keyE e := fun p hp => by
    have : p.2 ∈ es.map keyE := by rw [← h4]; exact List.mem_map.mpr ⟨p, sub p hp, rfl⟩
    obtain ⟨e, he, q⟩ := List.mem_map.mp this
    exact ⟨e, he, q.symm⟩
  have e2 : Ex H1 (upd H1 a (SetTO X.prog X.w a L)) := Ex.new hL
  refine ⟨a, L, 2, 64, rfl, upd_same, fun p hp => st_of ((w1.within.trans e2) _ _ (h3 p (sub p hp))), by decide, fun p hp => ?_, fun L' b pm nd h64 pw hb => ?_⟩
  · obtain ⟨e, he, q⟩ := ofk p hp
    rw [q]
    exact ⟨rfl, bd_key (hz.2 e he)⟩
  · have inL : ∀ p ∈ L', p ∈ L := fun p hp => pm.mem_iff.mp hp
    have ee : L'.map (fun p => prE p.2) = es0 := by
      refine eq_of_lt2 ?_ h0 fun x => ?_
      · have pw2 := List.Pairwise.and pw (List.pairwise_map.mp nd)
        rw [List.pairwise_map]
        refine List.Pairwise.imp_of_mem (fun {p r} hp hr hpr => ?_) pw2
        obtain ⟨e, he, q1⟩ := ofk p (inL p hp)
        obtain ⟨f, hf, q2⟩ := ofk r (inL r hr)
        rw [q1, q2] at hpr ⊢
        rw [prE_key, prE_key]
        obtain ⟨c1, c2⟩ := hpr
        rw [code_key, code_key] at c1
        have ne : e ≠ f := fun z => c2 (by rw [z])
        have b1 := hz.2 e he
        have b2 := hz.2 f hf
        unfold codeE at c1
        unfold Lt2
        have : ¬ (e.1 = f.1 ∧ e.2 = f.2) := fun z => ne (Prod.ext z.1 z.2)
        omega
      · rw [hmem, List.mem_map]
        constructor
        · rintro ⟨p, hp, rfl⟩
          obtain ⟨e, he, q⟩ := ofk p (inL p hp)
          rw [q, prE_key]; exact he
        · intro hx
          have : keyE x ∈ ks.map (·.2) := by rw [h4]; exact List.mem_map.mpr ⟨x, hx, rfl⟩
          obtain ⟨p, hp, q⟩ := List.mem_map.mp this
          have := cov p hp
          obtain ⟨r, hr, q2⟩ := List.mem_map.mp this
          exact ⟨r, pm.mem_iff.mpr hr, by rw [q2, q, prE_key]⟩
    have hn1 : H1 b = none := fresh_back e2 hb
    have nba : b ≠ a := fun z => by rw [z, upd_same] at hb; cases hb
    have w2 : Nw S1 H1 (upd S1 b (.lst (L'.map fun q => V.ref q.1))) (upd (upd H1 a (SetTO X.prog X.w a L)) b (.lst (L'.map fun q => V.ref q.1))) := (Nw.only w1.within e2).trans (Nw.put (w1.within.trans e2) hb)
    refine q _ _ _ (w1.trans w2) (.lst upd_same ?_)
    rw [← ee]
    exact da_ofKeys fun p hp => ⟨(Ex.new (fresh_back w1.within hn1)) _ _ (h3 p (sub p (inL p hp))), by
      obtain ⟨e, _, q⟩ := ofk p (inL p hp)
      exact ⟨e, q⟩⟩
/-- sorted(e), e a list of pairs -/
def sortE (es : List (Nat × Nat)) : List (Nat × Nat) := es.mergeSort fun a b => decide (codeE a ≤ codeE b)
theorem sortE_perm (es : List (Nat × Nat)) : (sortE es).Perm es := List.mergeSort_perm _ _
theorem sortE_le (es : List (Nat × Nat)) : (sortE es).Pairwise fun a b => codeE a ≤ codeE b := by
  have := List.pairwise_mergeSort (le := fun a b : Nat × Nat => decide (codeE a ≤ codeE b)) (fun a b c h1 h2 => by
    have h1 := of_decide_eq_true h1
    have h2 := of_decide_eq_true h2
    exact decide_eq_true (Nat.le_trans h1 h2)) (fun a b => by
    rcases Nat.le_total (codeE a) (codeE b) with c | c
    · simp [c]
    · simp [c]) es
  exact this.imp fun {a b} h => of_decide_eq_true h
theorem sortE_unique {es es' : List (Nat × Nat)} (hz : ∀ e ∈ es, e.1 < 64 ∧ e.2 < 64) (p : es'.Perm es) (h : es'.Pairwise fun a b => codeE a ≤ codeE b) : es' = sortE es := by
  refine eq_of_perm (R := fun a b => codeE a ≤ codeE b ∧ a.2 < 64 ∧ b.2 < 64) (fun a b h1 h2 => ?_) (p.trans (sortE_perm es).symm) (List.Pairwise.imp_of_mem (fun {a b} ha hb hab => ⟨hab, (hz a (p.mem_iff.mp ha)).2, (hz b (p.mem_iff.mp hb)).2⟩) h)
    (List.Pairwise.imp_of_mem (fun {a b} ha hb hab => ⟨hab, (hz a ((sortE_perm es).mem_iff.mp ha)).2, (hz b ((sortE_perm es).mem_iff.mp hb)).2⟩) (sortE_le es))
  obtain ⟨c1, b1, b2⟩ := h1
  obtain ⟨c2, _, _⟩ := h2
  unfold codeE at c1 c2
  exact Prod.ext (by omega) (by omega)
theorem sortE_lt2 {es : List (Nat × Nat)} (hz : ∀ e ∈ es, e.1 < 64 ∧ e.2 < 64) (h : es.Pairwise Lt2) : sortE es = es := by
  refine (sortE_unique hz (List.Perm.refl _) (List.Pairwise.imp_of_mem (fun {a b} ha hb hab => ?_) h)).symm
  have b1 := hz a ha
  have b2 := hz b hb
  unfold Lt2 at hab
  unfold codeE
  omega
theorem sortE_of_perm {es es' : List (Nat × Nat)} (hz : ∀ e ∈ es, e.1 < 64 ∧ e.2 < 64) (p : es.Perm es') (h : es'.Pairwise Lt2) : sortE es = es' := by
  have hz' : ∀ e ∈ es', e.1 < 64 ∧ e.2 < 64 := fun e he => hz e (p.mem_iff.mpr he)
  rw [← sortE_lt2 hz' h]
  refine (sortE_unique hz ((sortE_perm es').trans p.symm) (sortE_le es')).symm
theorem vd_sortedE (hm : X.mg "sorted" = none) (ha : VD X e σ S (.list (es.map dE))) (hz : Small es) (hg : Gl X "sorted" := by rfl)
    (he : starEach [e] X.env = (false, eval e X.env) :: starEach [] X.env := by rfl) (hpl : (backTo pos (starEach [] X.env)).any (·.1) = false := by rfl) : VD X (.Call (.Name "sorted" p) [e] [] pos) σ S (.list ((sortE es).map dE)) :=
  vd_callB (cr_sortT (d := 2) (B := 64) (by decide)) hm (vda_cons ha vda_nil he) (fun vs S1 H1 _ hS hp Q q => by
    obtain ⟨v, rfl, hv⟩ := da1 hp
    obtain ⟨l, xs, rfl, h1, h2⟩ := dp_list hv
    have key : ∀ x ∈ xs, ∃ f ∈ es, DD X.K S1 x (dE f) := fun x hx => by
      obtain ⟨i, hi, rfl⟩ := List.getElem_of_mem hx
      obtain ⟨d, hd, pd⟩ := da_get' h2 (List.getElem?_eq_getElem hi)
      rw [List.getElem?_map] at hd
      cases q : es[i]? with
      | none => rw [q] at hd; cases hd
      | some f =>
        rw [q] at hd
        cases hd
        exact ⟨f, List.mem_of_getElem? q, pd⟩
    refine ⟨l, xs, rfl, ex_l hS h1, by rw [da_len h2, List.length_map]; exact hz.1, fun x hx => ?_, fun ys b pm pw hb => ?_⟩
    · obtain ⟨f, hf, pf⟩ := key x hx
      obtain ⟨a, rfl, ha⟩ := dp_E pf
      exact ⟨keyE f, ⟨a, rfl, st_of (hS _ _ ha)⟩, rfl, bd_key (hz.2 f hf)⟩
    · -- the arranged list's data
      have tab : ∃ fs : List (Nat × Nat), DDA X.K S1 ys (fs.map dE) ∧ fs.Perm es := by
        exact perm_data pm.symm es h2
      obtain ⟨fs, t1, t2⟩ := tab
      have ef : fs = sortE es := by
        refine sortE_unique hz.2 t2 ?_
        rw [List.pairwise_iff_getElem]
        intro i j hi hj hij
        have li : i < ys.length := by rw [da_len t1, List.length_map]; exact hi
        have lj : j < ys.length := by rw [da_len t1, List.length_map]; exact hj
        have at_ : ∀ k (hk : k < fs.length) (lk : k < ys.length), TupI X.K H1 ys[k] (keyE fs[k]) := fun k hk lk => by
          obtain ⟨d, hd, pd⟩ := da_get' t1 (List.getElem?_eq_getElem lk)
          rw [List.getElem?_map, List.getElem?_eq_getElem hk] at hd
          cases hd
          obtain ⟨a, ea, ha⟩ := dp_E pd
          exact ⟨a, ea, st_of (hS _ _ ha)⟩
        have c := List.pairwise_iff_getElem.mp pw i j li lj hij _ _ (at_ i hi li) (at_ j hj lj)
        rw [code_key, code_key] at c
        omega
      rw [ef] at t1
      exact q _ _ _ (Nw.put hS hb) (.lst upd_same (Dam t1 (Ex.new (fresh_back hS hb))))) PyProof.Rows.boot_sorted hg (by decide) (by decide) he hpl
end
end K22
/-! K22, text 8: lists that grow; make_web, neighbour_rows -/
namespace K22
open PySem PySem.Spec PyProof.Rows L2 Evl
/-- the list at l of ours holds ds so far -/
structure Gw (K : PySem.W.Frag) (S0 H0 : Hp) (l : Addr) (S H : Hp) (ds : List PyData) : Prop where
  now : At S0 H0 S H
  out : S l = none
  h0 : H0 l = none
  ex : ∃ xs, H l = some (.lst xs) ∧ DDA K S xs ds
section
variable {K : PySem.W.Frag} {S0 H0 S H S' H' : Hp} {l : Addr} {ds : List PyData} {d : PyData} {v : V}
theorem Gw.start (a : At S0 H0 S H) (hl : H l = none) : Gw K S0 H0 l S (upd H l (.lst [])) [] :=
  ⟨a.mut (fresh_back a.nw.hp hl) (fresh_back a.nw.within hl), fresh_back a.nw.within hl, fresh_back a.nw.hp hl, [], upd_same, .nil⟩
theorem Gw.step (g : Gw K S0 H0 l S H ds) (w : Nw S H S' H') : Gw K S0 H0 l S' H' ds := by
  obtain ⟨xs, h1, h2⟩ := g.ex
  exact ⟨g.now.step w, w.keepOut g.out h1, g.h0, xs, w.hp l _ h1, Dam h2 w.st⟩
theorem Gw.only (g : Gw K S0 H0 l S H ds) (e : Ex H H') : Gw K S0 H0 l S H' ds := g.step (Nw.only g.now.nw.within e)
theorem Gw.push {xs : List V} (g : Gw K S0 H0 l S H ds) (hl : H l = some (.lst xs)) (w : Nw S H S' H') (p : DD K S' v d) : Gw K S0 H0 l S' (upd H' l (.lst (xs ++ [v]))) (ds ++ [d]) := by
  obtain ⟨ys, h1, h2⟩ := g.ex
  rw [hl] at h1
  cases h1
  exact ⟨(g.now.step w).mut g.h0 (w.keepOut g.out hl), w.keepOut g.out hl, g.h0, _, upd_same, da_snoc (Dam h2 w.st) p⟩
theorem Gw.done (g : Gw K S0 H0 l S H ds) : ∃ S', At S0 H0 S' H ∧ Ex S S' ∧ DD K S' (.ref l) (.list ds) := by
  obtain ⟨xs, h1, h2⟩ := g.ex
  exact ⟨_, g.now.freeze g.h0 g.out h1, Ex.new g.out, .lst upd_same (Dam h2 (Ex.new g.out))⟩
theorem Gw.within (g : Gw K S0 H0 l S H ds) : Ex S H := g.now.nw.within
end
section
variable {X : Cx} {e o : Expr} {p pos apos : Pos} {σ : L2.St} {S0 H0 S H : Hp} {l : Addr} {ds : List PyData} {d : PyData} {x : Str} {D : Ends}
theorem vs_newL (i : Nat) (k : ∀ l, H l = none → D.nx (σ.set i (some (.ref l))) (upd H l (.lst []))) (hN : X.N.Nodup) (hi : X.N[i]? = some x := by rfl) (hx : Loc X.env.scope x := by first | exact Or.inl rfl | exact Or.inr rfl)
    (hs : swapsWith (.List [] p) (some (.Name x apos)) pos.line X.env = pure false := by rfl) (hf : X.fn x = true ∨ X.env.scope.names.lookup x = some .local := by first | exact Or.inl rfl | exact Or.inr rfl) : VS X (.Assign [.Name x apos] (.List [] p) pos) D σ H :=
  vs_setE i (ve_of (pe_lst pa_nil) ⟨Nat.zero_le _, k⟩) hN hi hx hs hf
theorem vs_appG (g : Gw X.K S0 H0 l S H ds) (ho : Ev (VE X o) σ H (.ref l)) (he : VD X e σ S d) (hz : ds.length < 100000) (k : ∀ S' H', Gw X.K S0 H0 l S' H' (ds ++ [d]) → Ex S S' → D.nx σ H')
    (hs : swapsWith (.Call (.Attribute o "append" apos) [e] [] p) none pos.line X.env = pure false := by rfl) (hq : PE X (.Call (.Attribute o "append" apos) [e] [] p) (tBM X.K "list" rAppend (VE X o) (tCons (VE X e) tNil)) := by exact pe_bm PySem.F.plainAttrs_list PySem.F.slot_list_append PySem.F.type_list_append mt_append pe_ve (pa_cons pe_ve pa_nil)) :
    VS X (.Expr (.Call (.Attribute o "append" apos) [e] [] p) pos) D σ H := by
  obtain ⟨xs, h1, h2⟩ := g.ex
  exact vs_app ho h1 he g.within (by rw [da_len h2]; exact hz) (fun v S' H' w q => k S' _ (g.push h1 w q) w.st) hs hq
end

/-! ### make_web -/
def normE (ps : List (Nat × Nat)) : List (Nat × Nat) := ps.map fun e => mkE e.1 e.2
def prMake : PTr := fun ds R => ∃ (n : Nat) (ps es : List (Nat × Nat)), ds = [dI n, .list (ps.map dE)] ∧ n ≤ 5 ∧ ps.length < 64 ∧ (∀ e ∈ ps, e.1 < n ∧ e.2 < n) ∧ es.Pairwise Lt2 ∧ (∀ x, x ∈ es ↔ x ∈ normE ps) ∧ R (dW (n, es))
theorem scMake : FnScope ["size", "pairs", "edges", "place", "first", "second"] ["size", "pairs"] (defScope (topS 7)) := ⟨rfl, rfl, rfl, by decide +kernel, rfl, by decide +kernel, by decide +kernel⟩
theorem take_snoc {α : Type} {l : List α} {i : Nat} {x : α} (h : l[i]? = some x) : l.take (i + 1) = l.take i ++ [x] := by rw [List.take_add_one, h]; rfl
theorem get_map {α : Type} {f : α → PyData} {l : List α} {i : Nat} {d : PyData} (h : (l.map f)[i]? = some d) : ∃ x, l[i]? = some x ∧ d = f x := by
  rw [List.getElem?_map] at h
  cases q : l[i]? with
  | none => rw [q] at h; cases h
  | some x => rw [q] at h; exact ⟨x, rfl, (Option.some.inj h).symm⟩
section
variable {P : Program} {w : World} {K : PySem.W.Frag} {mg : Str → Option Value} {base : Heap}
theorem ok_make (T : Txt K mg) : Fn P w K mg base 1 "make_web" prMake := by
  refine def_ok T.make_web scMake (fun ds R h => by obtain ⟨n, ps, es, rfl, _⟩ := h; rfl) fun f cdv A outer s S H vs ds Q E hr hS hp h => ?_
  obtain ⟨n, ps, es, rfl, hn, h64, hlt, hes, hmem, q⟩ := h
  obtain ⟨v1, v2, rfl, p1, p2⟩ := da2 hp
  refine vs_cons (vs_unless (vb_is (vb_gt (vd_var 0 p1) (vd_glob T.c_nodes)) (decide_eq_false (by omega))) hS fun H1 e1 => ?_)
  have hS1 : Ex S H1 := hS.trans e1
  refine vs_cons (vs_unless (vb_is (vb_lt (vd_var 0 p1) vd_int) (decide_eq_false (by omega))) hS1 fun H2 e2 => ?_)
  have a2 : At S H S H2 := (At.refl hS).only (e1.trans e2)
  refine vs_cons (vs_newL 2 (fun l hl => ?_) scMake.nd)
  have g0 : Gw K S H l S (upd H2 l (.lst [])) [] := Gw.start a2 hl
  refine vs_cons (vs_for (pi_enumL T.b_enumerate) (pg_nest (i := 3) (j := 4) (l := 5) scMake.nd rfl rfl (Or.inl rfl) (Or.inl rfl) (pg_pair scMake.nd rfl)) (ew_enumL (vda_cons (vd_var 1 p2) vda_nil)) g0.within rfl
    (fun S1 i σ' H' => ∃ S2 y3 y4 y5, Gw K S H l S2 H' ((normE (ps.take i)).map dE) ∧ Ex S1 S2 ∧ σ' = [some v1, some v2, some (.ref l), y3, y4, y5]) (fun S1 H' w1 => ⟨S1, none, none, none, g0.step w1, Ex.refl _, rfl⟩) (fun S1 i σ' H' h => ?_) (fun S1 i d x σ' H' H'' e hd h y => ?_) (fun S1 σ' H' e h => ?_))
  · obtain ⟨S2, y3, y4, y5, g, e, _⟩ := h
    exact e.trans g.within
  · obtain ⟨S2, y3, y4, y5, g, e12, rfl⟩ := h
    obtain ⟨d', hd', rfl⟩ := enumD_get hd
    obtain ⟨pr, hpr, rfl⟩ := get_map hd'
    obtain ⟨S3, w3, p3⟩ := y S2 e12 g.within
    have g3 := g.step w3
    refine g_nest w3.within p3 fun nv av bv pn pa pb => ?_
    have hb := hlt pr (List.mem_of_getElem? hpr)
    have p1' := Dpm p1 (e.trans (e12.trans w3.st))
    refine vs_cons (vs_unless (vb_is (vb_not (vb_and (vb_within vd_int (vd_var 4 pa) (vd_var 0 p1')) fun _ => vb_within vd_int (vd_var 5 pb) (vd_var 0 p1'))) ?_) w3.within fun H4 e4 => ?_)
    · have h1 := hb.1
      have h2 := hb.2
      rw [decide_eq_true (by omega), decide_eq_true (by omega), decide_eq_true (by omega), decide_eq_true (by omega)]; rfl
    · refine vs_last (vs_appG (d := dE (mkE pr.1 pr.2)) (g3.only e4) (vv_var 2) (vd_tup (vda_cons (vd_min rfl T.b_min (vd_var 4 pa) (vd_var 5 pb)) (vda_cons (vd_max rfl T.b_max (vd_var 4 pa) (vd_var 5 pb)) vda_nil)) (Nat.le_of_ble_eq_true rfl)) ?_ fun S5 H5 g5 e5 => ?_)
      · rw [List.length_map]
        unfold normE
        rw [List.length_map, List.length_take]
        omega
      · refine ⟨S5, _, _, _, ?_, e12.trans (w3.st.trans e5), rfl⟩
        have ee : (normE (ps.take (i + 1))).map dE = (normE (ps.take i)).map dE ++ [dE (mkE pr.1 pr.2)] := by
          rw [take_snoc hpr]
          unfold normE
          rw [List.map_append, List.map_append]
          rfl
        rw [ee]
        exact g5
  · obtain ⟨S2, y3, y4, y5, g, e12, rfl⟩ := h
    rw [enumD_len, List.length_map, List.take_length] at g
    obtain ⟨S3, a3, e3, pl⟩ := g.done
    have sm : Small (normE ps) := ⟨by unfold normE; rw [List.length_map]; exact h64, fun e he => by
      obtain ⟨r, hr, rfl⟩ := List.mem_map.mp he
      have := hlt r hr
      unfold mkE
      simp only
      omega⟩
    refine vs_last (vs_ret (d := dW (n, es)) (vd_tup (vda_cons (vd_var 0 (Dpm p1 (e.trans (e12.trans e3)))) (vda_cons (vd_tupleOf T.b_tuple (vd_sortedSet T.b_sorted T.b_set rfl hr.units (vd_var 2 pl) sm hes hmem) (.lst _)) vda_nil)) (Nat.le_of_ble_eq_true rfl)) a3.nw.within fun v6 S6 H6 w6 p6 => ?_)
    exact q v6 S6 H6 (a3.nw.trans w6) p6
end
end K22
/-! K22, text 9: lists of lists that are filled; neighbour_rows, _law_matrix -/
namespace K22
open PySem PySem.Spec PyProof.Rows L2 Evl
/-- at L a list of ours of lists of ours, the i-th holding c i -/
structure Rw (S0 H0 : Hp) (L : Addr) (as : List Addr) (S H : Hp) (c : Nat → List V) : Prop where
  now : At S0 H0 S H
  top : H L = some (.lst (as.map V.ref))
  row : ∀ i a, as[i]? = some a → H a = some (.lst (c i))
  nd : (L :: as).Nodup
  out : ∀ a ∈ L :: as, S a = none ∧ H0 a = none
section
variable {S0 H0 S H S' H' : Hp} {L : Addr} {as : List Addr} {c c' : Nat → List V}
theorem Rw.within (r : Rw S0 H0 L as S H c) : Ex S H := r.now.nw.within
theorem Rw.there (r : Rw S0 H0 L as S H c) {a : Addr} (h : a ∈ L :: as) : ∃ o, H a = some o := by
  rcases List.mem_cons.mp h with e | h
  · rw [e]; exact ⟨_, r.top⟩
  · obtain ⟨i, hi, rfl⟩ := List.getElem_of_mem h
    exact ⟨_, r.row i _ (List.getElem?_eq_getElem hi)⟩
theorem Rw.step (r : Rw S0 H0 L as S H c) (w : Nw S H S' H') : Rw S0 H0 L as S' H' c :=
  ⟨r.now.step w, w.hp L _ r.top, fun i a h => w.hp a _ (r.row i a h), r.nd, fun a ha => by
    obtain ⟨o, ho⟩ := r.there ha
    exact ⟨w.keepOut (r.out a ha).1 ho, (r.out a ha).2⟩⟩
theorem Rw.only (r : Rw S0 H0 L as S H c) (e : Ex H H') : Rw S0 H0 L as S H' c := r.step (Nw.only r.within e)
/-- the i-th row is changed -/
theorem Rw.put {i : Nat} {a : Addr} {xs : List V} (r : Rw S0 H0 L as S H c) (h : as[i]? = some a) (h1 : c' i = xs) (h2 : ∀ j, j ≠ i → c' j = c j) : Rw S0 H0 L as S (upd H a (.lst xs)) c' := by
  have ha : a ∈ as := List.mem_of_getElem? h
  have hL : L ≠ a := fun e => (List.nodup_cons.mp r.nd).1 (e ▸ ha)
  refine ⟨r.now.mut (r.out a (List.mem_cons_of_mem _ ha)).2 (r.out a (List.mem_cons_of_mem _ ha)).1, by rw [upd_ne hL]; exact r.top, fun j b hb => ?_, r.nd, r.out⟩
  by_cases hj : j = i
  · subst hj
    rw [h] at hb
    cases hb
    rw [upd_same, h1]
  · have hne : b ≠ a := fun e => by
      subst e
      exact hj (nd_ix (List.nodup_cons.mp r.nd).2 hb h)
    rw [upd_ne hne, h2 j hj]
    exact r.row j b hb
/-- no more changed -/
theorem Rw.done {K : PySem.W.Frag} (r : Rw S0 H0 L as S H c) (f : Nat → List PyData) (hf : ∀ i, i < as.length → ∀ S', DDA K S' (c i) (f i)) : ∃ S', At S0 H0 S' H ∧ Ex S S' ∧ DD K S' (.ref L) (.list ((List.range as.length).map fun i => .list (f i))) := by
  have hS : ∀ b o, S b = some o → ¬ b ∈ L :: as := fun b o e h => by rw [(r.out b h).1] at e; cases e
  let T : Hp := fun b => if b ∈ L :: as then H b else S b
  have tin : ∀ b, b ∈ L :: as → T b = H b := fun b h => if_pos h
  have tout : ∀ b, ¬ b ∈ L :: as → T b = S b := fun b h => if_neg h
  have e1 : Ex S T := fun b o e => by rw [tout b (hS b o e)]; exact e
  refine ⟨T, ⟨⟨r.now.nw.st.trans e1, fun b o e => ?_, r.now.nw.hp, fun b o e => ?_⟩⟩, e1, ?_⟩
  · by_cases h : b ∈ L :: as
    · rw [tin b h] at e; exact e
    · rw [tout b h] at e; exact r.within b o e
  · by_cases h : b ∈ L :: as
    · exact .inl (r.out b h).2
    · rw [tout b h] at e; exact r.now.nw.new b o e
  · refine .lst (show T L = some (.lst (as.map V.ref)) by rw [tin L List.mem_cons_self]; exact r.top) (da_of_get (by simp) fun i v d h1 h2 => ?_)
    rw [List.getElem?_map] at h1 h2
    have hi : i < as.length := by
      cases q : as[i]? with
      | none => rw [q] at h1; cases h1
      | some a => exact (List.getElem?_eq_some_iff.mp q).1
    rw [List.getElem?_eq_getElem hi] at h1
    rw [List.getElem?_range hi] at h2
    cases h1
    cases h2
    have hm : as[i] ∈ L :: as := List.mem_cons_of_mem _ (List.getElem_mem hi)
    exact .lst (show T as[i] = some (.lst (c i)) by rw [tin _ hm]; exact r.row i _ (List.getElem?_eq_getElem hi)) (hf i hi T)
end
section
variable {X : Cx} {iter elt : Expr} {pos p spos py : Pos} {wi : TI} {σ : L2.St} {S0 H0 S H : Hp} {ds : List PyData} {scope : Scope} {x y : Str} {D : Ends}
/-- y = [a new list of xs for x in iter] -/
theorem vs_rows (i j : Nat) (xs : List V) (a0 : At S0 H0 S H) (hi : PI X (.Name x p) iter wi) (hw : EW X.K wi σ S ds) (hz : ds.length ≤ 40000) (hN : X.N.Nodup) (hc : X.calm = true) (ok : BlkOk X.N X.env.scope scope [(x, j)])
    (hg : ∀ (s : Shared) (H : Hp) (C : Addr) (cl : List (Str × Addr)) (fp : List Addr), PG (X.blk s H scope (compEnvC scope cl C X.env) fp) (.Name x p) (gName j))
    (he : ∀ v Si, Ex S Si → ∀ s H0 C cl fp, EvL (VE (X.blk s H0 scope (compEnvC scope cl C X.env) fp) elt) ((wipe σ [j]).set j (some v)) Si xs)
    (k : ∀ L as S1 H1, Ex S S1 → as.length = ds.length → Rw S0 H0 L as S1 H1 (fun _ => xs) → D.nx (σ.set i (some (.ref L))) H1)
    (hsw : swapsWith (.ListComp elt [⟨.Name x p, iter, [], 0⟩] scope pos) (some (.Name y py)) spos.line X.env = pure true) (hy : X.N[i]? = some y := by rfl) (hyl : X.env.scope.names.lookup y = some .local := by rfl) (hf : ∀ x, foldedSetIterable iter X.env x = pure x := by intro _; rfl) :
    VS X (.Assign [.Name y py] (.ListComp elt [⟨.Name x p, iter, [], 0⟩] scope pos) spos) D σ H := by
  refine vs_of (ps_setLc (i := i) (own := [(x, j)]) (g := gName j) (tt := tYes) (te := VEb X scope elt) hc hN hy hyl hsw hi ok hg (fun _ _ _ _ _ => pts_nil) (fun s H C cl fp => peb s H C cl fp) hf) ?_
  refine hw H a0.nw.within _ fun J G Y S1 H1 w1 w hG hY => fun L hL => ?_
  have b0 := a0.step w1
  refine lc_it w (fun n H' => ∃ Si as, Ex S1 Si ∧ as.length = n ∧ Rw S0 H0 L as Si H' (fun _ => xs)) ⟨S1, [], Ex.refl _, rfl, b0.mut (fresh_back b0.nw.hp hL) (fresh_back b0.nw.within hL), upd_same, fun i a h => (by simp at h), (by simp), fun a ha => by
      rw [List.mem_singleton.mp ha]
      exact ⟨fresh_back b0.nw.within hL, fresh_back b0.nw.hp hL⟩⟩ (fun n H' _ ⟨Si, as, e1, _, r⟩ => hG H' (e1.trans r.within)) (fun n v H2 H3 hn ⟨Si, as, e1, hl, r⟩ y => ?_) fun H' ⟨Si, as, e1, hl, r⟩ => k L as Si H' (w1.st.trans e1) hl r
  obtain ⟨Sj, w3, _⟩ := hY n ds[n] H2 v H3 Si (List.getElem?_eq_getElem hn) e1 r.within y
  have r3 := r.step w3
  refine ⟨wipe1 σ j v, ?_⟩
  show VEb X scope elt _ H3 _
  intro s H0' C cl fp
  refine he v Sj (w1.st.trans (e1.trans w3.st)) s H0' C cl fp H3 r3.within _ fun a H4 ha e4 hx => ?_
  have r4 := r3.only e4
  have fr : ∀ b ∈ L :: as, b ≠ a := fun b hb z => by
    obtain ⟨o, ho⟩ := r3.there hb
    rw [z, ha] at ho; cases ho
  have nL : a ≠ L := (fr L List.mem_cons_self).symm
  refine ⟨as.map V.ref, r4.top, by rw [List.length_map, hl]; exact sz_lt (by omega), Sj, as ++ [a], e1.trans w3.st, by rw [List.length_append, hl]; rfl, ?_⟩
  have hS : Sj a = none := fresh_back r3.within ha
  have hH0 : H0 a = none := fresh_back r3.now.nw.hp ha
  refine ⟨r4.now.mut (r4.out L List.mem_cons_self).2 (r4.out L List.mem_cons_self).1, by rw [upd_same, List.map_append]; rfl, fun i b hb => ?_, ?_, fun b hb => ?_⟩
  · have hne : b ≠ L := fun z => by
      subst z
      rcases List.mem_append.mp (List.mem_of_getElem? hb) with q | q
      · exact (List.nodup_cons.mp r.nd).1 q
      · exact nL (List.mem_singleton.mp q).symm
    rw [upd_ne hne]
    rw [List.getElem?_append] at hb
    split at hb
    · exact r4.row i b hb
    · have : b ∈ [a] := List.mem_of_getElem? hb
      rw [List.mem_singleton.mp this]; exact hx
  · rw [← List.cons_append, List.nodup_append]
    exact ⟨r.nd, (by simp), fun b hb d hd => by rw [List.mem_singleton.mp hd]; exact fr b hb⟩
  · rw [← List.cons_append] at hb
    rcases List.mem_append.mp hb with q | q
    · exact r4.out b q
    · rw [List.mem_singleton.mp q]; exact ⟨hS, hH0⟩
theorem vs_rowApp {o e1 e : Expr} {p1 apos : Pos} {L : Addr} {as : List Addr} {c c' : Nat → List V} {n : Nat} {v : V} (r : Rw S0 H0 L as S H c) (hn : n < as.length) (ho : Ev (VE X o) σ H (.ref L)) (hi : Ev (VE X e1) σ H (.int (n : Int))) (he : Ev (VE X e) σ H v) (hz : (c n).length < 100000)
    (h1 : c' n = c n ++ [v]) (h2 : ∀ j, j ≠ n → c' j = c j) (k : ∀ H', Rw S0 H0 L as S H' c' → D.nx σ H')
    (hs : swapsWith (.Call (.Attribute (.Subscript o e1 p1) "append" apos) [e] [] p) none pos.line X.env = pure false := by rfl) (hp : PlainIx e1 := by exact fun _ _ => rfl)
    (hq : PE X (.Call (.Attribute (.Subscript o e1 p1) "append" apos) [e] [] p) (tBM X.K "list" rAppend (VE X (.Subscript o e1 p1)) (tCons (VE X e) tNil)) := by exact pe_bm PySem.F.plainAttrs_list PySem.F.slot_list_append PySem.F.type_list_append mt_append pe_ve (pa_cons pe_ve pa_nil)) :
    VS X (.Expr (.Call (.Attribute (.Subscript o e1 p1) "append" apos) [e] [] p) pos) D σ H := by
  have ha : as[n]? = some as[n] := List.getElem?_eq_getElem hn
  refine vs_of (ps_expr hq hs) (s_app (r.row n _ ha) (vv_ixL ho r.top hi rfl (by rw [List.getElem?_map, ha]; rfl) hp) he hz fun H1 e1 => ?_)
  exact k _ ((r.only e1).put ha h1 h2)
end

/-! ### neighbour_rows -/
def dNbr (W : Web) : PyData := .list ((List.range W.1).map fun v => dL (nbr W v))
def prNbr : PTr := fun ds R => ∃ W : Web, ds = [dW W] ∧ WOk W ∧ R (dNbr W)
abbrev nNbr : List Str := ["web", "rows", "first", "second", "_", "row"]
theorem scNbr : FnScope nNbr ["web"] (defScope (topS 8)) := ⟨rfl, rfl, rfl, by decide +kernel, rfl, by decide +kernel, by decide +kernel⟩
theorem raw_snoc (es : List (Nat × Nat)) (e : Nat × Nat) (v : Nat) : raw (es ++ [e]) v = raw es v ++ rawE v e := by unfold raw; rw [List.flatMap_append]; simp
section
variable {P : Program} {w : World} {K : PySem.W.Frag} {mg : Str → Option Value} {base : Heap}
theorem ok_nbr (T : Txt K mg) : Fn P w K mg base 1 "neighbour_rows" prNbr := by
  refine def_ok T.neighbour_rows scNbr (fun ds R h => by obtain ⟨W, rfl, _⟩ := h; rfl) fun f cdv A outer s S H vs ds Q E hr hS hp h => ?_
  obtain ⟨W, rfl, hW, q⟩ := h
  obtain ⟨v1, rfl, p1⟩ := da1 hp
  refine vs_cons (vs_rows 1 4 [] (At.refl hS) (pi_range1' T.b_range) (ew_range1 (vda_cons (vd_web0 (vd_var 0 p1)) vda_nil) (by have := hW.n; omega)) (by simp; have := hW.n; omega) scNbr.nd rfl (blkOk_by (N := nNbr) (sc := defScope (topS 8)) (by decide +kernel)) (fun _ _ _ _ _ => pg_name scNbr.nd rfl (Or.inl rfl))
    (fun v Si e s H0 C cl fp => fun H1 e1 Q' q' => ve_of (pe_lst pa_nil) ⟨Nat.zero_le _, fun l hl => q' l _ hl (Ex.new hl) upd_same⟩) (fun L as S1 H1 e1 hl r => ?_) (sw_true rfl rfl rfl (by decide +kernel)))
  rw [List.length_map, List.length_range] at hl
  refine vs_cons (vs_for (pi_tup pe_ve) (pg_pair (i := 2) (j := 3) scNbr.nd rfl) (ew_tup (vd_web1 (vd_var 0 (Dpm p1 e1)))) r.within rfl
    (fun S2 i σ' H' => ∃ S3 y2 y3, Rw S H L as S3 H' (fun v => (raw (W.2.take i) v).map vI) ∧ Ex S2 S3 ∧ σ' = [some v1, some (.ref L), y2, y3, none, none]) (fun S2 H2 w2 => ⟨S2, none, none, r.step w2, Ex.refl _, rfl⟩) (fun S2 i σ' H' h => ?_) (fun S2 i d x σ' H' H'' e hd h y => ?_) (fun S2 σ' H' e h => ?_))
  · obtain ⟨S3, y2, y3, r, e, _⟩ := h
    exact e.trans r.within
  · obtain ⟨S3, y2, y3, r, e23, rfl⟩ := h
    obtain ⟨S4, w4, p4⟩ := y S3 e23 r.within
    obtain ⟨pr, hpr, rfl⟩ := get_map hd
    have hb := hW.lt pr (List.mem_of_getElem? hpr)
    have r4 := r.step w4
    have hlen : ∀ v, (raw (W.2.take i) v).length ≤ 40 := fun v => by
      have h1 := raw_len (W.2.take i) v
      have h2 := hW.few
      rw [List.length_take] at h1
      omega
    refine g_pair w4.within p4 fun a b pa pb => ?_
    refine vs_cons (vs_rowApp (c' := fun v => (raw (W.2.take i) v).map vI ++ (if pr.1 = v then [vI pr.2] else [])) r4 (n := pr.1) (v := vI pr.2) (by rw [hl]; exact hb.1) (vv_var 1) (vv_int (vd_var 2 pa) w4.within) (vv_int (vd_var 3 pb) w4.within) (by rw [List.length_map]; have := hlen pr.1; omega) (by simp) (fun j hj => by simp [Ne.symm hj]) fun H5 r5 => ?_)
    have fin : ∀ v, (raw (W.2.take (i + 1)) v).map vI = ((raw (W.2.take i) v).map vI ++ (if pr.1 = v then [vI pr.2] else [])) ++ (if pr.1 ≠ pr.2 ∧ pr.2 = v then [vI pr.1] else []) := fun v => by
      rw [take_snoc hpr, raw_snoc, List.map_append, List.append_assoc]
      congr 1
      unfold rawE
      rw [List.map_append]
      congr 1 <;> (split <;> rfl)
    refine vs_last (vs_if (vb_ne (vd_var 2 pa) (vd_var 3 pb)) r5.within (fun ht H6 e6 => ?_) fun hf H6 e6 => ?_)
    · have hne : pr.1 ≠ pr.2 := fun z => by rw [z] at ht; simp at ht
      refine vs_last (vs_rowApp (c' := fun v => (raw (W.2.take (i + 1)) v).map vI) (r5.only e6) (n := pr.2) (v := vI pr.1) (by rw [hl]; exact hb.2) (vv_var 1) (vv_int (vd_var 3 pb) (r5.only e6).within) (vv_int (vd_var 2 pa) (r5.only e6).within) ?_ (by rw [fin]; simp [hne]) (fun j hj => by rw [fin]; simp [Ne.symm hj]) fun H7 r7 => ?_)
      · have := hlen pr.2
        simp only [List.length_append, List.length_map]
        split <;> simp <;> omega
      · exact ⟨S4, _, _, r7, e23.trans w4.st, rfl⟩
    · have heq : pr.1 = pr.2 := by
        have := of_decide_eq_true (by simpa using hf)
        omega
      refine vs_nil ⟨S4, _, _, ?_, e23.trans w4.st, rfl⟩
      have ec : (fun v => (raw (W.2.take (i + 1)) v).map vI) = fun v => (raw (W.2.take i) v).map vI ++ (if pr.1 = v then [vI pr.2] else []) := by
        funext v
        rw [fin]
        simp [heq]
      rw [ec]
      exact r5.only e6
  · obtain ⟨S3, y2, y3, r, e23, rfl⟩ := h
    obtain ⟨S5, a5, e5, pl⟩ := r.done (K := K) (fun v => (raw W.2 v).map dI) fun i _ S' => by
      rw [List.length_map, List.take_length]
      exact da_of_ints _
    rw [hl] at pl
    refine vs_last (vs_ret (d := dNbr W) ((vd_lcN 5 (pi_list pe_ve) (ew_list (vd_var 1 pl)) (by simp; have := hW.n; omega) scNbr.nd rfl (fun v => dL (nbr W v)) (blkOk_by (N := nNbr) (sc := defScope (topS 8)) (by decide +kernel)) (fun _ _ _ _ _ => pg_name scNbr.nd rfl (Or.inl rfl)) fun i d v Si hd e6 pv s H0 C cl fp => ?_).is ?_) a5.nw.within fun v6 S6 H6 w6 p6 => ?_)
    · rw [List.getElem?_map] at hd
      have hi : i < W.1 := by
        cases q : (List.range W.1)[i]? with
        | none => rw [q] at hd; cases hd
        | some a => simpa using (List.getElem?_eq_some_iff.mp q).1
      rw [List.getElem?_range hi] at hd
      cases hd
      exact vd_sortedL T.b_sorted (vd_var 5 pv) (by have h1 := raw_len W.2 i; have := hW.few; omega)
    · rw [List.length_map, List.length_range]
      rfl
    · exact q v6 S6 H6 (a5.nw.trans w6) p6
end
end K22
/-! K22, text 10: a + b of lists and tuples, slices, == of data, isinstance -/
namespace K22
open PySem PySem.Spec PyProof.Rows L2 Evl
section
variable {X : Cx} {a b e : Expr} {pos p : Pos} {σ : L2.St} {S H : Hp} {d : PyData} {ds es : List PyData} {x : Str} {i : Int}
theorem vd_cat (ha : VD X a σ S (.list ds)) (hb : VD X b σ S (.list es)) (hz : ds.length + es.length ≤ 100000) : VD X (.BinOp a .Add b pos) σ S (.list (ds ++ es)) :=
  vd_bin op_cat ha hb fun x y S1 H1 _ hS hx hy Q q => by
    obtain ⟨l, xs, rfl, h1, h2⟩ := dp_listX hx
    obtain ⟨m, ys, rfl, h3, h4⟩ := dp_listX hy
    refine ⟨l, m, xs, ys, rfl, rfl, hS _ _ h1, hS _ _ h3, by rw [da_len h2, da_len h4]; exact sz5 hz, fun p hp => ?_⟩
    have e := Ex.new (o := .lst (xs ++ ys)) (fresh_back hS hp)
    exact q _ _ _ (Nw.put hS hp) (.lst upd_same (da_app (Dam h2 e) (Dam h4 e)))
theorem vd_catT (ha : VD X a σ S (.tuple ds)) (hb : VD X b σ S (.tuple es)) (hz : ds.length + es.length ≤ 100000) : VD X (.BinOp a .Add b pos) σ S (.tuple (ds ++ es)) :=
  vd_bin op_catA ha hb fun x y S1 H1 _ hS hx hy Q q => by
    obtain ⟨l, xs, rfl, h1, h2⟩ := dp_tupleX hx
    obtain ⟨m, ys, rfl, h3, h4⟩ := dp_tupleX hy
    refine ⟨l, m, xs, ys, rfl, rfl, st_of (hS _ _ h1), st_of (hS _ _ h3), by rw [da_len h2, da_len h4]; exact sz5 hz, fun z => ?_, fun _ z => ?_, fun _ _ p hp => ?_⟩
    · subst z
      cases ds with
      | nil => exact q _ S1 H1 (Nw.refl hS) hy
      | cons _ _ => cases h2
    · subst z
      cases es with
      | nil => rw [List.append_nil] at q; exact q _ S1 H1 (Nw.refl hS) hx
      | cons _ _ => cases h4
    · have e := Ex.new (o := .tup (xs ++ ys)) (fresh_back hS hp)
      exact q _ _ _ (Nw.put hS hp) (.tup upd_same (da_app (Dam h2 e) (Dam h4 e)))
/-- xs[:n], xs[n:] -/
theorem da_take : ∀ {K : PySem.W.Frag} {vs : List V} {ds : List PyData} (n : Nat), DDA K H vs ds → DDA K H (vs.take n) (ds.take n)
  | _, _, [], n, h => by rw [da_nil h]; simp; exact .nil
  | _, _, d :: ds, 0, h => .nil
  | _, _, d :: ds, n + 1, h => by
    obtain ⟨v, r, rfl, h1, h2⟩ := da_cons h
    exact .cons h1 (da_take n h2)
theorem da_drop : ∀ {K : PySem.W.Frag} {vs : List V} {ds : List PyData} (n : Nat), DDA K H vs ds → DDA K H (vs.drop n) (ds.drop n)
  | _, _, [], n, h => by rw [da_nil h]; simp; exact .nil
  | _, _, d :: ds, 0, h => h
  | _, _, d :: ds, n + 1, h => by
    obtain ⟨v, r, rfl, h1, h2⟩ := da_cons h
    exact da_drop n h2
theorem cut_take (xs : List V) (n : Nat) : cutV xs none (some (n : Int)) = xs.take n := by
  unfold cutV
  rw [HT.sIx_none, HT.sIx_nat, List.drop_zero, Nat.sub_zero]
  rcases Nat.le_total n xs.length with c | c
  · rw [Nat.min_eq_left c]
  · rw [Nat.min_eq_right c, List.take_of_length_le c, List.take_of_length_le (Nat.le_refl _)]
theorem cut_drop (xs : List V) (n : Nat) : cutV xs (some (n : Int)) none = xs.drop n := by
  unfold cutV
  rw [HT.sIx_none, HT.sIx_nat]
  rcases Nat.le_total n xs.length with c | c
  · rw [Nat.min_eq_left c, List.take_of_length_le (by rw [List.length_drop]; exact Nat.le_refl _)]
  · rw [Nat.min_eq_right c, List.drop_of_length_le (Nat.le_refl _), List.drop_of_length_le c]; simp
theorem vd_upto {n : Nat} {p2 : Pos} (ha : VD X a σ S (.list ds)) (hb : VD X b σ S (dI n)) : VD X (.Subscript a (.Slice none (some b) none p2) pos) σ S (.list (ds.take n)) :=
  vd_of (pe_slice sl_list pe_ve po_none (po_some pe_ve)) fun H hS Q q => ha H hS _ fun v S1 H1 w1 p1 => (hb.mono w1.st).ev_int H1 w1.within _ fun H2 e2 => by
    obtain ⟨l, xs, rfl, h1, h2⟩ := dp_list p1
    refine ⟨(n : Int), rfl, l, xs, rfl, ex_l (w1.within.trans e2) h1, fun p hp => ?_⟩
    rw [cut_take]
    exact q _ _ _ ((w1.trans (Nw.only w1.within e2)).trans (Nw.put (w1.within.trans e2) hp)) (.lst upd_same (Dam (da_take n h2) (Ex.new (fresh_back (w1.within.trans e2) hp))))
theorem vd_from {n : Nat} {p2 : Pos} (ha : VD X a σ S (.list ds)) (hb : VD X b σ S (dI n)) : VD X (.Subscript a (.Slice (some b) none none p2) pos) σ S (.list (ds.drop n)) :=
  vd_of (pe_slice sl_list pe_ve (po_some pe_ve) po_none) fun H hS Q q => ha H hS _ fun v S1 H1 w1 p1 => (hb.mono w1.st).ev_int H1 w1.within _ fun H2 e2 => by
    obtain ⟨l, xs, rfl, h1, h2⟩ := dp_list p1
    refine ⟨(n : Int), rfl, l, xs, rfl, ex_l (w1.within.trans e2) h1, fun p hp => ?_⟩
    rw [cut_drop]
    exact q _ _ _ ((w1.trans (Nw.only w1.within e2)).trans (Nw.put (w1.within.trans e2) hp)) (.lst upd_same (Dam (da_drop n h2) (Ex.new (fresh_back (w1.within.trans e2) hp))))
/-! == of data -/
theorem vd_eqD {d d2 : PyData} {t : Bool} (hu : X.A.units + 64 < cLine) (ha : VD X a σ S d) (hb : VD X b σ S d2) (s1 : SeqAt.shaped d = true) (s2 : SeqAt.shaped d2 = true) (ht : PyData.eqv d d2 = t) : VD X (.Compare a [.Eq] [b] pos) σ S (.bool t) :=
  vd_cmp (op_eqD hu) ha hb fun x y S1 H1 _ hS hx hy Q q => ⟨d, d2, dd_dp _ _ (Dpm hx hS), dd_dp _ _ (Dpm hy hS), s1, s2, by rw [ht]; exact q _ S1 H1 (Nw.refl hS) (.bl t)⟩
theorem vb_eqD {d d2 : PyData} {t : Bool} (hu : X.A.units + 64 < cLine) (ha : VD X a σ S d) (hb : VD X b σ S d2) (s1 : SeqAt.shaped d = true) (s2 : SeqAt.shaped d2 = true) (ht : PyData.eqv d d2 = t) : VB X (.Compare a [.Eq] [b] pos) σ S t :=
  vb_cmp (op_eqD hu) ha hb fun x y S1 H1 _ hS hx hy Q q => ⟨d, d2, dd_dp _ _ (Dpm hx hS), dd_dp _ _ (Dpm hy hS), s1, s2, by rw [ht]; exact q _ S1 H1 (Nw.refl hS) (.bl t)⟩
theorem vb_neD {d d2 : PyData} {t : Bool} (hu : X.A.units + 64 < cLine) (ha : VD X a σ S d) (hb : VD X b σ S d2) (s1 : SeqAt.shaped d = true) (s2 : SeqAt.shaped d2 = true) (ht : PyData.eqv d d2 = t) : VB X (.Compare a [.NotEq] [b] pos) σ S (!t) :=
  vb_cmp (op_neD hu) ha hb fun x y S1 H1 _ hS hx hy Q q => ⟨d, d2, dd_dp _ _ (Dpm hx hS), dd_dp _ _ (Dpm hy hS), s1, s2, by rw [ht]; exact q _ S1 H1 (Nw.refl hS) (.bl (!t))⟩
theorem vb_notInD {d : PyData} {ds : List PyData} {t : Bool} (hu : X.A.units + 65 < cLine) (ha : VD X a σ S d) (hb : VD X b σ S (.list ds)) (s1 : SeqAt.shaped d = true) (s2 : SeqAt.shaped (.list ds) = true) (ht : (ds.any fun z => PyData.eqv z d) = t) (hm : behindInMarks .NotIn b = false := by rfl) : VB X (.Compare a [.NotIn] [b] pos) σ S (!t) :=
  vb_cmp (op_notInD hu) ha hb (fun x y S1 H1 _ hS hx hy Q q => ⟨d, ds, dd_dp _ _ (Dpm hx hS), dd_dp _ _ (Dpm hy hS), s1, s2, by rw [ht]; exact q _ S1 H1 (Nw.refl hS) (.bl (!t))⟩) hm
end
/-! ### rows, pairs and webs are plain data -/
theorem lay_ints : ∀ r : List Nat, PyData.canLayAll0 (r.map dI) = true
  | [] => by simp [PyData.canLayAll0]
  | n :: r => by simp [PyData.canLayAll0, dI, PyData.canLay0]; exact lay_ints r
theorem dep_ints : ∀ r : List Nat, PyData.depthAll (r.map dI) ≤ 0
  | [] => by simp [PyData.depthAll]
  | n :: r => by
    have := dep_ints r
    simp only [List.map_cons, PyData.depthAll, dI, PyData.depth]
    omega
theorem shaped_mk {d : PyData} (h1 : d.canLay0 = true) (h2 : d.depth ≤ 64) : SeqAt.shaped d = true := by
  show (d.canLay0 && decide (d.depth ≤ 64)) = true
  rw [h1, decide_eq_true h2]; rfl
theorem sh_L (r : List Nat) : SeqAt.shaped (dL r) = true := shaped_mk (by simp only [dL, PyData.canLay0]; exact lay_ints r) (by have := dep_ints r; simp only [dL, PyData.depth]; omega)
theorem sh_T (r : List Nat) : SeqAt.shaped (dT r) = true := shaped_mk (by simp only [dT, PyData.canLay0]; exact lay_ints r) (by have := dep_ints r; simp only [dT, PyData.depth]; omega)
theorem lay_E (e : Nat × Nat) : (dE e).canLay0 = true := by simp [dE, dI, PyData.canLay0, PyData.canLayAll0]
theorem dep_E (e : Nat × Nat) : (dE e).depth ≤ 1 := by simp [dE, dI, PyData.depth, PyData.depthAll]
theorem sh_E (e : Nat × Nat) : SeqAt.shaped (dE e) = true := shaped_mk (lay_E e) (Nat.le_trans (dep_E e) (by decide))
theorem lay_Es : ∀ es : List (Nat × Nat), PyData.canLayAll0 (es.map dE) = true
  | [] => by simp [PyData.canLayAll0]
  | e :: es => by simp only [List.map_cons, PyData.canLayAll0, lay_E e, lay_Es es, Bool.and_self]
theorem dep_Es : ∀ es : List (Nat × Nat), PyData.depthAll (es.map dE) ≤ 1
  | [] => by simp [PyData.depthAll]
  | e :: es => by
    have h1 := dep_Es es
    have h2 := dep_E e
    simp only [List.map_cons, PyData.depthAll]
    omega
theorem sh_LE (es : List (Nat × Nat)) : SeqAt.shaped (.list (es.map dE)) = true := shaped_mk (by simp only [PyData.canLay0]; exact lay_Es es) (by have := dep_Es es; simp only [PyData.depth]; omega)
theorem sh_W (W : Web) : SeqAt.shaped (dW W) = true := shaped_mk (by simp only [dW, dI, dEs, PyData.canLay0, PyData.canLayAll0, lay_Es, Bool.and_self]) (by
  have := dep_Es W.2
  simp only [dW, dI, dEs, PyData.depth, PyData.depthAll]
  omega)
theorem eqv_I (n m : Nat) : PyData.eqv (dI n) (dI m) = decide (n = m) := by
  show ((n : Int) == (m : Int)) = _
  rw [Bool.eq_iff_iff, beq_iff_eq, decide_eq_true_eq]; omega
theorem eqv_ints : ∀ r q : List Nat, PyData.eqvAll (r.map dI) (q.map dI) = decide (r = q)
  | [], [] => by simp [PyData.eqvAll]
  | [], _ :: _ => by simp [PyData.eqvAll]
  | _ :: _, [] => by simp [PyData.eqvAll]
  | n :: r, m :: q => by
    simp only [List.map_cons, PyData.eqvAll, eqv_I, eqv_ints r q]
    rw [Bool.eq_iff_iff]
    simp
theorem eqv_L (r q : List Nat) : PyData.eqv (dL r) (dL q) = decide (r = q) := by simp only [dL, PyData.eqv]; exact eqv_ints r q
theorem eqv_E (e f : Nat × Nat) : PyData.eqv (dE e) (dE f) = decide (e = f) := by
  simp only [dE, PyData.eqv, PyData.eqvAll, eqv_I]
  rw [Bool.eq_iff_iff]
  simp [Prod.ext_iff]
theorem eqv_Es : ∀ es fs : List (Nat × Nat), PyData.eqvAll (es.map dE) (fs.map dE) = decide (es = fs)
  | [], [] => by simp [PyData.eqvAll]
  | [], _ :: _ => by simp [PyData.eqvAll]
  | _ :: _, [] => by simp [PyData.eqvAll]
  | e :: es, f :: fs => by
    simp only [List.map_cons, PyData.eqvAll, eqv_E, eqv_Es es fs]
    rw [Bool.eq_iff_iff]
    simp
theorem eqv_W (A B : Web) : PyData.eqv (dW A) (dW B) = decide (A = B) := by
  simp only [dW, dEs, PyData.eqv, PyData.eqvAll, eqv_I, eqv_Es]
  rw [Bool.eq_iff_iff]
  simp [Prod.ext_iff]
theorem any_E (es : List (Nat × Nat)) (e : Nat × Nat) : ((es.map dE).any fun z => PyData.eqv z (dE e)) = decide (e ∈ es) := by
  rw [Bool.eq_iff_iff, List.any_eq_true, decide_eq_true_eq]
  constructor
  · rintro ⟨z, hz, h⟩
    obtain ⟨f, hf, rfl⟩ := List.mem_map.mp hz
    rw [eqv_E, decide_eq_true_eq] at h
    rw [← h]; exact hf
  · intro h
    exact ⟨dE e, List.mem_map.mpr ⟨e, h, rfl⟩, by rw [eqv_E]; exact decide_eq_true rfl⟩
/-! ### isinstance -/
def tyD : PyData → String
  | .none => "NoneType"
  | .bool _ => "bool"
  | .int _ => "int"
  | .str _ => "str"
  | .list _ => "list"
  | .tuple _ => "tuple"
  | .dict _ => "dict"
theorem dd_ty {K : PySem.W.Frag} {S H : Hp} {d : PyData} {v : V} (h : DD K S v d) (e : Ex S H) : TyX K H v (.type (tyD d)) := by
  cases h with
  | non => exact .base .non
  | bl b => exact .base (.bl b)
  | int i => exact .base (.int i)
  | str x => exact .base (.str x)
  | lst h _ => exact .base (.lst (e _ _ h))
  | tup h _ => exact .base (.tup (e _ _ h))
section
variable {X : Cx} {e : Expr} {pos p p2 : Pos} {σ : L2.St} {S : Hp} {d : PyData} {T : String} {x : Str}
theorem vd_isi {t : Bool} (hm : X.mg "isinstance" = none) (hm2 : X.mg x = none) (hb : bootBuiltins x = some (.type T)) (ha : VD X e σ S d) (ht : kitB (tyD d) T = some t) (hg : Gl X "isinstance" := by rfl) (hg2 : Gl X x := by rfl)
    (h1 : starEach [e, .Name x p2] X.env = (false, eval e X.env) :: starEach [.Name x p2] X.env := by rfl) (h2 : starEach [.Name x p2] X.env = (false, eval (.Name x p2) X.env) :: starEach [] X.env := by rfl) (hpl : (backTo pos (starEach [.Name x p2] X.env)).any (·.1) = false := by rfl)
    (hn : x ≠ "__name__" := by decide) (hd : (x == ("__debug__" : Str)) = false := by decide) : VD X (.Call (.Name "isinstance" p) [e, .Name x p2] [] pos) σ S (.bool t) := by
  have pT : PE X (.Name x p2) (tC (.ty T)) := pe_bltn hg2 hm2 hb rfl hn hd
  refine vd_of (pe_callB call_isi hg hm (by decide +kernel) (pa_cons pe_ve (pa_cons pT pa_nil h2) h1) (by decide) (by decide) h1 hpl) fun H hS Q q => ha H hS _ fun v S1 H1 w1 p1 => ?_
  exact ⟨v, .ty T, _, _, t, rfl, .ty T, dd_ty p1 w1.within, kit_ty ht, q _ S1 H1 w1 (.bl t)⟩
end
end K22
/-! K22, text 11: fits, may_follow, completed, find_renaming -/
namespace K22
open PySem PySem.Spec PyProof.Rows L2 Evl
def dEar (X : Web) : PyData := .list ((List.range X.1).map fun v => dL ((nbr X v).filter fun x => decide (x ≤ v)))
theorem range_get {n i : Nat} {f : Nat → PyData} (h : i < n) : ((List.range n).map f)[i]? = some (f i) := by rw [List.getElem?_map, List.getElem?_range h]; rfl
theorem lenI {r : List Nat} : (((r.map dI).length : Nat) : Int) = ((r.length : Nat) : Int) := by rw [List.length_map]
section
variable {X : Cx} {a b e : Expr} {pos p : Pos} {σ : L2.St} {S H : Hp} {r : List Nat} {W : Web}
theorem vd_lenR (hm : X.mg "len" = none) (ha : VD X e σ S (dL r)) (hg : Gl X "len" := by rfl)
    (he : starEach [e] X.env = (false, eval e X.env) :: starEach [] X.env := by rfl) (hpl : (backTo pos (starEach [] X.env)).any (·.1) = false := by rfl) : VD X (.Call (.Name "len" p) [e] [] pos) σ S (dI r.length) := (vd_lenL hm ha hg he hpl).is (by rw [List.length_map]; rfl)
theorem vd_lenTR (hm : X.mg "len" = none) (ha : VD X e σ S (dT r)) (hg : Gl X "len" := by rfl)
    (he : starEach [e] X.env = (false, eval e X.env) :: starEach [] X.env := by rfl) (hpl : (backTo pos (starEach [] X.env)).any (·.1) = false := by rfl) : VD X (.Call (.Name "len" p) [e] [] pos) σ S (dI r.length) := (vd_lenT hm ha hg he hpl).is (by rw [List.length_map]; rfl)
theorem vd_ixR {n : Nat} (ha : VD X a σ S (dL r)) (hb : VD X b σ S (dI n)) (hn : n < r.length) (hp : PlainIx b := by exact fun _ _ => rfl) : VD X (.Subscript a b pos) σ S (dI (r.getD n 0)) := vd_ixL ha hb rfl (get_ints hn) hp
theorem vd_ixTR {n : Nat} (ha : VD X a σ S (dT r)) (hb : VD X b σ S (dI n)) (hn : n < r.length) (hp : PlainIx b := by exact fun _ _ => rfl) : VD X (.Subscript a b pos) σ S (dI (r.getD n 0)) := vd_ixT ha hb rfl (get_ints hn) hp
theorem vd_nbr {n : Nat} (ha : VD X a σ S (dNbr W)) (hb : VD X b σ S (dI n)) (hn : n < W.1) (hp : PlainIx b := by exact fun _ _ => rfl) : VD X (.Subscript a b pos) σ S (dL (nbr W n)) := vd_ixL ha hb rfl (range_get hn) hp
theorem vd_lenN (hm : X.mg "len" = none) (ha : VD X e σ S (dNbr W)) (hg : Gl X "len" := by rfl)
    (he : starEach [e] X.env = (false, eval e X.env) :: starEach [] X.env := by rfl) (hpl : (backTo pos (starEach [] X.env)).any (·.1) = false := by rfl) : VD X (.Call (.Name "len" p) [e] [] pos) σ S (dI W.1) := (vd_lenL hm ha hg he hpl).is (by rw [List.length_map, List.length_range]; rfl)
theorem vb_ltN {n m : Nat} (ha : VD X a σ S (dI n)) (hb : VD X b σ S (dI m)) : VB X (.Compare a [.Lt] [b] pos) σ S (decide (n < m)) := vb_is (vb_lt ha hb) (by rw [Bool.eq_iff_iff, decide_eq_true_eq, decide_eq_true_eq]; omega)
theorem vb_leN {n m : Nat} (ha : VD X a σ S (dI n)) (hb : VD X b σ S (dI m)) : VB X (.Compare a [.LtE] [b] pos) σ S (decide (n ≤ m)) := vb_is (vb_le ha hb) (by rw [Bool.eq_iff_iff, decide_eq_true_eq, decide_eq_true_eq]; omega)
theorem vb_eqN {n m : Nat} (ha : VD X a σ S (dI n)) (hb : VD X b σ S (dI m)) : VB X (.Compare a [.Eq] [b] pos) σ S (decide (n = m)) := vb_is (vb_eq ha hb) (by rw [Bool.eq_iff_iff, decide_eq_true_eq, decide_eq_true_eq]; omega)
theorem vb_neN {n m : Nat} (ha : VD X a σ S (dI n)) (hb : VD X b σ S (dI m)) : VB X (.Compare a [.NotEq] [b] pos) σ S (!decide (n = m)) := vb_is (vb_ne ha hb) (by congr 1; rw [Bool.eq_iff_iff, decide_eq_true_eq, decide_eq_true_eq]; omega)
end
theorem all_snoc {α : Type} {l : List α} {p : α → Bool} {i : Nat} {x : α} (h : l[i]? = some x) (ha : (l.take i).all p = true) (hx : p x = true) : (l.take (i + 1)).all p = true := by
  rw [take_snoc h, List.all_append, ha]
  simp [hx]
theorem all_false {α : Type} {l : List α} {p : α → Bool} {i : Nat} {x : α} (h : l[i]? = some x) (hx : p x = false) : l.all p = false := by
  rw [List.all_eq_false]
  exact ⟨x, List.mem_of_getElem? h, by rw [hx]; decide⟩
section
variable {P : Program} {w : World} {K : PySem.W.Frag} {mg : Str → Option Value} {base : Heap}
/-! ### fits -/
def prFits : PTr := fun ds R => ∃ (X A : Web) (row : List Nat) (v : Nat), ds = [dEar X, dNbr A, dL row, dI v] ∧ row.length < X.1 ∧ v < A.1 ∧ R (.bool (fitsP X A row v))
theorem scFits : FnScope ["earlier", "near", "row", "value", "node", "partner"] ["earlier", "near", "row", "value"] (defScope (topS 13)) := ⟨rfl, rfl, rfl, by decide +kernel, rfl, by decide +kernel, by decide +kernel⟩
theorem ok_fits (T : Txt K mg) : Fn P w K mg base 1 "fits" prFits := by
  refine def_ok T.fits scFits (fun ds R h => by obtain ⟨X, A, row, v, rfl, _⟩ := h; rfl) fun f cdv A outer s S H vs ds Q E hr hS hp h => ?_
  obtain ⟨X, B, row, v, rfl, hrow, hv, q⟩ := h
  obtain ⟨v1, v2, v3, v4, rfl, p1, p2, p3, p4⟩ := da4 hp
  let l := (nbr X row.length).filter fun x => decide (x ≤ row.length)
  let t : Nat → Bool := fun node => decide ((if node < row.length then row.getD node 0 else v) ∈ nbr B v)
  refine vs_cons (vs_forN (ds := l.map dI) 4 (pi_list pe_ve) (ew_list (vd_ixL (vd_var 0 p1) (vd_lenR T.b_len (vd_var 2 p3)) rfl (range_get hrow))) hS scFits.nd rfl
    (fun S1 i σ' H' => ∃ y4 y5, At S H S1 H' ∧ (l.take i).all t = true ∧ σ' = [some v1, some v2, some v3, some v4, y4, y5]) (fun S1 H1 w1 => ⟨none, none, ⟨w1⟩, rfl, rfl⟩) (fun S1 i σ' H' ⟨_, _, a, _⟩ => a.nw.within) (fun S1 i d x σ' H' H'' e hd h y => ?_) (fun S1 σ' H' e h => ?_))
  · obtain ⟨y4, y5, a, hall, rfl⟩ := h
    obtain ⟨S2, w2, px⟩ := y S1 (Ex.refl _) a.nw.within
    obtain ⟨node, hn, rfl⟩ := get_map hd
    have e2 : Ex S S2 := e.trans w2.st
    have hnode : node ≤ row.length := of_decide_eq_true (List.mem_filter.mp (List.mem_of_getElem? hn)).2
    refine vs_cons (vs_set 5 (d := dI (if node < row.length then row.getD node 0 else v)) (vd_if (vb_ltN (vd_var 4 px) (vd_lenR T.b_len (vd_var 2 (Dpm p3 e2)))) (fun ht => ?_) (fun hf => ?_)) w2.within (fun u S3 H3 w3 pu => ?_) scFits.nd)
    · have hlt := of_decide_eq_true ht
      rw [if_pos hlt]
      exact vd_ixR (vd_var 2 (Dpm p3 e2)) (vd_var 4 px) hlt
    · have hlt := of_decide_eq_false hf
      rw [if_neg hlt]
      exact vd_var 3 (Dpm p4 e2)
    · have e3 : Ex S S3 := e2.trans w3.st
      refine vs_last (vs_if (vb_niL (vd_var 5 pu) (vd_nbr (vd_var 1 (Dpm p2 e3)) (vd_var 3 (Dpm p4 e3)) hv)) w3.within (fun ht H4 e4 => ?_) fun hf H4 e4 => ?_)
      · have hno : t node = false := by
          have : (!t node) = true := ht
          simpa using this
        refine vs_last (vs_ret (vd_bool (b := false)) (w3.within.trans e4) fun v' S' H' w' p' => ?_)
        have hP : fitsP X B row v = false := all_false hn hno
        rw [hP] at q
        exact q v' S' H' ((((a.step w2).step w3).only e4).nw.trans w') p'
      · have hyes : t node = true := by
          have : (!t node) = false := hf
          simpa using this
        exact vs_nil ⟨_, _, (a.only (w2.hp.trans (w3.hp.trans e4))), all_snoc hn hall hyes, rfl⟩
  · obtain ⟨y4, y5, a, hall, rfl⟩ := h
    rw [List.length_map, List.take_length] at hall
    refine vs_last (vs_ret (vd_bool (b := true)) a.nw.within fun v' S' H' w' p' => ?_)
    have hP : fitsP X B row v = true := hall
    rw [hP] at q
    exact q v' S' H' (a.nw.trans w') p'
/-! ### may_follow -/
def prMay : PTr := fun ds R => ∃ (F G : Web) (row : List Nat) (p : Nat), ds = [dNbr F, dNbr G, dL row, dI p] ∧ row.length < F.1 ∧ p < G.1 ∧ R (.bool (mayB F G row p))
theorem scMay : FnScope ["first", "second", "row", "place", "node", "earlier", "number"] ["first", "second", "row", "place"] (defScope (topS 27)) := ⟨rfl, rfl, rfl, by decide +kernel, rfl, by decide +kernel, by decide +kernel⟩
theorem vd_adj {X : Cx} {a b : Expr} {pos : Pos} {σ : L2.St} {S : Hp} {W : Web} {n m : Nat} (ha : VD X a σ S (dI n)) (hb : VD X b σ S (dL (nbr W m))) (hm : behindInMarks .In b = false := by rfl) : VD X (.Compare a [.In] [b] pos) σ S (.bool (adjW W m n)) :=
  (vd_inL ha hb hm).is (by congr 1; rw [Bool.eq_iff_iff, decide_eq_true_eq]; exact mem_nbr)
theorem ok_may (T : Txt K mg) : Fn P w K mg base 1 "may_follow" prMay := by
  refine def_ok T.may_follow scMay (fun ds R h => by obtain ⟨X, A, row, v, rfl, _⟩ := h; rfl) fun f cdv A outer s S H vs ds Q E hr hS hp h => ?_
  obtain ⟨F, G, row, pl, rfl, hrow, hpl, q⟩ := h
  obtain ⟨v1, v2, v3, v4, rfl, p1, p2, p3, p4⟩ := da4 hp
  have no : ∀ {S1 H1 : Hp} {v' : V} {S' H' : Hp}, At S H S1 H1 → Nw S1 H1 S' H' → DD K S' v' (.bool false) → mayB F G row pl = false → Q v' H' := fun {S1 H1 v' S' H'} a w' p' hno => by
    rw [hno] at q
    exact q v' S' H' (a.nw.trans w') p'
  refine vs_cons (vs_set 4 (vd_lenR T.b_len (vd_var 2 p3)) hS (fun v5 S1 H1 w1 p5 => ?_) scMay.nd)
  have a1 : At S H S1 H1 := ⟨w1⟩
  refine vs_cons (vs_if (vb_or (vb_inL (vd_var 3 (Dpm p4 w1.st)) (vd_var 2 (Dpm p3 w1.st))) fun _ => vb_neN (vd_lenR T.b_len (vd_nbr (vd_var 0 (Dpm p1 w1.st)) (vd_var 4 p5) hrow)) (vd_lenR T.b_len (vd_nbr (vd_var 1 (Dpm p2 w1.st)) (vd_var 3 (Dpm p4 w1.st)) hpl))) w1.within (fun ht H2 e2 => ?_) fun hf H2 e2 => ?_)
  · refine vs_last (vs_ret (vd_bool (b := false)) (w1.within.trans e2) fun v' S' H' w' p' => no (a1.only e2) w' p' ?_)
    cases hm : mayB F G row pl with
    | false => rfl
    | true =>
      obtain ⟨m1, m2, _⟩ := may_iff.mp hm
      rw [decide_eq_false m1, decide_eq_true m2] at ht
      cases ht
  · have c1 : pl ∉ row ∧ (nbr F row.length).length = (nbr G pl).length := by
      rw [Bool.or_eq_false_iff] at hf
      exact ⟨of_decide_eq_false hf.1, by simpa using hf.2⟩
    refine vs_nil (vs_cons (vs_if (vb_neB (vd_adj (vd_var 4 p5) (vd_nbr (vd_var 0 (Dpm p1 w1.st)) (vd_var 4 p5) hrow)) (vd_adj (vd_var 3 (Dpm p4 w1.st)) (vd_nbr (vd_var 1 (Dpm p2 w1.st)) (vd_var 3 (Dpm p4 w1.st)) hpl))) (w1.within.trans e2) (fun ht H3 e3 => ?_) fun hf2 H3 e3 => ?_))
    · refine vs_last (vs_ret (vd_bool (b := false)) (w1.within.trans (e2.trans e3)) fun v' S' H' w' p' => no (a1.only (e2.trans e3)) w' p' ?_)
      cases hm : mayB F G row pl with
      | false => rfl
      | true =>
        obtain ⟨_, _, m3, _⟩ := may_iff.mp hm
        rw [m3] at ht
        simp at ht
    · have c2 : adjW F row.length row.length = adjW G pl pl := by simpa using hf2
      have a3 : At S H S1 H3 := a1.only (e2.trans e3)
      refine vs_nil (vs_cons (vs_for (pi_enumL T.b_enumerate) (pg_pair (i := 5) (j := 6) scMay.nd rfl) (ew_enumL (vda_cons (vd_var 2 (Dpm p3 w1.st)) vda_nil)) a3.nw.within rfl
        (fun S2 i σ' H' => ∃ y5 y6, At S H S2 H' ∧ (∀ j, j < i → adjW F row.length j = adjW G pl (row.getD j 0)) ∧ σ' = [some v1, some v2, some v3, some v4, some v5, y5, y6]) (fun S2 H2 w2 => ⟨none, none, a3.step w2, fun j hj => (by omega), rfl⟩) (fun S2 i σ' H' ⟨_, _, a, _⟩ => a.nw.within) (fun S2 i d x σ' H' H'' e hd h y => ?_) (fun S2 σ' H' e h => ?_)))
      · obtain ⟨y5, y6, a, hall, rfl⟩ := h
        obtain ⟨S3, w3, px⟩ := y S2 (Ex.refl _) a.nw.within
        obtain ⟨d', hd', rfl⟩ := enumD_get hd
        obtain ⟨n, hn, rfl⟩ := get_map hd'
        have ex3 : Ex S1 S3 := e.trans w3.st
        have hi : i < row.length := (List.getElem?_eq_some_iff.mp hn).1
        have en : row.getD i 0 = n := by rw [List.getD_eq_getElem?_getD, hn]; rfl
        refine g_pair w3.within px fun iv nv pi pn => ?_
        have pp1 := Dpm p1 (w1.st.trans ex3)
        have pp2 := Dpm p2 (w1.st.trans ex3)
        have pp4 := Dpm p4 (w1.st.trans ex3)
        refine vs_last (vs_if (vb_neB (vd_adj (vd_var 5 pi) (vd_nbr (vd_var 0 pp1) (vd_var 4 (Dpm p5 ex3)) hrow)) (vd_adj (vd_var 6 pn) (vd_nbr (vd_var 1 pp2) (vd_var 3 pp4) hpl))) w3.within (fun ht H4 e4 => ?_) fun hf3 H4 e4 => ?_)
        · refine vs_last (vs_ret (vd_bool (b := false)) (w3.within.trans e4) fun v' S' H' w' p' => no ((a.step w3).only e4) w' p' ?_)
          cases hm : mayB F G row pl with
          | false => rfl
          | true =>
            obtain ⟨_, _, _, m4⟩ := may_iff.mp hm
            have := m4 i hi
            rw [en] at this
            rw [this] at ht
            simp at ht
        · refine vs_nil ⟨_, _, a.only (w3.hp.trans e4), fun j hj => ?_, rfl⟩
          by_cases hji : j = i
          · rw [hji, en]; simpa using hf3
          · exact hall j (by omega)
      · obtain ⟨y5, y6, a, hall, rfl⟩ := h
        rw [enumD_len, List.length_map] at hall
        refine vs_last (vs_ret (vd_bool (b := true)) a.nw.within fun v' S' H' w' p' => ?_)
        have hP : mayB F G row pl = true := may_iff.mpr ⟨c1.1, c1.2, c2, hall⟩
        rw [hP] at q
        exact q v' S' H' (a.nw.trans w') p'
end
end K22
/-! K22, text 12: completed, find_renaming -/
namespace K22
open PySem PySem.Spec PyProof.Rows L2 Evl
def dOpt : Option (List Nat) → PyData
  | none => .none
  | some r => dT r
theorem take_none {α β : Type} {l : List α} {f : α → Option β} {i : Nat} {x : α} (h : l[i]? = some x) (h0 : (l.take i).findSome? f = none) (hx : f x = none) : (l.take (i + 1)).findSome? f = none := by
  rw [take_snoc h, List.findSome?_append, h0]
  simp [hx]
theorem find_first {α β : Type} {l : List α} {f : α → Option β} {i : Nat} {x : α} {r : β} (h : l[i]? = some x) (h0 : (l.take i).findSome? f = none) (hx : f x = some r) : l.findSome? f = some r := by
  have e : l = l.take (i + 1) ++ l.drop (i + 1) := (List.take_append_drop _ _).symm
  rw [e, List.findSome?_append, take_snoc h, List.findSome?_append, h0]
  simp [hx]
section
variable {P : Program} {w : World} {K : PySem.W.Frag} {mg : Str → Option Value} {base : Heap}
def prComp (j : Nat) : PTr := fun ds R => ∃ (F G : Web) (row : List Nat) (k : Nat), ds = [dNbr F, dNbr G, dL row] ∧ row.length + k = F.1 ∧ k < j ∧ F.1 ≤ 5 ∧ G.1 ≤ 5 ∧ R (dOpt (compR F G k row))
theorem scComp : FnScope ["first", "second", "row", "place", "found"] ["first", "second", "row"] (defScope (topS 28)) := ⟨rfl, rfl, rfl, by decide +kernel, rfl, by decide +kernel, by decide +kernel⟩
theorem comp_step (T : Txt K mg) {j n : Nat} (G0 : Fn P w K mg base n "completed" (prComp j)) (GM : Fn P w K mg base n "may_follow" prMay) : Fn P w K mg base (n + 1) "completed" (prComp (j + 1)) := by
  refine def_ok T.completed scComp (fun ds R h => by obtain ⟨F, G, row, k, rfl, _⟩ := h; rfl) fun f cdv A outer s S H vs ds Q E hr hS hp h => ?_
  obtain ⟨F, G, row, k, rfl, hl, hk, hF, hG, q⟩ := h
  obtain ⟨v1, v2, v3, rfl, p1, p2, p3⟩ := da3 hp
  refine vs_cons (vs_if (vb_eqN (vd_lenR T.b_len (vd_var 2 p3)) (vd_lenN T.b_len (vd_var 0 p1))) hS (fun ht H1 e1 => ?_) fun hf H1 e1 => ?_)
  · have e := of_decide_eq_true ht
    have k0 : k = 0 := by omega
    subst k0
    refine vs_last (vs_ret (d := dT row) (vd_tupleOf T.b_tuple (vd_var 2 p3) (.lst _)) (hS.trans e1) fun v' S' H' w' p' => ?_)
    exact q v' S' H' ((Nw.only hS e1).trans w') p'
  · have e := of_decide_eq_false hf
    obtain ⟨m, rfl⟩ : ∃ m, k = m + 1 := ⟨k - 1, by omega⟩
    let t : Nat → Option (List Nat) := fun p => if mayB F G row p then compR F G m (row ++ [p]) else none
    refine vs_nil (vs_cons (vs_forN 3 (pi_range1' T.b_range) (ew_range1 (vda_cons (vd_lenN T.b_len (vd_var 1 p2)) vda_nil) (by omega)) (hS.trans e1) scComp.nd rfl
      (fun S1 i σ' H' => ∃ y3 y4, At S H S1 H' ∧ ((List.range G.1).take i).findSome? t = none ∧ σ' = [some v1, some v2, some v3, y3, y4]) (fun S1 H2 w1 => ⟨none, none, (((At.refl hS).only e1).step w1), rfl, rfl⟩) (fun S1 i σ' H' ⟨_, _, a, _⟩ => a.nw.within) (fun S1 i d x σ' H' H'' e2 hd h y => ?_) (fun S1 σ' H' e2 h => ?_)))
    · obtain ⟨y3, y4, a, hno, rfl⟩ := h
      obtain ⟨S2, w2, px⟩ := y S1 (Ex.refl _) a.nw.within
      obtain ⟨p, hp', rfl⟩ := get_map hd
      have hpl : p < G.1 := List.mem_range.mp (List.mem_of_getElem? hp')
      have e3 : Ex S S2 := e2.trans w2.st
      have a2 := a.step w2
      refine vs_last (vs_if (vb_val (vd_call GM hr (vda_cons (vd_var 0 (Dpm p1 e3)) (vda_cons (vd_var 1 (Dpm p2 e3)) (vda_cons (vd_var 2 (Dpm p3 e3)) (vda_cons (vd_var 3 px) vda_nil)))) fun R h => ⟨F, G, row, p, rfl, by omega, hpl, h⟩)) w2.within (fun ht H3 e4 => ?_) fun hf2 H3 e4 => ?_)
      · refine vs_cons (vs_set 4 (d := dOpt (compR F G m (row ++ [p]))) (vd_call G0 hr (vda_cons (vd_var 0 (Dpm p1 e3)) (vda_cons (vd_var 1 (Dpm p2 e3)) (vda_cons (vd_cat (vd_var 2 (Dpm p3 e3)) (vd_lst (vda_cons (vd_var 3 px) vda_nil) (Nat.le_of_ble_eq_true rfl)) ?_) vda_nil))) fun R h => ⟨F, G, row ++ [p], m, ?_, ?_, ?_, hF, hG, h⟩) (w2.within.trans e4) (fun u S4 H4 w4 pu => ?_) scComp.nd)
        · rw [List.length_map]; simp; omega
        · show [dNbr F, dNbr G, _] = [dNbr F, dNbr G, dL (row ++ [p])]
          unfold dL
          rw [List.map_append]
          rfl
        · rw [List.length_append, List.length_singleton]; omega
        · omega
        · have a4 := (a2.only e4).step w4
          refine vs_last (vs_if (vb_notN (vd_var 4 pu)) w4.within (fun ht2 H5 e5 => ?_) fun hf3 H5 e5 => ?_)
          · cases hc : compR F G m (row ++ [p]) with
            | none => rw [hc] at ht2; cases ht2
            | some r =>
              refine vs_last (vs_ret (vd_var 4 pu) (w4.within.trans e5) fun v' S' H' w' p' => ?_)
              have hP : compR F G (m + 1) row = some r := find_first hp' hno (by show (if mayB F G row p then _ else _) = _; rw [if_pos ht]; exact hc)
              rw [hP] at q
              rw [hc] at p'
              exact q v' S' H' ((a4.only e5).nw.trans w') p'
          · cases hc : compR F G m (row ++ [p]) with
            | some r => rw [hc] at hf3; cases hf3
            | none => exact vs_nil ⟨_, _, a.only (w2.hp.trans (e4.trans (w4.hp.trans e5))), take_none hp' hno (by show (if mayB F G row p then _ else _) = _; rw [if_pos ht]; exact hc), rfl⟩
      · exact vs_nil ⟨_, _, a.only (w2.hp.trans e4), take_none hp' hno (by show (if mayB F G row p then _ else _) = _; rw [if_neg (by rw [hf2]; decide)]), rfl⟩
    · obtain ⟨y3, y4, a, hno, rfl⟩ := h
      rw [List.length_map, List.length_range, List.take_of_length_le (by rw [List.length_range]; exact Nat.le_refl _)] at hno
      refine vs_last (vs_ret vd_none a.nw.within fun v' S' H' w' p' => ?_)
      have hP : compR F G (m + 1) row = none := hno
      rw [hP] at q
      exact q v' S' H' (a.nw.trans w') p'
theorem comp_zero (T : Txt K mg) : Fn P w K mg base 1 "completed" (prComp 0) := by
  refine def_ok T.completed scComp (fun ds R h => by obtain ⟨F, G, row, k, _, _, h, _⟩ := h; omega) fun f cdv A outer s S H vs ds Q E hr hS hp h => ?_
  obtain ⟨F, G, row, k, _, _, h, _⟩ := h
  omega
theorem ok_comp (T : Txt K mg) : ∀ j, Fn P w K mg base (j + 1) "completed" (prComp j)
  | 0 => comp_zero T
  | j + 1 => comp_step T (ok_comp T j) ((ok_may T).mono (by omega))
/-! ### find_renaming -/
def prFind : PTr := fun ds R => ∃ A B : Web, ds = [dW A, dW B] ∧ WOk A ∧ WOk B ∧ R (dOpt (findRen A B))
theorem scFind : FnScope ["a", "b"] ["a", "b"] (defScope (topS 29)) := ⟨rfl, rfl, rfl, by decide +kernel, rfl, by decide +kernel, by decide +kernel⟩
theorem ok_find (T : Txt K mg) : Fn P w K mg base 8 "find_renaming" prFind := by
  have GC : Fn P w K mg base 7 "completed" (prComp 6) := ok_comp T 6
  have GN : Fn P w K mg base 7 "neighbour_rows" prNbr := (ok_nbr T).mono (by decide)
  refine def_ok T.find_renaming scFind (fun ds R h => by obtain ⟨A, B, rfl, _⟩ := h; rfl) fun f cdv A outer s S H vs ds Q E hr hS hp h => ?_
  obtain ⟨F, G, rfl, hF, hG, q⟩ := h
  obtain ⟨v1, v2, rfl, p1, p2⟩ := da2 hp
  have fn := hF.n
  have gn := hG.n
  refine vs_cons (vs_if (vb_neN (vd_web0 (vd_var 0 p1)) (vd_web0 (vd_var 1 p2))) hS (fun ht H1 e1 => ?_) fun hf H1 e1 => ?_)
  · refine vs_last (vs_ret vd_none (hS.trans e1) fun v' S' H' w' p' => ?_)
    have hne : F.1 ≠ G.1 := by simpa using ht
    unfold findRen at q
    rw [if_pos hne] at q
    exact q v' S' H' ((Nw.only hS e1).trans w') p'
  · have heq : F.1 = G.1 := by simpa using hf
    refine vs_nil (vs_cons (vs_unless (vb_is (vb_gt (vd_web0 (vd_var 0 p1)) (vd_glob T.c_renamed)) (decide_eq_false (by omega))) (hS.trans e1) fun H2 e2 => ?_))
    refine vs_cons (vs_if (vb_ne (vd_lenT T.b_len (vd_web1 (vd_var 0 p1))) (vd_lenT T.b_len (vd_web1 (vd_var 1 p2)))) (hS.trans (e1.trans e2)) (fun ht H3 e3 => ?_) fun hf2 H3 e3 => ?_)
    · refine vs_last (vs_ret vd_none (hS.trans (e1.trans (e2.trans e3))) fun v' S' H' w' p' => ?_)
      have hne : F.2.length ≠ G.2.length := fun z => by
        rw [List.length_map, List.length_map, z] at ht
        simp at ht
      unfold findRen at q
      rw [if_neg (fun h => h heq), if_pos hne] at q
      exact q v' S' H' ((Nw.only hS (e1.trans (e2.trans e3))).trans w') p'
    · have heq2 : F.2.length = G.2.length := by
        rw [List.length_map, List.length_map] at hf2
        have : ((F.2.length : Int) = (G.2.length : Int)) := by simpa using hf2
        omega
      refine vs_nil (vs_last (vs_ret (d := dOpt (findRen F G)) (vd_call GC hr (vda_cons (vd_call GN hr (vda_cons (vd_var 0 p1) vda_nil) fun R h => ⟨F, rfl, hF, h⟩) (vda_cons (vd_call GN hr (vda_cons (vd_var 1 p2) vda_nil) fun R h => ⟨G, rfl, hG, h⟩) (vda_cons (vd_lst vda_nil (Nat.zero_le _)) vda_nil))) fun R h => ⟨F, G, [], F.1, rfl, Nat.zero_add _, by omega, fn, gn, ?_⟩) (hS.trans (e1.trans (e2.trans e3))) fun v' S' H' w' p' => ?_))
      · unfold findRen at h
        rw [if_neg (fun h => h heq), if_neg (fun h => h heq2)] at h
        exact h
      · exact q v' S' H' ((Nw.only hS (e1.trans (e2.trans e3))).trans w') p'
end
end K22
/-! K22, text 13: the law's matrices and its own search -/
namespace K22
open PySem PySem.Spec PyProof.Rows L2 Evl
def dMat (n : Nat) (b : Adj) : PyData := .list ((List.range n).map fun i => .list ((List.range n).map fun j => .bool (b i j)))
theorem dMat_congr {n : Nat} {b c : Adj} (h : ∀ i j, i < n → j < n → b i j = c i j) : dMat n b = dMat n c := by
  unfold dMat
  congr 1
  refine List.map_congr_left fun i hi => ?_
  congr 1
  refine List.map_congr_left fun j hj => ?_
  rw [h i j (List.mem_range.mp hi) (List.mem_range.mp hj)]
section
variable {X : Cx} {a b c e : Expr} {pos p pos2 : Pos} {σ : L2.St} {S H : Hp} {r : List Nat} {n : Nat} {m : Adj}
theorem vd_mat {i j : Nat} (ha : VD X a σ S (dMat n m)) (hb : VD X b σ S (dI i)) (hc : VD X c σ S (dI j)) (hi : i < n) (hj : j < n) (hp : PlainIx b := by exact fun _ _ => rfl) (hp2 : PlainIx c := by exact fun _ _ => rfl) : VD X (.Subscript (.Subscript a b pos) c pos2) σ S (.bool (m i j)) :=
  vd_ixL (vd_ixL ha hb rfl (range_get hi) hp) hc rfl (range_get hj) hp2
theorem vd_lenM (hm : X.mg "len" = none) (ha : VD X e σ S (dMat n m)) (hg : Gl X "len" := by rfl)
    (he : starEach [e] X.env = (false, eval e X.env) :: starEach [] X.env := by rfl) (hpl : (backTo pos (starEach [] X.env)).any (·.1) = false := by rfl) : VD X (.Call (.Name "len" p) [e] [] pos) σ S (dI n) := (vd_lenL hm ha hg he hpl).is (by rw [List.length_map, List.length_range]; rfl)
/-- [False] * n, a new list -/
theorem ev_rep {j' : Nat} {p1 p2 : Pos} (hb : VD X b σ S (dI n)) (hn : n ≤ 100000) (hs : starEach [.Constant (.bool false) j' p1] X.env = (false, eval (.Constant (.bool false) j' p1) X.env) :: starEach [] X.env := by rfl) : EvL (VE X (.BinOp (.List [.Constant (.bool false) j' p1] p2) .Mult b pos)) σ S (List.replicate n (.bl false)) := fun H e Q q => by
  refine ve_of (pe_op op_rep (pe_lst (pa_cons pe_bl pa_nil hs)) pe_ve) ⟨by show 1 ≤ sizeLine; decide, fun l hl => ?_⟩
  have e1 : Ex H (upd H l (.lst [.bl false])) := Ex.new hl
  refine hb.ev_int _ (e.trans e1) _ fun H2 e2 => ⟨l, (n : Int), [.bl false], rfl, rfl, e2 _ _ upd_same, by omega, by omega, ?_, fun t ht => ?_⟩
  · show 1 * ((n : Int)).toNat ≤ sizeLine
    rw [Nat.one_mul]
    exact sz5 (by omega)
  · have ef : (List.replicate ((n : Int)).toNat [V.bl false]).flatten = List.replicate n (.bl false) := by
      show (List.replicate n [V.bl false]).flatten = _
      simp
    rw [ef]
    exact q t _ (fresh_back (e1.trans e2) ht) ((e1.trans e2).trans (Ex.new ht)) upd_same
end
section
variable {P : Program} {w : World} {K : PySem.W.Frag} {mg : Str → Option Value} {base : Heap}
/-! ### _law_matrix -/
def prMat : PTr := fun ds R => ∃ W : Web, ds = [dW W] ∧ WOk W ∧ R (dMat W.1 (adjW W))
abbrev nMat : List Str := ["_law_web_here", "_law_rows", "_law_edge", "_law_k"]
theorem scMat : FnScope nMat ["_law_web_here"] (defScope (topS 36)) := ⟨rfl, rfl, rfl, by decide +kernel, rfl, by decide +kernel, by decide +kernel⟩
def cm (n : Nat) (b : Adj) (v : Nat) : List V := (List.range n).map fun j => .bl (b v j)
def setA (b : Adj) (x y : Nat) : Adj := fun u v => b u v || (decide (u = x) && decide (v = y))
theorem cm_set {n : Nat} {b : Adj} {x y : Nat} : (cm n b x).set y (.bl true) = cm n (setA b x y) x := by
  refine List.ext_getElem (by simp [cm]) fun i h1 h2 => ?_
  have hi : i < n := by simpa [cm] using h2
  rw [List.getElem_set]
  unfold cm setA
  simp only [List.getElem_map, List.getElem_range]
  by_cases c : y = i
  · subst c; simp
  · have c' : ¬ i = y := fun z => c z.symm
    simp [c, c']
theorem cm_other {n : Nat} {b : Adj} {x y v : Nat} (h : v ≠ x) : cm n (setA b x y) v = cm n b v := by
  unfold cm setA
  refine List.map_congr_left fun j _ => ?_
  simp [h]
theorem adj_snoc (n : Nat) (es : List (Nat × Nat)) (e : Nat × Nat) : adjW (n, es ++ [e]) = setA (setA (adjW (n, es)) e.1 e.2) e.2 e.1 := by
  funext u v
  rw [Bool.eq_iff_iff, adjW_iff]
  unfold setA
  simp only [List.mem_append, List.mem_singleton, Bool.or_eq_true, Bool.and_eq_true, decide_eq_true_eq, adjW_iff, Prod.ext_iff]
  constructor
  · rintro ((h | h) | (h | h))
    · exact .inl (.inl (.inl h))
    · exact .inl (.inr h)
    · exact .inl (.inl (.inr h))
    · exact .inr ⟨h.2, h.1⟩
  · rintro (((h | h) | h) | h)
    · exact .inl (.inl h)
    · exact .inr (.inl h)
    · exact .inl (.inr h)
    · exact .inr (.inr ⟨h.2, h.1⟩)
theorem ok_mat (T : Txt K mg) : Fn P w K mg base 1 "_law_matrix" prMat := by
  refine def_ok T.law_matrix scMat (fun ds R h => by obtain ⟨W, rfl, _⟩ := h; rfl) fun f cdv A outer s S H vs ds Q E hr hS hp h => ?_
  obtain ⟨W, rfl, hW, q⟩ := h
  obtain ⟨v1, rfl, p1⟩ := da1 hp
  have hn5 := hW.n
  refine vs_cons (vs_rows 1 3 (List.replicate W.1 (.bl false)) (At.refl hS) (pi_range1' T.b_range) (ew_range1 (vda_cons (vd_web0 (vd_var 0 p1)) vda_nil) (by omega)) (by simp; omega) scMat.nd rfl (blkOk_by (N := nMat) (sc := defScope (topS 36)) (by decide +kernel)) (fun _ _ _ _ _ => pg_name scMat.nd rfl (Or.inl rfl))
    (fun v Si e s H0 C cl fp => ev_rep (vd_web0 (vd_var 0 (Dpm p1 e))) (by omega)) (fun L as S1 H1 e1 hl r => ?_) (sw_true rfl rfl rfl (by decide +kernel)))
  rw [List.length_map, List.length_range] at hl
  have r0 : Rw S H L as S1 H1 (cm W.1 (adjW (W.1, W.2.take 0))) := by
    have e0 : (fun _ : Nat => List.replicate W.1 (V.bl false)) = cm W.1 (adjW (W.1, W.2.take 0)) := by
      funext v
      unfold cm adjW
      simp [List.map_const']
    rw [← e0]; exact r
  refine vs_cons (vs_forN 2 (pi_tup pe_ve) (ew_tup (vd_web1 (vd_var 0 (Dpm p1 e1)))) r.within scMat.nd rfl
    (fun S2 i σ' H' => ∃ S3 y2, Rw S H L as S3 H' (cm W.1 (adjW (W.1, W.2.take i))) ∧ Ex S2 S3 ∧ σ' = [some v1, some (.ref L), y2, none]) (fun S2 H2 w2 => ⟨S2, none, r0.step w2, Ex.refl _, rfl⟩) (fun S2 i σ' H' ⟨S3, _, r, e, _⟩ => e.trans r.within) (fun S2 i d x σ' H' H'' e hd h y => ?_) (fun S2 σ' H' e h => ?_))
  · obtain ⟨S3, y2, r, e23, rfl⟩ := h
    obtain ⟨S4, w4, p4⟩ := y S3 e23 r.within
    obtain ⟨pr, hpr, rfl⟩ := get_map hd
    have hb := hW.lt pr (List.mem_of_getElem? hpr)
    have r4 := r.step w4
    have cl : ∀ b v, (cm W.1 b v).length = W.1 := fun b v => by unfold cm; simp
    have ix0 : ∀ {S' H' : Hp}, DD K S' x (dE pr) → Ex S' H' → Ev (VE (cxB P w K mg base nMat "_law_matrix" (defScope (topS 36)) f cdv A outer s H E) (.Subscript (.Name "_law_edge" ⟨142, 19, 142, 28⟩) (.Constant (.int 0) 0 ⟨142, 29, 142, 30⟩) ⟨142, 19, 142, 31⟩)) ([some v1, some (.ref L), y2, none].set 2 (some x)) H' (.int (pr.1 : Int)) := fun p e => vv_int (vd_ixT (n := 0) (vd_var 2 p) vd_int rfl rfl) e
    have a0 : as[pr.1]? = some as[pr.1] := List.getElem?_eq_getElem (by rw [hl]; exact hb.1)
    have a1 : as[pr.2]? = some as[pr.2] := List.getElem?_eq_getElem (by rw [hl]; exact hb.2)
    refine vs_cons (vs_put (m := as[pr.1]) (n := pr.2) (v := .bl true) (r4.row pr.1 _ a0) (vv_bool vd_bool r4.within) (vv_ixL (vv_var 1) r4.top (vv_int (vd_ixT (n := 0) (vd_var 2 p4) vd_int rfl rfl) r4.within) rfl (by rw [List.getElem?_map, a0]; rfl)) (vv_int (vd_ixT (n := 1) (vd_var 2 p4) vd_int rfl rfl) r4.within) (by rw [cl]; exact hb.2) fun H5 e5 => ?_)
    have r5 : Rw S H L as S4 (upd H5 as[pr.1] (.lst ((cm W.1 (adjW (W.1, W.2.take i)) pr.1).set pr.2 (.bl true)))) (cm W.1 (setA (adjW (W.1, W.2.take i)) pr.1 pr.2)) := (r4.only e5).put a0 cm_set.symm fun j hj => cm_other hj
    refine vs_last (vs_put (m := as[pr.2]) (n := pr.1) (v := .bl true) (r5.row pr.2 _ a1) (vv_bool vd_bool r5.within) (vv_ixL (vv_var 1) r5.top (vv_int (vd_ixT (n := 1) (vd_var 2 p4) vd_int rfl rfl) r5.within) rfl (by rw [List.getElem?_map, a1]; rfl)) (vv_int (vd_ixT (n := 0) (vd_var 2 p4) vd_int rfl rfl) r5.within) (by rw [cl]; exact hb.1) fun H6 e6 => ?_)
    refine ⟨S4, _, ?_, e23.trans w4.st, rfl⟩
    rw [take_snoc hpr, adj_snoc]
    exact (r5.only e6).put a1 cm_set.symm fun j hj => cm_other hj
  · obtain ⟨S3, y2, r, e23, rfl⟩ := h
    rw [List.length_map, List.take_length] at r
    obtain ⟨S5, a5, e5, pl⟩ := r.done (K := K) (fun v => (List.range W.1).map fun j => .bool (adjW W v j)) fun i _ S' => da_of_get (by unfold cm; simp) fun j v d h1 h2 => by
      unfold cm at h1
      obtain ⟨k, hk, rfl⟩ := get_map h2
      rw [List.getElem?_map, hk] at h1
      cases h1
      exact .bl _
    rw [hl] at pl
    exact vs_last (vs_ret (vd_var 1 pl) a5.nw.within fun v6 S6 H6 w6 p6 => q v6 S6 H6 (a5.nw.trans w6) p6)
/-! ### _law_fits -/
def prLFits : PTr := fun ds R => ∃ (n : Nat) (a : Adj) (m : Nat) (b : Adj) (row : List Nat) (v : Nat), ds = [dMat n a, dMat m b, dL row, dI v] ∧ row.length < n ∧ n ≤ 5 ∧ (∀ x ∈ row, x < m) ∧ v < m ∧ R (.bool (fitsB a b row v))
theorem scLFits : FnScope ["_law_x", "_law_near", "_law_row", "_law_value", "_law_node", "_law_k"] ["_law_x", "_law_near", "_law_row", "_law_value"] (defScope (topS 42)) := ⟨rfl, rfl, rfl, by decide +kernel, rfl, by decide +kernel, by decide +kernel⟩
theorem ok_lfits (T : Txt K mg) : Fn P w K mg base 1 "_law_fits" prLFits := by
  refine def_ok T.law_fits scLFits (fun ds R h => by obtain ⟨n, a, m, b, row, v, rfl, _⟩ := h; rfl) fun f cdv A outer s S H vs ds Q E hr hS hp h => ?_
  obtain ⟨n, a, m, b, row, v, rfl, hrow, hn5, hlt, hv, q⟩ := h
  obtain ⟨v1, v2, v3, v4, rfl, p1, p2, p3, p4⟩ := da4 hp
  refine vs_cons (vs_set 4 (vd_lenR T.b_len (vd_var 2 p3)) hS (fun v5 S1 H1 w1 p5 => ?_) scLFits.nd)
  have a1 : At S H S1 H1 := ⟨w1⟩
  refine vs_cons (vs_forN 5 (pi_range1' T.b_range) (ew_range1 (vda_cons (vd_var 4 p5) vda_nil) (by omega)) w1.within scLFits.nd rfl
    (fun S2 i σ' H' => ∃ y5, At S H S2 H' ∧ (∀ k, k < i → a k row.length = true → b (row.getD k 0) v = true) ∧ σ' = [some v1, some v2, some v3, some v4, some v5, y5]) (fun S2 H2 w2 => ⟨none, a1.step w2, fun k hk => (by omega), rfl⟩) (fun S2 i σ' H' ⟨_, a, _⟩ => a.nw.within) (fun S2 i d x σ' H' H'' e hd h y => ?_) (fun S2 σ' H' e h => ?_))
  · obtain ⟨y5, a2, hall, rfl⟩ := h
    obtain ⟨S3, w3, px⟩ := y S2 (Ex.refl _) a2.nw.within
    obtain ⟨k, hk, rfl⟩ := get_map hd
    have ek : k = i := by
      have hi : i < row.length := by
        have := (List.getElem?_eq_some_iff.mp hk).1
        simpa using this
      rw [List.getElem?_range hi] at hk
      exact (Option.some.inj hk).symm
    subst ek
    have hkr : k < row.length := List.mem_range.mp (List.mem_of_getElem? hk)
    have ex3 : Ex S S3 := w1.st.trans (e.trans w3.st)
    have pr := Dpm p3 ex3
    refine vs_last (vs_if (vb_and (vb_val (vd_mat (vd_var 0 (Dpm p1 ex3)) (vd_var 5 px) (vd_var 4 (Dpm p5 (e.trans w3.st))) (by omega) hrow)) fun _ => vb_not (vb_val (vd_mat (vd_var 1 (Dpm p2 ex3)) (vd_ixR (vd_var 2 pr) (vd_var 5 px) hkr) (vd_var 3 (Dpm p4 ex3)) (hlt _ (getD_mem hkr)) hv))) w3.within (fun ht H4 e4 => ?_) fun hf H4 e4 => ?_)
    · refine vs_last (vs_ret (vd_bool (b := false)) (w3.within.trans e4) fun v' S' H' w' p' => ?_)
      have hP : fitsB a b row v = false := by
        cases hm : fitsB a b row v with
        | false => rfl
        | true =>
          have := (fits_iff.mp hm).1 k hkr
          rw [Bool.and_eq_true, Bool.not_eq_true'] at ht
          rw [this ht.1] at ht
          cases ht.2
      rw [hP] at q
      exact q v' S' H' (((a2.step w3).only e4).nw.trans w') p'
    · refine vs_nil ⟨_, a2.only (w3.hp.trans e4), fun j hj hj2 => ?_, rfl⟩
      by_cases hjk : j = k
      · subst hjk
        rw [hj2, Bool.true_and] at hf
        simpa using hf
      · exact hall j (by omega) hj2
  · obtain ⟨y5, a2, hall, rfl⟩ := h
    rw [List.length_map, List.length_range] at hall
    have ex3 : Ex S S2 := w1.st.trans e
    refine vs_last (vs_ret (d := .bool (fitsB a b row v)) ((vd_or (vd_not (vd_mat (vd_var 0 (Dpm p1 ex3)) (vd_var 4 (Dpm p5 e)) (vd_var 4 (Dpm p5 e)) hrow hrow)) fun _ => vd_mat (vd_var 1 (Dpm p2 ex3)) (vd_var 3 (Dpm p4 ex3)) (vd_var 3 (Dpm p4 ex3)) hv hv).is ?_) a2.nw.within fun v' S' H' w' p' => q v' S' H' (a2.nw.trans w') p')
    congr 1
    rw [Bool.eq_iff_iff, fits_iff]
    constructor
    · intro h
      refine ⟨hall, fun e2 => ?_⟩
      rw [e2] at h
      simpa using h
    · intro h
      cases e2 : a row.length row.length with
      | false => rfl
      | true => rw [h.2 e2]; rfl
end
end K22
/-! K22, text 14: the law's own search: leads, homs, induced -/
namespace K22
open PySem PySem.Spec PyProof.Rows L2 Evl
theorem dL_snoc (row : List Nat) (v : Nat) : PyData.list (row.map dI ++ [dI v]) = dL (row ++ [v]) := by unfold dL; rw [List.map_append]; rfl
theorem any_snoc {α : Type} {l : List α} {p : α → Bool} {i : Nat} {x : α} (h : l[i]? = some x) (ha : (l.take i).any p = false) (hx : p x = false) : (l.take (i + 1)).any p = false := by
  rw [take_snoc h, List.any_append, ha]
  simp [hx]
theorem any_true {α : Type} {l : List α} {p : α → Bool} {i : Nat} {x : α} (h : l[i]? = some x) (hx : p x = true) : l.any p = true := List.any_eq_true.mpr ⟨x, List.mem_of_getElem? h, hx⟩
theorem take_all {α : Type} {l : List α} {n : Nat} (h : l.length = n) : l.take n = l := by rw [← h, List.take_length]
def leadsT (a b : Adj) (m k : Nat) (row : List Nat) (v : Nat) : Bool := fitsB a b row v && !(dfs a b m k (row ++ [v])).isEmpty
theorem leads_any (a b : Adj) (m k : Nat) (row : List Nat) : (!(dfs a b m (k + 1) row).isEmpty) = (List.range m).any (leadsT a b m k row) := by
  rw [Bool.eq_iff_iff, Bool.not_eq_true', List.any_eq_true]
  show (((List.range m).filter (fitsB a b row)).flatMap fun v => dfs a b m k (row ++ [v])).isEmpty = false ↔ _
  unfold leadsT
  constructor
  · intro h
    cases q : ((List.range m).filter (fitsB a b row)).flatMap fun v => dfs a b m k (row ++ [v]) with
    | nil => rw [q] at h; cases h
    | cons x t =>
      have hx : x ∈ ((List.range m).filter (fitsB a b row)).flatMap fun v => dfs a b m k (row ++ [v]) := by rw [q]; exact List.mem_cons_self
      obtain ⟨v, hv, hx⟩ := List.mem_flatMap.mp hx
      obtain ⟨h1, h2⟩ := List.mem_filter.mp hv
      refine ⟨v, h1, ?_⟩
      rw [h2, Bool.true_and]
      cases e : dfs a b m k (row ++ [v]) with
      | nil => rw [e] at hx; cases hx
      | cons _ _ => rfl
  · rintro ⟨v, hv, h⟩
    rw [Bool.and_eq_true] at h
    cases e : dfs a b m k (row ++ [v]) with
    | nil => rw [e] at h; cases h.2
    | cons x t =>
      have hx : x ∈ ((List.range m).filter (fitsB a b row)).flatMap fun v => dfs a b m k (row ++ [v]) := List.mem_flatMap.mpr ⟨v, List.mem_filter.mpr ⟨hv, h.1⟩, by rw [e]; exact List.mem_cons_self⟩
      cases q : ((List.range m).filter (fitsB a b row)).flatMap fun v => dfs a b m k (row ++ [v]) with
      | nil => rw [q] at hx; cases hx
      | cons _ _ => rfl
section
variable {P : Program} {w : World} {K : PySem.W.Frag} {mg : Str → Option Value} {base : Heap}
/-! ### _law_leads -/
def prLLeads (j : Nat) : PTr := fun ds R => ∃ (n : Nat) (a : Adj) (m : Nat) (b : Adj) (row : List Nat) (k : Nat), ds = [dMat n a, dMat m b, dL row] ∧ row.length + k = n ∧ k < j ∧ n ≤ 5 ∧ m ≤ 5 ∧ (∀ x ∈ row, x < m) ∧ R (.bool (!(dfs a b m k row).isEmpty))
theorem scLLeads : FnScope ["_law_x", "_law_near", "_law_row", "_law_value"] ["_law_x", "_law_near", "_law_row"] (defScope (topS 44)) := ⟨rfl, rfl, rfl, by decide +kernel, rfl, by decide +kernel, by decide +kernel⟩
theorem lleads_step (T : Txt K mg) {j n : Nat} (G0 : Fn P w K mg base n "_law_leads" (prLLeads j)) (GF : Fn P w K mg base n "_law_fits" prLFits) : Fn P w K mg base (n + 1) "_law_leads" (prLLeads (j + 1)) := by
  refine def_ok T.law_leads scLLeads (fun ds R h => by obtain ⟨n, a, m, b, row, k, rfl, _⟩ := h; rfl) fun f cdv A outer s S H vs ds Q E hr hS hp h => ?_
  obtain ⟨n, a, m, b, row, k, rfl, hl, hk, hn, hm, hlt, q⟩ := h
  obtain ⟨v1, v2, v3, rfl, p1, p2, p3⟩ := da3 hp
  refine vs_cons (vs_if (vb_eqN (vd_lenR T.b_len (vd_var 2 p3)) (vd_lenM T.b_len (vd_var 0 p1))) hS (fun ht H1 e1 => ?_) fun hf H1 e1 => ?_)
  · have e := of_decide_eq_true ht
    have k0 : k = 0 := by omega
    subst k0
    exact vs_last (vs_ret (vd_bool (b := true)) (hS.trans e1) fun v' S' H' w' p' => q v' S' H' ((Nw.only hS e1).trans w') p')
  · have e := of_decide_eq_false hf
    obtain ⟨k', rfl⟩ : ∃ k', k = k' + 1 := ⟨k - 1, by omega⟩
    rw [leads_any] at q
    refine vs_nil (vs_cons (vs_forN 3 (pi_range1' T.b_range) (ew_range1 (vda_cons (vd_lenM T.b_len (vd_var 1 p2)) vda_nil) (by omega)) (hS.trans e1) scLLeads.nd rfl
      (fun S1 i σ' H' => ∃ y3, At S H S1 H' ∧ ((List.range m).take i).any (leadsT a b m k' row) = false ∧ σ' = [some v1, some v2, some v3, y3]) (fun S1 H2 w1 => ⟨none, (((At.refl hS).only e1).step w1), rfl, rfl⟩) (fun S1 i σ' H' ⟨_, a, _⟩ => a.nw.within) (fun S1 i d x σ' H' H'' e2 hd h y => ?_) (fun S1 σ' H' e2 h => ?_)))
    · obtain ⟨y3, at1, hno, rfl⟩ := h
      obtain ⟨S2, w2, px⟩ := y S1 (Ex.refl _) at1.nw.within
      obtain ⟨p, hp', rfl⟩ := get_map hd
      have hpl : p < m := List.mem_range.mp (List.mem_of_getElem? hp')
      have e3 : Ex S S2 := e2.trans w2.st
      have a2 := at1.step w2
      refine vs_last (vs_if (vb_and (vb_val (vd_call GF hr (vda_cons (vd_var 0 (Dpm p1 e3)) (vda_cons (vd_var 1 (Dpm p2 e3)) (vda_cons (vd_var 2 (Dpm p3 e3)) (vda_cons (vd_var 3 px) vda_nil)))) fun R h => ⟨n, a, m, b, row, p, rfl, by omega, hn, hlt, hpl, h⟩)) fun ht =>
        vb_val (t := !(dfs a b m k' (row ++ [p])).isEmpty) (vd_call G0 hr (vda_cons (vd_var 0 (Dpm p1 e3)) (vda_cons (vd_var 1 (Dpm p2 e3)) (vda_cons (vd_cat (vd_var 2 (Dpm p3 e3)) (vd_lst (vda_cons (vd_var 3 px) vda_nil) (Nat.le_of_ble_eq_true rfl)) ?_) vda_nil))) fun R h => ⟨n, a, m, b, row ++ [p], k', ?_, ?_, ?_, hn, hm, ?_, h⟩)) w2.within (fun ht H3 e4 => ?_) fun hf2 H3 e4 => ?_)
      · rw [List.length_map]; simp; try omega
      · rw [← dL_snoc]; try rfl
      · rw [List.length_append, List.length_singleton]; omega
      · omega
      · intro x hx
        rcases List.mem_append.mp hx with hx | hx
        · exact hlt x hx
        · rw [List.mem_singleton.mp hx]; exact hpl
      · refine vs_last (vs_ret (vd_bool (b := true)) (w2.within.trans e4) fun v' S' H' w' p' => ?_)
        rw [any_true hp' ht] at q
        exact q v' S' H' ((a2.only e4).nw.trans w') p'
      · exact vs_nil ⟨_, at1.only (w2.hp.trans e4), any_snoc hp' hno hf2, rfl⟩
    · obtain ⟨y3, a, hno, rfl⟩ := h
      rw [take_all (by simp)] at hno
      refine vs_last (vs_ret (vd_bool (b := false)) a.nw.within fun v' S' H' w' p' => ?_)
      rw [hno] at q
      exact q v' S' H' (a.nw.trans w') p'
theorem lleads_zero (T : Txt K mg) : Fn P w K mg base 1 "_law_leads" (prLLeads 0) := by
  refine def_ok T.law_leads scLLeads (fun ds R h => by obtain ⟨n, a, m, b, row, k, _, _, h, _⟩ := h; omega) fun f cdv A outer s S H vs ds Q E hr hS hp h => ?_
  obtain ⟨n, a, m, b, row, k, _, _, h, _⟩ := h
  omega
theorem ok_lleads (T : Txt K mg) : ∀ j, Fn P w K mg base (j + 1) "_law_leads" (prLLeads j)
  | 0 => lleads_zero T
  | j + 1 => lleads_step T (ok_lleads T j) ((ok_lfits T).mono (by omega))
/-! ### _law_homs -/
def extR (a b : Adj) (m : Nat) (row : List Nat) : List (List Nat) := ((List.range m).filter (fitsB a b row)).map fun v => row ++ [v]
theorem ext_len (a b : Adj) (m : Nat) (row : List Nat) : (extR a b m row).length ≤ m := by
  unfold extR
  rw [List.length_map]
  exact Nat.le_trans (List.length_filter_le _ _) (by rw [List.length_range]; exact Nat.le_refl _)
theorem flat_len {α β : Type} (f : α → List β) (m : Nat) (h : ∀ x, (f x).length ≤ m) : ∀ l : List α, (l.flatMap f).length ≤ l.length * m
  | [] => by simp
  | x :: l => by
    have h1 := h x
    have h2 := flat_len f m h l
    rw [List.flatMap_cons, List.length_append, List.length_cons, Nat.succ_mul]
    omega
theorem bfs_len (a b : Adj) (m : Nat) : ∀ k, (bfs a b m k).length ≤ m ^ k
  | 0 => Nat.le_refl _
  | k + 1 => by
    have h1 := flat_len (extR a b m) m (ext_len a b m) (bfs a b m k)
    have h2 := bfs_len a b m k
    show ((bfs a b m k).flatMap (extR a b m)).length ≤ _
    rw [Nat.pow_succ]
    exact Nat.le_trans h1 (Nat.mul_le_mul_right m h2)
theorem mem_bfs {a b : Adj} {m : Nat} : ∀ {k : Nat} {row : List Nat}, row ∈ bfs a b m k → row.length = k ∧ ∀ x ∈ row, x < m
  | 0, row, h => by
    rw [show bfs a b m 0 = [[]] from rfl, List.mem_singleton] at h
    subst h
    exact ⟨rfl, by simp⟩
  | k + 1, row, h => by
    obtain ⟨r, hr, h⟩ := List.mem_flatMap.mp (show row ∈ (bfs a b m k).flatMap (extR a b m) from h)
    obtain ⟨v, hv, rfl⟩ := List.mem_map.mp h
    obtain ⟨h1, h2⟩ := mem_bfs hr
    refine ⟨by rw [List.length_append, h1]; rfl, fun x hx => ?_⟩
    rcases List.mem_append.mp hx with hx | hx
    · exact h2 x hx
    · rw [List.mem_singleton.mp hx]; exact List.mem_range.mp (List.mem_filter.mp hv).1
def prLHoms : PTr := fun ds R => ∃ (n : Nat) (a : Adj) (m : Nat) (b : Adj), ds = [dMat n a, dMat m b] ∧ n ≤ 5 ∧ m ≤ 5 ∧ R (.list ((homsL n a m b).map dL))
abbrev nLHoms : List Str := ["_law_x", "_law_near", "_law_rows", "_law_k", "_law_longer", "_law_row", "_law_value"]
theorem scLHoms : FnScope nLHoms ["_law_x", "_law_near"] (defScope (topS 43)) := ⟨rfl, rfl, rfl, by decide +kernel, rfl, by decide +kernel, by decide +kernel⟩
theorem filter_snoc {α : Type} {l : List α} {p : α → Bool} {i : Nat} {x : α} (h : l[i]? = some x) : (l.take (i + 1)).filter p = (l.take i).filter p ++ (if p x then [x] else []) := by
  rw [take_snoc h, List.filter_append, List.filter_cons, List.filter_nil]
theorem ok_lhoms (T : Txt K mg) : Fn P w K mg base 2 "_law_homs" prLHoms := by
  have GF : Fn P w K mg base 1 "_law_fits" prLFits := ok_lfits T
  refine def_ok T.law_homs scLHoms (fun ds R h => by obtain ⟨n, a, m, b, rfl, _⟩ := h; rfl) fun f cdv A outer s S H vs ds Q E hr hS hp h => ?_
  obtain ⟨n, a, m, b, rfl, hn, hm, q⟩ := h
  obtain ⟨v1, v2, rfl, p1, p2⟩ := da2 hp
  rw [homs_bfs] at q
  refine vs_cons (vs_set 2 (d := .list ((bfs a b m 0).map dL)) (vd_lst (vda_cons (vd_lst vda_nil (Nat.zero_le _)) vda_nil) (Nat.le_of_ble_eq_true rfl)) hS (fun v3 S1 H1 w1 p3 => ?_) scLHoms.nd)
  refine vs_cons (vs_forN 3 (pi_range1' T.b_range) (ew_range1 (vda_cons (vd_lenM T.b_len (vd_var 0 (Dpm p1 w1.st))) vda_nil) (by omega)) w1.within scLHoms.nd rfl
    (fun S2 i σ' H' => ∃ S3 u y3 y4 y5 y6, At S H S3 H' ∧ Ex S2 S3 ∧ DD K S3 u (.list ((bfs a b m i).map dL)) ∧ σ' = [some v1, some v2, some u, y3, y4, y5, y6]) (fun S2 H2 w2 => ⟨S2, v3, none, none, none, none, (⟨w1.trans w2⟩), Ex.refl _, Dpm p3 w2.st, rfl⟩) (fun S2 i σ' H' ⟨_, _, _, _, _, _, a, e, _⟩ => e.trans a.nw.within) (fun S2 i d x σ' H' H'' e2 hd h y => ?_) (fun S2 σ' H' e2 h => ?_))
  · obtain ⟨S3, u, y3, y4, y5, y6, at3, e23, pu, rfl⟩ := h
    obtain ⟨S4, w4, px⟩ := y S3 e23 at3.nw.within
    have hi : i < n := by
      have := (List.getElem?_eq_some_iff.mp hd).1
      simpa using this
    have hpow : m ^ i ≤ 3125 := pow_le (by omega) hm
    have hlen := bfs_len a b m i
    refine vs_cons (vs_newL 4 (fun l hl => ?_) scLHoms.nd)
    have g0 : Gw K S H l S4 (upd H'' l (.lst [])) [] := Gw.start (at3.step w4) hl
    have e4 : Ex S S4 := w1.st.trans (e2.trans (e23.trans w4.st))
    refine vs_cons (vs_forN 5 (pi_list pe_ve) (ew_list (vd_listOf T.b_list (vd_var 2 (Dpm pu w4.st)) (.lst _))) g0.within scLHoms.nd rfl
      (fun S5 j σ' H' => ∃ S6 y5 y6, Gw K S H l S6 H' ((((bfs a b m i).take j).flatMap (extR a b m)).map dL) ∧ Ex S5 S6 ∧ σ' = [some v1, some v2, some u, some x, some (.ref l), y5, y6]) (fun S5 H5 w5 => ⟨S5, y5, y6, g0.step w5, Ex.refl _, rfl⟩) (fun S5 j σ' H' ⟨_, _, _, g, e, _⟩ => e.trans g.within) (fun S5 j d x5 σ' H5 H6 e5 hd5 h y => ?_) (fun S5 σ' H' e5 h => ?_))
    · obtain ⟨S6, y5, y6, g, e56, rfl⟩ := h
      obtain ⟨S7, w7, px7⟩ := y S6 e56 g.within
      obtain ⟨row, hrow, rfl⟩ := get_map hd5
      obtain ⟨hrl, hrm⟩ := mem_bfs (List.mem_of_getElem? hrow)
      have hj : j < (bfs a b m i).length := (List.getElem?_eq_some_iff.mp hrow).1
      have g7 := g.step w7
      have e7 : Ex S S7 := e4.trans (e5.trans (e56.trans w7.st))
      have hbase : (((bfs a b m i).take j).flatMap (extR a b m)).length ≤ 15625 := by
        have h1 := flat_len (extR a b m) m (ext_len a b m) ((bfs a b m i).take j)
        have h2 : ((bfs a b m i).take j).length ≤ 3125 := by rw [List.length_take]; omega
        have h3 := Nat.mul_le_mul h2 hm
        omega
      refine vs_last (vs_forN 6 (pi_range1' T.b_range) (ew_range1 (vda_cons (vd_lenM T.b_len (vd_var 1 (Dpm p2 e7))) vda_nil) (by omega)) g7.within scLHoms.nd rfl
        (fun S8 t σ' H' => ∃ S9 y6, Gw K S H l S9 H' ((((bfs a b m i).take j).flatMap (extR a b m) ++ (((List.range m).take t).filter (fitsB a b row)).map fun v => row ++ [v]).map dL) ∧ Ex S8 S9 ∧ σ' = [some v1, some v2, some u, some x, some (.ref l), some x5, y6]) (fun S8 H8 w8 => ⟨S8, y6, ?_, Ex.refl _, rfl⟩) (fun S8 t σ' H' ⟨_, _, g, e, _⟩ => e.trans g.within) (fun S8 t d x8 σ' H8 H9 e8 hd8 h y => ?_) (fun S8 σ' H' e8 h => ?_))
      · rw [List.take_zero, List.filter_nil, List.map_nil, List.append_nil]
        exact g7.step w8
      · obtain ⟨S9, y6, g9, e89, rfl⟩ := h
        obtain ⟨S10, w10, px10⟩ := y S9 e89 g9.within
        obtain ⟨v, hv, rfl⟩ := get_map hd8
        have hvm : v < m := List.mem_range.mp (List.mem_of_getElem? hv)
        have e10 : Ex S7 S10 := e8.trans (e89.trans w10.st)
        have g10 := g9.step w10
        have px7' := Dpm px7 e10
        have hfl := List.length_filter_le (fitsB a b row) ((List.range m).take t)
        have hfl2 : ((List.range m).take t).length ≤ m := by rw [List.length_take, List.length_range]; omega
        refine vs_last (vs_if (vb_val (vd_call GF hr (vda_cons (vd_var 0 (Dpm p1 (e7.trans e10))) (vda_cons (vd_var 1 (Dpm p2 (e7.trans e10))) (vda_cons (vd_var 5 px7') (vda_cons (vd_var 6 px10) vda_nil)))) fun R h => ⟨n, a, m, b, row, v, rfl, by omega, hn, hrm, hvm, h⟩)) w10.within (fun ht H11 e11 => ?_) fun hf H11 e11 => ?_)
        · refine vs_last (vs_appG (d := dL (row ++ [v])) (g10.only e11) (vv_var 4) ((vd_cat (vd_var 5 px7') (vd_lst (vda_cons (vd_var 6 px10) vda_nil) (Nat.le_of_ble_eq_true rfl)) ?_).is (dL_snoc row v)) ?_ fun S12 H12 g12 e12 => ⟨S12, _, ?_, e89.trans (w10.st.trans e12), rfl⟩)
          · rw [List.length_map]; simp; omega
          · rw [List.length_map, List.length_append, List.length_map]; omega
          · rw [filter_snoc hv, if_pos ht, List.map_append (l₂ := [v]), ← List.append_assoc, List.map_append (l₂ := List.map (fun v => row ++ [v]) [v])]
            exact g12
        · refine vs_nil ⟨S10, _, ?_, e89.trans w10.st, rfl⟩
          rw [filter_snoc hv, if_neg (by rw [hf]; decide), List.append_nil]
          exact g10.only e11
      · obtain ⟨S9, y6, g9, e89, rfl⟩ := h
        refine ⟨S9, _, _, ?_, e56.trans (w7.st.trans (e8.trans e89)), rfl⟩
        rw [take_all (l := List.range m) (n := ((List.range m).map dI).length) (by simp)] at g9
        rw [take_snoc hrow, List.flatMap_append, List.flatMap_singleton]
        exact g9
    · obtain ⟨S6, y5, y6, g, e56, rfl⟩ := h
      rw [List.length_map, List.take_length] at g
      obtain ⟨S7, a7, e67, pl⟩ := g.done
      refine vs_last (vs_set 2 (vd_var 4 pl) a7.nw.within (fun v8 S8 H8 w8 p8 => ⟨S8, v8, _, _, _, _, a7.step w8, ?_, p8, rfl⟩) scLHoms.nd)
      exact e23.trans (w4.st.trans (e5.trans (e56.trans (e67.trans w8.st))))
  · obtain ⟨S3, u, y3, y4, y5, y6, at3, e23, pu, rfl⟩ := h
    rw [List.length_map, List.length_range] at pu
    exact vs_last (vs_ret (vd_var 2 pu) at3.nw.within fun v' S' H' w' p' => q v' S' H' (at3.nw.trans w') p')
/-! ### _law_induced -/
def pairR (n : Nat) (c : Adj) (u : Nat) : List (Nat × Nat) := ((List.range' u (n - u)).filter (c u)).map fun v => (u, v)
theorem canon_flat (n : Nat) (c : Adj) : canonE n c = (List.range n).flatMap (pairR n c) := by
  unfold canonE pairR
  rfl
theorem pairR_len (n : Nat) (c : Adj) (u : Nat) : (pairR n c u).length ≤ n := by
  unfold pairR
  rw [List.length_map]
  refine Nat.le_trans (List.length_filter_le _ _) ?_
  rw [List.length_range']
  omega
def prLInd : PTr := fun ds R => ∃ (n : Nat) (a : Adj) (s : List Nat) (d : PyData), ds = [dMat n a, d] ∧ Items d (s.map dI) ∧ s.length ≤ 5 ∧ (∀ x ∈ s, x < n) ∧ R (dW (s.length, canonE s.length (ind a s)))
abbrev nLInd : List Str := ["_law_near", "_law_nodes", "_law_edges", "_law_u", "_law_v"]
theorem scLInd : FnScope nLInd ["_law_near", "_law_nodes"] (defScope (topS 45)) := ⟨rfl, rfl, rfl, by decide +kernel, rfl, by decide +kernel, by decide +kernel⟩
section
variable {X : Cx} {a b e : Expr} {pos p : Pos} {σ : L2.St} {S H : Hp} {r : List Nat} {d : PyData}
theorem vd_lenS (hm : X.mg "len" = none) (ha : VD X e σ S d) (hi : Items d (r.map dI)) (hg : Gl X "len" := by rfl)
    (he : starEach [e] X.env = (false, eval e X.env) :: starEach [] X.env := by rfl) (hpl : (backTo pos (starEach [] X.env)).any (·.1) = false := by rfl) : VD X (.Call (.Name "len" p) [e] [] pos) σ S (dI r.length) := by
  have e : ((r.map dI).length : Int) = (r.length : Int) := by rw [List.length_map]
  have e2 : PyData.int ((r.map dI).length : Int) = dI r.length := by rw [e]; rfl
  generalize hq : r.map dI = ds at hi e2
  cases hi with
  | lst => exact (vd_lenL hm ha hg he hpl).is e2
  | tup => exact (vd_lenT hm ha hg he hpl).is e2
theorem vd_ixS {n : Nat} (ha : VD X a σ S d) (hi : Items d (r.map dI)) (hb : VD X b σ S (dI n)) (hn : n < r.length) (hp : PlainIx b := by exact fun _ _ => rfl) : VD X (.Subscript a b pos) σ S (dI (r.getD n 0)) := by
  have e := get_ints hn
  generalize hq : r.map dI = ds at hi e
  cases hi with
  | lst => exact vd_ixL ha hb rfl e hp
  | tup => exact vd_ixT ha hb rfl e hp
end
theorem pi_range2' {X : Cx} {tg a b : Expr} {p pos : Pos} (hm : X.mg "range" = none) (hg : Gl X "range" := by rfl) (hs : starEach [a, b] X.env = [(false, eval a X.env), (false, eval b X.env)] := by rfl) (hs2 : starEach [b] X.env = [(false, eval b X.env)] := by rfl) : PI X tg (.Call (.Name "range" p) [a, b] [] pos) (iRng2 (VA X [a, b])) := pi_range2 hg hm pa_va hs hs2
theorem ok_lind (T : Txt K mg) : Fn P w K mg base 1 "_law_induced" prLInd := by
  refine def_ok T.law_induced scLInd (fun ds R h => by obtain ⟨n, a, m, b, rfl, _⟩ := h; rfl) fun f cdv A outer s S H vs ds Q E hr hS hp h => ?_
  obtain ⟨n, a, t, d, rfl, hi, ht5, hlt, q⟩ := h
  obtain ⟨v1, v2, rfl, p1, p2⟩ := da2 hp
  refine vs_cons (vs_newL 2 (fun l hl => ?_) scLInd.nd)
  have g0 : Gw K S H l S (upd H l (.lst [])) [] := Gw.start (At.refl hS) hl
  refine vs_cons (vs_forN 3 (pi_range1' T.b_range) (ew_range1 (vda_cons (vd_lenS T.b_len (vd_var 1 p2) hi) vda_nil) (by omega)) g0.within scLInd.nd rfl
    (fun S2 i σ' H' => ∃ S3 y3 y4, Gw K S H l S3 H' ((((List.range t.length).take i).flatMap (pairR t.length (ind a t))).map dE) ∧ Ex S2 S3 ∧ σ' = [some v1, some v2, some (.ref l), y3, y4]) (fun S2 H2 w2 => ⟨S2, none, none, g0.step w2, Ex.refl _, rfl⟩) (fun S2 i σ' H' ⟨_, _, _, g, e, _⟩ => e.trans g.within) (fun S2 i d3 x σ' H' H'' e2 hd h y => ?_) (fun S2 σ' H' e2 h => ?_))
  · obtain ⟨S3, y3, y4, g, e23, rfl⟩ := h
    obtain ⟨S4, w4, px⟩ := y S3 e23 g.within
    obtain ⟨u, hu, rfl⟩ := get_map hd
    have hut : u < t.length := List.mem_range.mp (List.mem_of_getElem? hu)
    have g4 := g.step w4
    have e4 : Ex S S4 := e2.trans (e23.trans w4.st)
    have hbase : (((List.range t.length).take i).flatMap (pairR t.length (ind a t))).length ≤ 25 := by
      have h1 := flat_len (pairR t.length (ind a t)) t.length (pairR_len t.length (ind a t)) ((List.range t.length).take i)
      have h2 : ((List.range t.length).take i).length ≤ 5 := by rw [List.length_take, List.length_range]; omega
      have h3 := Nat.mul_le_mul h2 ht5
      omega
    refine vs_last (vs_forN 4 (pi_range2' T.b_range) (ew_range2 (vda_cons (vd_var 3 px) (vda_cons (vd_lenS T.b_len (vd_var 1 (Dpm p2 e4)) hi) vda_nil)) (by omega)) g4.within scLInd.nd rfl
      (fun S5 j σ' H' => ∃ S6 y4, Gw K S H l S6 H' ((((List.range t.length).take i).flatMap (pairR t.length (ind a t)) ++ (((List.range' u (t.length - u)).take j).filter (ind a t u)).map fun v => (u, v)).map dE) ∧ Ex S5 S6 ∧ σ' = [some v1, some v2, some (.ref l), some x, y4]) (fun S5 H5 w5 => ⟨S5, y4, ?_, Ex.refl _, rfl⟩) (fun S5 j σ' H' ⟨_, _, g, e, _⟩ => e.trans g.within) (fun S5 j d5 x5 σ' H5 H6 e5 hd5 h y => ?_) (fun S5 σ' H' e5 h => ?_))
    · rw [List.take_zero, List.filter_nil, List.map_nil, List.append_nil]
      exact g4.step w5
    · obtain ⟨S6, y4, g6, e56, rfl⟩ := h
      obtain ⟨S7, w7, px7⟩ := y S6 e56 g6.within
      obtain ⟨v, hv, rfl⟩ := get_map hd5
      have hvt : v < t.length := by
        have := List.mem_range'_1.mp (List.mem_of_getElem? hv)
        omega
      have e7 : Ex S4 S7 := e5.trans (e56.trans w7.st)
      have g7 := g6.step w7
      refine vs_last (vs_if (vb_val (vd_mat (vd_var 0 (Dpm p1 (e4.trans e7))) (vd_ixS (vd_var 1 (Dpm p2 (e4.trans e7))) hi (vd_var 3 (Dpm px e7)) hut) (vd_ixS (vd_var 1 (Dpm p2 (e4.trans e7))) hi (vd_var 4 px7) hvt) (hlt _ (getD_mem hut)) (hlt _ (getD_mem hvt)))) w7.within (fun ht H8 e8 => ?_) fun hf H8 e8 => ?_)
      · have hfl := List.length_filter_le (ind a t u) ((List.range' u (t.length - u)).take j)
        have hfl2 : ((List.range' u (t.length - u)).take j).length ≤ 5 := by rw [List.length_take, List.length_range']; omega
        refine vs_last (vs_appG (d := dE (u, v)) (g7.only e8) (vv_var 2) (vd_tup (vda_cons (vd_var 3 (Dpm px e7)) (vda_cons (vd_var 4 px7) vda_nil)) (Nat.le_of_ble_eq_true rfl)) ?_ fun S9 H9 g9 e9 => ⟨S9, _, ?_, e56.trans (w7.st.trans e9), rfl⟩)
        · rw [List.length_map, List.length_append, List.length_map]; omega
        · have ht' : ind a t u v = true := ht
          rw [filter_snoc hv, if_pos ht', List.map_append (l₂ := [v]), ← List.append_assoc, List.map_append (l₂ := List.map (fun v => (u, v)) [v])]
          exact g9
      · refine vs_nil ⟨S7, _, ?_, e56.trans w7.st, rfl⟩
        have hf' : ind a t u v = false := hf
        rw [filter_snoc hv, if_neg (by rw [hf']; decide), List.append_nil]
        exact g7.only e8
    · obtain ⟨S6, y4, g6, e56, rfl⟩ := h
      refine ⟨S6, _, _, ?_, e23.trans (w4.st.trans (e5.trans e56)), rfl⟩
      rw [take_all (l := List.range' u (t.length - u)) (n := ((List.range' u (t.length - u)).map dI).length) (by simp)] at g6
      rw [take_snoc hu, List.flatMap_append, List.flatMap_singleton]
      exact g6
  · obtain ⟨S3, y3, y4, g, e23, rfl⟩ := h
    rw [take_all (by simp), ← canon_flat] at g
    obtain ⟨S4, a4, e34, pl⟩ := g.done
    refine vs_last (vs_ret (d := dW (t.length, canonE t.length (ind a t))) (vd_tup (vda_cons (vd_lenS T.b_len (vd_var 1 (Dpm p2 (e2.trans (e23.trans e34)))) hi) (vda_cons (vd_tupleOf T.b_tuple (vd_var 2 pl) (.lst _)) vda_nil)) (Nat.le_of_ble_eq_true rfl)) a4.nw.within fun v' S' H' w' p' => q v' S' H' (a4.nw.trans w') p')
end
end K22
/-! K22, text 15: comprehensions in general, two clauses, dicts; induced, node_sets -/
namespace K22
open PySem PySem.Spec PyProof.Rows L2 Evl
abbrev PGb (X : Cx) (scope : Scope) (tg : Expr) (g : TG) : Prop := ∀ (s : Shared) (H : Hp) (C : Addr) (cl : List (Str × Addr)) (fp : List Addr), PG (X.blk s H scope (compEnvC scope cl C X.env) fp) tg g
/-- what the i-th turn of a comprehension does: the store, the test, the element -/
abbrev VDb (X : Cx) (scope : Scope) (e : Expr) (σ : L2.St) (S : Hp) (d : PyData) : Prop := ∀ s H0 C cl fp, VD (X.blk s H0 scope (compEnvC scope cl C X.env) fp) e σ S d
abbrev VBb (X : Cx) (scope : Scope) (e : Expr) (σ : L2.St) (S : Hp) (t : Bool) : Prop := ∀ s H0 C cl fp, VB (X.blk s H0 scope (compEnvC scope cl C X.env) fp) e σ S t
theorem vs_asg {X : Cx} {st : Stmt} {te : TE} {i : Nat} {σ : L2.St} {S H : Hp} {d : PyData} {D : Ends} (h : PS X st (tAsg te (gName i))) (q : ED X.K te σ S d) (hS : Ex S H) (k : ∀ v S' H', Nw S H S' H' → DD X.K S' v d → D.nx (σ.set i (some v)) H') : VS X st D σ H :=
  vs_of h (q H hS _ fun v S' H' w p => k v S' H' w p)
section
variable {X : Cx} {tg iter elt c : Expr} {pos p : Pos} {wi : TI} {g : TG} {σ : L2.St} {S H : Hp} {ds : List PyData} {scope : Scope} {x : Str} {own : List (Str × Nat)} {spos py : Pos} {y : Str} {D : Ends}
theorem ed_lc0 (hw : EW X.K wi σ S ds) (hz : ds.length ≤ 40000) (f : Nat → PyData)
    (hs : ∀ i d v Si H', ds[i]? = some d → Ex S Si → Ex Si H' → DD X.K Si v d → ∃ σ2, (∀ Q : L2.St → Hp → Prop, Q σ2 H' → g v (wipe σ (own.map (·.2))) H' Q) ∧ wipe σ2 (own.map (·.2)) = wipe σ (own.map (·.2)) ∧ VDb X scope elt σ2 Si (f i)) :
    ED X.K (tLc wi g tYes (VEb X scope elt) (own.map (·.2))) σ S (.list ((List.range ds.length).map f)) := by
  have e : (List.range ds.length).map f = (List.range ds.length).filterMap (fun i => some (f i)) := by rw [List.filterMap_eq_map']
  rw [e]
  refine ed_lc hw _ hz fun i d v Si H' hd e1 e2 p1 => ?_
  obtain ⟨σ2, h1, h2, h3⟩ := hs i d v Si H' hd e1 e2 p1
  exact ⟨σ2, h1, h2, fun H e Q q => q H (Ex.refl H), fun e he' => by cases he'; exact edb h3⟩
theorem ed_lc1 (hw : EW X.K wi σ S ds) (hz : ds.length ≤ 40000) (t : Nat → Bool) (f : Nat → PyData)
    (hs : ∀ i d v Si H', ds[i]? = some d → Ex S Si → Ex Si H' → DD X.K Si v d → ∃ σ2, (∀ Q : L2.St → Hp → Prop, Q σ2 H' → g v (wipe σ (own.map (·.2))) H' Q) ∧ wipe σ2 (own.map (·.2)) = wipe σ (own.map (·.2)) ∧ VBb X scope c σ2 Si (t i) ∧ (t i = true → VDb X scope elt σ2 Si (f i))) :
    ED X.K (tLc wi g (VTb X scope c) (VEb X scope elt) (own.map (·.2))) σ S (.list (((List.range ds.length).filter t).map f)) := by
  have e : ((List.range ds.length).filter t).map f = (List.range ds.length).filterMap (fun i => if t i then some (f i) else none) := by
    rw [← List.filterMap_eq_filter, List.map_filterMap]
    congr 1
    funext i
    by_cases h : t i = true <;> simp [h]
  rw [e]
  refine ed_lc hw _ hz fun i d v Si H' hd e1 e2 p1 => ?_
  obtain ⟨σ2, h1, h2, h3, h4⟩ := hs i d v Si H' hd e1 e2 p1
  refine ⟨σ2, h1, h2, ?_, fun e he' => ?_⟩
  · have es : (if t i = true then some (f i) else none).isSome = t i := by cases t i <;> rfl
    rw [es]
    exact etb h3
  · cases hti : t i with
    | false => rw [hti] at he'; cases he'
    | true =>
      rw [hti] at he'
      cases he'
      exact edb (h4 hti)
theorem vd_lc0 (hi : PI X tg iter wi) (hw : EW X.K wi σ S ds) (hz : ds.length ≤ 40000) (hN : X.N.Nodup) (hc : X.calm = true) (f : Nat → PyData) (ok : BlkOk X.N X.env.scope scope own) (hg : PGb X scope tg g)
    (hs : ∀ i d v Si H', ds[i]? = some d → Ex S Si → Ex Si H' → DD X.K Si v d → ∃ σ2, (∀ Q : L2.St → Hp → Prop, Q σ2 H' → g v (wipe σ (own.map (·.2))) H' Q) ∧ wipe σ2 (own.map (·.2)) = wipe σ (own.map (·.2)) ∧ VDb X scope elt σ2 Si (f i)) (hf : ∀ x, foldedSetIterable iter X.env x = pure x := by intro _; rfl) :
    VD X (.ListComp elt [⟨tg, iter, [], 0⟩] scope pos) σ S (.list ((List.range ds.length).map f)) :=
  vd_of (pe_lc hc hN hi ok hg (fun _ _ _ _ _ => pts_nil) (fun s H C cl fp => peb s H C cl fp) hf) (ed_lc0 hw hz f hs)
theorem vs_lc0 (i : Nat) (hi : PI X tg iter wi) (hw : EW X.K wi σ S ds) (hz : ds.length ≤ 40000) (hN : X.N.Nodup) (hc : X.calm = true) (f : Nat → PyData) (ok : BlkOk X.N X.env.scope scope own) (hg : PGb X scope tg g)
    (hs : ∀ i d v Si H', ds[i]? = some d → Ex S Si → Ex Si H' → DD X.K Si v d → ∃ σ2, (∀ Q : L2.St → Hp → Prop, Q σ2 H' → g v (wipe σ (own.map (·.2))) H' Q) ∧ wipe σ2 (own.map (·.2)) = wipe σ (own.map (·.2)) ∧ VDb X scope elt σ2 Si (f i))
    (hS : Ex S H) (k : ∀ v S' H', Nw S H S' H' → DD X.K S' v (.list ((List.range ds.length).map f)) → D.nx (σ.set i (some v)) H')
    (hsw : swapsWith (.ListComp elt [⟨tg, iter, [], 0⟩] scope pos) (some (.Name y py)) spos.line X.env = pure true) (hy : X.N[i]? = some y := by rfl) (hyl : X.env.scope.names.lookup y = some .local := by rfl) (hf : ∀ x, foldedSetIterable iter X.env x = pure x := by intro _; rfl) :
    VS X (.Assign [.Name y py] (.ListComp elt [⟨tg, iter, [], 0⟩] scope pos) spos) D σ H :=
  vs_asg (ps_setLc (i := i) hc hN hy hyl hsw hi ok hg (fun _ _ _ _ _ => pts_nil) (fun s H C cl fp => peb s H C cl fp) hf) (ed_lc0 hw hz f hs) hS k
theorem vd_lc1 (hi : PI X tg iter wi) (hw : EW X.K wi σ S ds) (hz : ds.length ≤ 40000) (hN : X.N.Nodup) (hc : X.calm = true) (t : Nat → Bool) (f : Nat → PyData) (ok : BlkOk X.N X.env.scope scope own) (hg : PGb X scope tg g)
    (hs : ∀ i d v Si H', ds[i]? = some d → Ex S Si → Ex Si H' → DD X.K Si v d → ∃ σ2, (∀ Q : L2.St → Hp → Prop, Q σ2 H' → g v (wipe σ (own.map (·.2))) H' Q) ∧ wipe σ2 (own.map (·.2)) = wipe σ (own.map (·.2)) ∧ VBb X scope c σ2 Si (t i) ∧ (t i = true → VDb X scope elt σ2 Si (f i))) (hf : ∀ x, foldedSetIterable iter X.env x = pure x := by intro _; rfl) :
    VD X (.ListComp elt [⟨tg, iter, [c], 0⟩] scope pos) σ S (.list (((List.range ds.length).filter t).map f)) :=
  vd_of (pe_lc hc hN hi ok hg (fun s H C cl fp => pts_one (ptb s H C cl fp)) (fun s H C cl fp => peb s H C cl fp) hf) (ed_lc1 hw hz t f hs)
theorem vs_lc1 (i : Nat) (hi : PI X tg iter wi) (hw : EW X.K wi σ S ds) (hz : ds.length ≤ 40000) (hN : X.N.Nodup) (hc : X.calm = true) (t : Nat → Bool) (f : Nat → PyData) (ok : BlkOk X.N X.env.scope scope own) (hg : PGb X scope tg g)
    (hs : ∀ i d v Si H', ds[i]? = some d → Ex S Si → Ex Si H' → DD X.K Si v d → ∃ σ2, (∀ Q : L2.St → Hp → Prop, Q σ2 H' → g v (wipe σ (own.map (·.2))) H' Q) ∧ wipe σ2 (own.map (·.2)) = wipe σ (own.map (·.2)) ∧ VBb X scope c σ2 Si (t i) ∧ (t i = true → VDb X scope elt σ2 Si (f i)))
    (hS : Ex S H) (k : ∀ v S' H', Nw S H S' H' → DD X.K S' v (.list (((List.range ds.length).filter t).map f)) → D.nx (σ.set i (some v)) H')
    (hsw : swapsWith (.ListComp elt [⟨tg, iter, [c], 0⟩] scope pos) (some (.Name y py)) spos.line X.env = pure true) (hy : X.N[i]? = some y := by rfl) (hyl : X.env.scope.names.lookup y = some .local := by rfl) (hf : ∀ x, foldedSetIterable iter X.env x = pure x := by intro _; rfl) :
    VS X (.Assign [.Name y py] (.ListComp elt [⟨tg, iter, [c], 0⟩] scope pos) spos) D σ H :=
  vs_asg (ps_setLc (i := i) hc hN hy hyl hsw hi ok hg (fun s H C cl fp => pts_one (ptb s H C cl fp)) (fun s H C cl fp => peb s H C cl fp) hf) (ed_lc1 hw hz t f hs) hS k
end
/-- the store of a name; of a pair of names -/
theorem st_name {σ : L2.St} {j : Nat} {v : V} {H : Hp} (h : ∀ Q : L2.St → Hp → Prop, Q ((wipe σ [j]).set j (some v)) H → gName j v (wipe σ [j]) H Q := by exact fun Q q => q) : (∀ Q : L2.St → Hp → Prop, Q ((wipe σ [j]).set j (some v)) H → gName j v (wipe σ [j]) H Q) ∧ wipe ((wipe σ [j]).set j (some v)) [j] = wipe σ [j] := ⟨h, wipe1 σ j v⟩
theorem wipe2 (σ : L2.St) (i j : Nat) (x y : V) : wipe (((wipe σ [i, j]).set i (some x)).set j (some y)) [i, j] = wipe σ [i, j] := by
  show (((((σ.set j none).set i none).set i (some x)).set j (some y)).set j none).set i none = (σ.set j none).set i none
  rw [List.set_set, List.set_set]
  by_cases h : i = j
  · subst h
    simp only [List.set_set]
  · apply List.ext_getElem?
    intro n
    simp only [List.getElem?_set]
    by_cases hi : i = n <;> by_cases hj : j = n <;> simp [hi, hj]
    all_goals simp_all
theorem st_pair {K : PySem.W.Frag} {σ : L2.St} {i j : Nat} {v : V} {S H : Hp} {d e : PyData} (hS : Ex S H) (hv : DD K S v (.tuple [d, e])) : ∃ a b, DD K S a d ∧ DD K S b e ∧ (∀ Q : L2.St → Hp → Prop, Q (((wipe σ [i, j]).set i (some a)).set j (some b)) H → gPair K i j v (wipe σ [i, j]) H Q) ∧ wipe (((wipe σ [i, j]).set i (some a)).set j (some b)) [i, j] = wipe σ [i, j] := by
  obtain ⟨l, xs, rfl, h1, h2⟩ := dp_tuple hv
  obtain ⟨u, w, rfl, h3, h4⟩ := da2 h2
  exact ⟨u, w, h3, h4, fun Q q => ⟨l, _, rfl, ex_t hS h1, rfl, u, [w], rfl, w, [], rfl, rfl, q⟩, wipe2 σ i j u w⟩

/-! ### two clauses -/
def VAb (X : Cx) (scope : Scope) (es : List Expr) : TA := fun σ H Q => ∀ (s : Shared) (H0 : Hp) (C : Addr) (cl : List (Str × Addr)) (fp : List Addr), VA (X.blk s H0 scope (compEnvC scope cl C X.env) fp) es σ H Q
theorem pab {X : Cx} {scope : Scope} {es : List Expr} (s : Shared) (H0 : Hp) (C : Addr) (cl : List (Str × Addr)) (fp : List Addr) : PA (X.blk s H0 scope (compEnvC scope cl C X.env) fp) es (VAb X scope es) := ⟨fun pos pins s' _ _ _ I h => h s H0 C cl fp pos pins s' I⟩
theorem edab {X : Cx} {scope : Scope} {es : List Expr} {σ : L2.St} {S : Hp} {ds : List PyData} (h : ∀ s H0 C cl fp, VDA (X.blk s H0 scope (compEnvC scope cl C X.env) fp) es σ S ds) : EDA X.K (VAb X scope es) σ S ds := fun H e Q q s H0 C cl fp => h s H0 C cl fp H e Q q
theorem flat_snoc {α : Type} {f : Nat → List α} (i : Nat) : (List.range (i + 1)).flatMap f = (List.range i).flatMap f ++ f i := by
  rw [List.range_succ, List.flatMap_append, List.flatMap_singleton]
theorem fm_snoc {α : Type} {f : Nat → Option α} (i : Nat) : (List.range (i + 1)).filterMap f = (List.range i).filterMap f ++ (match f i with | some e => [e] | none => []) := by
  rw [List.range_succ, List.filterMap_append]
  cases q : f i with
  | none => simp [q]
  | some e => simp [q]
theorem ed_lc2 {K : PySem.W.Frag} {wi wi1 : TI} {g g1 : TG} {tt1 : TT} {te : TE} {vs vs1 : List Nat} {σ : L2.St} {S : Hp} {ds : List PyData} (hw : EW K wi σ S ds) (es : Nat → List PyData) (out : Nat → Nat → Option PyData)
    (hz : ∀ i, i ≤ ds.length → ((List.range i).flatMap fun i => (List.range (es i).length).filterMap (out i)).length ≤ 40000) (hz1 : ∀ i, (es i).length ≤ 40000)
    (hs : ∀ i d x Si H', ds[i]? = some d → Ex S Si → Ex Si H' → DD K Si x d → ∃ σ2, (∀ Q : L2.St → Hp → Prop, Q σ2 H' → g x (wipe σ vs) H' Q) ∧ wipe σ2 vs = wipe σ vs ∧ EW K wi1 σ2 Si (es i) ∧
      ∀ j d1 x1 Sj H1, (es i)[j]? = some d1 → Ex Si Sj → Ex Sj H1 → DD K Sj x1 d1 → ∃ σ3, (∀ Q : L2.St → Hp → Prop, Q σ3 H1 → g1 x1 (wipe σ2 vs1) H1 Q) ∧ wipe σ3 vs1 = wipe σ2 vs1 ∧ EvT tt1 σ3 Sj (out i j).isSome ∧ ∀ e, out i j = some e → ED K te σ3 Sj e) :
    ED K (tLc2 wi g tYes wi1 g1 tt1 te vs vs1) σ S (.list ((List.range ds.length).flatMap fun i => (List.range (es i).length).filterMap (out i))) := fun H e Q q => hw H e _ fun J G Y S1 H1 w1 w hG hY => fun D hD => by
  have hD1 : S1 D = none := fresh_back w1.within hD
  refine ⟨fun i m H' => m = ds.length - i ∧ i ≤ ds.length ∧ ∃ Si acc, At S1 H1 Si H' ∧ Si D = none ∧ H' D = some (.lst acc) ∧ DDA K Si acc ((List.range i).flatMap fun i => (List.range (es i).length).filterMap (out i)), ⟨ds.length, by simp, Nat.zero_le _, S1, [], (At.refl w1.within).mut hD hD1, hD1, upd_same, .nil⟩, ?_⟩
  rintro i m H2 ⟨rfl, hi, Si, acc, ha, hn, hl, hp⟩
  have hGi := hG H2 (ha.nw.st.trans ha.nw.within)
  by_cases hlt : i < ds.length
  · refine .inr ⟨w.goes i H2 hlt hGi, fun H' => ∃ Si acc, At S1 H1 Si H' ∧ Si D = none ∧ H' D = some (.lst acc) ∧ DDA K Si acc ((List.range (i + 1)).flatMap fun i => (List.range (es i).length).filterMap (out i)), fun H' p' => ⟨ds.length - (i + 1), by omega, rfl, hlt, p'⟩, fun x H3 y => ?_⟩
    obtain ⟨Sj, w3, p3⟩ := hY i ds[i] H2 x H3 Si (List.getElem?_eq_getElem hlt) ha.nw.st ha.nw.within (w.yields i H2 x H3 hlt hGi y)
    obtain ⟨σ2, gq, hwp, hw1, hin⟩ := hs i ds[i] x Sj H3 (List.getElem?_eq_getElem hlt) (w1.st.trans (ha.nw.st.trans w3.st)) w3.within p3
    have hn3 : Sj D = none := w3.keepOut hn hl
    refine gq _ ⟨hwp, ?_⟩
    unfold tYes
    refine iteT ?_
    refine hw1 H3 w3.within _ fun J1 G1 Y1 S4 H4 w4 wk1 hG1 hY1 => ?_
    have a4 := (ha.step w3).step w4
    have hl4 : H4 D = some (.lst acc) := w4.hp D _ (w3.hp D _ hl)
    have hn4 : S4 D = none := w4.keepOut hn3 (w3.hp D _ hl)
    have pre := hz i (Nat.le_of_lt hlt)
    refine ⟨fun j k H' => k = (es i).length - j ∧ j ≤ (es i).length ∧ ∃ Si acc, Ex S4 Si ∧ At S1 H1 Si H' ∧ Si D = none ∧ H' D = some (.lst acc) ∧ DDA K Si acc (((List.range i).flatMap fun i => (List.range (es i).length).filterMap (out i)) ++ (List.range j).filterMap (out i)), ⟨(es i).length, by simp, Nat.zero_le _, S4, acc, Ex.refl _, a4, hn4, hl4, ?_⟩, ?_⟩
    · rw [List.range_zero, List.filterMap_nil, List.append_nil]
      exact Dam hp (w3.st.trans w4.st)
    · rintro j k H5 ⟨rfl, hj, S5, acc5, b5, a5, hn5, hl5, hp5⟩
      have hG5 := hG1 H5 (b5.trans a5.nw.within)
      by_cases hjlt : j < (es i).length
      · refine .inr ⟨wk1.goes j H5 hjlt hG5, fun H' => ∃ Si acc, Ex S4 Si ∧ At S1 H1 Si H' ∧ Si D = none ∧ H' D = some (.lst acc) ∧ DDA K Si acc (((List.range i).flatMap fun i => (List.range (es i).length).filterMap (out i)) ++ (List.range (j + 1)).filterMap (out i)), fun H' p' => ⟨(es i).length - (j + 1), by omega, rfl, hjlt, p'⟩, fun x1 H6 y1 => ?_⟩
        obtain ⟨S6, w6, p6⟩ := hY1 j (es i)[j] H5 x1 H6 S5 (List.getElem?_eq_getElem hjlt) b5 a5.nw.within (wk1.yields j H5 x1 H6 hjlt hG5 y1)
        obtain ⟨σ3, gq1, hwp1, ht, he⟩ := hin j (es i)[j] x1 S6 H6 (List.getElem?_eq_getElem hjlt) (w4.st.trans (b5.trans w6.st)) w6.within p6
        have hn6 : S6 D = none := w6.keepOut hn5 hl5
        refine gq1 _ ⟨hwp1, ht H6 w6.within _ fun H7 e7 => ?_⟩
        have b7 : Ex S4 S6 := b5.trans w6.st
        have a7 : At S1 H1 S6 H7 := (a5.step w6).only e7
        have hl7 : H7 D = some (.lst acc5) := e7 D _ (w6.hp D _ hl5)
        cases ho : out i j with
        | none =>
          refine iteF ⟨S6, acc5, b7, a7, hn6, hl7, ?_⟩
          rw [fm_snoc, ho, List.append_nil]
          exact Dam hp5 w6.st
        | some e' =>
          refine iteT (he e' ho H7 a7.nw.within _ fun v S8 H8 w8 p8 => ⟨acc5, w8.hp D _ hl7, ?_, S8, acc5 ++ [v], ?_, (a7.step w8).mut hD (w8.keepOut hn6 hl7), w8.keepOut hn6 hl7, upd_same, ?_⟩)
          · have h1 := da_len hp5
            rw [List.length_append] at h1
            have h2 := List.length_filterMap_le (out i) (List.range j)
            rw [List.length_range] at h2
            have h3 := hz1 i
            exact sz_lt (by omega)
          · exact b7.trans w8.st
          · rw [fm_snoc, ho, ← List.append_assoc]
            exact da_snoc (Dam hp5 (w6.st.trans w8.st)) p8
      · have ej : j = (es i).length := by omega
        subst ej
        refine .inl ⟨wk1.stops H5 hG5, S5, acc5, a5, hn5, hl5, ?_⟩
        rw [flat_snoc]
        exact hp5
  · have ei : i = ds.length := by omega
    subst ei
    have fz := ha.freeze hD hn hl
    exact .inl ⟨w.stops H2 hGi, q (.ref D) _ H2 (w1.trans fz.nw) (.lst upd_same (Dam hp (Ex.new hn)))⟩
end K22
/-! K22, text 16: induced, node_sets -/
namespace K22
open PySem PySem.Spec PyProof.Rows L2 Evl
/-- an object of ours that is changed -/
structure Ow (S0 H0 : Hp) (l : Addr) (S H : Hp) (o : HO) : Prop where
  now : At S0 H0 S H
  out : S l = none
  h0 : H0 l = none
  cur : H l = some o
section
variable {S0 H0 S H S' H' : Hp} {l : Addr} {o o' : HO}
theorem Ow.start (a : At S0 H0 S H) (hl : H l = none) : Ow S0 H0 l S (upd H l o) o := ⟨a.mut (fresh_back a.nw.hp hl) (fresh_back a.nw.within hl), fresh_back a.nw.within hl, fresh_back a.nw.hp hl, upd_same⟩
theorem Ow.step (g : Ow S0 H0 l S H o) (w : Nw S H S' H') : Ow S0 H0 l S' H' o := ⟨g.now.step w, w.keepOut g.out g.cur, g.h0, w.hp l _ g.cur⟩
theorem Ow.only (g : Ow S0 H0 l S H o) (e : Ex H H') : Ow S0 H0 l S H' o := g.step (Nw.only g.now.nw.within e)
theorem Ow.put (g : Ow S0 H0 l S H o) : Ow S0 H0 l S (upd H l o') o' := ⟨g.now.mut g.h0 g.out, g.out, g.h0, upd_same⟩
theorem Ow.within (g : Ow S0 H0 l S H o) : Ex S H := g.now.nw.within
theorem Ow.frz (g : Ow S0 H0 l S H o) : Ex (upd S l o) H := ex_freeze g.within g.cur
theorem Ow.ext (g : Ow S0 H0 l S H o) : Ex S (upd S l o) := Ex.new g.out
end
section
variable {X : Cx} {o e value : Expr} {pos pt : Pos} {σ : L2.St} {S H : Hp} {a : Addr} {kvs : List (Key × V)} {n p : Nat} {D : Ends} {v : V}
theorem vb_dIn (hu : X.A.units + 1 < cLine) (ho : Ev (VE X o) σ S (.ref a)) (hm : S a = some (.dK kvs)) (he : VD X e σ S (dI n)) (hb : behindInMarks .In o = false := by rfl) : VB X (.Compare e [.In] [o] pos) σ S (valV kvs (.inl (n : Int))).isSome :=
  vb_of (pt_cmp (pc_din hu pe_ve pe_ve) hb) (et_B fun H e1 Q q => he.ev_int H e1 _ fun H1 e2 => ho H1 (e1.trans e2) _ fun H2 e3 => ⟨a, _, rfl, DGet.k (kvs := kvs) (k := .inl (n : Int)) (e3 a _ (e2 a _ (e1 a _ hm))), q H2 (e2.trans e3)⟩)
theorem vd_dGet (hu : X.A.units + 1 < cLine) (ho : Ev (VE X o) σ S (.ref a)) (hm : S a = some (.dK kvs)) (he : VD X e σ S (dI n)) (hv : valV kvs (.inl (n : Int)) = some (vI p)) (hs : NoSl e := by exact fun _ _ => rfl) : VD X (.Subscript o e pos) σ S (dI p) :=
  vd_of (pe_dget hu pe_ve pe_ve hs) fun H e1 Q q => ho H e1 _ fun H1 e2 => he.ev_int H1 (e1.trans e2) _ fun H2 e3 => by
    have g := DGet.k (kvs := kvs) (k := .inl (n : Int)) (e3 a _ (e2 a _ (e1 a _ hm)))
    rw [hv] at g
    exact ⟨a, _, rfl, g, q _ S H2 (Nw.only e1 (e2.trans e3)) (.int _)⟩
theorem vs_dPut (hu : X.A.units + 1 < cLine) (hm : H a = some (.dK kvs)) (hv : Ev (VE X value) σ H v) (ho : Ev (VE X o) σ H (.ref a)) (he : Ev (VE X e) σ H (.int (n : Int))) (hz : kvs.length < 100000) (k : ∀ H', Ex H H' → D.nx σ (upd H' a (.dK (putK kvs (.inl (n : Int)) v))))
    (hs : swapsWith value (some (.Subscript o e pt)) pos.line X.env = pure false := by rfl) : VS X (.Assign [.Subscript o e pt] value pos) D σ H :=
  vs_of (ps_dput hu pe_ve pe_ve pe_ve hs) (hv H (Ex.refl H) _ fun H1 e1 => ho H1 e1 _ fun H2 e2 => he H2 (e1.trans e2) _ fun H3 e3 => ⟨a, _, rfl, DPut.k (k := .inl (n : Int)) (e3 a _ (e2 a _ (e1 a _ hm))) (sz_lt hz), k H3 (e1.trans (e2.trans e3))⟩)
end
def kvT (t : List Nat) (i : Nat) : List (Key × V) := (List.range i).map fun p => ((.inl ((t.getD p 0 : Nat) : Int) : Key), vI p)
theorem val_kv {t : List Nat} (nd : t.Nodup) : ∀ i, i ≤ t.length → ∀ x : Nat, valV (kvT t i) (.inl (x : Int)) = if x ∈ t.take i then some (vI (t.idxOf x)) else none
  | 0, _, x => by simp [kvT, valV_nil]
  | i + 1, hi, x => by
    have hil : i < t.length := hi
    have ih := val_kv nd i (Nat.le_of_lt hil)
    have hg : t[i]? = some (t.getD i 0) := by rw [getD_lt hil]; exact List.getElem?_eq_getElem hil
    have e : kvT t (i + 1) = kvT t i ++ [((.inl ((t.getD i 0 : Nat) : Int) : Key), vI i)] := by unfold kvT; rw [List.range_succ, List.map_append]; rfl
    have hnot : t.getD i 0 ∉ t.take i := by
      rw [← List.take_append_drop i t, List.nodup_append] at nd
      intro h
      refine nd.2.2 _ h (t.getD i 0) ?_ rfl
      rw [getD_lt hil, List.drop_eq_getElem_cons hil]
      exact List.mem_cons_self
    have h0 := ih (t.getD i 0)
    rw [if_neg hnot] at h0
    rw [e, valV_snoc _ _ _ _ h0, take_snoc hg]
    by_cases hx : x = t.getD i 0
    · subst hx
      rw [if_pos rfl, if_pos (by simp)]
      rw [getD_lt hil, List.Nodup.idxOf_getElem nd i hil]
    · rw [if_neg (fun z => hx (by have := Sum.inl.inj z; omega)), ih x]
      have em : x ∈ t.take i ++ [t.getD i 0] ↔ x ∈ t.take i := by rw [List.mem_append, List.mem_singleton]; exact ⟨fun z => z.elim id fun q => absurd q hx, .inl⟩
      by_cases hm : x ∈ t.take i
      · rw [if_pos hm, if_pos (em.mpr hm)]
      · rw [if_neg hm, if_neg (fun z => hm (em.mp z))]
theorem val_kvF {t : List Nat} (nd : t.Nodup) (x : Nat) : valV (kvT t t.length) (.inl (x : Int)) = if x ∈ t then some (vI (t.idxOf x)) else none := by
  rw [val_kv nd t.length (Nat.le_refl _), List.take_length]
theorem kvT_put {t : List Nat} (nd : t.Nodup) {i : Nat} (hi : i < t.length) : putK (kvT t i) (.inl ((t.getD i 0 : Nat) : Int)) (vI i) = kvT t (i + 1) := by
  have hg : t[i]? = some (t.getD i 0) := by rw [getD_lt hi]; exact List.getElem?_eq_getElem hi
  have hnot : t.getD i 0 ∉ t.take i := by
    rw [← List.take_append_drop i t, List.nodup_append] at nd
    intro h
    refine nd.2.2 _ h (t.getD i 0) ?_ rfl
    rw [getD_lt hi, List.drop_eq_getElem_cons hi]
    exact List.mem_cons_self
  rw [putK_new _ (by rw [val_kv nd i (Nat.le_of_lt hi), if_neg hnot])]
  unfold kvT
  rw [List.range_succ, List.map_append]
  rfl
theorem idx_none {t : List Nat} (nd : t.Nodup) {i : Nat} (hi : i < t.length) : (valV (kvT t i) (.inl ((t.getD i 0 : Nat) : Int))).isSome = false := by
  have hnot : t.getD i 0 ∉ t.take i := by
    rw [← List.take_append_drop i t, List.nodup_append] at nd
    intro h
    refine nd.2.2 _ h (t.getD i 0) ?_ rfl
    rw [getD_lt hi, List.drop_eq_getElem_cons hi]
    exact List.mem_cons_self
  rw [val_kv nd i (Nat.le_of_lt hi), if_neg hnot]
  rfl
/-! ### induced -/
def indT (t : List Nat) (e : Nat × Nat) : Bool := decide (e.1 ∈ t) && decide (e.2 ∈ t)
def indF (t : List Nat) (e : Nat × Nat) : Nat × Nat := (t.idxOf e.1, t.idxOf e.2)
def indE (W : Web) (t : List Nat) : List (Nat × Nat) := (W.2.filter (indT t)).map (indF t)
theorem indE_ok {W : Web} {t : List Nat} (nd : t.Nodup) : ∀ x, x ∈ canonE t.length (ind (adjW W) t) ↔ x ∈ normE (indE W t) := fun x => by
  have sb : Sym (ind (adjW W) t) := (adjW_sym W).ind t
  have ix : ∀ i, i < t.length → t.idxOf (t.getD i 0) = i := fun i hi => by rw [getD_lt hi]; exact List.Nodup.idxOf_getElem nd i hi
  constructor
  · intro h
    obtain ⟨h1, h2, h3⟩ := mem_canonE.mp h
    have h1' : x.1 < t.length := by omega
    have hm : mkE x.1 x.2 = x := by unfold mkE; rw [Nat.min_eq_left h1, Nat.max_eq_right h1]
    have hm2 : mkE x.2 x.1 = x := by unfold mkE; rw [Nat.min_eq_right h1, Nat.max_eq_left h1]
    unfold normE indE
    rw [List.map_map, List.mem_map]
    rcases adjW_iff.mp (show adjW W (t.getD x.1 0) (t.getD x.2 0) = true from h3) with q | q
    · refine ⟨_, List.mem_filter.mpr ⟨q, ?_⟩, ?_⟩
      · unfold indT; simp only [getD_mem h1', getD_mem h2, decide_true, Bool.and_self]
      · show mkE (t.idxOf (t.getD x.1 0)) (t.idxOf (t.getD x.2 0)) = x
        rw [ix _ h1', ix _ h2, hm]
    · refine ⟨_, List.mem_filter.mpr ⟨q, ?_⟩, ?_⟩
      · unfold indT; simp only [getD_mem h1', getD_mem h2, decide_true, Bool.and_self]
      · show mkE (t.idxOf (t.getD x.2 0)) (t.idxOf (t.getD x.1 0)) = x
        rw [ix _ h1', ix _ h2, hm2]
  · intro h
    unfold normE indE at h
    rw [List.map_map, List.mem_map] at h
    obtain ⟨e, he, rfl⟩ := h
    obtain ⟨h1, h2⟩ := List.mem_filter.mp he
    unfold indT at h2
    rw [Bool.and_eq_true, decide_eq_true_eq, decide_eq_true_eq] at h2
    refine (mkE_adj sb (List.idxOf_lt_length_of_mem h2.1) (List.idxOf_lt_length_of_mem h2.2)).mpr ?_
    show adjW W (t.getD (t.idxOf e.1) 0) (t.getD (t.idxOf e.2) 0) = true
    rw [getD_idxOf h2.1, getD_idxOf h2.2]
    exact adjW_iff.mpr (.inl h1)
theorem map_filter_get {α : Type} (l : List α) (t : α → Bool) (f : α → PyData) (dflt : α) : ((List.range l.length).filter (fun i => t (l.getD i dflt))).map (fun i => f (l.getD i dflt)) = (l.filter t).map f := by
  have e : l = (List.range l.length).map fun i => l.getD i dflt := by
    refine List.ext_getElem (by simp) fun i h1 h2 => ?_
    rw [List.getElem_map, List.getElem_range, List.getD_eq_getElem?_getD, List.getElem?_eq_getElem h1]; rfl
  conv => rhs; rw [e]
  rw [List.filter_map, List.map_map]
  rfl
theorem getD_some {α : Type} {l : List α} {i : Nat} {x dflt : α} (h : l[i]? = some x) : l.getD i dflt = x := by rw [List.getD_eq_getElem?_getD, h]; rfl
section
variable {P : Program} {w : World} {K : PySem.W.Frag} {mg : Str → Option Value} {base : Heap}
def prInd : PTr := fun ds R => ∃ (W : Web) (t : List Nat), ds = [dW W, dT t] ∧ WOk W ∧ t.Nodup ∧ t.length ≤ 5 ∧ (∀ x ∈ t, x < W.1) ∧ R (dW (indW W t))
abbrev nInd : List Str := ["web", "nodes", "numbers", "place", "node", "pairs", "first", "second"]
theorem scInd : FnScope nInd ["web", "nodes"] (defScope (topS 9)) := ⟨rfl, rfl, rfl, by decide +kernel, rfl, by decide +kernel, by decide +kernel⟩
theorem ok_ind (T : Txt K mg) : Fn P w K mg base 2 "induced" prInd := by
  have GM : Fn P w K mg base 1 "make_web" prMake := ok_make T
  refine def_ok T.induced scInd (fun ds R h => by obtain ⟨W, t, rfl, _⟩ := h; rfl) fun f cdv A outer s S H vs ds Q E hr hS hp h => ?_
  obtain ⟨W, t, rfl, hW, nd, ht5, hlt, q⟩ := h
  obtain ⟨v1, v2, rfl, p1, p2⟩ := da2 hp
  have hu1 : (A.deeper (envOfC "induced" (defScope (topS 9)) s.heap.objs.size f cdv)).units + 1 < cLine := by have := hr.units; omega
  refine vs_cons (vs_setE 2 (ve_of pe_dnewK fun l hl => ?_) scInd.nd)
  have g0 : Ow S H l S (upd H l (.dK [])) (.dK (kvT t 0)) := Ow.start (At.refl hS) hl
  refine vs_cons (vs_for (pi_enumT T.b_enumerate) (pg_pair (i := 3) (j := 4) scInd.nd rfl) (ew_enumT (vda_cons (vd_var 1 p2) vda_nil)) g0.within rfl
    (fun S2 i σ' H' => ∃ S3 y3 y4, Ow S H l S3 H' (.dK (kvT t i)) ∧ Ex S2 S3 ∧ i ≤ t.length ∧ σ' = [some v1, some v2, some (.ref l), y3, y4, none, none, none]) (fun S2 H2 w2 => ⟨S2, none, none, g0.step w2, Ex.refl _, Nat.zero_le _, rfl⟩) (fun S2 i σ' H' ⟨_, _, _, g, e, _⟩ => e.trans g.within) (fun S2 i d x σ' H' H'' e hd h y => ?_) (fun S2 σ' H' e h => ?_))
  · obtain ⟨S3, y3, y4, g, e23, hi, rfl⟩ := h
    obtain ⟨S4, w4, px⟩ := y S3 e23 g.within
    obtain ⟨d', hd', rfl⟩ := enumD_get hd
    obtain ⟨n, hn, rfl⟩ := get_map hd'
    have hit : i < t.length := (List.getElem?_eq_some_iff.mp hn).1
    have en : t.getD i 0 = n := getD_some hn
    have g4 := g.step w4
    have e4 : Ex S (upd S4 l (.dK (kvT t i))) := (e.trans (e23.trans w4.st)).trans g4.ext
    have hnW := hlt n (List.mem_of_getElem? hn)
    refine g_pair w4.within px fun iv nv pi pn => ?_
    refine vs_cons (vs_unless (vb_is (vb_or (vb_not (vb_within vd_int (vd_var 4 (Dpm pn g4.ext)) (vd_web0 (vd_var 0 (Dpm p1 e4))))) fun _ => vb_dIn (by exact hu1) (vv_var 2) upd_same (vd_var 4 (Dpm pn g4.ext))) ?_) g4.frz fun H5 e5 => ?_)
    · rw [← en, idx_none nd hit, en, decide_eq_true (by omega), decide_eq_true (by omega)]; rfl
    · have g5 := g4.only e5
      refine vs_last (vs_dPut (n := n) (v := vI i) (by exact hu1) g5.cur (vv_int (vd_var 3 pi) g5.within) (vv_var 2) (vv_int (vd_var 4 pn) g5.within) (by unfold kvT; rw [List.length_map, List.length_range]; omega) fun H6 e6 => ?_)
      have g6 := (g5.only e6).put (o' := .dK (putK (kvT t i) (.inl (n : Int)) (vI i)))
      rw [← en, kvT_put nd hit] at g6
      rw [← en, kvT_put nd hit]
      exact ⟨S4, _, _, g6, e23.trans w4.st, hit, rfl⟩
  · obtain ⟨S3, y3, y4, g, e23, hi, rfl⟩ := h
    rw [enumD_len, List.length_map] at g
    have e3 : Ex S (upd S3 l (.dK (kvT t t.length))) := (e.trans e23).trans g.ext
    have a3 : At S H (upd S3 l (.dK (kvT t t.length))) H' := g.now.freeze g.h0 g.out g.cur
    have hm : (upd S3 l (.dK (kvT t t.length))) l = some (.dK (kvT t t.length)) := upd_same
    generalize upd S3 l (.dK (kvT t t.length)) = S5 at e3 a3 hm
    have hS5 := a3.nw.within
    refine vs_cons (vs_lc1 5 (g := gPair K 6 7) (own := [("first", 6), ("second", 7)]) (pi_tup pe_ve) (ew_tup (vd_web1 (vd_var 0 (Dpm p1 e3)))) (by rw [List.length_map]; have := hW.few; omega) scInd.nd rfl (fun i => indT t (W.2.getD i (0, 0))) (fun i => dE (indF t (W.2.getD i (0, 0)))) (blkOk_by (N := nInd) (sc := defScope (topS 9)) (by decide +kernel)) (fun _ _ _ _ _ => by exact pg_pair (i := 6) (j := 7) scInd.nd rfl)
      (fun i d v Si H6 hd e6 hS6 pv => ?_) hS5 (fun v6 S6 H6 w6 p6 => ?_) (sw_true rfl rfl rfl (by decide +kernel)))
    · obtain ⟨ed, hed, rfl⟩ := get_map hd
      rw [getD_some hed]
      obtain ⟨a, b, pa, pb, hst, hwp⟩ := st_pair (i := 6) (j := 7) (σ := [some v1, some v2, some (.ref l), y3, y4, none, none, none]) hS6 pv
      have hval : ∀ x : Nat, (valV (kvT t t.length) (.inl (x : Int))).isSome = decide (x ∈ t) := fun x => by
        rw [val_kvF nd]
        by_cases h : x ∈ t <;> simp [h]
      have hval2 : ∀ x : Nat, x ∈ t → valV (kvT t t.length) (.inl (x : Int)) = some (vI (t.idxOf x)) := fun x h => by rw [val_kvF nd, if_pos h]
      refine ⟨_, hst, hwp, fun s H0 C cl fp => ?_, fun ht s H0 C cl fp => ?_⟩
      · exact vb_is (vb_and (vb_dIn (by exact hu1) (vv_var 2) (e6 _ _ hm) (vd_var 6 pa)) fun _ => vb_dIn (by exact hu1) (vv_var 2) (e6 _ _ hm) (vd_var 7 pb)) (by rw [hval, hval]; rfl)
      · unfold indT at ht
        rw [Bool.and_eq_true, decide_eq_true_eq, decide_eq_true_eq] at ht
        exact vd_tup (vda_cons (vd_dGet (by exact hu1) (vv_var 2) (e6 _ _ hm) (vd_var 6 pa) (hval2 _ ht.1)) (vda_cons (vd_dGet (by exact hu1) (vv_var 2) (e6 _ _ hm) (vd_var 7 pb) (hval2 _ ht.2)) vda_nil)) (Nat.le_of_ble_eq_true rfl)
    · rw [List.length_map, map_filter_get W.2 (indT t) (fun e => dE (indF t e)) (0, 0)] at p6
      have a6 := a3.step w6
      refine vs_last (vs_ret (d := dW (indW W t)) (vd_call GM hr (vda_cons (vd_lenTR T.b_len (vd_var 1 (Dpm p2 (e3.trans w6.st)))) (vda_cons (vd_var 5 p6) vda_nil)) fun R h => ⟨t.length, indE W t, canonE t.length (ind (adjW W) t), ?_, ht5, ?_, ?_, canonE_sorted _ _, indE_ok nd, h⟩) w6.within fun v' S' H' w' p' => q v' S' H' (a6.nw.trans w') p')
      · unfold indE; rw [List.map_map]; rfl
      · have := hW.few
        have h2 := List.length_filter_le (indT t) W.2
        unfold indE
        rw [List.length_map]
        omega
      · intro e he
        obtain ⟨e', he', rfl⟩ := List.mem_map.mp he
        have h2 := (List.mem_filter.mp he').2
        unfold indT at h2
        rw [Bool.and_eq_true, decide_eq_true_eq, decide_eq_true_eq] at h2
        exact ⟨List.idxOf_lt_length_of_mem h2.1, List.idxOf_lt_length_of_mem h2.2⟩
end
end K22
/-! K22, text 17: node_sets -/
namespace K22
open PySem PySem.Spec PyProof.Rows L2 Evl
section
variable {X : Cx} {a b e : Expr} {pos p : Pos} {σ : L2.St} {S H : Hp}
theorem vd_neg1 {j : Nat} {p1 p2 : Pos} : VD X (.UnaryOp .USub (.Constant (.int 1) j p1) p2) σ S (.int (-1)) := vd_of (pe_un un_neg pe_int) fun H e Q q => ⟨1, rfl, q _ S H (Nw.refl e) (.int _)⟩
/-- row[-1] -/
theorem vd_lastT {r : List Nat} {n j : Nat} {p1 p2 : Pos} (ha : VD X a σ S (dT (r ++ [n]))) : VD X (.Subscript a (.UnaryOp .USub (.Constant (.int 1) j p1) p2) pos) σ S (dI n) :=
  vd_ix ix_tup ha vd_neg1 (fun x y S1 H1 _ hS hx hy Q q => by
    obtain ⟨l, rfl, h1⟩ := dp_T hx
    rw [List.map_append] at h1
    exact ⟨l, _, -1, vI n, rfl, dp_int hy, ex_t hS h1, atI_last _ _, q _ S1 H1 (Nw.refl hS) (.int _)⟩)
end
theorem wipe2a (σ : L2.St) (i j : Nat) (x : V) : wipe ((wipe σ [i, j]).set i (some x)) [i, j] = wipe σ [i, j] := by
  show ((((σ.set j none).set i none).set i (some x)).set j none).set i none = (σ.set j none).set i none
  apply List.ext_getElem?
  intro n
  simp only [List.getElem?_set]
  by_cases hi : i = n <;> by_cases hj : j = n <;> simp [hi, hj]
  all_goals simp_all
def nsT (row : List Nat) (node : Nat) : Bool := match row.getLast? with | none => true | some l => decide (l < node)
theorem nodeSets_succ (size c : Nat) : nodeSets size (c + 1) = (nodeSets size c).flatMap fun row => ((List.range size).filter (nsT row)).map fun node => row ++ [node] := rfl
theorem nodeSets_len (size : Nat) : ∀ c, (nodeSets size c).length ≤ size ^ c
  | 0 => Nat.le_refl _
  | c + 1 => by
    rw [nodeSets_succ, Nat.pow_succ]
    refine Nat.le_trans (flat_len _ size (fun row => ?_) _) (Nat.mul_le_mul_right size (nodeSets_len size c))
    rw [List.length_map]
    exact Nat.le_trans (List.length_filter_le _ _) (by rw [List.length_range]; exact Nat.le_refl _)
theorem nodeSets_row {size : Nat} : ∀ {c : Nat} {row : List Nat}, row ∈ nodeSets size c → row.length = c
  | 0, row, h => by rw [List.mem_singleton.mp h]; rfl
  | c + 1, row, h => by
    rw [nodeSets_succ] at h
    obtain ⟨r, hr, h⟩ := List.mem_flatMap.mp h
    obtain ⟨v, _, rfl⟩ := List.mem_map.mp h
    rw [List.length_append, nodeSets_row hr]; rfl
def nsOut (row : List Nat) (node : Nat) : Option PyData := if nsT row node then some (dT (row ++ [node])) else none
theorem nsOut_map (size : Nat) (row : List Nat) : (List.range size).filterMap (nsOut row) = (((List.range size).filter (nsT row)).map fun node => row ++ [node]).map dT := by
  rw [← List.filterMap_eq_filter, List.map_filterMap, List.map_filterMap]
  congr 1
  funext i
  unfold nsOut
  by_cases h : nsT row i = true <;> simp [h, Option.guard]
theorem flat_get {α β : Type} (l : List α) (f : α → List β) (dflt : α) : (List.range l.length).flatMap (fun i => f (l.getD i dflt)) = l.flatMap f := by
  have e : l = (List.range l.length).map fun i => l.getD i dflt := by
    refine List.ext_getElem (by simp) fun i h1 h2 => ?_
    rw [List.getElem_map, List.getElem_range, List.getD_eq_getElem?_getD, List.getElem?_eq_getElem h1]; rfl
  conv => rhs; rw [e, List.flatMap_map]
theorem dT_snoc (row : List Nat) (v : Nat) : PyData.tuple (row.map dI ++ [dI v]) = dT (row ++ [v]) := by unfold dT; rw [List.map_append]; rfl
section
variable {P : Program} {w : World} {K : PySem.W.Frag} {mg : Str → Option Value} {base : Heap}
def prSets : PTr := fun ds R => ∃ n c : Nat, ds = [dI n, dI c] ∧ n ≤ 5 ∧ c ≤ 5 ∧ R (.list ((nodeSets n c).map dT))
abbrev nSets : List Str := ["size", "count", "rows", "_", "row", "node"]
theorem scSets : FnScope nSets ["size", "count"] (defScope (topS 21)) := ⟨rfl, rfl, rfl, by decide +kernel, rfl, by decide +kernel, by decide +kernel⟩
theorem ok_sets (T : Txt K mg) : Fn P w K mg base 1 "node_sets" prSets := by
  refine def_ok T.node_sets scSets (fun ds R h => by obtain ⟨n, c, rfl, _⟩ := h; rfl) fun f cdv A outer s S H vs ds Q E hr hS hp h => ?_
  obtain ⟨n, c, rfl, hn, hc, q⟩ := h
  obtain ⟨v1, v2, rfl, p1, p2⟩ := da2 hp
  refine vs_cons (vs_set 2 (d := .list ((nodeSets n 0).map dT)) (vd_lst (vda_cons (vd_tup vda_nil (Nat.zero_le _)) vda_nil) (Nat.le_of_ble_eq_true rfl)) hS (fun v3 S1 H1 w1 p3 => ?_) scSets.nd)
  refine vs_cons (vs_forN 3 (pi_range1' T.b_range) (ew_range1 (vda_cons (vd_var 1 (Dpm p2 w1.st)) vda_nil) (by omega)) w1.within scSets.nd rfl
    (fun S2 i σ' H' => ∃ S3 u y3, At S H S3 H' ∧ Ex S2 S3 ∧ i ≤ c ∧ DD K S3 u (.list ((nodeSets n i).map dT)) ∧ σ' = [some v1, some v2, some u, y3, none, none]) (fun S2 H2 w2 => ⟨S2, v3, none, ⟨w1.trans w2⟩, Ex.refl _, Nat.zero_le _, Dpm p3 w2.st, rfl⟩) (fun S2 i σ' H' ⟨_, _, _, a, e, _⟩ => e.trans a.nw.within) (fun S2 i d x σ' H' H'' e2 hd h y => ?_) (fun S2 σ' H' e2 h => ?_))
  · obtain ⟨S3, u, y3, a3, e23, hi, pu, rfl⟩ := h
    obtain ⟨S4, w4, px⟩ := y S3 e23 a3.nw.within
    have hic : i < c := by
      have := (List.getElem?_eq_some_iff.mp hd).1
      simpa using this
    have hpow : n ^ i ≤ 3125 := pow_le (by omega) hn
    have hlen := nodeSets_len n i
    have a4 := a3.step w4
    have e4 : Ex S S4 := w1.st.trans (e2.trans (e23.trans w4.st))
    have fl : ∀ row, ((List.range n).filterMap (nsOut row)).length ≤ n := fun row => by
      have := List.length_filterMap_le (nsOut row) (List.range n)
      rwa [List.length_range] at this
    have ln : ((List.range n).map dI).length = n := by rw [List.length_map, List.length_range]
    refine vs_last (vs_asg (i := 2) (d := .list ((nodeSets n (i + 1)).map dT)) (ps_setLc2 (i := 2) (own := [("row", 4), ("node", 5)]) (vs1 := [5]) (g := gName 4) (g1 := gName 5) (te := VEb _ _ _) (tt1 := VTb _ _ _) (wi1 := iRng1 (VAb _ _ _)) rfl scSets.nd rfl rfl (sw_true rfl rfl rfl (by decide +kernel)) (pi_list pe_ve) (blkOk_by (N := nSets) (sc := defScope (topS 21)) (by decide +kernel)) (by decide)
      (fun _ _ _ _ _ => by exact pg_name scSets.nd rfl (Or.inl rfl)) (fun _ _ _ _ _ => pts_nil) (fun s H C cl fp => by exact pi_range1 rfl T.b_range (pab s H C cl fp)) (fun _ _ _ _ _ => by exact pg_name scSets.nd rfl (Or.inl rfl)) (fun s H C cl fp => pts_one (ptb s H C cl fp)) (fun s H C cl fp => peb s H C cl fp)) ?_ a4.nw.within fun v' S' H' w' p' => ⟨S', v', _, a4.step w', e23.trans (w4.st.trans w'.st), hic, p', rfl⟩)
    have en : (nodeSets n (i + 1)).map dT = (List.range ((nodeSets n i).map dT).length).flatMap fun k => (List.range ((List.range n).map dI).length).filterMap (nsOut ((nodeSets n i).getD k [])) := by
      rw [ln, List.length_map, flat_get (nodeSets n i) (fun row => (List.range n).filterMap (nsOut row)) [], nodeSets_succ, List.map_flatMap]
      congr 1
      funext row
      rw [nsOut_map]
    rw [en]
    refine ed_lc2 (ds := (nodeSets n i).map dT) (ew_list (vd_var 2 (Dpm pu w4.st))) (fun _ => (List.range n).map dI) (fun k => nsOut ((nodeSets n i).getD k [])) (fun k hk => ?_) (fun k => by rw [ln]; omega) fun k d5 x5 S5 H5 hd5 e5 hS5 p5 => ?_
    · have h1 := flat_len (fun k => (List.range ((List.range n).map dI).length).filterMap (nsOut ((nodeSets n i).getD k []))) n (fun k => by rw [ln]; exact fl _) (List.range k)
      rw [List.length_range] at h1
      rw [List.length_map] at hk
      have h2 : k * n ≤ 3125 * 5 := Nat.mul_le_mul (by omega) hn
      omega
    · obtain ⟨row, hrow, rfl⟩ := get_map hd5
      have hrl := nodeSets_row (List.mem_of_getElem? hrow)
      rw [getD_some hrow]
      refine ⟨_, fun Q q => q, wipe2a _ 4 5 x5, ew_range1 (edab fun s H0 C cl fp => vda_cons (vd_var 0 (Dpm p1 (e4.trans e5))) vda_nil) (by omega), fun j d6 x6 S6 H6 hd6 e6 hS6 p6 => ?_⟩
      obtain ⟨m, hm, rfl⟩ := get_map hd6
      have hmj : m = j := by
        have hj : j < n := by
          have := (List.getElem?_eq_some_iff.mp hm).1
          simpa using this
        rw [List.getElem?_range hj] at hm
        exact (Option.some.inj hm).symm
      subst hmj
      refine ⟨_, fun Q q => q, wipe1 _ 5 x6, ?_, fun e he => ?_⟩
      · have es : (nsOut row m).isSome = nsT row m := by unfold nsOut; cases nsT row m <;> rfl
        rw [es]
        refine etb fun s H0 C cl fp => ?_
        rcases List.eq_nil_or_concat row with rfl | ⟨r, l, rfl⟩
        · exact vb_is (vb_or (u := false) (vb_not (vb_truT (vd_var 4 (Dpm p5 e6)))) fun z => nomatch z) rfl
        · rw [List.concat_eq_append] at p5 hrl ⊢
          refine vb_is (vb_or (vb_not (vb_truT (vd_var 4 (Dpm p5 e6)))) fun _ => vb_ltN (vd_lastT (vd_var 4 (Dpm p5 e6))) (vd_var 5 p6)) ?_
          unfold nsT
          simp
      · unfold nsOut at he
        split at he
        · cases he
          rw [← dT_snoc]
          refine edb fun s H0 C cl fp => vd_catT (vd_var 4 (Dpm p5 e6)) (vd_tup (vda_cons (vd_var 5 p6) vda_nil) (Nat.le_of_ble_eq_true rfl)) ?_
          rw [List.length_map]
          show row.length + 1 ≤ 100000
          omega
        · cases he
  · obtain ⟨S3, u, y3, a3, e23, hi, pu, rfl⟩ := h
    rw [List.length_map, List.length_range] at pu
    exact vs_last (vs_ret (vd_var 2 pu) a3.nw.within fun v' S' H' w' p' => q v' S' H' (a3.nw.trans w') p')
end
end K22
/-! K22, text 18: generators: an if in their body; the first item alone -/
namespace K22
open PySem PySem.Spec PyProof.Rows L2 Evl GenW

/-! ### all of a generator: the library's judgement -/
def VG (X : Cx) (st : Stmt) : TGn := fun D ys σ H => ∀ (A : Around) (S : Addr) (ip : List (Addr × Obj)) (R : GenEnd) (n : Nat) (s₀ : Shared) (c : Code) (fs : List Frame) (K : Flow → Sem PySem.Fin) (J : Value → Sem PySem.Fin) (gd : Bool → Bool) (lv : List Value → List Value) (s : Shared),
  GC X S ip A c fs gd → n + ys.length = sizeLine → GK X S ip A R c fs K J D → GI X S ip ys σ H s → Seg (model X.prog X.w) A R (GY X S) n s₀ c ((exec st X.env).wrap K J gd lv) fs s
def VGs (X : Cx) (sts : List Stmt) : TGn := fun D ys σ H => ∀ (A : Around) (S : Addr) (ip : List (Addr × Obj)) (R : GenEnd) (n : Nat) (s₀ : Shared) (c : Code) (fs : List Frame) (K : Flow → Sem PySem.Fin) (J : Value → Sem PySem.Fin) (gd : Bool → Bool) (lv : List Value → List Value) (s : Shared),
  GC X S ip A c fs gd → n + ys.length = sizeLine → GK X S ip A R c fs K J D → GI X S ip ys σ H s → Seg (model X.prog X.w) A R (GY X S) n s₀ c ((execs sts X.env).wrap K J gd lv) fs s
section
variable {X : Cx} {st : Stmt} {sts body els : List Stmt} {e test : Expr} {yp pos : Pos} {D : GEnds} {ys : List V} {σ : L2.St} {H : Hp} {t : TGn}
theorem gs_vg : GS X st (VG X st) := ⟨fun A S ip R n ys s₀ c fs K J gd lv s σ H D g hn k hI h => h A S ip R n s₀ c fs K J gd lv s g hn k hI⟩
theorem gss_vg : GSs X sts (VGs X sts) := ⟨fun A S ip R n ys s₀ c fs K J gd lv s σ H D g hn k hI h => h A S ip R n s₀ c fs K J gd lv s g hn k hI⟩
theorem vg_of (h : GS X st t) (q : t D ys σ H) : VG X st D ys σ H := fun A S ip R n s₀ c fs K J gd lv s g hn k hI => h.run A S ip R n ys s₀ c fs K J gd lv s σ H D g hn k hI q
theorem vgs_of (h : GSs X sts t) (q : t D ys σ H) : VGs X sts D ys σ H := fun A S ip R n s₀ c fs K J gd lv s g hn k hI => h.run A S ip R n ys s₀ c fs K J gd lv s σ H D g hn k hI q
theorem vg_vs (h : VS X st (D.at ys) σ H) : VG X st D ys σ H := vg_of (gs_ps ps_vs) h
theorem vgs_nil (h : D.nx ys σ H) : VGs X [] D ys σ H := vgs_of gss_nil h
theorem vgs_cons (h : VG X st { D with nx := fun ys' σ' H' => VGs X sts D ys' σ' H' } ys σ H) : VGs X (st :: sts) D ys σ H := vgs_of (gss_cons gs_vg gss_vg) h
theorem vg_yield (h1 : ys.length < sizeLine) (h : VE X e σ H fun x H1 => D.nx (ys ++ [x]) σ H1) (hco : X.env.scope.isCoroutine = false := by rfl) (hi : interactive X.env = false := by rfl) : VG X (.Expr (.Yield (some e) yp) pos) D ys σ H := vg_of (gs_yield pe_ve hco hi) ⟨h1, h⟩
theorem vg_if (h : VT X test σ H fun b H1 => if b = true then VGs X body D ys σ H1 else VGs X els D ys σ H1) : VG X (.If test body els pos) D ys σ H := fun A S ip R n s₀ c fs K J gd lv s g hn k hI => by
  obtain ⟨acc, cc, r, I⟩ := hI
  rw [exec_If]
  refine seg_bind_wrap (wpAny_standAt ?_)
  refine seg_bind_wrap ?_
  rw [g.over]
  refine wpAny_mono (h _ s I) (fun b s' hb => ?_) fun x s' hx => k.exc n s₀ x s' hx
  obtain ⟨H1, I1, q⟩ := hb
  cases b with
  | true => exact (show VGs X body D ys σ H1 from q) A S ip R n s₀ c fs K J gd lv s' g hn k ⟨acc, cc, r, I1⟩
  | false => exact (show VGs X els D ys σ H1 from q) A S ip R n s₀ c fs K J gd lv s' g hn k ⟨acc, cc, r, I1⟩
theorem vg_while (hp : PassesOwn (model X.prog X.w) X.A X.env X.xe) (W : Nat → List V → L2.St → Hp → Prop) (m : Nat) (h0 : W m ys σ H)
    (hs : ∀ m ys σ H, W m ys σ H → VT X test σ H fun b H1 => if b = true then ∃ N : List V → L2.St → Hp → Prop, (∀ ys' σ' H', N ys' σ' H' → ∃ m', m' < m ∧ W m' ys' σ' H') ∧ VGs X body { D with nx := N, ct := N, bk := D.nx } ys σ H1 else D.nx ys σ H1) : VG X (.While test body [] pos) D ys σ H :=
  vg_of (gs_while hp pt_vt gss_vg) ⟨W, ⟨m, h0⟩, hs⟩
end

/-! ### the first stretch: to the first yield or to the end -/
def Y1 (X : Cx) (pins : List (Addr × Obj)) (Yd : VK) : Protocol := fun n s₀ v s kap => ∃ x σ H, RelV x v ∧ Inv X pins σ H s ∧ Yd x H
structure C1 (X : Cx) (A : Around) (c : Code) (fs : List Frame) (gd : Bool → Bool) : Prop where
  over : A.over c fs = X.A
  split : splitAtGen fs = none
  guard : fs.any Frame.guarded = false
  gd : gd false = false
structure J1 (X : Cx) (pins : List (Addr × Obj)) (A : Around) (R : GenEnd) (Yd : VK) (c : Code) (fs : List Frame) (K : Flow → Sem PySem.Fin) (J : Value → Sem PySem.Fin) (D : Ends) : Prop where
  ok : ∀ (s₀ s : Shared) (f : Flow), SP X pins D f s → Seg (model X.prog X.w) A R (Y1 X pins Yd) 1 s₀ c (K f) fs s
  exc : ∀ (s₀ : Shared) (e : Value) (s : Shared), X.xe e s → Seg (model X.prog X.w) A R (Y1 X pins Yd) 1 s₀ c (J e) fs s
def V1 (X : Cx) (Yd : VK) (st : Stmt) : TS := fun D σ H => ∀ (pins : List (Addr × Obj)) (A : Around) (R : GenEnd) (s₀ : Shared) (c : Code) (fs : List Frame) (K : Flow → Sem PySem.Fin) (J : Value → Sem PySem.Fin) (gd : Bool → Bool) (lv : List Value → List Value) (s : Shared),
  C1 X A c fs gd → J1 X pins A R Yd c fs K J D → Inv X pins σ H s → Seg (model X.prog X.w) A R (Y1 X pins Yd) 1 s₀ c ((exec st X.env).wrap K J gd lv) fs s
def V1s (X : Cx) (Yd : VK) (sts : List Stmt) : TS := fun D σ H => ∀ (pins : List (Addr × Obj)) (A : Around) (R : GenEnd) (s₀ : Shared) (c : Code) (fs : List Frame) (K : Flow → Sem PySem.Fin) (J : Value → Sem PySem.Fin) (gd : Bool → Bool) (lv : List Value → List Value) (s : Shared),
  C1 X A c fs gd → J1 X pins A R Yd c fs K J D → Inv X pins σ H s → Seg (model X.prog X.w) A R (Y1 X pins Yd) 1 s₀ c ((execs sts X.env).wrap K J gd lv) fs s
section
variable {X : Cx} {Yd : VK} {st : Stmt} {sts body els : List Stmt} {e test : Expr} {yp pos : Pos} {D : Ends} {σ : L2.St} {H : Hp}
theorem v1_vs (h : VS X st D σ H) : V1 X Yd st D σ H := fun pins A R s₀ c fs K J gd lv s g k I => by
  refine seg_wrap ?_
  rw [g.over]
  exact wpAny_mono (h pins s I) (fun f s' hs => k.ok s₀ s' f hs) fun x s' hx => k.exc s₀ x s' hx
theorem v1s_nil (h : D.nx σ H) : V1s X Yd [] D σ H := fun pins A R s₀ c fs K J gd lv s g k I => seg_execs_nil (k.ok s₀ s .next ⟨σ, H, I, h⟩)
theorem v1s_cons (h : V1 X Yd st { D with nx := fun σ' H' => V1s X Yd sts D σ' H' } σ H) : V1s X Yd (st :: sts) D σ H := fun pins A R s₀ c fs K J gd lv s g k I => by
  refine seg_execs_cons ?_
  refine h pins A R s₀ c fs _ J gd lv s g ⟨fun s₀' s' f hs => ?_, k.exc⟩ I
  cases f with
  | next =>
    obtain ⟨σ', H', I', q⟩ := hs
    exact q pins A R s₀' c fs K J gd lv s' g k I'
  | brk => exact k.ok s₀' s' .brk hs
  | cont => exact k.ok s₀' s' .cont hs
  | ret u => exact k.ok s₀' s' (.ret u) hs
theorem v1_yield (h : VE X e σ H Yd) (hco : X.env.scope.isCoroutine = false := by rfl) (hi : interactive X.env = false := by rfl) : V1 X Yd (.Expr (.Yield (some e) yp) pos) D σ H := fun pins A R s₀ c fs K J gd lv s g k I => by
  refine seg_Expr_Yield g.split g.gd g.guard ?_ hco hi
  rw [g.over]
  refine wpAny_mono (h pins s I) (fun v s' hv => ?_) fun x s' hx => k.exc s₀ x s' hx
  obtain ⟨x, H1, I1, rv, q⟩ := hv
  exact fun kap hk => ⟨x, σ, H1, rv, I1, q⟩
theorem v1_if (h : VT X test σ H fun b H1 => if b = true then V1s X Yd body D σ H1 else V1s X Yd els D σ H1) : V1 X Yd (.If test body els pos) D σ H := fun pins A R s₀ c fs K J gd lv s g k I => by
  rw [exec_If]
  refine seg_bind_wrap (wpAny_standAt ?_)
  refine seg_bind_wrap ?_
  rw [g.over]
  refine wpAny_mono (h _ s I) (fun b s' hb => ?_) fun x s' hx => k.exc s₀ x s' hx
  obtain ⟨H1, I1, q⟩ := hb
  cases b with
  | true => exact (show V1s X Yd body D σ H1 from q) pins A R s₀ c fs K J gd lv s' g k I1
  | false => exact (show V1s X Yd els D σ H1 from q) pins A R s₀ c fs K J gd lv s' g k I1
theorem c1_loop {A : Around} {c c' : Code} {fs : List Frame} {gd : Bool → Bool} {k : Result → Sem PySem.Fin} {l kp : List Value} {p : Pos} (g : C1 X A c fs gd) (hw : c'.weight = 0) (hu : c'.cUnits = 0) : C1 X A c' (.ret k none (gd false) l c p kp :: fs) id where
  over := (over_loop hw hu).trans g.over
  split := by
    show (splitAtGen fs).map _ = none
    rw [g.split]; rfl
  guard := by
    show (gd false || fs.any Frame.guarded) = false
    rw [g.gd, g.guard]; rfl
  gd := rfl
theorem seg_cameBack1 {pins : List (Addr × Obj)} {A : Around} {R : GenEnd} {c : Code} {fs : List Frame} {K : Flow → Sem PySem.Fin} {J : Value → Sem PySem.Fin} {gd : Bool → Bool} {lv : List Value → List Value} {s₀ s : Shared} {e : Value}
    (g : C1 X A c fs gd) (k : J1 X pins A R Yd c fs K J D) (h : cameBackBy (model X.prog X.w) X.A X.env X.xe e s) :
    Seg (model X.prog X.w) A R (Y1 X pins Yd) 1 s₀ c (((Sem.raise e : Sem Flow).onRaise (cameBack X.env)).wrap K J gd lv) fs s := by
  show Seg _ _ _ _ _ _ _ (((cameBack X.env e).bind fun _ => (Sem.raise e : Sem Flow)).wrap K J gd lv) _ _
  rw [Sem.bind_eq_wrap, Sem.wrap_wrap]
  refine seg_wrap ?_
  rw [g.over]
  exact wpAny_mono h (fun _ s' hx => k.exc s₀ e s' hx) fun x s' hx => k.exc s₀ x s' hx
theorem v1_while (hp : PassesOwn (model X.prog X.w) X.A X.env X.xe) (W : Nat → L2.St → Hp → Prop) (m0 : Nat) (h0 : W m0 σ H)
    (turn : ∀ m σ H, W m σ H → VT X test σ H fun b H1 => if b = true then ∃ N : L2.St → Hp → Prop, (∀ σ' H', N σ' H' → ∃ m', m' < m ∧ W m' σ' H') ∧ V1s X Yd body { D with nx := N, ct := N, bk := D.nx } σ H1 else D.nx σ H1) : V1 X Yd (.While test body [] pos) D σ H := fun pins A R s₀ c fs K J gd lv s g k I => by
  refine seg_While fun p => ?_
  have gl := fun (kk : Result → Sem PySem.Fin) => c1_loop (k := kk) (c' := .whileLoop test body [] X.env) (l := lv []) (kp := []) (p := p) g rfl rfl
  have loop : ∀ (m : Nat) (s₀ s : Shared) (σ : L2.St) (H : Hp), W m σ H → Inv X pins σ H s →
      Seg (model X.prog X.w) A R (Y1 X pins Yd) 1 s₀ (.whileLoop test body [] X.env) ((model X.prog X.w).den (.whileLoop test body [] X.env))
        (.ret (fun r => ((match r with | .ok f => (.pure f : Sem Flow) | .error e => .raise e).onRaise (cameBack X.env)).wrap K J gd lv) none (gd false) (lv []) c p [] :: fs) s := by
    intro m
    induction m using Nat.strongRecOn with
    | ind m ih =>
      intro s₀ s σ H w I
      have ee : ∀ (s₀ : Shared) (x : Value) (s' : Shared), X.xe x s' → Seg (model X.prog X.w) A R (Y1 X pins Yd) 1 s₀ (.whileLoop test body [] X.env)
          ((do noteFrame x X.env; theTreesLotGoes x : Sem Unit).wrap (fun _ => .raise x) .raise id id)
          (.ret (fun r => ((match r with | .ok f => (.pure f : Sem Flow) | .error e => .raise e).onRaise (cameBack X.env)).wrap K J gd lv) none (gd false) (lv []) c p [] :: fs) s' := fun s₀ x s' hx => by
        refine seg_wrap ?_
        rw [(gl _).over]
        refine wpAny_bind (wpAny_mono (hp x s' hx) (fun _ s'' hcb => wpAny_theTreesLotGoes ?_) fun y s'' hcb => ?_)
        · exact seg_leaf (.error x) (seg_cameBack1 g k hcb)
        · exact seg_leaf (.error y) (seg_cameBack1 g k hcb)
      refine seg_whileLoop ?_
      rw [(gl _).over]
      refine wpAny_mono (turn m σ H w pins s I) (fun b s' hb' => ?_) fun x s' hx => ee s₀ x s' hx
      obtain ⟨H2, I2, q2⟩ := hb'
      cases b with
      | true =>
        obtain ⟨N, hN, q2⟩ := q2
        rw [if_pos rfl]
        refine q2 pins A R _ _ _ _ _ id id s' (gl _) ⟨fun s₀' s3 f hs => ?_, fun s₀' x s3 hx => ee s₀' x s3 hx⟩ I2
        cases f with
        | next =>
          obtain ⟨σ3, H3, I3, n3⟩ := hs
          obtain ⟨m', hm, w3⟩ := hN σ3 H3 n3
          exact seg_again rfl (ih m' hm s₀' s3 σ3 H3 w3 I3)
        | cont =>
          obtain ⟨σ3, H3, I3, n3⟩ := hs
          obtain ⟨m', hm, w3⟩ := hN σ3 H3 n3
          exact seg_again rfl (ih m' hm s₀' s3 σ3 H3 w3 I3)
        | brk => exact seg_leaf (.ok .next) (k.ok s₀' s3 .next hs)
        | ret v => exact seg_leaf (.ok (.ret v)) (k.ok s₀' s3 (.ret v) hs)
      | false =>
        rw [if_neg Bool.false_ne_true]
        refine seg_execs_nil ?_
        exact seg_leaf (.ok .next) (k.ok s₀ s' .next ⟨σ, H2, I2, q2⟩)
  exact loop m0 s₀ s σ H h0 I
end

/-! ### a generator def whose first item is wanted -/
abbrev Sp1 := List V → Hp → (Option V → Hp → Prop) → Prop
def F1 (P : Program) (w : World) (outer : List Env) (H : Hp) (s : Shared) (Q : Option V → Hp → Prop) (o : Option V) (s1 : Shared) : Prop := ∃ H', s1.os = s.os ∧ AllBare s1.gens ∧ Un (frs outer) [] H H' s.heap s1.heap ∧ HOk P w H' s1.heap ∧ Q o H'
def R1 (P : Program) (w : World) (outer : List Env) (H : Hp) (s : Shared) (Q : Option V → Hp → Prop) : GenEnd := fun n s₀ r s1 => ((r = .ok (.ret .none) ∨ r = .ok .next) ∧ F1 P w outer H s Q none s1) ∨ ∃ e, r = .error e ∧ False
def YF (P : Program) (w : World) (outer : List Env) (H : Hp) (s : Shared) (Q : Option V → Hp → Prop) : Protocol := fun n s₀ v s1 kap => ∃ x, RelV x v ∧ F1 P w outer H s Q (some x) s1
def GMade1 (P : Program) (w : World) (k : Nat) (outer : List Env) (H : Hp) (s : Shared) (Q : Option V → Hp → Prop) (u : Value) (s' : Shared) : Prop :=
  ∃ (a : Addr) (g : Nat) (c : Code), u = .ref a ∧ s'.heap.IsGen a g ∧ s'.gens[g]? = some (.fresh c) ∧ s'.os = s.os ∧ AllBare s'.gens ∧ s'.heap.NoLimit ∧ (∀ b o, s.heap.get? b = some o → s'.heap.get? b = some o) ∧
    ∀ (A : Around) (s2 : Shared), Room k A → A.frames = some outer → (∀ b o, s'.heap.get? b = some o → s2.heap.get? b = some o) → s2.os = s.os → AllBare s2.gens →
      Seg (model P w) A (R1 P w outer H s Q) (YF P w outer H s Q) 1 s2 c ((model P w).den c) [] s2
structure GF1 (P : Program) (w : World) (K : PySem.W.Frag) (mg : Str → Option Value) (base : Heap) (k : Nat) (f : Addr) (fd : FuncData) (ps : List Str) (sp : Sp1) : Prop where
  len : ∀ vs H Q, sp vs H Q → vs.length = ps.length
  run : ∀ (A : Around) (outer : List Env) (s : Shared) (H : Hp) (args : Args) (us : List Value) (vs : List V) (Q : Option V → Hp → Prop), Room k A → Env0 P w K mg base A outer s H → BindsTo s fd args (ps.zip us) → Vals vs us → sp vs H Q →
    codeAny (model P w) A (.call (.ref f) args) (fun r s' => match r with | .ok (.ret u) => GMade1 P w k outer H s Q u s' | _ => False) s
theorem gf1_of {P : Program} {w : World} {K : PySem.W.Frag} {mg : Str → Option Value} {base : Heap} {k : Nat} {f : Addr} {name qual : Str} {params : Arguments} {body : List Stmt} {scope : Scope} {dV kV doc pm cdv ct oc : Value} {an od : Option Addr}
    {osl : Array (Option Value)} {N ps : List Str} {sp : Sp1} (lk : K.lookup f = some ⟨oc, od, .func (PySem.W.fnOf name qual params body scope dV kV doc pm an cdv ct), osl⟩) (hcd : PySem.W.codeIn K cdv qual = true) (S : GScope N ps scope)
    (len : ∀ vs H Q, sp vs H Q → vs.length = ps.length)
    (hbody : ∀ (A : Around) (outer : List Env) (s : Shared) (H : Hp) (vs : List V) (Q : Option V → Hp → Prop), Room k (A.deeper (envOfC qual scope s.heap.objs.size f cdv)) → sp vs H Q →
      V1s (gcxOf P w K mg base N qual scope f cdv A outer s H E0 []) (fun x H' => Q (some x) H') body { nx := fun _ H' => Q none H', rt := fun v H' => v = .non ∧ Q none H' } (start N vs) H) :
    GF1 P w K mg base (k + 1) f (PySem.W.fnOf name qual params body scope dV kV doc pm an cdv ct) ps sp := by
  refine ⟨len, fun A outer s H args us vs Q hr e0 hb r hsp => ?_⟩
  have hl := len _ _ _ hsp
  have KX : K.In s.heap := e0.mod.kin.keeps fun b o e => (e0.bs b o e).1
  have lim : s.heap.NoLimit := e0.mod.nolimit.keeps fun b o e => (e0.bs b o e).1
  have hkind : ∀ y ∈ ps.zip us, scope.names.lookup y.1 = some .local ∨ (scope.names.lookup y.1 = some .cell ∧ ((cellsFrom (s.heap.objs.size + 1) scope.names []).lookup y.1).isSome = true) := fun ⟨n, v⟩ hy => by
    rcases S.par n (List.of_mem_zip hy).1 with q | q
    · exact .inl q
    · exact .inr ⟨q, PySem.W.cellsFrom_some _ _ _ (.inl q)⟩
  refine codeAny_call_generator hr.depth (KX _ _ lk) rfl S.co S.gen rfl (PySem.W.codeRec_of KX hcd) (hb _ _ _ _ ?_)
  refine wpAny_newFunctionEnv_cells S.kind hkind fun env he s1 x => ?_
  subst he
  have lim1 : s1.heap.NoLimit := lim.keeps x.toInCall.keep
  refine ⟨lim1, ?_⟩
  obtain ⟨h1, tk, es1, hk1⟩ := x.done
  have os1 : s1.os = s.os := by rw [es1]
  have gen1 : s1.gens = s.gens := by rw [es1]
  have kp1 : ∀ b o, s.heap.get? b = some o → s1.heap.get? b = some o := x.toInCall.keep
  have main : ∀ (go : Obj) (nm qn : Value) (tk2 : Nat), go.cls = .type "generator" → go.data = .fields #[.int s1.gens.size 0, nm, qn] → go.slots = #[] → (∀ h : Heap, (h.push go).get? h.objs.size = some go) →
      GMade1 P w (k + 1) outer H s Q (.ref s1.heap.objs.size) { s1 with gens := s1.gens.push (.fresh (.func body (envOfC qual scope s.heap.objs.size f cdv))), toks := tk2, heap := s1.heap.push go } := by
    intro go nm qn tk2 hgc hgd0 hgs hgp
    refine ⟨s1.heap.objs.size, s1.gens.size, _, rfl, ⟨go, nm, qn, hgp _, hgc, hgd0, hgs⟩, Array.getElem?_push_size .., os1, ?_, lim1.keeps fun b o e => Heap.get?_push_of_some _ e, fun b o e => Heap.get?_push_of_some _ (kp1 b o e), ?_⟩
    · exact AllBare.push (by rw [gen1]; exact e0.bare) rfl
    intro Aw s2 hrw hfr hk2 hos hba
    have e0w : Env0 P w K mg base Aw outer s H := ⟨hfr, e0.mod, e0.bs, e0.bsz, e0.funs, e0.frf, e0.hok, e0.bare⟩
    have I1 : Inv (gcxOf P w K mg base N qual scope f cdv Aw outer s H E0 []) [] (start N vs) H s1 := inv_startG S hrw.hd e0w hl r x
    have kp2 : ∀ b o, s1.heap.get? b = some o → s2.heap.get? b = some o := fun b o e => hk2 b o (Heap.get?_push_of_some _ e)
    have I2 : Inv (gcxOf P w K mg base N qual scope f cdv Aw outer s H E0 []) [] (start N vs) H s2 :=
      I1.call' (ch := []) (hos.trans os1.symm) (Un.kept kp2) (I1.hok.kept kp2) hba fun b z => by simp at z
    refine seg_func ?_
    refine seg_imp (R := R1 P w outer H s Q) (Y := Y1 (gcxOf P w K mg base N qual scope f cdv Aw outer s H E0 []) [] (fun x H' => Q (some x) H')) (fun n s₀ r s1' hR => hR) (fun n s₀ v s1' kap kap' hkk hY => ?_) 1 ?_
    · obtain ⟨xx, σ', H', rv, J, q⟩ := hY
      exact ⟨xx, rv, H', J.os, J.bare, J.base, J.hok, q⟩
    · refine hbody Aw outer s H vs Q (hrw.deeper _) hsp [] Aw _ s2 _ [] _ _ id id s2 ⟨over_func, rfl, rfl, rfl⟩ ⟨fun s₀ s' fl hs => ?_, fun s₀ e s' hx => ?_⟩ I2
      · cases fl with
        | next =>
          obtain ⟨σ', H', J, hQ⟩ := hs
          exact seg_end (.ok (.ret .none)) (.inl ⟨.inl rfl, H', J.os, J.bare, J.base, J.hok, hQ⟩)
        | brk => obtain ⟨_, _, _, q⟩ := hs; exact False.elim q
        | cont => obtain ⟨_, _, _, q⟩ := hs; exact False.elim q
        | ret u =>
          obtain ⟨v, σ', H', J, rv, ev, hQ⟩ := hs
          subst ev
          have eu : u = Value.none := rv
          subst eu
          exact seg_end (.ok (.ret .none)) (.inl ⟨.inl rfl, H', J.os, J.bare, J.base, J.hok, hQ⟩)
      · refine seg_wrap ?_
        rw [over_func]
        refine wpAny_mono (show wpAny (model P w) (Aw.deeper (envOfC qual scope s.heap.objs.size f cdv)) (leaving (envOfC qual scope s.heap.objs.size f cdv) e) (fun _ s'' => CX P w outer H s E0 e s'' ∧ ∀ p ∈ ([] : List (Addr × Obj)), s''.heap.get? p.1 = some p.2) (fun _ _ => False) s' from hx) (fun _ s'' q => ?_) fun _ s'' q => q.elim
        obtain ⟨⟨_, _, _, _, _, _, _, _, _, _, _, _, z⟩, _⟩ := q
        exact z.elim
  exact main _ _ _ _ rfl rfl rfl fun h => Heap.get?_push_size _ rfl
end K22
/-! K22, text 19: calls of generator defs: the first item; the list of all -/
namespace K22
open PySem PySem.Spec PyProof.Rows L2 Evl GenW
structure PG1 (X : Cx) (k : Nat) (e : Expr) (t : L2.St → Hp → (Option V → Hp → Prop) → Prop) : Prop where
  run : ∀ (pins : List (Addr × Obj)) (s : Shared) (σ : L2.St) (H : Hp) (Q : Option V → Hp → Prop), Inv X pins σ H s → t σ H Q → wpAny (model X.prog X.w) X.A (eval e X.env)
    (fun u s' => ∃ H1 sc, Inv X pins σ H1 sc ∧ GMade1 X.prog X.w k X.stack H1 sc Q u s') X.xe s
section
variable {X : Cx} {k : Nat} {f : Addr} {fd : FuncData} {ps : List Str} {sp : Sp1} {x : Str} {p pos pos' : Pos}
theorem run_gf1 {pins : List (Addr × Obj)} {σ : L2.St} {H : Hp} {s : Shared} {us : List Value} {vs : List V} {Q : Option V → Hp → Prop} {E1 : Value → Shared → Prop} (F : GF1 X.prog X.w X.K X.mg X.base k f fd ps sp) (hr : Room k X.A) (hb : Binds X.K fd ps [])
    (I : Inv X pins σ H s) (r : Vals vs us) (h : sp vs H Q) :
    wpAny (model X.prog X.w) X.A (call (.ref f) us) (fun u s' => ∃ H1 sc, Inv X pins σ H1 sc ∧ GMade1 X.prog X.w k X.stack H1 sc Q u s') E1 s := by
  have hl2 : (us ++ []).length = ps.length := by rw [List.append_nil, ← r.length]; exact F.len _ _ _ h
  have hb2 := hb s us I.kIn hl2
  rw [List.append_nil] at hb2
  refine wpAny_call (codeAny_mono (F.run X.A X.stack s H ⟨us, []⟩ us vs Q hr I.env0 hb2 r h) fun r s' hq => ?_)
  cases r with
  | error e => exact False.elim hq
  | ok fl =>
    cases fl with
    | ret u => exact ⟨H, s, I, hq⟩
    | next => exact False.elim hq
    | brk => exact False.elim hq
    | cont => exact False.elim hq
theorem pg1_call {e : Expr} {es : List Expr} {t : TA} (F : GF1 X.prog X.w X.K X.mg X.base k f fd ps sp) (hr : Room k X.A) (hg : Gl X x) (hm : X.mg x = some (.ref f)) (hk : PySem.W.keepIn X.K (.ref f) = true) (hb : Binds X.K fd ps [])
    (ha : PA X (e :: es) t) (hdb : (x == ("__debug__" : Str)) = false := by decide) (he : starEach (e :: es) X.env = (false, eval e X.env) :: starEach es X.env := by rfl) (hpl : (backTo pos' (starEach es X.env)).any (·.1) = false := by rfl) :
    PG1 X k (.Call (.Name x p) (e :: es) [] pos') (fun σ H Q => t σ H fun vs H1 => sp vs H1 Q) := by
  refine ⟨fun pins s σ H cont I h => ?_⟩
  refine wpAny_Call_Name_kw (ld_glob I hg hm ?_ hdb)
  refine PySem.W.callWith_K (h₀ := X.base) I.ok.mod.kin hk (thn (ha.run pos' pins s σ H _ I h) fun us s1 ⟨vs, H1, I1, r, q⟩ => ⟨I1.kIn, ?_⟩) he hpl
  exact run_gf1 F hr hb I1 r q
/-- for x in g(..): a body that leaves at once -/
theorem vs_first1 {iter : Expr} {body : List Stmt} {t : L2.St → Hp → (Option V → Hp → Prop) → Prop} {g : TG} {σ : L2.St} {H : Hp} {D : Ends} (hr : Room (k + 1) X.A) (hi : PG1 X k iter t) (hg : PG X (.Name x p) g)
    (h : t σ H fun o H' => match o with
      | some v => g v σ H' fun σ2 H2 => VSs X body { D with nx := fun _ _ => False, ct := fun _ _ => False, bk := D.nx } σ2 H2
      | none => D.nx σ H')
    (hp : PassesOwn (model X.prog X.w) X.A X.env X.xe := by exact PassesOwn.never) (hs : ∀ x, foldedSetIterable iter X.env x = pure x := by intro _; rfl) : VS X (.For (.Name x p) iter body [] pos) D σ H := fun pins s I => by
  refine wpAny_For (thn (hi.run pins s σ H _ I h) fun u s1 ⟨H1, sc, I1, gm⟩ => ?_) hs
  obtain ⟨a, gn, c, rfl, hgen, hgs, hos, hb, hl, hkp, wake⟩ := gm
  refine wpAny_pyIter_gen hgen ?_
  refine codeAny_forLoop_any (fun n s' => s' = s1) ?_ 0 rfl
  rintro n s3 rfl
  refine wpAny_passesOwn hp (next_genG (n := 1) (gs := .fresh c) (A := X.A) (F := fun _ _ s' => F1 X.prog X.w X.stack H1 sc _ none s') (Er := fun _ _ => False) (Y := YF X.prog X.w X.stack H1 sc _) hr.hd hl hr.depth hgen hgs ⟨rfl, wake X.A.in1 _ hr.in1 I1.ok.frames (fun _ _ e => e) hos (allBare_setGen hb rfl)⟩ (fun v s₁ gs' hbare hv => ?_) (fun s₁ hp' h' hk => ?_) fun e s₁ he => he.elim)
  · obtain ⟨xv, rv, H', os1, b1, un, hok, q⟩ := hv
    have I2 : Inv X pins σ H' (s₁.setGen gn gs') := I1.call' (ch := []) os1 un hok (allBare_setGen b1 hbare) fun b z => by simp at z
    refine wpAny_pure ?_
    refine wpAny_passesOwn hp (thn (hg.run _ _ σ H' xv v _ I2 rv q) fun _ s6 ⟨σ6, H6, I6, q6⟩ => ?_)
    refine wpAny_passesOwn hp (thn (q6 pins s6 I6) fun f s7 q7 => ?_)
    cases f with
    | next => obtain ⟨σ7, H7, I7, n7⟩ := q7; exact n7.elim
    | cont => obtain ⟨σ7, H7, I7, n7⟩ := q7; exact n7.elim
    | brk => obtain ⟨σ7, H7, I7, q7⟩ := q7; exact ⟨σ7, H7, I7, q7⟩
    | ret v => obtain ⟨x7, σ7, H7, I7, r7, q7⟩ := q7; exact ⟨x7, σ7, H7, I7, r7, q7⟩
  · obtain ⟨H', os1, b1, un, hok, q⟩ := hp'
    have I2 : Inv X pins σ H' { s₁.setGen gn .finished with heap := h' } := I1.call' (ch := []) os1 (un.trans (Un.kept hk)) (hok.kept hk) (allBare_setGen b1 rfl) fun b z => by simp at z
    exact wpAny_execs_nil ⟨σ, H', I2, q⟩
end
/-! ### promises over data -/
abbrev PT1 := List PyData → (Option PyData → Prop) → Prop
def sp1D (K : PySem.W.Frag) (Pr : PT1) : Sp1 := fun vs H Q => ∃ S ds, Ex S H ∧ DDA K S vs ds ∧ Pr ds fun od => ∀ S' H', Nw S H S' H' → match od with
  | none => Q none H'
  | some d => ∀ v, DD K S' v d → Q (some v) H'
structure Fi (P : Program) (w : World) (K : PySem.W.Frag) (mg : Str → Option Value) (base : Heap) (k : Nat) (x : Str) (Pr : PT1) : Prop where
  ex : ∃ (f : Addr) (fd : FuncData) (ps : List Str), mg x = some (.ref f) ∧ PySem.W.keepIn K (.ref f) = true ∧ Binds K fd ps [] ∧ GF1 P w K mg base k f fd ps (sp1D K Pr)
abbrev PTA := List PyData → (List PyData → Prop) → Prop
def spGD (K : PySem.W.Frag) (Pr : PTA) : SpG := fun vs H Q E => ∃ S ds, Ex S H ∧ DDA K S vs ds ∧ Pr ds fun out => ∀ ys S' H', Nw S H S' H' → DDA K S' ys out → Q ys H'
structure Ga (P : Program) (w : World) (K : PySem.W.Frag) (mg : Str → Option Value) (base : Heap) (k : Nat) (x : Str) (Pr : PTA) : Prop where
  ex : ∃ (f : Addr) (fd : FuncData) (ps : List Str), mg x = some (.ref f) ∧ PySem.W.keepIn K (.ref f) = true ∧ Binds K fd ps [] ∧ GFn P w K mg base k f fd ps (spGD K Pr)
section
variable {X : Cx} {k : Nat} {x y : Str} {e : Expr} {es : List Expr} {p p1 p2 pos pos' pr ps2 : Pos} {σ : L2.St} {S H : Hp} {ds : List PyData} {D : Ends}
/-- for y in x(..): return y -/
theorem vs_first (j : Nat) {od : Option PyData} {Pr : PT1} (G : Fi X.prog X.w X.K X.mg X.base k x Pr) (hr : Room (k + 1) X.A) (ha : VDA X (e :: es) σ S ds) (hS : Ex S H) (hp : ∀ R : Option PyData → Prop, R od → Pr ds R)
    (h0 : od = none → ∀ S' H', Nw S H S' H' → D.nx σ H') (h1 : ∀ d, od = some d → ∀ v S' H', Nw S H S' H' → DD X.K S' v d → D.rt v H')
    (hN : X.N.Nodup) (hj : X.N[j]? = some y := by rfl) (hyl : Loc X.env.scope y := by first | exact Or.inl rfl | exact Or.inr rfl) (hf : X.fn y = true ∨ X.env.scope.names.lookup y = some .local := by first | exact Or.inl rfl | exact Or.inr rfl) (hv : Vis X.env.scope y := by first | exact Or.inl rfl | exact Or.inr (Or.inl rfl) | exact Or.inr (Or.inr rfl)) (hyd : (y == ("__debug__" : Str)) = false := by decide) (hycd : (y == ("__classdict__" : Str)) = false := by decide) (hsl : j < σ.length)
    (hg : Gl X x := by rfl) (hdb : (x == ("__debug__" : Str)) = false := by decide) (he : starEach (e :: es) X.env = (false, eval e X.env) :: starEach es X.env := by rfl) (hpl : (backTo pos' (starEach es X.env)).any (·.1) = false := by rfl)
    (hpo : PassesOwn (model X.prog X.w) X.A X.env X.xe := by exact PassesOwn.never) (hs : ∀ z, foldedSetIterable (.Call (.Name x p) (e :: es) [] pos') X.env z = pure z := by intro _; rfl) :
    VS X (.For (.Name y p1) (.Call (.Name x p) (e :: es) [] pos') [.Return (some (.Name y p2)) pr] [] pos) D σ H := by
  obtain ⟨f, fd, ps, g1, g2, g3, g4⟩ := G.ex
  refine vs_first1 hr (pg1_call g4 (hr.mono (Nat.le_succ _)) hg g1 g2 g3 pa_va hdb he hpl) (pg_name hN hj hyl hf) (ha H hS _ fun vs S1 H1 w1 q1 => ⟨S1, ds, w1.within, q1, hp _ fun S' H' w' => ?_⟩) hpo hs
  cases od with
  | none => exact h0 rfl S' H' (w1.trans w')
  | some d =>
    intro v pv
    exact vs_last (vs_ret (vd_var j pv (by simp [hsl]) hj hv hyd hycd) w'.within fun v2 S2 H2 w2 q2 => h1 d rfl v2 S2 H2 ((w1.trans w').trans w2) q2)
/-- list(x(..)) -/
theorem vd_listG {out : List PyData} {Pr : PTA} (G : Ga X.prog X.w X.K X.mg X.base k x Pr) (hr : Room (k + 3) X.A) (hl : X.mg "list" = none) (ha : VDA X (e :: es) σ S ds) (hp : ∀ R : List PyData → Prop, R out → Pr ds R)
    (hg : Gl X x := by rfl) (hgl : Gl X "list" := by rfl) (hdb : (x == ("__debug__" : Str)) = false := by decide) (he : starEach (e :: es) X.env = (false, eval e X.env) :: starEach es X.env := by rfl) (hpl : (backTo pos' (starEach es X.env)).any (·.1) = false := by rfl)
    (hel : starEach [.Call (.Name x p) (e :: es) [] pos'] X.env = (false, eval (.Call (.Name x p) (e :: es) [] pos') X.env) :: starEach [] X.env := by rfl) : VD X (.Call (.Name "list" p1) [.Call (.Name x p) (e :: es) [] pos'] [] pos) σ S (.list out) := by
  obtain ⟨f, fd, ps, g1, g2, g3, g4⟩ := G.ex
  refine vd_of (pe_listG (E := E0) (pgen_call g4 (hr.mono (by omega)) hg g1 g2 g3 .nil pa_va hdb he hpl) (fun _ _ _ _ _ _ _ c => ?_) (fun _ _ _ h => h.elim) hr hgl hl (by decide +kernel) (by decide) (by decide) hel) fun H hS Q q => ha H hS _ fun vs S1 H1 w1 q1 => ?_
  · obtain ⟨_, _, _, _, _, _, _, _, _, _, _, _, z⟩ := c
    exact z.elim
  · show spGD X.K Pr (vs ++ []) H1 _ E0
    rw [List.append_nil]
    refine ⟨S1, ds, w1.within, q1, hp _ fun ys S' H' w' py l hl => ?_⟩
    exact q (.ref l) _ _ ((w1.trans w').trans (Nw.put w'.within hl)) (.lst upd_same (Dam py (Ex.new (fresh_back w'.within hl))))
end
/-- the rules by the text -/
theorem fi_def {P : Program} {w : World} {K : PySem.W.Frag} {mg : Str → Option Value} {base : Heap} {i : Nat} {x : Str} {N ps : List Str} {k : Nat} {Pr : PT1} (D : Def K mg i x ps) (Sc : GScope N ps (defScope (topS i))) (hl : ∀ ds R, Pr ds R → ds.length = ps.length)
    (body : ∀ (f : Addr) (cdv : Value) (A : Around) (outer : List Env) (s : Shared) (S H : Hp) (vs : List V) (ds : List PyData) (Q : Option V → Hp → Prop), Room k (A.deeper (envOfC x (defScope (topS i)) s.heap.objs.size f cdv)) → Ex S H → DDA K S vs ds → (Pr ds fun od => ∀ S' H', Nw S H S' H' → match od with
        | none => Q none H'
        | some d => ∀ v, DD K S' v d → Q (some v) H') →
      V1s (gcxOf P w K mg base N x (defScope (topS i)) f cdv A outer s H E0 []) (fun v H' => Q (some v) H') (defBody (topS i)) { nx := fun _ H' => Q none H', rt := fun v H' => v = .non ∧ Q none H' } (start N vs) H) : Fi P w K mg base (k + 1) x Pr := by
  obtain ⟨f, fd, F, hm, hb⟩ := D.ex
  obtain ⟨oc, od, kV, doc, pm, an, cdv, ct, osl, e, lk, hcd⟩ := F.ex
  refine ⟨f, fd, ps, hm, F.kp, hb, ?_⟩
  subst e
  refine gf1_of lk hcd Sc (fun vs H Q h => ?_) fun A outer s H vs Q hr h => ?_
  · obtain ⟨S, ds, _, h1, h2⟩ := h
    rw [da_len h1, hl _ _ h2]
  · obtain ⟨S, ds, h0, h1, h2⟩ := h
    exact body f cdv A outer s S H vs ds Q hr h0 h1 h2
theorem ga_def {P : Program} {w : World} {K : PySem.W.Frag} {mg : Str → Option Value} {base : Heap} {i : Nat} {x : Str} {N ps : List Str} {k : Nat} {Pr : PTA} (D : Def K mg i x ps) (Sc : GScope N ps (defScope (topS i))) (hl : ∀ ds R, Pr ds R → ds.length = ps.length)
    (body : ∀ (f : Addr) (cdv : Value) (A : Around) (outer : List Env) (s : Shared) (S H : Hp) (vs : List V) (ds : List PyData) (Q : List V → Hp → Prop) (E : XK) (pn : List (Addr × Obj)), Room k (A.deeper (envOfC x (defScope (topS i)) s.heap.objs.size f cdv)) → Ex S H → DDA K S vs ds → (Pr ds fun out => ∀ ys S' H', Nw S H S' H' → DDA K S' ys out → Q ys H') →
      VGs (gcxOf P w K mg base N x (defScope (topS i)) f cdv A outer s H E pn) (defBody (topS i)) { nx := fun ys _ H' => Q ys H', rt := fun ys v H' => v = .non ∧ Q ys H' } [] (start N vs) H) : Ga P w K mg base (k + 1) x Pr := by
  obtain ⟨f, fd, F, hm, hb⟩ := D.ex
  obtain ⟨oc, od, kV, doc, pm, an, cdv, ct, osl, e, lk, hcd⟩ := F.ex
  refine ⟨f, fd, ps, hm, F.kp, hb, ?_⟩
  subst e
  refine gfn_of lk hcd Sc (fun vs H Q E h => ?_) fun A outer s H vs Q E pn hr h => ?_
  · obtain ⟨S, ds, _, h1, h2⟩ := h
    rw [da_len h1, hl _ _ h2]
  · obtain ⟨S, ds, h0, h1, h2⟩ := h
    exact ⟨_, gss_vg, body f cdv A outer s S H vs ds Q E pn hr h0 h1 h2⟩
end K22
/-! K22, part F: the generator's walk over all rows -/
namespace K22
section
variable (a b : Adj) (n m : Nat)
def tailO (row : List Nat) (v : Nat) : List (List Nat) := ((List.range' v (m - v)).filter (fitsB a b row)).flatMap fun u => dfs a b m (n - row.length - 1) (row ++ [u])
def restO : List Nat → List (List Nat)
  | [] => []
  | l :: t => tailO a b n m t.reverse (l + 1) ++ restO t
def emitO (row : List Nat) : List (List Nat) := if row.length = n then [row] else []
def todoO (row : List Nat) (v : Nat) : List (List Nat) := (if row.length = n then [row] else tailO a b n m row v) ++ restO a b n m row.reverse
def costO : Nat → Nat → Nat
  | 0, _ => 1
  | k + 1, v => (m - v) * (1 + costO k 0) + 1
def restC : List Nat → Nat
  | [] => 0
  | l :: t => costO m (n - t.length) (l + 1) + restC t
def measO (row : List Nat) (v : Nat) : Nat := costO m (n - row.length) v + restC n m row.reverse
end
section
variable {a b : Adj} {n m : Nat}
theorem tail_end (row : List Nat) {v : Nat} (h : m ≤ v) : tailO a b n m row v = [] := by
  unfold tailO
  rw [Nat.sub_eq_zero_of_le h]; rfl
theorem tail_step {row : List Nat} {v : Nat} (h : v < m) : tailO a b n m row v = (if fitsB a b row v then dfs a b m (n - row.length - 1) (row ++ [v]) else []) ++ tailO a b n m row (v + 1) := by
  unfold tailO
  obtain ⟨k, e⟩ : ∃ k, m - v = k + 1 := ⟨m - v - 1, by omega⟩
  have e2 : m - (v + 1) = k := by omega
  rw [e, e2, List.range'_succ, List.filter_cons]
  by_cases hf : fitsB a b row v = true
  · rw [if_pos hf, if_pos hf, List.flatMap_cons]
  · rw [if_neg hf, if_neg hf, List.nil_append]
theorem tail_all {row : List Nat} {k : Nat} (h : n - row.length = k + 1) : tailO a b n m row 0 = dfs a b m (k + 1) row := by
  unfold tailO
  have e : n - row.length - 1 = k := by omega
  rw [e, Nat.sub_zero, ← List.range_eq_range']
  rfl
theorem todo_start : todoO a b n m [] 0 = homsL n a m b := by
  unfold todoO homsL
  rw [List.reverse_nil]
  unfold restO
  rw [List.append_nil]
  cases n with
  | zero => rfl
  | succ k => rw [if_neg (by simp)]; exact tail_all (by simp)
theorem todo_end {row : List Nat} {v : Nat} (h : row.length = n ∨ v = m) : todoO a b n m row v = emitO n row ++ restO a b n m row.reverse := by
  unfold todoO emitO
  by_cases hl : row.length = n
  · rw [if_pos hl, if_pos hl]
  · rw [if_neg hl, if_neg hl, tail_end row (Nat.le_of_eq (h.resolve_left hl).symm)]
theorem rest_snoc {r : List Nat} {l : Nat} (h : r.length < n) : restO a b n m (r ++ [l]).reverse = todoO a b n m r (l + 1) := by
  rw [List.reverse_append]
  show restO a b n m (l :: r.reverse) = _
  unfold todoO
  rw [if_neg (by omega)]
  show tailO a b n m r.reverse.reverse (l + 1) ++ _ = _
  rw [List.reverse_reverse]
theorem todo_fit {row : List Nat} {v : Nat} (hl : row.length < n) (hv : v < m) (hf : fitsB a b row v = true) : todoO a b n m row v = todoO a b n m (row ++ [v]) 0 := by
  have e : n - row.length = (n - row.length - 1) + 1 := by omega
  unfold todoO
  rw [if_neg (by omega), tail_step hv, if_pos hf, List.reverse_append, List.append_assoc]
  congr 1
  · by_cases h : (row ++ [v]).length = n
    · rw [if_pos h]
      have : n - row.length - 1 = 0 := by rw [List.length_append, List.length_singleton] at h; omega
      rw [this]; rfl
    · rw [if_neg h]
      rw [List.length_append, List.length_singleton] at h
      obtain ⟨k, ek⟩ : ∃ k, n - row.length - 1 = k + 1 := ⟨n - row.length - 2, by omega⟩
      rw [ek]
      exact (tail_all (by rw [List.length_append, List.length_singleton]; omega)).symm
  · show _ = tailO a b n m row.reverse.reverse (v + 1) ++ restO a b n m row.reverse
    rw [List.reverse_reverse]
theorem todo_skip {row : List Nat} {v : Nat} (hl : row.length < n) (hv : v < m) (hf : fitsB a b row v = false) : todoO a b n m row v = todoO a b n m row (v + 1) := by
  unfold todoO
  rw [if_neg (by omega), if_neg (by omega), tail_step hv, if_neg (by rw [hf]; decide), List.nil_append]
theorem cost_pos (k v : Nat) : 1 ≤ costO m k v := by
  cases k with
  | zero => exact Nat.le_refl _
  | succ k => unfold costO; omega
theorem meas_pop {r : List Nat} {l v : Nat} : measO n m r (l + 1) < measO n m (r ++ [l]) v := by
  unfold measO
  rw [List.reverse_append]
  show _ < _ + (costO m (n - r.reverse.length) (l + 1) + restC n m r.reverse)
  rw [List.length_reverse]
  have := cost_pos (m := m) (n - (r ++ [l]).length) v
  omega
theorem cost_step {k v : Nat} (hv : v < m) : costO m (k + 1) v = costO m (k + 1) (v + 1) + (1 + costO m k 0) := by
  show (m - v) * (1 + costO m k 0) + 1 = (m - (v + 1)) * (1 + costO m k 0) + 1 + (1 + costO m k 0)
  obtain ⟨d, e⟩ : ∃ d, m - v = d + 1 := ⟨m - v - 1, by omega⟩
  have e2 : m - (v + 1) = d := by omega
  rw [e, e2, Nat.succ_mul]
  omega
theorem meas_fit {row : List Nat} {v : Nat} (hl : row.length < n) (hv : v < m) : measO n m (row ++ [v]) 0 < measO n m row v := by
  obtain ⟨k, e⟩ : ∃ k, n - row.length = k + 1 := ⟨n - row.length - 1, by omega⟩
  have e2 : n - (row ++ [v]).length = k := by rw [List.length_append, List.length_singleton]; omega
  unfold measO
  rw [List.reverse_append, e, e2]
  show _ + (costO m (n - row.reverse.length) (v + 1) + restC n m row.reverse) < _
  rw [List.length_reverse, e, cost_step hv]
  omega
theorem meas_skip {row : List Nat} {v : Nat} (hl : row.length < n) (hv : v < m) : measO n m row (v + 1) < measO n m row v := by
  obtain ⟨k, e⟩ : ∃ k, n - row.length = k + 1 := ⟨n - row.length - 1, by omega⟩
  unfold measO
  rw [e, cost_step hv]
  omega
end
end K22
/-! K22, text 20: homs -/
namespace K22
open PySem PySem.Spec PyProof.Rows L2 Evl GenW
section
variable {X : Cx} {o e : Expr} {p pos apos : Pos} {σ : L2.St} {S H : Hp} {d : PyData} {D : Ends} {l : Addr} {xs : List V} {y : V} {Q : VK}
theorem vs_exprD (h : VD X e σ S d) (hS : Ex S H) (k : ∀ S' H', Nw S H S' H' → D.nx σ H') (hs : swapsWith e none pos.line X.env = pure false := by rfl) : VS X (.Expr e pos) D σ H := vs_of (ps_expr pe_ve hs) (h H hS _ fun v S' H' w q => k S' H' w)
/-- o.pop() -/
theorem ve_pop (ho : Ev (VE X o) σ H (.ref l)) (hm : H l = some (.lst (xs ++ [y]))) (k : ∀ H1, Ex H H1 → Q y (upd H1 l (.lst xs)))
    (hq : PE X (.Call (.Attribute o "pop" apos) [] [] p) (tBM0 X.K "list" rPop (VE X o)) := by exact pe_bm0 PySem.F.plainAttrs_list PySem.F.slot_list_pop PySem.F.type_list_pop mt_pop pe_ve) : VE X (.Call (.Attribute o "pop" apos) [] [] p) σ H Q :=
  ve_of hq (ho H (Ex.refl H) _ fun H1 e1 => ⟨Or.inl ⟨rfl, _, sq_of (e1 l _ hm)⟩, l, xs ++ [y], y, rfl, rfl, e1 l _ hm, by simp, by rw [List.dropLast_concat]; exact k H1 e1⟩)
/-- tuple(o), o's value being a list of ours -/
theorem ve_tupOf (ht : X.mg "tuple" = none) (ho : Ev (VE X o) σ H (.ref l)) (hm : H l = some (.lst xs)) (k : ∀ H1 t, Ex H H1 → H1 t = none → Q (.ref t) (upd H1 t (.tup xs))) (hg : Gl X "tuple" := by rfl)
    (he : starEach [o] X.env = (false, eval o X.env) :: starEach [] X.env := by rfl) (hpl : (backTo pos (starEach [] X.env)).any (·.1) = false := by rfl) : VE X (.Call (.Name "tuple" p) [o] [] pos) σ H Q :=
  ve_of (pe_callTy call_tuple_of hg ht (by decide +kernel) (pa_cons pe_ve pa_nil he) (by decide) (by decide) he hpl) (ho H (Ex.refl H) _ fun H1 e1 => ⟨l, xs, rfl, .inl ⟨sq_of (e1 l _ hm), fun t ht => k H1 t e1 ht⟩⟩)
end
section
variable {K : PySem.W.Frag} {S0 H0 S H : Hp} {l : Addr} {ds : List PyData}
/-- our list as it stands, looked at -/
theorem Gw.look (g : Gw K S0 H0 l S H ds) : ∃ Sf, Ex S Sf ∧ Ex Sf H ∧ DD K Sf (.ref l) (.list ds) := by
  obtain ⟨S', a, e, p⟩ := g.done
  exact ⟨S', e, a.nw.within, p⟩
theorem Gw.ints {r : List Nat} (g : Gw K S0 H0 l S H (r.map dI)) : H l = some (.lst (r.map vI)) := by
  obtain ⟨xs, h1, h2⟩ := g.ex
  rw [da_ints h2] at h1
  exact h1
theorem Gw.set {r : List Nat} (g : Gw K S0 H0 l S H ds) (r' : List Nat) : Gw K S0 H0 l S (upd H l (.lst (r'.map vI))) (r'.map dI) :=
  ⟨g.now.mut g.h0 g.out, g.out, g.h0, _, upd_same, da_of_ints r'⟩
end
theorem vd_is {X : Cx} {x : Expr} {σ : L2.St} {S : Hp} {d d' : PyData} (h : VD X x σ S d) (e : d = d') : VD X x σ S d' := by rw [← e]; exact h
theorem dI_succ (v : Nat) : PyData.int ((v : Int) + 1) = dI (v + 1) := rfl
def scOthers : Scope := { kind := .function, names := [(Str.ofString ".0", .local), (Str.ofString "node", .cell), (Str.ofString "others", .local)], isGenerator := false, isCoroutine := false, more := [] }
abbrev nHoms : List Str := ["x", "a", "earlier", "near", "row", "value", "node", "others", "other"]
theorem scHoms : GScope nHoms ["x", "a"] (defScope (topS 14)) := ⟨rfl, rfl, rfl, by decide +kernel, rfl, by decide +kernel, by decide +kernel⟩
def hBody : List Stmt := match (defBody (topS 14)).getD 5 (.Pass ⟨0, 0, 0, 0⟩) with
  | .While _ b _ _ => b
  | _ => []
def hIf : Stmt := hBody.getD 1 (.Pass ⟨0, 0, 0, 0⟩)
def HSt (K : PySem.W.Frag) (S0 H0 : Hp) (X B : Web) (v1 v2 : V) (row : List Nat) (v : Nat) (S : Hp) (σ : L2.St) (H : Hp) : Prop :=
  ∃ v3 v4 l, Gw K S0 H0 l S H (row.map dI) ∧ DD K S v3 (dEar X) ∧ DD K S v4 (dNbr B) ∧ σ = [some v1, some v2, some v3, some v4, some (.ref l), some (vI v), none, none, none]
structure HOkB (X B : Web) (row : List Nat) (v : Nat) : Prop where
  len : row.length ≤ X.1
  lt : ∀ x ∈ row, x < B.1
  val : v ≤ B.1
section
variable {P : Program} {w : World} {K : PySem.W.Frag} {mg : Str → Option Value} {base : Heap} {f : Addr} {cdv : Value} {A : Around} {outer : List Env} {s : Shared} {S H HE : Hp} {E : XK} {pn : List (Addr × Obj)} {W B : Web} {v1 v2 : V}
abbrev gX (P : Program) (w : World) (K : PySem.W.Frag) (mg : Str → Option Value) (base : Heap) (f : Addr) (cdv : Value) (A : Around) (outer : List Env) (s : Shared) (HE : Hp) (E : XK) (pn : List (Addr × Obj)) : Cx := gcxOf P w K mg base nHoms "homs" (defScope (topS 14)) f cdv A outer s HE E pn
theorem homs_if (T : Txt K mg) (hr : Room 1 (A.deeper (envOfC "homs" (defScope (topS 14)) s.heap.objs.size f cdv))) (p1 : DD K S v1 (dW W)) (p2 : DD K S v2 (dW B)) (hW : WOk W) (hB : WOk B) {row : List Nat} {v : Nat} {S1 : Hp} {σ : L2.St} {H1 : Hp} {D : Ends}
    (h : HSt K S H W B v1 v2 row v S1 σ H1) (hb : HOkB W B row v)
    (kret : row = [] → (row.length = W.1 ∨ v = B.1) → ∀ H', Ex H1 H' → D.rt .non H')
    (kpop : ∀ r l, row = r ++ [l] → (row.length = W.1 ∨ v = B.1) → ∀ S' σ' H', HSt K S H W B v1 v2 r (l + 1) S' σ' H' → Ex S1 S' → D.nx σ' H')
    (kfit : row.length < W.1 → v < B.1 → fitsP W B row v = true → ∀ S' σ' H', HSt K S H W B v1 v2 (row ++ [v]) 0 S' σ' H' → Ex S1 S' → D.nx σ' H')
    (kskip : row.length < W.1 → v < B.1 → fitsP W B row v = false → ∀ S' σ' H', HSt K S H W B v1 v2 row (v + 1) S' σ' H' → Ex S1 S' → D.nx σ' H') :
    VS (gX P w K mg base f cdv A outer s HE E pn) hIf D σ H1 := by
  obtain ⟨v3, v4, l, g, q3, q4, rfl⟩ := h
  have GF : Fn P w K mg base 1 "fits" prFits := ok_fits T
  have hWn := hW.n
  have hBn := hB.n
  have hlen := hb.len
  have e1 : Ex S S1 := g.now.nw.st
  obtain ⟨Sf, ef, hf, pl⟩ := g.look
  have pl : DD K Sf (.ref l) (dL row) := pl
  refine vs_if (vb_or (vb_eqN (vd_lenR T.b_len (vd_var 4 pl)) (vd_web0 (vd_var 0 (Dpm p1 (e1.trans ef))))) fun _ => vb_eqN (vd_var 5 (.int _)) (vd_web0 (vd_var 1 (Dpm p2 (e1.trans ef))))) hf (fun ht H2 e2 => ?_) fun hff H2 e2 => ?_
  · have hor : row.length = W.1 ∨ v = B.1 := by
      rw [Bool.or_eq_true, decide_eq_true_eq, decide_eq_true_eq] at ht
      exact ht
    refine vs_cons (vs_if (vb_not (vb_truL (vd_var 4 pl))) (hf.trans e2) (fun ht2 H3 e3 => ?_) fun hf2 H3 e3 => ?_)
    · have er : row = [] := by
        cases row with
        | nil => rfl
        | cons _ _ => simp at ht2
      exact vs_last (vs_retN (kret er hor H3 (e2.trans e3)))
    · have er : row ≠ [] := fun z => by rw [z] at hf2; simp at hf2
      rcases List.eq_nil_or_concat row with z | ⟨r, lst, z⟩
      · exact absurd z er
      · rw [List.concat_eq_append] at z
        have g3 := g.only (e2.trans e3)
        have hm := g3.ints
        rw [z, List.map_append] at hm
        refine vs_nil (vs_last (vs_setE 5 (ve_of (pe_op op_add pe_ve pe_int) (ve_pop (xs := r.map vI) (y := vI lst) (vv_var 4) hm fun H4 e4 => ⟨lst, 1, rfl, rfl, ?_⟩)) scHoms.nd))
        have g4 := Gw.set (r := row) (g3.only e4) r
        exact kpop r lst z hor S1 _ _ ⟨v3, v4, l, g4, q3, q4, rfl⟩ (Ex.refl _)
  · rw [Bool.or_eq_false_iff, decide_eq_false_iff_not, decide_eq_false_iff_not] at hff
    have hl : row.length < W.1 := by omega
    have hv : v < B.1 := by have := hb.val; omega
    refine vs_last (vs_if (vb_val (vd_call GF hr (vda_cons (vd_var 2 (Dpm q3 ef)) (vda_cons (vd_var 3 (Dpm q4 ef)) (vda_cons (vd_var 4 pl) (vda_cons (vd_var 5 (.int _)) vda_nil)))) fun R h => ⟨W, B, row, v, rfl, hl, hv, h⟩)) (hf.trans e2) (fun ht H3 e3 => ?_) fun hf2 H3 e3 => ?_)
    · refine vs_cons (vs_appG (d := dI v) (g.only (e2.trans e3)) (vv_var 4) (vd_var 5 (.int _)) (by rw [List.length_map]; omega) fun S4 H4 g4 e4 => ?_)
      refine vs_last (vs_set 5 (d := dI 0) vd_int g4.within (fun v5 S5 H5 w5 p5 => ?_) scHoms.nd)
      rw [dp_int p5]
      refine kfit hl hv ht S5 _ _ ⟨v3, v4, l, ?_, Dpm q3 (e4.trans w5.st), Dpm q4 (e4.trans w5.st), rfl⟩ (e4.trans w5.st)
      rw [List.map_append]
      exact g4.step w5
    · have g3 := g.only (e2.trans e3)
      refine vs_last (vs_set 5 (d := dI (v + 1)) ((vd_add (i := (v : Int)) (j := 1) (vd_var 5 (.int _)) vd_int).is (dI_succ v)) g3.within (fun v5 S5 H5 w5 p5 => ?_) scHoms.nd)
      rw [dp_int p5]
      exact kskip hl hv hf2 S5 _ _ ⟨v3, v4, l, g3.step w5, Dpm q3 w5.st, Dpm q4 w5.st, rfl⟩ w5.st
/-- the text ahead of the loop, in any judgement of statements -/
theorem homs_pre (T : Txt K mg) (hr : Room 1 (A.deeper (envOfC "homs" (defScope (topS 14)) s.heap.objs.size f cdv))) (hS : Ex S H) (p1 : DD K S v1 (dW W)) (p2 : DD K S v2 (dW B)) (hW : WOk W) (hB : WOk B)
    (J : List Stmt → L2.St → Hp → Prop) (hc : ∀ st rest σ H, VS (gX P w K mg base f cdv A outer s HE E pn) st { nx := J rest, rt := fun _ _ => False } σ H → J (st :: rest) σ H)
    (k : ∀ S' σ' H', HSt K S H W B v1 v2 [] 0 S' σ' H' → J ((defBody (topS 14)).drop 5) σ' H') : J (defBody (topS 14)) (start nHoms [v1, v2]) H := by
  have GC : Fn P w K mg base 1 "count_maps" prCount := ok_count T
  have GN : Fn P w K mg base 1 "neighbour_rows" prNbr := ok_nbr T
  have hWn := hW.n
  refine hc _ _ _ _ (vs_exprD (vd_call GC hr (vda_cons (vd_web0 (vd_var 0 p1)) (vda_cons (vd_web0 (vd_var 1 p2)) (vda_cons (vd_glob T.c_maps) vda_nil))) fun R h => ⟨W.1, B.1, rfl, hW.n, hB.n, h⟩) hS fun S1 H1 w1 => ?_)
  have en : (enumD ((List.range W.1).map fun v => dL (nbr W v))).length = W.1 := by rw [enumD_len, List.length_map, List.length_range]
  refine hc _ _ _ _ (vs_lc0 2 (g := gPair K 6 7) (own := [("node", 6), ("others", 7)]) (pi_enumL T.b_enumerate) (ew_enumL (vda_cons (vd_call GN hr (vda_cons (vd_var 0 (Dpm p1 w1.st)) vda_nil) fun R h => ⟨W, rfl, hW, h⟩) vda_nil)) (by rw [en]; omega) scHoms.nd rfl (fun i => dL ((nbr W i).filter fun x => decide (x ≤ i))) (blkOk_by (N := nHoms) (sc := defScope (topS 14)) (by decide +kernel)) (fun _ _ _ _ _ => by exact pg_pair (i := 6) (j := 7) scHoms.nd rfl)
    (fun i d v Si H6 hd e6 hS6 pv => ?_) w1.within (fun v6 S6 H6 w6 p6 => ?_) (sw_true rfl rfl rfl (by decide +kernel)))
  · obtain ⟨d', hd', rfl⟩ := enumD_get hd
    obtain ⟨n, hn, rfl⟩ := get_map hd'
    have hi : n = i := by
      have hi : i < W.1 := by
        have := (List.getElem?_eq_some_iff.mp hn).1
        simpa using this
      rw [List.getElem?_range hi] at hn
      exact (Option.some.inj hn).symm
    subst hi
    obtain ⟨a, b, pa, pb, hst, hwp⟩ := st_pair (i := 6) (j := 7) (σ := [some v1, some v2, none, none, none, none, none, none, none]) hS6 pv
    refine ⟨_, hst, hwp, fun s5 H5 C5 cl5 fp5 => ?_⟩
    have e3 : dL ((nbr W n).filter fun x => decide (x ≤ n)) = .list (((List.range ((nbr W n).map dI).length).filter fun j => decide ((nbr W n).getD j 0 ≤ n)).map fun j => dI ((nbr W n).getD j 0)) := by
      rw [List.length_map, map_filter_get (nbr W n) (fun x => decide (x ≤ n)) dI 0]
      rfl
    show VD (Cx.blk (gX P w K mg base f cdv A outer s HE E pn) s5 H5 scOthers (compEnvC scOthers cl5 C5 (gX P w K mg base f cdv A outer s HE E pn).env) fp5) _ _ _ (dL ((nbr W n).filter fun x => decide (x ≤ n)))
    rw [e3]
    refine vd_lc1 (X := (Cx.blk (gX P w K mg base f cdv A outer s HE E pn) s5 H5 scOthers (compEnvC scOthers cl5 C5 (gX P w K mg base f cdv A outer s HE E pn).env) fp5)) (g := gName 8) (own := [("other", 8)]) (pi_list pe_ve) (ew_list (vd_var 7 pb)) (by rw [List.length_map]; have := nbr_len W n; have := hW.few; omega) scHoms.nd rfl (fun j => decide ((nbr W n).getD j 0 ≤ n)) (fun j => dI ((nbr W n).getD j 0)) (blkOk_by (N := nHoms) (sc := scOthers) (by decide +kernel)) (fun _ _ _ _ _ => by exact pg_name scHoms.nd rfl (Or.inl rfl)) (fun j d v S7 H7 hd7 e7 hS7 p7 => ?_)
    obtain ⟨m, hm, rfl⟩ := get_map hd7
    rw [getD_some hm]
    exact ⟨_, fun Q q => q, wipe1 _ 8 v, fun s9 H9 C9 cl9 fp9 => vb_leN (vd_var 8 p7) (vd_var 6 (Dpm pa e7)), fun _ s9 H9 C9 cl9 fp9 => vd_var 8 p7⟩
  · rw [en] at p6
    refine hc _ _ _ _ (vs_set 3 (vd_call GN hr (vda_cons (vd_var 1 (Dpm p2 (w1.st.trans w6.st))) vda_nil) fun R h => ⟨B, rfl, hB, h⟩) w6.within (fun v7 S7 H7 w7 p7 => ?_) scHoms.nd)
    refine hc _ _ _ _ (vs_newL 4 (fun l hl => ?_) scHoms.nd)
    have a7 : At S H S7 H7 := ⟨(w1.trans w6).trans w7⟩
    have g0 : Gw K S H l S7 (upd H7 l (.lst [])) [] := Gw.start a7 hl
    refine hc _ _ _ _ (vs_set 5 (d := dI 0) vd_int g0.within (fun v8 S8 H8 w8 p8 => ?_) scHoms.nd)
    rw [dp_int p8]
    exact k S8 _ _ ⟨v6, v7, l, g0.step w8, Dpm p6 (w7.st.trans w8.st), Dpm p7 w8.st, rfl⟩
end
end K22
/-! K22, text 21: homs (its first item, all of them), first_hom, leads, same_rank -/
namespace K22
open PySem PySem.Spec PyProof.Rows L2 Evl GenW
section
variable {a b : Adj} {n m : Nat}
def todo1 (a b : Adj) (n m : Nat) (row : List Nat) (v : Nat) : List (List Nat) := (if row.length = n then [] else tailO a b n m row v) ++ restO a b n m row.reverse
theorem todo_emit (row : List Nat) (v : Nat) : todoO a b n m row v = emitO n row ++ todo1 a b n m row v := by
  unfold todoO emitO todo1
  by_cases h : row.length = n
  · rw [if_pos h, if_pos h, if_pos h, List.nil_append]
  · rw [if_neg h, if_neg h, if_neg h, List.nil_append]
theorem todo1_end {row : List Nat} {v : Nat} (h : row.length = n ∨ v = m) : todo1 a b n m row v = restO a b n m row.reverse := by
  unfold todo1
  by_cases hl : row.length = n
  · rw [if_pos hl, List.nil_append]
  · rw [if_neg hl, tail_end row (Nat.le_of_eq (h.resolve_left hl).symm), List.nil_append]
theorem todo1_go {row : List Nat} {v : Nat} (h : row.length < n) : todo1 a b n m row v = todoO a b n m row v := by
  rw [todo_emit]
  unfold emitO
  rw [if_neg (by omega), List.nil_append]
end
theorem vb_true {X : Cx} {j : Nat} {p : Pos} {σ : L2.St} {S : Hp} : VB X (.Constant (.bool true) j p) σ S true := vb_val vd_bool
theorem homsW_len {W B : Web} (hW : WOk W) (hB : WOk B) : (homsW W B).length ≤ 3125 := by
  unfold homsW
  rw [homs_bfs]
  exact Nat.le_trans (bfs_len _ _ _ _) (pow_le hW.n hB.n)
section
variable {P : Program} {w : World} {K : PySem.W.Frag} {mg : Str → Option Value} {base : Heap} {f : Addr} {cdv : Value} {A : Around} {outer : List Env} {s : Shared} {S H HE : Hp} {E : XK} {pn : List (Addr × Obj)} {W B : Web} {v1 v2 : V}
/-- where the walk over the rows stands behind the yield -/
theorem homs_turn (T : Txt K mg) (hr : Room 1 (A.deeper (envOfC "homs" (defScope (topS 14)) s.heap.objs.size f cdv))) (p1 : DD K S v1 (dW W)) (p2 : DD K S v2 (dW B)) (hW : WOk W) (hB : WOk B) {row : List Nat} {v : Nat} {S1 : Hp} {σ : L2.St} {H1 : Hp} {D : Ends}
    (h : HSt K S H W B v1 v2 row v S1 σ H1) (hb : HOkB W B row v)
    (kend : todo1 (adjW W) (adjW B) W.1 B.1 row v = [] → ∀ H', Ex H1 H' → D.rt .non H')
    (kgo : ∀ row' v' S' σ' H', HSt K S H W B v1 v2 row' v' S' σ' H' → Ex S1 S' → HOkB W B row' v' → todoO (adjW W) (adjW B) W.1 B.1 row' v' = todo1 (adjW W) (adjW B) W.1 B.1 row v → measO W.1 B.1 row' v' < measO W.1 B.1 row v → D.nx σ' H') :
    VS (gX P w K mg base f cdv A outer s HE E pn) hIf D σ H1 := by
  have hbl := hb.len
  refine homs_if T hr p1 p2 hW hB h hb (fun er hor H' e => kend ?_ H' e) (fun r l er hor S' σ' H' h' e => ?_) (fun hl hv hf S' σ' H' h' e => ?_) fun hl hv hf S' σ' H' h' e => ?_
  · rw [todo1_end hor, er]; rfl
  · subst er
    rw [List.length_append, List.length_singleton] at hbl
    refine kgo r (l + 1) S' σ' H' h' e ⟨by omega, fun x hx => hb.lt x (List.mem_append_left _ hx), hb.lt l (by simp)⟩ ?_ meas_pop
    rw [todo1_end hor, rest_snoc (by omega)]
  · rw [fitsP_eq] at hf
    refine kgo (row ++ [v]) 0 S' σ' H' h' e ⟨by rw [List.length_append, List.length_singleton]; omega, fun x hx => ?_, Nat.zero_le _⟩ ?_ (meas_fit hl hv)
    · rcases List.mem_append.mp hx with hx | hx
      · exact hb.lt x hx
      · rw [List.mem_singleton.mp hx]; exact hv
    · rw [todo1_go hl, todo_fit hl hv hf]
  · rw [fitsP_eq] at hf
    refine kgo row (v + 1) S' σ' H' h' e ⟨hb.len, hb.lt, hv⟩ ?_ (meas_skip hl hv)
    rw [todo1_go hl, todo_skip hl hv hf]
/-- the test ahead of the yield -/
theorem homs_test (T : Txt K mg) (p1 : DD K S v1 (dW W)) {row : List Nat} {v : Nat} {S1 : Hp} {σ : L2.St} {H1 : Hp} {q1 q2 q3 q4 q5 q6 q7 : Pos} {j : Nat} (h : HSt K S H W B v1 v2 row v S1 σ H1) {Q : Bool → Hp → Prop} (k : ∀ H', Ex H1 H' → Q (decide (row.length = W.1)) H') :
    VT (gX P w K mg base f cdv A outer s HE E pn) (.Compare (.Call (.Name "len" q1) [.Name "row" q2] [] q3) [.Eq] [.Subscript (.Name "x" q4) (.Constant (.int 0) j q5) q6] q7) σ H1 Q := by
  obtain ⟨v3, v4, l, g, q3, q4, rfl⟩ := h
  obtain ⟨Sf, ef, hf, pl⟩ := g.look
  have pl : DD K Sf (.ref l) (dL row) := pl
  exact vb_eqN (vd_lenR T.b_len (vd_var 4 pl)) (vd_web0 (vd_var 0 (Dpm p1 (g.now.nw.st.trans ef)))) H1 hf Q k
/-- the row as a tuple -/
theorem homs_item (T : Txt K mg) {row : List Nat} {v : Nat} {S1 : Hp} {σ : L2.St} {H1 : Hp} {q1 q2 q3 : Pos} (h : HSt K S H W B v1 v2 row v S1 σ H1) {Q : VK} (k : ∀ x S' H', HSt K S H W B v1 v2 row v S' σ H' → Ex S1 S' → DD K S' x (dT row) → Nw S H S' H' → Q x H') :
    VE (gX P w K mg base f cdv A outer s HE E pn) (.Call (.Name "tuple" q1) [.Name "row" q2] [] q3) σ H1 Q := by
  obtain ⟨v3, v4, l, g, q3, q4, rfl⟩ := h
  refine ve_tupOf T.b_tuple (vv_var 4) g.ints fun H2 t e ht => ?_
  have g2 := g.only e
  have w2 := Nw.put (o := .tup (row.map vI)) g2.within ht
  have g3 := g2.step w2
  exact k (.ref t) _ _ ⟨v3, v4, l, g3, Dpm q3 w2.st, Dpm q4 w2.st, rfl⟩ w2.st (dp_ofT upd_same) g3.now.nw
end
section
variable {P : Program} {w : World} {K : PySem.W.Frag} {mg : Str → Option Value} {base : Heap}
def prHom1 : PT1 := fun ds R => ∃ W B : Web, ds = [dW W, dW B] ∧ WOk W ∧ WOk B ∧ R ((homsW W B).head?.map dT)
def prHomA : PTA := fun ds R => ∃ W B : Web, ds = [dW W, dW B] ∧ WOk W ∧ WOk B ∧ R ((homsW W B).map dT)
theorem ok_hom1 (T : Txt K mg) : Fi P w K mg base 2 "homs" prHom1 := by
  refine fi_def T.homs scHoms (fun ds R h => by obtain ⟨W, B, rfl, _⟩ := h; rfl) fun f cdv A outer s S H vs ds Q hr hS hp h => ?_
  obtain ⟨W, B, rfl, hW, hB, q⟩ := h
  obtain ⟨v1, v2, rfl, p1, p2⟩ := da2 hp
  refine homs_pre T hr hS p1 p2 hW hB (fun sts => V1s (gX P w K mg base f cdv A outer s H E0 []) (fun v H' => Q (some v) H') sts { nx := fun _ H' => Q none H', rt := fun v H' => v = .non ∧ Q none H' }) (fun st rest σ H h => v1s_cons (v1_vs fun pins s I => wpAny_mono (h pins s I) (fun f s' hs => ?_) fun _ _ z => z)) fun S1 σ1 H1 h1 => ?_
  · cases f with
    | next => exact hs
    | brk => exact hs
    | cont => exact hs
    | ret u => obtain ⟨_, _, _, _, _, z⟩ := hs; exact z.elim
  refine v1s_cons (v1_while owns_gcx (fun m σ H' => ∃ row v S', HSt K S H W B v1 v2 row v S' σ H' ∧ HOkB W B row v ∧ measO W.1 B.1 row v = m ∧ todoO (adjW W) (adjW B) W.1 B.1 row v = homsW W B) (measO W.1 B.1 [] 0) ⟨[], 0, S1, h1, ⟨Nat.zero_le _, fun x hx => by simp at hx, Nat.zero_le _⟩, rfl, todo_start⟩ fun m σ2 H2 hw => ?_)
  obtain ⟨row, v, S2, h2, hb, hm, ht⟩ := hw
  refine vb_true (S := H2) H2 (Ex.refl H2) _ fun H3 e3 => iteT ?_
  have h3 : HSt K S H W B v1 v2 row v S2 σ2 H3 := by
    obtain ⟨v3, v4, l, g, q3, q4, e⟩ := h2
    exact ⟨v3, v4, l, g.only e3, q3, q4, e⟩
  refine ⟨fun σ' H' => ∃ row' v' S', HSt K S H W B v1 v2 row' v' S' σ' H' ∧ HOkB W B row' v' ∧ measO W.1 B.1 row' v' < m ∧ todoO (adjW W) (adjW B) W.1 B.1 row' v' = homsW W B, fun σ' H' ⟨row', v', S', a1, a2, a3, a4⟩ => ⟨_, a3, row', v', S', a1, a2, rfl, a4⟩, ?_⟩
  refine v1s_cons (v1_if (homs_test T p1 h3 fun H4 e4 => ?_))
  have h4 : HSt K S H W B v1 v2 row v S2 σ2 H4 := by
    obtain ⟨v3, v4, l, g, q3, q4, e⟩ := h3
    exact ⟨v3, v4, l, g.only e4, q3, q4, e⟩
  rw [todo_emit] at ht
  unfold emitO at ht
  by_cases hl : row.length = W.1
  · rw [decide_eq_true hl]
    rw [if_pos hl] at ht
    refine iteT (v1s_cons (v1_yield (homs_item T h4 fun x S5 H5 h5 e5 px wn => ?_)))
    rw [← ht] at q
    exact q S5 H5 wn x px
  · rw [decide_eq_false hl]
    rw [if_neg hl, List.nil_append] at ht
    refine iteF (v1s_nil (v1s_cons (v1_vs (homs_turn T hr p1 p2 hW hB h4 hb (fun z H5 e5 => ⟨rfl, ?_⟩) fun row' v' S' σ' H' h5 e5 hb5 ht5 hm5 => v1s_nil ⟨row', v', S', h5, hb5, by omega, by rw [ht5]; exact ht⟩))))
    rw [← ht, z] at q
    obtain ⟨v3, v4, l, g, _⟩ := h4
    exact q S2 H5 (g.only e5).now.nw
theorem ok_homA (T : Txt K mg) : Ga P w K mg base 2 "homs" prHomA := by
  refine ga_def T.homs scHoms (fun ds R h => by obtain ⟨W, B, rfl, _⟩ := h; rfl) fun f cdv A outer s S H vs ds Q E pn hr hS hp h => ?_
  obtain ⟨W, B, rfl, hW, hB, q⟩ := h
  obtain ⟨v1, v2, rfl, p1, p2⟩ := da2 hp
  have hlen := homsW_len hW hB
  refine homs_pre T hr hS p1 p2 hW hB (fun sts => VGs (gX P w K mg base f cdv A outer s H E pn) sts { nx := fun ys _ H' => Q ys H', rt := fun ys v H' => v = .non ∧ Q ys H' } []) (fun st rest σ H h => vgs_cons (vg_vs fun pins s I => wpAny_mono (h pins s I) (fun f s' hs => ?_) fun _ _ z => z)) fun S1 σ1 H1 h1 => ?_
  · cases f with
    | next => exact hs
    | brk => exact hs
    | cont => exact hs
    | ret u => obtain ⟨_, _, _, _, _, z⟩ := hs; exact z.elim
  refine vgs_cons (vg_while owns_gcx (fun m ys σ H' => ∃ row v S' zs, HSt K S H W B v1 v2 row v S' σ H' ∧ HOkB W B row v ∧ measO W.1 B.1 row v = m ∧ DDA K S' ys (zs.map dT) ∧ zs ++ todoO (adjW W) (adjW B) W.1 B.1 row v = homsW W B) (measO W.1 B.1 [] 0) ⟨[], 0, S1, [], h1, ⟨Nat.zero_le _, fun x hx => by simp at hx, Nat.zero_le _⟩, rfl, .nil, todo_start⟩ fun m ys σ2 H2 hw => ?_)
  obtain ⟨row, v, S2, zs, h2, hb, hm, hy, ht⟩ := hw
  refine vb_true (S := H2) H2 (Ex.refl H2) _ fun H3 e3 => iteT ?_
  have h3 : HSt K S H W B v1 v2 row v S2 σ2 H3 := by
    obtain ⟨v3, v4, l, g, q3, q4, e⟩ := h2
    exact ⟨v3, v4, l, g.only e3, q3, q4, e⟩
  refine ⟨fun ys' σ' H' => ∃ row' v' S' zs, HSt K S H W B v1 v2 row' v' S' σ' H' ∧ HOkB W B row' v' ∧ measO W.1 B.1 row' v' < m ∧ DDA K S' ys' (zs.map dT) ∧ zs ++ todoO (adjW W) (adjW B) W.1 B.1 row' v' = homsW W B, fun ys' σ' H' ⟨row', v', S', zs, a1, a2, a3, a4, a5⟩ => ⟨_, a3, row', v', S', zs, a1, a2, rfl, a4, a5⟩, ?_⟩
  -- behind the yield
  have after : ∀ (ys' : List V) (zs' : List (List Nat)) (S' H' : Hp), HSt K S H W B v1 v2 row v S' σ2 H' → DDA K S' ys' (zs'.map dT) → zs' ++ todo1 (adjW W) (adjW B) W.1 B.1 row v = homsW W B →
      VGs (gX P w K mg base f cdv A outer s H E pn) [hIf] { nx := fun ys' σ' H' => ∃ row' v' S' zs, HSt K S H W B v1 v2 row' v' S' σ' H' ∧ HOkB W B row' v' ∧ measO W.1 B.1 row' v' < m ∧ DDA K S' ys' (zs.map dT) ∧ zs ++ todoO (adjW W) (adjW B) W.1 B.1 row' v' = homsW W B, rt := fun ys v H' => v = .non ∧ Q ys H', ct := fun ys' σ' H' => ∃ row' v' S' zs, HSt K S H W B v1 v2 row' v' S' σ' H' ∧ HOkB W B row' v' ∧ measO W.1 B.1 row' v' < m ∧ DDA K S' ys' (zs.map dT) ∧ zs ++ todoO (adjW W) (adjW B) W.1 B.1 row' v' = homsW W B, bk := fun ys' σ' H' => VGs (gX P w K mg base f cdv A outer s H E pn) [] { nx := fun ys _ H' => Q ys H', rt := fun ys v H' => v = .non ∧ Q ys H' } ys' σ' H' } ys' σ2 H' := by
    intro ys' zs' S' H' hh hy' ht'
    refine vgs_cons (vg_vs (homs_turn T hr p1 p2 hW hB hh hb (fun z H5 e5 => ⟨rfl, ?_⟩) fun row' v' S' σ' H' h5 e5 hb5 ht5 hm5 => vgs_nil ⟨row', v', S', zs', h5, hb5, by omega, Dam hy' e5, by rw [ht5]; exact ht'⟩))
    rw [z, List.append_nil] at ht'
    rw [← ht'] at q
    obtain ⟨v3, v4, l, g, _⟩ := hh
    exact q ys' S' H5 (g.only e5).now.nw hy'
  refine vgs_cons (vg_if (homs_test T p1 h3 fun H4 e4 => ?_))
  have h4 : HSt K S H W B v1 v2 row v S2 σ2 H4 := by
    obtain ⟨v3, v4, l, g, q3, q4, e⟩ := h3
    exact ⟨v3, v4, l, g.only e4, q3, q4, e⟩
  rw [todo_emit] at ht
  unfold emitO at ht
  by_cases hl : row.length = W.1
  · rw [decide_eq_true hl]
    rw [if_pos hl] at ht
    refine iteT (vgs_cons (vg_yield ?_ (homs_item T h4 fun x S5 H5 h5 e5 px wn => vgs_nil ?_)))
    · have h1 := da_len hy
      rw [List.length_map] at h1
      have h2 := congrArg List.length ht
      simp only [List.length_append, List.length_cons] at h2
      exact sz_lt (by omega)
    · refine after (ys ++ [x]) (zs ++ [row]) S5 H5 h5 ?_ (by rw [List.append_assoc]; exact ht)
      rw [List.map_append]
      exact da_snoc (Dam hy e5) px
  · rw [decide_eq_false hl]
    rw [if_neg hl, List.nil_append] at ht
    exact iteF (vgs_nil (after ys zs S2 H4 h4 hy ht))
end
end K22
/-! K22, text 22: first_hom, leads, same_rank, core_nodes, core, fold_row -/
namespace K22
open PySem PySem.Spec PyProof.Rows L2 Evl GenW
section
variable {X : Cx} {a e : Expr} {p p2 pos pos2 : Pos} {σ : L2.St} {S H : Hp}
theorem rgV_nat (n : Nat) : rgV 0 (n : Int) = (List.range n).map vI := by
  unfold rgV
  have e : ((n : Int) - 0).toNat = n := by omega
  rw [e]
  refine List.map_congr_left fun i _ => ?_
  show V.int (0 + (i : Int)) = V.int (i : Int)
  rw [Int.zero_add]
theorem vd_tupRg {n : Nat} (hc : X.calm = true) (ht : X.mg "tuple" = none) (hr : X.mg "range" = none) (ha : VD X a σ S (dI n)) (hn : n ≤ 100000) (hg : Gl X "tuple" := by rfl) (hg2 : Gl X "range" := by rfl)
    (na : starEach [a] X.env = (false, eval a X.env) :: starEach [] X.env := by rfl) (na2 : starEach [.Call (.Name "range" p) [a] [] pos] X.env = (false, eval (.Call (.Name "range" p) [a] [] pos) X.env) :: starEach [] X.env := by rfl) :
    VD X (.Call (.Name "tuple" p2) [.Call (.Name "range" p) [a] [] pos] [] pos2) σ S (dT (List.range n)) :=
  vd_of (pe_tupRg hc hg ht (prg_1 hg2 hr pe_ve na) na2) fun H hS Q q => ha.ev_int H hS _ fun H1 e1 => ⟨n, rfl, RgOk.of_le (by omega) (by omega) (by omega) (by omega), fun l hl => by
    rw [rgV_nat]
    exact q _ _ _ ((Nw.only hS e1).trans (Nw.put (hS.trans e1) hl)) (dp_ofT upd_same)⟩
end
section
variable {P : Program} {w : World} {K : PySem.W.Frag} {mg : Str → Option Value} {base : Heap}
/-! ### first_hom, leads, same_rank -/
def prTwo (f : Web → Web → PyData) : PTr := fun ds R => ∃ W B : Web, ds = [dW W, dW B] ∧ WOk W ∧ WOk B ∧ R (f W B)
theorem scFirst : FnScope ["x", "a", "row"] ["x", "a"] (defScope (topS 16)) := ⟨rfl, rfl, rfl, by decide +kernel, rfl, by decide +kernel, by decide +kernel⟩
theorem ok_first (T : Txt K mg) : Fn P w K mg base 4 "first_hom" (prTwo fun W B => dOpt (homsW W B).head?) := by
  have GH : Fi P w K mg base 2 "homs" prHom1 := ok_hom1 T
  refine def_ok T.first_hom scFirst (fun ds R h => by obtain ⟨W, B, rfl, _⟩ := h; rfl) fun f cdv A outer s S H vs ds Q E hr hS hp h => ?_
  obtain ⟨W, B, rfl, hW, hB, q⟩ := h
  obtain ⟨v1, v2, rfl, p1, p2⟩ := da2 hp
  refine vs_cons (vs_first 2 (od := (homsW W B).head?.map dT) GH hr (vda_cons (vd_var 0 p1) (vda_cons (vd_var 1 p2) vda_nil)) hS (fun R h => ⟨W, B, rfl, hW, hB, h⟩) (fun hno S1 H1 w1 => ?_) (fun d hd v S1 H1 w1 pv => ?_) scFirst.nd (hsl := by show 2 < 3; decide))
  · cases hh : (homsW W B).head? with
    | some r => rw [hh] at hno; cases hno
    | none =>
      have q : ∀ v S' H', Nw S H S' H' → DD K S' v (dOpt (homsW W B).head?) → Q v H' := q
      rw [hh] at q
      exact vs_last (vs_ret vd_none w1.within fun v' S' H' w' p' => q v' S' H' (w1.trans w') p')
  · cases hh : (homsW W B).head? with
    | none => rw [hh] at hd; cases hd
    | some r =>
      have q : ∀ v S' H', Nw S H S' H' → DD K S' v (dOpt (homsW W B).head?) → Q v H' := q
      rw [hh] at hd q
      cases hd
      exact q v S1 H1 w1 pv
theorem scLeads : FnScope ["x", "a"] ["x", "a"] (defScope (topS 17)) := ⟨rfl, rfl, rfl, by decide +kernel, rfl, by decide +kernel, by decide +kernel⟩
theorem isNone_opt (l : List (List Nat)) : (!isNone (dOpt l.head?)) = !l.isEmpty := by cases l <;> rfl
theorem ok_leads (T : Txt K mg) : Fn P w K mg base 5 "leads" (prTwo fun W B => .bool (leadsW W B)) := by
  have GF : Fn P w K mg base 4 "first_hom" (prTwo fun W B => dOpt (homsW W B).head?) := ok_first T
  refine def_ok T.leads scLeads (fun ds R h => by obtain ⟨W, B, rfl, _⟩ := h; rfl) fun f cdv A outer s S H vs ds Q E hr hS hp h => ?_
  obtain ⟨W, B, rfl, hW, hB, q⟩ := h
  obtain ⟨v1, v2, rfl, p1, p2⟩ := da2 hp
  have e := isNone_opt (homsW W B)
  refine vs_last (vs_ret (d := .bool (!isNone (dOpt (homsW W B).head?))) (vd_notN (vd_call GF hr (vda_cons (vd_var 0 p1) (vda_cons (vd_var 1 p2) vda_nil)) fun R h => ⟨W, B, rfl, hW, hB, h⟩)) hS fun v' S' H' w' p' => q v' S' H' w' ?_)
  rw [e] at p'
  exact p'
theorem scRank : FnScope ["a", "b"] ["a", "b"] (defScope (topS 18)) := ⟨rfl, rfl, rfl, by decide +kernel, rfl, by decide +kernel, by decide +kernel⟩
theorem ok_rank (T : Txt K mg) : Fn P w K mg base 6 "same_rank" (prTwo fun W B => .bool (leadsW W B && leadsW B W)) := by
  have GL : Fn P w K mg base 5 "leads" (prTwo fun W B => .bool (leadsW W B)) := ok_leads T
  have GC : Fn P w K mg base 5 "count_maps" prCount := (ok_count T).mono (by decide)
  refine def_ok T.same_rank scRank (fun ds R h => by obtain ⟨W, B, rfl, _⟩ := h; rfl) fun f cdv A outer s S H vs ds Q E hr hS hp h => ?_
  obtain ⟨W, B, rfl, hW, hB, q⟩ := h
  obtain ⟨v1, v2, rfl, p1, p2⟩ := da2 hp
  refine vs_cons (vs_exprD (vd_call GC hr (vda_cons (vd_web0 (vd_var 0 p1)) (vda_cons (vd_web0 (vd_var 1 p2)) (vda_cons (vd_glob T.c_maps) vda_nil))) fun R h => ⟨W.1, B.1, rfl, hW.n, hB.n, h⟩) hS fun S1 H1 w1 => ?_)
  refine vs_cons (vs_exprD (vd_call GC hr (vda_cons (vd_web0 (vd_var 1 (Dpm p2 w1.st))) (vda_cons (vd_web0 (vd_var 0 (Dpm p1 w1.st))) (vda_cons (vd_glob T.c_maps) vda_nil))) fun R h => ⟨B.1, W.1, rfl, hB.n, hW.n, h⟩) w1.within fun S2 H2 w2 => ?_)
  have e2 := w1.st.trans w2.st
  refine vs_last (vs_ret (vd_and (vd_call GL hr (vda_cons (vd_var 0 (Dpm p1 e2)) (vda_cons (vd_var 1 (Dpm p2 e2)) vda_nil)) fun R h => ⟨W, B, rfl, hW, hB, h⟩) fun _ => vd_call GL hr (vda_cons (vd_var 1 (Dpm p2 e2)) (vda_cons (vd_var 0 (Dpm p1 e2)) vda_nil)) fun R h => ⟨B, W, rfl, hB, hW, h⟩) w2.within fun v' S' H' w' p' => q v' S' H' ((w1.trans w2).trans w') p')
/-! ### core_nodes, core, fold_row -/
def prOne (f : Web → PyData) : PTr := fun ds R => ∃ W : Web, ds = [dW W] ∧ WOk W ∧ R (f W)
theorem find_mid {α : Type} {p : α → Bool} {l pre post : List α} {x : α} (e : l = pre ++ x :: post) (h0 : pre.find? p = none) (hx : p x = true) : l.find? p = some x := by
  rw [e, List.find?_append, h0, List.find?_cons, hx]; rfl
theorem scCN : FnScope ["web", "count", "nodes"] ["web"] (defScope (topS 22)) := ⟨rfl, rfl, rfl, by decide +kernel, rfl, by decide +kernel, by decide +kernel⟩
theorem ok_cn (T : Txt K mg) : Fn P w K mg base 6 "core_nodes" (prOne fun W => dT (coreNW W)) := by
  have GL : Fn P w K mg base 5 "leads" (prTwo fun W B => .bool (leadsW W B)) := ok_leads T
  have GI : Fn P w K mg base 5 "induced" prInd := (ok_ind T).mono (by decide)
  have GS : Fn P w K mg base 5 "node_sets" prSets := (ok_sets T).mono (by decide)
  refine def_ok T.core_nodes scCN (fun ds R h => by obtain ⟨W, rfl, _⟩ := h; rfl) fun f cdv A outer s S H vs ds Q E hr hS hp h => ?_
  obtain ⟨W, rfl, hW, q⟩ := h
  obtain ⟨v1, rfl, p1⟩ := da1 hp
  have hWn := hW.n
  have q : ∀ v S' H', Nw S H S' H' → DD K S' v (dT (coreNW W)) → Q v H' := q
  rw [coreNW_find] at q
  let t : List Nat → Bool := fun s => leadsW W (indW W s)
  refine vs_cons (vs_unless (vb_is (vb_gt (vd_web0 (vd_var 0 p1)) (vd_glob T.c_folded)) (decide_eq_false (by omega))) hS fun H1 e1 => ?_)
  have a1 : At S H S H1 := (At.refl hS).only e1
  refine vs_cons (vs_forN 1 (pi_range1' T.b_range) (ew_range1 (vda_cons (vd_web0 (vd_var 0 p1)) vda_nil) (by omega)) a1.nw.within scCN.nd rfl
    (fun S2 i σ' H' => ∃ S3 y1 y2, At S H S3 H' ∧ Ex S2 S3 ∧ (((List.range W.1).take i).flatMap (nodeSets W.1)).find? t = none ∧ σ' = [some v1, y1, y2]) (fun S2 H2 w2 => ⟨S2, none, none, a1.step w2, Ex.refl _, by simp, rfl⟩) (fun S2 i σ' H' ⟨_, _, _, a, e, _⟩ => e.trans a.nw.within) (fun S2 i d x σ' H' H'' e hd h y => ?_) (fun S2 σ' H' e h => ?_))
  · obtain ⟨S2', y1, y2, a2, e22, hno, rfl⟩ := h
    obtain ⟨S3, w3, px⟩ := y S2' e22 a2.nw.within
    obtain ⟨c, hc, rfl⟩ := get_map hd
    have hcW : c < W.1 := List.mem_range.mp (List.mem_of_getElem? hc)
    have e3 : Ex S S3 := e.trans (e22.trans w3.st)
    have a3 := a2.step w3
    refine vs_last (vs_forN 2 (pi_list pe_ve) (ew_list (vd_call GS hr (vda_cons (vd_web0 (vd_var 0 (Dpm p1 e3))) (vda_cons (vd_var 1 px) vda_nil)) fun R h => ⟨W.1, c, rfl, hWn, by omega, h⟩)) w3.within scCN.nd rfl
      (fun S4 j σ' H' => ∃ y2, At S H S4 H' ∧ ((nodeSets W.1 c).take j).find? t = none ∧ Ex S3 S4 ∧ σ' = [some v1, some x, y2]) (fun S4 H4 w4 => ⟨y2, a3.step w4, by simp, w4.st, rfl⟩) (fun S4 j σ' H' ⟨_, a, _⟩ => a.nw.within) (fun S4 j d x4 σ' H' H'' e4 hd4 h y => ?_) (fun S4 σ' H' e4 h => ?_))
    · obtain ⟨y2, a4, hno4, e34, rfl⟩ := h
      obtain ⟨S5, w5, p5⟩ := y S4 (Ex.refl _) a4.nw.within
      obtain ⟨r, hr5, rfl⟩ := get_map hd4
      have hm := List.mem_of_getElem? hr5
      obtain ⟨hasc, hrl⟩ := mem_nodeSets.mp hm
      have a5 := a4.step w5
      have e5 : Ex S S5 := e3.trans (e34.trans w5.st)
      have hr5l : r.length ≤ 5 := by omega
      refine vs_last (vs_if (vb_val (vd_call GL hr (vda_cons (vd_var 0 (Dpm p1 e5)) (vda_cons (vd_call GI hr (vda_cons (vd_var 0 (Dpm p1 e5)) (vda_cons (vd_var 2 p5) vda_nil)) fun R h => ⟨W, r, rfl, hW, lt_nodup hasc.1, hr5l, hasc.2, h⟩) vda_nil)) fun R h => ⟨W, indW W r, rfl, hW, indW_ok hr5l, h⟩)) w5.within (fun ht H6 e6 => ?_) fun hf H6 e6 => ?_)
      · refine vs_last (vs_ret (vd_var 2 p5) (w5.within.trans e6) fun v' S' H' w' p' => ?_)
        have hfind : (candidates W.1).find? t = some r := by
          have e1 : List.range W.1 = (List.range W.1).take i ++ c :: (List.range W.1).drop (i + 1) := by
            conv => lhs; rw [← List.take_append_drop (i + 1) (List.range W.1), take_snoc hc]
            simp
          have e2 : nodeSets W.1 c = (nodeSets W.1 c).take j ++ r :: (nodeSets W.1 c).drop (j + 1) := by
            conv => lhs; rw [← List.take_append_drop (j + 1) (nodeSets W.1 c), take_snoc hr5]
            simp
          refine find_mid (pre := ((List.range W.1).take i).flatMap (nodeSets W.1) ++ (nodeSets W.1 c).take j) (post := (nodeSets W.1 c).drop (j + 1) ++ ((List.range W.1).drop (i + 1)).flatMap (nodeSets W.1)) ?_ ?_ ht
          · unfold candidates
            conv => lhs; rw [e1]
            rw [List.flatMap_append, List.flatMap_cons]
            conv => lhs; rw [e2]
            simp
          · rw [List.find?_append, hno, hno4]; rfl
        have hfind' : (candidates W.1).find? (fun s => leadsW W (indW W s)) = some r := hfind
        rw [hfind'] at q
        exact q v' S' H' ((a5.only e6).nw.trans w') p'
      · refine vs_nil ⟨_, a4.only (w5.hp.trans e6), ?_, e34, rfl⟩
        have hf' : t r = false := hf
        rw [take_snoc hr5, List.find?_append, hno4]
        simp [hf']
    · obtain ⟨y2, a4, hno4, e34, rfl⟩ := h
      rw [take_all (by simp)] at hno4
      refine ⟨S4, _, _, a4, e22.trans (w3.st.trans e34), ?_, rfl⟩
      · rw [take_snoc hc, List.flatMap_append, List.flatMap_singleton, List.find?_append, hno, hno4]; rfl
  · obtain ⟨S2', y1, y2, a2, e22, hno, rfl⟩ := h
    rw [take_all (by simp)] at hno
    have hno' : (candidates W.1).find? (fun s => leadsW W (indW W s)) = none := hno
    rw [hno'] at q
    exact vs_last (vs_ret (vd_tupRg rfl T.b_tuple T.b_range (vd_web0 (vd_var 0 (Dpm p1 (e.trans e22)))) (by omega)) a2.nw.within fun v' S' H' w' p' => q v' S' H' (a2.nw.trans w') p')
theorem scCore : FnScope ["web"] ["web"] (defScope (topS 23)) := ⟨rfl, rfl, rfl, by decide +kernel, rfl, by decide +kernel, by decide +kernel⟩
theorem ok_core (T : Txt K mg) : Fn P w K mg base 7 "core" (prOne fun W => dW (coreW W)) := by
  have GI : Fn P w K mg base 6 "induced" prInd := (ok_ind T).mono (by decide)
  have GN : Fn P w K mg base 6 "core_nodes" (prOne fun W => dT (coreNW W)) := ok_cn T
  refine def_ok T.core scCore (fun ds R h => by obtain ⟨W, rfl, _⟩ := h; rfl) fun f cdv A outer s S H vs ds Q E hr hS hp h => ?_
  obtain ⟨W, rfl, hW, q⟩ := h
  obtain ⟨v1, rfl, p1⟩ := da1 hp
  have hasc := (coreNW_core W).asc
  exact vs_last (vs_ret (d := dW (coreW W)) (vd_call GI hr (vda_cons (vd_var 0 p1) (vda_cons (vd_call GN hr (vda_cons (vd_var 0 p1) vda_nil) fun R h => ⟨W, rfl, hW, h⟩) vda_nil)) fun R h => ⟨W, coreNW W, rfl, hW, lt_nodup hasc.1, coreNW_len hW, hasc.2, h⟩) hS fun v' S' H' w' p' => q v' S' H' w' p')
theorem scFold : FnScope ["web", "nodes", "place"] ["web"] (defScope (topS 24)) := ⟨rfl, rfl, rfl, by decide +kernel, rfl, by decide +kernel, by decide +kernel⟩
theorem map_get {α : Type} (l : List α) (f : α → PyData) (dflt : α) : (List.range l.length).map (fun i => f (l.getD i dflt)) = l.map f := by
  have e : l = (List.range l.length).map fun i => l.getD i dflt := by
    refine List.ext_getElem (by simp) fun i h1 h2 => ?_
    rw [List.getElem_map, List.getElem_range, List.getD_eq_getElem?_getD, List.getElem?_eq_getElem h1]; rfl
  conv => rhs; rw [e, List.map_map]
  rfl
theorem ok_fold (T : Txt K mg) : Fn P w K mg base 7 "fold_row" (prOne fun W => dT (foldR W)) := by
  have GI : Fn P w K mg base 6 "induced" prInd := (ok_ind T).mono (by decide)
  have GN : Fn P w K mg base 6 "core_nodes" (prOne fun W => dT (coreNW W)) := ok_cn T
  have GF : Fn P w K mg base 6 "first_hom" (prTwo fun W B => dOpt (homsW W B).head?) := (ok_first T).mono (by decide)
  refine def_ok T.fold_row scFold (fun ds R h => by obtain ⟨W, rfl, _⟩ := h; rfl) fun f cdv A outer s S H vs ds Q E hr hS hp h => ?_
  obtain ⟨W, rfl, hW, q⟩ := h
  obtain ⟨v1, rfl, p1⟩ := da1 hp
  have hasc := (coreNW_core W).asc
  obtain ⟨hh, hmem⟩ := head_mem W
  have q : ∀ v S' H', Nw S H S' H' → DD K S' v (dT (foldR W)) → Q v H' := q
  have hWn := hW.n
  unfold foldR at q
  generalize (homsW W (coreW W)).headD [] = r at q hh hmem
  have hm := mem_homsW.mp hmem
  have hrl : r.length ≤ 5 := by rw [hm.len]; omega
  refine vs_cons (vs_set 1 (vd_call GN hr (vda_cons (vd_var 0 p1) vda_nil) fun R h => ⟨W, rfl, hW, h⟩) hS (fun v2 S1 H1 w1 p2 => ?_) scFold.nd)
  have p1' := Dpm p1 w1.st
  refine vs_last (vs_ret (d := dT (r.map fun p => (coreNW W).getD p 0)) (vd_is (vd_tupleOf T.b_tuple (vd_lc0 (g := gName 2) (own := [("place", 2)]) (pi_tup pe_ve) (ew_tup (ds := r.map dI) (vd_is (vd_call GF hr (vda_cons (vd_var 0 p1') (vda_cons (vd_call GI hr (vda_cons (vd_var 0 p1') (vda_cons (vd_var 1 p2) vda_nil)) fun R h => ⟨W, coreNW W, rfl, hW, lt_nodup hasc.1, coreNW_len hW, hasc.2, h⟩) vda_nil)) fun R h => ⟨W, coreW W, rfl, hW, coreW_ok hW, h⟩) (by show dOpt (homsW W (coreW W)).head? = _; rw [hh]; rfl))) (by rw [List.length_map]; omega) scFold.nd rfl (fun i => dI ((coreNW W).getD (r.getD i 0) 0)) (blkOk_by (N := ["web", "nodes", "place"]) (sc := defScope (topS 24)) (by decide +kernel)) (fun _ _ _ _ _ => by exact pg_name scFold.nd rfl (Or.inl rfl)) (fun i d v Si H6 hd e6 hS6 pv => ?_)) (.lst _)) ?_) w1.within fun v' S' H' w' p' => q v' S' H' (w1.trans w') p')
  · obtain ⟨x, hx, rfl⟩ := get_map hd
    rw [getD_some hx]
    exact ⟨_, fun Q q => q, wipe1 _ 2 v, fun s9 H9 C9 cl9 fp9 => vd_ixTR (vd_var 1 (Dpm p2 e6)) (vd_var 2 pv) (hm.lt x (List.mem_of_getElem? hx))⟩
  · rw [List.length_map, map_get r (fun x => dI ((coreNW W).getD x 0)) 0]
    unfold dT
    rw [List.map_map]
    rfl
end
end K22
/-! K22, text 23: defs that take the script; _law_cell, _law_draws -/
namespace K22
open PySem PySem.Spec PyProof.Rows L2 Evl
abbrev PTS := List Int → PTr
def spS (K : PySem.W.Frag) (Pr : PTS) : Sp := fun vs H Q _ => ∃ S a ns vs' ds, vs = .ref a :: vs' ∧ Ex S H ∧ SqL K S a (ns.map V.int) ∧ DDA K S vs' ds ∧ Pr ns ds fun d => ∀ v S' H', Nw S H S' H' → DD K S' v d → Q v H'
structure FnS (P : Program) (w : World) (K : PySem.W.Frag) (mg : Str → Option Value) (base : Heap) (k : Nat) (x : Str) (Pr : PTS) : Prop where
  ex : ∃ (f : Addr) (fd : FuncData) (ps : List Str), mg x = some (.ref f) ∧ PySem.W.keepIn K (.ref f) = true ∧ Binds K fd ps [] ∧ FnOk P w K mg base CX0 k f fd ps (spS K Pr)
theorem FnS.mono {P : Program} {w : World} {K : PySem.W.Frag} {mg : Str → Option Value} {base : Heap} {j k : Nat} {x : Str} {Pr : PTS} (G : FnS P w K mg base j x Pr) (h : j ≤ k) : FnS P w K mg base k x Pr := by
  obtain ⟨f, fd, ps, h1, h2, h3, h4⟩ := G.ex
  exact ⟨f, fd, ps, h1, h2, h3, h4.mono h⟩
theorem okS_def {P : Program} {w : World} {K : PySem.W.Frag} {mg : Str → Option Value} {base : Heap} {i : Nat} {x : Str} {N ps : List Str} {k : Nat} {Pr : PTS} (D : Def K mg i x ps) (Sc : FnScope N ps (defScope (topS i))) (hl : ∀ ns ds R, Pr ns ds R → ds.length + 1 = ps.length)
    (body : ∀ (f : Addr) (cdv : Value) (A : Around) (outer : List Env) (s : Shared) (S H : Hp) (a : Addr) (ns : List Int) (vs : List V) (ds : List PyData) (Q : VK) (E : XK), Room k (A.deeper (envOfC x (defScope (topS i)) s.heap.objs.size f cdv)) → Ex S H → SqL K S a (ns.map V.int) → DDA K S vs ds → (Pr ns ds fun d => ∀ v S' H', Nw S H S' H' → DD K S' v d → Q v H') →
      VSs (cxB P w K mg base N x (defScope (topS i)) f cdv A outer s H E) (defBody (topS i)) { nx := fun _ H' => Q .non H', rt := Q } (start N (.ref a :: vs)) H) : FnS P w K mg base (k + 1) x Pr := by
  obtain ⟨f, fd, F, hm, hb⟩ := D.ex
  refine ⟨f, fd, ps, hm, F.kp, hb, F.ok Sc (fun vs H Q E h => ?_) fun cdv A outer s H vs Q E hr h => ?_⟩
  · obtain ⟨S, a, ns, vs', ds, rfl, _, _, h1, h2⟩ := h
    rw [List.length_cons, da_len h1, hl _ _ _ h2]
  · obtain ⟨S, a, ns, vs', ds, rfl, h0, hs, h1, h2⟩ := h
    exact ⟨_, pss_vss, body f cdv A outer s S H a ns vs' ds Q E hr h0 hs h1 h2⟩
section
variable {X : Cx} {e b : Expr} {es : List Expr} {p pos : Pos} {σ : L2.St} {S H : Hp} {d : PyData} {ds : List PyData} {x : Str} {k : Nat} {Pr : PTS} {a : Addr} {ns : List Int}
theorem ve_callS (G : FnS X.prog X.w X.K X.mg X.base k x Pr) (hr : Room k X.A) (ho : Ev (VE X e) σ S (.ref a)) (hq : SqL X.K S a (ns.map V.int)) (ha : VDA X es σ S ds) (hS : Ex S H) {Q : VK} (hp : ∀ S1 H1, Nw S H S1 H1 → Pr ns ds fun d => ∀ v S' H', Nw S1 H1 S' H' → DD X.K S' v d → Q v H') (hg : Gl X x := by rfl) (hdb : (x == ("__debug__" : Str)) = false := by decide)
    (he : starEach (e :: es) X.env = (false, eval e X.env) :: starEach es X.env := by rfl) (hpl : (backTo pos (starEach es X.env)).any (·.1) = false := by rfl) : VE X (.Call (.Name x p) (e :: es) [] pos) σ H Q := by
  obtain ⟨f, fd, ps, h1, h2, h3, h4⟩ := G.ex
  refine ve_of (pe_call h4 hr hg h1 h2 h3 .nil pass0 (pa_cons pe_ve pa_va he) hdb he hpl) (ho H hS _ fun H1 e1 => ha H1 (hS.trans e1) _ fun vs S2 H2 w2 p2 => ?_)
  show spS X.K Pr ((.ref a :: vs) ++ []) H2 Q E0
  rw [List.append_nil]
  exact ⟨S2, a, ns, vs, ds, rfl, w2.within, ex_l w2.st hq, p2, hp S2 H2 ((Nw.only hS e1).trans w2)⟩
theorem vd_callS (G : FnS X.prog X.w X.K X.mg X.base k x Pr) (hr : Room k X.A) (ho : Ev (VE X e) σ S (.ref a)) (hq : SqL X.K S a (ns.map V.int)) (ha : VDA X es σ S ds) (hp : ∀ R : PyData → Prop, R d → Pr ns ds R) (hg : Gl X x := by rfl) (hdb : (x == ("__debug__" : Str)) = false := by decide)
    (he : starEach (e :: es) X.env = (false, eval e X.env) :: starEach es X.env := by rfl) (hpl : (backTo pos (starEach es X.env)).any (·.1) = false := by rfl) : VD X (.Call (.Name x p) (e :: es) [] pos) σ S d := fun H hS Q q =>
  ve_callS G hr ho hq ha hS (fun S1 H1 w1 => hp _ fun v S' H' w2 p2 => q v S' H' (w1.trans w2) p2) hg hdb he hpl
theorem vd_lenSc (hm : X.mg "len" = none) (ho : Ev (VE X e) σ S (.ref a)) (hq : SqL X.K S a (ns.map V.int)) (hg : Gl X "len" := by rfl)
    (he : starEach [e] X.env = (false, eval e X.env) :: starEach [] X.env := by rfl) (hpl : (backTo pos (starEach [] X.env)).any (·.1) = false := by rfl) : VD X (.Call (.Name "len" p) [e] [] pos) σ S (dI ns.length) :=
  vd_of (pe_callB call_len_seq hg hm PySem.boot_len (pa_cons pe_ve pa_nil he) (by decide) (by decide) he hpl) fun H hS Q q => ho H hS _ fun H1 e1 => ⟨a, _, rfl, .inl (ex_l (hS.trans e1) hq), by rw [List.length_map]; exact q _ S H1 (Nw.only hS e1) (.int _)⟩
theorem vd_ixSc {n : Nat} (ho : Ev (VE X e) σ S (.ref a)) (hq : SqL X.K S a (ns.map V.int)) (hb : VD X b σ S (dI n)) (hn : n < ns.length) (hp : PlainIx b := by exact fun _ _ => rfl) : VD X (.Subscript e b pos) σ S (.int (ns.getD n 0)) :=
  vd_of (pe_ix ix_list pe_ve pe_ve hp) fun H hS Q q => ho H hS _ fun H1 e1 => hb.ev_int H1 (hS.trans e1) _ fun H2 e2 => ⟨a, _, _, _, rfl, rfl, ex_l (hS.trans (e1.trans e2)) hq, atI_nat (by rw [List.getElem?_map, List.getElem?_eq_getElem hn, List.getD_eq_getElem?_getD, List.getElem?_eq_getElem hn]; rfl), q _ S H2 (Nw.only hS (e1.trans e2)) (.int _)⟩
end
/-! ### arithmetic on natural numbers -/
section
variable {X : Cx} {a b : Expr} {pos : Pos} {σ : L2.St} {S : Hp} {n m : Nat}
theorem vdn_add (ha : VD X a σ S (dI n)) (hb : VD X b σ S (dI m)) : VD X (.BinOp a .Add b pos) σ S (dI (n + m)) := vd_add ha hb
theorem vdn_mul (ha : VD X a σ S (dI n)) (hb : VD X b σ S (dI m)) (h : n < 2 ^ 64 ∨ m < 2 ^ 64) : VD X (.BinOp a .Mult b pos) σ S (dI (n * m)) := vd_mul ha hb (h.imp (fun h => ⟨by omega, by omega⟩) fun h => ⟨by omega, by omega⟩)
theorem vdn_mod (ha : VD X a σ S (dI n)) (hb : VD X b σ S (dI m)) (h : 0 < m) : VD X (.BinOp a .Mod b pos) σ S (dI (n % m)) := vd_mod ha hb (by omega)
theorem vdn_div (ha : VD X a σ S (dI n)) (hb : VD X b σ S (dI m)) (h : 0 < m ∧ m < 1073741824) : VD X (.BinOp a .FloorDiv b pos) σ S (dI (n / m)) := vd_fdiv ha hb (by omega)
theorem vdn_sub (ha : VD X a σ S (dI n)) (hb : VD X b σ S (dI m)) (h : m ≤ n) : VD X (.BinOp a .Sub b pos) σ S (dI (n - m)) := vd_is (vd_sub ha hb) (by show PyData.int _ = PyData.int _; congr 1; omega)
theorem vdn_int {j : Nat} {p : Pos} : VD X (.Constant (.int (n : Int)) j p) σ S (dI n) := vd_int
theorem vd_big {p1 p2 : Pos} {j1 j2 : Nat} : VD X (.BinOp (.Constant (.int 10) j1 p1) .Pow (.Constant (.int 18) j2 p2) pos) σ S (dI (10 ^ 18)) := vd_pow vd_int vd_int ⟨by decide, by decide, by decide⟩
end
def cellN (ns : List Int) (i : Nat) : Nat := if i < ns.length then (ns.getD i 0).natAbs else 0
def mixN (c k : Nat) : Nat := (c * 48271 + (k + 1) * 69621 + 17) % 2147483647
def drawN (c base k : Nat) : Nat := ((mixN c k * mixN c k + c * (k + 3) + 12345) % 1000003 / 7) % base
def drawsC (c count base : Nat) : List Nat := if 10 ^ 18 ≤ c then (List.range count).map fun k => (c - 10 ^ 18) / base ^ k % base else (List.range count).map (drawN c base)
def drawsN (ns : List Int) (i count base : Nat) : List Nat := drawsC (cellN ns i) count base
theorem draws_len {ns : List Int} {i count base : Nat} : (drawsN ns i count base).length = count := by
  unfold drawsN drawsC
  split <;> rw [List.length_map, List.length_range]
theorem draws_lt {ns : List Int} {i count base : Nat} (h : 0 < base) : ∀ x ∈ drawsN ns i count base, x < base := by
  unfold drawsN drawsC
  split <;> intro x hx <;> obtain ⟨k, _, rfl⟩ := List.mem_map.mp hx
  · exact Nat.mod_lt _ h
  · exact Nat.mod_lt _ h
section
variable {P : Program} {w : World} {K : PySem.W.Frag} {mg : Str → Option Value} {base : Heap}
def prCell : PTS := fun ns ds R => ∃ i : Nat, ds = [dI i] ∧ R (dI (cellN ns i))
theorem scCell : FnScope ["_law_script", "_law_place"] ["_law_script", "_law_place"] (defScope (topS 31)) := ⟨rfl, rfl, rfl, by decide +kernel, rfl, by decide +kernel, by decide +kernel⟩
theorem ok_cell (T : Txt K mg) : FnS P w K mg base 1 "_law_cell" prCell := by
  refine okS_def T.law_cell scCell (fun ns ds R h => by obtain ⟨i, rfl, _⟩ := h; rfl) fun f cdv A outer s S H a ns vs ds Q E hr hS hs hp h => ?_
  obtain ⟨i, rfl, q⟩ := h
  obtain ⟨v1, rfl, p1⟩ := da1 hp
  refine vs_cons (vs_if (vb_ltN (vd_var 1 p1) (vd_lenSc T.b_len (vv_var 0) hs)) hS (fun ht H1 e1 => ?_) fun hf H1 e1 => ?_)
  · have hi := of_decide_eq_true ht
    refine vs_last (vs_ret (vd_abs T.b_abs (vd_intOf T.b_int (vd_ixSc (vv_var 0) hs (vd_var 1 p1) hi))) (hS.trans e1) fun v' S' H' w' p' => q v' S' H' ((Nw.only hS e1).trans w') ?_)
    have e : (if ns.getD i 0 < 0 then -ns.getD i 0 else ns.getD i 0) = ((cellN ns i : Nat) : Int) := by
      unfold cellN
      rw [if_pos hi]
      split <;> omega
    rw [e] at p'
    exact p'
  · have hi := of_decide_eq_false hf
    refine vs_nil (vs_last (vs_ret (vd_int (i := 0)) (hS.trans e1) fun v' S' H' w' p' => q v' S' H' ((Nw.only hS e1).trans w') ?_))
    unfold cellN
    rw [if_neg hi]
    exact p'
def prDraws : PTS := fun ns ds R => ∃ i count b : Nat, ds = [dI i, dI count, dI b] ∧ count ≤ 1000 ∧ 0 < b ∧ b < 1000000 ∧ R (dL (drawsN ns i count b))
abbrev nDraws : List Str := ["_law_script", "_law_place", "_law_count", "_law_base", "_law_cell_here", "_law_row", "_law_k", "_law_mixed"]
theorem scDraws : FnScope nDraws ["_law_script", "_law_place", "_law_count", "_law_base"] (defScope (topS 32)) := ⟨rfl, rfl, rfl, by decide +kernel, rfl, by decide +kernel, by decide +kernel⟩
theorem rg_at {n i : Nat} {d : PyData} (h : ((List.range n).map dI)[i]? = some d) : i < n ∧ d = dI i := by
  obtain ⟨m, hm, rfl⟩ := get_map h
  have hi : i < n := by
    have := (List.getElem?_eq_some_iff.mp hm).1
    simpa using this
  rw [List.getElem?_range hi] at hm
  exact ⟨hi, by rw [Option.some.inj hm]⟩
theorem range_snoc (n : Nat) (f : Nat → Nat) : ((List.range n).map f).map dI ++ [dI (f n)] = ((List.range (n + 1)).map f).map dI := by rw [List.range_succ, List.map_append, List.map_append]; rfl
theorem ok_draws (T : Txt K mg) : FnS P w K mg base 2 "_law_draws" prDraws := by
  have GC : FnS P w K mg base 1 "_law_cell" prCell := ok_cell T
  refine okS_def T.law_draws scDraws (fun ns ds R h => by obtain ⟨i, c, b, rfl, _⟩ := h; rfl) fun f cdv A outer s S H a ns vs ds Q E hr hS hs hp h => ?_
  obtain ⟨i, count, b, rfl, hct, hb0, hb, q⟩ := h
  obtain ⟨v1, v2, v3, rfl, p1, p2, p3⟩ := da3 hp
  unfold drawsN at q
  refine vs_cons (vs_set 4 (vd_callS GC hr (vv_var 0) hs (vda_cons (vd_var 1 p1) vda_nil) fun R h => ⟨i, rfl, h⟩) hS (fun v4 S1 H1 w1 p4 => ?_) scDraws.nd)
  generalize cellN ns i = c at p4 q
  have a1 : At S H S1 H1 := ⟨w1⟩
  refine vs_cons (vs_newL 5 (fun l hl => ?_) scDraws.nd)
  have g0 : Gw K S H l S1 (upd H1 l (.lst [])) [] := Gw.start a1 hl
  refine vs_cons (vs_if (vb_is (vb_ge (i := (c : Int)) (j := ((10 ^ 18 : Nat) : Int)) (vd_var 4 p4) vd_big) (u := decide (10 ^ 18 ≤ c)) (by rw [Bool.eq_iff_iff, decide_eq_true_eq, decide_eq_true_eq]; exact Int.ofNat_le)) g0.within (fun ht H2 e2 => ?_) fun hf H2 e2 => ?_)
  · have hc := of_decide_eq_true ht
    unfold drawsC at q
    rw [if_pos hc] at q
    have g2 := g0.only e2
    refine vs_cons (vs_set 4 (vdn_sub (vd_var 4 p4) vd_big hc) g2.within (fun v5 S3 H3 w3 p5 => ?_) scDraws.nd)
    have g3 := g2.step w3
    have e3 : Ex S S3 := w1.st.trans w3.st
    generalize hcc : c - 10 ^ 18 = c' at p5 q
    refine vs_cons (vs_forN 6 (pi_range1' T.b_range) (ew_range1 (vda_cons (vd_var 2 (Dpm p2 e3)) vda_nil) (by omega)) g3.within scDraws.nd rfl
      (fun S4 j σ' H' => ∃ S5 u y6, Gw K S H l S5 H' (((List.range j).map fun k => c' / b ^ k % b).map dI) ∧ Ex S4 S5 ∧ DD K S5 u (dI (c' / b ^ j)) ∧ j ≤ count ∧ σ' = [some (.ref a), some v1, some v2, some v3, some u, some (.ref l), y6, none]) (fun S4 H4 w4 => ⟨S4, v5, none, g3.step w4, Ex.refl _, ?_, Nat.zero_le _, rfl⟩) (fun S4 j σ' H' ⟨_, _, _, g, e, _⟩ => e.trans g.within) (fun S4 j d x σ' H' H'' e4 hd h y => ?_) (fun S4 σ' H' e4 h => ?_))
    · rw [Nat.pow_zero, Nat.div_one]; exact Dpm p5 w4.st
    · obtain ⟨S5, u, y6, g5, e45, pu, hj, rfl⟩ := h
      obtain ⟨S6, w6, px⟩ := y S5 e45 g5.within
      obtain ⟨hjc, rfl⟩ := rg_at hd
      have g6 := g5.step w6
      have e6 : Ex S S6 := e3.trans (e4.trans (e45.trans w6.st))
      refine vs_cons (vs_appG (d := dI (c' / b ^ j % b)) g6 (vv_var 5) (vdn_mod (vd_intOf T.b_int (vd_var 4 (Dpm pu w6.st))) (vd_var 3 (Dpm p3 e6)) hb0) (by rw [List.length_map, List.length_map, List.length_range]; omega) fun S7 H7 g7 e7 => ?_)
      refine vs_last (vs_set 4 (vdn_div (vd_var 4 (Dpm pu (w6.st.trans e7))) (vd_var 3 (Dpm p3 (e6.trans e7))) ⟨hb0, by omega⟩) g7.within (fun v8 S8 H8 w8 p8 => ⟨S8, v8, _, ?_, e45.trans (w6.st.trans (e7.trans w8.st)), ?_, hjc, rfl⟩) scDraws.nd)
      · have g8 := g7.step w8
        rw [range_snoc j fun k => c' / b ^ k % b] at g8
        exact g8
      · rw [Nat.pow_succ, ← Nat.div_div_eq_div_mul]
        exact p8
    · obtain ⟨S5, u, y6, g5, e45, pu, hj, rfl⟩ := h
      rw [List.length_map, List.length_range] at g5
      obtain ⟨S6, a6, e6, pl⟩ := g5.done
      exact vs_last (vs_ret (vd_var 5 pl) a6.nw.within fun v' S' H' w' p' => q v' S' H' (a6.nw.trans w') p')
  · have hc := of_decide_eq_false hf
    unfold drawsC at q
    rw [if_neg hc] at q
    have g2 := g0.only e2
    refine vs_nil (vs_cons (vs_forN 6 (pi_range1' T.b_range) (ew_range1 (vda_cons (vd_var 2 (Dpm p2 w1.st)) vda_nil) (by omega)) g2.within scDraws.nd rfl
      (fun S4 j σ' H' => ∃ S5 y6 y7, Gw K S H l S5 H' (((List.range j).map (drawN c b)).map dI) ∧ Ex S4 S5 ∧ j ≤ count ∧ σ' = [some (.ref a), some v1, some v2, some v3, some v4, some (.ref l), y6, y7]) (fun S4 H4 w4 => ⟨S4, none, none, g2.step w4, Ex.refl _, Nat.zero_le _, rfl⟩) (fun S4 j σ' H' ⟨_, _, _, g, e, _⟩ => e.trans g.within) (fun S4 j d x σ' H' H'' e4 hd h y => ?_) (fun S4 σ' H' e4 h => ?_)))
    · obtain ⟨S5, y6, y7, g5, e45, hj, rfl⟩ := h
      obtain ⟨S6, w6, px⟩ := y S5 e45 g5.within
      obtain ⟨hjc, rfl⟩ := rg_at hd
      have g6 := g5.step w6
      have e6 : Ex S1 S6 := e4.trans (e45.trans w6.st)
      have p4' := Dpm p4 e6
      have hmix : mixN c j < 2147483647 := Nat.mod_lt _ (by decide)
      refine vs_cons (vs_set 7 (d := dI (mixN c j)) (vdn_mod (vd_intOf T.b_int (vdn_add (vdn_add (vdn_mul (vd_var 4 p4') (vdn_int (n := 48271)) (.inr (by decide))) (vdn_mul (vdn_add (vd_var 6 px) (vdn_int (n := 1))) (vdn_int (n := 69621)) (.inr (by decide)))) (vdn_int (n := 17)))) (vdn_int (n := 2147483647)) (by decide)) g6.within (fun v7 S7 H7 w7 p7 => ?_) scDraws.nd)
      have g7 := g6.step w7
      refine vs_cons (vs_set 7 (d := dI ((mixN c j * mixN c j + c * (j + 3) + 12345) % 1000003)) (vdn_mod (vd_intOf T.b_int (vdn_add (vdn_add (vdn_mul (vd_var 7 p7) (vd_var 7 p7) (.inl (by omega))) (vdn_mul (vd_var 4 (Dpm p4' w7.st)) (vdn_add (vd_var 6 (Dpm px w7.st)) (vdn_int (n := 3))) (.inr (by omega)))) (vdn_int (n := 12345)))) (vdn_int (n := 1000003)) (by decide)) g7.within (fun v8 S8 H8 w8 p8 => ?_) scDraws.nd)
      have g8 := g7.step w8
      refine vs_last (vs_appG (d := dI (drawN c b j)) g8 (vv_var 5) (vdn_mod (vd_intOf T.b_int (vdn_div (vd_var 7 p8) (vdn_int (n := 7)) ⟨by decide, by decide⟩)) (vd_var 3 (Dpm p3 (w1.st.trans (e6.trans (w7.st.trans w8.st))))) hb0) (by rw [List.length_map, List.length_map, List.length_range]; omega) fun S9 H9 g9 e9 => ⟨S9, _, _, ?_, e45.trans (w6.st.trans (w7.st.trans (w8.st.trans e9))), hjc, rfl⟩)
      rw [range_snoc j (drawN c b)] at g9
      exact g9
    · obtain ⟨S5, y6, y7, g5, e45, hj, rfl⟩ := h
      rw [List.length_map, List.length_range] at g5
      obtain ⟨S6, a6, e6, pl⟩ := g5.done
      exact vs_last (vs_ret (vd_var 5 pl) a6.nw.within fun v' S' H' w' p' => q v' S' H' (a6.nw.trans w') p')
end
end K22
/-! K22, text 24: _law_same, _law_is_integer, _law_web -/
namespace K22
open PySem PySem.Spec PyProof.Rows L2 Evl
section
variable {X : Cx} {a b c e : Expr} {pos p : Pos} {σ : L2.St} {S : Hp} {d : PyData} {ds : List PyData}
theorem vd_and3 {t u v : Bool} (h1 : VD X a σ S (.bool t)) (h2 : t = true → VD X b σ S (.bool u)) (h3 : t = true → u = true → VD X c σ S (.bool v)) : VD X (.BoolOp .And [a, b, c] pos) σ S (.bool (t && (u && v))) :=
  vd_of (pe_and pe_ve (pe_and pe_ve (pe_one pe_ve))) (.of_ev (ev_andV h1.ev_bool fun ht => ev_andV (h2 ht).ev_bool fun hu => (h3 ht hu).ev_bool) (.bl _))
theorem vd_lenI (hm : X.mg "len" = none) (ha : VD X e σ S d) (hi : Items d ds) (hg : Gl X "len" := by rfl)
    (he : starEach [e] X.env = (false, eval e X.env) :: starEach [] X.env := by rfl) (hpl : (backTo pos (starEach [] X.env)).any (·.1) = false := by rfl) : VD X (.Call (.Name "len" p) [e] [] pos) σ S (dI ds.length) := by
  cases hi with
  | lst => exact vd_lenL hm ha hg he hpl
  | tup => exact vd_lenT hm ha hg he hpl
theorem vd_ixI {n : Nat} {d' : PyData} (ha : VD X a σ S d) (hi : Items d ds) (hb : VD X b σ S (dI n)) (hn : ds[n]? = some d') (hp : PlainIx b := by exact fun _ _ => rfl) : VD X (.Subscript a b pos) σ S d' := by
  cases hi with
  | lst => exact vd_ixL ha hb rfl hn hp
  | tup => exact vd_ixT ha hb rfl hn hp
end
/-- what _law_same is asked about -/
def Sm : Nat → PyData → Prop
  | 0, _ => False
  | _ + 1, .none => True
  | _ + 1, .bool _ => True
  | _ + 1, .int _ => True
  | j + 1, .list ds => ds.length ≤ 100000 ∧ ∀ d ∈ ds, Sm j d
  | j + 1, .tuple ds => ds.length ≤ 100000 ∧ ∀ d ∈ ds, Sm j d
  | _ + 1, _ => False
section
variable {P : Program} {w : World} {K : PySem.W.Frag} {mg : Str → Option Value} {base : Heap}
def prSame (j : Nat) : PTr := fun ds R => ∃ d : PyData, ds = [d, d] ∧ Sm j d ∧ R (.bool true)
theorem scSame : FnScope ["_law_first", "_law_second", "_law_k"] ["_law_first", "_law_second"] (defScope (topS 33)) := ⟨rfl, rfl, rfl, by decide +kernel, rfl, by decide +kernel, by decide +kernel⟩
theorem same_step (T : Txt K mg) {j n : Nat} (G0 : Fn P w K mg base n "_law_same" (prSame j)) : Fn P w K mg base (n + 1) "_law_same" (prSame (j + 1)) := by
  refine def_ok T.law_same scSame (fun ds R h => by obtain ⟨d, rfl, _⟩ := h; rfl) fun f cdv A outer s S H vs ds Q E hr hS hp h => ?_
  obtain ⟨d, rfl, hsm, q⟩ := h
  obtain ⟨v1, v2, rfl, p1, p2⟩ := da2 hp
  have bB : bootBuiltins "bool" = some (.type "bool") := by decide +kernel
  have bI : bootBuiltins "int" = some (.type "int") := by decide +kernel
  have bS : bootBuiltins "str" = some (.type "str") := by decide +kernel
  have bT : bootBuiltins "tuple" = some (.type "tuple") := by decide +kernel
  have bL : bootBuiltins "list" = some (.type "list") := by decide +kernel
  by_cases hb : ∃ t, d = .bool t
  · obtain ⟨t, rfl⟩ := hb
    have k1 : kitB (tyD (.bool t)) "bool" = some true := rfl
    refine vs_cons (vs_if (vb_or (t := true) (u := true) (vb_val (vd_isi T.b_isinstance T.b_bool bB (vd_var 0 p1) k1)) fun z => nomatch z) hS (fun ht H1 e1 => ?_) fun hf H1 e1 => nomatch hf)
    refine vs_last (vs_ret (vd_and3 (vd_isi T.b_isinstance T.b_bool bB (vd_var 0 p1) k1) (fun _ => vd_isi T.b_isinstance T.b_bool bB (vd_var 1 p2) k1) fun _ _ => vd_eqB (vd_var 0 p1) (vd_var 1 p2)) (hS.trans e1) fun v' S' H' w' p' => q v' S' H' ((Nw.only hS e1).trans w') ?_)
    rw [beq_self_eq_true] at p'
    exact p'
  have kb : kitB (tyD d) "bool" = some false := by
    cases d with
    | bool t => exact absurd ⟨t, rfl⟩ hb
    | none => rfl
    | int _ => rfl
    | list _ => rfl
    | tuple _ => rfl
    | str _ => cases hsm
    | dict _ => cases hsm
  refine vs_cons (vs_if (vb_or (t := false) (u := false) (vb_val (vd_isi T.b_isinstance T.b_bool bB (vd_var 0 p1) kb)) fun _ => vb_val (vd_isi T.b_isinstance T.b_bool bB (vd_var 1 p2) kb)) hS (fun ht H1 e1 => nomatch ht) fun hf H1 e1 => vs_nil ?_)
  by_cases hn : d = .none
  · subst hn
    refine vs_cons (vs_if (vb_or (t := true) (u := true) (vb_is (vb_isN (vd_var 0 p1)) rfl) fun z => nomatch z) (hS.trans e1) (fun ht H2 e2 => ?_) fun hf H1 e1 => nomatch hf)
    exact vs_last (vs_ret (vd_and (vd_isN (vd_var 0 p1)) fun _ => vd_isN (vd_var 1 p2)) (hS.trans (e1.trans e2)) fun v' S' H' w' p' => q v' S' H' ((Nw.only hS (e1.trans e2)).trans w') p')
  have kn : isNone d = false := by
    cases d with
    | none => exact absurd rfl hn
    | _ => rfl
  refine vs_cons (vs_if (vb_is (vb_or (vb_isN (vd_var 0 p1)) fun _ => vb_isN (vd_var 1 p2)) (u := false) (by rw [kn]; rfl)) (hS.trans e1) (fun ht H1 e1 => nomatch ht) fun hf H2 e2 => vs_nil ?_)
  by_cases hi : ∃ i, d = .int i
  · obtain ⟨i, rfl⟩ := hi
    have k1 : kitB (tyD (.int i)) "int" = some true := rfl
    refine vs_cons (vs_if (vb_val (vd_isi T.b_isinstance T.b_int bI (vd_var 0 p1) k1)) (hS.trans (e1.trans e2)) (fun ht H3 e3 => ?_) fun hf H1 e1 => nomatch hf)
    refine vs_last (vs_ret (vd_and (vd_isi T.b_isinstance T.b_int bI (vd_var 1 p2) k1) fun _ => vd_eq (vd_var 0 p1) (vd_var 1 p2)) (hS.trans (e1.trans (e2.trans e3))) fun v' S' H' w' p' => q v' S' H' ((Nw.only hS (e1.trans (e2.trans e3))).trans w') ?_)
    rw [decide_eq_true rfl] at p'
    exact p'
  -- a list or a tuple
  obtain ⟨ds, tl, ti, hit, hlen, hall, ki, ks, kl, kt, hor⟩ : ∃ ds tl ti, Items d ds ∧ ds.length ≤ 100000 ∧ (∀ x ∈ ds, Sm j x) ∧ kitB (tyD d) "int" = some false ∧ kitB (tyD d) "str" = some false ∧ kitB (tyD d) "list" = some tl ∧ kitB (tyD d) "tuple" = some ti ∧ (!tl && !ti) = false := by
    cases d with
    | bool t => exact absurd ⟨t, rfl⟩ hb
    | none => exact absurd rfl hn
    | int i => exact absurd ⟨i, rfl⟩ hi
    | list ds => exact ⟨ds, true, false, .lst ds, hsm.1, hsm.2, rfl, rfl, rfl, rfl, rfl⟩
    | tuple ds => exact ⟨ds, false, true, .tup ds, hsm.1, hsm.2, rfl, rfl, rfl, rfl, rfl⟩
    | str _ => cases hsm
    | dict _ => cases hsm
  refine vs_cons (vs_if (vb_val (vd_isi T.b_isinstance T.b_int bI (vd_var 0 p1) ki)) (hS.trans (e1.trans e2)) (fun ht H1 e1 => nomatch ht) fun hf H3 e3 => vs_nil ?_)
  refine vs_cons (vs_if (vb_val (vd_isi T.b_isinstance T.b_str bS (vd_var 0 p1) ks)) (hS.trans (e1.trans (e2.trans e3))) (fun ht H1 e1 => nomatch ht) fun hf H4 e4 => vs_nil ?_)
  have i0 : ∀ (t : Bool), (!(t == t)) = false := fun t => by cases t <;> rfl
  have e04 := e1.trans (e2.trans (e3.trans e4))
  refine vs_cons (vs_if (vb_is (vb_or (vb_neB (vd_isi T.b_isinstance T.b_tuple bT (vd_var 0 p1) kt) (vd_isi T.b_isinstance T.b_tuple bT (vd_var 1 p2) kt)) fun _ => vb_neB (vd_isi T.b_isinstance T.b_list bL (vd_var 0 p1) kl) (vd_isi T.b_isinstance T.b_list bL (vd_var 1 p2) kl)) (u := false) (by rw [i0, i0]; rfl)) (hS.trans e04) (fun ht H1 e1 => nomatch ht) fun hf H5 e5 => vs_nil ?_)
  refine vs_cons (vs_if (vb_is (vb_and (vb_not (vb_val (vd_isi T.b_isinstance T.b_list bL (vd_var 0 p1) kl))) fun _ => vb_not (vb_val (vd_isi T.b_isinstance T.b_tuple bT (vd_var 0 p1) kt))) hor) (hS.trans (e04.trans e5)) (fun ht H1 e1 => nomatch ht) fun hf H6 e6 => vs_nil ?_)
  refine vs_cons (vs_if (vb_is (vb_neN (vd_lenI T.b_len (vd_var 0 p1) hit) (vd_lenI T.b_len (vd_var 1 p2) hit)) (u := false) (by simp)) (hS.trans (e04.trans (e5.trans e6))) (fun ht H1 e1 => nomatch ht) fun hf H7 e7 => vs_nil ?_)
  have a7 : At S H S H7 := (At.refl hS).only (e04.trans (e5.trans (e6.trans e7)))
  refine vs_cons (vs_forN 2 (pi_range1' T.b_range) (ew_range1 (vda_cons (vd_lenI T.b_len (vd_var 0 p1) hit) vda_nil) hlen) a7.nw.within scSame.nd rfl
    (fun S2 i σ' H' => ∃ y2, At S H S2 H' ∧ σ' = [some v1, some v2, y2]) (fun S2 H2 w2 => ⟨none, a7.step w2, rfl⟩) (fun S2 i σ' H' ⟨_, a, _⟩ => a.nw.within) (fun S2 i d' x σ' H' H'' e hd h y => ?_) (fun S2 σ' H' e h => ?_))
  · obtain ⟨y2, a2, rfl⟩ := h
    obtain ⟨S3, w3, px⟩ := y S2 (Ex.refl _) a2.nw.within
    obtain ⟨hic, rfl⟩ := rg_at hd
    have e3 : Ex S S3 := e.trans w3.st
    have hg : ds[i]? = some ds[i] := List.getElem?_eq_getElem hic
    refine vs_last (vs_if (vb_not (vb_val (t := true) (vd_call G0 hr (vda_cons (vd_ixI (vd_var 0 (Dpm p1 e3)) hit (vd_var 2 px) hg) (vda_cons (vd_ixI (vd_var 1 (Dpm p2 e3)) hit (vd_var 2 px) hg) vda_nil)) fun R h => ⟨ds[i], rfl, hall _ (List.getElem_mem hic), h⟩))) w3.within (fun ht H1 e1 => nomatch ht) fun hf H4 e4 => ?_)
    exact vs_nil ⟨_, a2.only (w3.hp.trans e4), rfl⟩
  · obtain ⟨y2, a2, rfl⟩ := h
    exact vs_last (vs_ret (vd_bool (b := true)) a2.nw.within fun v' S' H' w' p' => q v' S' H' (a2.nw.trans w') p')
theorem same_zero (T : Txt K mg) : Fn P w K mg base 1 "_law_same" (prSame 0) := by
  refine def_ok T.law_same scSame (fun ds R h => by obtain ⟨d, _, h, _⟩ := h; exact h.elim) fun f cdv A outer s S H vs ds Q E hr hS hp h => ?_
  obtain ⟨d, _, h, _⟩ := h
  exact h.elim
theorem ok_same (T : Txt K mg) : ∀ j, Fn P w K mg base (j + 1) "_law_same" (prSame j)
  | 0 => same_zero T
  | j + 1 => same_step T (ok_same T j)
/-! ### _law_is_integer -/
def prIsInt : PTr := fun ds R => ∃ n : Nat, ds = [dI n] ∧ R (.bool true)
theorem scIsInt : FnScope ["_law_value"] ["_law_value"] (defScope (topS 34)) := ⟨rfl, rfl, rfl, by decide +kernel, rfl, by decide +kernel, by decide +kernel⟩
theorem ok_isint (T : Txt K mg) : Fn P w K mg base 1 "_law_is_integer" prIsInt := by
  refine def_ok T.law_is_integer scIsInt (fun ds R h => by obtain ⟨n, rfl, _⟩ := h; rfl) fun f cdv A outer s S H vs ds Q E hr hS hp h => ?_
  obtain ⟨n, rfl, q⟩ := h
  obtain ⟨v1, rfl, p1⟩ := da1 hp
  have bB : bootBuiltins "bool" = some (.type "bool") := by decide +kernel
  have bI : bootBuiltins "int" = some (.type "int") := by decide +kernel
  exact vs_last (vs_ret (vd_and (t := true) (u := true) (vd_isi T.b_isinstance T.b_int bI (vd_var 0 p1) rfl) fun _ => vd_not (t := false) (vd_isi T.b_isinstance T.b_bool bB (vd_var 0 p1) rfl)) hS fun v' S' H' w' p' => q v' S' H' w' p')
end
/-! ### _law_web -/
def webIn (bits : List Nat) (lp : Bool) (v : Nat) (st : List (Nat × Nat) × Nat) (u : Nat) : List (Nat × Nat) × Nat :=
  if (decide (u < v) || lp) = true then ((if (decide (st.2 < bits.length) && decide (bits.getD st.2 0 = 1)) = true then st.1 ++ [(u, v)] else st.1), st.2 + 1) else st
def webRow (bits : List Nat) (lp : Bool) (st : List (Nat × Nat) × Nat) (v : Nat) : List (Nat × Nat) × Nat := (List.range (v + 1)).foldl (webIn bits lp v) st
def webAll (n : Nat) (bits : List Nat) (lp : Bool) : List (Nat × Nat) × Nat := (List.range n).foldl (webRow bits lp) ([], 0)
def webL (n : Nat) (bits : List Nat) (lp : Bool) : Web := (n, sortE (webAll n bits lp).1)
theorem fold_take {α β : Type} {f : β → α → β} {l : List α} {s : β} {i : Nat} {x : α} (h : l[i]? = some x) : (l.take (i + 1)).foldl f s = f ((l.take i).foldl f s) x := by
  rw [take_snoc h, List.foldl_append]; rfl
theorem webIn_ok {bits : List Nat} {lp : Bool} {v n u : Nat} {st : List (Nat × Nat) × Nat} (hv : v < n) (hu : u ≤ v) (h : ∀ e ∈ st.1, e.1 < n ∧ e.2 < n) : (∀ e ∈ (webIn bits lp v st u).1, e.1 < n ∧ e.2 < n) ∧ (webIn bits lp v st u).1.length ≤ st.1.length + 1 := by
  unfold webIn
  split
  · split
    · refine ⟨fun e he => ?_, by simp⟩
      rcases List.mem_append.mp he with he | he
      · exact h e he
      · rw [List.mem_singleton.mp he]; exact ⟨by omega, hv⟩
    · exact ⟨h, Nat.le_succ _⟩
  · exact ⟨h, Nat.le_succ _⟩
theorem webIn_fold {bits : List Nat} {lp : Bool} {v n : Nat} (hv : v < n) : ∀ (l : List Nat) (st : List (Nat × Nat) × Nat), (∀ u ∈ l, u ≤ v) → (∀ e ∈ st.1, e.1 < n ∧ e.2 < n) → (∀ e ∈ (l.foldl (webIn bits lp v) st).1, e.1 < n ∧ e.2 < n) ∧ (l.foldl (webIn bits lp v) st).1.length ≤ st.1.length + l.length
  | [], st, _, h => ⟨h, Nat.le_refl _⟩
  | u :: l, st, hl, h => by
    obtain ⟨h1, h2⟩ := webIn_ok (bits := bits) (lp := lp) hv (hl u List.mem_cons_self) h
    obtain ⟨h3, h4⟩ := webIn_fold hv l (webIn bits lp v st u) (fun x hx => hl x (List.mem_cons_of_mem _ hx)) h1
    exact ⟨h3, by rw [List.length_cons]; show (l.foldl (webIn bits lp v) (webIn bits lp v st u)).1.length ≤ _; omega⟩
theorem webRow_fold {bits : List Nat} {lp : Bool} {n : Nat} (hn : n ≤ 5) : ∀ (l : List Nat) (st : List (Nat × Nat) × Nat), (∀ v ∈ l, v < n) → (∀ e ∈ st.1, e.1 < n ∧ e.2 < n) → (∀ e ∈ (l.foldl (webRow bits lp) st).1, e.1 < n ∧ e.2 < n) ∧ (l.foldl (webRow bits lp) st).1.length ≤ st.1.length + 5 * l.length
  | [], st, _, h => ⟨h, Nat.le_refl _⟩
  | v :: l, st, hl, h => by
    have hv := hl v List.mem_cons_self
    obtain ⟨h1, h2⟩ := webIn_fold (bits := bits) (lp := lp) hv (List.range (v + 1)) st (fun u hu => by have := List.mem_range.mp hu; omega) h
    rw [List.length_range] at h2
    obtain ⟨h3, h4⟩ := webRow_fold hn l (webRow bits lp st v) (fun x hx => hl x (List.mem_cons_of_mem _ hx)) h1
    have h5 : (webRow bits lp st v).1.length ≤ st.1.length + (v + 1) := h2
    exact ⟨h3, by rw [List.length_cons]; show (l.foldl (webRow bits lp) (webRow bits lp st v)).1.length ≤ _; omega⟩
theorem webAll_ok {n : Nat} {bits : List Nat} {lp : Bool} (hn : n ≤ 5) : (∀ e ∈ (webAll n bits lp).1, e.1 < n ∧ e.2 < n) ∧ (webAll n bits lp).1.length ≤ 25 := by
  obtain ⟨h1, h2⟩ := webRow_fold (bits := bits) (lp := lp) hn (List.range n) ([], 0) (fun v hv => List.mem_range.mp hv) (fun e he => by cases he)
  rw [List.length_range] at h2
  have h3 : (webAll n bits lp).1.length ≤ 0 + 5 * n := h2
  exact ⟨h1, by omega⟩
theorem webOk_of {n : Nat} {es : List (Nat × Nat)} (hn : n ≤ 5) (h : ∀ e ∈ es, e.1 < n ∧ e.2 < n) (hl : es.length ≤ 40) : WOk (n, sortE es) := ⟨hn, fun e he => h e ((sortE_perm es).mem_iff.mp he), by show (sortE es).length ≤ 40; rw [(sortE_perm es).length_eq]; exact hl⟩
theorem webL_ok {n : Nat} {bits : List Nat} {lp : Bool} (hn : n ≤ 5) : WOk (webL n bits lp) := webOk_of hn (webAll_ok hn).1 (Nat.le_trans (webAll_ok hn).2 (by decide))
theorem small_of {n : Nat} {es : List (Nat × Nat)} (hn : n ≤ 5) (h : ∀ e ∈ es, e.1 < n ∧ e.2 < n) (hl : es.length ≤ 40) : Small es := ⟨by omega, fun e he => by have := h e he; omega⟩
section
variable {P : Program} {w : World} {K : PySem.W.Frag} {mg : Str → Option Value} {base : Heap}
def prWeb : PTr := fun ds R => ∃ (n : Nat) (bits : List Nat) (lp : Bool), ds = [dI n, dL bits, .bool lp] ∧ n ≤ 5 ∧ R (dW (webL n bits lp))
abbrev nWeb : List Str := ["_law_size", "_law_bits", "_law_loops", "_law_edges", "_law_place", "_law_v", "_law_u"]
theorem scWeb : FnScope nWeb ["_law_size", "_law_bits", "_law_loops"] (defScope (topS 35)) := ⟨rfl, rfl, rfl, by decide +kernel, rfl, by decide +kernel, by decide +kernel⟩
theorem ok_web (T : Txt K mg) : Fn P w K mg base 1 "_law_web" prWeb := by
  refine def_ok T.law_web scWeb (fun ds R h => by obtain ⟨n, bits, lp, rfl, _⟩ := h; rfl) fun f cdv A outer s S H vs ds Q E hr hS hp h => ?_
  obtain ⟨n, bits, lp, rfl, hn, q⟩ := h
  obtain ⟨v1, v2, v3, rfl, p1, p2, p3⟩ := da3 hp
  refine vs_cons (vs_newL 3 (fun l hl => ?_) scWeb.nd)
  have g0 : Gw K S H l S (upd H l (.lst [])) [] := Gw.start (At.refl hS) hl
  refine vs_cons (vs_set 4 (d := dI 0) vd_int g0.within (fun v4 S1 H1 w1 p4 => ?_) scWeb.nd)
  have g1 := g0.step w1
  refine vs_cons (vs_forN 5 (pi_range1' T.b_range) (ew_range1 (vda_cons (vd_var 0 (Dpm p1 w1.st)) vda_nil) (by omega)) g1.within scWeb.nd rfl
    (fun S2 i σ' H' => ∃ S3 u y5 y6, Gw K S H l S3 H' ((((List.range n).take i).foldl (webRow bits lp) ([], 0)).1.map dE) ∧ Ex S2 S3 ∧ DD K S3 u (dI (((List.range n).take i).foldl (webRow bits lp) ([], 0)).2) ∧ σ' = [some v1, some v2, some v3, some (.ref l), some u, y5, y6])
    (fun S2 H2 w2 => ⟨S2, v4, none, none, g1.step w2, Ex.refl _, Dpm p4 w2.st, rfl⟩) (fun S2 i σ' H' ⟨_, _, _, _, g, e, _⟩ => e.trans g.within) (fun S2 i d x σ' H' H'' e hd h y => ?_) (fun S2 σ' H' e h => ?_))
  · obtain ⟨S3, u, y5, y6, g3, e23, pu, rfl⟩ := h
    obtain ⟨S4, w4, px⟩ := y S3 e23 g3.within
    obtain ⟨hin, rfl⟩ := rg_at hd
    have hri : (List.range n)[i]? = some i := List.getElem?_range hin
    have e4 : Ex S S4 := w1.st.trans (e.trans (e23.trans w4.st))
    have g4 := g3.step w4
    obtain ⟨b1, b2⟩ := webRow_fold (bits := bits) (lp := lp) hn ((List.range n).take i) ([], 0) (fun v hv => List.mem_range.mp (List.mem_of_mem_take hv)) (fun e he => by cases he)
    have b3 : ((List.range n).take i).length ≤ 5 := by rw [List.length_take, List.length_range]; omega
    have b4 : (((List.range n).take i).foldl (webRow bits lp) ([], 0)).1.length ≤ 0 + 5 * ((List.range n).take i).length := b2
    generalize hst : ((List.range n).take i).foldl (webRow bits lp) ([], 0) = st at g4 pu b1 b4
    refine vs_last (vs_forN 6 (pi_range1' T.b_range) (ew_range1 (vda_cons (vdn_add (vd_var 5 px) (vdn_int (n := 1))) vda_nil) (by omega)) g4.within scWeb.nd rfl
      (fun S5 j σ' H' => ∃ S6 u y6, Gw K S H l S6 H' ((((List.range (i + 1)).take j).foldl (webIn bits lp i) st).1.map dE) ∧ Ex S5 S6 ∧ DD K S6 u (dI (((List.range (i + 1)).take j).foldl (webIn bits lp i) st).2) ∧ σ' = [some v1, some v2, some v3, some (.ref l), some u, some x, y6])
      (fun S5 H5 w5 => ⟨S5, u, y6, g4.step w5, Ex.refl _, Dpm pu (w4.st.trans w5.st), rfl⟩) (fun S5 j σ' H' ⟨_, _, _, g, e, _⟩ => e.trans g.within) (fun S5 j d x5 σ' H5 H6 e5 hd5 h y => ?_) (fun S5 σ' H' e5 h => ?_))
    · obtain ⟨S6, u6, y6, g6, e56, pu6, rfl⟩ := h
      obtain ⟨S7, w7, p7⟩ := y S6 e56 g6.within
      obtain ⟨hji, rfl⟩ := rg_at hd5
      have hrj : (List.range (i + 1))[j]? = some j := List.getElem?_range hji
      have e7 : Ex S4 S7 := e5.trans (e56.trans w7.st)
      have g7 := g6.step w7
      obtain ⟨c1, c2⟩ := webIn_fold (bits := bits) (lp := lp) hin ((List.range (i + 1)).take j) st (fun v hv => by have := List.mem_range.mp (List.mem_of_mem_take hv); omega) b1
      have c3 : ((List.range (i + 1)).take j).length ≤ 5 := by rw [List.length_take, List.length_range]; omega
      have hstep := fold_take (f := webIn bits lp i) (s := st) hrj
      generalize hsu : ((List.range (i + 1)).take j).foldl (webIn bits lp i) st = su at g7 pu6 c1 c2 hstep
      have pu7 := Dpm pu6 w7.st
      refine vs_last (vs_if (vb_or (vb_ltN (vd_var 6 p7) (vd_var 5 (Dpm px e7))) fun _ => vb_val (vd_var 2 (Dpm p3 (e4.trans e7)))) w7.within (fun ht H8 e8 => ?_) fun hf H8 e8 => ?_)
      · have fin : ∀ (D : Ends) (q1 q2 q3 q4 q5 : Pos) (S9 H9 : Hp) (es : List (Nat × Nat)), Gw K S H l S9 H9 (es.map dE) → Ex S7 S9 → (∀ S10 u10 H10, Gw K S H l S10 H10 (es.map dE) → Ex S9 S10 → DD K S10 u10 (dI (su.2 + 1)) → D.nx [some v1, some v2, some v3, some (.ref l), some u10, some x, some x5] H10) →
            VS (cxB P w K mg base nWeb "_law_web" (defScope (topS 35)) f cdv A outer s H E) (.Assign [.Name "_law_place" q1] (.BinOp (.Name "_law_place" q2) .Add (.Constant (.int 1) 0 q3) q4) q5) D [some v1, some v2, some v3, some (.ref l), some u6, some x, some x5] H9 := by
          intro D q1 q2 q3 q4 q5 S9 H9 es g9 e79 k
          exact vs_set 4 (vdn_add (vd_var 4 (Dpm pu7 e79)) (vdn_int (n := 1))) g9.within (fun v10 S10 H10 w10 p10 => k S10 v10 H10 (g9.step w10) w10.st p10) scWeb.nd
        have h2 : (webIn bits lp i su j).2 = su.2 + 1 := by unfold webIn; rw [if_pos ht]
        refine vs_cons (vs_if (vb_and (vb_ltN (vd_var 4 pu7) (vd_lenR T.b_len (vd_var 1 (Dpm p2 (e4.trans e7))))) fun ht2 => vb_eqN (vd_ixR (vd_var 1 (Dpm p2 (e4.trans e7))) (vd_var 4 pu7) (of_decide_eq_true ht2)) (vdn_int (n := 1))) (w7.within.trans e8) (fun ht2 H9 e9 => ?_) fun hf2 H9 e9 => ?_)
        · refine vs_last (vs_appG (d := dE (j, i)) (g7.only (e8.trans e9)) (vv_var 3) (vd_tup (vda_cons (vd_var 6 p7) (vda_cons (vd_var 5 (Dpm px e7)) vda_nil)) (Nat.le_of_ble_eq_true rfl)) (by rw [List.length_map]; omega) fun S10 H10 g10 e10 => ?_)
          have h1 : (webIn bits lp i su j).1 = su.1 ++ [(j, i)] := by unfold webIn; rw [if_pos ht, if_pos ht2]
          refine vs_last (fin _ _ _ _ _ _ S10 H10 (su.1 ++ [(j, i)]) (by rw [List.map_append]; exact g10) e10 fun S11 u11 H11 g11 e11 p11 => ⟨S11, u11, _, ?_, e56.trans (w7.st.trans (e10.trans e11)), ?_, rfl⟩)
          · rw [hstep, h1]; exact g11
          · rw [hstep, h2]; exact p11
        · have h1 : (webIn bits lp i su j).1 = su.1 := by unfold webIn; rw [if_pos ht, if_neg (by rw [hf2]; decide)]
          refine vs_nil (vs_last (fin _ _ _ _ _ _ S7 H9 su.1 (g7.only (e8.trans e9)) (Ex.refl _) fun S11 u11 H11 g11 e11 p11 => ⟨S11, u11, _, ?_, e56.trans (w7.st.trans e11), ?_, rfl⟩))
          · rw [hstep, h1]; exact g11
          · rw [hstep, h2]; exact p11
      · refine vs_nil ⟨S7, u6, _, ?_, e56.trans w7.st, ?_, rfl⟩
        · rw [hstep]
          have : webIn bits lp i su j = su := by unfold webIn; rw [if_neg (by rw [hf]; decide)]
          rw [this]
          exact g7.only e8
        · rw [hstep]
          have : webIn bits lp i su j = su := by unfold webIn; rw [if_neg (by rw [hf]; decide)]
          rw [this]
          exact pu7
    · obtain ⟨S6, u6, y6, g6, e56, pu6, rfl⟩ := h
      rw [take_all (l := List.range (i + 1)) (n := ((List.range (i + 1)).map dI).length) (by simp)] at g6 pu6
      refine ⟨S6, u6, _, _, ?_, e23.trans (w4.st.trans (e5.trans e56)), ?_, rfl⟩
      · rw [fold_take hri, hst]; exact g6
      · rw [fold_take hri, hst]; exact pu6
  · obtain ⟨S3, u, y5, y6, g3, e23, pu, rfl⟩ := h
    rw [take_all (l := List.range n) (n := ((List.range n).map dI).length) (by simp)] at g3
    obtain ⟨S4, a4, e34, pl⟩ := g3.done
    have hok := webAll_ok (bits := bits) (lp := lp) hn
    exact vs_last (vs_ret (d := dW (webL n bits lp)) (vd_tup (vda_cons (vd_var 0 (Dpm p1 (w1.st.trans (e.trans (e23.trans e34))))) (vda_cons (vd_tupleOf T.b_tuple (vd_sortedE T.b_sorted (vd_var 3 pl) (small_of hn hok.1 (Nat.le_trans hok.2 (by decide)))) (.lst _)) vda_nil)) (Nat.le_of_ble_eq_true rfl)) a4.nw.within fun v' S' H' w' p' => q v' S' H' (a4.nw.trans w') p')
end
end K22
/-! K22, text 25: _law_shuffle, _law_renamed, _law_renames, _law_sum, _law_drawn_row -/
namespace K22
open PySem PySem.Spec PyProof.Rows L2 Evl
def shufS (st : List Nat × List Nat) (d : Nat) : List Nat × List Nat := (st.1.take (d % st.1.length) ++ st.1.drop (d % st.1.length + 1), st.2 ++ [st.1.getD (d % st.1.length) 0])
def shufR (ds : List Nat) : List Nat := (ds.foldl shufS (List.range ds.length, [])).2
theorem shufS_ok {n d : Nat} {st : List Nat × List Nat} (h0 : 0 < st.1.length) (h1 : ∀ x ∈ st.1, x < n) (h2 : ∀ x ∈ st.2, x < n) : (shufS st d).1.length + 1 = st.1.length ∧ (shufS st d).2.length = st.2.length + 1 ∧ (∀ x ∈ (shufS st d).1, x < n) ∧ ∀ x ∈ (shufS st d).2, x < n := by
  have hp : d % st.1.length < st.1.length := Nat.mod_lt _ h0
  refine ⟨?_, by simp [shufS], fun x hx => ?_, fun x hx => ?_⟩
  · unfold shufS
    simp only [List.length_append, List.length_take, List.length_drop]
    omega
  · rcases List.mem_append.mp hx with hx | hx
    · exact h1 x (List.mem_of_mem_take hx)
    · exact h1 x (List.mem_of_mem_drop hx)
  · rcases List.mem_append.mp hx with hx | hx
    · exact h2 x hx
    · rw [List.mem_singleton.mp hx]; exact h1 _ (getD_mem hp)
theorem shuf_fold {n : Nat} : ∀ (l : List Nat) (st : List Nat × List Nat), l.length ≤ st.1.length → (∀ x ∈ st.1, x < n) → (∀ x ∈ st.2, x < n) →
    (l.foldl shufS st).1.length + l.length = st.1.length ∧ (l.foldl shufS st).2.length = st.2.length + l.length ∧ (∀ x ∈ (l.foldl shufS st).1, x < n) ∧ ∀ x ∈ (l.foldl shufS st).2, x < n
  | [], st, _, h1, h2 => ⟨rfl, rfl, h1, h2⟩
  | d :: l, st, h0, h1, h2 => by
    rw [List.length_cons] at h0
    obtain ⟨a1, a2, a3, a4⟩ := shufS_ok (d := d) (by omega) h1 h2
    obtain ⟨b1, b2, b3, b4⟩ := shuf_fold l (shufS st d) (by omega) a3 a4
    rw [List.length_cons]
    exact ⟨by show (l.foldl shufS (shufS st d)).1.length + _ = _; omega, by show (l.foldl shufS (shufS st d)).2.length = _; omega, b3, b4⟩
theorem shufR_ok (ds : List Nat) : (shufR ds).length = ds.length ∧ ∀ x ∈ shufR ds, x < ds.length := by
  obtain ⟨_, b2, _, b4⟩ := shuf_fold (n := ds.length) ds (List.range ds.length, []) (by simp) (fun x hx => List.mem_range.mp hx) (fun x hx => by cases hx)
  exact ⟨by unfold shufR; rw [b2]; simp, b4⟩
section
variable {X : Cx} {a b e : Expr} {pos p : Pos} {σ : L2.St} {S : Hp} {r q : List Nat} {n m : Nat}
theorem vdL_upto {p2 : Pos} (ha : VD X a σ S (dL r)) (hb : VD X b σ S (dI n)) : VD X (.Subscript a (.Slice none (some b) none p2) pos) σ S (dL (r.take n)) := vd_is (vd_upto ha hb) (by unfold dL; rw [List.map_take])
theorem vdL_from {p2 : Pos} (ha : VD X a σ S (dL r)) (hb : VD X b σ S (dI n)) : VD X (.Subscript a (.Slice (some b) none none p2) pos) σ S (dL (r.drop n)) := vd_is (vd_from ha hb) (by unfold dL; rw [List.map_drop])
theorem vdL_cat (ha : VD X a σ S (dL r)) (hb : VD X b σ S (dL q)) (hz : r.length + q.length ≤ 100000) : VD X (.BinOp a .Add b pos) σ S (dL (r ++ q)) := vd_is (vd_cat ha hb (by rw [List.length_map, List.length_map]; exact hz)) (by unfold dL; rw [List.map_append])
theorem vdn_eq (ha : VD X a σ S (dI n)) (hb : VD X b σ S (dI m)) : VD X (.Compare a [.Eq] [b] pos) σ S (.bool (decide (n = m))) := vd_is (vd_eq ha hb) (by congr 1; rw [Bool.eq_iff_iff, decide_eq_true_eq, decide_eq_true_eq]; omega)
/-- an end of an edge -/
theorem vd_e0 {ed : Nat × Nat} {j : Nat} {p2 : Pos} (ha : VD X a σ S (dE ed)) : VD X (.Subscript a (.Constant (.int 0) j p2) pos) σ S (dI ed.1) := vd_ixT (n := 0) ha vd_int rfl rfl
theorem vd_e1 {ed : Nat × Nat} {j : Nat} {p2 : Pos} (ha : VD X a σ S (dE ed)) : VD X (.Subscript a (.Constant (.int 1) j p2) pos) σ S (dI ed.2) := vd_ixT (n := 1) ha vd_int rfl rfl
end
section
variable {P : Program} {w : World} {K : PySem.W.Frag} {mg : Str → Option Value} {base : Heap}
def prShuf : PTr := fun ds R => ∃ r : List Nat, ds = [dL r] ∧ r.length ≤ 1000 ∧ R (dL (shufR r))
abbrev nShuf : List Str := ["_law_draws_here", "_law_left", "_law_row", "_law_draw", "_law_place", "_law_k"]
theorem scShuf : FnScope nShuf ["_law_draws_here"] (defScope (topS 37)) := ⟨rfl, rfl, rfl, by decide +kernel, rfl, by decide +kernel, by decide +kernel⟩
theorem ok_shuf (T : Txt K mg) : Fn P w K mg base 1 "_law_shuffle" prShuf := by
  refine def_ok T.law_shuffle scShuf (fun ds R h => by obtain ⟨r, rfl, _⟩ := h; rfl) fun f cdv A outer s S H vs ds Q E hr hS hp h => ?_
  obtain ⟨r, rfl, hrl, q⟩ := h
  obtain ⟨v1, rfl, p1⟩ := da1 hp
  refine vs_cons (vs_lc0 1 (g := gName 5) (own := [("_law_k", 5)]) (pi_range1' T.b_range) (ew_range1 (vda_cons (vd_lenR T.b_len (vd_var 0 p1)) vda_nil) (by omega)) (by simp; omega) scShuf.nd rfl (fun i => dI i) (blkOk_by (N := nShuf) (sc := defScope (topS 37)) (by decide +kernel)) (fun _ _ _ _ _ => by exact pg_name scShuf.nd rfl (Or.inl rfl))
    (fun i d v Si H6 hd e6 hS6 pv => ?_) hS (fun v2 S1 H1 w1 p2 => ?_) (sw_true rfl rfl rfl (by decide +kernel)))
  · obtain ⟨_, rfl⟩ := rg_at hd
    exact ⟨_, fun Q q => q, wipe1 _ 5 v, fun s9 H9 C9 cl9 fp9 => vd_var 5 pv⟩
  rw [List.length_map, List.length_range] at p2
  have p2 : DD K S1 v2 (dL (List.range r.length)) := p2
  have a1 : At S H S1 H1 := ⟨w1⟩
  refine vs_cons (vs_newL 2 (fun l hl => ?_) scShuf.nd)
  have g0 : Gw K S H l S1 (upd H1 l (.lst [])) [] := Gw.start a1 hl
  refine vs_cons (vs_forN 3 (pi_list pe_ve) (ew_list (ds := r.map dI) (vd_var 0 (Dpm p1 w1.st))) g0.within scShuf.nd rfl
    (fun S2 i σ' H' => ∃ S3 u y3 y4, Gw K S H l S3 H' (((r.take i).foldl shufS (List.range r.length, [])).2.map dI) ∧ Ex S2 S3 ∧ DD K S3 u (dL ((r.take i).foldl shufS (List.range r.length, [])).1) ∧ σ' = [some v1, some u, some (.ref l), y3, y4, none])
    (fun S2 H2 w2 => ⟨S2, v2, none, none, g0.step w2, Ex.refl _, Dpm p2 w2.st, rfl⟩) (fun S2 i σ' H' ⟨_, _, _, _, g, e, _⟩ => e.trans g.within) (fun S2 i d x σ' H' H'' e hd h y => ?_) (fun S2 σ' H' e h => ?_))
  · obtain ⟨S3, u, y3, y4, g3, e23, pu, rfl⟩ := h
    obtain ⟨S4, w4, px⟩ := y S3 e23 g3.within
    obtain ⟨d, hdr, rfl⟩ := get_map hd
    have hi : i < r.length := (List.getElem?_eq_some_iff.mp hdr).1
    have g4 := g3.step w4
    have hst := fold_take (f := shufS) (s := (List.range r.length, [])) hdr
    obtain ⟨b1, b2, _, _⟩ := shuf_fold (n := r.length) (r.take i) (List.range r.length, []) (by rw [List.length_take, List.length_range]; omega) (fun x hx => List.mem_range.mp hx) (fun x hx => by cases hx)
    have htl : (r.take i).length = i := by rw [List.length_take]; omega
    rw [htl, List.length_range] at b1
    rw [htl] at b2
    have b2 : ((r.take i).foldl shufS (List.range r.length, [])).2.length = 0 + i := b2
    generalize (r.take i).foldl shufS (List.range r.length, []) = st at g4 pu b1 b2 hst
    have hm : d % st.1.length < st.1.length := Nat.mod_lt _ (by omega)
    refine vs_cons (vs_set 4 (vdn_mod (vd_intOf T.b_int (vd_var 3 px)) (vd_lenR T.b_len (vd_var 1 (Dpm pu w4.st))) (by omega)) g4.within (fun v5 S5 H5 w5 p5 => ?_) scShuf.nd)
    have g5 := g4.step w5
    have pu5 := Dpm pu (w4.st.trans w5.st)
    refine vs_cons (vs_appG (d := dI (st.1.getD (d % st.1.length) 0)) g5 (vv_var 2) (vd_ixR (vd_var 1 pu5) (vd_var 4 p5) hm) (by rw [List.length_map]; omega) fun S6 H6 g6 e6 => ?_)
    refine vs_last (vs_set 1 (vdL_cat (vdL_upto (vd_var 1 (Dpm pu5 e6)) (vd_var 4 (Dpm p5 e6))) (vdL_from (vd_var 1 (Dpm pu5 e6)) (vdn_add (vd_var 4 (Dpm p5 e6)) (vdn_int (n := 1)))) (by rw [List.length_take, List.length_drop]; omega)) g6.within (fun v7 S7 H7 w7 p7 => ⟨S7, v7, _, _, ?_, e23.trans (w4.st.trans (w5.st.trans (e6.trans w7.st))), ?_, rfl⟩) scShuf.nd)
    · rw [hst]
      have g7 := g6.step w7
      unfold shufS
      rw [List.map_append]
      exact g7
    · rw [hst]; exact p7
  · obtain ⟨S3, u, y3, y4, g3, e23, pu, rfl⟩ := h
    rw [List.length_map, List.take_length] at g3
    obtain ⟨S4, a4, e34, pl⟩ := g3.done
    exact vs_last (vs_ret (vd_var 2 pl) a4.nw.within fun v' S' H' w' p' => q v' S' H' (a4.nw.trans w') p')
/-! ### _law_drawn_row -/
def drawnR (ns : List Int) (i n k : Nat) : List Nat := shufR ((drawsN ns i (n + k) 2520).drop k)
theorem drawnR_ok (ns : List Int) (i n k : Nat) : (drawnR ns i n k).length = n ∧ ∀ x ∈ drawnR ns i n k, x < n := by
  obtain ⟨h1, h2⟩ := shufR_ok ((drawsN ns i (n + k) 2520).drop k)
  rw [List.length_drop, draws_len, Nat.add_sub_cancel] at h1 h2
  exact ⟨h1, h2⟩
def prDRow : PTS := fun ns ds R => ∃ i n k : Nat, ds = [dI i, dI n, dI k] ∧ n + k ≤ 1000 ∧ R (dL (drawnR ns i n k))
theorem scDRow : FnScope ["_law_script", "_law_place", "_law_size", "_law_skip"] ["_law_script", "_law_place", "_law_size", "_law_skip"] (defScope (topS 41)) := ⟨rfl, rfl, rfl, by decide +kernel, rfl, by decide +kernel, by decide +kernel⟩
theorem ok_drow (T : Txt K mg) : FnS P w K mg base 3 "_law_drawn_row" prDRow := by
  have GD : FnS P w K mg base 2 "_law_draws" prDraws := ok_draws T
  have GS : Fn P w K mg base 2 "_law_shuffle" prShuf := (ok_shuf T).mono (by decide)
  refine okS_def T.law_drawn_row scDRow (fun ns ds R h => by obtain ⟨i, n, k, rfl, _⟩ := h; rfl) fun f cdv A outer s S H a ns vs ds Q E hr hS hs hp h => ?_
  obtain ⟨i, n, k, rfl, hb, q⟩ := h
  obtain ⟨v1, v2, v3, rfl, p1, p2, p3⟩ := da3 hp
  exact vs_last (vs_ret (vd_call GS hr (vda_cons (vdL_from (vd_callS GD hr (vv_var 0) hs (vda_cons (vd_var 1 p1) (vda_cons (vdn_add (vd_var 2 p2) (vd_var 3 p3)) (vda_cons (vdn_int (n := 2520)) vda_nil))) fun R h => ⟨i, n + k, 2520, rfl, hb, by decide, by decide, h⟩) (vd_var 3 p3)) vda_nil) fun R h => ⟨_, rfl, by rw [List.length_drop, draws_len]; omega, h⟩) hS fun v' S' H' w' p' => q v' S' H' w' p')
end
end K22
/-! K22, text 26: _law_renamed -/
namespace K22
open PySem PySem.Spec PyProof.Rows L2 Evl
section
variable {P : Program} {w : World} {K : PySem.W.Frag} {mg : Str → Option Value} {base : Heap}
/-! ### _law_renamed, _law_renames -/
def renW (W : Web) (r : List Nat) : Web := (W.1, sortE (imgE r W.2))
def prRenamed : PTr := fun ds R => ∃ (W : Web) (r : List Nat) (d : PyData), ds = [dW W, d] ∧ Items d (r.map dI) ∧ WOk W ∧ r.length = W.1 ∧ (∀ x ∈ r, x < W.1) ∧ R (dW (renW W r))
theorem img_lt {W : Web} {r : List Nat} (hW : WOk W) (hl : r.length = W.1) (hx : ∀ x ∈ r, x < W.1) : ∀ e ∈ imgE r W.2, e.1 < W.1 ∧ e.2 < W.1 := fun e he => by
  obtain ⟨e', he', rfl⟩ := List.mem_map.mp he
  have hb := hW.lt e' he'
  have h1 := hx _ (getD_mem (i := e'.1) (d := 0) (by rw [hl]; exact hb.1))
  have h2 := hx _ (getD_mem (i := e'.2) (d := 0) (by rw [hl]; exact hb.2))
  unfold mkE
  simp only
  omega
theorem img_len {W : Web} {r : List Nat} (hW : WOk W) : (imgE r W.2).length ≤ 40 := by unfold imgE; rw [List.length_map]; exact hW.few
theorem renW_ok {W : Web} {r : List Nat} (hW : WOk W) (hl : r.length = W.1) (hx : ∀ x ∈ r, x < W.1) : WOk (renW W r) := webOk_of hW.n (img_lt hW hl hx) (img_len hW)
abbrev nRen : List Str := ["_law_web_here", "_law_row", "_law_edges", "_law_edge", "_law_u", "_law_v"]
theorem scRen : FnScope nRen ["_law_web_here", "_law_row"] (defScope (topS 38)) := ⟨rfl, rfl, rfl, by decide +kernel, rfl, by decide +kernel, by decide +kernel⟩
theorem ok_ren (T : Txt K mg) : Fn P w K mg base 1 "_law_renamed" prRenamed := by
  refine def_ok T.law_renamed scRen (fun ds R h => by obtain ⟨W, r, d, rfl, _⟩ := h; rfl) fun f cdv A outer s S H vs ds Q E hr hS hp h => ?_
  obtain ⟨W, r, d, rfl, hit, hW, hrl, hx, q⟩ := h
  obtain ⟨v1, v2, rfl, p1, p2⟩ := da2 hp
  refine vs_cons (vs_newL 2 (fun l hl => ?_) scRen.nd)
  have g0 : Gw K S H l S (upd H l (.lst [])) [] := Gw.start (At.refl hS) hl
  refine vs_cons (vs_forN 3 (pi_tup pe_ve) (ew_tup (ds := W.2.map dE) (vd_web1 (vd_var 0 p1))) g0.within scRen.nd rfl
    (fun S2 i σ' H' => ∃ S3 y3 y4 y5, Gw K S H l S3 H' ((imgE r (W.2.take i)).map dE) ∧ Ex S2 S3 ∧ σ' = [some v1, some v2, some (.ref l), y3, y4, y5])
    (fun S2 H2 w2 => ⟨S2, none, none, none, g0.step w2, Ex.refl _, rfl⟩) (fun S2 i σ' H' ⟨_, _, _, _, g, e, _⟩ => e.trans g.within) (fun S2 i d x σ' H' H'' e hd h y => ?_) (fun S2 σ' H' e h => ?_))
  · obtain ⟨S3, y3, y4, y5, g3, e23, rfl⟩ := h
    obtain ⟨S4, w4, px⟩ := y S3 e23 g3.within
    obtain ⟨ed, hed, rfl⟩ := get_map hd
    have hb := hW.lt ed (List.mem_of_getElem? hed)
    have g4 := g3.step w4
    have e4 : Ex S S4 := e.trans (e23.trans w4.st)
    refine vs_cons (vs_set 4 (vd_ixS (vd_var 1 (Dpm p2 e4)) hit (vd_e0 (vd_var 3 px)) (by rw [hrl]; exact hb.1)) g4.within (fun v5 S5 H5 w5 p5 => ?_) scRen.nd)
    have g5 := g4.step w5
    refine vs_cons (vs_set 5 (vd_ixS (vd_var 1 (Dpm p2 (e4.trans w5.st))) hit (vd_e1 (vd_var 3 (Dpm px w5.st))) (by rw [hrl]; exact hb.2)) g5.within (fun v6 S6 H6 w6 p6 => ?_) scRen.nd)
    have g6 := g5.step w6
    refine vs_last (vs_appG (d := dE (mkE (r.getD ed.1 0) (r.getD ed.2 0))) g6 (vv_var 2) (vd_tup (vda_cons (vd_min rfl T.b_min (vd_var 4 (Dpm p5 w6.st)) (vd_var 5 p6)) (vda_cons (vd_max rfl T.b_max (vd_var 4 (Dpm p5 w6.st)) (vd_var 5 p6)) vda_nil)) (Nat.le_of_ble_eq_true rfl)) ?_ fun S7 H7 g7 e7 => ⟨S7, _, _, _, ?_, e23.trans (w4.st.trans (w5.st.trans (w6.st.trans e7))), rfl⟩)
    · unfold imgE
      rw [List.length_map, List.length_map, List.length_take]
      have := hW.few
      omega
    · have ee : (imgE r (W.2.take (i + 1))).map dE = (imgE r (W.2.take i)).map dE ++ [dE (mkE (r.getD ed.1 0) (r.getD ed.2 0))] := by
        rw [take_snoc hed]
        unfold imgE
        rw [List.map_append, List.map_append]
        rfl
      rw [ee]
      exact g7
  · obtain ⟨S3, y3, y4, y5, g3, e23, rfl⟩ := h
    rw [List.length_map, List.take_length] at g3
    obtain ⟨S4, a4, e34, pl⟩ := g3.done
    exact vs_last (vs_ret (d := dW (renW W r)) (vd_tup (vda_cons (vd_web0 (W := W) (vd_var 0 (Dpm p1 (e.trans (e23.trans e34))))) (vda_cons (vd_tupleOf T.b_tuple (vd_sortedE T.b_sorted (vd_var 2 pl) (small_of hW.n (img_lt hW hrl hx) (img_len hW))) (.lst _)) vda_nil)) (Nat.le_of_ble_eq_true rfl)) a4.nw.within fun v' S' H' w' p' => q v' S' H' (a4.nw.trans w') p')
end
end K22
/-! K22, text 27: _law_renames -/
namespace K22
open PySem PySem.Spec PyProof.Rows L2 Evl
section
variable {P : Program} {w : World} {K : PySem.W.Frag} {mg : Str → Option Value} {base : Heap}
def prRenames : PTr := fun ds R => ∃ (A B : Web) (r : List Nat), ds = [dW A, dW B, dT r] ∧ WOk A ∧ WOk B ∧ A.1 = B.1 ∧ Canon A ∧ Canon B ∧ IsRen A.1 (adjW A) (adjW B) r ∧ R (.bool true)
theorem sortN_range {r : List Nat} {n : Nat} (h : r.Perm (List.range n)) : sortN r = List.range n := (sortN_unique h.symm ((range_lt n).imp fun {a b} hab => Nat.le_of_lt hab)).symm
theorem renW_eq {A B : Web} {r : List Nat} (hA : WOk A) (hB : WOk B) (e : A.1 = B.1) (cA : Canon A) (cB : Canon B) (h : IsRen A.1 (adjW A) (adjW B) r) : renW A r = B := by
  have hp := ren_img (adjW_sym B) h
  rw [← cA, e] at hp
  rw [← cB] at hp
  have hs : sortE (imgE r A.2) = B.2 := sortE_of_perm (fun e' he => by
    have := hB.lt e' (hp.mem_iff.mp he)
    have := hB.n
    omega) hp (by rw [cB]; exact canonE_sorted _ _)
  unfold renW
  rw [hs, e]
abbrev nRens : List Str := ["_law_a", "_law_b", "_law_row", "_law_number", "_law_k"]
theorem scRens : FnScope nRens ["_law_a", "_law_b", "_law_row"] (defScope (topS 39)) := ⟨rfl, rfl, rfl, by decide +kernel, rfl, by decide +kernel, by decide +kernel⟩
theorem ok_rens (T : Txt K mg) : Fn P w K mg base 2 "_law_renames" prRenames := by
  have GR : Fn P w K mg base 1 "_law_renamed" prRenamed := ok_ren T
  have GI : Fn P w K mg base 1 "_law_is_integer" prIsInt := ok_isint T
  have bT : bootBuiltins "tuple" = some (.type "tuple") := by decide +kernel
  refine def_ok T.law_renames scRens (fun ds R h => by obtain ⟨A, B, r, rfl, _⟩ := h; rfl) fun f cdv A outer s S H vs ds Q E hr hS hp h => ?_
  obtain ⟨WA, WB, r, rfl, hA, hB, hAB, cA, cB, hren, q⟩ := h
  obtain ⟨v1, v2, v3, rfl, p1, p2, p3⟩ := da3 hp
  have hAn := hA.n
  have hrl := hren.len
  have kt : kitB (tyD (dT r)) "tuple" = some true := rfl
  refine vs_cons (vs_if (vb_is (vb_or (vb_not (vb_val (vd_isi T.b_isinstance T.b_tuple bT (vd_var 2 p3) kt))) fun _ => vb_neN (vd_lenTR T.b_len (vd_var 2 p3)) (vd_web0 (vd_var 0 p1))) (u := false) (by rw [hrl]; simp)) hS (fun ht H1 e1 => nomatch ht) fun hf H1 e1 => vs_nil ?_)
  have a1 : At S H S H1 := (At.refl hS).only e1
  refine vs_cons (vs_forN 3 (pi_tup pe_ve) (ew_tup (ds := r.map dI) (vd_var 2 p3)) a1.nw.within scRens.nd rfl
    (fun S2 i σ' H' => ∃ y3, At S H S2 H' ∧ σ' = [some v1, some v2, some v3, y3, none]) (fun S2 H2 w2 => ⟨none, a1.step w2, rfl⟩) (fun S2 i σ' H' ⟨_, a, _⟩ => a.nw.within) (fun S2 i d x σ' H' H'' e hd h y => ?_) (fun S2 σ' H' e h => ?_))
  · obtain ⟨y3, a2, rfl⟩ := h
    obtain ⟨S3, w3, px⟩ := y S2 (Ex.refl _) a2.nw.within
    obtain ⟨m, hm, rfl⟩ := get_map hd
    refine vs_last (vs_if (vb_not (vb_val (t := true) (vd_call GI hr (vda_cons (vd_var 3 px) vda_nil) fun R h => ⟨m, rfl, h⟩))) w3.within (fun ht H1 e1 => nomatch ht) fun hf H4 e4 => ?_)
    exact vs_nil ⟨_, a2.only (w3.hp.trans e4), rfl⟩
  · obtain ⟨y3, a2, rfl⟩ := h
    have er : DDA K S2 [] [] := .nil
    refine vs_cons (vs_if (t := false) (vb_neD (d := dL (sortN r)) (d2 := dL (List.range WA.1)) (t := true) hr.units (vd_sortedT T.b_sorted (vd_var 2 (Dpm p3 e)) (by omega)) (vd_is (vd_lc0 (g := gName 4) (own := [("_law_k", 4)]) (pi_range1' T.b_range) (ew_range1 (vda_cons (vd_web0 (vd_var 0 (Dpm p1 e))) vda_nil) (by omega)) (by simp; omega) scRens.nd rfl (fun i => dI i) (blkOk_by (N := nRens) (sc := defScope (topS 39)) (by decide +kernel)) (fun _ _ _ _ _ => by exact pg_name scRens.nd rfl (Or.inl rfl)) (fun i d v Si H6 hd e6 hS6 pv => ?_)) (by rw [List.length_map, List.length_range]; rfl)) (sh_L _) (sh_L _) ?_) a2.nw.within (fun ht H1 e1 => nomatch ht) fun hf H3 e3 => vs_nil ?_)
    · obtain ⟨_, rfl⟩ := rg_at hd
      exact ⟨_, fun Q q => q, wipe1 _ 4 v, fun s9 H9 C9 cl9 fp9 => vd_var 4 pv⟩
    · rw [eqv_L, sortN_range hren.perm]
      exact decide_eq_true rfl
    · refine vs_last (vs_ret (vd_eqD (d := dW (renW WA r)) (d2 := dW WB) (t := true) hr.units (vd_call GR hr (vda_cons (vd_var 0 (Dpm p1 e)) (vda_cons (vd_var 2 (Dpm p3 e)) vda_nil)) fun R h => ⟨WA, r, dT r, rfl, .tup _, hA, hrl, hren.lt, h⟩) (vd_var 1 (Dpm p2 e)) (sh_W _) (sh_W _) ?_) (a2.nw.within.trans e3) fun v' S' H' w' p' => q v' S' H' ((a2.only e3).nw.trans w') p')
      rw [eqv_W, renW_eq hA hB hAB cA cB hren]
      exact decide_eq_true rfl
end
end K22
/-! K22, text 28: _law_sum -/
namespace K22
open PySem PySem.Spec PyProof.Rows L2 Evl
section
variable {P : Program} {w : World} {K : PySem.W.Frag} {mg : Str → Option Value} {base : Heap}
/-! ### _law_sum -/
def sumW (A B : Web) : Web := (A.1 + B.1, A.2 ++ B.2.map fun e => (e.1 + A.1, e.2 + A.1))
theorem sumW_ok {A B : Web} (hA : WOk A) (hB : WOk B) (hn : A.1 + B.1 ≤ 5) (hl : A.2.length + B.2.length ≤ 40) : WOk (sumW A B) := ⟨hn, fun e he => by
  show e.1 < A.1 + B.1 ∧ e.2 < A.1 + B.1
  rcases List.mem_append.mp he with he | he
  · have := hA.lt e he; omega
  · obtain ⟨e', he', rfl⟩ := List.mem_map.mp he
    have := hB.lt e' he'
    simp only
    omega, by unfold sumW; rw [List.length_append, List.length_map]; exact hl⟩
def prSum : PTr := fun ds R => ∃ A B : Web, ds = [dW A, dW B] ∧ WOk A ∧ WOk B ∧ R (dW (sumW A B))
abbrev nSum : List Str := ["_law_a", "_law_b", "_law_edge"]
theorem scSum : FnScope nSum ["_law_a", "_law_b"] (defScope (topS 40)) := ⟨rfl, rfl, rfl, by decide +kernel, rfl, by decide +kernel, by decide +kernel⟩
theorem ok_sum (T : Txt K mg) : Fn P w K mg base 1 "_law_sum" prSum := by
  refine def_ok T.law_sum scSum (fun ds R h => by obtain ⟨A, B, rfl, _⟩ := h; rfl) fun f cdv A outer s S H vs ds Q E hr hS hp h => ?_
  obtain ⟨WA, WB, rfl, hA, hB, q⟩ := h
  obtain ⟨v1, v2, rfl, p1, p2⟩ := da2 hp
  have hAf := hA.few
  have hBf := hB.few
  refine vs_last (vs_ret (d := dW (sumW WA WB)) (vd_tup (vda_cons (vdn_add (vd_web0 (W := WA) (vd_var 0 p1)) (vd_web0 (W := WB) (vd_var 1 p2))) (vda_cons (vd_is (vd_catT (vd_web1 (vd_var 0 p1)) (vd_tupleOf T.b_tuple (vd_lc0 (g := gName 2) (own := [("_law_edge", 2)]) (pi_tup pe_ve) (ew_tup (ds := WB.2.map dE) (vd_web1 (vd_var 1 p2))) (by rw [List.length_map]; omega) scSum.nd rfl (fun i => dE ((WB.2.getD i (0, 0)).1 + WA.1, (WB.2.getD i (0, 0)).2 + WA.1)) (blkOk_by (N := nSum) (sc := defScope (topS 40)) (by decide +kernel)) (fun _ _ _ _ _ => by exact pg_name scSum.nd rfl (Or.inl rfl)) (fun i d v Si H6 hd e6 hS6 pv => ?_)) (.lst _)) ?_) ?_) vda_nil)) (Nat.le_of_ble_eq_true rfl)) hS fun v' S' H' w' p' => q v' S' H' w' p')
  · obtain ⟨ed, hed, rfl⟩ := get_map hd
    rw [getD_some hed]
    exact ⟨_, fun Q q => q, wipe1 _ 2 v, fun s9 H9 C9 cl9 fp9 => vd_tup (vda_cons (vdn_add (vd_e0 (vd_var 2 pv)) (vd_web0 (vd_var 0 (Dpm p1 e6)))) (vda_cons (vdn_add (vd_e1 (vd_var 2 pv)) (vd_web0 (vd_var 0 (Dpm p1 e6)))) vda_nil)) (Nat.le_of_ble_eq_true rfl)⟩
  · rw [List.length_map, List.length_map, List.length_map, List.length_range]
    omega
  · rw [List.length_map, map_get WB.2 (fun e => dE (e.1 + WA.1, e.2 + WA.1)) (0, 0)]
    show PyData.tuple _ = dEs (WA.2 ++ WB.2.map fun e => (e.1 + WA.1, e.2 + WA.1))
    unfold dEs
    rw [List.map_append, List.map_map]
    rfl
end
end K22
/-! K22, text 29: _law_turned, _law_image, _law_drawn -/
namespace K22
open PySem PySem.Spec PyProof.Rows L2 Evl
theorem fm_if (n : Nat) (t : Nat → Bool) (f : Nat → PyData) : (List.range n).filterMap (fun i => if t i = true then some (f i) else none) = ((List.range n).filter t).map f := by
  rw [← List.filterMap_eq_filter, List.map_filterMap]
  congr 1
  funext i
  by_cases h : t i = true <;> simp [h, Option.guard]
/-- a comprehension whose list stays ours -/
theorem lc_ours {K : PySem.W.Frag} {wi : TI} {g : TG} {tt : TT} {te : TE} {vs : List Nat} {σ : L2.St} {S : Hp} {ds : List PyData} (hw : EW K wi σ S ds) (out : Nat → Option PyData) (hz : ds.length ≤ 40000)
    (hs : ∀ i d x Si H', ds[i]? = some d → Ex S Si → Ex Si H' → DD K Si x d → ∃ σ2, (∀ Q : L2.St → Hp → Prop, Q σ2 H' → g x (wipe σ vs) H' Q) ∧ wipe σ2 vs = wipe σ vs ∧ EvT tt σ2 Si (out i).isSome ∧ ∀ e, out i = some e → ED K te σ2 Si e)
    {S0 H0 H : Hp} (a0 : At S0 H0 S H) {Q : VK} (k : ∀ l S' H', Gw K S0 H0 l S' H' ((List.range ds.length).filterMap out) → Ex S S' → Q (.ref l) H') : tLc wi g tt te vs σ H Q := hw H a0.nw.within _ fun J G Y S1 H1 w1 w hG hY => fun D hD => by
  have hlen : ∀ i, ((List.range i).filterMap out).length ≤ i := fun i => by
    have := List.length_filterMap_le out (List.range i)
    rwa [List.length_range] at this
  refine lc_it w (fun i H' => ∃ Si, Gw K S0 H0 D Si H' ((List.range i).filterMap out) ∧ Ex S1 Si) ⟨S1, Gw.start (a0.step w1) hD, Ex.refl _⟩ (fun i H' _ ⟨Si, gw, e⟩ => hG H' (e.trans gw.within)) (fun i x H2 H3 hi ⟨Si, gw, e⟩ y => ?_) fun H' ⟨Si, gw, e⟩ => k D Si H' gw (w1.st.trans e)
  obtain ⟨Sj, w3, p3⟩ := hY i ds[i] H2 x H3 Si (List.getElem?_eq_getElem hi) e gw.within y
  obtain ⟨σ2, gq, hwp, ht, he⟩ := hs i ds[i] x Sj H3 (List.getElem?_eq_getElem hi) (w1.st.trans (e.trans w3.st)) w3.within p3
  have g3 := gw.step w3
  refine gq _ ⟨hwp, ht H3 w3.within _ fun H4 e4 => ?_⟩
  have g4 := g3.only e4
  cases ho : out i with
  | none =>
    refine iteF ⟨Sj, ?_, e.trans w3.st⟩
    rw [fm_snoc, ho, List.append_nil]
    exact g4
  | some e' =>
    obtain ⟨acc, h1, h2⟩ := g4.ex
    refine iteT (he e' ho H4 g4.within _ fun v S5 H5 w5 p5 => ⟨acc, w5.hp D _ h1, ?_, S5, ?_, e.trans (w3.st.trans w5.st)⟩)
    · have h3 := da_len h2
      have h4 := hlen i
      exact sz_lt (by omega)
    · rw [fm_snoc, ho]
      exact g4.push h1 w5 p5
section
variable {P : Program} {w : World} {K : PySem.W.Frag} {mg : Str → Option Value} {base : Heap}
/-! ### _law_turned -/
def turnE (es : List (Nat × Nat)) (e : Nat × Nat) : List (Nat × Nat) := if (es.filter fun x => !decide (x = e)).length = es.length then (es.filter fun x => !decide (x = e)) ++ [e] else es.filter fun x => !decide (x = e)
def turnW (W : Web) (a b : Nat) : Web := (W.1, sortE (turnE W.2 (mkE a b)))
theorem turn_ok {W : Web} {a b : Nat} (hW : WOk W) (ha : a < W.1) (hb : b < W.1) (hl : W.2.length ≤ 39) : (∀ e ∈ turnE W.2 (mkE a b), e.1 < W.1 ∧ e.2 < W.1) ∧ (turnE W.2 (mkE a b)).length ≤ 40 := by
  have hf : ∀ e ∈ W.2.filter (fun x => !decide (x = mkE a b)), e.1 < W.1 ∧ e.2 < W.1 := fun e he => hW.lt e (List.mem_filter.mp he).1
  have hfl := List.length_filter_le (fun x => !decide (x = mkE a b)) W.2
  unfold turnE
  split
  · refine ⟨fun e he => ?_, by rw [List.length_append, List.length_singleton]; omega⟩
    rcases List.mem_append.mp he with he | he
    · exact hf e he
    · rw [List.mem_singleton.mp he]
      unfold mkE
      simp only
      omega
  · exact ⟨hf, by omega⟩
theorem turnW_ok {W : Web} {a b : Nat} (hW : WOk W) (ha : a < W.1) (hb : b < W.1) (hl : W.2.length ≤ 39) : WOk (turnW W a b) := webOk_of hW.n (turn_ok hW ha hb hl).1 (turn_ok hW ha hb hl).2
def prTurned : PTr := fun ds R => ∃ (W : Web) (a b : Nat), ds = [dW W, dI a, dI b] ∧ WOk W ∧ W.2.length ≤ 39 ∧ a < W.1 ∧ b < W.1 ∧ R (dW (turnW W a b))
abbrev nTurn : List Str := ["_law_web_here", "_law_first", "_law_second", "_law_edge", "_law_edges", "_law_other"]
theorem scTurn : FnScope nTurn ["_law_web_here", "_law_first", "_law_second"] (defScope (topS 46)) := ⟨rfl, rfl, rfl, by decide +kernel, rfl, by decide +kernel, by decide +kernel⟩
theorem ok_turned (T : Txt K mg) : Fn P w K mg base 1 "_law_turned" prTurned := by
  refine def_ok T.law_turned scTurn (fun ds R h => by obtain ⟨W, a, b, rfl, _⟩ := h; rfl) fun f cdv A outer s S H vs ds Q E hr hS hp h => ?_
  obtain ⟨W, a, b, rfl, hW, h39, ha, hb, q⟩ := h
  obtain ⟨v1, v2, v3, rfl, p1, p2, p3⟩ := da3 hp
  refine vs_cons (vs_set 3 (d := dE (mkE a b)) (vd_tup (vda_cons (vd_min rfl T.b_min (vd_var 1 p2) (vd_var 2 p3)) (vda_cons (vd_max rfl T.b_max (vd_var 1 p2) (vd_var 2 p3)) vda_nil)) (Nat.le_of_ble_eq_true rfl)) hS (fun v4 S1 H1 w1 p4 => ?_) scTurn.nd)
  have a1 : At S H S1 H1 := ⟨w1⟩
  have hfe : ((List.range (W.2.map dE).length).filterMap fun i => if (!decide (W.2.getD i (0, 0) = mkE a b)) = true then some (dE (W.2.getD i (0, 0))) else none) = (W.2.filter fun x => !decide (x = mkE a b)).map dE := by
    rw [List.length_map, ← map_filter_get W.2 (fun x => !decide (x = mkE a b)) dE (0, 0)]
    exact fm_if W.2.length (fun i => !decide (W.2.getD i (0, 0) = mkE a b)) fun i => dE (W.2.getD i (0, 0))
  refine vs_cons (vs_of (ps_setLc (i := 4) (own := [("_law_other", 5)]) (g := gName 5) (tt := VTb _ _ _) (te := VEb _ _ _) rfl scTurn.nd rfl rfl (sw_true rfl rfl rfl (by decide +kernel)) (pi_tup pe_ve) (blkOk_by (N := nTurn) (sc := defScope (topS 46)) (by decide +kernel)) (fun _ _ _ _ _ => by exact pg_name scTurn.nd rfl (Or.inl rfl)) (fun s H C cl fp => pts_one (ptb s H C cl fp)) (fun s H C cl fp => peb s H C cl fp)) ?_)
  refine lc_ours (ds := W.2.map dE) (ew_tup (vd_web1 (vd_var 0 (Dpm p1 w1.st)))) (fun i => if (!decide (W.2.getD i (0, 0) = mkE a b)) = true then some (dE (W.2.getD i (0, 0))) else none) (by rw [List.length_map]; omega) (fun i d x Si H6 hd e6 hS6 px => ?_) a1 fun l S2 H2 g2 e2 => ?_
  · obtain ⟨ed, hed, rfl⟩ := get_map hd
    rw [getD_some hed]
    refine ⟨_, fun Q q => q, wipe1 _ 5 x, ?_, fun e he => ?_⟩
    · have es : (if (!decide (ed = mkE a b)) = true then some (dE ed) else none).isSome = !decide (ed = mkE a b) := by cases (!decide (ed = mkE a b)) <;> rfl
      rw [es]
      exact etb fun s9 H9 C9 cl9 fp9 => vb_neD hr.units (vd_var 5 px) (vd_var 3 (Dpm p4 e6)) (sh_E _) (sh_E _) (eqv_E _ _)
    · split at he
      · cases he
        exact edb fun s9 H9 C9 cl9 fp9 => vd_var 5 px
      · cases he
  · rw [hfe] at g2
    have e2' : Ex S S2 := w1.st.trans e2
    obtain ⟨Sf, ef, hf, pl⟩ := g2.look
    have fin : ∀ {S3 H3 : Hp}, Gw K S H l S3 H3 ((turnE W.2 (mkE a b)).map dE) → Ex S S3 → VSs (cxB P w K mg base nTurn "_law_turned" (defScope (topS 46)) f cdv A outer s H E) ((defBody (topS 46)).drop 3) { nx := fun _ H' => Q .non H', rt := Q } [some v1, some v2, some v3, some v4, some (.ref l), none] H3 := by
      intro S3 H3 g3 e3
      obtain ⟨S4, a4, e34, pl⟩ := g3.done
      have hok := turn_ok hW ha hb h39
      exact vs_last (vs_ret (d := dW (turnW W a b)) (vd_tup (vda_cons (vd_web0 (W := W) (vd_var 0 (Dpm p1 (e3.trans e34)))) (vda_cons (vd_tupleOf T.b_tuple (vd_sortedE T.b_sorted (vd_var 4 pl) (small_of hW.n hok.1 hok.2)) (.lst _)) vda_nil)) (Nat.le_of_ble_eq_true rfl)) a4.nw.within fun v' S' H' w' p' => q v' S' H' (a4.nw.trans w') p')
    have hfl := List.length_filter_le (fun x => !decide (x = mkE a b)) W.2
    refine vs_cons (vs_if (vb_eqN (vd_lenI T.b_len (vd_var 4 pl) (.lst _)) (vd_lenI T.b_len (vd_web1 (vd_var 0 (Dpm p1 (e2'.trans ef)))) (.tup _))) hf (fun ht H3 e3 => ?_) fun hff H3 e3 => ?_)
    · have hc := of_decide_eq_true ht
      rw [List.length_map, List.length_map] at hc
      refine vs_last (vs_appG (d := dE (mkE a b)) (g2.only e3) (vv_var 4) (vd_var 3 (Dpm p4 e2)) (by rw [List.length_map]; omega) fun S4 H4 g4 e4 => fin ?_ (e2'.trans e4))
      unfold turnE
      rw [if_pos hc, List.map_append]
      exact g4
    · have hc := of_decide_eq_false hff
      rw [List.length_map, List.length_map] at hc
      refine vs_nil (fin (S3 := S2) ?_ e2')
      unfold turnE
      rw [if_neg hc]
      exact g2.only e3
end
end K22
/-! K22, text 30: _law_image -/
namespace K22
open PySem PySem.Spec PyProof.Rows L2 Evl
section
variable {P : Program} {w : World} {K : PySem.W.Frag} {mg : Str → Option Value} {base : Heap}
/-! ### _law_image -/
def imgS (r : List Nat) (acc : List (Nat × Nat)) (e : Nat × Nat) : List (Nat × Nat) := if mkE (r.getD e.1 0) (r.getD e.2 0) ∈ acc then acc else acc ++ [mkE (r.getD e.1 0) (r.getD e.2 0)]
def imageW (W : Web) (r : List Nat) (n : Nat) : Web := (n, sortE (W.2.foldl (imgS r) []))
theorem imgS_fold {r : List Nat} {m n : Nat} (hl : r.length = m) (hx : ∀ x ∈ r, x < n) : ∀ (l acc : List (Nat × Nat)), (∀ e ∈ l, e.1 < m ∧ e.2 < m) → (∀ e ∈ acc, e.1 < n ∧ e.2 < n) → (∀ e ∈ l.foldl (imgS r) acc, e.1 < n ∧ e.2 < n) ∧ (l.foldl (imgS r) acc).length ≤ acc.length + l.length
  | [], acc, _, h => ⟨h, Nat.le_refl _⟩
  | e :: l, acc, hb, h => by
    have he := hb e List.mem_cons_self
    have h1 := hx _ (getD_mem (i := e.1) (d := 0) (by rw [hl]; exact he.1))
    have h2 := hx _ (getD_mem (i := e.2) (d := 0) (by rw [hl]; exact he.2))
    have hs : (∀ x ∈ imgS r acc e, x.1 < n ∧ x.2 < n) ∧ (imgS r acc e).length ≤ acc.length + 1 := by
      unfold imgS
      split
      · exact ⟨h, Nat.le_succ _⟩
      · refine ⟨fun x hx' => ?_, by rw [List.length_append, List.length_singleton]; exact Nat.le_refl _⟩
        rcases List.mem_append.mp hx' with q | q
        · exact h x q
        · rw [List.mem_singleton.mp q]
          unfold mkE
          simp only
          omega
    obtain ⟨a1, a2⟩ := imgS_fold hl hx l (imgS r acc e) (fun x hx' => hb x (List.mem_cons_of_mem _ hx')) hs.1
    exact ⟨a1, by rw [List.length_cons]; show (l.foldl (imgS r) (imgS r acc e)).length ≤ _; omega⟩
theorem imageW_fold {W : Web} {r : List Nat} {n : Nat} (hW : WOk W) (hl : r.length = W.1) (hx : ∀ x ∈ r, x < n) : (∀ e ∈ W.2.foldl (imgS r) [], e.1 < n ∧ e.2 < n) ∧ (W.2.foldl (imgS r) []).length ≤ W.2.length := by
  obtain ⟨h1, h2⟩ := imgS_fold hl hx W.2 [] hW.lt (fun e he => by cases he)
  rw [List.length_nil, Nat.zero_add] at h2
  exact ⟨h1, h2⟩
theorem imageW_ok {W : Web} {r : List Nat} {n : Nat} (hW : WOk W) (hl : r.length = W.1) (hx : ∀ x ∈ r, x < n) (hn : n ≤ 5) : WOk (imageW W r n) := webOk_of hn (imageW_fold hW hl hx).1 (Nat.le_trans (imageW_fold hW hl hx).2 hW.few)
def prImage : PTr := fun ds R => ∃ (W : Web) (r : List Nat) (n : Nat), ds = [dW W, dL r, dI n] ∧ WOk W ∧ r.length = W.1 ∧ (∀ x ∈ r, x < n) ∧ n ≤ 5 ∧ R (dW (imageW W r n))
abbrev nImg : List Str := ["_law_web_here", "_law_row", "_law_size", "_law_edges", "_law_edge", "_law_u", "_law_v"]
theorem scImg : FnScope nImg ["_law_web_here", "_law_row", "_law_size"] (defScope (topS 47)) := ⟨rfl, rfl, rfl, by decide +kernel, rfl, by decide +kernel, by decide +kernel⟩
theorem ok_image (T : Txt K mg) : Fn P w K mg base 1 "_law_image" prImage := by
  refine def_ok T.law_image scImg (fun ds R h => by obtain ⟨W, r, n, rfl, _⟩ := h; rfl) fun f cdv A outer s S H vs ds Q E hr hS hp h => ?_
  obtain ⟨W, r, n, rfl, hW, hrl, hx, hn, q⟩ := h
  obtain ⟨v1, v2, v3, rfl, p1, p2, p3⟩ := da3 hp
  have hu : (A.deeper (envOfC "_law_image" (defScope (topS 47)) s.heap.objs.size f cdv)).units + 65 < cLine := by have := hr.un; omega
  have hWf := hW.few
  refine vs_cons (vs_newL 3 (fun l hl => ?_) scImg.nd)
  have g0 : Gw K S H l S (upd H l (.lst [])) [] := Gw.start (At.refl hS) hl
  refine vs_cons (vs_forN 4 (pi_tup pe_ve) (ew_tup (ds := W.2.map dE) (vd_web1 (vd_var 0 p1))) g0.within scImg.nd rfl
    (fun S2 i σ' H' => ∃ S3 y3 y4 y5, Gw K S H l S3 H' (((W.2.take i).foldl (imgS r) []).map dE) ∧ Ex S2 S3 ∧ σ' = [some v1, some v2, some v3, some (.ref l), y3, y4, y5])
    (fun S2 H2 w2 => ⟨S2, none, none, none, g0.step w2, Ex.refl _, rfl⟩) (fun S2 i σ' H' ⟨_, _, _, _, g, e, _⟩ => e.trans g.within) (fun S2 i d x σ' H' H'' e hd h y => ?_) (fun S2 σ' H' e h => ?_))
  · obtain ⟨S3, y3, y4, y5, g3, e23, rfl⟩ := h
    obtain ⟨S4, w4, px⟩ := y S3 e23 g3.within
    obtain ⟨ed, hed, rfl⟩ := get_map hd
    have hb := hW.lt ed (List.mem_of_getElem? hed)
    have g4 := g3.step w4
    have e4 : Ex S S4 := e.trans (e23.trans w4.st)
    have hst := fold_take (f := imgS r) (s := []) hed
    obtain ⟨_, b2⟩ := imgS_fold hrl hx (W.2.take i) [] (fun e he => hW.lt e (List.mem_of_mem_take he)) (fun e he => by cases he)
    have b3 : (W.2.take i).length ≤ 40 := by rw [List.length_take]; omega
    have b4 : ((W.2.take i).foldl (imgS r) []).length ≤ 0 + (W.2.take i).length := b2
    generalize (W.2.take i).foldl (imgS r) [] = acc at g4 hst b4
    refine vs_cons (vs_set 5 (vd_ixR (vd_var 1 (Dpm p2 e4)) (vd_e0 (vd_var 4 px)) (by rw [hrl]; exact hb.1)) g4.within (fun v5 S5 H5 w5 p5 => ?_) scImg.nd)
    have g5 := g4.step w5
    refine vs_cons (vs_set 6 (vd_ixR (vd_var 1 (Dpm p2 (e4.trans w5.st))) (vd_e1 (vd_var 4 (Dpm px w5.st))) (by rw [hrl]; exact hb.2)) g5.within (fun v6 S6 H6 w6 p6 => ?_) scImg.nd)
    have g6 := g5.step w6
    obtain ⟨Sf, ef, hf, pl⟩ := g6.look
    have p5' := Dpm p5 w6.st
    have p5f := Dpm p5' ef
    have p6f := Dpm p6 ef
    have e6 : Ex S2 S6 := e23.trans (w4.st.trans (w5.st.trans w6.st))
    refine vs_last (vs_if (vb_notInD (d := dE (mkE (r.getD ed.1 0) (r.getD ed.2 0))) (ds := acc.map dE) hu (vd_tup (vda_cons (vd_min rfl T.b_min (vd_var 5 p5f) (vd_var 6 p6f)) (vda_cons (vd_max rfl T.b_max (vd_var 5 p5f) (vd_var 6 p6f)) vda_nil)) (Nat.le_of_ble_eq_true rfl)) (vd_var 3 pl) (sh_E _) (sh_LE _) (any_E _ _)) hf (fun ht H7 e7 => ?_) fun hff H7 e7 => ?_)
    · have hni : ¬ mkE (r.getD ed.1 0) (r.getD ed.2 0) ∈ acc := by simpa using ht
      refine vs_last (vs_appG (d := dE (mkE (r.getD ed.1 0) (r.getD ed.2 0))) (g6.only e7) (vv_var 3) (vd_tup (vda_cons (vd_min rfl T.b_min (vd_var 5 p5') (vd_var 6 p6)) (vda_cons (vd_max rfl T.b_max (vd_var 5 p5') (vd_var 6 p6)) vda_nil)) (Nat.le_of_ble_eq_true rfl)) (by rw [List.length_map]; omega) fun S8 H8 g8 e8 => ⟨S8, _, _, _, ?_, e6.trans e8, rfl⟩)
      rw [hst]
      unfold imgS
      rw [if_neg hni, List.map_append]
      exact g8
    · have hin : mkE (r.getD ed.1 0) (r.getD ed.2 0) ∈ acc := by simpa using hff
      refine vs_nil ⟨S6, _, _, _, ?_, e6, rfl⟩
      rw [hst]
      unfold imgS
      rw [if_pos hin]
      exact g6.only e7
  · obtain ⟨S3, y3, y4, y5, g3, e23, rfl⟩ := h
    rw [List.length_map, List.take_length] at g3
    obtain ⟨S4, a4, e34, pl⟩ := g3.done
    have hok := imageW_fold hW hrl hx
    exact vs_last (vs_ret (d := dW (imageW W r n)) (vd_tup (vda_cons (vd_var 2 (Dpm p3 (e.trans (e23.trans e34)))) (vda_cons (vd_tupleOf T.b_tuple (vd_sortedE T.b_sorted (vd_var 3 pl) (small_of hn hok.1 (Nat.le_trans hok.2 hW.few))) (.lst _)) vda_nil)) (Nat.le_of_ble_eq_true rfl)) a4.nw.within fun v' S' H' w' p' => q v' S' H' (a4.nw.trans w') p')
end
end K22
/-! K22, text 31: _law_drawn -/
namespace K22
open PySem PySem.Spec PyProof.Rows L2 Evl
section
variable {P : Program} {w : World} {K : PySem.W.Frag} {mg : Str → Option Value} {base : Heap}
/-! ### _law_drawn -/
section
variable {X : Cx} {b : Expr} {pos lp : Pos} {σ : L2.St} {S : Hp} {n : Nat}
/-- a list of numbers as it is written, an item of it -/
def litE (p : Nat × Pos) : Expr := .Constant (.int (p.1 : Int)) 0 p.2
theorem vda_lits : ∀ l : List (Nat × Pos), VDA X (l.map litE) σ S ((l.map (·.1)).map dI)
  | [] => vda_nil
  | p :: l => vda_cons (vdn_int (n := p.1)) (vda_lits l) rfl
theorem vd_ixLit (l : List (Nat × Pos)) (hb : VD X b σ S (dI n)) (hn : n < l.length) (hz : l.length ≤ 100000) (hp : PlainIx b := by exact fun _ _ => rfl) : VD X (.Subscript (.List (l.map litE) lp) b pos) σ S (dI ((l.map (·.1)).getD n 0)) :=
  vd_ixR (vd_lst (vda_lits l) (by rw [List.length_map, List.length_map]; exact hz)) hb (by rw [List.length_map]; exact hn) hp
end
def shareL : List Nat := [2, 1, 3, 2, 0, 2, 4, 1, 3, 2]
def shareN (k : Nat) : Nat := shareL.getD (k % 10) 0
def bitsN (ns : List Int) (i k : Nat) : List Nat := (drawsN ns i 15 4).map fun x => if x < shareN k then 1 else 0
def drawnW (ns : List Int) (i n k : Nat) : Web := webL n (bitsN ns i k) (decide (k / 10 % 3 = 1))
def prDrawn : PTS := fun ns ds R => ∃ i n k : Nat, ds = [dI i, dI n, dI k] ∧ n ≤ 5 ∧ R (dW (drawnW ns i n k))
abbrev nDrawn : List Str := ["_law_script", "_law_place", "_law_size", "_law_number", "_law_share", "_law_bits", "_law_draw"]
theorem scDrawn : FnScope nDrawn ["_law_script", "_law_place", "_law_size", "_law_number"] (defScope (topS 48)) := ⟨rfl, rfl, rfl, by decide +kernel, rfl, by decide +kernel, by decide +kernel⟩
theorem ok_drawn (T : Txt K mg) : FnS P w K mg base 3 "_law_drawn" prDrawn := by
  have GD : FnS P w K mg base 2 "_law_draws" prDraws := ok_draws T
  have GW : Fn P w K mg base 2 "_law_web" prWeb := (ok_web T).mono (by decide)
  refine okS_def T.law_drawn scDrawn (fun ns ds R h => by obtain ⟨i, n, k, rfl, _⟩ := h; rfl) fun f cdv A outer s S H a ns vs ds Q E hr hS hs hp h => ?_
  obtain ⟨i, n, k, rfl, hn, q⟩ := h
  obtain ⟨v1, v2, v3, rfl, p1, p2, p3⟩ := da3 hp
  refine vs_cons ?_
  refine @vs_set (cxB P w K mg base nDrawn "_law_drawn" (defScope (topS 48)) f cdv A outer s H E) _ _ _ _ S H (dI (shareN k)) "_law_share" _ 4 (@vd_ixLit (cxB P w K mg base nDrawn "_law_drawn" (defScope (topS 48)) f cdv A outer s H E) _ _ _ _ S (k % 10) [(2, ⟨269, 18, 269, 19⟩), (1, ⟨269, 21, 269, 22⟩), (3, ⟨269, 24, 269, 25⟩), (2, ⟨269, 27, 269, 28⟩), (0, ⟨269, 30, 269, 31⟩), (2, ⟨269, 33, 269, 34⟩), (4, ⟨269, 36, 269, 37⟩), (1, ⟨269, 39, 269, 40⟩), (3, ⟨269, 42, 269, 43⟩), (2, ⟨269, 45, 269, 46⟩)] (vdn_mod (vd_intOf T.b_int (vd_var 3 p3)) (vdn_int (n := 10)) (Nat.succ_pos 9)) (Nat.mod_lt k (Nat.succ_pos 9)) (Nat.le_of_ble_eq_true rfl) (fun _ _ => rfl)) hS (fun v4 S1 H1 w1 p4 => ?_) scDrawn.nd rfl (Or.inr rfl) rfl (Or.inl rfl)
  have p4 : DD K S1 v4 (dI (shareN k)) := p4
  have hs1 : SqL K S1 a (ns.map V.int) := ex_l w1.st hs
  refine vs_cons (vs_lc0 5 (g := gName 6) (own := [("_law_draw", 6)]) (pi_list pe_ve) (ew_list (ds := (drawsN ns i 15 4).map dI) (vd_callS GD hr (vv_var 0) hs1 (vda_cons (vd_var 1 (Dpm p1 w1.st)) (vda_cons (vdn_int (n := 15)) (vda_cons (vdn_int (n := 4)) vda_nil))) fun R h => ⟨i, 15, 4, rfl, by decide, by decide, by decide, h⟩)) (by rw [List.length_map, draws_len]; decide) scDrawn.nd rfl (fun j => dI (if (drawsN ns i 15 4).getD j 0 < shareN k then 1 else 0)) (blkOk_by (N := nDrawn) (sc := defScope (topS 48)) (by decide +kernel)) (fun _ _ _ _ _ => by exact pg_name scDrawn.nd rfl (Or.inl rfl))
    (fun j d v Si H6 hd e6 hS6 pv => ?_) w1.within (fun v5 S2 H2 w2 p5 => ?_) (sw_true rfl rfl rfl (by decide +kernel)))
  · obtain ⟨x, hx, rfl⟩ := get_map hd
    rw [getD_some hx]
    refine ⟨_, fun Q q => q, wipe1 _ 6 v, fun s9 H9 C9 cl9 fp9 => vd_if (vb_ltN (vd_var 6 pv) (vd_var 4 (Dpm p4 e6))) (fun ht => ?_) fun hf => ?_⟩
    · rw [if_pos (of_decide_eq_true ht)]; exact vd_int
    · rw [if_neg (of_decide_eq_false hf)]; exact vd_int
  rw [List.length_map, map_get (drawsN ns i 15 4) (fun x => dI (if x < shareN k then 1 else 0)) 0] at p5
  have p5 : DD K S2 v5 (dL (bitsN ns i k)) := by
    have e : (drawsN ns i 15 4).map (fun x => dI (if x < shareN k then 1 else 0)) = (bitsN ns i k).map dI := by unfold bitsN; rw [List.map_map]; rfl
    rw [e] at p5
    exact p5
  have e2 := w1.st.trans w2.st
  exact vs_last (vs_ret (d := dW (drawnW ns i n k)) (vd_call GW hr (vda_cons (vd_var 2 (Dpm p2 e2)) (vda_cons (vd_var 5 p5) (vda_cons (vdn_eq (vdn_mod (vd_intOf T.b_int (vdn_div (vd_var 3 (Dpm p3 e2)) (vdn_int (n := 10)) ⟨by decide, by decide⟩)) (vdn_int (n := 3)) (by decide)) (vdn_int (n := 1))) vda_nil))) fun R h => ⟨n, _, _, rfl, hn, h⟩) w2.within fun v' S' H' w' p' => q v' S' H' ((w1.trans w2).trans w') p')
end
end K22
/-! K22, text 32: _law_pair -/
namespace K22
open PySem PySem.Spec PyProof.Rows L2 Evl
theorem webIn_len {bits : List Nat} {lp : Bool} {v : Nat} : ∀ (l : List Nat) (st : List (Nat × Nat) × Nat), (l.foldl (webIn bits lp v) st).1.length ≤ st.1.length + l.length
  | [], st => Nat.le_refl _
  | u :: l, st => by
    have h1 := webIn_len (bits := bits) (lp := lp) (v := v) l (webIn bits lp v st u)
    have h2 : (webIn bits lp v st u).1.length ≤ st.1.length + 1 := by
      unfold webIn
      split
      · split
        · simp
        · exact Nat.le_succ _
      · exact Nat.le_succ _
    rw [List.length_cons]
    show (l.foldl (webIn bits lp v) (webIn bits lp v st u)).1.length ≤ _
    omega
theorem webRow_len {bits : List Nat} {lp : Bool} {n : Nat} : ∀ (l : List Nat) (st : List (Nat × Nat) × Nat), (∀ v ∈ l, v < n) → (l.foldl (webRow bits lp) st).1.length ≤ st.1.length + l.length * n
  | [], st, _ => by show st.1.length ≤ st.1.length + 0 * n; omega
  | v :: l, st, hl => by
    have hv := hl v List.mem_cons_self
    have h1 := webRow_len (bits := bits) (lp := lp) l (webRow bits lp st v) (fun x hx => hl x (List.mem_cons_of_mem _ hx))
    have h2 : (webRow bits lp st v).1.length ≤ st.1.length + (List.range (v + 1)).length := webIn_len _ _
    rw [List.length_range] at h2
    rw [List.length_cons, Nat.succ_mul]
    show (l.foldl (webRow bits lp) (webRow bits lp st v)).1.length ≤ _
    omega
theorem webL_len {bits : List Nat} {lp : Bool} {n : Nat} : (webL n bits lp).2.length ≤ n * n := by
  show (sortE (webAll n bits lp).1).length ≤ n * n
  rw [(sortE_perm _).length_eq]
  have h := webRow_len (bits := bits) (lp := lp) (List.range n) ([], 0) (fun v hv => List.mem_range.mp hv)
  rw [List.length_range] at h
  have h2 : (webAll n bits lp).1.length ≤ 0 + n * n := h
  omega
theorem sq_sum {n k : Nat} (h : n + k ≤ 5) : n * n + k * k ≤ 25 := by
  have h1 := Nat.mul_le_mul h h
  have h2 := Nat.add_mul n k (n + k)
  have h3 := Nat.mul_add n n k
  have h4 := Nat.mul_add k n k
  omega
def sizeL : List Nat := [4, 3, 4, 2, 3, 4, 1, 0]
def lastL : List Nat := [3, 4, 2, 4, 3, 1, 0, 5]
theorem size_le {i : Nat} (h : i < 8) : sizeL.getD i 0 ≤ 4 := (by decide : ∀ x ∈ sizeL, x ≤ 4) _ (getD_mem h)
theorem last_le {i : Nat} (h : i < 8) : lastL.getD i 0 ≤ 5 := (by decide : ∀ x ∈ lastL, x ≤ 5) _ (getD_mem h)
theorem homs_id (n : Nat) (b : Adj) (sb : Sym b) : 0 < (homsL n b n b).length := by
  have h := (mem_homs sb sb).mpr (IsHom.id n b)
  exact List.length_pos_of_mem h
section
variable {P : Program} {w : World} {K : PySem.W.Frag} {mg : Str → Option Value} {base : Heap}
def prPair : PTS := fun ns ds R => ds = [] ∧ ∀ A B : Web, WOk A → WOk B → R (.tuple [dW A, dW B])
abbrev nPair : List Str := ["_law_script", "_law_cell_here", "_law_way", "_law_shares", "_law_pick", "_law_size", "_law_x", "_law_many", "_law_image_here", "_law_a", "_law_rows", "_law_row", "_law_draw", "_law_node"]
theorem scPair : FnScope nPair ["_law_script"] (defScope (topS 49)) := ⟨rfl, rfl, rfl, by decide +kernel, rfl, by decide +kernel, by decide +kernel⟩
abbrev cPair (P : Program) (w : World) (K : PySem.W.Frag) (mg : Str → Option Value) (base : Heap) (f : Addr) (cdv : Value) (A : Around) (outer : List Env) (s : Shared) (H : Hp) (E : XK) : Cx := cxB P w K mg base nPair "_law_pair" (defScope (topS 49)) f cdv A outer s H E
/-- the last way: a web of the script's own -/
theorem pair_last {f : Addr} {cdv : Value} {A : Around} {outer : List Env} {s : Shared} {HE : Hp} {E : XK} (GD : FnS P w K mg base 3 "_law_drawn" prDrawn) (hr : Room 3 (A.deeper (envOfC "_law_pair" (defScope (topS 49)) s.heap.objs.size f cdv)))
    {a : Addr} {ns : List Int} {x1 x2 x4 x5 x6 x7 x8 x10 x11 x12 x13 : Option V} {v3 v9 : V} {S H : Hp} {D : Ends} {l : List Expr} {lp q1 q2 q3 q4 q5 q6 q7 q8 q9 qs qr : Pos} {k : Nat} {b : Expr} {n : Nat} {WA : Web}
    (hs : SqL K S a (ns.map V.int)) (p3 : DD K S v3 (dL (drawsN ns 1 2 30))) (p9 : DD K S v9 (dW WA)) (hS : Ex S H)
    (he : VD (cPair P w K mg base f cdv A outer s HE E) (.Subscript (.List l lp) b qs) [some (.ref a), x1, x2, some v3, x4, x5, x6, x7, x8, some v9, x10, x11, x12, x13] S (dI n)) (hn : n ≤ 5)
    (kk : ∀ v S' H' B, WOk B → Nw S H S' H' → DD K S' v (.tuple [dW WA, dW B]) → D.rt v H') :
    VSs (cPair P w K mg base f cdv A outer s HE E) [.Return (some (.Tuple [.Name "_law_a" q1, .Call (.Name "_law_drawn" q2) [.Name "_law_script" q3, .Constant (.int 3) 0 q4, .Subscript (.List l lp) b qs, .Subscript (.Name "_law_shares" q5) (.Constant (.int 1) 0 q6) q7] [] q8] k q9)) qr] D
      [some (.ref a), x1, x2, some v3, x4, x5, x6, x7, x8, some v9, x10, x11, x12, x13] H := by
  exact vs_last (vs_ret (d := .tuple [dW WA, dW (drawnW ns 3 n ((drawsN ns 1 2 30).getD 1 0))]) (vd_tup (vda_cons (vd_var 9 p9) (vda_cons (vd_callS GD hr (vv_var 0) hs (vda_cons (vdn_int (n := 3)) (vda_cons he (vda_cons (vd_ixR (vd_var 3 p3) (vdn_int (n := 1)) (by rw [draws_len]; decide)) vda_nil))) fun R h => ⟨3, n, _, rfl, hn, h⟩) vda_nil)) (Nat.le_of_ble_eq_true rfl)) hS fun v' S' H' w' p' => kk v' S' H' _ (webL_ok hn) w' p')
theorem vb_gtN {X : Cx} {a b : Expr} {pos : Pos} {σ : L2.St} {S : Hp} {n m : Nat} (ha : VD X a σ S (dI n)) (hb : VD X b σ S (dI m)) : VB X (.Compare a [.Gt] [b] pos) σ S (decide (m < n)) := vb_is (vb_gt ha hb) (by rw [Bool.eq_iff_iff, decide_eq_true_eq, decide_eq_true_eq]; omega)
theorem ok_pair (T : Txt K mg) : FnS P w K mg base 4 "_law_pair" prPair := by
  have GC : FnS P w K mg base 3 "_law_cell" prCell := (ok_cell T).mono (by decide)
  have GDs : FnS P w K mg base 3 "_law_draws" prDraws := (ok_draws T).mono (by decide)
  have GD : FnS P w K mg base 3 "_law_drawn" prDrawn := ok_drawn T
  have GR : FnS P w K mg base 3 "_law_drawn_row" prDRow := ok_drow T
  have GI : Fn P w K mg base 3 "_law_image" prImage := (ok_image T).mono (by decide)
  have GS : Fn P w K mg base 3 "_law_sum" prSum := (ok_sum T).mono (by decide)
  have GN : Fn P w K mg base 3 "_law_renamed" prRenamed := (ok_ren T).mono (by decide)
  have GT : Fn P w K mg base 3 "_law_turned" prTurned := (ok_turned T).mono (by decide)
  have GH : Fn P w K mg base 3 "_law_homs" prLHoms := (ok_lhoms T).mono (by decide)
  have GM : Fn P w K mg base 3 "_law_matrix" prMat := (ok_mat T).mono (by decide)
  have GL : Fn P w K mg base 3 "_law_induced" prLInd := (ok_lind T).mono (by decide)
  refine okS_def T.law_pair scPair (fun ns ds R h => by obtain ⟨rfl, _⟩ := h; rfl) fun f cdv A outer s S H a ns vs ds Q E hr hS hs hp h => ?_
  obtain ⟨rfl, q⟩ := h
  cases da_nil hp
  refine vs_cons (vs_set 1 (vd_callS GC hr (vv_var 0) hs (vda_cons (vdn_int (n := 0)) vda_nil) fun R h => ⟨0, rfl, h⟩) hS (fun v1 S1 H1 w1 p1 => ?_) scPair.nd)
  generalize cellN ns 0 = c at p1
  refine vs_cons (vs_set 2 (vdn_mod (vd_intOf T.b_int (vd_var 1 p1)) (vdn_int (n := 6)) (Nat.succ_pos 5)) w1.within (fun v2 S2 H2 w2 p2 => ?_) scPair.nd)
  have hs2 : SqL K S2 a (ns.map V.int) := ex_l (w1.st.trans w2.st) hs
  refine vs_cons (vs_set 3 (vd_callS GDs hr (vv_var 0) hs2 (vda_cons (vdn_int (n := 1)) (vda_cons (vdn_int (n := 2)) (vda_cons (vdn_int (n := 30)) vda_nil))) fun R h => ⟨1, 2, 30, rfl, by decide, by decide, by decide, h⟩) w2.within (fun v3 S3 H3 w3 p3 => ?_) scPair.nd)
  have hs3 : SqL K S3 a (ns.map V.int) := ex_l w3.st hs2
  refine vs_cons (vs_set 4 (vd_callS GC hr (vv_var 0) hs3 (vda_cons (vdn_int (n := 4)) vda_nil) fun R h => ⟨4, rfl, h⟩) w3.within (fun v4 S4 H4 w4 p4 => ?_) scPair.nd)
  generalize cellN ns 4 = pk at p4
  have p1' := Dpm p1 (w2.st.trans (w3.st.trans w4.st))
  have h8 : c / 6 % 8 < 8 := Nat.mod_lt _ (Nat.succ_pos 7)
  refine vs_cons ?_
  refine @vs_set (cPair P w K mg base f cdv A outer s H E) _ _ _ _ S4 H4 (dI (sizeL.getD (c / 6 % 8) 0)) "_law_size" _ 5 (@vd_ixLit (cPair P w K mg base f cdv A outer s H E) _ _ _ _ S4 (c / 6 % 8) [(4, ⟨277, 17, 277, 18⟩), (3, ⟨277, 20, 277, 21⟩), (4, ⟨277, 23, 277, 24⟩), (2, ⟨277, 26, 277, 27⟩), (3, ⟨277, 29, 277, 30⟩), (4, ⟨277, 32, 277, 33⟩), (1, ⟨277, 35, 277, 36⟩), (0, ⟨277, 38, 277, 39⟩)] (vdn_mod (vd_intOf T.b_int (vdn_div (vd_var 1 p1') (vdn_int (n := 6)) ⟨by decide, by decide⟩)) (vdn_int (n := 8)) (Nat.succ_pos 7)) h8 (Nat.le_of_ble_eq_true rfl) (fun _ _ => rfl)) w4.within (fun v5 S5 H5 w5 p5 => ?_) scPair.nd rfl (Or.inl rfl) rfl (Or.inl rfl)
  have hsz := size_le h8
  generalize sizeL.getD (c / 6 % 8) 0 = n at p5 hsz
  have at5 : At S H S5 H5 := ⟨(((w1.trans w2).trans w3).trans w4).trans w5⟩
  have hs5 : SqL K S5 a (ns.map V.int) := ex_l (w4.st.trans w5.st) hs3
  have p1 := Dpm p1' w5.st
  have p2 := Dpm p2 (w3.st.trans (w4.st.trans w5.st))
  have p3 := Dpm p3 (w4.st.trans w5.st)
  have p4 := Dpm p4 w5.st
  have sh0 : 0 < (drawsN ns 1 2 30).length := by rw [draws_len]; decide
  have sh1 : 1 < (drawsN ns 1 2 30).length := by rw [draws_len]; decide
  -- way 5
  refine vs_cons (vs_if (vb_eqN (vd_var 2 p2) (vdn_int (n := 5))) w5.within (fun ht H6 e6 => ?_) fun hf H6 e6 => vs_nil ?_)
  · have hm3 : 1 + c / 6 % 3 ≤ 3 := by have := Nat.mod_lt (c / 6) (show 0 < 3 by decide); omega
    have hm2 : 1 + pk % 2 ≤ 2 := by have := Nat.mod_lt pk (show 0 < 2 by decide); omega
    refine vs_cons (vs_set 6 (d := dW (drawnW ns 2 (1 + c / 6 % 3) ((drawsN ns 1 2 30).getD 0 0))) (vd_callS GD hr (vv_var 0) hs5 (vda_cons (vdn_int (n := 2)) (vda_cons (vdn_add (vdn_int (n := 1)) (vdn_mod (vd_intOf T.b_int (vdn_div (vd_var 1 p1) (vdn_int (n := 6)) ⟨by decide, by decide⟩)) (vdn_int (n := 3)) (Nat.succ_pos 2))) (vda_cons (vd_ixR (vd_var 3 p3) (vdn_int (n := 0)) sh0) vda_nil))) fun R h => ⟨2, _, _, rfl, by omega, h⟩) (w5.within.trans e6) (fun v6 S7 H7 w7 p6 => ?_) scPair.nd)
    have hxl : (drawnW ns 2 (1 + c / 6 % 3) ((drawsN ns 1 2 30).getD 0 0)).2.length ≤ (1 + c / 6 % 3) * (1 + c / 6 % 3) := webL_len
    have hxn : (drawnW ns 2 (1 + c / 6 % 3) ((drawsN ns 1 2 30).getD 0 0)).1 = 1 + c / 6 % 3 := rfl
    have hxo : WOk (drawnW ns 2 (1 + c / 6 % 3) ((drawsN ns 1 2 30).getD 0 0)) := webL_ok (by omega)
    have h33 := Nat.mul_le_mul hm3 hm3
    generalize drawnW ns 2 (1 + c / 6 % 3) ((drawsN ns 1 2 30).getD 0 0) = WX at p6 hxl hxn hxo
    refine vs_cons (vs_set 7 (d := dI (1 + pk % 2)) (vdn_add (vdn_int (n := 1)) (vdn_mod (vd_intOf T.b_int (vd_var 4 (Dpm p4 w7.st))) (vdn_int (n := 2)) (Nat.succ_pos 1))) w7.within (fun v7 S8 H8 w8 p7 => ?_) scPair.nd)
    have p6 := Dpm p6 w8.st
    have hs8 : SqL K S8 a (ns.map V.int) := ex_l (w7.st.trans w8.st) hs5
    have hrl : ((drawsN ns 3 WX.1 60).map fun x => x % (1 + pk % 2)).length = WX.1 := by rw [List.length_map, draws_len]
    have hrx : ∀ x ∈ (drawsN ns 3 WX.1 60).map (fun x => x % (1 + pk % 2)), x < 1 + pk % 2 := fun x hx => by
      obtain ⟨y, _, rfl⟩ := List.mem_map.mp hx
      exact Nat.mod_lt _ (by omega)
    refine vs_cons (vs_set 8 (d := dW (imageW WX ((drawsN ns 3 WX.1 60).map fun x => x % (1 + pk % 2)) (1 + pk % 2))) (vd_call GI hr (vda_cons (vd_var 6 p6) (vda_cons (vd_is (d' := dL ((drawsN ns 3 WX.1 60).map fun x => x % (1 + pk % 2))) (vd_lc0 (g := gName 12) (own := [("_law_draw", 12)]) (pi_list pe_ve) (ew_list (ds := (drawsN ns 3 WX.1 60).map dI) (vd_callS GDs hr (vv_var 0) hs8 (vda_cons (vdn_int (n := 3)) (vda_cons (vd_web0 (W := WX) (vd_var 6 p6)) (vda_cons (vdn_int (n := 60)) vda_nil))) fun R h => ⟨3, WX.1, 60, rfl, by omega, by decide, by decide, h⟩)) (by rw [List.length_map, draws_len]; omega) scPair.nd rfl (fun j => dI ((drawsN ns 3 WX.1 60).getD j 0 % (1 + pk % 2))) (blkOk_by (N := nPair) (sc := defScope (topS 49)) (by decide +kernel)) (fun _ _ _ _ _ => by exact pg_name scPair.nd rfl (Or.inl rfl)) (fun j d v Si H9 hd e9 hS9 pv => ?_)) ?_) (vda_cons (vd_var 7 p7) vda_nil))) fun R h => ⟨WX, _, _, rfl, hxo, hrl, hrx, by omega, h⟩) w8.within (fun v8 S9 H9 w9 p8 => ?_) scPair.nd)
    · obtain ⟨x, hx, rfl⟩ := get_map hd
      rw [getD_some hx]
      exact ⟨_, fun Q q => q, wipe1 _ 12 v, fun s9 H9 C9 cl9 fp9 => vdn_mod (vd_intOf T.b_int (vd_var 12 pv)) (vd_var 7 (Dpm p7 e9)) (by omega)⟩
    · rw [List.length_map, map_get (drawsN ns 3 WX.1 60) (fun x => dI (x % (1 + pk % 2))) 0]
      unfold dL
      rw [List.map_map]
      rfl
    · have hio := imageW_ok hxo hrl hrx (show 1 + pk % 2 ≤ 5 by omega)
      have hil : (imageW WX ((drawsN ns 3 WX.1 60).map fun x => x % (1 + pk % 2)) (1 + pk % 2)).2.length ≤ WX.2.length := by
        show (sortE _).length ≤ _
        rw [(sortE_perm _).length_eq]
        exact (imageW_fold hxo hrl hrx).2
      have hin : (imageW WX ((drawsN ns 3 WX.1 60).map fun x => x % (1 + pk % 2)) (1 + pk % 2)).1 = 1 + pk % 2 := rfl
      generalize imageW WX ((drawsN ns 3 WX.1 60).map fun x => x % (1 + pk % 2)) (1 + pk % 2) = WI at p8 hio hil hin
      have p6 := Dpm p6 w9.st
      refine vs_last (vs_ret (d := .tuple [dW WI, dW (sumW WI WX)]) (vd_tup (vda_cons (vd_var 8 p8) (vda_cons (vd_call GS hr (vda_cons (vd_var 8 p8) (vda_cons (vd_var 6 p6) vda_nil)) fun R h => ⟨WI, WX, rfl, hio, hxo, h⟩) vda_nil)) (Nat.le_of_ble_eq_true rfl)) w9.within fun v' S' H' w' p' => q WI (sumW WI WX) hio (sumW_ok hio hxo (by omega) (by omega)) v' S' H' ((((at5.only e6).nw.trans w7).trans w8).trans (w9.trans w')) p')
  -- the others
  refine vs_cons (vs_set 9 (d := dW (drawnW ns 2 n ((drawsN ns 1 2 30).getD 0 0))) (vd_callS GD hr (vv_var 0) hs5 (vda_cons (vdn_int (n := 2)) (vda_cons (vd_var 5 p5) (vda_cons (vd_ixR (vd_var 3 p3) (vdn_int (n := 0)) sh0) vda_nil))) fun R h => ⟨2, n, _, rfl, by omega, h⟩) (w5.within.trans e6) (fun v9 S7 H7 w7 p9 => ?_) scPair.nd)
  have hal : (drawnW ns 2 n ((drawsN ns 1 2 30).getD 0 0)).2.length ≤ n * n := webL_len
  have han : (drawnW ns 2 n ((drawsN ns 1 2 30).getD 0 0)).1 = n := rfl
  have hao : WOk (drawnW ns 2 n ((drawsN ns 1 2 30).getD 0 0)) := webL_ok (by omega)
  have h44 := Nat.mul_le_mul hsz hsz
  generalize drawnW ns 2 n ((drawsN ns 1 2 30).getD 0 0) = WA at p9 hal han hao
  have at7 : At S H S7 H7 := (at5.only e6).step w7
  have hs7 : SqL K S7 a (ns.map V.int) := ex_l w7.st hs5
  have p2 := Dpm p2 w7.st
  have p3 := Dpm p3 w7.st
  have p4 := Dpm p4 w7.st
  have p5 := Dpm p5 w7.st
  refine vs_cons (vs_if (vb_eqN (vd_var 2 p2) (vdn_int (n := 1))) w7.within (fun ht H8 e8 => ?_) fun hf H8 e8 => vs_nil ?_)
  · obtain ⟨d1, d2⟩ := drawnR_ok ns 3 n 1
    refine vs_last (vs_ret (d := .tuple [dW WA, dW (renW WA (drawnR ns 3 n 1))]) (vd_tup (vda_cons (vd_var 9 p9) (vda_cons (vd_call GN hr (vda_cons (vd_var 9 p9) (vda_cons (vd_callS GR hr (vv_var 0) hs7 (vda_cons (vdn_int (n := 3)) (vda_cons (vd_var 5 p5) (vda_cons (vdn_int (n := 1)) vda_nil))) fun R h => ⟨3, n, 1, rfl, by omega, h⟩) vda_nil)) fun R h => ⟨WA, _, _, rfl, .lst _, hao, by rw [d1, han], by rw [han]; exact d2, h⟩) vda_nil)) (Nat.le_of_ble_eq_true rfl)) (w7.within.trans e8) fun v' S' H' w' p' => q WA _ hao (renW_ok hao (by rw [d1, han]) (by rw [han]; exact d2)) v' S' H' ((at7.only e8).nw.trans w') p')
  have i8 : Ex S7 H8 := w7.within.trans e8
  refine vs_cons (vs_if (vb_and (vb_eqN (vd_var 2 p2) (vdn_int (n := 2))) fun _ => vb_gtN (vd_var 5 p5) (vdn_int (n := 0))) i8 (fun ht H9 e9 => ?_) fun hf H9 e9 => vs_nil ?_)
  · rw [Bool.and_eq_true, decide_eq_true_eq, decide_eq_true_eq] at ht
    have hn0 : 0 < n := ht.2
    refine vs_last (vs_ret (d := .tuple [dW WA, dW (turnW WA (pk % n) (pk / n % n))]) (vd_tup (vda_cons (vd_var 9 p9) (vda_cons (vd_call GT hr (vda_cons (vd_var 9 p9) (vda_cons (vdn_mod (vd_intOf T.b_int (vd_var 4 p4)) (vd_var 5 p5) hn0) (vda_cons (vdn_mod (vd_intOf T.b_int (vdn_div (vd_var 4 p4) (vd_var 5 p5) ⟨hn0, by omega⟩)) (vd_var 5 p5) hn0) vda_nil))) fun R h => ⟨WA, _, _, rfl, hao, by omega, by rw [han]; exact Nat.mod_lt _ hn0, by rw [han]; exact Nat.mod_lt _ hn0, h⟩) vda_nil)) (Nat.le_of_ble_eq_true rfl)) (i8.trans e9) fun v' S' H' w' p' => q WA _ hao (turnW_ok hao (by rw [han]; exact Nat.mod_lt _ hn0) (by rw [han]; exact Nat.mod_lt _ hn0) (by omega)) v' S' H' ((at7.only (e8.trans e9)).nw.trans w') p')
  have i9 : Ex S7 H9 := i8.trans e9
  refine vs_cons (vs_if (vb_eqN (vd_var 2 p2) (vdn_int (n := 3))) i9 (fun ht H10 e10 => ?_) fun hf H10 e10 => vs_nil ?_)
  · have hk : pk % (6 - n) < 6 - n := Nat.mod_lt _ (by omega)
    have hbl : (drawnW ns 3 (pk % (6 - n)) ((drawsN ns 1 2 30).getD 1 0)).2.length ≤ pk % (6 - n) * (pk % (6 - n)) := webL_len
    have hsq := sq_sum (n := n) (k := pk % (6 - n)) (by omega)
    have hbo : WOk (drawnW ns 3 (pk % (6 - n)) ((drawsN ns 1 2 30).getD 1 0)) := webL_ok (by omega)
    refine vs_last (vs_ret (d := .tuple [dW WA, dW (sumW WA (drawnW ns 3 (pk % (6 - n)) ((drawsN ns 1 2 30).getD 1 0)))]) (vd_tup (vda_cons (vd_var 9 p9) (vda_cons (vd_call GS hr (vda_cons (vd_var 9 p9) (vda_cons (vd_callS GD hr (vv_var 0) hs7 (vda_cons (vdn_int (n := 3)) (vda_cons (vdn_mod (vd_intOf T.b_int (vd_var 4 p4)) (vdn_sub (vdn_int (n := 6)) (vd_var 5 p5) (by omega)) (by omega)) (vda_cons (vd_ixR (vd_var 3 p3) (vdn_int (n := 1)) sh1) vda_nil))) fun R h => ⟨3, _, _, rfl, by omega, h⟩) vda_nil)) fun R h => ⟨WA, _, rfl, hao, hbo, h⟩) vda_nil)) (Nat.le_of_ble_eq_true rfl)) (i9.trans e10) fun v' S' H' w' p' => q WA _ hao (sumW_ok hao hbo (by rw [han]; show n + pk % (6 - n) ≤ 5; omega) (by omega)) v' S' H' ((at7.only (e8.trans (e9.trans e10))).nw.trans w') p')
  have i10 : Ex S7 H10 := i9.trans e10
  refine vs_cons (vs_if (vb_eqN (vd_var 2 p2) (vdn_int (n := 4))) i10 (fun ht H11 e11 => ?_) fun hf H11 e11 => vs_nil ?_)
  · refine vs_cons (vs_set 10 (vd_call GH hr (vda_cons (vd_call GM hr (vda_cons (vd_var 9 p9) vda_nil) fun R h => ⟨WA, rfl, hao, h⟩) (vda_cons (vd_call GM hr (vda_cons (vd_var 9 p9) vda_nil) fun R h => ⟨WA, rfl, hao, h⟩) vda_nil)) fun R h => ⟨WA.1, adjW WA, WA.1, adjW WA, rfl, hao.n, hao.n, h⟩) (i10.trans e11) (fun v10 S12 H12 w12 p10 => ?_) scPair.nd)
    have hpos := homs_id WA.1 (adjW WA) (adjW_sym WA)
    have hmod : pk % (homsL WA.1 (adjW WA) WA.1 (adjW WA)).length < (homsL WA.1 (adjW WA) WA.1 (adjW WA)).length := Nat.mod_lt _ hpos
    have hrm := List.getElem_mem hmod
    have hrg : (homsL WA.1 (adjW WA) WA.1 (adjW WA))[pk % (homsL WA.1 (adjW WA) WA.1 (adjW WA)).length]? = some _ := List.getElem?_eq_getElem hmod
    generalize hre : (homsL WA.1 (adjW WA) WA.1 (adjW WA))[pk % (homsL WA.1 (adjW WA) WA.1 (adjW WA)).length] = r at hrm hrg
    have p4 := Dpm p4 w12.st
    have p5 := Dpm p5 w12.st
    have p9 := Dpm p9 w12.st
    refine vs_cons (vs_set 11 (d := dL r) (vd_ixI (vd_var 10 p10) (.lst _) (vdn_mod (vd_intOf T.b_int (vd_var 4 p4)) (vd_lenI T.b_len (vd_var 10 p10) (.lst _)) (by rw [List.length_map]; exact hpos)) (by rw [List.length_map, List.getElem?_map, hrg]; rfl)) w12.within (fun v11 S13 H13 w13 p11 => ?_) scPair.nd)
    have p5 := Dpm p5 w13.st
    have p9 := Dpm p9 w13.st
    have htl : ((List.range n).filter fun x => decide (x ∈ r)).length ≤ 5 := by
      have := List.length_filter_le (fun x => decide (x ∈ r)) (List.range n)
      rw [List.length_range] at this
      omega
    refine vs_last (vs_ret (d := .tuple [dW WA, dW (indW WA ((List.range n).filter fun x => decide (x ∈ r)))]) (vd_tup (vda_cons (vd_var 9 p9) (vda_cons (vd_call GL hr (vda_cons (vd_call GM hr (vda_cons (vd_var 9 p9) vda_nil) fun R h => ⟨WA, rfl, hao, h⟩) (vda_cons (vd_is (d' := dL ((List.range n).filter fun x => decide (x ∈ r))) (vd_lc1 (g := gName 13) (own := [("_law_node", 13)]) (pi_range1' T.b_range) (ew_range1 (vda_cons (vd_var 5 p5) vda_nil) (by omega)) (by simp; omega) scPair.nd rfl (fun j => decide (j ∈ r)) (fun j => dI j) (blkOk_by (N := nPair) (sc := defScope (topS 49)) (by decide +kernel)) (fun _ _ _ _ _ => by exact pg_name scPair.nd rfl (Or.inl rfl)) (fun j d v Si H9 hd e9 hS9 pv => ?_)) (by rw [List.length_map, List.length_range]; rfl)) vda_nil)) fun R h => ⟨WA.1, adjW WA, _, _, rfl, .lst _, htl, fun x hx => by rw [han]; exact List.mem_range.mp (List.mem_filter.mp hx).1, h⟩) vda_nil)) (Nat.le_of_ble_eq_true rfl)) w13.within fun v' S' H' w' p' => q WA _ hao (indW_ok htl) v' S' H' (((at7.only (e8.trans (e9.trans (e10.trans e11)))).nw.trans w12).trans (w13.trans w')) p')
    obtain ⟨_, rfl⟩ := rg_at hd
    exact ⟨_, fun Q q => q, wipe1 _ 13 v, fun s9 H9 C9 cl9 fp9 => vb_inL (vd_var 13 pv) (vd_var 11 (Dpm p11 e9)), fun _ s9 H9 C9 cl9 fp9 => vd_var 13 pv⟩
  have h8' : pk % 8 < 8 := Nat.mod_lt _ (Nat.succ_pos 7)
  exact @pair_last P w K mg base f cdv A outer s H E GD hr a ns _ _ _ _ _ _ _ _ _ _ _ v3 v9 S7 H11 _ _ _ _ _ _ _ _ _ _ _ _ _ _ _ _ (lastL.getD (pk % 8) 0) WA hs7 p3 p9 (i10.trans e11) (@vd_ixLit (cPair P w K mg base f cdv A outer s H E) _ _ _ _ S7 (pk % 8) [(3, ⟨294, 48, 294, 49⟩), (4, ⟨294, 51, 294, 52⟩), (2, ⟨294, 54, 294, 55⟩), (4, ⟨294, 57, 294, 58⟩), (3, ⟨294, 60, 294, 61⟩), (1, ⟨294, 63, 294, 64⟩), (0, ⟨294, 66, 294, 67⟩), (5, ⟨294, 69, 294, 70⟩)] (vdn_mod (vd_intOf T.b_int (vd_var 4 p4)) (vdn_int (n := 8)) (Nat.succ_pos 7)) h8' (Nat.le_of_ble_eq_true rfl) (fun _ _ => rfl)) (last_le h8') fun v' S' H' B hB w' p' => q WA B hao hB v' S' H' ((at7.only (e8.trans (e9.trans (e10.trans e11)))).nw.trans w') p'
end
end K22
/-! K22, text 33: _law_is_core, _law_is_fold -/
namespace K22
open PySem PySem.Spec PyProof.Rows L2 Evl
theorem sm_ints (j : Nat) {r : List Nat} : ∀ d ∈ r.map dI, Sm (j + 1) d := fun d hd => by
  obtain ⟨n, _, rfl⟩ := List.mem_map.mp hd
  exact trivial
theorem sm_T (j : Nat) {r : List Nat} (h : r.length ≤ 100000) : Sm (j + 2) (dT r) := ⟨by rw [List.length_map]; exact h, sm_ints j⟩
theorem sm_E (j : Nat) (e : Nat × Nat) : Sm (j + 2) (dE e) := ⟨Nat.le_of_ble_eq_true rfl, fun d hd => by
  rcases List.mem_cons.mp hd with rfl | hd
  · exact trivial
  · rw [List.mem_singleton.mp hd]; exact trivial⟩
theorem sm_Es (j : Nat) {es : List (Nat × Nat)} (h : es.length ≤ 100000) : Sm (j + 3) (dEs es) := ⟨by rw [List.length_map]; exact h, fun d hd => by
  obtain ⟨e, _, rfl⟩ := List.mem_map.mp hd
  exact sm_E j e⟩
theorem sm_W (j : Nat) {W : Web} (h : W.2.length ≤ 100000) : Sm (j + 4) (dW W) := ⟨Nat.le_of_ble_eq_true rfl, fun d hd => by
  rcases List.mem_cons.mp hd with rfl | hd
  · exact trivial
  · rw [List.mem_singleton.mp hd]; exact sm_Es j h⟩
theorem leads_law (A B : Web) : (!(dfs (adjW A) (adjW B) B.1 A.1 []).isEmpty) = leadsW A B := rfl
section
variable {X : Cx} {a b : Expr} {pos : Pos} {σ : L2.St} {S : Hp} {n m : Nat}
theorem vb_geN (ha : VD X a σ S (dI n)) (hb : VD X b σ S (dI m)) : VB X (.Compare a [.GtE] [b] pos) σ S (decide (m ≤ n)) := vb_is (vb_ge ha hb) (by rw [Bool.eq_iff_iff, decide_eq_true_eq, decide_eq_true_eq]; omega)
theorem vb_in0 {c : Expr} {j : Nat} {p : Pos} (hb : VD X b σ S (dI n)) (hc : VD X c σ S (dI m)) (h : n < m) (hm : lastMarks [.LtE, .Lt] [b, c] = false := by with_unfolding_all rfl) : VB X (.Compare (.Constant (.int 0) j p) [.LtE, .Lt] [b, c] pos) σ S true := vb_is (vb_within vd_int hb hc hm) (by rw [decide_eq_true (by omega), decide_eq_true (by omega)]; rfl)
end
section
variable {P : Program} {w : World} {K : PySem.W.Frag} {mg : Str → Option Value} {base : Heap}
def prIsCore : PTr := fun ds R => ∃ W : Web, ds = [dW W, dW (coreW W), dT (coreNW W)] ∧ WOk W ∧ R (.bool true)
abbrev nIC : List Str := ["_law_web_here", "_law_told", "_law_nodes", "_law_k", "_law_near", "_law_within", "_law_row", "_law_rows", "_law_own"]
theorem scIC : FnScope nIC ["_law_web_here", "_law_told", "_law_nodes"] (defScope (topS 50)) := ⟨rfl, rfl, rfl, by decide +kernel, rfl, by decide +kernel, by decide +kernel⟩
theorem ok_iscore (T : Txt K mg) : Fn P w K mg base 8 "_law_is_core" prIsCore := by
  have GI : Fn P w K mg base 7 "_law_is_integer" prIsInt := (ok_isint T).mono (by decide)
  have GM : Fn P w K mg base 7 "_law_matrix" prMat := (ok_mat T).mono (by decide)
  have GS : Fn P w K mg base 7 "_law_same" (prSame 6) := ok_same T 6
  have GN : Fn P w K mg base 7 "_law_induced" prLInd := (ok_lind T).mono (by decide)
  have GL : Fn P w K mg base 7 "_law_leads" (prLLeads 6) := ok_lleads T 6
  have GH : Fn P w K mg base 7 "_law_homs" prLHoms := (ok_lhoms T).mono (by decide)
  have GR : Fn P w K mg base 7 "_law_renames" prRenames := (ok_rens T).mono (by decide)
  have GC : Fn P w K mg base 7 "core_nodes" (prOne fun W => dT (coreNW W)) := (ok_cn T).mono (by decide)
  have GK : Fn P w K mg base 7 "core" (prOne fun W => dW (coreW W)) := ok_core T
  have GF : Fn P w K mg base 7 "fold_row" (prOne fun W => dT (foldR W)) := ok_fold T
  have GA : Ga P w K mg base 2 "homs" prHomA := ok_homA T
  have bT : bootBuiltins "tuple" = some (.type "tuple") := by decide +kernel
  refine def_ok T.law_is_core scIC (fun ds R h => by obtain ⟨W, rfl, _⟩ := h; rfl) fun f cdv A outer s S H vs ds Q E hr hS hp h => ?_
  obtain ⟨W, rfl, hW, q⟩ := h
  obtain ⟨v1, v2, v3, rfl, p1, p2, p3⟩ := da3 hp
  have hWn := hW.n
  have hC := coreW_ok hW
  have hCn := hC.n
  have hCf := hC.few
  have hasc := (coreNW_core W).asc
  have hcl := coreNW_len hW
  have kt : kitB (tyD (dT (coreNW W))) "tuple" = some true := rfl
  refine vs_cons (vs_if (t := false) (vb_not (vb_val (t := true) (vd_isi T.b_isinstance T.b_tuple bT (vd_var 2 p3) kt))) hS (fun ht H1 e1 => nomatch ht) fun hf H1 e1 => vs_nil ?_)
  have a1 : At S H S H1 := (At.refl hS).only e1
  refine vs_cons (vs_forN 3 (pi_range1' T.b_range) (ew_range1 (vda_cons (vd_lenTR T.b_len (vd_var 2 p3)) vda_nil) (by omega)) a1.nw.within scIC.nd rfl
    (fun S2 i σ' H' => ∃ y3, At S H S2 H' ∧ Ex S S2 ∧ σ' = [some v1, some v2, some v3, y3, none, none, none, none, none]) (fun S2 H2 w2 => ⟨none, a1.step w2, w2.st, rfl⟩) (fun S2 i σ' H' ⟨_, a, _, _⟩ => a.nw.within) (fun S2 i d x σ' H' H'' e hd h y => ?_) (fun S2 σ' H' e h => ?_))
  · obtain ⟨y3, a2, _, rfl⟩ := h
    obtain ⟨S3, w3, px⟩ := y S2 (Ex.refl _) a2.nw.within
    obtain ⟨hi, rfl⟩ := rg_at hd
    have p1' := Dpm p1 (e.trans w3.st)
    have p3' := Dpm p3 (e.trans w3.st)
    refine vs_last (vs_if (t := false) (vb_is (vb_or3 (t := false) (u := false) (vb_not (vb_val (t := true) (vd_call GI hr (vda_cons (vd_ixTR (vd_var 2 p3') (vd_var 3 px) hi) vda_nil) fun R h => ⟨_, rfl, h⟩))) (fun _ => vb_not (t := true) (vb_in0 (vd_ixTR (vd_var 2 p3') (vd_var 3 px) hi) (vd_web0 (vd_var 0 p1')) (hasc.2 _ (getD_mem hi)))) fun _ _ => vb_is (vb_and (vb_gtN (vd_var 3 px) (vdn_int (n := 0))) fun ht => vb_geN (vd_ixTR (vd_var 2 p3') (vdn_sub (vd_var 3 px) (vdn_int (n := 1)) (by have := of_decide_eq_true ht; omega)) (by omega)) (vd_ixTR (vd_var 2 p3') (vd_var 3 px) hi)) (u := false) ?_) rfl) w3.within (fun ht H1 e1 => nomatch ht) fun hf H4 e4 => ?_)
    · by_cases h0 : 0 < i
      · have := asc_getD hasc (i := i - 1) (j := i) (by omega) hi
        rw [decide_eq_true h0, decide_eq_false (by omega)]; rfl
      · rw [decide_eq_false h0]; rfl
    · exact vs_nil ⟨_, a2.only (w3.hp.trans e4), e, rfl⟩
  · obtain ⟨y3, a2, _, rfl⟩ := h
    have p1 := Dpm p1 e
    have p2 := Dpm p2 e
    have p3 := Dpm p3 e
    refine vs_cons (vs_set 4 (vd_call GM hr (vda_cons (vd_var 0 p1) vda_nil) fun R h => ⟨W, rfl, hW, h⟩) a2.nw.within (fun v5 S3 H3 w3 p5 => ?_) scIC.nd)
    have p1 := Dpm p1 w3.st
    have p2 := Dpm p2 w3.st
    have p3 := Dpm p3 w3.st
    refine vs_cons (vs_if (t := false) (vb_not (vb_val (t := true) (vd_call GS hr (vda_cons (vd_call GN hr (vda_cons (vd_var 4 p5) (vda_cons (vd_var 2 p3) vda_nil)) fun R h => ⟨W.1, adjW W, coreNW W, _, rfl, .tup _, hcl, hasc.2, h⟩) (vda_cons (vd_var 1 p2) vda_nil)) fun R h => ⟨dW (coreW W), rfl, sm_W 2 (by omega), h⟩))) w3.within (fun ht H1 e1 => nomatch ht) fun hf H4 e4 => vs_nil ?_)
    refine vs_cons (vs_set 5 (vd_call GM hr (vda_cons (vd_var 1 p2) vda_nil) fun R h => ⟨coreW W, rfl, hC, h⟩) (w3.within.trans e4) (fun v6 S5 H5 w5 p6 => ?_) scIC.nd)
    have p1 := Dpm p1 w5.st
    have p2 := Dpm p2 w5.st
    have p3 := Dpm p3 w5.st
    have p5 := Dpm p5 w5.st
    have hlead := leads_law W (coreW W)
    rw [core_leads] at hlead
    refine vs_cons (vs_if (t := false) (vb_not (vb_val (t := true) (vd_call GL hr (vda_cons (vd_var 4 p5) (vda_cons (vd_var 5 p6) (vda_cons (vd_lst vda_nil (Nat.zero_le _)) vda_nil))) fun R h => ⟨W.1, adjW W, (coreW W).1, adjW (coreW W), [], W.1, rfl, Nat.zero_add _, by omega, hWn, hCn, (fun x hx => by cases hx), by rw [hlead]; exact h⟩))) w5.within (fun ht H1 e1 => nomatch ht) fun hf H6 e6 => vs_nil ?_)
    have hlen := homsW_len hC hC
    refine vs_cons (vs_lc0 7 (g := gName 6) (own := [("_law_row", 6)]) (pi_list pe_ve) (ew_list (ds := (homsW (coreW W) (coreW W)).map dL) (vd_call GH hr (vda_cons (vd_var 5 p6) (vda_cons (vd_var 5 p6) vda_nil)) fun R h => ⟨(coreW W).1, adjW (coreW W), (coreW W).1, adjW (coreW W), rfl, hCn, hCn, h⟩)) (by rw [List.length_map]; omega) scIC.nd rfl (fun j => dT ((homsW (coreW W) (coreW W)).getD j [])) (blkOk_by (N := nIC) (sc := defScope (topS 50)) (by decide +kernel)) (fun _ _ _ _ _ => by exact pg_name scIC.nd rfl (Or.inl rfl))
      (fun j d v Si H9 hd e9 hS9 pv => ?_) (w5.within.trans e6) (fun v8 S7 H7 w7 p8 => ?_) (sw_true rfl rfl rfl (by decide +kernel)))
    · obtain ⟨r, hrr, rfl⟩ := get_map hd
      rw [getD_some hrr]
      exact ⟨_, fun Q q => q, wipe1 _ 6 v, fun s9 H9 C9 cl9 fp9 => vd_tupleOf T.b_tuple (vd_var 6 pv) (.lst _)⟩
    rw [List.length_map, map_get (homsW (coreW W) (coreW W)) dT []] at p8
    have p1 := Dpm p1 w7.st
    have p2 := Dpm p2 w7.st
    have p3 := Dpm p3 w7.st
    have a7 : At S H S7 H7 := (((a2.step w3).only e4).step w5).only e6 |>.step w7
    refine vs_cons (vs_forN 6 (pi_list pe_ve) (ew_list (vd_var 7 p8)) w7.within scIC.nd rfl
      (fun S8 i σ' H' => ∃ y6, At S H S8 H' ∧ σ' = [some v1, some v2, some v3, y3, some v5, some v6, y6, some v8, none]) (fun S8 H8 w8 => ⟨none, a7.step w8, rfl⟩) (fun S8 i σ' H' ⟨_, a, _⟩ => a.nw.within) (fun S8 i d x σ' H' H'' e8 hd h y => ?_) (fun S8 σ' H' e8 h => ?_))
    · obtain ⟨y6, a8, rfl⟩ := h
      obtain ⟨S9, w9, px⟩ := y S8 (Ex.refl _) a8.nw.within
      obtain ⟨r, hrr, rfl⟩ := get_map hd
      have p2' := Dpm p2 (e8.trans w9.st)
      have hren := core_ren (List.mem_of_getElem? hrr)
      refine vs_last (vs_if (t := false) (vb_not (vb_val (t := true) (vd_call GR hr (vda_cons (vd_var 1 p2') (vda_cons (vd_var 1 p2') (vda_cons (vd_var 6 px) vda_nil))) fun R h => ⟨coreW W, coreW W, r, rfl, hC, hC, rfl, coreW_canon W, coreW_canon W, hren, h⟩))) w9.within (fun ht H1 e1 => nomatch ht) fun hf H4 e4 => ?_)
      exact vs_nil ⟨_, a8.only (w9.hp.trans e4), rfl⟩
    · obtain ⟨y6, a8, rfl⟩ := h
      have p2 := Dpm p2 e8
      have p8 := Dpm p8 e8
      refine vs_cons (vs_set 8 (d := dT (List.range (coreW W).1)) (vd_is (vd_tupleOf T.b_tuple (vd_lc0 (g := gName 3) (own := [("_law_k", 3)]) (pi_range1' T.b_range) (ew_range1 (vda_cons (vd_web0 (W := coreW W) (vd_var 1 p2)) vda_nil) (by omega)) (by simp; omega) scIC.nd rfl (fun j => dI j) (blkOk_by (N := nIC) (sc := defScope (topS 50)) (by decide +kernel)) (fun _ _ _ _ _ => by exact pg_name scIC.nd rfl (Or.inl rfl)) (fun j d v Si H9 hd e9 hS9 pv => ?_)) (.lst _)) (by rw [List.length_map, List.length_range]; rfl)) a8.nw.within (fun v9 S9 H9 w9 p9 => ?_) scIC.nd)
      · obtain ⟨_, rfl⟩ := rg_at hd
        exact ⟨_, fun Q q => q, wipe1 _ 3 v, fun s9 H9 C9 cl9 fp9 => vd_var 3 pv⟩
      have p2 := Dpm p2 w9.st
      have p8 := Dpm p8 w9.st
      have hown : (List.range (coreW W).1).length ≤ 100000 := by rw [List.length_range]; omega
      have hsm3 : Sm 6 (.tuple [dT (List.range (coreW W).1), dW (coreW W), dT (List.range (coreW W).1)]) := ⟨Nat.le_of_ble_eq_true rfl, fun d hd => by
        rcases List.mem_cons.mp hd with rfl | hd
        · exact sm_T 3 hown
        rcases List.mem_cons.mp hd with rfl | hd
        · exact sm_W 1 (by omega)
        · rw [List.mem_singleton.mp hd]; exact sm_T 3 hown⟩
      refine vs_cons (vs_if (t := false) (vb_not (vb_val (t := true) (vd_call GS hr (ds := [.tuple [dT (List.range (coreW W).1), dW (coreW W), dT (List.range (coreW W).1)], .tuple [dT (coreNW (coreW W)), dW (coreW (coreW W)), dT (foldR (coreW W))]]) (vda_cons (vd_tup (vda_cons (vd_var 8 p9) (vda_cons (vd_var 1 p2) (vda_cons (vd_var 8 p9) vda_nil))) (Nat.le_of_ble_eq_true rfl)) (vda_cons (vd_tup (vda_cons (vd_call GC hr (vda_cons (vd_var 1 p2) vda_nil) fun R h => ⟨coreW W, rfl, hC, h⟩) (vda_cons (vd_call GK hr (vda_cons (vd_var 1 p2) vda_nil) fun R h => ⟨coreW W, rfl, hC, h⟩) (vda_cons (vd_call GF hr (vda_cons (vd_var 1 p2) vda_nil) fun R h => ⟨coreW W, rfl, hC, h⟩) vda_nil))) (Nat.le_of_ble_eq_true rfl)) vda_nil)) fun R h => ⟨_, by rw [core_core, core_coreW, fold_core], hsm3, h⟩))) w9.within (fun ht H1 e1 => nomatch ht) fun hf H10 e10 => vs_nil ?_)
      have hsmr : Sm 6 (.list ((homsW (coreW W) (coreW W)).map dT)) := ⟨by rw [List.length_map]; omega, fun d hd => by
        obtain ⟨r, hrr, rfl⟩ := List.mem_map.mp hd
        exact sm_T 3 (by rw [(mem_homsW.mp hrr).len]; omega)⟩
      exact vs_last (vs_ret (vd_call GS hr (vda_cons (vd_var 7 p8) (vda_cons (vd_listG GA (hr.mono (by decide)) T.b_list (vda_cons (vd_var 1 p2) (vda_cons (vd_var 1 p2) vda_nil)) fun R h => ⟨coreW W, coreW W, rfl, hC, hC, h⟩) vda_nil)) fun R h => ⟨_, rfl, hsmr, h⟩) (w9.within.trans e10) fun v' S' H' w' p' => q v' S' H' (((a8.step w9).only e10).nw.trans w') p')
end
end K22
/-! K22, text 34: _law_is_fold, law -/
namespace K22
open PySem PySem.Spec PyProof.Rows L2 Evl
section
variable {P : Program} {w : World} {K : PySem.W.Frag} {mg : Str → Option Value} {base : Heap}
def prIsFold : PTr := fun ds R => ∃ W : Web, ds = [dW W, dT (coreNW W), dT (foldR W)] ∧ WOk W ∧ R (.bool true)
abbrev nIF : List Str := ["_law_web_here", "_law_nodes", "_law_row", "_law_node", "_law_near", "_law_edge"]
theorem scIF : FnScope nIF ["_law_web_here", "_law_nodes", "_law_row"] (defScope (topS 51)) := ⟨rfl, rfl, rfl, by decide +kernel, rfl, by decide +kernel, by decide +kernel⟩
theorem sortN_core {r c : List Nat} (p : r.Perm c) (h : c.Pairwise (· < ·)) : sortN r = c := (sortN_unique p.symm (h.imp fun {a b} hab => Nat.le_of_lt hab)).symm
theorem ok_isfold (T : Txt K mg) : Fn P w K mg base 8 "_law_is_fold" prIsFold := by
  have GI : Fn P w K mg base 7 "_law_is_integer" prIsInt := (ok_isint T).mono (by decide)
  have GM : Fn P w K mg base 7 "_law_matrix" prMat := (ok_mat T).mono (by decide)
  have bT : bootBuiltins "tuple" = some (.type "tuple") := by decide +kernel
  refine def_ok T.law_is_fold scIF (fun ds R h => by obtain ⟨W, rfl, _⟩ := h; rfl) fun f cdv A outer s S H vs ds Q E hr hS hp h => ?_
  obtain ⟨W, rfl, hW, q⟩ := h
  obtain ⟨v1, v2, v3, rfl, p1, p2, p3⟩ := da3 hp
  have hWn := hW.n
  have hWf := hW.few
  have hF := fold_ok hW
  have hasc := (coreNW_core W).asc
  have hcl := coreNW_len hW
  have hfl := hF.len
  have hflt : ∀ x ∈ foldR W, x < W.1 := fun x hx => hasc.2 x (hF.mem x hx)
  have kt : kitB (tyD (dT (foldR W))) "tuple" = some true := rfl
  refine vs_cons (vs_if (vb_is (vb_or (vb_not (vb_val (t := true) (vd_isi T.b_isinstance T.b_tuple bT (vd_var 2 p3) kt))) fun _ => vb_neN (vd_lenTR T.b_len (vd_var 2 p3)) (vd_web0 (vd_var 0 p1))) (u := false) (by rw [hfl]; simp)) hS (fun ht H1 e1 => nomatch ht) fun hf H1 e1 => vs_nil ?_)
  have a1 : At S H S H1 := (At.refl hS).only e1
  refine vs_cons (vs_forN 3 (pi_tup pe_ve) (ew_tup (ds := (foldR W).map dI) (vd_var 2 p3)) a1.nw.within scIF.nd rfl
    (fun S2 i σ' H' => ∃ y3, At S H S2 H' ∧ σ' = [some v1, some v2, some v3, y3, none, none]) (fun S2 H2 w2 => ⟨none, a1.step w2, rfl⟩) (fun S2 i σ' H' ⟨_, a, _⟩ => a.nw.within) (fun S2 i d x σ' H' H'' e hd h y => ?_) (fun S2 σ' H' e h => ?_))
  · obtain ⟨y3, a2, rfl⟩ := h
    obtain ⟨S3, w3, px⟩ := y S2 (Ex.refl _) a2.nw.within
    obtain ⟨m, hm, rfl⟩ := get_map hd
    have hmem := hF.mem m (List.mem_of_getElem? hm)
    refine vs_last (vs_if (vb_is (vb_or (t := false) (vb_not (vb_val (t := true) (vd_call GI hr (vda_cons (vd_var 3 px) vda_nil) fun R h => ⟨m, rfl, h⟩))) fun _ => vb_niT (vd_var 3 px) (vd_var 1 (Dpm p2 (e.trans w3.st)))) (u := false) (by rw [decide_eq_true hmem]; rfl)) w3.within (fun ht H1 e1 => nomatch ht) fun hf H4 e4 => ?_)
    exact vs_nil ⟨_, a2.only (w3.hp.trans e4), rfl⟩
  · obtain ⟨y3, a2, rfl⟩ := h
    have p1 := Dpm p1 e
    have p2 := Dpm p2 e
    have p3 := Dpm p3 e
    refine vs_cons (vs_set 4 (vd_call GM hr (vda_cons (vd_var 0 p1) vda_nil) fun R h => ⟨W, rfl, hW, h⟩) a2.nw.within (fun v5 S3 H3 w3 p5 => ?_) scIF.nd)
    have p1 := Dpm p1 w3.st
    have p2 := Dpm p2 w3.st
    have p3 := Dpm p3 w3.st
    have a3 := a2.step w3
    refine vs_cons (vs_forN 5 (pi_tup pe_ve) (ew_tup (ds := W.2.map dE) (vd_web1 (vd_var 0 p1))) w3.within scIF.nd rfl
      (fun S4 i σ' H' => ∃ y5, At S H S4 H' ∧ σ' = [some v1, some v2, some v3, y3, some v5, y5]) (fun S4 H4 w4 => ⟨none, a3.step w4, rfl⟩) (fun S4 i σ' H' ⟨_, a, _⟩ => a.nw.within) (fun S4 i d x σ' H' H'' e4 hd h y => ?_) (fun S4 σ' H' e4 h => ?_))
    · obtain ⟨y5, a4, rfl⟩ := h
      obtain ⟨S5, w5, px⟩ := y S4 (Ex.refl _) a4.nw.within
      obtain ⟨ed, hed, rfl⟩ := get_map hd
      have hm := List.mem_of_getElem? hed
      have hb := hW.lt ed hm
      have p3' := Dpm p3 (e4.trans w5.st)
      have h0 : ed.1 < (foldR W).length := by rw [hfl]; exact hb.1
      have h1 : ed.2 < (foldR W).length := by rw [hfl]; exact hb.2
      refine vs_last (vs_if (vb_is (vb_not (vb_val (vd_mat (vd_var 4 (Dpm p5 (e4.trans w5.st))) (vd_ixTR (vd_var 2 p3') (vd_e0 (vd_var 5 px)) h0) (vd_ixTR (vd_var 2 p3') (vd_e1 (vd_var 5 px)) h1) (hflt _ (getD_mem h0)) (hflt _ (getD_mem h1))))) (u := false) (by rw [hF.adj ed hm]; rfl)) w5.within (fun ht H1 e1 => nomatch ht) fun hf H6 e6 => ?_)
      exact vs_nil ⟨_, a4.only (w5.hp.trans e6), rfl⟩
    · obtain ⟨y5, a4, rfl⟩ := h
      have p2 := Dpm p2 e4
      have p3 := Dpm p3 e4
      refine vs_last (vs_ret (vd_eqD (d := dL (sortN ((coreNW W).map fun x => (foldR W).getD x 0))) (d2 := dL (coreNW W)) (t := true) hr.units (vd_sortedL T.b_sorted (vd_is (d' := dL ((coreNW W).map fun x => (foldR W).getD x 0)) (vd_lc0 (g := gName 3) (own := [("_law_node", 3)]) (pi_tup pe_ve) (ew_tup (ds := (coreNW W).map dI) (vd_var 1 p2)) (by rw [List.length_map]; omega) scIF.nd rfl (fun j => dI ((foldR W).getD ((coreNW W).getD j 0) 0)) (blkOk_by (N := nIF) (sc := defScope (topS 51)) (by decide +kernel)) (fun _ _ _ _ _ => by exact pg_name scIF.nd rfl (Or.inl rfl)) (fun j d v Si H9 hd e9 hS9 pv => ?_)) ?_) (by rw [List.length_map]; omega)) (vd_listOf T.b_list (vd_var 1 p2) (.tup _)) (sh_L _) (sh_L _) ?_) a4.nw.within fun v' S' H' w' p' => q v' S' H' (a4.nw.trans w') p')
      · obtain ⟨x, hx, rfl⟩ := get_map hd
        rw [getD_some hx]
        exact ⟨_, fun Q q => q, wipe1 _ 3 v, fun s9 H9 C9 cl9 fp9 => vd_ixTR (vd_var 2 (Dpm p3 e9)) (vd_var 3 pv) (by rw [hfl]; exact hasc.2 x (List.mem_of_getElem? hx))⟩
      · rw [List.length_map, map_get (coreNW W) (fun x => dI ((foldR W).getD x 0)) 0]
        unfold dL
        rw [List.map_map]
        rfl
      · rw [eqv_L, sortN_core hF.onto hasc.1]
        exact decide_eq_true rfl
/-! ### law -/
def prLaw : PTS := fun ns ds R => ds = [] ∧ R (.bool true)
abbrev nLaw : List Str := ["_law_script", "_law_a", "_law_b", "_law_first", "_law_second", "_law_there", "_law_both", "_law_told", "_law_row"]
theorem scLaw : FnScope nLaw ["_law_script"] (defScope (topS 52)) := ⟨rfl, rfl, rfl, by decide +kernel, rfl, by decide +kernel, by decide +kernel⟩
theorem law_body (T : Txt K mg) {f : Addr} {cdv : Value} {A : Around} {outer : List Env} {s : Shared} {S H : Hp} {a : Addr} {ns : List Int} {Q : VK} {E : XK} (hr : Room 8 (A.deeper (envOfC "law" (defScope (topS 52)) s.heap.objs.size f cdv))) (hS : Ex S H) (hs : SqL K S a (ns.map V.int)) (q : ∀ v S' H', Nw S H S' H' → DD K S' v (.bool true) → Q v H') :
    VSs (cxB P w K mg base nLaw "law" (defScope (topS 52)) f cdv A outer s H E) (defBody (topS 52)) { nx := fun _ H' => Q .non H', rt := Q } (start nLaw [.ref a]) H := by
  have GP : FnS P w K mg base 8 "_law_pair" prPair := (ok_pair T).mono (by decide)
  have GK : Fn P w K mg base 8 "core" (prOne fun W => dW (coreW W)) := (ok_core T).mono (by decide)
  have GC : Fn P w K mg base 8 "core_nodes" (prOne fun W => dT (coreNW W)) := (ok_cn T).mono (by decide)
  have GF : Fn P w K mg base 8 "fold_row" (prOne fun W => dT (foldR W)) := (ok_fold T).mono (by decide)
  have GIC : Fn P w K mg base 8 "_law_is_core" prIsCore := ok_iscore T
  have GIF : Fn P w K mg base 8 "_law_is_fold" prIsFold := ok_isfold T
  have GL : Fn P w K mg base 8 "_law_leads" (prLLeads 6) := (ok_lleads T 6).mono (by decide)
  have GM : Fn P w K mg base 8 "_law_matrix" prMat := (ok_mat T).mono (by decide)
  have GS : Fn P w K mg base 8 "_law_same" (prSame 6) := (ok_same T 6).mono (by decide)
  have GE : Fn P w K mg base 8 "leads" (prTwo fun W B => .bool (leadsW W B)) := (ok_leads T).mono (by decide)
  have GR : Fn P w K mg base 8 "same_rank" (prTwo fun W B => .bool (leadsW W B && leadsW B W)) := (ok_rank T).mono (by decide)
  have GN : Fn P w K mg base 8 "find_renaming" prFind := ok_find T
  have GRs : Fn P w K mg base 8 "_law_renames" prRenames := (ok_rens T).mono (by decide)
  have hsm : ∀ t : Bool, Sm 6 (.bool t) := fun t => trivial
  refine vs_cons (vs_of (ps_asg pe_ve (pg_pair (i := 1) (j := 2) scLaw.nd rfl)) ?_)
  refine ve_callS GP hr (vv_var 0) hs vda_nil hS fun S1 H1 w1 => ⟨rfl, fun WA WB hA hB v S2 H2 w2 pv => g_pair w2.within pv fun va vb pa pb => ?_⟩
  have hAC := coreW_ok hA
  have hBC := coreW_ok hB
  have at2 : At S H S2 H2 := ⟨w1.trans w2⟩
  refine vs_cons (vs_set 3 (vd_call GK hr (vda_cons (vd_var 1 pa) vda_nil) fun R h => ⟨WA, rfl, hA, h⟩) w2.within (fun vf S3 H3 w3 pf => ?_) scLaw.nd)
  have pa := Dpm pa w3.st
  have pb := Dpm pb w3.st
  refine vs_cons (vs_set 4 (vd_call GK hr (vda_cons (vd_var 2 pb) vda_nil) fun R h => ⟨WB, rfl, hB, h⟩) w3.within (fun vs S4 H4 w4 ps => ?_) scLaw.nd)
  have pa := Dpm pa w4.st
  have pb := Dpm pb w4.st
  have pf := Dpm pf w4.st
  have at4 : At S H S4 H4 := (at2.step w3).step w4
  refine vs_cons (vs_if (t := false) (vb_or (t := false) (u := false) (vb_not (vb_val (t := true) (vd_call GIC hr (vda_cons (vd_var 1 pa) (vda_cons (vd_var 3 pf) (vda_cons (vd_call GC hr (vda_cons (vd_var 1 pa) vda_nil) fun R h => ⟨WA, rfl, hA, h⟩) vda_nil))) fun R h => ⟨WA, rfl, hA, h⟩))) fun _ => vb_not (vb_val (t := true) (vd_call GIC hr (vda_cons (vd_var 2 pb) (vda_cons (vd_var 4 ps) (vda_cons (vd_call GC hr (vda_cons (vd_var 2 pb) vda_nil) fun R h => ⟨WB, rfl, hB, h⟩) vda_nil))) fun R h => ⟨WB, rfl, hB, h⟩))) w4.within (fun ht H1 e1 => nomatch ht) fun hf H5 e5 => vs_nil ?_)
  refine vs_cons (vs_if (t := false) (vb_or (t := false) (u := false) (vb_not (vb_val (t := true) (vd_call GIF hr (vda_cons (vd_var 1 pa) (vda_cons (vd_call GC hr (vda_cons (vd_var 1 pa) vda_nil) fun R h => ⟨WA, rfl, hA, h⟩) (vda_cons (vd_call GF hr (vda_cons (vd_var 1 pa) vda_nil) fun R h => ⟨WA, rfl, hA, h⟩) vda_nil))) fun R h => ⟨WA, rfl, hA, h⟩))) fun _ => vb_not (vb_val (t := true) (vd_call GIF hr (vda_cons (vd_var 2 pb) (vda_cons (vd_call GC hr (vda_cons (vd_var 2 pb) vda_nil) fun R h => ⟨WB, rfl, hB, h⟩) (vda_cons (vd_call GF hr (vda_cons (vd_var 2 pb) vda_nil) fun R h => ⟨WB, rfl, hB, h⟩) vda_nil))) fun R h => ⟨WB, rfl, hB, h⟩))) (w4.within.trans e5) (fun ht H1 e1 => nomatch ht) fun hf H6 e6 => vs_nil ?_)
  have hAn := hA.n
  have hBn := hB.n
  refine vs_cons (vs_set 5 (d := .bool (leadsW WA WB)) (vd_call GL hr (vda_cons (vd_call GM hr (vda_cons (vd_var 1 pa) vda_nil) fun R h => ⟨WA, rfl, hA, h⟩) (vda_cons (vd_call GM hr (vda_cons (vd_var 2 pb) vda_nil) fun R h => ⟨WB, rfl, hB, h⟩) (vda_cons (vd_lst vda_nil (Nat.zero_le _)) vda_nil))) fun R h => ⟨WA.1, adjW WA, WB.1, adjW WB, [], WA.1, rfl, Nat.zero_add _, by omega, hAn, hBn, (fun x hx => by cases hx), h⟩) (w4.within.trans (e5.trans e6)) (fun vt S7 H7 w7 pt => ?_) scLaw.nd)
  have at7 : At S H S7 H7 := (at4.only (e5.trans e6)).step w7
  have pa := Dpm pa w7.st
  have pb := Dpm pb w7.st
  have pf := Dpm pf w7.st
  have ps := Dpm ps w7.st
  refine vs_cons (vs_set 6 (d := .bool (leadsW WA WB && leadsW WB WA)) (vd_and (vd_var 5 pt) fun _ => vd_call GL hr (vda_cons (vd_call GM hr (vda_cons (vd_var 2 pb) vda_nil) fun R h => ⟨WB, rfl, hB, h⟩) (vda_cons (vd_call GM hr (vda_cons (vd_var 1 pa) vda_nil) fun R h => ⟨WA, rfl, hA, h⟩) (vda_cons (vd_lst vda_nil (Nat.zero_le _)) vda_nil))) fun R h => ⟨WB.1, adjW WB, WA.1, adjW WA, [], WB.1, rfl, Nat.zero_add _, by omega, hBn, hAn, (fun x hx => by cases hx), h⟩) w7.within (fun vb8 S8 H8 w8 pb8 => ?_) scLaw.nd)
  have at8 : At S H S8 H8 := at7.step w8
  have pa := Dpm pa w8.st
  have pb := Dpm pb w8.st
  have pf := Dpm pf w8.st
  have ps := Dpm ps w8.st
  have pt := Dpm pt w8.st
  refine vs_cons (vs_if (t := false) (vb_or (t := false) (u := false) (vb_not (vb_val (t := true) (vd_call GS hr (vda_cons (vd_var 5 pt) (vda_cons (vd_call GE hr (vda_cons (vd_var 1 pa) (vda_cons (vd_var 2 pb) vda_nil)) fun R h => ⟨WA, WB, rfl, hA, hB, h⟩) vda_nil)) fun R h => ⟨_, rfl, hsm _, h⟩))) fun _ => vb_not (vb_val (t := true) (vd_call GS hr (ds := [.bool (leadsW WA WB), .bool (leadsW (coreW WA) (coreW WB))]) (vda_cons (vd_var 5 pt) (vda_cons (vd_call GE hr (vda_cons (vd_var 3 pf) (vda_cons (vd_var 4 ps) vda_nil)) fun R h => ⟨coreW WA, coreW WB, rfl, hAC, hBC, h⟩) vda_nil)) fun R h => ⟨.bool (leadsW WA WB), by rw [leads_cores], hsm _, h⟩))) w8.within (fun ht H1 e1 => nomatch ht) fun hf H9 e9 => vs_nil ?_)
  have i9 := w8.within.trans e9
  have at9 : At S H S8 H9 := at8.only e9
  refine vs_cons (vs_forN 7 (pi_list pe_ve) (ew_list (ds := [.bool (leadsW WA WB && leadsW WB WA), .bool (leadsW WB WA && leadsW WA WB), .bool (leadsW (coreW WA) (coreW WB) && leadsW (coreW WB) (coreW WA)), .bool (leadsW WA (coreW WB) && leadsW (coreW WB) WA)]) (vd_lst (vda_cons (vd_call GR hr (vda_cons (vd_var 1 pa) (vda_cons (vd_var 2 pb) vda_nil)) fun R h => ⟨WA, WB, rfl, hA, hB, h⟩) (vda_cons (vd_call GR hr (vda_cons (vd_var 2 pb) (vda_cons (vd_var 1 pa) vda_nil)) fun R h => ⟨WB, WA, rfl, hB, hA, h⟩) (vda_cons (vd_call GR hr (vda_cons (vd_var 3 pf) (vda_cons (vd_var 4 ps) vda_nil)) fun R h => ⟨coreW WA, coreW WB, rfl, hAC, hBC, h⟩) (vda_cons (vd_call GR hr (vda_cons (vd_var 1 pa) (vda_cons (vd_var 4 ps) vda_nil)) fun R h => ⟨WA, coreW WB, rfl, hA, hBC, h⟩) vda_nil)))) (Nat.le_of_ble_eq_true rfl))) i9 scLaw.nd rfl
    (fun S10 i σ' H' => ∃ y7, At S H S10 H' ∧ σ' = [some (.ref a), some va, some vb, some vf, some vs, some vt, some vb8, y7, none]) (fun S10 H10 w10 => ⟨none, at9.step w10, rfl⟩) (fun S10 i σ' H' ⟨_, a, _⟩ => a.nw.within) (fun S10 i d x σ' H' H'' e10 hd h y => ?_) (fun S10 σ' H' e10 h => ?_))
  · obtain ⟨y7, a10, rfl⟩ := h
    obtain ⟨S11, w11, px⟩ := y S10 (Ex.refl _) a10.nw.within
    have hdd : d = .bool (leadsW WA WB && leadsW WB WA) := by
      have hm := List.mem_of_getElem? hd
      rcases List.mem_cons.mp hm with h | hm
      · exact h
      rcases List.mem_cons.mp hm with h | hm
      · rw [h, Bool.and_comm]
      rcases List.mem_cons.mp hm with h | hm
      · rw [h, leads_cores, leads_cores]
      · rw [List.mem_singleton.mp hm, leads_core_r, leads_core_l]
    subst hdd
    refine vs_last (vs_if (t := false) (vb_not (vb_val (t := true) (vd_call GS hr (vda_cons (vd_var 6 (Dpm pb8 (e10.trans w11.st))) (vda_cons (vd_var 7 px) vda_nil)) fun R h => ⟨_, rfl, hsm _, h⟩))) w11.within (fun ht H1 e1 => nomatch ht) fun hf H12 e12 => ?_)
    exact vs_nil ⟨_, a10.only (w11.hp.trans e12), rfl⟩
  · obtain ⟨y7, a10, rfl⟩ := h
    have pa := Dpm pa e10
    have pb := Dpm pb e10
    have pf := Dpm pf e10
    have ps := Dpm ps e10
    have pb8 := Dpm pb8 e10
    have k1 : (leadsW WA (coreW WA) && leadsW (coreW WA) WA) = true := by rw [core_leads, leads_back]; rfl
    have k2 : (leadsW (coreW WB) WB && leadsW WB (coreW WB)) = true := by rw [core_leads, leads_back]; rfl
    refine vs_cons (vs_if (vb_is (vb_or (vb_notTrue (vd_call GR hr (vda_cons (vd_var 1 pa) (vda_cons (vd_var 3 pf) vda_nil)) fun R h => ⟨WA, coreW WA, rfl, hA, hAC, h⟩)) fun _ => vb_notTrue (vd_call GR hr (vda_cons (vd_var 4 ps) (vda_cons (vd_var 2 pb) vda_nil)) fun R h => ⟨coreW WB, WB, rfl, hBC, hB, h⟩)) (u := false) (by rw [k1, k2]; rfl)) a10.nw.within (fun ht H1 e1 => nomatch ht) fun hf H11 e11 => vs_nil ?_)
    refine vs_cons (vs_set 8 (vd_call GN hr (vda_cons (vd_var 3 pf) (vda_cons (vd_var 4 ps) vda_nil)) fun R h => ⟨coreW WA, coreW WB, rfl, hAC, hBC, h⟩) (a10.nw.within.trans e11) (fun vr S12 H12 w12 pr => ?_) scLaw.nd)
    have at12 : At S H S12 H12 := (a10.only e11).step w12
    have pf := Dpm pf w12.st
    have ps := Dpm ps w12.st
    refine vs_cons (vs_if (vb_val (vd_var 6 (Dpm pb8 w12.st))) w12.within (fun ht H13 e13 => ?_) fun hf H13 e13 => vs_nil ?_)
    · rw [Bool.and_eq_true] at ht
      obtain ⟨r, hfr, hren, hn⟩ := ren_found ht.1 ht.2
      rw [hfr] at pr
      exact vs_last (vs_ret (vd_call GRs hr (vda_cons (vd_var 3 pf) (vda_cons (vd_var 4 ps) (vda_cons (vd_var 8 pr) vda_nil))) fun R h => ⟨coreW WA, coreW WB, r, rfl, hAC, hBC, hn, coreW_canon WA, coreW_canon WB, hren, h⟩) (w12.within.trans e13) fun v' S' H' w' p' => q v' S' H' ((at12.only e13).nw.trans w') p')
    · have hno := ren_none (a := WA) (b := WB) (fun h => by rw [h.1, h.2] at hf; cases hf)
      rw [hno] at pr
      exact vs_last (vs_ret (vd_isN (vd_var 8 pr)) (w12.within.trans e13) fun v' S' H' w' p' => q v' S' H' ((at12.only e13).nw.trans w') p')
end
end K22
/-! K22, text 35: the text's defs; the walk -/
namespace K22
open PySem PySem.Spec PyProof.Rows L2 Evl
theorem def_mk {K : PySem.W.Frag} {h : Heap} {mg : Str → Option Value} (X : K.In h) (G : h.Ns mainGlobals mg) {i : Nat} {x : Str} {ps : List Str} {f : Addr} {oc : Value} {od an : Option Addr} {sl : Array (Option Value)} {kV dc pm cd ct : Value}
    (a : PySem.W.nsIn K mainGlobals x = some (some (.ref f))) (l : K.lookup f = some ⟨oc, od, .func (PySem.W.fnOf x x (defArgs (topS i)) (defBody (topS i)) (defScope (topS i)) .none kV dc pm an cd ct), sl⟩) (c : PySem.W.codeIn K cd x = true) (k : PySem.W.keepIn K (.ref f) = true)
    (b : ∀ (kV doc pm : Value) (an : Option Addr) (cdv ct : Value) (us : List Value), us.length = ps.length → bindArgs (PySem.W.fnOf x x (defArgs (topS i)) (defBody (topS i)) (defScope (topS i)) .none kV doc pm an cdv ct) ⟨us, []⟩ = pure (ps.zip us)) : Def K mg i x ps :=
  ⟨f, _, fun_mk (st := topS i) l c k, PySem.W.mg_of X G a, (fun_mk (st := topS i) l c k).binds b⟩
section
variable {P : Program} {w : World} {K : PySem.W.Frag} {mg : Str → Option Value} {base : Heap} {f : Addr} {fd : FuncData}
theorem ok_law (F : Fun K "law" "law" (topS 52) f fd) (T : Txt K mg) : FnOk P w K mg base CX0 9 f fd ["_law_script"] (spS K prLaw) := by
  refine F.ok scLaw (fun vs H Q E h => ?_) fun cdv A outer s H vs Q E hr h => ?_
  · obtain ⟨S, a, ns, vs', ds, rfl, _, _, h1, rfl, _⟩ := h
    rw [List.length_cons, da_len h1]; rfl
  · obtain ⟨S, a, ns, vs', ds, rfl, h0, hs, h1, rfl, q⟩ := h
    cases da_nil h1
    exact ⟨_, pss_vss, law_body T hr h0 hs q⟩
end
theorem all_mk {l : PySem.W.OpenLaw} {w : World} {K : PySem.W.Frag} {h : Heap} {mg : Str → Option Value} {fa : Addr} (X : K.In h) (G : h.Ns mainGlobals mg) (hfa : mg "law" = some (.ref fa))
    {f7 : Addr} {oc7 kV7 dc7 pm7 cd7 ct7 : Value} {od7 an7 : Option Addr} {sl7 : Array (Option Value)} (a7 : PySem.W.nsIn K mainGlobals "make_web" = some (some (.ref f7))) (l7 : K.lookup f7 = some ⟨oc7, od7, .func (PySem.W.fnOf "make_web" "make_web" (defArgs (topS 7)) (defBody (topS 7)) (defScope (topS 7)) .none kV7 dc7 pm7 an7 cd7 ct7), sl7⟩) (c7 : PySem.W.codeIn K cd7 "make_web" = true) (k7 : PySem.W.keepIn K (.ref f7) = true)
    {f8 : Addr} {oc8 kV8 dc8 pm8 cd8 ct8 : Value} {od8 an8 : Option Addr} {sl8 : Array (Option Value)} (a8 : PySem.W.nsIn K mainGlobals "neighbour_rows" = some (some (.ref f8))) (l8 : K.lookup f8 = some ⟨oc8, od8, .func (PySem.W.fnOf "neighbour_rows" "neighbour_rows" (defArgs (topS 8)) (defBody (topS 8)) (defScope (topS 8)) .none kV8 dc8 pm8 an8 cd8 ct8), sl8⟩) (c8 : PySem.W.codeIn K cd8 "neighbour_rows" = true) (k8 : PySem.W.keepIn K (.ref f8) = true)
    {f9 : Addr} {oc9 kV9 dc9 pm9 cd9 ct9 : Value} {od9 an9 : Option Addr} {sl9 : Array (Option Value)} (a9 : PySem.W.nsIn K mainGlobals "induced" = some (some (.ref f9))) (l9 : K.lookup f9 = some ⟨oc9, od9, .func (PySem.W.fnOf "induced" "induced" (defArgs (topS 9)) (defBody (topS 9)) (defScope (topS 9)) .none kV9 dc9 pm9 an9 cd9 ct9), sl9⟩) (c9 : PySem.W.codeIn K cd9 "induced" = true) (k9 : PySem.W.keepIn K (.ref f9) = true)
    {f12 : Addr} {oc12 kV12 dc12 pm12 cd12 ct12 : Value} {od12 an12 : Option Addr} {sl12 : Array (Option Value)} (a12 : PySem.W.nsIn K mainGlobals "count_maps" = some (some (.ref f12))) (l12 : K.lookup f12 = some ⟨oc12, od12, .func (PySem.W.fnOf "count_maps" "count_maps" (defArgs (topS 12)) (defBody (topS 12)) (defScope (topS 12)) .none kV12 dc12 pm12 an12 cd12 ct12), sl12⟩) (c12 : PySem.W.codeIn K cd12 "count_maps" = true) (k12 : PySem.W.keepIn K (.ref f12) = true)
    {f13 : Addr} {oc13 kV13 dc13 pm13 cd13 ct13 : Value} {od13 an13 : Option Addr} {sl13 : Array (Option Value)} (a13 : PySem.W.nsIn K mainGlobals "fits" = some (some (.ref f13))) (l13 : K.lookup f13 = some ⟨oc13, od13, .func (PySem.W.fnOf "fits" "fits" (defArgs (topS 13)) (defBody (topS 13)) (defScope (topS 13)) .none kV13 dc13 pm13 an13 cd13 ct13), sl13⟩) (c13 : PySem.W.codeIn K cd13 "fits" = true) (k13 : PySem.W.keepIn K (.ref f13) = true)
    {f14 : Addr} {oc14 kV14 dc14 pm14 cd14 ct14 : Value} {od14 an14 : Option Addr} {sl14 : Array (Option Value)} (a14 : PySem.W.nsIn K mainGlobals "homs" = some (some (.ref f14))) (l14 : K.lookup f14 = some ⟨oc14, od14, .func (PySem.W.fnOf "homs" "homs" (defArgs (topS 14)) (defBody (topS 14)) (defScope (topS 14)) .none kV14 dc14 pm14 an14 cd14 ct14), sl14⟩) (c14 : PySem.W.codeIn K cd14 "homs" = true) (k14 : PySem.W.keepIn K (.ref f14) = true)
    {f16 : Addr} {oc16 kV16 dc16 pm16 cd16 ct16 : Value} {od16 an16 : Option Addr} {sl16 : Array (Option Value)} (a16 : PySem.W.nsIn K mainGlobals "first_hom" = some (some (.ref f16))) (l16 : K.lookup f16 = some ⟨oc16, od16, .func (PySem.W.fnOf "first_hom" "first_hom" (defArgs (topS 16)) (defBody (topS 16)) (defScope (topS 16)) .none kV16 dc16 pm16 an16 cd16 ct16), sl16⟩) (c16 : PySem.W.codeIn K cd16 "first_hom" = true) (k16 : PySem.W.keepIn K (.ref f16) = true)
    {f17 : Addr} {oc17 kV17 dc17 pm17 cd17 ct17 : Value} {od17 an17 : Option Addr} {sl17 : Array (Option Value)} (a17 : PySem.W.nsIn K mainGlobals "leads" = some (some (.ref f17))) (l17 : K.lookup f17 = some ⟨oc17, od17, .func (PySem.W.fnOf "leads" "leads" (defArgs (topS 17)) (defBody (topS 17)) (defScope (topS 17)) .none kV17 dc17 pm17 an17 cd17 ct17), sl17⟩) (c17 : PySem.W.codeIn K cd17 "leads" = true) (k17 : PySem.W.keepIn K (.ref f17) = true)
    {f18 : Addr} {oc18 kV18 dc18 pm18 cd18 ct18 : Value} {od18 an18 : Option Addr} {sl18 : Array (Option Value)} (a18 : PySem.W.nsIn K mainGlobals "same_rank" = some (some (.ref f18))) (l18 : K.lookup f18 = some ⟨oc18, od18, .func (PySem.W.fnOf "same_rank" "same_rank" (defArgs (topS 18)) (defBody (topS 18)) (defScope (topS 18)) .none kV18 dc18 pm18 an18 cd18 ct18), sl18⟩) (c18 : PySem.W.codeIn K cd18 "same_rank" = true) (k18 : PySem.W.keepIn K (.ref f18) = true)
    {f21 : Addr} {oc21 kV21 dc21 pm21 cd21 ct21 : Value} {od21 an21 : Option Addr} {sl21 : Array (Option Value)} (a21 : PySem.W.nsIn K mainGlobals "node_sets" = some (some (.ref f21))) (l21 : K.lookup f21 = some ⟨oc21, od21, .func (PySem.W.fnOf "node_sets" "node_sets" (defArgs (topS 21)) (defBody (topS 21)) (defScope (topS 21)) .none kV21 dc21 pm21 an21 cd21 ct21), sl21⟩) (c21 : PySem.W.codeIn K cd21 "node_sets" = true) (k21 : PySem.W.keepIn K (.ref f21) = true)
    {f22 : Addr} {oc22 kV22 dc22 pm22 cd22 ct22 : Value} {od22 an22 : Option Addr} {sl22 : Array (Option Value)} (a22 : PySem.W.nsIn K mainGlobals "core_nodes" = some (some (.ref f22))) (l22 : K.lookup f22 = some ⟨oc22, od22, .func (PySem.W.fnOf "core_nodes" "core_nodes" (defArgs (topS 22)) (defBody (topS 22)) (defScope (topS 22)) .none kV22 dc22 pm22 an22 cd22 ct22), sl22⟩) (c22 : PySem.W.codeIn K cd22 "core_nodes" = true) (k22 : PySem.W.keepIn K (.ref f22) = true)
    {f23 : Addr} {oc23 kV23 dc23 pm23 cd23 ct23 : Value} {od23 an23 : Option Addr} {sl23 : Array (Option Value)} (a23 : PySem.W.nsIn K mainGlobals "core" = some (some (.ref f23))) (l23 : K.lookup f23 = some ⟨oc23, od23, .func (PySem.W.fnOf "core" "core" (defArgs (topS 23)) (defBody (topS 23)) (defScope (topS 23)) .none kV23 dc23 pm23 an23 cd23 ct23), sl23⟩) (c23 : PySem.W.codeIn K cd23 "core" = true) (k23 : PySem.W.keepIn K (.ref f23) = true)
    {f24 : Addr} {oc24 kV24 dc24 pm24 cd24 ct24 : Value} {od24 an24 : Option Addr} {sl24 : Array (Option Value)} (a24 : PySem.W.nsIn K mainGlobals "fold_row" = some (some (.ref f24))) (l24 : K.lookup f24 = some ⟨oc24, od24, .func (PySem.W.fnOf "fold_row" "fold_row" (defArgs (topS 24)) (defBody (topS 24)) (defScope (topS 24)) .none kV24 dc24 pm24 an24 cd24 ct24), sl24⟩) (c24 : PySem.W.codeIn K cd24 "fold_row" = true) (k24 : PySem.W.keepIn K (.ref f24) = true)
    {f27 : Addr} {oc27 kV27 dc27 pm27 cd27 ct27 : Value} {od27 an27 : Option Addr} {sl27 : Array (Option Value)} (a27 : PySem.W.nsIn K mainGlobals "may_follow" = some (some (.ref f27))) (l27 : K.lookup f27 = some ⟨oc27, od27, .func (PySem.W.fnOf "may_follow" "may_follow" (defArgs (topS 27)) (defBody (topS 27)) (defScope (topS 27)) .none kV27 dc27 pm27 an27 cd27 ct27), sl27⟩) (c27 : PySem.W.codeIn K cd27 "may_follow" = true) (k27 : PySem.W.keepIn K (.ref f27) = true)
    {f28 : Addr} {oc28 kV28 dc28 pm28 cd28 ct28 : Value} {od28 an28 : Option Addr} {sl28 : Array (Option Value)} (a28 : PySem.W.nsIn K mainGlobals "completed" = some (some (.ref f28))) (l28 : K.lookup f28 = some ⟨oc28, od28, .func (PySem.W.fnOf "completed" "completed" (defArgs (topS 28)) (defBody (topS 28)) (defScope (topS 28)) .none kV28 dc28 pm28 an28 cd28 ct28), sl28⟩) (c28 : PySem.W.codeIn K cd28 "completed" = true) (k28 : PySem.W.keepIn K (.ref f28) = true)
    {f29 : Addr} {oc29 kV29 dc29 pm29 cd29 ct29 : Value} {od29 an29 : Option Addr} {sl29 : Array (Option Value)} (a29 : PySem.W.nsIn K mainGlobals "find_renaming" = some (some (.ref f29))) (l29 : K.lookup f29 = some ⟨oc29, od29, .func (PySem.W.fnOf "find_renaming" "find_renaming" (defArgs (topS 29)) (defBody (topS 29)) (defScope (topS 29)) .none kV29 dc29 pm29 an29 cd29 ct29), sl29⟩) (c29 : PySem.W.codeIn K cd29 "find_renaming" = true) (k29 : PySem.W.keepIn K (.ref f29) = true)
    {f31 : Addr} {oc31 kV31 dc31 pm31 cd31 ct31 : Value} {od31 an31 : Option Addr} {sl31 : Array (Option Value)} (a31 : PySem.W.nsIn K mainGlobals "_law_cell" = some (some (.ref f31))) (l31 : K.lookup f31 = some ⟨oc31, od31, .func (PySem.W.fnOf "_law_cell" "_law_cell" (defArgs (topS 31)) (defBody (topS 31)) (defScope (topS 31)) .none kV31 dc31 pm31 an31 cd31 ct31), sl31⟩) (c31 : PySem.W.codeIn K cd31 "_law_cell" = true) (k31 : PySem.W.keepIn K (.ref f31) = true)
    {f32 : Addr} {oc32 kV32 dc32 pm32 cd32 ct32 : Value} {od32 an32 : Option Addr} {sl32 : Array (Option Value)} (a32 : PySem.W.nsIn K mainGlobals "_law_draws" = some (some (.ref f32))) (l32 : K.lookup f32 = some ⟨oc32, od32, .func (PySem.W.fnOf "_law_draws" "_law_draws" (defArgs (topS 32)) (defBody (topS 32)) (defScope (topS 32)) .none kV32 dc32 pm32 an32 cd32 ct32), sl32⟩) (c32 : PySem.W.codeIn K cd32 "_law_draws" = true) (k32 : PySem.W.keepIn K (.ref f32) = true)
    {f33 : Addr} {oc33 kV33 dc33 pm33 cd33 ct33 : Value} {od33 an33 : Option Addr} {sl33 : Array (Option Value)} (a33 : PySem.W.nsIn K mainGlobals "_law_same" = some (some (.ref f33))) (l33 : K.lookup f33 = some ⟨oc33, od33, .func (PySem.W.fnOf "_law_same" "_law_same" (defArgs (topS 33)) (defBody (topS 33)) (defScope (topS 33)) .none kV33 dc33 pm33 an33 cd33 ct33), sl33⟩) (c33 : PySem.W.codeIn K cd33 "_law_same" = true) (k33 : PySem.W.keepIn K (.ref f33) = true)
    {f34 : Addr} {oc34 kV34 dc34 pm34 cd34 ct34 : Value} {od34 an34 : Option Addr} {sl34 : Array (Option Value)} (a34 : PySem.W.nsIn K mainGlobals "_law_is_integer" = some (some (.ref f34))) (l34 : K.lookup f34 = some ⟨oc34, od34, .func (PySem.W.fnOf "_law_is_integer" "_law_is_integer" (defArgs (topS 34)) (defBody (topS 34)) (defScope (topS 34)) .none kV34 dc34 pm34 an34 cd34 ct34), sl34⟩) (c34 : PySem.W.codeIn K cd34 "_law_is_integer" = true) (k34 : PySem.W.keepIn K (.ref f34) = true)
    {f35 : Addr} {oc35 kV35 dc35 pm35 cd35 ct35 : Value} {od35 an35 : Option Addr} {sl35 : Array (Option Value)} (a35 : PySem.W.nsIn K mainGlobals "_law_web" = some (some (.ref f35))) (l35 : K.lookup f35 = some ⟨oc35, od35, .func (PySem.W.fnOf "_law_web" "_law_web" (defArgs (topS 35)) (defBody (topS 35)) (defScope (topS 35)) .none kV35 dc35 pm35 an35 cd35 ct35), sl35⟩) (c35 : PySem.W.codeIn K cd35 "_law_web" = true) (k35 : PySem.W.keepIn K (.ref f35) = true)
    {f36 : Addr} {oc36 kV36 dc36 pm36 cd36 ct36 : Value} {od36 an36 : Option Addr} {sl36 : Array (Option Value)} (a36 : PySem.W.nsIn K mainGlobals "_law_matrix" = some (some (.ref f36))) (l36 : K.lookup f36 = some ⟨oc36, od36, .func (PySem.W.fnOf "_law_matrix" "_law_matrix" (defArgs (topS 36)) (defBody (topS 36)) (defScope (topS 36)) .none kV36 dc36 pm36 an36 cd36 ct36), sl36⟩) (c36 : PySem.W.codeIn K cd36 "_law_matrix" = true) (k36 : PySem.W.keepIn K (.ref f36) = true)
    {f37 : Addr} {oc37 kV37 dc37 pm37 cd37 ct37 : Value} {od37 an37 : Option Addr} {sl37 : Array (Option Value)} (a37 : PySem.W.nsIn K mainGlobals "_law_shuffle" = some (some (.ref f37))) (l37 : K.lookup f37 = some ⟨oc37, od37, .func (PySem.W.fnOf "_law_shuffle" "_law_shuffle" (defArgs (topS 37)) (defBody (topS 37)) (defScope (topS 37)) .none kV37 dc37 pm37 an37 cd37 ct37), sl37⟩) (c37 : PySem.W.codeIn K cd37 "_law_shuffle" = true) (k37 : PySem.W.keepIn K (.ref f37) = true)
    {f38 : Addr} {oc38 kV38 dc38 pm38 cd38 ct38 : Value} {od38 an38 : Option Addr} {sl38 : Array (Option Value)} (a38 : PySem.W.nsIn K mainGlobals "_law_renamed" = some (some (.ref f38))) (l38 : K.lookup f38 = some ⟨oc38, od38, .func (PySem.W.fnOf "_law_renamed" "_law_renamed" (defArgs (topS 38)) (defBody (topS 38)) (defScope (topS 38)) .none kV38 dc38 pm38 an38 cd38 ct38), sl38⟩) (c38 : PySem.W.codeIn K cd38 "_law_renamed" = true) (k38 : PySem.W.keepIn K (.ref f38) = true)
    {f39 : Addr} {oc39 kV39 dc39 pm39 cd39 ct39 : Value} {od39 an39 : Option Addr} {sl39 : Array (Option Value)} (a39 : PySem.W.nsIn K mainGlobals "_law_renames" = some (some (.ref f39))) (l39 : K.lookup f39 = some ⟨oc39, od39, .func (PySem.W.fnOf "_law_renames" "_law_renames" (defArgs (topS 39)) (defBody (topS 39)) (defScope (topS 39)) .none kV39 dc39 pm39 an39 cd39 ct39), sl39⟩) (c39 : PySem.W.codeIn K cd39 "_law_renames" = true) (k39 : PySem.W.keepIn K (.ref f39) = true)
    {f40 : Addr} {oc40 kV40 dc40 pm40 cd40 ct40 : Value} {od40 an40 : Option Addr} {sl40 : Array (Option Value)} (a40 : PySem.W.nsIn K mainGlobals "_law_sum" = some (some (.ref f40))) (l40 : K.lookup f40 = some ⟨oc40, od40, .func (PySem.W.fnOf "_law_sum" "_law_sum" (defArgs (topS 40)) (defBody (topS 40)) (defScope (topS 40)) .none kV40 dc40 pm40 an40 cd40 ct40), sl40⟩) (c40 : PySem.W.codeIn K cd40 "_law_sum" = true) (k40 : PySem.W.keepIn K (.ref f40) = true)
    {f41 : Addr} {oc41 kV41 dc41 pm41 cd41 ct41 : Value} {od41 an41 : Option Addr} {sl41 : Array (Option Value)} (a41 : PySem.W.nsIn K mainGlobals "_law_drawn_row" = some (some (.ref f41))) (l41 : K.lookup f41 = some ⟨oc41, od41, .func (PySem.W.fnOf "_law_drawn_row" "_law_drawn_row" (defArgs (topS 41)) (defBody (topS 41)) (defScope (topS 41)) .none kV41 dc41 pm41 an41 cd41 ct41), sl41⟩) (c41 : PySem.W.codeIn K cd41 "_law_drawn_row" = true) (k41 : PySem.W.keepIn K (.ref f41) = true)
    {f42 : Addr} {oc42 kV42 dc42 pm42 cd42 ct42 : Value} {od42 an42 : Option Addr} {sl42 : Array (Option Value)} (a42 : PySem.W.nsIn K mainGlobals "_law_fits" = some (some (.ref f42))) (l42 : K.lookup f42 = some ⟨oc42, od42, .func (PySem.W.fnOf "_law_fits" "_law_fits" (defArgs (topS 42)) (defBody (topS 42)) (defScope (topS 42)) .none kV42 dc42 pm42 an42 cd42 ct42), sl42⟩) (c42 : PySem.W.codeIn K cd42 "_law_fits" = true) (k42 : PySem.W.keepIn K (.ref f42) = true)
    {f43 : Addr} {oc43 kV43 dc43 pm43 cd43 ct43 : Value} {od43 an43 : Option Addr} {sl43 : Array (Option Value)} (a43 : PySem.W.nsIn K mainGlobals "_law_homs" = some (some (.ref f43))) (l43 : K.lookup f43 = some ⟨oc43, od43, .func (PySem.W.fnOf "_law_homs" "_law_homs" (defArgs (topS 43)) (defBody (topS 43)) (defScope (topS 43)) .none kV43 dc43 pm43 an43 cd43 ct43), sl43⟩) (c43 : PySem.W.codeIn K cd43 "_law_homs" = true) (k43 : PySem.W.keepIn K (.ref f43) = true)
    {f44 : Addr} {oc44 kV44 dc44 pm44 cd44 ct44 : Value} {od44 an44 : Option Addr} {sl44 : Array (Option Value)} (a44 : PySem.W.nsIn K mainGlobals "_law_leads" = some (some (.ref f44))) (l44 : K.lookup f44 = some ⟨oc44, od44, .func (PySem.W.fnOf "_law_leads" "_law_leads" (defArgs (topS 44)) (defBody (topS 44)) (defScope (topS 44)) .none kV44 dc44 pm44 an44 cd44 ct44), sl44⟩) (c44 : PySem.W.codeIn K cd44 "_law_leads" = true) (k44 : PySem.W.keepIn K (.ref f44) = true)
    {f45 : Addr} {oc45 kV45 dc45 pm45 cd45 ct45 : Value} {od45 an45 : Option Addr} {sl45 : Array (Option Value)} (a45 : PySem.W.nsIn K mainGlobals "_law_induced" = some (some (.ref f45))) (l45 : K.lookup f45 = some ⟨oc45, od45, .func (PySem.W.fnOf "_law_induced" "_law_induced" (defArgs (topS 45)) (defBody (topS 45)) (defScope (topS 45)) .none kV45 dc45 pm45 an45 cd45 ct45), sl45⟩) (c45 : PySem.W.codeIn K cd45 "_law_induced" = true) (k45 : PySem.W.keepIn K (.ref f45) = true)
    {f46 : Addr} {oc46 kV46 dc46 pm46 cd46 ct46 : Value} {od46 an46 : Option Addr} {sl46 : Array (Option Value)} (a46 : PySem.W.nsIn K mainGlobals "_law_turned" = some (some (.ref f46))) (l46 : K.lookup f46 = some ⟨oc46, od46, .func (PySem.W.fnOf "_law_turned" "_law_turned" (defArgs (topS 46)) (defBody (topS 46)) (defScope (topS 46)) .none kV46 dc46 pm46 an46 cd46 ct46), sl46⟩) (c46 : PySem.W.codeIn K cd46 "_law_turned" = true) (k46 : PySem.W.keepIn K (.ref f46) = true)
    {f47 : Addr} {oc47 kV47 dc47 pm47 cd47 ct47 : Value} {od47 an47 : Option Addr} {sl47 : Array (Option Value)} (a47 : PySem.W.nsIn K mainGlobals "_law_image" = some (some (.ref f47))) (l47 : K.lookup f47 = some ⟨oc47, od47, .func (PySem.W.fnOf "_law_image" "_law_image" (defArgs (topS 47)) (defBody (topS 47)) (defScope (topS 47)) .none kV47 dc47 pm47 an47 cd47 ct47), sl47⟩) (c47 : PySem.W.codeIn K cd47 "_law_image" = true) (k47 : PySem.W.keepIn K (.ref f47) = true)
    {f48 : Addr} {oc48 kV48 dc48 pm48 cd48 ct48 : Value} {od48 an48 : Option Addr} {sl48 : Array (Option Value)} (a48 : PySem.W.nsIn K mainGlobals "_law_drawn" = some (some (.ref f48))) (l48 : K.lookup f48 = some ⟨oc48, od48, .func (PySem.W.fnOf "_law_drawn" "_law_drawn" (defArgs (topS 48)) (defBody (topS 48)) (defScope (topS 48)) .none kV48 dc48 pm48 an48 cd48 ct48), sl48⟩) (c48 : PySem.W.codeIn K cd48 "_law_drawn" = true) (k48 : PySem.W.keepIn K (.ref f48) = true)
    {f49 : Addr} {oc49 kV49 dc49 pm49 cd49 ct49 : Value} {od49 an49 : Option Addr} {sl49 : Array (Option Value)} (a49 : PySem.W.nsIn K mainGlobals "_law_pair" = some (some (.ref f49))) (l49 : K.lookup f49 = some ⟨oc49, od49, .func (PySem.W.fnOf "_law_pair" "_law_pair" (defArgs (topS 49)) (defBody (topS 49)) (defScope (topS 49)) .none kV49 dc49 pm49 an49 cd49 ct49), sl49⟩) (c49 : PySem.W.codeIn K cd49 "_law_pair" = true) (k49 : PySem.W.keepIn K (.ref f49) = true)
    {f50 : Addr} {oc50 kV50 dc50 pm50 cd50 ct50 : Value} {od50 an50 : Option Addr} {sl50 : Array (Option Value)} (a50 : PySem.W.nsIn K mainGlobals "_law_is_core" = some (some (.ref f50))) (l50 : K.lookup f50 = some ⟨oc50, od50, .func (PySem.W.fnOf "_law_is_core" "_law_is_core" (defArgs (topS 50)) (defBody (topS 50)) (defScope (topS 50)) .none kV50 dc50 pm50 an50 cd50 ct50), sl50⟩) (c50 : PySem.W.codeIn K cd50 "_law_is_core" = true) (k50 : PySem.W.keepIn K (.ref f50) = true)
    {f51 : Addr} {oc51 kV51 dc51 pm51 cd51 ct51 : Value} {od51 an51 : Option Addr} {sl51 : Array (Option Value)} (a51 : PySem.W.nsIn K mainGlobals "_law_is_fold" = some (some (.ref f51))) (l51 : K.lookup f51 = some ⟨oc51, od51, .func (PySem.W.fnOf "_law_is_fold" "_law_is_fold" (defArgs (topS 51)) (defBody (topS 51)) (defScope (topS 51)) .none kV51 dc51 pm51 an51 cd51 ct51), sl51⟩) (c51 : PySem.W.codeIn K cd51 "_law_is_fold" = true) (k51 : PySem.W.keepIn K (.ref f51) = true)
    {tc_nodes : Tok} (gc_nodes : PySem.W.nsIn K mainGlobals "MAX_NODES" = some (some (.int 64 tc_nodes)))
    {tc_maps : Tok} (gc_maps : PySem.W.nsIn K mainGlobals "MAX_MAPS" = some (some (.int 4096 tc_maps)))
    {tc_folded : Tok} (gc_folded : PySem.W.nsIn K mainGlobals "MAX_FOLDED" = some (some (.int 5 tc_folded)))
    {tc_renamed : Tok} (gc_renamed : PySem.W.nsIn K mainGlobals "MAX_RENAMED" = some (some (.int 9 tc_renamed)))
    (zb_range : PySem.W.nsIn K mainGlobals "range" = some none)
    (zb_len : PySem.W.nsIn K mainGlobals "len" = some none)
    (zb_enumerate : PySem.W.nsIn K mainGlobals "enumerate" = some none)
    (zb_min : PySem.W.nsIn K mainGlobals "min" = some none)
    (zb_max : PySem.W.nsIn K mainGlobals "max" = some none)
    (zb_tuple : PySem.W.nsIn K mainGlobals "tuple" = some none)
    (zb_sorted : PySem.W.nsIn K mainGlobals "sorted" = some none)
    (zb_set : PySem.W.nsIn K mainGlobals "set" = some none)
    (zb_abs : PySem.W.nsIn K mainGlobals "abs" = some none)
    (zb_int : PySem.W.nsIn K mainGlobals "int" = some none)
    (zb_isinstance : PySem.W.nsIn K mainGlobals "isinstance" = some none)
    (zb_bool : PySem.W.nsIn K mainGlobals "bool" = some none)
    (zb_str : PySem.W.nsIn K mainGlobals "str" = some none)
    (zb_list : PySem.W.nsIn K mainGlobals "list" = some none)
    {f52 : Addr} {oc52 kV52 dc52 pm52 cd52 ct52 : Value} {od52 an52 : Option Addr} {sl52 : Array (Option Value)} (a52 : PySem.W.nsIn K mainGlobals "law" = some (some (.ref f52))) (l52 : K.lookup f52 = some ⟨oc52, od52, .func (PySem.W.fnOf "law" "law" (defArgs (topS 52)) (defBody (topS 52)) (defScope (topS 52)) .none kV52 dc52 pm52 an52 cd52 ct52), sl52⟩) (c52 : PySem.W.codeIn K cd52 "law" = true) (k52 : PySem.W.keepIn K (.ref f52) = true) :
    ∃ fd : FuncData, (∀ (s : Shared) (v : Value), BindsTo s fd ⟨[v], []⟩ [("_law_script", v)]) ∧ ∀ base : Heap, K.In base → base.Ns mainGlobals mg → FnOk l.prog w K mg base CX0 9 fa fd ["_law_script"] (spS K prLaw) := by
  have e := hfa.symm.trans (PySem.W.mg_of X G a52)
  cases e
  have T : Txt K mg := {
    make_web := def_mk X G a7 l7 c7 k7 fun _ _ _ _ _ _ us hl => match us, hl with | [_, _], _ => rfl
    neighbour_rows := def_mk X G a8 l8 c8 k8 fun _ _ _ _ _ _ us hl => match us, hl with | [_], _ => rfl
    induced := def_mk X G a9 l9 c9 k9 fun _ _ _ _ _ _ us hl => match us, hl with | [_, _], _ => rfl
    count_maps := def_mk X G a12 l12 c12 k12 fun _ _ _ _ _ _ us hl => match us, hl with | [_, _, _], _ => rfl
    fits := def_mk X G a13 l13 c13 k13 fun _ _ _ _ _ _ us hl => match us, hl with | [_, _, _, _], _ => rfl
    homs := def_mk X G a14 l14 c14 k14 fun _ _ _ _ _ _ us hl => match us, hl with | [_, _], _ => rfl
    first_hom := def_mk X G a16 l16 c16 k16 fun _ _ _ _ _ _ us hl => match us, hl with | [_, _], _ => rfl
    leads := def_mk X G a17 l17 c17 k17 fun _ _ _ _ _ _ us hl => match us, hl with | [_, _], _ => rfl
    same_rank := def_mk X G a18 l18 c18 k18 fun _ _ _ _ _ _ us hl => match us, hl with | [_, _], _ => rfl
    node_sets := def_mk X G a21 l21 c21 k21 fun _ _ _ _ _ _ us hl => match us, hl with | [_, _], _ => rfl
    core_nodes := def_mk X G a22 l22 c22 k22 fun _ _ _ _ _ _ us hl => match us, hl with | [_], _ => rfl
    core := def_mk X G a23 l23 c23 k23 fun _ _ _ _ _ _ us hl => match us, hl with | [_], _ => rfl
    fold_row := def_mk X G a24 l24 c24 k24 fun _ _ _ _ _ _ us hl => match us, hl with | [_], _ => rfl
    may_follow := def_mk X G a27 l27 c27 k27 fun _ _ _ _ _ _ us hl => match us, hl with | [_, _, _, _], _ => rfl
    completed := def_mk X G a28 l28 c28 k28 fun _ _ _ _ _ _ us hl => match us, hl with | [_, _, _], _ => rfl
    find_renaming := def_mk X G a29 l29 c29 k29 fun _ _ _ _ _ _ us hl => match us, hl with | [_, _], _ => rfl
    law_cell := def_mk X G a31 l31 c31 k31 fun _ _ _ _ _ _ us hl => match us, hl with | [_, _], _ => rfl
    law_draws := def_mk X G a32 l32 c32 k32 fun _ _ _ _ _ _ us hl => match us, hl with | [_, _, _, _], _ => rfl
    law_same := def_mk X G a33 l33 c33 k33 fun _ _ _ _ _ _ us hl => match us, hl with | [_, _], _ => rfl
    law_is_integer := def_mk X G a34 l34 c34 k34 fun _ _ _ _ _ _ us hl => match us, hl with | [_], _ => rfl
    law_web := def_mk X G a35 l35 c35 k35 fun _ _ _ _ _ _ us hl => match us, hl with | [_, _, _], _ => rfl
    law_matrix := def_mk X G a36 l36 c36 k36 fun _ _ _ _ _ _ us hl => match us, hl with | [_], _ => rfl
    law_shuffle := def_mk X G a37 l37 c37 k37 fun _ _ _ _ _ _ us hl => match us, hl with | [_], _ => rfl
    law_renamed := def_mk X G a38 l38 c38 k38 fun _ _ _ _ _ _ us hl => match us, hl with | [_, _], _ => rfl
    law_renames := def_mk X G a39 l39 c39 k39 fun _ _ _ _ _ _ us hl => match us, hl with | [_, _, _], _ => rfl
    law_sum := def_mk X G a40 l40 c40 k40 fun _ _ _ _ _ _ us hl => match us, hl with | [_, _], _ => rfl
    law_drawn_row := def_mk X G a41 l41 c41 k41 fun _ _ _ _ _ _ us hl => match us, hl with | [_, _, _, _], _ => rfl
    law_fits := def_mk X G a42 l42 c42 k42 fun _ _ _ _ _ _ us hl => match us, hl with | [_, _, _, _], _ => rfl
    law_homs := def_mk X G a43 l43 c43 k43 fun _ _ _ _ _ _ us hl => match us, hl with | [_, _], _ => rfl
    law_leads := def_mk X G a44 l44 c44 k44 fun _ _ _ _ _ _ us hl => match us, hl with | [_, _, _], _ => rfl
    law_induced := def_mk X G a45 l45 c45 k45 fun _ _ _ _ _ _ us hl => match us, hl with | [_, _], _ => rfl
    law_turned := def_mk X G a46 l46 c46 k46 fun _ _ _ _ _ _ us hl => match us, hl with | [_, _, _], _ => rfl
    law_image := def_mk X G a47 l47 c47 k47 fun _ _ _ _ _ _ us hl => match us, hl with | [_, _, _], _ => rfl
    law_drawn := def_mk X G a48 l48 c48 k48 fun _ _ _ _ _ _ us hl => match us, hl with | [_, _, _, _], _ => rfl
    law_pair := def_mk X G a49 l49 c49 k49 fun _ _ _ _ _ _ us hl => match us, hl with | [_], _ => rfl
    law_is_core := def_mk X G a50 l50 c50 k50 fun _ _ _ _ _ _ us hl => match us, hl with | [_, _, _], _ => rfl
    law_is_fold := def_mk X G a51 l51 c51 k51 fun _ _ _ _ _ _ us hl => match us, hl with | [_, _, _], _ => rfl
    c_nodes := ⟨_, PySem.W.mg_of X G gc_nodes⟩
    c_maps := ⟨_, PySem.W.mg_of X G gc_maps⟩
    c_folded := ⟨_, PySem.W.mg_of X G gc_folded⟩
    c_renamed := ⟨_, PySem.W.mg_of X G gc_renamed⟩
    b_range := PySem.W.mg_none_of X G zb_range
    b_len := PySem.W.mg_none_of X G zb_len
    b_enumerate := PySem.W.mg_none_of X G zb_enumerate
    b_min := PySem.W.mg_none_of X G zb_min
    b_max := PySem.W.mg_none_of X G zb_max
    b_tuple := PySem.W.mg_none_of X G zb_tuple
    b_sorted := PySem.W.mg_none_of X G zb_sorted
    b_set := PySem.W.mg_none_of X G zb_set
    b_abs := PySem.W.mg_none_of X G zb_abs
    b_int := PySem.W.mg_none_of X G zb_int
    b_isinstance := PySem.W.mg_none_of X G zb_isinstance
    b_bool := PySem.W.mg_none_of X G zb_bool
    b_str := PySem.W.mg_none_of X G zb_str
    b_list := PySem.W.mg_none_of X G zb_list
  }
  exact ⟨PySem.W.fnOf "law" "law" (defArgs (topS 52)) (defBody (topS 52)) (defScope (topS 52)) .none kV52 dc52 pm52 an52 cd52 ct52, fun s v => .of_eq rfl, fun base _ _ => ok_law (fun_mk (st := topS 52) l52 c52 k52) T⟩
theorem walk {l : PySem.W.OpenLaw} {q : Program} {loose : List Str} {XP : (Str → Option Value) → Heap → Prop} {YP : World → Heap → Prop} {d : DefRec} {K : Params → PySem.W.Frag} (hn : l.most = some 63) (hdf : d.params.defaults = [])
    (hY : ∀ (w : World) (h : Heap), YP w h → (K w.params).In h)
    (F : ∀ (w : World) (mg : Str → Option Value) (fa : Addr) (h : Heap), (K w.params).In h → h.Ns mainGlobals mg → mg d.name = some (.ref fa) →
      ∃ fd : FuncData, (∀ (s : Shared) (u : Value), BindsTo s fd ⟨[u], []⟩ [("_law_script", u)]) ∧ ∀ base : Heap, (K w.params).In base → base.Ns mainGlobals mg → FnOk l.prog w (K w.params) mg base CX0 9 fa fd ["_law_script"] (spS (K w.params) prLaw)) :
    PySem.W.WalkO q loose XP YP l.row.toRowW d [] (fun f vs => PySem.call f vs) :=
  L2.walk_of (n := 63) (k := 9) (x := "_law_script") (CX := fun _ => CX0) (sp := fun w => spS (K w.params) prLaw) hn (by decide) hdf ⟨rfl, by decide, by decide⟩ hY F (fun _ _ a ns hl _ hS => ⟨_, a, ns, [], [], rfl, Ex.refl _, hS, .nil, rfl, fun v S' H' w p => dp_bool p⟩) fun _ _ _ _ _ z => z
end K22
open PySem PySem.W PyProof.Rows in
set_option maxRecDepth 100000 in
set_option maxHeartbeats 0 in
theorem PySem.Challenge.cw_webnumbers_k22_whole_cores_and_ranks_holds : PySem.Challenge.rw_webnumbers_k22_whole_cores_and_ranks.Holds := by
  w_on; o_law; k_head; (case hw => w_witness2)
  k_fill
  refine K22.walk (l := PySem.Challenge.rw_webnumbers_k22_whole_cores_and_ranks) rfl rfl (fun w h Y => PySem.W.kIn_of Y) ?F
  case F =>
    intro w mg fa h KX G hmg
    refine' K22.all_mk KX G hmg ?a7 ?l7 ?c7 ?k7 ?a8 ?l8 ?c8 ?k8 ?a9 ?l9 ?c9 ?k9 ?a12 ?l12 ?c12 ?k12 ?a13 ?l13 ?c13 ?k13 ?a14 ?l14 ?c14 ?k14 ?a16 ?l16 ?c16 ?k16 ?a17 ?l17 ?c17 ?k17 ?a18 ?l18 ?c18 ?k18 ?a21 ?l21 ?c21 ?k21 ?a22 ?l22 ?c22 ?k22 ?a23 ?l23 ?c23 ?k23 ?a24 ?l24 ?c24 ?k24 ?a27 ?l27 ?c27 ?k27 ?a28 ?l28 ?c28 ?k28 ?a29 ?l29 ?c29 ?k29 ?a31 ?l31 ?c31 ?k31 ?a32 ?l32 ?c32 ?k32 ?a33 ?l33 ?c33 ?k33 ?a34 ?l34 ?c34 ?k34 ?a35 ?l35 ?c35 ?k35 ?a36 ?l36 ?c36 ?k36 ?a37 ?l37 ?c37 ?k37 ?a38 ?l38 ?c38 ?k38 ?a39 ?l39 ?c39 ?k39 ?a40 ?l40 ?c40 ?k40 ?a41 ?l41 ?c41 ?k41 ?a42 ?l42 ?c42 ?k42 ?a43 ?l43 ?c43 ?k43 ?a44 ?l44 ?c44 ?k44 ?a45 ?l45 ?c45 ?k45 ?a46 ?l46 ?c46 ?k46 ?a47 ?l47 ?c47 ?k47 ?a48 ?l48 ?c48 ?k48 ?a49 ?l49 ?c49 ?k49 ?a50 ?l50 ?c50 ?k50 ?a51 ?l51 ?c51 ?k51 ?gc_nodes ?gc_maps ?gc_folded ?gc_renamed ?zb_range ?zb_len ?zb_enumerate ?zb_min ?zb_max ?zb_tuple ?zb_sorted ?zb_set ?zb_abs ?zb_int ?zb_isinstance ?zb_bool ?zb_str ?zb_list ?a52 ?l52 ?c52 ?k52
    (case a7 => k_is)
    (case l7 => k_is)
    (case c7 => k_is)
    (case k7 => k_is)
    (case a8 => k_is)
    (case l8 => k_is)
    (case c8 => k_is)
    (case k8 => k_is)
    (case a9 => k_is)
    (case l9 => k_is)
    (case c9 => k_is)
    (case k9 => k_is)
    (case a12 => k_is)
    (case l12 => k_is)
    (case c12 => k_is)
    (case k12 => k_is)
    (case a13 => k_is)
    (case l13 => k_is)
    (case c13 => k_is)
    (case k13 => k_is)
    (case a14 => k_is)
    (case l14 => k_is)
    (case c14 => k_is)
    (case k14 => k_is)
    (case a16 => k_is)
    (case l16 => k_is)
    (case c16 => k_is)
    (case k16 => k_is)
    (case a17 => k_is)
    (case l17 => k_is)
    (case c17 => k_is)
    (case k17 => k_is)
    (case a18 => k_is)
    (case l18 => k_is)
    (case c18 => k_is)
    (case k18 => k_is)
    (case a21 => k_is)
    (case l21 => k_is)
    (case c21 => k_is)
    (case k21 => k_is)
    (case a22 => k_is)
    (case l22 => k_is)
    (case c22 => k_is)
    (case k22 => k_is)
    (case a23 => k_is)
    (case l23 => k_is)
    (case c23 => k_is)
    (case k23 => k_is)
    (case a24 => k_is)
    (case l24 => k_is)
    (case c24 => k_is)
    (case k24 => k_is)
    (case a27 => k_is)
    (case l27 => k_is)
    (case c27 => k_is)
    (case k27 => k_is)
    (case a28 => k_is)
    (case l28 => k_is)
    (case c28 => k_is)
    (case k28 => k_is)
    (case a29 => k_is)
    (case l29 => k_is)
    (case c29 => k_is)
    (case k29 => k_is)
    (case a31 => k_is)
    (case l31 => k_is)
    (case c31 => k_is)
    (case k31 => k_is)
    (case a32 => k_is)
    (case l32 => k_is)
    (case c32 => k_is)
    (case k32 => k_is)
    (case a33 => k_is)
    (case l33 => k_is)
    (case c33 => k_is)
    (case k33 => k_is)
    (case a34 => k_is)
    (case l34 => k_is)
    (case c34 => k_is)
    (case k34 => k_is)
    (case a35 => k_is)
    (case l35 => k_is)
    (case c35 => k_is)
    (case k35 => k_is)
    (case a36 => k_is)
    (case l36 => k_is)
    (case c36 => k_is)
    (case k36 => k_is)
    (case a37 => k_is)
    (case l37 => k_is)
    (case c37 => k_is)
    (case k37 => k_is)
    (case a38 => k_is)
    (case l38 => k_is)
    (case c38 => k_is)
    (case k38 => k_is)
    (case a39 => k_is)
    (case l39 => k_is)
    (case c39 => k_is)
    (case k39 => k_is)
    (case a40 => k_is)
    (case l40 => k_is)
    (case c40 => k_is)
    (case k40 => k_is)
    (case a41 => k_is)
    (case l41 => k_is)
    (case c41 => k_is)
    (case k41 => k_is)
    (case a42 => k_is)
    (case l42 => k_is)
    (case c42 => k_is)
    (case k42 => k_is)
    (case a43 => k_is)
    (case l43 => k_is)
    (case c43 => k_is)
    (case k43 => k_is)
    (case a44 => k_is)
    (case l44 => k_is)
    (case c44 => k_is)
    (case k44 => k_is)
    (case a45 => k_is)
    (case l45 => k_is)
    (case c45 => k_is)
    (case k45 => k_is)
    (case a46 => k_is)
    (case l46 => k_is)
    (case c46 => k_is)
    (case k46 => k_is)
    (case a47 => k_is)
    (case l47 => k_is)
    (case c47 => k_is)
    (case k47 => k_is)
    (case a48 => k_is)
    (case l48 => k_is)
    (case c48 => k_is)
    (case k48 => k_is)
    (case a49 => k_is)
    (case l49 => k_is)
    (case c49 => k_is)
    (case k49 => k_is)
    (case a50 => k_is)
    (case l50 => k_is)
    (case c50 => k_is)
    (case k50 => k_is)
    (case a51 => k_is)
    (case l51 => k_is)
    (case c51 => k_is)
    (case k51 => k_is)
    (case gc_nodes => k_is)
    (case gc_maps => k_is)
    (case gc_folded => k_is)
    (case gc_renamed => k_is)
    (case zb_range => k_is)
    (case zb_len => k_is)
    (case zb_enumerate => k_is)
    (case zb_min => k_is)
    (case zb_max => k_is)
    (case zb_tuple => k_is)
    (case zb_sorted => k_is)
    (case zb_set => k_is)
    (case zb_abs => k_is)
    (case zb_int => k_is)
    (case zb_isinstance => k_is)
    (case zb_bool => k_is)
    (case zb_str => k_is)
    (case zb_list => k_is)
    (case a52 => k_is)
    (case l52 => k_is)
    (case c52 => k_is)
    (case k52 => k_is)
