import PyProof.Rows.All
import Wide.All
import OpenK.AllK
import Wide.FinOn
import HandS.ForMost
import HandS.IsInst
import HandS.Deep
import HandS.TupLe
import HandS.TupAny
import HandS.DictComp
import HandS.Conv
import HandS.More
import HandS.Property
import HandS.SortInts
import HandS.SortOrd
import HandS.SortRule
import HandS.TupSets
import PySem.Challenge.RW_storelands_k87_whole_shortest_logs
import HandS.Evl
set_option Elab.async false
set_option maxRecDepth 100000
set_option maxHeartbeats 4000000
/-! The plain law: lists, graphs, shortest ways. No program in sight. -/
namespace K87

/-! ### ascending lists -/
def Asc (l : List Nat) : Prop := l.Pairwise (fun a b => a < b)

theorem asc_ext : ∀ {l m : List Nat}, Asc l → Asc m → (∀ x, x ∈ l ↔ x ∈ m) → l = m
  | [], [], _, _, _ => rfl
  | [], y :: m, _, _, h => absurd ((h y).mpr List.mem_cons_self) (by simp)
  | x :: l, [], _, _, h => absurd ((h x).mp List.mem_cons_self) (by simp)
  | x :: l, y :: m, hl, hm, h => by
    obtain ⟨l1, l2⟩ := List.pairwise_cons.mp hl
    obtain ⟨m1, m2⟩ := List.pairwise_cons.mp hm
    have e : x = y := by
      rcases List.mem_cons.mp ((h x).mp List.mem_cons_self) with e | e
      · exact e
      · rcases List.mem_cons.mp ((h y).mpr List.mem_cons_self) with q | q
        · exact q.symm
        · have := m1 x e
          have := l1 y q
          omega
    subst e
    have t : l = m := asc_ext l2 m2 fun z => by
      constructor
      · intro hz
        rcases List.mem_cons.mp ((h z).mp (List.mem_cons_of_mem _ hz)) with q | q
        · have := l1 z hz
          omega
        · exact q
      · intro hz
        rcases List.mem_cons.mp ((h z).mpr (List.mem_cons_of_mem _ hz)) with q | q
        · have := m1 z hz
          omega
        · exact q
    rw [t]

/-- what sorted gives of unlike natural numbers -/
theorem sorted_cast {ns : List Nat} {zs : List Int} (p : zs.Perm (ns.map fun n : Nat => (n : Int))) (s : zs.Pairwise (fun a b => a ≤ b)) (nd : ns.Nodup) :
    ∃ l : List Nat, zs = (l.map fun n : Nat => (n : Int)) ∧ Asc l ∧ l.Perm ns := by
  have back : ∀ z ∈ zs, ((z.toNat : Nat) : Int) = z := fun z hz => by
    obtain ⟨n, _, e⟩ := List.mem_map.mp (p.mem_iff.mp hz)
    omega
  have e1 : (zs.map Int.toNat).map (fun n : Nat => (n : Int)) = zs := by
    rw [List.map_map]
    conv => rhs; rw [← List.map_id zs]
    exact List.map_congr_left fun z hz => back z hz
  have pm : (zs.map Int.toNat).Perm ns := by
    have q := p.map Int.toNat
    rw [List.map_map] at q
    have e : ns.map (Int.toNat ∘ fun n : Nat => (n : Int)) = ns := by
      conv => rhs; rw [← List.map_id ns]
      exact List.map_congr_left fun n _ => by simp
    rw [e] at q
    exact q
  refine ⟨zs.map Int.toNat, e1.symm, ?_, pm⟩
  have nd2 : (zs.map Int.toNat).Nodup := pm.nodup_iff.mpr nd
  have le : (zs.map Int.toNat).Pairwise (fun a b => a ≤ b) := by
    rw [List.pairwise_map]
    exact s.imp fun {a b} h => by omega
  have both := List.Pairwise.and le nd2
  exact both.imp fun {a b} h => by
    have h1 := h.1
    have h2 := h.2
    omega

/-- unlike numbers below n are at most n -/
theorem nodup_le : ∀ {n : Nat} {l : List Nat}, l.Nodup → (∀ x ∈ l, x < n) → l.length ≤ n
  | 0, [], _, _ => Nat.le_refl 0
  | 0, x :: l, _, h => absurd (h x List.mem_cons_self) (Nat.not_lt_zero x)
  | n + 1, l, nd, h => by
    by_cases hn : n ∈ l
    · have nd2 := nd.erase n
      have h2 : ∀ x ∈ l.erase n, x < n := fun x hx => by
        have a := h x (List.mem_of_mem_erase hx)
        have b : x ≠ n := fun e => by
          subst e
          exact (List.Nodup.not_mem_erase nd) hx
        omega
      have := nodup_le nd2 h2
      have e := List.length_erase_of_mem hn
      have : 0 < l.length := List.length_pos_of_mem hn
      omega
    · have h2 : ∀ x ∈ l, x < n := fun x hx => by
        have a := h x hx
        have b : x ≠ n := fun e => by
          subst e
          exact hn hx
        omega
      have := nodup_le nd h2
      omega
/-- .. and if they are n, each one is among them -/
theorem nodup_all {n : Nat} {l : List Nat} (nd : l.Nodup) (h : ∀ x ∈ l, x < n) (hl : n ≤ l.length) {v : Nat} (hv : v < n) : v ∈ l := by
  by_cases q : v ∈ l
  · exact q
  · have nd2 : (v :: l).Nodup := List.nodup_cons.mpr ⟨q, nd⟩
    have h2 : ∀ x ∈ v :: l, x < n := fun x hx => by
      rcases List.mem_cons.mp hx with e | e
      · omega
      · exact h x e
    have := nodup_le nd2 h2
    rw [List.length_cons] at this
    omega

/-! ### ties and rows -/
structure Ties (n : Nat) (ts : List (Nat × Nat)) : Prop where
  lt : ∀ p ∈ ts, p.1 < p.2 ∧ p.2 < n
  asc : ts.Pairwise (fun p q => p.1 < q.1 ∨ (p.1 = q.1 ∧ p.2 < q.2))
theorem Ties.nd {n : Nat} {ts : List (Nat × Nat)} (h : Ties n ts) : ts.Nodup := h.asc.imp fun {a b} q e => by
  rw [e] at q
  omega
theorem Ties.filter {n : Nat} {ts : List (Nat × Nat)} (h : Ties n ts) (f : Nat × Nat → Bool) : Ties n (ts.filter f) :=
  ⟨fun p hp => h.lt p (List.mem_filter.mp hp).1, h.asc.filter f⟩

/-- the row of i in the order in which the ties are gone through -/
def raw (ts : List (Nat × Nat)) (i : Nat) : List Nat := ts.flatMap fun p => if p.1 = i then [p.2] else if p.2 = i then [p.1] else []
theorem raw_nil (i : Nat) : raw [] i = [] := rfl
theorem raw_snoc (ts : List (Nat × Nat)) (p : Nat × Nat) (i : Nat) : raw (ts ++ [p]) i = raw ts i ++ (if p.1 = i then [p.2] else if p.2 = i then [p.1] else []) := by
  unfold raw
  rw [List.flatMap_append]
  simp
theorem mem_raw {n : Nat} {ts : List (Nat × Nat)} (h : ∀ p ∈ ts, p.1 < p.2 ∧ p.2 < n) {i j : Nat} : j ∈ raw ts i ↔ (i, j) ∈ ts ∨ (j, i) ∈ ts := by
  unfold raw
  rw [List.mem_flatMap]
  constructor
  · rintro ⟨⟨a, b⟩, hp, hj⟩
    have l := h _ hp
    dsimp only at hj l
    by_cases e : a = i
    · rw [if_pos e] at hj
      have : j = b := List.mem_singleton.mp hj
      subst e
      subst this
      exact .inl hp
    · rw [if_neg e] at hj
      by_cases e2 : b = i
      · rw [if_pos e2] at hj
        have : j = a := List.mem_singleton.mp hj
        subst e2
        subst this
        exact .inr hp
      · rw [if_neg e2] at hj
        exact absurd hj (by simp)
  · rintro (hp | hp)
    · exact ⟨(i, j), hp, by simp⟩
    · have l := h _ hp
      dsimp only at l
      refine ⟨(j, i), hp, ?_⟩
      dsimp only
      rw [if_neg (by omega), if_pos rfl]
      exact List.mem_singleton.mpr rfl
theorem nd_raw {n : Nat} : ∀ {ts : List (Nat × Nat)} (_ : ∀ p ∈ ts, p.1 < p.2 ∧ p.2 < n) (_ : ts.Nodup) (i : Nat), (raw ts i).Nodup
  | [], _, _, _ => List.nodup_nil
  | p :: ts, h, nd, i => by
    obtain ⟨n1, n2⟩ := List.nodup_cons.mp nd
    have ht : ∀ p ∈ ts, p.1 < p.2 ∧ p.2 < n := fun q hq => h q (List.mem_cons_of_mem _ hq)
    have ih := nd_raw ht n2 i
    have l := h p List.mem_cons_self
    show ((if p.1 = i then [p.2] else if p.2 = i then [p.1] else []) ++ raw ts i).Nodup
    by_cases e : p.1 = i
    · rw [if_pos e]
      refine List.nodup_cons.mpr ⟨fun m => ?_, ih⟩
      rcases (mem_raw ht).mp m with q | q
      · rw [← e] at q
        exact n1 q
      · have := ht _ q
        dsimp only at this
        omega
    · rw [if_neg e]
      by_cases e2 : p.2 = i
      · rw [if_pos e2]
        refine List.nodup_cons.mpr ⟨fun m => ?_, ih⟩
        rcases (mem_raw ht).mp m with q | q
        · have := ht _ q
          dsimp only at this
          omega
        · rw [← e2] at q
          exact n1 q
      · rw [if_neg e2]
        exact ih
theorem raw_lt {n : Nat} {ts : List (Nat × Nat)} (h : ∀ p ∈ ts, p.1 < p.2 ∧ p.2 < n) {i j : Nat} (hj : j ∈ raw ts i) : j < n := by
  rcases (mem_raw h).mp hj with q | q
  · have := h _ q
    dsimp only at this
    omega
  · have := h _ q
    dsimp only at this
    omega

/-- those tied to i, ascending -/
def nb (n : Nat) (ts : List (Nat × Nat)) (i : Nat) : List Nat := (List.range n).filter fun j => decide ((i, j) ∈ ts ∨ (j, i) ∈ ts)
theorem mem_nb {n : Nat} {ts : List (Nat × Nat)} {i j : Nat} : j ∈ nb n ts i ↔ j < n ∧ ((i, j) ∈ ts ∨ (j, i) ∈ ts) := by
  unfold nb
  rw [List.mem_filter, List.mem_range, decide_eq_true_eq]
theorem asc_nb (n : Nat) (ts : List (Nat × Nat)) (i : Nat) : Asc (nb n ts i) := List.pairwise_lt_range.filter _
theorem nb_len (n : Nat) (ts : List (Nat × Nat)) (i : Nat) : (nb n ts i).length ≤ n := by
  have h := List.length_filter_le (fun j => decide ((i, j) ∈ ts ∨ (j, i) ∈ ts)) (List.range n)
  rw [List.length_range] at h
  exact h
theorem nb_of_raw {n : Nat} {ts : List (Nat × Nat)} (h : ∀ p ∈ ts, p.1 < p.2 ∧ p.2 < n) {i : Nat} {l : List Nat} (ha : Asc l) (hp : l.Perm (raw ts i)) : l = nb n ts i :=
  asc_ext ha (asc_nb n ts i) fun x => by
    rw [hp.mem_iff, mem_nb, mem_raw h]
    constructor
    · intro q
      exact ⟨raw_lt h ((mem_raw h).mpr q), q⟩
    · intro q
      exact q.2

/-! ### graphs -/
/-- rows of neighbours: ascending, below n, either way -/
structure Gr (n : Nat) (g : Nat → List Nat) : Prop where
  asc : ∀ i, Asc (g i)
  lt : ∀ i j, j ∈ g i → j < n
  sym : ∀ i j, i < n → j ∈ g i → i ∈ g j
theorem gr_nb {n : Nat} {ts : List (Nat × Nat)} : Gr n (nb n ts) :=
  ⟨asc_nb n ts, fun _ _ h => (mem_nb.mp h).1, fun _ _ hi h => mem_nb.mpr ⟨hi, (mem_nb.mp h).2.symm⟩⟩

/-- p leads from u to w -/
def Walk (g : Nat → List Nat) : Nat → List Nat → Nat → Prop
  | u, [], w => u = w
  | u, v :: p, w => v ∈ g u ∧ Walk g v p w
theorem walk_snoc {g : Nat → List Nat} : ∀ {u : Nat} {p : List Nat} {x w : Nat}, Walk g u (p ++ [x]) w ↔ ∃ z, Walk g u p z ∧ x ∈ g z ∧ x = w
  | u, [], x, w => by
    show (x ∈ g u ∧ x = w) ↔ ∃ z, u = z ∧ x ∈ g z ∧ x = w
    constructor
    · intro h
      exact ⟨u, rfl, h⟩
    · rintro ⟨z, rfl, h⟩
      exact h
  | u, v :: p, x, w => by
    show (v ∈ g u ∧ Walk g v (p ++ [x]) w) ↔ ∃ z, (v ∈ g u ∧ Walk g v p z) ∧ x ∈ g z ∧ x = w
    rw [walk_snoc (u := v) (p := p)]
    constructor
    · rintro ⟨h, z, a, b⟩
      exact ⟨z, ⟨h, a⟩, b⟩
    · rintro ⟨z, ⟨h, a⟩, b⟩
      exact ⟨h, z, a, b⟩
theorem walk_end {g : Nat → List Nat} : ∀ {u : Nat} {p : List Nat} {w : Nat}, Walk g u p w → (u :: p).getLast (List.cons_ne_nil _ _) = w
  | u, [], w, h => h
  | u, v :: p, w, h => by
    rw [List.getLast_cons (List.cons_ne_nil _ _)]
    exact walk_end h.2
theorem walk_lt {g : Nat → List Nat} {n : Nat} (G : Gr n g) : ∀ {u : Nat} {p : List Nat} {w : Nat}, Walk g u p w → ∀ x ∈ p, x < n
  | _, [], _, _, x, hx => absurd hx (by simp)
  | u, v :: p, w, h, x, hx => by
    rcases List.mem_cons.mp hx with e | e
    · rw [e]
      exact G.lt u v h.1
    · exact walk_lt G h.2 x e
/-- a set that is closed holds what is led to -/
theorem walk_closed {g : Nat → List Nat} {S : Nat → Prop} (hS : ∀ u, S u → ∀ v ∈ g u, S v) : ∀ {u : Nat} {p : List Nat} {w : Nat}, Walk g u p w → S u → S w
  | u, [], w, h, hu => by
    have e : u = w := h
    rw [← e]
    exact hu
  | u, v :: p, w, h, hu => walk_closed hS h.2 (hS u hu v h.1)
/-- .. and what leads to it -/
theorem walk_back {g : Nat → List Nat} {n : Nat} (G : Gr n g) {S : Nat → Prop} (hS : ∀ u, S u → ∀ v ∈ g u, S v) : ∀ {u : Nat} {p : List Nat} {w : Nat}, u < n → Walk g u p w → S w → S u
  | u, [], w, _, h, hw => by
    have e : u = w := h
    rw [e]
    exact hw
  | u, v :: p, w, hu, h, hw => hS v (walk_back G hS (G.lt u v h.1) h.2 hw) u (G.sym u v hu h.1)
/-- all hang together -/
def Conn (n : Nat) (g : Nat → List Nat) : Prop := ∀ v, v < n → ∃ p, Walk g 0 p v

/-! ### how far: the search by breadth -/
structure Far (n : Nat) (g : Nat → List Nat) (w : Nat) (fs : List (Nat × Nat)) : Prop where
  nd : (fs.map (·.1)).Nodup
  lt : ∀ p ∈ fs, p.1 < n
  zero : (w, 0) ∈ fs
  back : ∀ p ∈ fs, p = (w, 0) ∨ ∃ u e, (u, e) ∈ fs ∧ p.2 = e + 1 ∧ u ∈ g p.1
  near : ∀ p ∈ fs, ∀ u ∈ g p.1, ∃ e, (u, e) ∈ fs ∧ e ≤ p.2 + 1
/-- the search's state: the first k have been gone through -/
structure Bfs (n : Nat) (g : Nat → List Nat) (w : Nat) (fs : List (Nat × Nat)) (k : Nat) : Prop where
  nd : (fs.map (·.1)).Nodup
  lt : ∀ p ∈ fs, p.1 < n
  zero : (w, 0) ∈ fs
  mono : fs.Pairwise (fun p q => p.2 ≤ q.2)
  band : ∀ q, fs[k]? = some q → ∀ p ∈ fs, p.2 ≤ q.2 + 1
  done : ∀ (i : Nat) p, i < k → fs[i]? = some p → ∀ u ∈ g p.1, ∃ e, (u, e) ∈ fs ∧ e ≤ p.2 + 1
  back : ∀ p ∈ fs, p = (w, 0) ∨ ∃ u e, (u, e) ∈ fs ∧ p.2 = e + 1 ∧ u ∈ g p.1
theorem bfs_start {n : Nat} {g : Nat → List Nat} {w : Nat} (hw : w < n) : Bfs n g w [(w, 0)] 0 where
  nd := List.nodup_cons.mpr ⟨by simp, List.nodup_nil⟩
  lt := fun p hp => by
    rw [List.mem_singleton.mp hp]
    exact hw
  zero := List.mem_singleton.mpr rfl
  mono := List.pairwise_singleton _ _
  band := fun q hq p hp => by
    rw [List.mem_singleton.mp hp]
    exact Nat.zero_le _
  done := fun i p hi => absurd hi (Nat.not_lt_zero i)
  back := fun p hp => .inl (List.mem_singleton.mp hp)
theorem key_uniq {fs : List (Nat × Nat)} (nd : (fs.map (·.1)).Nodup) {v d e : Nat} (h1 : (v, d) ∈ fs) (h2 : (v, e) ∈ fs) : d = e := by
  induction fs with
  | nil => exact absurd h1 (by simp)
  | cons p fs ih =>
    have nd' : (p.1 :: fs.map (·.1)).Nodup := nd
    obtain ⟨n1, n2⟩ := List.nodup_cons.mp nd'
    rcases List.mem_cons.mp h1 with a | a
    · rcases List.mem_cons.mp h2 with b | b
      · have := a.trans b.symm
        exact (Prod.mk.inj this).2
      · exact absurd (List.mem_map.mpr ⟨_, b, by rw [← a]⟩) n1
    · rcases List.mem_cons.mp h2 with b | b
      · exact absurd (List.mem_map.mpr ⟨_, a, by rw [← b]⟩) n1
      · exact ih n2 a b
/-- one more is met from the k-th -/
theorem bfs_more {n : Nat} {g : Nat → List Nat} {w : Nat} {fs : List (Nat × Nat)} {k v d u : Nat} (G : Gr n g) (B : Bfs n g w fs k) (hk : fs[k]? = some (v, d)) (hu : u ∈ g v) (hn : u ∉ fs.map (·.1)) :
    Bfs n g w (fs ++ [(u, d + 1)]) k ∧ (fs ++ [(u, d + 1)])[k]? = some (v, d) := by
  have hkl : k < fs.length := (List.getElem?_eq_some_iff.mp hk).1
  have hv : (v, d) ∈ fs := List.mem_of_getElem? hk
  have at_ : ∀ (i : Nat), i < fs.length → (fs ++ [(u, d + 1)])[i]? = fs[i]? := fun i hi => List.getElem?_append_left hi
  refine ⟨⟨?_, ?_, ?_, ?_, ?_, ?_, ?_⟩, by rw [at_ k hkl]; exact hk⟩
  · rw [List.map_append]
    refine List.nodup_append.mpr ⟨B.nd, List.nodup_cons.mpr ⟨by simp, List.nodup_nil⟩, fun a ha b hb e => ?_⟩
    have hb' : b = u := List.mem_singleton.mp hb
    rw [e, hb'] at ha
    exact hn ha
  · intro p hp
    rcases List.mem_append.mp hp with q | q
    · exact B.lt p q
    · rw [List.mem_singleton.mp q]
      exact G.lt v u hu
  · exact List.mem_append_left _ B.zero
  · refine List.pairwise_append.mpr ⟨B.mono, List.pairwise_singleton _ _, fun a ha b hb => ?_⟩
    rw [List.mem_singleton.mp hb]
    exact B.band _ hk a ha
  · intro q hq p hp
    rw [at_ k hkl, hk] at hq
    have e : (v, d) = q := Option.some.inj hq
    rw [← e]
    rcases List.mem_append.mp hp with m | m
    · exact B.band _ hk p m
    · rw [List.mem_singleton.mp m]
      exact Nat.le_refl _
  · intro i p hi hp x hx
    rw [at_ i (by omega)] at hp
    obtain ⟨e, he, l⟩ := B.done i p hi hp x hx
    exact ⟨e, List.mem_append_left _ he, l⟩
  · intro p hp
    rcases List.mem_append.mp hp with m | m
    · rcases B.back p m with e | ⟨x, e, h1, h2, h3⟩
      · exact .inl e
      · exact .inr ⟨x, e, List.mem_append_left _ h1, h2, h3⟩
    · rw [List.mem_singleton.mp m]
      exact .inr ⟨v, d, List.mem_append_left _ hv, rfl, G.sym v u (B.lt _ hv) hu⟩
/-- all that the k-th is tied to are met -/
theorem bfs_next {n : Nat} {g : Nat → List Nat} {w : Nat} {fs : List (Nat × Nat)} {k v d : Nat} (B : Bfs n g w fs k) (hk : fs[k]? = some (v, d)) (h : ∀ u ∈ g v, u ∈ fs.map (·.1)) : Bfs n g w fs (k + 1) where
  nd := B.nd
  lt := B.lt
  zero := B.zero
  mono := B.mono
  band := fun q hq p hp => by
    have h1 := B.band _ hk p hp
    obtain ⟨l1, e1⟩ := List.getElem?_eq_some_iff.mp hk
    obtain ⟨l2, e2⟩ := List.getElem?_eq_some_iff.mp hq
    have h2 := (List.pairwise_iff_getElem.mp B.mono) k (k + 1) l1 l2 (Nat.lt_succ_self k)
    rw [e1, e2] at h2
    dsimp only at h1 h2
    omega
  done := fun i p hi hp u hu => by
    by_cases e : i = k
    · rw [e, hk] at hp
      have e' : (v, d) = p := Option.some.inj hp
      rw [← e'] at hu ⊢
      obtain ⟨q, hq, eq⟩ := List.mem_map.mp (h u hu)
      refine ⟨q.2, ?_, B.band _ hk q hq⟩
      rw [← eq]
      exact hq
    · exact B.done i p (by omega) hp u hu
  back := B.back
theorem bfs_end {n : Nat} {g : Nat → List Nat} {w : Nat} {fs : List (Nat × Nat)} {k : Nat} (B : Bfs n g w fs k) (hk : fs.length ≤ k) : Far n g w fs where
  nd := B.nd
  lt := B.lt
  zero := B.zero
  back := B.back
  near := fun p hp u hu => by
    obtain ⟨i, hi⟩ := List.mem_iff_getElem?.mp hp
    exact B.done i p (Nat.lt_of_lt_of_le (List.getElem?_eq_some_iff.mp hi).1 hk) hi u hu
theorem bfs_len {n : Nat} {g : Nat → List Nat} {w : Nat} {fs : List (Nat × Nat)} {k : Nat} (B : Bfs n g w fs k) : fs.length ≤ n := by
  have h := nodup_le B.nd (n := n) fun x hx => by
    obtain ⟨p, hp, e⟩ := List.mem_map.mp hx
    rw [← e]
    exact B.lt p hp
  rw [List.length_map] at h
  exact h

/-- the number that stands for v -/
def dist (fs : List (Nat × Nat)) (v : Nat) : Nat := ((fs.find? fun p => p.1 == v).map (·.2)).getD 0
theorem dist_of {fs : List (Nat × Nat)} (nd : (fs.map (·.1)).Nodup) {v d : Nat} (h : (v, d) ∈ fs) : dist fs v = d := by
  unfold dist
  cases e : fs.find? (fun p => p.1 == v) with
  | none =>
    have := List.find?_eq_none.mp e _ h
    exact absurd (by simp) this
  | some q =>
    have h1 : q.1 = v := by simpa using List.find?_some e
    have h2 : q ∈ fs := List.mem_of_find?_eq_some e
    have h3 : (v, q.2) ∈ fs := by
      rw [← h1]
      exact h2
    exact key_uniq nd h3 h

section
variable {n : Nat} {g : Nat → List Nat} {w : Nat} {fs : List (Nat × Nat)}
theorem far_all (G : Gr n g) (F : Far n g w fs) (C : Conn n g) (hw : w < n) {v : Nat} (hv : v < n) : v ∈ fs.map (·.1) := by
  have hS : ∀ u, u ∈ fs.map (·.1) → ∀ x ∈ g u, x ∈ fs.map (·.1) := fun u hu x hx => by
    obtain ⟨p, hp, e⟩ := List.mem_map.mp hu
    rw [← e] at hx
    obtain ⟨d, hd, _⟩ := F.near p hp x hx
    exact List.mem_map.mpr ⟨_, hd, rfl⟩
  obtain ⟨p0, h0⟩ := C w hw
  have w0 : w ∈ fs.map (·.1) := List.mem_map.mpr ⟨_, F.zero, rfl⟩
  have z0 := walk_back G (S := fun u => u ∈ fs.map (·.1)) hS (by omega) h0 w0
  obtain ⟨p1, h1⟩ := C v hv
  exact walk_closed hS h1 z0
/-- each content has its number -/
theorem far_at (F : Far n g w fs) {v : Nat} (h : v ∈ fs.map (·.1)) : (v, dist fs v) ∈ fs := by
  obtain ⟨p, hp, e⟩ := List.mem_map.mp h
  have hp' : (v, p.2) ∈ fs := by
    rw [← e]
    exact hp
  rw [dist_of F.nd hp']
  exact hp'
theorem far_zero (F : Far n g w fs) {v : Nat} (h : (v, 0) ∈ fs) : v = w := by
  rcases F.back _ h with e | ⟨u, e, _, h2, _⟩
  · exact (Prod.mk.inj e).1
  · dsimp only at h2
    omega
theorem far_step (F : Far n g w fs) {u v : Nat} (hu : u ∈ fs.map (·.1)) (hv : v ∈ g u) : v ∈ fs.map (·.1) ∧ dist fs v ≤ dist fs u + 1 := by
  obtain ⟨e, he, l⟩ := F.near _ (far_at F hu) v hv
  refine ⟨List.mem_map.mpr ⟨_, he, rfl⟩, ?_⟩
  rw [dist_of F.nd he]
  exact l
theorem far_up (G : Gr n g) (F : Far n g w fs) {u v : Nat} (hu : u ∈ fs.map (·.1)) (hv : v ∈ g u) : dist fs u ≤ dist fs v + 1 := by
  have h1 := far_step F hu hv
  obtain ⟨p, hp, e⟩ := List.mem_map.mp hu
  have hlt : u < n := by
    rw [← e]
    exact F.lt p hp
  exact (far_step F h1.1 (G.sym u v hlt hv)).2
/-- no way is shorter -/
theorem far_le (G : Gr n g) (F : Far n g w fs) : ∀ {u : Nat} {p : List Nat}, u ∈ fs.map (·.1) → Walk g u p w → dist fs u ≤ p.length
  | u, [], hu, h => by
    have e : u = w := h
    rw [e, dist_of F.nd F.zero]
    exact Nat.zero_le _
  | u, v :: p, hu, h => by
    have h1 := far_step F hu h.1
    have h2 := far_up G F hu h.1
    have h3 := far_le G F h1.1 h.2
    rw [List.length_cons]
    omega

/-! ### the way that is told -/
def told (g : Nat → List Nat) (fs : List (Nat × Nat)) : Nat → Nat → List Nat
  | 0, _ => []
  | k + 1, u => match (g u).filter fun v => dist fs v == k with
    | [] => []
    | v :: _ => v :: told g fs k v
/-- one step of it -/
theorem told_step (F : Far n g w fs) {u k : Nat} (hu : u ∈ fs.map (·.1)) (hd : dist fs u = k + 1) :
    ∃ v r, (g u).filter (fun v => dist fs v == k) = v :: r ∧ told g fs (k + 1) u = v :: told g fs k v ∧ v ∈ g u ∧ dist fs v = k ∧ v ∈ fs.map (·.1) := by
  have hm := far_at F hu
  rw [hd] at hm
  obtain ⟨x, hx, hxm⟩ : ∃ x, x ∈ g u ∧ (x, k) ∈ fs := by
    rcases F.back _ hm with e | ⟨x, e, h1, h2, h3⟩
    · have := (Prod.mk.inj e).2
      omega
    · dsimp only at h2 h3
      have e2 : e = k := by omega
      rw [e2] at h1
      exact ⟨x, h3, h1⟩
  have hxf : x ∈ (g u).filter (fun v => dist fs v == k) := List.mem_filter.mpr ⟨hx, by rw [dist_of F.nd hxm]; simp⟩
  cases e : (g u).filter (fun v => dist fs v == k) with
  | nil =>
    rw [e] at hxf
    exact absurd hxf (by simp)
  | cons v r =>
    have hv : v ∈ (g u).filter (fun v => dist fs v == k) := by
      rw [e]
      exact List.mem_cons_self
    obtain ⟨h1, h2⟩ := List.mem_filter.mp hv
    refine ⟨v, r, rfl, ?_, h1, by simpa using h2, (far_step F hu h1).1⟩
    show (match (g u).filter fun v => dist fs v == k with
      | [] => []
      | v :: _ => v :: told g fs k v) = _
    rw [e]
theorem told_walk (F : Far n g w fs) : ∀ (k : Nat) {u : Nat}, u ∈ fs.map (·.1) → dist fs u = k → Walk g u (told g fs k u) w ∧ (told g fs k u).length = k
  | 0, u, hu, hd => by
    have hm := far_at F hu
    rw [hd] at hm
    exact ⟨far_zero F hm, rfl⟩
  | k + 1, u, hu, hd => by
    obtain ⟨v, r, _, e, h1, h2, h3⟩ := told_step F hu hd
    obtain ⟨a, b⟩ := told_walk F k h3 h2
    rw [e]
    exact ⟨⟨h1, a⟩, by rw [List.length_cons, b]⟩

/-! ### order of tuples -/
def ltL : List Nat → List Nat → Bool
  | [], [] => false
  | [], _ :: _ => true
  | _ :: _, [] => false
  | x :: xs, y :: ys => if x = y then ltL xs ys else decide (x < y)
/-- it is the least of the shortest -/
theorem told_least (G : Gr n g) (F : Far n g w fs) : ∀ (k : Nat) {u : Nat} {p : List Nat}, u ∈ fs.map (·.1) → dist fs u = k → Walk g u p w → p.length = k → told g fs k u = p ∨ ltL (told g fs k u) p = true
  | 0, u, p, _, _, _, hl => by
    have e : p = [] := List.eq_nil_of_length_eq_zero hl
    rw [e]
    exact .inl rfl
  | k + 1, u, [], _, _, _, hl => absurd hl (by simp)
  | k + 1, u, x :: p, hu, hd, hw, hl => by
    have hl' : p.length = k := by simpa using hl
    obtain ⟨v, r, ef, e, h1, h2, h3⟩ := told_step F hu hd
    have hx := far_step F hu hw.1
    have hx2 := far_up G F hu hw.1
    have hx3 := far_le G F hx.1 hw.2
    have hxd : dist fs x = k := by omega
    have hxf : x ∈ v :: r := by
      rw [← ef]
      exact List.mem_filter.mpr ⟨hw.1, by rw [hxd]; simp⟩
    rw [e]
    rcases List.mem_cons.mp hxf with q | q
    · rw [q] at hw hx hxd ⊢
      rcases told_least G F k hx.1 hxd hw.2 hl' with z | z
      · exact .inl (by rw [z])
      · refine .inr ?_
        show (if v = v then ltL (told g fs k v) p else decide (v < v)) = true
        rw [if_pos rfl]
        exact z
    · have ha : Asc (v :: r) := by
        rw [← ef]
        exact (G.asc u).filter _
      have lt := (List.pairwise_cons.mp ha).1 x q
      refine .inr ?_
      show (if v = x then ltL (told g fs k v) p else decide (v < x)) = true
      rw [if_neg (by omega)]
      exact decide_eq_true lt
/-- a shortest way comes nowhere twice -/
theorem short_nodup (G : Gr n g) (F : Far n g w fs) : ∀ {u : Nat} {p : List Nat}, u ∈ fs.map (·.1) → Walk g u p w → p.length = dist fs u → (u :: p).Nodup ∧ ∀ x ∈ p, dist fs x < dist fs u
  | u, [], _, _, _ => ⟨List.nodup_cons.mpr ⟨by simp, List.nodup_nil⟩, fun x hx => absurd hx (by simp)⟩
  | u, v :: p, hu, hw, hl => by
    rw [List.length_cons] at hl
    have hx := far_step F hu hw.1
    have hx2 := far_up G F hu hw.1
    have hx3 := far_le G F hx.1 hw.2
    have hd : p.length = dist fs v := by omega
    obtain ⟨a, b⟩ := short_nodup G F hx.1 hw.2 hd
    have lt : ∀ x ∈ v :: p, dist fs x < dist fs u := fun x hx => by
      rcases List.mem_cons.mp hx with e | e
      · rw [e]
        omega
      · have := b x e
        omega
    refine ⟨List.nodup_cons.mpr ⟨fun m => ?_, a⟩, lt⟩
    have := lt u m
    omega
end

/-! ### the law's own going through -/
/-- one way, led on -/
def ext (g : Nat → List Nat) (a : List Nat) : List (List Nat) := ((g (a.getLastD 0)).filter fun v => !a.contains v).map fun v => a ++ [v]
def paths (g : Nat → List Nat) (u : Nat) : Nat → List (List Nat)
  | 0 => [[u]]
  | t + 1 => (paths g u t).flatMap (ext g)
def good (g : Nat → List Nat) (u w t : Nat) : List (List Nat) := ((paths g u t).filter fun a => a.getLastD 0 == w).map List.tail

section
variable {n : Nat} {g : Nat → List Nat} {u : Nat}
theorem getLastD_snoc (a : List Nat) (x d : Nat) : (a ++ [x]).getLastD d = x := by simp
theorem walk_last {p : List Nat} {z : Nat} (h : Walk g u p z) : (u :: p).getLastD 0 = z := by
  exact walk_end h
theorem mem_paths : ∀ (t : Nat) {a : List Nat}, a ∈ paths g u t ↔ ∃ p, a = u :: p ∧ p.length = t ∧ (u :: p).Nodup ∧ ∃ z, Walk g u p z
  | 0, a => by
    show a ∈ [[u]] ↔ _
    rw [List.mem_singleton]
    constructor
    · intro e
      exact ⟨[], e, rfl, List.nodup_cons.mpr ⟨by simp, List.nodup_nil⟩, u, rfl⟩
    · rintro ⟨p, e, hl, _⟩
      rw [e, List.eq_nil_of_length_eq_zero hl]
  | t + 1, a => by
    show a ∈ (paths g u t).flatMap (ext g) ↔ _
    rw [List.mem_flatMap]
    constructor
    · rintro ⟨b, hb, ha⟩
      obtain ⟨p, rfl, hl, nd, z, hz⟩ := (mem_paths t).mp hb
      obtain ⟨v, hv, rfl⟩ := List.mem_map.mp ha
      obtain ⟨h1, h2⟩ := List.mem_filter.mp hv
      rw [walk_last hz] at h1
      have h3 : v ∉ u :: p := by simpa using h2
      refine ⟨p ++ [v], rfl, by rw [List.length_append, hl]; rfl, ?_, v, walk_snoc.mpr ⟨z, hz, h1, rfl⟩⟩
      show ((u :: p) ++ [v]).Nodup
      refine List.nodup_append.mpr ⟨nd, List.nodup_cons.mpr ⟨by simp, List.nodup_nil⟩, fun x hx y hy e => ?_⟩
      rw [List.mem_singleton.mp hy] at e
      rw [e] at hx
      exact h3 hx
    · rintro ⟨p, rfl, hl, nd, z, hz⟩
      have hne : p ≠ [] := fun e => by
        rw [e] at hl
        exact absurd hl (by simp)
      have ep : p = p.dropLast ++ [p.getLast hne] := (List.dropLast_concat_getLast hne).symm
      generalize p.dropLast = q at ep
      generalize p.getLast hne = v at ep
      subst ep
      obtain ⟨z', hz', hv, e⟩ := walk_snoc.mp hz
      have nd' : ((u :: q) ++ [v]).Nodup := nd
      obtain ⟨n1, n2, n3⟩ := List.nodup_append.mp nd'
      refine ⟨u :: q, (mem_paths t).mpr ⟨q, rfl, by simpa using hl, n1, z', hz'⟩, List.mem_map.mpr ⟨v, List.mem_filter.mpr ⟨?_, ?_⟩, rfl⟩⟩
      · rw [walk_last hz']
        exact hv
      · have : v ∉ u :: q := fun m => n3 v m v (List.mem_singleton.mpr rfl) rfl
        simpa using this
theorem mem_good {w t : Nat} {p : List Nat} : p ∈ good g u w t ↔ p.length = t ∧ (u :: p).Nodup ∧ Walk g u p w := by
  unfold good
  rw [List.mem_map]
  constructor
  · rintro ⟨a, ha, rfl⟩
    obtain ⟨h1, h2⟩ := List.mem_filter.mp ha
    obtain ⟨p, rfl, hl, nd, z, hz⟩ := (mem_paths t).mp h1
    have e : z = w := by
      rw [walk_last hz] at h2
      simpa using h2
    rw [e] at hz
    exact ⟨hl, nd, hz⟩
  · rintro ⟨hl, nd, hw⟩
    refine ⟨u :: p, List.mem_filter.mpr ⟨(mem_paths t).mpr ⟨p, rfl, hl, nd, w, hw⟩, ?_⟩, rfl⟩
    rw [walk_last hw]
    simp
theorem paths_ne {t : Nat} {a : List Nat} (h : a ∈ paths g u t) : a ≠ [] := by
  obtain ⟨p, e, _⟩ := (mem_paths t).mp h
  rw [e]
  exact List.cons_ne_nil _ _
theorem paths_len {m : Nat} (hg : ∀ i, (g i).length ≤ m) : ∀ t, (paths g u t).length ≤ m ^ t
  | 0 => Nat.le_refl 1
  | t + 1 => by
    have ih := paths_len hg t
    show ((paths g u t).flatMap (ext g)).length ≤ m ^ (t + 1)
    have h1 : ∀ l : List (List Nat), (l.flatMap (ext g)).length ≤ l.length * m := by
      intro l
      induction l with
      | nil => simp
      | cons a l ihl =>
        rw [List.flatMap_cons, List.length_append, List.length_cons, Nat.add_mul, Nat.one_mul]
        have h2 : (ext g a).length ≤ m := by
          unfold ext
          rw [List.length_map]
          exact Nat.le_trans (List.length_filter_le _ _) (hg _)
        omega
    rw [Nat.pow_succ]
    exact Nat.le_trans (h1 _) (Nat.mul_le_mul_right m ih)
end

section
variable {n : Nat} {g : Nat → List Nat} {w : Nat} {fs : List (Nat × Nat)} {u : Nat}
/-- what the law finds first, and when -/
theorem told_good (G : Gr n g) (F : Far n g w fs) (hu : u ∈ fs.map (·.1)) : told g fs (dist fs u) u ∈ good g u w (dist fs u) := by
  obtain ⟨a, b⟩ := told_walk F _ hu rfl
  exact mem_good.mpr ⟨b, (short_nodup G F hu a b).1, a⟩
theorem good_none (G : Gr n g) (F : Far n g w fs) (hu : u ∈ fs.map (·.1)) {t : Nat} (ht : t < dist fs u) : good g u w t = [] := by
  cases e : good g u w t with
  | nil => rfl
  | cons p r =>
    have hp : p ∈ good g u w t := by
      rw [e]
      exact List.mem_cons_self
    obtain ⟨hl, _, hw⟩ := mem_good.mp hp
    have := far_le G F hu hw
    omega
theorem dist_lt (G : Gr n g) (F : Far n g w fs) (hu : u ∈ fs.map (·.1)) (hun : u < n) : dist fs u < n := by
  obtain ⟨a, b⟩ := told_walk F _ hu rfl
  obtain ⟨nd, _⟩ := short_nodup G F hu a b
  have h := nodup_le nd (n := n) fun x hx => by
    rcases List.mem_cons.mp hx with e | e
    · rw [e]
      exact hun
    · exact walk_lt G a x e
  rw [List.length_cons, b] at h
  exact h
/-- the first of the sorted ones is the told one -/
theorem told_first (G : Gr n g) (F : Far n g w fs) (hu : u ∈ fs.map (·.1)) {x : List Nat} {r : List (List Nat)} (hm : ∀ y, y ∈ x :: r ↔ y ∈ good g u w (dist fs u)) (hs : ∀ y ∈ r, ltL y x = false) : x = told g fs (dist fs u) u := by
  have hx := mem_good.mp ((hm x).mp List.mem_cons_self)
  have ht := (hm _).mpr (told_good G F hu)
  rcases told_least G F _ hu rfl hx.2.2 hx.1 with e | e
  · exact e.symm
  · rcases List.mem_cons.mp ht with q | q
    · exact q.symm
    · rw [hs _ q] at e
      cases e
end
end K87

/-! The text by places, what is common to the walks. -/
namespace K87
open PySem L2
/-! ### the text by places -/
def top (i : Nat) : Stmt := PySem.Challenge.pw_storelands_k87_whole_shortest_logs.main.body.getD i (.Pass ⟨0, 0, 0, 0⟩)
abbrev sInteger : Stmt := top 1
abbrev sWithin : Stmt := top 2
abbrev sIndex : Stmt := top 3
abbrev sPair : Stmt := top 4
abbrev sPairs : Stmt := top 5
abbrev sBeside : Stmt := top 6
abbrev sReached : Stmt := top 7
abbrev sInit : Stmt := inClass (top 16) 0
abbrev sSize : Stmt := inClass (top 16) 2
abbrev sTied : Stmt := top 17
abbrev sEntry : Stmt := top 21
abbrev sChkLog : Stmt := top 22
abbrev sChkCon : Stmt := top 23
abbrev sBehind : Stmt := top 24
abbrev sStand : Stmt := top 25
abbrev sCan : Stmt := top 26
abbrev sFar : Stmt := top 27
abbrev sShort : Stmt := top 28
abbrev sDice : Stmt := top 30
abbrev sDraw : Stmt := top 31
abbrev sLPairs : Stmt := top 32
abbrev sLRows : Stmt := top 33
abbrev sPiece : Stmt := top 34
abbrev sDrawn : Stmt := top 35
abbrev sMixed : Stmt := top 36
abbrev sLBook : Stmt := top 37
abbrev sWays : Stmt := top 38
abbrev sOrders : Stmt := top 39
abbrev sLaw : Stmt := top 40

/-! ### what the top has left -/
/-- no built-in name is the module's own -/
structure Txt (mg : Str → Option Value) : Prop where
  isinstance : mg "isinstance" = none
  int : mg "int" = none
  bool : mg "bool" = none
  tuple : mg "tuple" = none
  list : mg "list" = none
  str : mg "str" = none
  len : mg "len" = none
  all : mg "all" = none
  any : mg "any" = none
  range : mg "range" = none
  sorted : mg "sorted" = none
  abs : mg "abs" = none
/-- a def of the top, as it stands -/
structure Dfn (K : PySem.W.Frag) (mg : Str → Option Value) (x : Str) (st : Stmt) (ps : List Str) (f : Addr) (fd : FuncData) : Prop where
  fn : Fun K x x st f fd
  at_ : mg x = some (.ref f)
  b : Binds K fd ps []
/-- a def that may be called by its name, and keeps a promise -/
structure Cal (P : Program) (w : World) (K : PySem.W.Frag) (mg : Str → Option Value) (base : Heap) (k : Nat) (x : Str) (ps : List Str) (sp : Sp) (f : Addr) (fd : FuncData) : Prop where
  ok : FnOk P w K mg base CX0 k f fd ps sp
  at_ : mg x = some (.ref f)
  kp : PySem.W.keepIn K (.ref f) = true
  b : Binds K fd ps []
theorem Dfn.cal {P : Program} {w : World} {K : PySem.W.Frag} {mg : Str → Option Value} {base : Heap} {k : Nat} {x : Str} {st : Stmt} {ps : List Str} {sp : Sp} {f : Addr} {fd : FuncData} (D : Dfn K mg x st ps f fd)
    (h : FnOk P w K mg base CX0 k f fd ps sp) : Cal P w K mg base k x ps sp f fd := ⟨h, D.at_, D.fn.kp, D.b⟩

/-! ### values -/
abbrev vN (n : Nat) : V := .int (n : Int)
abbrev vNs (l : List Nat) : List V := l.map vN
theorem vNs_ints (l : List Nat) : vNs l = (l.map fun n : Nat => (n : Int)).map V.int := by
  rw [List.map_map]
  rfl
theorem vNs_snoc (l : List Nat) (x : Nat) : vNs (l ++ [x]) = vNs l ++ [vN x] := List.map_append ..
theorem at_map {α : Type} {f : α → V} {l : List α} {i : Nat} {x : V} (h : (l.map f)[i]? = some x) : ∃ a, l[i]? = some a ∧ x = f a := by
  rw [List.getElem?_map] at h
  cases e : l[i]? with
  | none =>
    rw [e] at h
    cases h
  | some a =>
    rw [e] at h
    exact ⟨a, rfl, (Option.some.inj h).symm⟩
theorem lt_of_at {α : Type} {l : List α} {i : Nat} {x : α} (h : l[i]? = some x) : i < l.length := (List.getElem?_eq_some_iff.mp h).1
theorem sz {n : Nat} (h : n ≤ 10000000) : n ≤ sizeLine := Nat.le_trans h (by decide)
theorem szl {n : Nat} (h : n ≤ 10000000) : n < sizeLine := Nat.lt_of_le_of_lt h (by decide)
theorem take_at {α : Type} {l : List α} {i : Nat} {x : α} (h : l[i]? = some x) : l.take (i + 1) = l.take i ++ [x] := by
  rw [List.take_add_one, h]
  rfl

/-! ### heaps -/
theorem Same.new {H : Hp} {p : Addr} {o : HO} (h : H p = none) : L2.Same H (upd H p o) := fun a u e => by
  rw [upd_ne (ne_of_none e h)]
  exact e
/-- an object that the first heap does not know may change -/
theorem Same.mut {H H' : Hp} {p : Addr} {o : HO} (e : L2.Same H H') (h : H p = none) : L2.Same H (upd H' p o) := fun a u q => by
  rw [upd_ne (ne_of_none q h)]
  exact e a u q
theorem Same.sqT {K : PySem.W.Frag} {H H' : Hp} {a : Addr} {xs : List V} (e : L2.Same H H') (h : SqT K H a xs) : SqT K H' a xs := by
  rcases h with (h | ⟨o, h⟩) | h
  · exact .inl (.inl (e _ _ h))
  · exact .inl (.inr ⟨o, e _ _ h⟩)
  · exact .inr h
/-- the heap but for one place -/
def off (a : Addr) (H : Hp) : Hp := fun b => if b = a then none else H b
theorem off_at {a : Addr} {H : Hp} : off a H a = none := by
  unfold off
  rw [if_pos rfl]
theorem off_ne {a b : Addr} {H : Hp} (h : b ≠ a) : off a H b = H b := by
  unfold off
  rw [if_neg h]
theorem off_same (a : Addr) (H : Hp) : L2.Same (off a H) H := fun b o e => by
  by_cases q : b = a
  · subst q
    rw [off_at] at e
    cases e
  · rw [off_ne q] at e
    exact e
theorem off_get {a b : Addr} {H : Hp} {o : HO} (h : b ≠ a) (e : H b = some o) : off a H b = some o := by
  rw [off_ne h]
  exact e
/-- all but a stands -/
abbrev But (a : Addr) (H H' : Hp) : Prop := L2.Same (off a H) H'
theorem But.of {a : Addr} {H H' : Hp} (h : L2.Same H H') : But a H H' := (off_same a H).trans h
theorem But.at_ {a b : Addr} {H H' : Hp} {o : HO} (h : But a H H') (hb : b ≠ a) (e : H b = some o) : H' b = some o := h b o (off_get hb e)
theorem But.trans {a : Addr} {H H1 H2 : Hp} (h : But a H H1) (h' : But a H1 H2) : But a H H2 := fun b o e => by
  by_cases q : b = a
  · subst q
    rw [off_at] at e
    cases e
  · exact h' b o (off_get q (h b o e))
theorem But.put {a : Addr} {H H' : Hp} {o : HO} (h : But a H H') : But a H (upd H' a o) := Same.mut h off_at
theorem But.free {a p : Addr} {H H' : Hp} (h : But a H H') (hp : p ≠ a) (e : H' p = none) : H p = none := by
  have := L2.Same.free h e
  rw [off_ne hp] at this
  exact this

/-! ### a dict's keys that are numbers -/
abbrev kN (n : Nat) : Key := Sum.inl (n : Int)
/-- the pairs of a dict: numbers to values -/
def kvs {α : Type} (f : α → V) (l : List (Nat × α)) : List (Key × V) := l.map fun p => (kN p.1, f p.2)
theorem kvs_snoc {α : Type} {f : α → V} {l : List (Nat × α)} {k : Nat} {a : α} : kvs f (l ++ [(k, a)]) = kvs f l ++ [(kN k, f a)] := by
  unfold kvs
  rw [List.map_append]
  rfl
theorem kvs_len {α : Type} {f : α → V} {l : List (Nat × α)} : (kvs f l).length = l.length := List.length_map _
theorem kN_inj {a b : Nat} (h : kN a = kN b) : a = b := by
  have := Sum.inl.inj h
  omega
theorem valV_no {α : Type} {f : α → V} : ∀ {l : List (Nat × α)} {k : Nat}, k ∉ l.map (·.1) → valV (kvs f l) (kN k) = none
  | [], _, _ => rfl
  | p :: l, k, h => by
    have h1 : ¬ kN p.1 = kN k := fun e => h (List.mem_cons.mpr (.inl (kN_inj e).symm))
    show valV ((kN p.1, f p.2) :: kvs f l) (kN k) = none
    rw [valV_neg h1]
    exact valV_no fun m => h (List.mem_cons.mpr (.inr m))
theorem valV_yes {α : Type} {f : α → V} : ∀ {l : List (Nat × α)} {k : Nat} {a : α}, (l.map (·.1)).Nodup → (k, a) ∈ l → valV (kvs f l) (kN k) = some (f a)
  | [], _, _, _, h => absurd h (by simp)
  | p :: l, k, a, nd, h => by
    have nd' : (p.1 :: l.map (·.1)).Nodup := nd
    obtain ⟨n1, n2⟩ := List.nodup_cons.mp nd'
    show valV ((kN p.1, f p.2) :: kvs f l) (kN k) = some (f a)
    rcases List.mem_cons.mp h with e | e
    · rw [← e]
      exact valV_pos rfl
    · have h1 : ¬ kN p.1 = kN k := fun q => n1 (List.mem_map.mpr ⟨_, e, (kN_inj q).symm⟩)
      rw [valV_neg h1]
      exact valV_yes n2 e
theorem put_new {α : Type} {f : α → V} {l : List (Nat × α)} {k : Nat} {a : α} (h : k ∉ l.map (·.1)) : putK (kvs f l) (kN k) (f a) = kvs f (l ++ [(k, a)]) := by
  rw [putK_new _ (valV_no h), kvs_snoc]

/-! ### a list made a tuple -/
def rTupL (K : PySem.W.Frag) : List V → Hp → VK → Prop := fun vs H Q => ∃ (a : Addr) (ys : List V), vs = [.ref a] ∧ SqL K H a ys ∧ ∀ t, H t = none → Q (.ref t) (upd H t (.tup ys))
theorem call_tupL {X : Cx} : CallR X (.type "tuple") (rTupL X.K) := fun pins s σ H vs us Q I r h => by
  obtain ⟨a, ys, e, hs, q⟩ := h
  exact call_tuple_of pins s σ H vs us Q I r ⟨a, ys, e, .inl ⟨hs, q⟩⟩
end K87

/-! Two rules that the layer lacks: >= of pairs of ints; sorted of a list of int tuples of one length, of any number. -/
namespace K87
open PySem L2
/-! ### p >= q, two pairs -/
/-- the lesser pair -/
abbrev LtP (a b c d : Int) : Prop := a < c ∨ (a = c ∧ b < d)
def rGeP (K : PySem.W.Frag) : R2 := fun x y H Q => ∃ (p q : Addr) (a b c d : Int), x = .ref p ∧ y = .ref q ∧ SqT K H p [.int a, .int b] ∧ SqT K H q [.int c, .int d] ∧ Q (.bl (decide (¬ LtP a b c d))) H
theorem op_geP {X : Cx} (hu : X.A.units < cLine) : OpR X (compareOp .GtE) (rGeP X.K) := by
  intro pins s σ H x y v u Q I rx ry h
  obtain ⟨p, q, a, b, c, d, ex, ey, hp, hq, k⟩ := h
  subst ex ey
  cases rx
  cases ry
  obtain ⟨us, ru, tu, _⟩ := I.tuple hp
  obtain ⟨ws, rw_, tw, _⟩ := I.tuple hq
  obtain ⟨u1, u2, eu, ⟨t1, e1⟩, ⟨t2, e2⟩⟩ := vals2 ru
  obtain ⟨w1, w2, ew, ⟨t3, e3⟩, ⟨t4, e4⟩⟩ := vals2 rw_
  subst eu ew e1 e2 e3 e4
  have key := Ob.RcOp.tuples_ge (A := X.A) (s := s) (e := fun j => if j = 0 then decide (a = c) else decide (b = d)) (r := fun j => if j = 0 then decide (c ≤ a) else decide (d ≤ b)) tu tw hu
    (fun j h1 h2 => by
      have hj : j < 2 := h1
      match j, hj with
      | 0, _ =>
        have z : (a == c) = decide (a = c) := by
          by_cases e : a = c
          · rw [decide_eq_true e, beq_iff_eq]
            exact e
          · rw [decide_eq_false e, beq_eq_false_iff_ne]
            exact e
        show SeqAt.EqAt X.A.in1 s (.int a t1) (.int c t3) (decide (a = c))
        rw [← z]
        exact SeqAt.EqAt.int_int _ _ _ _
      | 1, _ =>
        have z : (b == d) = decide (b = d) := by
          by_cases e : b = d
          · rw [decide_eq_true e, beq_iff_eq]
            exact e
          · rw [decide_eq_false e, beq_eq_false_iff_ne]
            exact e
        show SeqAt.EqAt X.A.in1 s (.int b t2) (.int d t4) (decide (b = d))
        rw [← z]
        exact SeqAt.EqAt.int_int _ _ _ _)
    (fun j h1 h2 _ => by
      have hj : j < 2 := h1
      match j, hj with
      | 0, _ => exact Ob.RcOp.ge_int a c t1 t3
      | 1, _ => exact Ob.RcOp.ge_int b d t2 t4)
  have e : Ob.lexAt (fun j => if j = 0 then decide (a = c) else decide (b = d)) (fun j => if j = 0 then decide (c ≤ a) else decide (d ≤ b)) (decide ((2 : Nat) ≥ 2)) 0 2 = decide (¬ LtP a b c d) := by
    show (if decide (a = c) = true then (if decide (b = d) = true then decide ((2 : Nat) ≥ 2) else decide (d ≤ b)) else decide (c ≤ a)) = _
    by_cases h1 : a = c
    · rw [if_pos (decide_eq_true h1)]
      by_cases h2 : b = d
      · rw [if_pos (decide_eq_true h2)]
        refine decide_eq_decide.mpr ⟨fun _ => ?_, fun _ => Nat.le_refl 2⟩
        unfold LtP
        omega
      · rw [if_neg (by rw [decide_eq_false h2]; exact Bool.false_ne_true)]
        refine decide_eq_decide.mpr ?_
        unfold LtP
        omega
    · rw [if_neg (by rw [decide_eq_false h1]; exact Bool.false_ne_true)]
      refine decide_eq_decide.mpr ?_
      unfold LtP
      omega
  have z : wpAny (model X.prog X.w) X.A (compareOp .GtE (.ref p) (.ref q)) (EP X pins σ Q) X.xe s := key X.prog X.w X.xe (EP X pins σ Q) ⟨.bl _, H, I, rfl, by
    show Q (.bl (Ob.lexAt _ _ (decide ((2 : Nat) ≥ 2)) 0 2)) H
    rw [e]
    exact k⟩
  exact z

/-! ### tuples of ints by their order -/
def ltI : List Int → List Int → Bool
  | _, [] => false
  | [], _ :: _ => true
  | x :: xs, y :: ys => if x = y then ltI xs ys else decide (x < y)
theorem ltI_cons {x y : Int} {xs ys : List Int} : ltI (x :: xs) (y :: ys) = true ↔ x < y ∨ (x = y ∧ ltI xs ys = true) := by
  show (if x = y then ltI xs ys else decide (x < y)) = true ↔ _
  by_cases e : x = y
  · rw [if_pos e]
    constructor
    · intro h
      exact .inr ⟨e, h⟩
    · rintro (h | h)
      · omega
      · exact h.2
  · rw [if_neg e, decide_eq_true_eq]
    constructor
    · intro h
      exact .inl h
    · rintro (h | h)
      · exact h
      · exact absurd h.1 e
theorem ltI_no {x y : Int} {xs ys : List Int} : ltI (x :: xs) (y :: ys) = false ↔ y < x ∨ (x = y ∧ ltI xs ys = false) := by
  have h := ltI_cons (x := x) (y := y) (xs := xs) (ys := ys)
  cases e : ltI xs ys <;> cases e2 : ltI (x :: xs) (y :: ys) <;> rw [e, e2] at h <;> simp at h ⊢ <;> omega
theorem ltI_asym : ∀ a b : List Int, ltI a b = true → ltI b a = false
  | _, [], h => by
    cases ‹List Int› <;> exact absurd h (by simp [ltI])
  | [], _ :: _, _ => rfl
  | x :: xs, y :: ys, h => by
    rw [ltI_no]
    rcases ltI_cons.mp h with q | ⟨q, r⟩
    · exact .inl q
    · exact .inr ⟨q.symm, ltI_asym xs ys r⟩
theorem ltI_tr : ∀ a b c : List Int, ltI b a = false → ltI c b = false → ltI c a = false
  | [], _, [], _, _ => rfl
  | [], _, _ :: _, _, _ => rfl
  | _ :: _, [], _, h, _ => absurd h (by simp [ltI])
  | _ :: _, _ :: _, [], _, h => absurd h (by simp [ltI])
  | x :: xs, y :: ys, z :: zs, h1, h2 => by
    rw [ltI_no] at h1 h2 ⊢
    rcases h1 with p | ⟨p, p2⟩
    · rcases h2 with q | ⟨q, _⟩
      · exact .inl (by omega)
      · exact .inl (by omega)
    · rcases h2 with q | ⟨q, q2⟩
      · exact .inl (by omega)
      · exact .inr ⟨by omega, ltI_tr xs ys zs p2 q2⟩
/-- upon natural numbers -/
theorem ltI_cast : ∀ a b : List Nat, ltI (a.map fun n : Nat => (n : Int)) (b.map fun n : Nat => (n : Int)) = ltL a b
  | [], [] => rfl
  | _ :: _, [] => rfl
  | [], _ :: _ => rfl
  | x :: xs, y :: ys => by
    show (if (x : Int) = (y : Int) then ltI _ _ else decide ((x : Int) < (y : Int))) = (if x = y then ltL xs ys else decide (x < y))
    by_cases e : x = y
    · rw [if_pos e, if_pos (by omega)]
      exact ltI_cast xs ys
    · rw [if_neg e, if_neg (by omega)]
      exact decide_eq_decide.mpr (by omega)
section
variable {prog : Program} {w : World} {A : Around} {E : Value → Shared → Prop} {s : Shared} {Q : Bool → Shared → Prop}
theorem lex_go {f : Bool} : ∀ {us ws : List Value} {ns ms : List Int} (i : Nat), PyProof.Rows.IntsAre us ns → PyProof.Rows.IntsAre ws ms → ns.length = ms.length → Q (ltI ns ms) s → PySem.W.KatLex prog w A f false Q (us.zip ws) i s
  | _, _, _, _, _, .nil, .nil, _, h => PySem.W.kat_nil h
  | _, _, _, _, _, .nil, .cons _ _ _, hl, _ => absurd hl (by simp)
  | _, _, _, _, _, .cons _ _ _, .nil, hl, _ => absurd hl (by simp)
  | _, _, _, _, i, .cons x t hu, .cons y t' hw, hl, h => by
    have hl' := Nat.succ.inj hl
    refine PySem.W.kat_cons (SeqAt.EqAt.int_int x t y t' prog w _ _ (PySem.W.kat_go (fun e => ?_) (fun e => ?_)))
    · have ex : x = y := by simpa using e
      refine PySem.W.kat_yes (lex_go (i + 1) hu hw hl' ?_)
      have h' : Q (if x = y then _ else decide (x < y)) s := h
      rw [if_pos ex] at h'
      exact h'
    · have ex : ¬ x = y := by simpa using e
      refine PySem.W.kat_no (TS.oneLt_ints _ ?_)
      have h' : Q (if x = y then _ else decide (x < y)) s := h
      rw [if_neg ex] at h'
      exact h'
end
/-- sorted(xs), xs a list of tuples of d small numbers each (d may be 0 where there is just one) -/
def rSortedU (K : PySem.W.Frag) : List V → Hp → VK → Prop := fun vs H Q => ∃ (a : Addr) (xs : List V) (k : V → List Int) (d : Nat), vs = [.ref a] ∧ SqL K H a xs ∧ (2 ≤ xs.length → 1 ≤ d) ∧
  (∀ x ∈ xs, ∃ t, x = .ref t ∧ SqT K H t ((k x).map V.int) ∧ (k x).length = d ∧ TS.Bd 64 (k x)) ∧
  ∀ ys p, ys.Perm xs → ys.Pairwise (fun x y => ltI (k y) (k x) = false) → H p = none → Q (.ref p) (upd H p (.lst ys))
theorem cr_sortedTs {X : Cx} : CallR X (.builtin "sorted") (rSortedU X.K) := by
  intro pins s σ H vs us Q I r h
  obtain ⟨a, xs, k, d, e0, hs, hd, hx, q⟩ := h
  subst e0
  obtain ⟨its, rv, hl, hz⟩ := I.list hs
  obtain ⟨u, e0, ru⟩ := vals1 r
  subst e0
  cases ru
  obtain ⟨e1, e2⟩ := refs_back rv fun x m => by
    obtain ⟨t, e, _⟩ := hx x m
    exact ⟨t, e⟩
  have key : ∀ v ∈ its, ∃ t, v = .ref t ∧ TS.TupInts s.heap v (k (backV v)) ∧ (k (backV v)).length = d ∧ TS.Bd 64 (k (backV v)) := fun v hv => by
    obtain ⟨t, e⟩ := e2 v hv
    have hm : backV v ∈ xs := by
      rw [e1]
      exact List.mem_map.mpr ⟨v, hv, rfl⟩
    obtain ⟨t', e', ht, hn, hb⟩ := hx _ hm
    rw [e] at e' hn hb ht ⊢
    cases e'
    exact ⟨t, rfl, tupI_raw I ht, hn, hb⟩
  refine SrtO.sorted_ord (ltv := fun u v => ltI (k (backV u)) (k (backV v))) ⟨fun u v => ltI_asym _ _, fun u v z => ltI_tr _ _ _⟩ hl.isList (by rw [← rv.length]; exact hz) (fun h2 h1 b hb keep => ?_) fun out o1 o2 => ?_
  · intro h' kp
    have old : ∀ c o, s.heap.get? c = some o → h'.get? c = some o := fun c o e => by
      obtain ⟨n1, n2⟩ := keep c o e
      exact kp c o n1 n2
    have kT : ∀ v ∈ its, TS.TupInts h' v (k (backV v)) := fun v hv => by
      obtain ⟨_, _, z, _⟩ := key v hv
      exact z.keeps fun c o e _ => old c o e
    have okT : TS.TupsOk h' d 64 its := fun v hv => by
      obtain ⟨_, _, _, z1, z2⟩ := key v hv
      exact ⟨_, kT v hv, z1, z2⟩
    obtain ⟨fs, g1, g2, g3⟩ := TS.firsts_of (hd (by rw [rv.length]; exact h2)) its okT
    refine ⟨PyProof.Rows.tuples' true, fun Q' E' hq => ?_, fun p1 p2 m1 m2 => ?_⟩
    · refine PySem.W.kat_kind (T := .type "int") g1 (by omega) (fun f hm => ?_) (by rfl) ?_
      · obtain ⟨n, t, e⟩ := g3 f hm
        rw [e]
        exact PySem.W.Looks.now
      · have e : (Value.type "int" != Value.type "tuple") = true := by decide +kernel
        rw [e]
        exact hq
    · obtain ⟨_, _, _, l1, _⟩ := key _ m1
      obtain ⟨_, _, _, l2, _⟩ := key _ m2
      obtain ⟨a1, x1, f1, ⟨o1, ho1, hc1, n1, hd1⟩, i1⟩ := kT _ m1
      obtain ⟨a2, x2, f2, ⟨o2, ho2, hc2, n2, hd2⟩, i2⟩ := kT _ m2
      show wpAny (model X.prog X.w) _ (PyProof.Rows.keyLt' (PyProof.Rows.tuples' true) p1.1 p2.1) (fun r s' => s' = _ ∧ r = ltI (k (backV p1.1)) (k (backV p2.1))) _ _
      generalize k (backV p1.1) = ns at i1 l1 ⊢
      generalize k (backV p2.1) = ms at i2 l2 ⊢
      rw [f1, f2]
      refine PySem.W.kat_lt ho1 hd1 ho2 hd2 ?_
      have sz : decide (x1.size < x2.size) = false := by
        have q1 := i1.length
        have q2 := i2.length
        rw [Array.length_toList] at q1 q2
        exact decide_eq_false (by omega)
      rw [sz]
      exact lex_go 0 i1 i2 (by omega) ⟨rfl, rfl⟩
  · have h3 : ∀ u ∈ out, ∃ a, u = Value.ref a := fun u hu => e2 u (o2.perm.mem_iff.mp hu)
    have hp : (out.map backV).Perm xs := by
      rw [e1]
      exact o2.perm.map backV
    obtain ⟨ep, he'⟩ := PyProof.Rows.sortedAll_at s.heap its out.toArray
    refine ⟨.ref _, upd H (s.heap.objs.size + 1) (.lst (out.map backV)), I.laid (t' := s.toks) (fun _ _ => PyProof.Rows.sortedAll_old) (Nat.le_succ _) ⟨?_, out, ep, vals_back h3, he'⟩, rfl, q _ _ hp ?_ (I.hok.fresh (Nat.le_succ _))⟩
    · rw [hp.length_eq]
      exact hz
    · rw [List.pairwise_map]
      exact o1
end K87

/-! Comprehensions whose elements leave standing what stands: the new list, item by item. -/
namespace K87
open PySem L2
/-! ### lists side by side -/
theorem pr_len {α β : Type} {F : α → β → Prop} {l : List α} {m : List β} (h : Paired F l m) : l.length = m.length := Paired.length h
theorem pr_map {α : Type} {f : α → V} : ∀ {l : List α} {ys : List V}, Paired (fun x y => y = f x) l ys → ys = l.map f
  | _, _, .nil => rfl
  | _, _, .cons e t => by
    rw [List.map_cons, e, pr_map t]
theorem pr_snoc {α β : Type} {F : α → β → Prop} {x : α} {y : β} (h : F x y) : ∀ {l : List α} {m : List β}, Paired F l m → Paired F (l ++ [x]) (m ++ [y])
  | _, _, .nil => .cons h .nil
  | _, _, .cons a t => .cons a (pr_snoc h t)
theorem pr_imp {α β : Type} {F G : α → β → Prop} (h : ∀ x y, F x y → G x y) : ∀ {l : List α} {m : List β}, Paired F l m → Paired G l m
  | _, _, .nil => .nil
  | _, _, .cons a t => .cons (h _ _ a) (pr_imp h t)
theorem pr_at {α β : Type} {F : α → β → Prop} : ∀ {l : List α} {m : List β} {i : Nat} {x : α}, Paired F l m → l[i]? = some x → ∃ y, m[i]? = some y ∧ F x y
  | _, _, _, _, .nil, e => absurd e (by simp)
  | _, _, 0, x, .cons (b := y) a _, e => by
    have : _ = x := Option.some.inj e
    subst this
    exact ⟨y, rfl, a⟩
  | _, _, i + 1, x, .cons _ t, e => by
    obtain ⟨y, h1, h2⟩ := pr_at (i := i) t (by simpa using e)
    exact ⟨y, by simpa using h1, h2⟩
theorem pr_back {α β : Type} {F : α → β → Prop} : ∀ {l : List α} {m : List β} {i : Nat} {y : β}, Paired F l m → m[i]? = some y → ∃ x, l[i]? = some x ∧ F x y
  | _, _, _, _, .nil, e => absurd e (by simp)
  | _, _, 0, y, .cons (a := x) a _, e => by
    have : _ = y := Option.some.inj e
    subst this
    exact ⟨x, rfl, a⟩
  | _, _, i + 1, y, .cons _ t, e => by
    obtain ⟨x, h1, h2⟩ := pr_back (i := i) t (by simpa using e)
    exact ⟨x, by simpa using h1, h2⟩
/-- the values are objects -/
theorem pr_refs {α : Type} {F : α → Addr → Prop} : ∀ {l : List α} {ys : List V}, Paired (fun x y => ∃ r, y = V.ref r ∧ F x r) l ys → ∃ rs : List Addr, ys = rs.map V.ref ∧ Paired F l rs
  | _, _, .nil => ⟨[], rfl, .nil⟩
  | _, _, .cons a t => by
    obtain ⟨r, e, h⟩ := a
    obtain ⟨rs, e2, h2⟩ := pr_refs t
    exact ⟨r :: rs, by rw [List.map_cons, e, e2], .cons h h2⟩

section
variable {α : Type} {K : PySem.W.Frag} {l : List α} {g : α → V} {p : α → Bool} {R : α → V → Hp → Prop} {a D : Addr} {j : Nat} {vs : List Nat} {σ : L2.St} {H1 : Hp} {Qd : Hp → Prop} {tt : TT} {te : TE}
/-- behind i items -/
def LcP (l : List α) (p : α → Bool) (R : α → V → Hp → Prop) (D : Addr) (H1 : Hp) (i : Nat) (H : Hp) : Prop :=
  L2.Same H1 H ∧ ∃ ys, H D = some (.lst ys) ∧ ∀ G, But D H G → Paired (fun x y => R x y G) ((l.take i).filter p) ys
/-- what is asked of the test, of the element -/
abbrev LcT (l : List α) (g : α → V) (p : α → Bool) (j : Nat) (vs : List Nat) (σ : L2.St) (H1 : Hp) (tt : TT) : Prop := ∀ (x : α) (H : Hp) (Q : Bool → Hp → Prop), x ∈ l → L2.Same H1 H → (∀ H', L2.Same H H' → Q (p x) H') → tt ((wipe σ vs).set j (some (g x))) H Q
abbrev LcE (l : List α) (g : α → V) (p : α → Bool) (R : α → V → Hp → Prop) (j : Nat) (vs : List Nat) (σ : L2.St) (H1 : Hp) (D : Addr) (te : TE) : Prop := ∀ (x : α) (H : Hp) (acc : List V) (Q : VK), x ∈ l → p x = true → L2.Same H1 H → H D = some (.lst acc) →
  (∀ y H', L2.Same H H' → (∀ G, But D H' G → R x y G) → Q y H') → te ((wipe σ vs).set j (some (g x))) H Q
theorem lcp_start (hD : H1 D = none) : LcP l p R D H1 0 (upd H1 D (.lst [])) :=
  ⟨Same.new hD, [], upd_same, fun _ _ => .nil⟩
theorem lcp_turn (hD : H1 D = none) (hz : l.length ≤ 10000000) {i : Nat} {x : α} {H : Hp} (hx : l[i]? = some x) (h : LcP l p R D H1 i H) (ht : LcT l g p j vs σ H1 tt) (he : LcE l g p R j vs σ H1 D te) :
    tt ((wipe σ vs).set j (some (g x))) H fun b H3 => if b = true then te ((wipe σ vs).set j (some (g x))) H3 fun y H4 => ∃ acc, H4 D = some (.lst acc) ∧ acc.length < sizeLine ∧ LcP l p R D H1 (i + 1) (upd H4 D (.lst (acc ++ [y]))) else LcP l p R D H1 (i + 1) H3 := by
  obtain ⟨s, ys, hy, hp⟩ := h
  have hm : x ∈ l := List.mem_of_getElem? hx
  refine ht x H _ hm s fun H3 s3 => ?_
  have e1 : (l.take (i + 1)).filter p = (l.take i).filter p ++ (if p x = true then [x] else []) := by
    rw [take_at hx, List.filter_append]
    congr 1
    cases q : p x <;> simp [q]
  cases q : p x with
  | true =>
    refine iteT ?_
    refine he x H3 ys _ hm q (s.trans s3) (s3 D _ hy) fun y H4 s4 hr => ?_
    have hl := pr_len (hp H (But.of (L2.Same.refl H)))
    have hle : ((l.take i).filter p).length ≤ l.length := Nat.le_trans (List.length_filter_le _ _) (by rw [List.length_take]; omega)
    refine ⟨ys, s4 D _ (s3 D _ hy), szl (by omega), Same.mut ((s.trans s3).trans s4) hD, ys ++ [y], upd_same, fun G hG => ?_⟩
    rw [e1, if_pos q]
    have hG4 : But D H4 G := fun b o e => by
      by_cases z : b = D
      · subst z
        rw [off_at] at e
        cases e
      · refine hG b o ?_
        rw [off_ne z] at e ⊢
        rw [upd_ne z]
        exact e
    exact pr_snoc (F := fun x y => R x y G) (hr G hG4) (hp G ((But.of (s3.trans s4)).trans hG4))
  | false =>
    refine iteF ?_
    refine ⟨s.trans s3, ys, s3 D _ hy, fun G hG => ?_⟩
    rw [e1, q, if_neg Bool.false_ne_true, List.append_nil]
    exact hp G ((But.of s3).trans hG)
theorem lcp_end {H : Hp} (h : LcP l p R D H1 l.length H) : ∃ ys, L2.Same H1 H ∧ H D = some (.lst ys) ∧ Paired (fun x y => R x y H) (l.filter p) ys := by
  obtain ⟨s, ys, hy, hp⟩ := h
  rw [List.take_length] at hp
  exact ⟨ys, s, hy, hp H (But.of (L2.Same.refl H))⟩
/-- over a list -/
theorem lcL (hD : H1 D = none) (hs : SqL K H1 a (l.map g)) (hz : l.length ≤ 10000000) (hw : ∀ x, wipe ((wipe σ vs).set j (some x)) vs = wipe σ vs) (ht : LcT l g p j vs σ H1 tt) (he : LcE l g p R j vs σ H1 D te)
    (hd : ∀ ys H', L2.Same H1 H' → H' D = some (.lst ys) → Paired (fun x y => R x y H') (l.filter p) ys → Qd H') :
    ∃ W : Nat → Nat → Hp → Prop, (∃ m, W 0 m (upd H1 D (.lst []))) ∧ ∀ i m H, W i m H →
      ((Itl K a).stop i H ∧ Qd H) ∨ ((Itl K a).go i H ∧ ∃ Nx : Hp → Prop, (∀ H', Nx H' → ∃ m', m' < m ∧ W (i + 1) m' H') ∧ ∀ x H', (Itl K a).yld i H x H' → gName j x (wipe σ vs) H' fun σ2 H2 => wipe σ2 vs = wipe σ vs ∧ tt σ2 H2 fun b H3 =>
        if b = true then te σ2 H3 fun y H4 => ∃ acc, H4 D = some (.lst acc) ∧ acc.length < sizeLine ∧ Nx (upd H4 D (.lst (acc ++ [y]))) else Nx H3) :=
  lc_list (xs := l.map g) (LcP l p R D H1) (lcp_start hD) (fun _ _ _ h => h.1.seq hs) (fun i x H hx h => by
    obtain ⟨b, hb, e⟩ := at_map hx
    subst e
    exact ⟨hw _, lcp_turn hD hz hb h ht he⟩) fun H h => by
    rw [List.length_map] at h
    obtain ⟨ys, q1, q2, q3⟩ := lcp_end h
    exact hd ys H q1 q2 q3
/-- over a tuple -/
theorem lcT (hD : H1 D = none) (hs : SqT K H1 a (l.map g)) (hz : l.length ≤ 10000000) (hw : ∀ x, wipe ((wipe σ vs).set j (some x)) vs = wipe σ vs) (ht : LcT l g p j vs σ H1 tt) (he : LcE l g p R j vs σ H1 D te)
    (hd : ∀ ys H', L2.Same H1 H' → H' D = some (.lst ys) → Paired (fun x y => R x y H') (l.filter p) ys → Qd H') :
    ∃ W : Nat → Nat → Hp → Prop, (∃ m, W 0 m (upd H1 D (.lst []))) ∧ ∀ i m H, W i m H →
      ((Itt K a).stop i H ∧ Qd H) ∨ ((Itt K a).go i H ∧ ∃ Nx : Hp → Prop, (∀ H', Nx H' → ∃ m', m' < m ∧ W (i + 1) m' H') ∧ ∀ x H', (Itt K a).yld i H x H' → gName j x (wipe σ vs) H' fun σ2 H2 => wipe σ2 vs = wipe σ vs ∧ tt σ2 H2 fun b H3 =>
        if b = true then te σ2 H3 fun y H4 => ∃ acc, H4 D = some (.lst acc) ∧ acc.length < sizeLine ∧ Nx (upd H4 D (.lst (acc ++ [y]))) else Nx H3) :=
  lc_tup (xs := l.map g) (LcP l p R D H1) (lcp_start hD) (fun _ _ _ h => Same.sqT h.1 hs) (fun i x H hx h => by
    obtain ⟨b, hb, e⟩ := at_map hx
    subst e
    exact ⟨hw _, lcp_turn hD hz hb h ht he⟩) fun H h => by
    rw [List.length_map] at h
    obtain ⟨ys, q1, q2, q3⟩ := lcp_end h
    exact hd ys H q1 q2 q3
end
/-- over a range from lo on -/
theorem lcR {p : Nat → Bool} {R : Nat → V → Hp → Prop} {D : Addr} {j : Nat} {vs : List Nat} {σ : L2.St} {H1 : Hp} {Qd : Hp → Prop} {tt : TT} {te : TE} {lo : Int} {n : Nat} (hD : H1 D = none) (hz : n ≤ 10000000) (hw : ∀ x, wipe ((wipe σ vs).set j (some x)) vs = wipe σ vs)
    (ht : LcT (List.range n) (fun i => V.int (lo + (i : Nat))) p j vs σ H1 tt) (he : LcE (List.range n) (fun i => V.int (lo + (i : Nat))) p R j vs σ H1 D te)
    (hd : ∀ ys H', L2.Same H1 H' → H' D = some (.lst ys) → Paired (fun x y => R x y H') ((List.range n).filter p) ys → Qd H') :
    ∃ W : Nat → Nat → Hp → Prop, (∃ m, W 0 m (upd H1 D (.lst []))) ∧ ∀ i m H, W i m H →
      ((Itr lo n).stop i H ∧ Qd H) ∨ ((Itr lo n).go i H ∧ ∃ Nx : Hp → Prop, (∀ H', Nx H' → ∃ m', m' < m ∧ W (i + 1) m' H') ∧ ∀ x H', (Itr lo n).yld i H x H' → gName j x (wipe σ vs) H' fun σ2 H2 => wipe σ2 vs = wipe σ vs ∧ tt σ2 H2 fun b H3 =>
        if b = true then te σ2 H3 fun y H4 => ∃ acc, H4 D = some (.lst acc) ∧ acc.length < sizeLine ∧ Nx (upd H4 D (.lst (acc ++ [y]))) else Nx H3) :=
  lc_range (LcP (List.range n) p R D H1) (lcp_start hD) (fun i H hi h => by
    have hx : (List.range n)[i]? = some i := List.getElem?_range hi
    exact ⟨hw _, lcp_turn (g := fun i => V.int (lo + (i : Nat))) hD (by rw [List.length_range]; exact hz) hx h ht he⟩) fun H h => by
    have h' : LcP (List.range n) p R D H1 (List.range n).length H := by
      rw [List.length_range]
      exact h
    obtain ⟨ys, q1, q2, q3⟩ := lcp_end h'
    exact hd ys H q1 q2 q3
/-- no test -/
theorem lcT_yes {α : Type} {l : List α} {g : α → V} {j : Nat} {vs : List Nat} {σ : L2.St} {H1 : Hp} : LcT l g (fun _ => true) j vs σ H1 tYes := fun _ H _ _ _ k => k H (L2.Same.refl H)
theorem filter_yes {α : Type} (l : List α) : l.filter (fun _ => true) = l := List.filter_eq_self.mpr fun _ _ => rfl
end K87

/-! storelands.checks -/
namespace K87
open PySem L2
theorem iteY {c A B : Prop} [Decidable c] (hc : c) (h : A) : if decide c = true then A else B := by
  rw [decide_eq_true hc]
  exact iteT h
theorem iteN {c A B : Prop} [Decidable c] (hc : ¬ c) (h : B) : if decide c = true then A else B := by
  rw [decide_eq_false hc]
  exact iteF h
theorem iteNY {c A B : Prop} [Decidable c] (hc : ¬ c) (h : A) : if (!decide c) = true then A else B := by
  rw [decide_eq_false hc]
  exact iteT h
theorem b_isi : bootBuiltins "isinstance" = some (.builtin "isinstance") := by decide +kernel
theorem b_int : bootBuiltins "int" = some (.type "int") := by decide +kernel
theorem b_bool : bootBuiltins "bool" = some (.type "bool") := by decide +kernel
theorem b_tuple : bootBuiltins "tuple" = some (.type "tuple") := by decide +kernel
theorem b_list : bootBuiltins "list" = some (.type "list") := by decide +kernel
theorem b_str : bootBuiltins "str" = some (.type "str") := by decide +kernel
theorem b_len : bootBuiltins "len" = some (.builtin "len") := by decide +kernel
theorem b_all : bootBuiltins "all" = some (.builtin "all") := by decide +kernel
theorem b_any : bootBuiltins "any" = some (.builtin "any") := by decide +kernel
theorem b_sorted : bootBuiltins "sorted" = some (.builtin "sorted") := by decide +kernel
theorem b_abs : bootBuiltins "abs" = some (.builtin "abs") := by decide +kernel
theorem kit_yes {K : PySem.W.Frag} {a : String} : PySem.W.kitOne K (.type a) (.type a) = some true := kit_ty (by unfold kitB; rw [if_pos (by simp)])
theorem kit_int_bool {K : PySem.W.Frag} : PySem.W.kitOne K (.type "int") (.type "bool") = some false := kit_ty (by decide +kernel)

/-! ### pairs as they stand -/
abbrev TP := Addr × (Nat × Nat)
abbrev refs (ps : List TP) : List V := ps.map fun p => V.ref p.1
def PairsIn (H : Hp) (ps : List TP) : Prop := ∀ p ∈ ps, H p.1 = some (.tup [vN p.2.1, vN p.2.2])
theorem PairsIn.same {H H' : Hp} {ps : List TP} (h : PairsIn H ps) (s : L2.Same H H') : PairsIn H' ps := fun p hp => s _ _ (h p hp)

/-! ### promises -/
def spInteger : Sp := fun vs H Q _ => ∃ i : Int, vs = [.int i] ∧ Q (.bl true) H
def spWithin : Sp := fun vs H Q _ => ∃ i l m : Int, vs = [.int i, .int l, .int m] ∧ Q (.bl (decide (l ≤ i ∧ i ≤ m))) H
def spIndex : Sp := fun vs H Q _ => ∃ i n : Int, vs = [.int i, .int n] ∧ Q (.bl (decide (0 ≤ i ∧ i < n))) H
def spPair : Sp := fun vs H Q _ => ∃ (t : Addr) (a b n : Nat), vs = [.ref t, vN n] ∧ H t = some (.tup [vN a, vN b]) ∧ a < b ∧ b < n ∧ Q (.bl true) H
def spPairs : Sp := fun vs H Q _ => ∃ (t : Addr) (ps : List TP) (n m : Nat), vs = [.ref t, vN n, vN m] ∧ H t = some (.tup (refs ps)) ∧ PairsIn H ps ∧ Ties n (ps.map (·.2)) ∧ ps.length ≤ m ∧ ps.length ≤ 10000000 ∧ ∀ H', L2.Same H H' → Q (.bl true) H'

section
variable {P : Program} {w : World} {K : PySem.W.Frag} {mg : Str → Option Value} {base : Heap} {f f1 f2 : Addr} {fd fd1 fd2 : FuncData}
theorem scInteger : FnScope ["thing"] ["thing"] (defScope sInteger) := ⟨rfl, rfl, rfl, by decide +kernel, rfl, by decide +kernel, by decide +kernel⟩
theorem ok_integer (F : Dfn K mg "is_integer" sInteger ["thing"] f fd) (T : Txt mg) : Cal P w K mg base 1 "is_integer" ["thing"] spInteger f fd := by
  refine F.cal (F.fn.ok scInteger (fun vs H Q E h => ?_) (fun cdv A outer s H vs Q E hr h => ?_))
  · obtain ⟨i, rfl, _⟩ := h
    rfl
  · obtain ⟨i, rfl, k⟩ := h
    refine ⟨_, pss_one (ps_ret (pe_and (pe_callB call_isi (by rfl) T.isinstance b_isi (pa_cons (pv 0) (pa_cons (pe_bltn (v := .ty "int") (by rfl) T.int b_int rfl) pa_nil)))
      (pe_one (pe_not (pe_callB call_isi (by rfl) T.isinstance b_isi (pa_cons (pv 0) (pa_cons (pe_bltn (v := .ty "bool") (by rfl) T.bool b_bool rfl) pa_nil))))))), ?_⟩
    refine ⟨_, rfl, .int i, .ty "int", _, _, true, rfl, .ty "int", .base (.int i), kit_yes, true, rfl, iteT ?_⟩
    exact ⟨_, rfl, .int i, .ty "bool", _, _, false, rfl, .ty "bool", .base (.int i), kit_int_bool, false, rfl, k⟩

theorem scWithin : FnScope ["thing", "least", "most"] ["thing", "least", "most"] (defScope sWithin) := ⟨rfl, rfl, rfl, by decide +kernel, rfl, by decide +kernel, by decide +kernel⟩
theorem ok_within (F : Dfn K mg "is_within" sWithin ["thing", "least", "most"] f fd) (c1 : Cal P w K mg base 1 "is_integer" ["thing"] spInteger f1 fd1) : Cal P w K mg base 2 "is_within" ["thing", "least", "most"] spWithin f fd := by
  refine F.cal (F.fn.ok scWithin (fun vs H Q E h => ?_) (fun cdv A outer s H vs Q E hr h => ?_))
  · obtain ⟨i, l, m, rfl, _⟩ := h
    rfl
  · obtain ⟨i, l, m, rfl, k⟩ := h
    refine ⟨_, pss_one (ps_ret (pe_and (pe_call c1.ok hr (by rfl) c1.at_ c1.kp c1.b .nil pass0 (pa_cons (pv 0) pa_nil)) (pe_one (pe_chain op_le op_le (pv 1) (pv 0) (pv 2))))), ?_⟩
    refine ⟨_, rfl, i, rfl, true, rfl, iteT ?_⟩
    refine ⟨_, rfl, _, rfl, l, i, rfl, rfl, _, rfl, ?_⟩
    by_cases h1 : l ≤ i
    · refine iteY h1 ⟨_, rfl, i, m, rfl, rfl, ?_⟩
      have e : decide (l ≤ i ∧ i ≤ m) = decide (i ≤ m) := decide_eq_decide.mpr ⟨fun z => z.2, fun z => ⟨h1, z⟩⟩
      rw [e] at k
      exact k
    · refine iteN h1 ?_
      have e : decide (l ≤ i ∧ i ≤ m) = false := decide_eq_false fun z => h1 z.1
      rw [e] at k
      exact k

theorem scIndex : FnScope ["thing", "many"] ["thing", "many"] (defScope sIndex) := ⟨rfl, rfl, rfl, by decide +kernel, rfl, by decide +kernel, by decide +kernel⟩
theorem ok_index (F : Dfn K mg "is_index" sIndex ["thing", "many"] f fd) (c1 : Cal P w K mg base 2 "is_within" ["thing", "least", "most"] spWithin f1 fd1) : Cal P w K mg base 3 "is_index" ["thing", "many"] spIndex f fd := by
  refine F.cal (F.fn.ok scIndex (fun vs H Q E h => ?_) (fun cdv A outer s H vs Q E hr h => ?_))
  · obtain ⟨i, n, rfl, _⟩ := h
    rfl
  · obtain ⟨i, n, rfl, k⟩ := h
    refine ⟨_, pss_one (ps_ret (pe_call c1.ok hr (by rfl) c1.at_ c1.kp c1.b .nil pass0 (pa_cons (pv 0) (pa_cons pe_int (pa_cons (pe_op op_sub (pv 1) pe_int) pa_nil))))), ?_⟩
    refine ⟨_, rfl, _, rfl, n, 1, rfl, rfl, i, 0, n - 1, rfl, ?_⟩
    have e : decide (0 ≤ i ∧ i < n) = decide (0 ≤ i ∧ i ≤ n - 1) := decide_eq_decide.mpr (by omega)
    rw [e] at k
    exact k

theorem scPair : FnScope ["thing", "many"] ["thing", "many"] (defScope sPair) := ⟨rfl, rfl, rfl, by decide +kernel, rfl, by decide +kernel, by decide +kernel⟩
theorem ok_pair (F : Dfn K mg "is_rising_pair" sPair ["thing", "many"] f fd) (T : Txt mg) (c1 : Cal P w K mg base 3 "is_index" ["thing", "many"] spIndex f1 fd1) : Cal P w K mg base 4 "is_rising_pair" ["thing", "many"] spPair f fd := by
  refine F.cal (F.fn.ok scPair (fun vs H Q E h => ?_) (fun cdv A outer s H vs Q E hr h => ?_))
  · obtain ⟨t, a, b, n, rfl, _⟩ := h
    rfl
  · obtain ⟨t, a, b, n, rfl, ht, hab, hbn, k⟩ := h
    refine ⟨_, pss_cons (ps_if (PW.pt (pw_or (pt_not (pt_val (pe_callB call_isi (by rfl) T.isinstance b_isi (pa_cons (pv 0) (pa_cons (pe_bltn (v := .ty "tuple") (by rfl) T.tuple b_tuple rfl) pa_nil)))))
        (pw_or1 (pt_cmpR op_ne (pe_callB call_len_seq (by rfl) T.len b_len (pa_cons (pv 0) pa_nil)) pe_int (nomark _))))) (pss_one (ps_ret pe_bl)) pss_nil)
      (pss_one (ps_ret (pe_and (pe_call c1.ok hr (by rfl) c1.at_ c1.kp c1.b .nil pass0 (pa_cons (pe_ix ix_tup (pv 0) pe_int (fun _ _ => rfl)) (pa_cons (pv 1) pa_nil)))
        (pe_and (pe_call c1.ok hr (by rfl) c1.at_ c1.kp c1.b .nil pass0 (pa_cons (pe_ix ix_tup (pv 0) pe_int (fun _ _ => rfl)) (pa_cons (pv 1) pa_nil)))
          (pe_one (pe_cmpR op_lt (pe_ix ix_tup (pv 0) pe_int (fun _ _ => rfl)) (pe_ix ix_tup (pv 0) pe_int (fun _ _ => rfl)) (nomark _))))))), ?_⟩
    refine ⟨_, rfl, .ref t, .ty "tuple", _, _, true, rfl, .ty "tuple", .base (.tup ht), kit_yes, true, rfl, iteF ?_⟩
    refine ⟨_, rfl, t, _, rfl, .inr (SqT.of ht), rfl, _, rfl, iteNS rfl ?_⟩
    refine ⟨_, rfl, t, _, 0, vN a, rfl, rfl, SqT.of ht, rfl, _, rfl, a, n, rfl, _, rfl, iteY ⟨by omega, by omega⟩ ?_⟩
    refine ⟨_, rfl, t, _, 1, vN b, rfl, rfl, SqT.of ht, rfl, _, rfl, b, n, rfl, _, rfl, iteY ⟨by omega, by omega⟩ ?_⟩
    refine ⟨_, rfl, t, _, 0, vN a, rfl, rfl, SqT.of ht, rfl, _, rfl, t, _, 1, vN b, rfl, rfl, SqT.of ht, rfl, a, b, rfl, rfl, ?_⟩
    have e : decide ((a : Int) < (b : Int)) = true := decide_eq_true (by omega)
    show Q (.bl (decide ((a : Int) < (b : Int)))) H
    rw [e]
    exact k

abbrev nPairs : List Str := ["thing", "many", "most", "pair", "at"]
theorem scPairs : FnScope nPairs ["thing", "many", "most"] (defScope sPairs) := ⟨rfl, rfl, rfl, by decide +kernel, rfl, by decide +kernel, by decide +kernel⟩
theorem ok_pairs (F : Dfn K mg "are_rising_pairs" sPairs ["thing", "many", "most"] f fd) (T : Txt mg) (c1 : Cal P w K mg base 4 "is_rising_pair" ["thing", "many"] spPair f1 fd1) : Cal P w K mg base 5 "are_rising_pairs" ["thing", "many", "most"] spPairs f fd := by
  refine F.cal (F.fn.ok scPairs (fun vs H Q E h => ?_) (fun cdv A outer s H vs Q E hr h => ?_))
  · obtain ⟨t, ps, n, m, rfl, _⟩ := h
    rfl
  · obtain ⟨t, ps, n, m, rfl, ht, hP, hT, hm, hz, k⟩ := h
    have nd := scPairs.nd
    refine ⟨_, pss_cons (ps_if (PW.pt (pw_or (pt_not (pt_val (pe_callB call_isi (by rfl) T.isinstance b_isi (pa_cons (pv 0) (pa_cons (pe_bltn (v := .ty "tuple") (by rfl) T.tuple b_tuple rfl) pa_nil)))))
        (pw_or1 (pt_cmpR op_gt (pe_callB call_len_seq (by rfl) T.len b_len (pa_cons (pv 0) pa_nil)) (pv 2) (nomark _))))) (pss_one (ps_ret pe_bl)) pss_nil)
      (pss_cons (ps_if (pt_not (pt_val (pe_callB (cr_all rfl) (by rfl) T.all b_all (pa_cons
          (pe_lc (own := [("pair", 3)]) (g := gName 3) (tt := tYes) rfl nd (pi_tup (pv 0)) (blkOk_by (N := nPairs) (sc := defScope sPairs) (by decide +kernel)) (fun _ _ _ _ _ => pg_name (i := 3) nd rfl (Or.inl rfl)) (fun _ _ _ _ _ => pts_nil)
            (fun _ _ _ _ _ => pe_call c1.ok hr (by rfl) c1.at_ c1.kp c1.b .nil pass0 (pa_cons (pv 3) (pa_cons (pv 1) pa_nil)))) pa_nil)))) (pss_one (ps_ret pe_bl)) pss_nil)
      (pss_one (ps_ret (pe_not (pe_callB (cr_any rfl) (by rfl) T.any b_any (pa_cons
          (pe_lc (own := [("at", 4)]) (g := gName 4) (tt := tYes) rfl nd (pi_range2 (by rfl) T.range (pa_cons pe_int (pa_cons (pe_callB call_len_seq (by rfl) T.len b_len (pa_cons (pv 0) pa_nil)) pa_nil))) (blkOk_by (N := nPairs) (sc := defScope sPairs) (by decide +kernel)) (fun _ _ _ _ _ => pg_name (i := 4) nd rfl (Or.inl rfl)) (fun _ _ _ _ _ => pts_nil)
            (fun _ _ _ _ _ => pe_cmpR (r := rGeP K) (op_geP hr.units0) (pe_ix (r := rIxT K) ix_tup (pv 0) (pe_op op_sub (pv 4) pe_int) (fun _ _ => rfl)) (pe_ix (r := rIxT K) ix_tup (pv 0) (pv 4) (fun _ _ => rfl)) (nomark _))) pa_nil)))))), ?_⟩
    refine ⟨_, rfl, .ref t, .ty "tuple", _, _, true, rfl, .ty "tuple", .base (.tup ht), kit_yes, true, rfl, iteF ?_⟩
    refine ⟨_, rfl, t, _, rfl, .inr (SqT.of ht), _, rfl, _, _, rfl, rfl, _, rfl, iteN (by rw [List.length_map]; omega) ?_⟩
    -- all([..])
    refine ⟨_, rfl, t, rfl, ⟨_, SqT.of ht⟩, fun D hD => lcT (l := ps) (g := fun p => V.ref p.1) (p := fun _ => true) (R := fun _ y _ => y = V.bl true) hD (SqT.of ht) hz (fun _ => rfl) lcT_yes (fun x H2 acc Q2 hx _ s2 _ k2 => ?_) fun ys H2 s2 hy hr2 => ?_⟩
    · have l := hT.lt _ (List.mem_map.mpr ⟨x, hx, rfl⟩)
      exact ⟨_, rfl, _, rfl, x.1, x.2.1, x.2.2, n, rfl, hP.same s2 x hx, l.1, l.2, k2 _ _ (L2.Same.refl _) fun _ _ => rfl⟩
    rw [filter_yes] at hr2
    have ey : ys = (ps.map fun _ => true).map V.bl := by
      rw [pr_map (f := fun _ => V.bl true) hr2, List.map_map]
      rfl
    refine ⟨D, ps.map fun _ => true, rfl, SqL.of (by rw [hy, ey]), _, rfl, ?_⟩
    have ea : (ps.map fun _ => true).all id = true := by
      rw [List.all_eq_true]
      intro b hb
      obtain ⟨_, _, e⟩ := List.mem_map.mp hb
      exact e.symm
    rw [ea]
    refine iteF ?_
    -- not any([..])
    have ht2 := s2 _ _ ht
    refine ⟨_, rfl, t, _, rfl, .inr (SqT.of ht2), 1, _, rfl, ⟨by omega, by omega, by rw [List.length_map]; omega, by rw [List.length_map]; omega⟩, fun D2 hD2 =>
      lcR (lo := 1) (p := fun _ => true) (R := fun _ y _ => y = V.bl false) hD2 (by rw [List.length_map]; omega) (fun _ => rfl) lcT_yes (fun i H3 acc Q3 hi _ s3 _ k3 => ?_) fun ys2 H3 s3 hy3 hr3 => ?_⟩
    · rw [List.mem_range, List.length_map] at hi
      have h1 : i < ps.length := by omega
      have h2 : i + 1 < ps.length := by omega
      have ht3 := s3 _ _ ht2
      have hP3 := (hP.same s2).same s3
      have as := (List.pairwise_iff_getElem.mp hT.asc) i (i + 1) (by rw [List.length_map]; exact h1) (by rw [List.length_map]; exact h2) (Nat.lt_succ_self i)
      rw [List.getElem_map, List.getElem_map] at as
      have g1 : (refs ps)[i]? = some (V.ref ps[i].1) := by rw [List.getElem?_map, List.getElem?_eq_getElem h1]; rfl
      have g2 : (refs ps)[i + 1]? = some (V.ref ps[i + 1].1) := by rw [List.getElem?_map, List.getElem?_eq_getElem h2]; rfl
      refine ⟨_, rfl, _, rfl, _, _, rfl, rfl, t, _, _, V.ref ps[i].1, rfl, rfl, SqT.of ht3, at_of (by omega) g1, ?_⟩
      refine ⟨_, rfl, _, rfl, t, _, _, V.ref ps[i + 1].1, rfl, rfl, SqT.of ht3, at_of (by omega) g2, ?_⟩
      refine ⟨_, _, _, _, _, _, rfl, rfl, SqT.of (hP3 _ (List.getElem_mem h1)), SqT.of (hP3 _ (List.getElem_mem h2)), ?_⟩
      have e : decide (¬ LtP (ps[i].2.1 : Int) (ps[i].2.2 : Int) (ps[i + 1].2.1 : Int) (ps[i + 1].2.2 : Int)) = false := decide_eq_false (by unfold LtP; omega)
      rw [e]
      exact k3 _ _ (L2.Same.refl _) fun _ _ => rfl
    rw [filter_yes] at hr3
    have ey2 : ys2 = ((List.range (((refs ps).length : Int) - 1).toNat).map fun _ => false).map V.bl := by
      rw [pr_map (f := fun _ => V.bl false) hr3, List.map_map]
      rfl
    refine ⟨D2, _, rfl, SqL.of (by rw [hy3, ey2]), _, rfl, ?_⟩
    have ea2 : ((List.range (((refs ps).length : Int) - 1).toNat).map fun _ => false).any id = false := by
      rw [List.any_eq_false]
      intro b hb
      obtain ⟨_, _, e⟩ := List.mem_map.mp hb
      rw [← e]
      exact Bool.false_ne_true
    rw [ea2]
    exact k _ (s2.trans s3)
end
end K87

/-! beside_lists, _law_rows, reached -/
namespace K87
open PySem L2
/-! ### rows as they stand -/
structure TupRows (H : Hp) (L : Addr) (rs : List Addr) (n : Nat) (g : Nat → List Nat) : Prop where
  at_ : H L = some (.lst (rs.map V.ref))
  len : rs.length = n
  row : ∀ (i : Nat) r, rs[i]? = some r → H r = some (.tup (vNs (g i)))
structure LstRows (H : Hp) (L : Addr) (rs : List Addr) (n : Nat) (g : Nat → List Nat) : Prop where
  at_ : H L = some (.lst (rs.map V.ref))
  len : rs.length = n
  row : ∀ (i : Nat) r, rs[i]? = some r → H r = some (.lst (vNs (g i)))
theorem TupRows.same {H H' : Hp} {L : Addr} {rs : List Addr} {n : Nat} {g : Nat → List Nat} (h : TupRows H L rs n g) (s : L2.Same H H') : TupRows H' L rs n g := ⟨s _ _ h.at_, h.len, fun i r e => s _ _ (h.row i r e)⟩
theorem LstRows.same {H H' : Hp} {L : Addr} {rs : List Addr} {n : Nat} {g : Nat → List Nat} (h : LstRows H L rs n g) (s : L2.Same H H') : LstRows H' L rs n g := ⟨s _ _ h.at_, h.len, fun i r e => s _ _ (h.row i r e)⟩
theorem get_lt {α : Type} {l : List α} {i n : Nat} (hl : l.length = n) (hi : i < n) : ∃ r, l[i]? = some r := ⟨_, List.getElem?_eq_getElem (by omega)⟩
theorem TupRows.get {H : Hp} {L : Addr} {rs : List Addr} {n : Nat} {g : Nat → List Nat} (h : TupRows H L rs n g) {i : Nat} (hi : i < n) : ∃ r, (rs.map V.ref)[i]? = some (.ref r) ∧ H r = some (.tup (vNs (g i))) := by
  obtain ⟨r, e⟩ := get_lt h.len hi
  exact ⟨r, by rw [List.getElem?_map, e]; rfl, h.row i r e⟩
theorem LstRows.get {H : Hp} {L : Addr} {rs : List Addr} {n : Nat} {g : Nat → List Nat} (h : LstRows H L rs n g) {i : Nat} (hi : i < n) : ∃ r, (rs.map V.ref)[i]? = some (.ref r) ∧ H r = some (.lst (vNs (g i))) := by
  obtain ⟨r, e⟩ := get_lt h.len hi
  exact ⟨r, by rw [List.getElem?_map, e]; rfl, h.row i r e⟩

/-! ### the rows while they are filled -/
structure Fd (H0 H : Hp) (L : Addr) (rs : List Addr) (n : Nat) (pre : List (Nat × Nat)) : Prop where
  same : L2.Same H0 H
  newL : H0 L = none
  new : ∀ r ∈ rs, H0 r = none
  nd : rs.Nodup
  ne : L ∉ rs
  len : rs.length = n
  at_ : H L = some (.lst (rs.map V.ref))
  row : ∀ (i : Nat) r, rs[i]? = some r → H r = some (.lst (vNs (raw pre i)))
theorem Fd.get {H0 H : Hp} {L : Addr} {rs : List Addr} {n : Nat} {pre : List (Nat × Nat)} (h : Fd H0 H L rs n pre) {i : Nat} (hi : i < n) : ∃ r, rs[i]? = some r ∧ (rs.map V.ref)[i]? = some (.ref r) ∧ H r = some (.lst (vNs (raw pre i))) := by
  obtain ⟨r, e⟩ := get_lt h.len hi
  exact ⟨r, e, by rw [List.getElem?_map, e]; rfl, h.row i r e⟩
/-- one tie more -/
theorem Fd.more {H0 H : Hp} {L : Addr} {rs : List Addr} {n : Nat} {pre : List (Nat × Nat)} (h : Fd H0 H L rs n pre) {a b : Nat} {ra rb : Addr} (ha : rs[a]? = some ra) (hb : rs[b]? = some rb) (ne : a ≠ b) :
    Fd H0 (upd (upd H ra (.lst (vNs (raw pre a) ++ [vN b]))) rb (.lst (vNs (raw pre b) ++ [vN a]))) L rs n (pre ++ [(a, b)]) := by
  have ma : ra ∈ rs := List.mem_of_getElem? ha
  have mb : rb ∈ rs := List.mem_of_getElem? hb
  have dif : ∀ (i j : Nat) (r q : Addr), rs[i]? = some r → rs[j]? = some q → i ≠ j → r ≠ q := fun i j r q h1 h2 hij e => by
    rw [e] at h1
    exact hij (nd_ix h.nd h1 h2)
  refine ⟨Same.mut (Same.mut h.same (h.new _ ma)) (h.new _ mb), h.newL, h.new, h.nd, h.ne, h.len, ?_, fun i r hr => ?_⟩
  · rw [upd_ne (fun e => h.ne (by rw [e]; exact mb)), upd_ne (fun e => h.ne (by rw [e]; exact ma))]
    exact h.at_
  · rw [raw_snoc]
    by_cases hib : i = b
    · subst hib
      have e : r = rb := Option.some.inj (hr.symm.trans hb)
      rw [e, upd_same]
      dsimp only
      rw [if_neg ne, if_pos rfl, vNs_snoc]
    · rw [upd_ne (dif i b r rb hr hb hib)]
      by_cases hia : i = a
      · subst hia
        have e : r = ra := Option.some.inj (hr.symm.trans ha)
        rw [e, upd_same]
        dsimp only
        rw [if_pos rfl, vNs_snoc]
      · rw [upd_ne (dif i a r ra hr ha hia), h.row i r hr]
        dsimp only
        rw [if_neg (fun e => hia e.symm), if_neg (fun e => hib e.symm), List.append_nil]
/-- [[] for _ in range(n)] -/
theorem lc_empty {D : Addr} {j : Nat} {vs : List Nat} {σ : L2.St} {H1 : Hp} {Qd : Hp → Prop} {n : Nat} (hD : H1 D = none) (hn : n ≤ 10000000) (hw : ∀ x, wipe ((wipe σ vs).set j (some x)) vs = wipe σ vs)
    (hd : ∀ rs H', Fd H1 H' D rs n [] → Qd H') :
    ∃ W : Nat → Nat → Hp → Prop, (∃ m, W 0 m (upd H1 D (.lst []))) ∧ ∀ i m H, W i m H →
      ((Itr 0 n).stop i H ∧ Qd H) ∨ ((Itr 0 n).go i H ∧ ∃ Nx : Hp → Prop, (∀ H', Nx H' → ∃ m', m' < m ∧ W (i + 1) m' H') ∧ ∀ x H', (Itr 0 n).yld i H x H' → gName j x (wipe σ vs) H' fun σ2 H2 => wipe σ2 vs = wipe σ vs ∧ tYes σ2 H2 fun b H3 =>
        if b = true then tLst tNil σ2 H3 fun y H4 => ∃ acc, H4 D = some (.lst acc) ∧ acc.length < sizeLine ∧ Nx (upd H4 D (.lst (acc ++ [y]))) else Nx H3) := by
  refine lc_range (fun i H => ∃ rs, Fd H1 H D rs i []) ⟨[], Same.new hD, hD, fun r hr => absurd hr (by simp), List.nodup_nil, by simp, rfl, upd_same, fun i r hr => absurd hr (by simp)⟩ (fun i H hi h => ?_) fun H h => ?_
  · obtain ⟨rs, h⟩ := h
    refine ⟨hw _, ?_⟩
    refine iteT (B := ∃ rs, Fd H1 H D rs (i + 1) []) ⟨Nat.zero_le _, fun p hp => ?_⟩
    have npD : p ≠ D := fun e => by
      rw [e, h.at_] at hp
      cases hp
    have npr : p ∉ rs := fun m => by
      obtain ⟨k, hk⟩ := List.mem_iff_getElem?.mp m
      rw [h.row k p hk] at hp
      cases hp
    have hl := h.len
    refine ⟨rs.map V.ref, by rw [upd_ne npD.symm]; exact h.at_, by rw [List.length_map]; exact szl (by omega), rs ++ [p], ?_⟩
    refine ⟨Same.mut (h.same.trans (Same.new hp)) hD, hD, fun r hr => ?_, List.nodup_append.mpr ⟨h.nd, List.nodup_cons.mpr ⟨by simp, List.nodup_nil⟩, fun x hx y hy e => ?_⟩, fun m => ?_, by rw [List.length_append, hl]; rfl, by rw [upd_same, List.map_append]; rfl, fun k r hr => ?_⟩
    · rcases List.mem_append.mp hr with q | q
      · exact h.new r q
      · rw [List.mem_singleton.mp q]
        exact h.same.free hp
    · rw [List.mem_singleton.mp hy] at e
      rw [e] at hx
      exact npr hx
    · rcases List.mem_append.mp m with q | q
      · exact h.ne q
      · exact npD (List.mem_singleton.mp q).symm
    · have hm : r ∈ rs ++ [p] := List.mem_of_getElem? hr
      rcases List.mem_append.mp hm with q | q
      · have n1 : r ≠ D := fun e => h.ne (e ▸ q)
        have n2 : r ≠ p := fun e => npr (e ▸ q)
        obtain ⟨k', hk'⟩ := List.mem_iff_getElem?.mp q
        rw [upd_ne n1, upd_ne n2, h.row k' r hk']
        rfl
      · rw [List.mem_singleton.mp q, upd_ne npD, upd_same]
        rfl
  · obtain ⟨rs, h⟩ := h
    exact hd rs H h
theorem refs_range {rs : List Addr} {n : Nat} (h : rs.length = n) : rs.map V.ref = (List.range n).map fun i => V.ref (rs.getD i 0) := by
  refine List.ext_getElem? fun i => ?_
  rw [List.getElem?_map, List.getElem?_map]
  by_cases hi : i < n
  · rw [List.getElem?_range hi, List.getElem?_eq_getElem (by omega)]
    simp [List.getD, List.getElem?_eq_getElem (show i < rs.length by omega)]
  · rw [List.getElem?_eq_none (by omega), List.getElem?_eq_none (by rw [List.length_range]; omega)]
    rfl
theorem getD_at {rs : List Addr} {n i : Nat} (h : rs.length = n) (hi : i < n) : rs[i]? = some (rs.getD i 0) := by
  simp [List.getD, List.getElem?_eq_getElem (show i < rs.length by omega)]
theorem pr_range {F : Nat → Addr → Prop} {n : Nat} {rs : List Addr} (h : Paired F (List.range n) rs) : rs.length = n ∧ ∀ (i : Nat) r, rs[i]? = some r → F i r := by
  have hl := pr_len h
  rw [List.length_range] at hl
  refine ⟨hl.symm, fun i r hr => ?_⟩
  have hi : i < n := by
    have := lt_of_at hr
    omega
  obtain ⟨y, h1, h2⟩ := pr_at h (List.getElem?_range hi)
  have e : r = y := Option.some.inj (hr.symm.trans h1)
  rw [e]
  exact h2

/-! ### promises -/
def spBeside : Sp := fun vs H Q _ => ∃ (t : Addr) (ps : List TP) (n : Nat), vs = [vN n, .ref t] ∧ H t = some (.tup (refs ps)) ∧ PairsIn H ps ∧ Ties n (ps.map (·.2)) ∧ n ≤ 8 ∧
  ∀ L rs H', L2.Same H H' → TupRows H' L rs n (nb n (ps.map (·.2))) → Q (.ref L) H'
def spLRows : Sp := fun vs H Q _ => ∃ (t : Addr) (ps : List TP) (n : Nat), vs = [vN n, .ref t] ∧ H t = some (.tup (refs ps)) ∧ PairsIn H ps ∧ Ties n (ps.map (·.2)) ∧ n ≤ 8 ∧
  ∀ L rs H', L2.Same H H' → LstRows H' L rs n (nb n (ps.map (·.2))) → Q (.ref L) H'
theorem raw_small {n : Nat} {ts : List (Nat × Nat)} (T : Ties n ts) (hn : n ≤ 8) (i : Nat) : (raw ts i).length ≤ 8 :=
  Nat.le_trans (nodup_le (nd_raw T.lt T.nd i) fun _ hx => raw_lt T.lt hx) hn
/-- what sorted gives of a row -/
theorem row_sorted {n : Nat} {ts : List (Nat × Nat)} (T : Ties n ts) {i : Nat} {zs : List Int} (p : zs.Perm ((raw ts i).map fun n : Nat => (n : Int))) (s : zs.Pairwise (fun a b => a ≤ b)) : zs.map V.int = vNs (nb n ts i) := by
  obtain ⟨l, e, ha, hp⟩ := sorted_cast p s (nd_raw T.lt T.nd i)
  rw [← nb_of_raw T.lt ha hp, e, List.map_map]
  rfl
section
variable {P : Program} {w : World} {K : PySem.W.Frag} {mg : Str → Option Value} {base : Heap} {f f1 f2 : Addr} {fd fd1 fd2 : FuncData}
abbrev nBeside : List Str := ["many", "pairs", "found", "one", "other", "_", "row"]
theorem scBeside : FnScope nBeside ["many", "pairs"] (defScope sBeside) := ⟨rfl, rfl, rfl, by decide +kernel, rfl, by decide +kernel, by decide +kernel⟩
theorem ok_beside (F : Dfn K mg "beside_lists" sBeside ["many", "pairs"] f fd) (T : Txt mg) : Cal P w K mg base 1 "beside_lists" ["many", "pairs"] spBeside f fd := by
  refine F.cal (F.fn.ok scBeside (fun vs H Q E h => ?_) (fun cdv A outer s H vs Q E hr h => ?_))
  · obtain ⟨t, ps, n, rfl, _⟩ := h
    rfl
  · obtain ⟨t, ps, n, rfl, ht, hP, hT, hn, k⟩ := h
    have nd := scBeside.nd
    refine ⟨_, pss_cons (ps_setLc (i := 2) (own := [("_", 5)]) (g := gName 5) (tt := tYes) (te := tLst tNil) rfl nd rfl rfl (sw_true rfl rfl rfl (by decide +kernel)) (pi_range1 (by rfl) T.range (pa_cons (pv 0) pa_nil)) (blkOk_by (N := nBeside) (sc := defScope sBeside) (by decide +kernel))
        (fun _ _ _ _ _ => pg_name (i := 5) nd rfl (Or.inl rfl)) (fun _ _ _ _ _ => pts_nil) (fun _ _ _ _ _ => pe_lst pa_nil))
      (pss_cons (ps_for PassesOwn.never rfl (pi_tup (pv 1)) (pg_tup rfl (pgs_cons (pg_name (i := 3) nd rfl (Or.inl rfl)) (pgs_cons (pg_name (i := 4) nd rfl (Or.inl rfl)) pgs_nil)))
        (pss_cons (ps_expr (pe_bm PySem.F.plainAttrs_list PySem.F.slot_list_append PySem.F.type_list_append mt_append (pe_ix ix_list (pv 2) (pv 3) (fun _ _ => rfl)) (pa_cons (pv 4) pa_nil)))
          (pss_one (ps_expr (pe_bm PySem.F.plainAttrs_list PySem.F.slot_list_append PySem.F.type_list_append mt_append (pe_ix ix_list (pv 2) (pv 4) (fun _ _ => rfl)) (pa_cons (pv 3) pa_nil))))))
      (pss_one (ps_ret (pe_lc (own := [("row", 6)]) (g := gName 6) (tt := tYes) rfl nd (pi_list (pv 2)) (blkOk_by (N := nBeside) (sc := defScope sBeside) (by decide +kernel)) (fun _ _ _ _ _ => pg_name (i := 6) nd rfl (Or.inl rfl)) (fun _ _ _ _ _ => pts_nil)
        (fun _ _ _ _ _ => pe_callTy (r := rTupL K) call_tupL (by rfl) T.tuple b_tuple (pa_cons (pe_callB (r := rSorted K) cr_sorted (by rfl) T.sorted b_sorted (pa_cons (pv 6) pa_nil)) pa_nil)))))), ?_⟩
    refine ⟨_, rfl, (n : Int), rfl, by omega, by omega, fun D hD => ?_⟩
    have e0 : ((n : Int)).toNat = n := by omega
    rw [e0]
    refine lc_empty hD (by omega) (fun _ => rfl) fun rs H1 hF => ?_
    -- for one, other in pairs
    refine ⟨_, rfl, t, rfl, ⟨_, SqT.of (hF.same _ _ ht)⟩, for_tup (K := K) (a := t) (xs := refs ps) (fun i σ H2 => ∃ v1 v2, σ = [some (vN n), some (.ref t), some (.ref D), v1, v2, none, none] ∧ Fd H H2 D rs n ((ps.map (·.2)).take i))
      ⟨none, none, rfl, hF⟩ (fun i σ H2 _ ⟨_, _, _, hF2⟩ => SqT.of (hF2.same _ _ ht)) ?_ ?_⟩
    · rintro i x σ H2 hx ⟨v1, v2, rfl, hF2⟩
      obtain ⟨p, hp, rfl⟩ := at_map hx
      have hm : p ∈ ps := List.mem_of_getElem? hp
      have hi : i < ps.length := lt_of_at hp
      have l := hT.lt _ (List.mem_map.mpr ⟨p, hm, rfl⟩)
      have hpp := hF2.same _ _ (hP p hm)
      have tk : (ps.map (·.2)).take (i + 1) = (ps.map (·.2)).take i ++ [(p.2.1, p.2.2)] := take_at (by rw [List.getElem?_map, hp]; rfl)
      obtain ⟨ra, ga, ga', ha⟩ := hF2.get (i := p.2.1) (by omega)
      obtain ⟨rb, gb, gb', hb⟩ := hF2.get (i := p.2.2) (by omega)
      have nab : ra ≠ rb := fun e => by
        rw [e] at ga
        have := nd_ix hF2.nd ga gb
        omega
      have hDa : D ≠ ra := fun e => hF2.ne (by rw [e]; exact List.mem_of_getElem? ga)
      have sm : ∀ j, (raw ((ps.map (·.2)).take i) j).length ≤ 10000000 := fun j => by
        have T' : Ties n ((ps.map (·.2)).take i) := ⟨fun q hq => hT.lt q (List.mem_of_mem_take hq), hT.asc.sublist (List.take_sublist _ _)⟩
        have := raw_small T' hn j
        omega
      refine ⟨p.1, _, rfl, SqT.of hpp, rfl, _, _, rfl, _, _, rfl, rfl, ?_⟩
      refine ⟨_, rfl, _, rfl, D, _, _, _, rfl, rfl, SqL.of hF2.at_, atI_nat ga', .inl ⟨rfl, _, SqL.of ha⟩, _, rfl, ra, _, _, rfl, rfl, ha, by rw [List.length_map]; exact szl (sm _), ?_⟩
      refine ⟨_, rfl, _, rfl, D, _, _, _, rfl, rfl, SqL.of (by rw [upd_ne hDa]; exact hF2.at_), atI_nat gb', .inl ⟨rfl, _, SqL.of (by rw [upd_ne nab.symm]; exact hb)⟩, _, rfl, rb, _, _, rfl, rfl, by rw [upd_ne nab.symm]; exact hb, by rw [List.length_map]; exact szl (sm _), ?_⟩
      refine ⟨_, _, rfl, ?_⟩
      rw [tk]
      exact hF2.more ga gb (by omega)
    · rintro σ H2 ⟨v1, v2, rfl, hF2⟩
      have e1 : (ps.map (·.2)).take (refs ps).length = ps.map (·.2) := by
        rw [List.length_map]
        exact List.take_of_length_le (by rw [List.length_map]; exact Nat.le_refl _)
      rw [e1] at hF2
      have hs := hF2.at_
      rw [refs_range hF2.len] at hs
      refine ⟨_, rfl, D, rfl, ⟨_, SqL.of hs⟩, fun D2 hD2 => lcL (l := List.range n) (g := fun i => V.ref (rs.getD i 0)) (p := fun _ => true) (R := fun i y G => ∃ r, y = V.ref r ∧ G r = some (.tup (vNs (nb n (ps.map (·.2)) i)))) hD2 (SqL.of hs) (by rw [List.length_range]; omega) (fun _ => rfl) lcT_yes (fun i H3 acc Q3 hi _ s3 hacc k3 => ?_) fun ys H3 s3 hy3 hr3 => ?_⟩
      · rw [List.mem_range] at hi
        have hrow := s3 _ _ (hF2.row i _ (getD_at hF2.len hi))
        refine ⟨_, rfl, rs.getD i 0, (raw (ps.map (·.2)) i).map (fun n : Nat => (n : Int)), rfl, SqL.of (by rw [hrow, vNs_ints]), by rw [List.length_map]; have := raw_small hT hn i; omega, fun zs q pm ps' hq => ?_⟩
        refine ⟨q, _, rfl, SqL.of upd_same, fun l hl => ?_⟩
        have hl0 : H3 l = none := (Same.new hq).free hl
        refine k3 _ _ ((Same.new hq).trans (Same.new hl)) fun G hG => ⟨l, rfl, hG.at_ (fun e => ?_) ?_⟩
        · rw [e, hacc] at hl0
          cases hl0
        · rw [upd_same, row_sorted hT pm ps']
      · rw [filter_yes] at hr3
        obtain ⟨rs2, e2, hp2⟩ := pr_refs hr3
        obtain ⟨hl2, hrow2⟩ := pr_range hp2
        exact k D2 rs2 H3 (hF2.same.trans s3) ⟨by rw [hy3, e2], hl2, hrow2⟩
end
end K87

/-! _law_rows, reached -/
namespace K87
open PySem L2
section
variable {P : Program} {w : World} {K : PySem.W.Frag} {mg : Str → Option Value} {base : Heap} {f f1 f2 : Addr} {fd fd1 fd2 : FuncData}
abbrev nLRows : List Str := ["_law_size", "_law_pairs_here", "_law_found", "_law_one", "_law_two", "_law_number", "_law_row"]
theorem scLRows : FnScope nLRows ["_law_size", "_law_pairs_here"] (defScope sLRows) := ⟨rfl, rfl, rfl, by decide +kernel, rfl, by decide +kernel, by decide +kernel⟩
theorem ok_lrows (F : Dfn K mg "_law_rows" sLRows ["_law_size", "_law_pairs_here"] f fd) (T : Txt mg) : Cal P w K mg base 1 "_law_rows" ["_law_size", "_law_pairs_here"] spLRows f fd := by
  refine F.cal (F.fn.ok scLRows (fun vs H Q E h => ?_) (fun cdv A outer s H vs Q E hr h => ?_))
  · obtain ⟨t, ps, n, rfl, _⟩ := h
    rfl
  · obtain ⟨t, ps, n, rfl, ht, hP, hT, hn, k⟩ := h
    have nd := scLRows.nd
    refine ⟨_, pss_cons (ps_setLc (i := 2) (own := [("_law_number", 5)]) (g := gName 5) (tt := tYes) (te := tLst tNil) rfl nd rfl rfl (sw_true rfl rfl rfl (by decide +kernel)) (pi_range1 (by rfl) T.range (pa_cons (pv 0) pa_nil)) (blkOk_by (N := nLRows) (sc := defScope sLRows) (by decide +kernel))
        (fun _ _ _ _ _ => pg_name (i := 5) nd rfl (Or.inl rfl)) (fun _ _ _ _ _ => pts_nil) (fun _ _ _ _ _ => pe_lst pa_nil))
      (pss_cons (ps_for PassesOwn.never rfl (pi_tup (pv 1)) (pg_tup rfl (pgs_cons (pg_name (i := 3) nd rfl (Or.inl rfl)) (pgs_cons (pg_name (i := 4) nd rfl (Or.inl rfl)) pgs_nil)))
        (pss_cons (ps_expr (pe_bm PySem.F.plainAttrs_list PySem.F.slot_list_append PySem.F.type_list_append mt_append (pe_ix ix_list (pv 2) (pv 3) (fun _ _ => rfl)) (pa_cons (pv 4) pa_nil)))
          (pss_one (ps_expr (pe_bm PySem.F.plainAttrs_list PySem.F.slot_list_append PySem.F.type_list_append mt_append (pe_ix ix_list (pv 2) (pv 4) (fun _ _ => rfl)) (pa_cons (pv 3) pa_nil))))))
      (pss_one (ps_ret (pe_lc (own := [("_law_row", 6)]) (g := gName 6) (tt := tYes) rfl nd (pi_list (pv 2)) (blkOk_by (N := nLRows) (sc := defScope sLRows) (by decide +kernel)) (fun _ _ _ _ _ => pg_name (i := 6) nd rfl (Or.inl rfl)) (fun _ _ _ _ _ => pts_nil)
        (fun _ _ _ _ _ => pe_callB (r := rSorted K) cr_sorted (by rfl) T.sorted b_sorted (pa_cons (pv 6) pa_nil)))))), ?_⟩
    refine ⟨_, rfl, (n : Int), rfl, by omega, by omega, fun D hD => ?_⟩
    have e0 : ((n : Int)).toNat = n := by omega
    rw [e0]
    refine lc_empty hD (by omega) (fun _ => rfl) fun rs H1 hF => ?_
    -- for one, other in pairs
    refine ⟨_, rfl, t, rfl, ⟨_, SqT.of (hF.same _ _ ht)⟩, for_tup (K := K) (a := t) (xs := refs ps) (fun i σ H2 => ∃ v1 v2, σ = [some (vN n), some (.ref t), some (.ref D), v1, v2, none, none] ∧ Fd H H2 D rs n ((ps.map (·.2)).take i))
      ⟨none, none, rfl, hF⟩ (fun i σ H2 _ ⟨_, _, _, hF2⟩ => SqT.of (hF2.same _ _ ht)) ?_ ?_⟩
    · rintro i x σ H2 hx ⟨v1, v2, rfl, hF2⟩
      obtain ⟨p, hp, rfl⟩ := at_map hx
      have hm : p ∈ ps := List.mem_of_getElem? hp
      have hi : i < ps.length := lt_of_at hp
      have l := hT.lt _ (List.mem_map.mpr ⟨p, hm, rfl⟩)
      have hpp := hF2.same _ _ (hP p hm)
      have tk : (ps.map (·.2)).take (i + 1) = (ps.map (·.2)).take i ++ [(p.2.1, p.2.2)] := take_at (by rw [List.getElem?_map, hp]; rfl)
      obtain ⟨ra, ga, ga', ha⟩ := hF2.get (i := p.2.1) (by omega)
      obtain ⟨rb, gb, gb', hb⟩ := hF2.get (i := p.2.2) (by omega)
      have nab : ra ≠ rb := fun e => by
        rw [e] at ga
        have := nd_ix hF2.nd ga gb
        omega
      have hDa : D ≠ ra := fun e => hF2.ne (by rw [e]; exact List.mem_of_getElem? ga)
      have sm : ∀ j, (raw ((ps.map (·.2)).take i) j).length ≤ 10000000 := fun j => by
        have T' : Ties n ((ps.map (·.2)).take i) := ⟨fun q hq => hT.lt q (List.mem_of_mem_take hq), hT.asc.sublist (List.take_sublist _ _)⟩
        have := raw_small T' hn j
        omega
      refine ⟨p.1, _, rfl, SqT.of hpp, rfl, _, _, rfl, _, _, rfl, rfl, ?_⟩
      refine ⟨_, rfl, _, rfl, D, _, _, _, rfl, rfl, SqL.of hF2.at_, atI_nat ga', .inl ⟨rfl, _, SqL.of ha⟩, _, rfl, ra, _, _, rfl, rfl, ha, by rw [List.length_map]; exact szl (sm _), ?_⟩
      refine ⟨_, rfl, _, rfl, D, _, _, _, rfl, rfl, SqL.of (by rw [upd_ne hDa]; exact hF2.at_), atI_nat gb', .inl ⟨rfl, _, SqL.of (by rw [upd_ne nab.symm]; exact hb)⟩, _, rfl, rb, _, _, rfl, rfl, by rw [upd_ne nab.symm]; exact hb, by rw [List.length_map]; exact szl (sm _), ?_⟩
      refine ⟨_, _, rfl, ?_⟩
      rw [tk]
      exact hF2.more ga gb (by omega)
    · rintro σ H2 ⟨v1, v2, rfl, hF2⟩
      have e1 : (ps.map (·.2)).take (refs ps).length = ps.map (·.2) := by
        rw [List.length_map]
        exact List.take_of_length_le (by rw [List.length_map]; exact Nat.le_refl _)
      rw [e1] at hF2
      have hs := hF2.at_
      rw [refs_range hF2.len] at hs
      refine ⟨_, rfl, D, rfl, ⟨_, SqL.of hs⟩, fun D2 hD2 => lcL (l := List.range n) (g := fun i => V.ref (rs.getD i 0)) (p := fun _ => true) (R := fun i y G => ∃ r, y = V.ref r ∧ G r = some (.lst (vNs (nb n (ps.map (·.2)) i)))) hD2 (SqL.of hs) (by rw [List.length_range]; omega) (fun _ => rfl) lcT_yes (fun i H3 acc Q3 hi _ s3 hacc k3 => ?_) fun ys H3 s3 hy3 hr3 => ?_⟩
      · rw [List.mem_range] at hi
        have hrow := s3 _ _ (hF2.row i _ (getD_at hF2.len hi))
        refine ⟨_, rfl, rs.getD i 0, (raw (ps.map (·.2)) i).map (fun n : Nat => (n : Int)), rfl, SqL.of (by rw [hrow, vNs_ints]), by rw [List.length_map]; have := raw_small hT hn i; omega, fun zs q pm ps' hq => ?_⟩
        refine k3 _ _ (Same.new hq) fun G hG => ⟨q, rfl, hG.at_ (fun e => ?_) ?_⟩
        · rw [e, hacc] at hq
          cases hq
        · rw [upd_same, row_sorted hT pm ps']
      · rw [filter_yes] at hr3
        obtain ⟨rs2, e2, hp2⟩ := pr_refs hr3
        obtain ⟨hl2, hrow2⟩ := pr_range hp2
        exact k D2 rs2 H3 (hF2.same.trans s3) ⟨by rw [hy3, e2], hl2, hrow2⟩
end

/-! ### dicts of contents to True -/
def kvB (l : List Nat) : List (Key × V) := kvs (fun _ : Unit => V.bl true) (l.map fun k => (k, ()))
theorem kvB_keys (l : List Nat) : (l.map fun k => (k, ())).map (·.1) = l := by
  rw [List.map_map]
  conv => rhs; rw [← List.map_id l]
  rfl
theorem kvB_len (l : List Nat) : (kvB l).length = l.length := by
  unfold kvB
  rw [kvs_len, List.length_map]
theorem kvB_no {l : List Nat} {k : Nat} (h : k ∉ l) : valV (kvB l) (kN k) = none := valV_no (by rw [kvB_keys]; exact h)
theorem kvB_yes {l : List Nat} {k : Nat} (nd : l.Nodup) (h : k ∈ l) : valV (kvB l) (kN k) = some (.bl true) :=
  valV_yes (a := ()) (by rw [kvB_keys]; exact nd) (List.mem_map.mpr ⟨k, h, rfl⟩)
theorem kvB_put {l : List Nat} {k : Nat} (h : k ∉ l) : putK (kvB l) (kN k) (.bl true) = kvB (l ++ [k]) := by
  unfold kvB
  rw [put_new (f := fun _ : Unit => V.bl true) (a := ()) (by rw [kvB_keys]; exact h), List.map_append]
  rfl
theorem kvB_at {l : List Nat} {i : Nat} {k : Key} {v : V} (h : (kvB l)[i]? = some (k, v)) : ∃ n, l[i]? = some n ∧ k = kN n ∧ v = .bl true := by
  unfold kvB kvs at h
  rw [List.getElem?_map, List.getElem?_map] at h
  cases e : l[i]? with
  | none =>
    rw [e] at h
    cases h
  | some n =>
    rw [e] at h
    have q := Option.some.inj h
    exact ⟨n, rfl, (Prod.mk.inj q).1.symm, (Prod.mk.inj q).2.symm⟩

/-! ### what is reached -/
structure Rch (n : Nat) (g : Nat → List Nat) (ks todo : List Nat) : Prop where
  nd : ks.Nodup
  lt : ∀ k ∈ ks, k < n
  zero : 0 ∈ ks
  sub : ∀ k ∈ todo, k ∈ ks
  done : ∀ k ∈ ks, k ∉ todo → ∀ u ∈ g k, u ∈ ks
/-- v has been taken off, j of its neighbours have been gone through -/
structure RchI (n : Nat) (g : Nat → List Nat) (ks todo : List Nat) (v j : Nat) : Prop where
  nd : ks.Nodup
  lt : ∀ k ∈ ks, k < n
  zero : 0 ∈ ks
  sub : ∀ k ∈ todo, k ∈ ks
  v_ : v ∈ ks
  done : ∀ k ∈ ks, k ∉ todo → k ≠ v → ∀ u ∈ g k, u ∈ ks
  part : ∀ u ∈ (g v).take j, u ∈ ks
theorem Rch.take {n : Nat} {g : Nat → List Nat} {ks todo : List Nat} {v : Nat} (h : Rch n g ks (todo ++ [v])) : RchI n g ks todo v 0 :=
  ⟨h.nd, h.lt, h.zero, fun k hk => h.sub k (List.mem_append_left _ hk), h.sub v (List.mem_append_right _ (List.mem_singleton.mpr rfl)),
    fun k hk h1 h2 u hu => h.done k hk (fun m => (List.mem_append.mp m).elim h1 fun z => h2 (List.mem_singleton.mp z)) u hu, fun u hu => absurd hu (by simp)⟩
theorem RchI.skip {n : Nat} {g : Nat → List Nat} {ks todo : List Nat} {v j u : Nat} (h : RchI n g ks todo v j) (hj : (g v)[j]? = some u) (hu : u ∈ ks) : RchI n g ks todo v (j + 1) :=
  ⟨h.nd, h.lt, h.zero, h.sub, h.v_, h.done, fun x hx => by
    rw [take_at hj] at hx
    rcases List.mem_append.mp hx with q | q
    · exact h.part x q
    · rw [List.mem_singleton.mp q]
      exact hu⟩
theorem RchI.add {n : Nat} {g : Nat → List Nat} {ks todo : List Nat} {v j u : Nat} (h : RchI n g ks todo v j) (hj : (g v)[j]? = some u) (hu : u ∉ ks) (hun : u < n) : RchI n g (ks ++ [u]) (todo ++ [u]) v (j + 1) := by
  have mu : u ∈ ks ++ [u] := List.mem_append_right _ (List.mem_singleton.mpr rfl)
  refine ⟨List.nodup_append.mpr ⟨h.nd, List.nodup_cons.mpr ⟨by simp, List.nodup_nil⟩, fun a ha b hb e => ?_⟩, fun k hk => ?_, List.mem_append_left _ h.zero, fun k hk => ?_, List.mem_append_left _ h.v_, fun k hk h1 h2 x hx => ?_, fun x hx => ?_⟩
  · rw [List.mem_singleton.mp hb] at e
    rw [e] at ha
    exact hu ha
  · rcases List.mem_append.mp hk with q | q
    · exact h.lt k q
    · rw [List.mem_singleton.mp q]
      exact hun
  · rcases List.mem_append.mp hk with q | q
    · exact List.mem_append_left _ (h.sub k q)
    · rw [List.mem_singleton.mp q]
      exact mu
  · rcases List.mem_append.mp hk with q | q
    · exact List.mem_append_left _ (h.done k q (fun m => h1 (List.mem_append_left _ m)) h2 x hx)
    · exact absurd (List.mem_append_right _ q) h1
  · rw [take_at hj] at hx
    rcases List.mem_append.mp hx with q | q
    · exact List.mem_append_left _ (h.part x q)
    · rw [List.mem_singleton.mp q]
      exact mu
theorem RchI.fin {n : Nat} {g : Nat → List Nat} {ks todo : List Nat} {v : Nat} (h : RchI n g ks todo v (g v).length) : Rch n g ks todo :=
  ⟨h.nd, h.lt, h.zero, h.sub, fun k hk h1 u hu => by
    by_cases e : k = v
    · rw [e] at hu
      exact h.part u (by rw [List.take_length]; exact hu)
    · exact h.done k hk h1 e u hu⟩
theorem range_sub : ∀ {n : Nat} {l : List Nat}, (∀ v, v < n → v ∈ l) → n ≤ l.length
  | 0, _, _ => Nat.zero_le _
  | n + 1, l, h => by
    have h2 : ∀ v, v < n → v ∈ l.erase n := fun v hv => (List.mem_erase_of_ne (by omega)).mpr (h v (by omega))
    have := range_sub h2
    have hn := h n (Nat.lt_succ_self n)
    have e := List.length_erase_of_mem hn
    have : 0 < l.length := List.length_pos_of_mem hn
    omega
theorem Rch.all {n : Nat} {g : Nat → List Nat} {ks : List Nat} (h : Rch n g ks []) (C : Conn n g) : n ≤ ks.length :=
  range_sub fun v hv => by
    obtain ⟨p, hp⟩ := C v hv
    exact walk_closed (S := fun x => x ∈ ks) (fun u hu x hx => h.done u hu (by simp) x hx) hp h.zero

def spReached : Sp := fun vs H Q _ => ∃ (L I : Addr) (rs : List Addr) (n : Nat) (g : Nat → List Nat), vs = [.ref L, .ref I, vN 0] ∧ TupRows H L rs n g ∧ H I = some (.dK (kvB (List.range n))) ∧ Gr n g ∧ 0 < n ∧ n ≤ 8 ∧
  ∀ F ks H', L2.Same H H' → H' F = some (.dK (kvB ks)) → Rch n g ks [] → Q (.ref F) H'
section
variable {P : Program} {w : World} {K : PySem.W.Frag} {mg : Str → Option Value} {base : Heap} {f f1 f2 : Addr} {fd fd1 fd2 : FuncData}
abbrev nReached : List Str := ["rows", "inside", "start", "found", "todo", "other"]
theorem scReached : FnScope nReached ["rows", "inside", "start"] (defScope sReached) := ⟨rfl, rfl, rfl, by decide +kernel, rfl, by decide +kernel, by decide +kernel⟩
theorem ok_reached (F : Dfn K mg "reached" sReached ["rows", "inside", "start"] f fd) (T : Txt mg) : Cal P w K mg base 1 "reached" ["rows", "inside", "start"] spReached f fd := by
  refine F.cal (F.fn.ok scReached (fun vs H Q E h => ?_) (fun cdv A outer s H vs Q E hr h => ?_))
  · obtain ⟨L, I, rs, n, g, rfl, _⟩ := h
    rfl
  · obtain ⟨L, I, rs, n, g, rfl, hR, hI, G, h0, h8, k⟩ := h
    have nd := scReached.nd
    have hu := hu_of hr
    refine ⟨_, pss_cons (ps_set (i := 3) nd rfl (Or.inl rfl) (pe_disp (pps_cons (pv 2) pe_bl pps_nil) (by rfl) (by rfl) (fun z => by cases z) (by decide)))
      (pss_cons (ps_set (i := 4) nd rfl (Or.inl rfl) (pe_lst (pa_cons (pv 2) pa_nil)))
      (pss_cons (ps_while PassesOwn.never (pt_cmpR op_gt (pe_callB call_len_seq (by rfl) T.len b_len (pa_cons (pv 4) pa_nil)) pe_int (nomark _))
        (pss_one (ps_for PassesOwn.never rfl (pi_tup (pe_ix ix_list (pv 0) (pe_bm0 PySem.F.plainAttrs_list PySem.F.slot_list_pop PySem.F.type_list_pop mt_pop (pv 4)) (fun _ _ => rfl))) (pg_name (i := 5) nd rfl (Or.inl rfl))
          (pss_one (ps_if (PW.pt (pw_and (pt_cmp (pc_din hu (pv 5) (pv 1))) (pw_and1 (pt_cmp (pc_dnotin hu (pv 5) (pv 3))))))
            (pss_cons (ps_dput hu (pv 3) (pv 5) pe_bl rfl) (pss_one (ps_expr (pe_bm PySem.F.plainAttrs_list PySem.F.slot_list_append PySem.F.type_list_append mt_append (pv 4) (pa_cons (pv 5) pa_nil))))) pss_nil)))))
      (pss_one (ps_ret (pv 3))))), ?_⟩
    intro F hF
    refine ⟨_, rfl, upd_same, [(kN 0, V.bl true)], rfl, by decide, ?_⟩
    refine ⟨_, rfl, by show 1 ≤ sizeLine; decide, fun D hD => ?_⟩
    have hD0 : H D = none := by
      by_cases e : D = F
      · rw [e]
        exact hF
      · rw [upd_ne e, upd_ne e] at hD
        exact hD
    have nFD : F ≠ D := fun e => by
      rw [← e, upd_same] at hD
      cases hD
    -- while len(todo) > 0
    refine ⟨fun m σ H2 => ∃ ks todo v, σ = [some (.ref L), some (.ref I), some (vN 0), some (.ref F), some (.ref D), v] ∧ L2.Same H H2 ∧ H2 F = some (.dK (kvB ks)) ∧ H2 D = some (.lst (vNs todo)) ∧ Rch n g ks todo ∧ m = 2 * (n - ks.length) + todo.length ∧ m ≤ 100,
      ⟨_, [0], [0], none, rfl, Same.mut (Same.mut (Same.mut (L2.Same.refl H) hF) hF) hD0, by rw [upd_ne nFD, upd_same]; rfl, upd_same, ⟨by decide, fun k hk => by rw [List.mem_singleton.mp hk]; exact h0, by simp, fun k hk => hk, fun k hk h1 => absurd hk h1⟩, rfl, by show 2 * (n - 1) + 1 ≤ 100; omega⟩, ?_⟩
    rintro m σ H2 ⟨ks, todo, v, rfl, s2, hF2, hD2, R, em, em2⟩
    refine ⟨_, rfl, D, _, rfl, .inl (SqL.of hD2), _, _, rfl, rfl, _, rfl, ?_⟩
    rw [List.length_map]
    rcases List.eq_nil_or_concat todo with e | ⟨td, x, e⟩
    · subst e
      refine iteN (by simp) ⟨_, rfl, k F ks H2 s2 hF2 R⟩
    · rw [List.concat_eq_append] at e
      subst e
      have R0 := R.take
      have hx := R.lt x R0.v_
      refine iteY (by rw [List.length_append]; show (0 : Int) < ((td.length + 1 : Nat) : Int); omega) ?_
      refine ⟨fun σ' H' => ∃ ks' td' v', σ' = [some (.ref L), some (.ref I), some (vN 0), some (.ref F), some (.ref D), v'] ∧ L2.Same H H' ∧ H' F = some (.dK (kvB ks')) ∧ H' D = some (.lst (vNs td')) ∧ Rch n g ks' td' ∧ 2 * (n - ks'.length) + td'.length < m, ?_, ?_⟩
      · rintro σ' H' ⟨ks', td', v', e1, e2, e3, e4, e5, e6⟩
        exact ⟨_, e6, ks', td', v', e1, e2, e3, e4, e5, rfl, by omega⟩
      · rw [vNs_snoc] at hD2
        obtain ⟨rx, gx, hrx⟩ := hR.get hx
        have hF3 : (upd H2 D (.lst (vNs td))) F = some (.dK (kvB ks)) := by
          rw [upd_ne nFD]
          exact hF2
        refine ⟨_, rfl, _, rfl, .inl ⟨rfl, _, SqL.of hD2⟩, D, _, vN x, rfl, rfl, hD2, by simp, L, rs.map V.ref, _, _, rfl, rfl, SqL.of (Same.mut s2 hD0 _ _ hR.at_), atI_nat gx, ?_⟩
        rw [List.dropLast_concat]
        refine ⟨rx, rfl, ⟨_, SqT.of (Same.mut s2 hD0 _ _ hrx)⟩, for_tup (K := K) (a := rx) (xs := vNs (g x)) (fun i σ' H' => ∃ ks' td' v', σ' = [some (.ref L), some (.ref I), some (vN 0), some (.ref F), some (.ref D), v'] ∧ L2.Same H H' ∧ H' F = some (.dK (kvB ks')) ∧ H' D = some (.lst (vNs td')) ∧ RchI n g ks' td' x i ∧ 2 * (n - ks'.length) + td'.length < m)
          ⟨ks, td, v, rfl, Same.mut s2 hD0, hF3, upd_same, R0, by rw [em, List.length_append]; show _ < 2 * (n - ks.length) + (td.length + 1); omega⟩ (fun i σ' H' _ ⟨_, _, _, _, e, _⟩ => SqT.of (e _ _ hrx)) ?_ ?_⟩
        · rintro i y σ' H' hy ⟨ks', td', v', rfl, s', hF', hD', R', lt'⟩
          obtain ⟨u, hu', rfl⟩ := at_map hy
          have hun : u < n := G.lt x u (List.mem_of_getElem? hu')
          refine ⟨_, rfl, _, rfl, I, _, rfl, DGet.k (k := kN u) (s' _ _ hI), _, rfl, ?_⟩
          rw [kvB_yes List.nodup_range (List.mem_range.mpr hun)]
          refine iteT ⟨_, rfl, _, rfl, F, _, rfl, DGet.k (k := kN u) hF', _, rfl, ?_⟩
          by_cases hk : u ∈ ks'
          · rw [kvB_yes R'.nd hk]
            exact iteF ⟨ks', td', _, rfl, s', hF', hD', R'.skip hu' hk, lt'⟩
          · rw [kvB_no hk]
            have R2 := R'.add hu' hk hun
            have l1 := nodup_le R2.nd R2.lt
            rw [List.length_append, List.length_singleton] at l1
            refine iteT ⟨_, rfl, _, rfl, F, _, rfl, DPut.k (k := kN u) hF' (by rw [kvB_len]; exact szl (by omega)), ?_⟩
            rw [kvB_put hk]
            have hD3 : (upd H' F (.dK (kvB (ks' ++ [u])))) D = some (.lst (vNs td')) := by
              rw [upd_ne nFD.symm]
              exact hD'
            have l2 : td'.length ≤ 1000 := by
              omega
            refine ⟨_, rfl, .inl ⟨rfl, _, SqL.of hD3⟩, _, rfl, D, _, _, rfl, rfl, hD3, by rw [List.length_map]; exact szl (by omega), ks' ++ [u], td' ++ [u], _, rfl, Same.mut (Same.mut s' hF) hD0, by rw [upd_ne nFD, upd_same], by rw [upd_same, vNs_snoc], R2, ?_⟩
            rw [List.length_append, List.length_append, List.length_singleton]
            omega
        · rintro σ' H' ⟨ks', td', v', e1, e2, e3, e4, e5, e6⟩
          rw [List.length_map] at e5
          exact ⟨ks', td', v', e1, e2, e3, e4, e5.fin, e6⟩
end
end K87

/-! Book -/
namespace K87
open PySem L2
/-! ### name = {k: v for ..} on one line, the name a local -/
theorem ps_setDc {X : Cx} {i : Nat} {y : Str} {py : Pos} {kx vx tg iter : Expr} {ifs : List Expr} {scope : Scope} {own : List (Str × Nat)} {pos spos : Pos} {wi : TI} {g : TG} {tt : TT} {tk tv : TE}
    (hc : X.calm = true) (hN : X.N.Nodup) (hy : X.N[i]? = some y) (hyl : X.env.scope.names.lookup y = some .local)
    (hsw : swapsWith (.DictComp kx vx [⟨tg, iter, ifs, 0⟩] scope pos) (some (.Name y py)) spos.line X.env = pure true)
    (hi : PI X tg iter wi) (ok : BlkOk X.N X.env.scope scope own)
    (hg : ∀ s H C cl fp, PG (X.blk s H scope (compEnvC scope cl C X.env) fp) tg g)
    (ht : ∀ s H C cl fp, PTs (X.blk s H scope (compEnvC scope cl C X.env) fp) ifs tt)
    (hk : ∀ s H C cl fp, PE (X.blk s H scope (compEnvC scope cl C X.env) fp) kx tk)
    (he : ∀ s H C cl fp, PE (X.blk s H scope (compEnvC scope cl C X.env) fp) vx tv)
    (hs : ∀ x, foldedSetIterable iter X.env x = pure x := by intro _; rfl) :
    PS X (.Assign [.Name y py] (.DictComp kx vx [⟨tg, iter, ifs, 0⟩] scope pos) spos) (tAsg (tDc wi g tt tk tv (own.map (·.2))) (gName i)) := by
  constructor
  intro pins s σ H D I h
  rw [PySem.exec_Assign_Name_used _ _ _ _ hsw]
  refine wpAny_bind (wpAny_standAt (wpAny_bind ?_))
  have h' : tDc wi g tt tk tv (own.map (·.2)) σ H (fun x H1 => gName i x σ H1 D.nx) := h
  show wpAny _ X.A (do
    let _ ← comprehension (.DictComp kx vx [⟨tg, iter, ifs, 0⟩] scope pos) scope X.env (firstIterPos [⟨tg, iter, ifs, 0⟩] pos) newDict false (eval iter X.env) (some (assign (.Name y py) X.env))) _ _ s
  refine wpAny_bind (thn (dc_core (Qf := fun _ s' => SP X pins D .next s') hc hN I hi ok hg ht hk he hs h' (fun L C s' m H' I' q hn f => ?_)) (fun _ s' hq => wpAny_pure (wpAny_pure hq)))
  obtain ⟨f0, f1, _, f3, f4, f5⟩ := f
  show wpAny _ _ (assign (.Name y py) X.env (.ref L)) _ _ _
  refine wpAny_assign_Name (store_ok2 (v := V.ref L) I' hN hy (Or.inl hyl) rfl (fun s2 I2 w2 => ?_) (Or.inr hyl))
  obtain ⟨a, sb, ha⟩ := w2
  have ne : C ≠ a := by
    cases ha with
    | inl z =>
      rw [z]
      exact f1
    | inr z =>
      intro e
      exact f4 y a z e.symm
  refine ⟨m, hn.sameBut sb ne, fun h3 sb3 => ⟨_, H', I2.turned (t' := s2.toks) (fun b o hb e => ?_) f0 f1 f3 f4 f5, q⟩⟩
  exact (sb3.2 b hb).trans e
theorem sw_dict {kx vx : Expr} {gs : List Comprehension} {scope : Scope} {pos py : Pos} {y : Str} {l : Nat} {env : Env} (hk : env.scope.kind = .function) (hy : env.scope.names.lookup y = some .local)
    (hl : (py.line == pos.line) = true) (ha : (scope.names.any fun (n, k) => n == y && (k == .local || k == .cell)) = false) : swapsWith (.DictComp kx vx gs scope pos) (some (.Name y py)) l env = pure true := by
  have k1 : env.kindOf y = some .local := hy
  have k2 : env.blockKind = .function := by
    unfold Env.blockKind
    rw [hk]
    rfl
  unfold swapsWith
  simp only [k2, k1, ha, Expr.pos, hl]
  rfl
/-- {k: True for k in range(n)} -/
theorem dcR {D : Addr} {j : Nat} {vs : List Nat} {σ : L2.St} {H1 : Hp} {Qd : Hp → Prop} {n : Nat} (hD : H1 D = none) (hn : n ≤ 10000000) (hw : ∀ x, wipe ((wipe σ vs).set j (some x)) vs = wipe σ vs) (hj : j < (wipe σ vs).length)
    (hd : ∀ H', L2.Same H1 H' → H' D = some (.dK (kvB (List.range n))) → Qd H') :
    ∃ W : Nat → Nat → Hp → Prop, (∃ m, W 0 m (upd H1 D (.dK []))) ∧ ∀ i m H, W i m H →
      ((Itr 0 n).stop i H ∧ Qd H) ∨ ((Itr 0 n).go i H ∧ ∃ Nx : Hp → Prop, (∀ H', Nx H' → ∃ m', m' < m ∧ W (i + 1) m' H') ∧ ∀ x H', (Itr 0 n).yld i H x H' → gName j x (wipe σ vs) H' fun σ2 H2 => wipe σ2 vs = wipe σ vs ∧ tYes σ2 H2 fun b H3 =>
        if b = true then tVar j σ2 H3 fun y H4 => tC (.bl true) σ2 H4 fun z H5 => ∃ kvs k, y = kV k ∧ H5 D = some (.dK kvs) ∧ kvs.length < sizeLine ∧ Nx (upd H5 D (.dK (putK kvs k z))) else Nx H3) := by
  refine ⟨fun i m H => m = n - i ∧ i ≤ n ∧ L2.Same H1 H ∧ H D = some (.dK (kvB (List.range i))), ⟨n, by omega, Nat.zero_le _, Same.new hD, upd_same⟩, ?_⟩
  rintro i m H ⟨em, hi, s, hH⟩
  by_cases hlt : i < n
  · refine .inr ⟨hlt, fun H' => L2.Same H1 H' ∧ H' D = some (.dK (kvB (List.range (i + 1)))), fun H' h => ⟨n - (i + 1), by omega, rfl, hlt, h.1, h.2⟩, fun x H' y => ?_⟩
    obtain ⟨e1, e2⟩ := y
    subst e1 e2
    refine ⟨hw _, iteT (B := False) ?_⟩
    have e0 : (0 : Int) + (i : Int) = (i : Int) := Int.zero_add _
    refine ⟨vN i, by rw [List.getElem?_set_self hj, e0], kvB (List.range i), kN i, rfl, hH, by rw [kvB_len, List.length_range]; exact szl (by omega), Same.mut s hD, ?_⟩
    rw [upd_same, kvB_put (by simp), List.range_succ]
  · have e : i = n := by omega
    subst e
    exact .inl ⟨Nat.le_refl _, hd H s hH⟩

/-! ### a book as it stands -/
theorem k_st : ¬ (("kept_size" : Str) = "kept_ties") := by decide +kernel
theorem k_sf : ¬ (("kept_size" : Str) = "kept_facts") := by decide +kernel
theorem k_tf : ¬ (("kept_ties" : Str) = "kept_facts") := by decide +kernel
def bf1 (n : Nat) : List (Str × V) := putF "kept_size" (vN n) []
def bf2 (n : Nat) (t : Addr) : List (Str × V) := putF "kept_ties" (.ref t) (bf1 n)
def bfl (n : Nat) (t d : Addr) : List (Str × V) := putF "kept_facts" (.ref d) (bf2 n t)
theorem bfl_size (n : Nat) (t d : Addr) : (bfl n t d).lookup ("kept_size" : Str) = some (vN n) := by
  unfold bfl bf2 bf1
  rw [lookup_putF, if_neg k_sf, lookup_putF, if_neg k_st, lookup_putF, if_pos rfl]
theorem bfl_facts (n : Nat) (t d : Addr) : (bfl n t d).lookup ("kept_facts" : Str) = some (.ref d) := by
  unfold bfl
  rw [lookup_putF, if_pos rfl]
theorem bf2_len (n : Nat) (t : Addr) : (bf2 n t).length < 1000 := by
  show (if ("kept_size" : Str) = "kept_ties" then (("kept_size" : Str), V.ref t) :: [] else (("kept_size" : Str), vN n) :: putF "kept_ties" (.ref t) []).length < 1000
  rw [if_neg k_st]
  show 2 < 1000
  decide
abbrev kTied : Key := Sum.inr "tied"
structure BookAt (C : Addr) (H : Hp) (b : Addr) (n : Nat) (L : Addr) (rs : List Addr) (g : Nat → List Nat) : Prop where
  ob : ∃ dx t d, H b = some (.ins C dx (bfl n t d)) ∧ H d = some (.dK [(kTied, .ref L)])
  rows : TupRows H L rs n g
theorem BookAt.same {C : Addr} {H H' : Hp} {b : Addr} {n : Nat} {L : Addr} {rs : List Addr} {g : Nat → List Nat} (h : BookAt C H b n L rs g) (s : L2.Same H H') : BookAt C H' b n L rs g := by
  obtain ⟨dx, t, d, h1, h2⟩ := h.ob
  exact ⟨⟨dx, t, d, s _ _ h1, s _ _ h2⟩, h.rows.same s⟩
/-- what is asked of the class -/
structure BTxt (K : PySem.W.Frag) (mg : Str → Option Value) (C : Addr) : Prop where
  cl : Cls K C
  nS : NoAttr K C "kept_size"
  nT : NoAttr K C "kept_ties"
  nF : NoAttr K C "kept_facts"
  mgC : mg "Book" = some (.ref C)
  most : ∃ t, mg "MOST_CONTENTS" = some (.int 8 t)
  ties : ∃ t, mg "MOST_TIES" = some (.int 28 t)
/-! ### promises -/
def spInit (C : Addr) : Sp := fun vs H Q _ => ∃ (p dx t : Addr) (ps : List TP) (n : Nat), vs = [.ref p, vN n, .ref t] ∧ H p = some (.ins C dx []) ∧ H t = some (.tup (refs ps)) ∧ PairsIn H ps ∧ Ties n (ps.map (·.2)) ∧ 1 ≤ n ∧ n ≤ 8 ∧ Conn n (nb n (ps.map (·.2))) ∧
  ∀ L rs H', (∀ b o, H b = some o → b ≠ p → H' b = some o) → BookAt C H' p n L rs (nb n (ps.map (·.2))) → Q .non H'
def spTied (C : Addr) : Sp := fun vs H Q _ => ∃ (b L : Addr) (n : Nat) (rs : List Addr) (g : Nat → List Nat), vs = [.ref b] ∧ BookAt C H b n L rs g ∧ Q (.ref L) H
theorem code_inj : ∀ a b c d : Nat, a < b → b < 8 → c < d → d < 8 → b * (b - 1) / 2 + a = d * (d - 1) / 2 + c → (a, b) = (c, d) := by
  intro a b c d h1 h2 h3 h4 h
  have hb : b = 0 ∨ b = 1 ∨ b = 2 ∨ b = 3 ∨ b = 4 ∨ b = 5 ∨ b = 6 ∨ b = 7 := by omega
  have hd : d = 0 ∨ d = 1 ∨ d = 2 ∨ d = 3 ∨ d = 4 ∨ d = 5 ∨ d = 6 ∨ d = 7 := by omega
  rcases hb with e | e | e | e | e | e | e | e <;> rcases hd with e' | e' | e' | e' | e' | e' | e' | e' <;> subst e <;> subst e' <;> simp at h ⊢ <;> omega
theorem Ties.len {n : Nat} {ts : List (Nat × Nat)} (T : Ties n ts) (hn : n ≤ 8) : ts.length ≤ 28 := by
  have nd : (ts.map fun p => p.2 * (p.2 - 1) / 2 + p.1).Nodup := by
    unfold List.Nodup
    rw [List.pairwise_map]
    refine T.nd.imp_of_mem fun {p q} hp hq ne e => ne ?_
    have a := T.lt p hp
    have b := T.lt q hq
    exact code_inj p.1 p.2 q.1 q.2 a.1 (by omega) b.1 (by omega) e
  have h := nodup_le nd (n := 28) fun x hx => by
    obtain ⟨p, hp, e⟩ := List.mem_map.mp hx
    have a := T.lt p hp
    have hb : p.2 = 0 ∨ p.2 = 1 ∨ p.2 = 2 ∨ p.2 = 3 ∨ p.2 = 4 ∨ p.2 = 5 ∨ p.2 = 6 ∨ p.2 = 7 := by omega
    rcases hb with q | q | q | q | q | q | q | q <;> rw [q] at e a <;> omega
  rw [List.length_map] at h
  exact h
section
variable {P : Program} {w : World} {K : PySem.W.Frag} {mg : Str → Option Value} {base : Heap} {f f1 f2 f3 f4 C : Addr} {fd fd1 fd2 fd3 fd4 : FuncData}
abbrev nInit : List Str := ["self", "size", "ties", "inside", "content"]
theorem scInit : FnScope nInit ["self", "size", "ties"] (defScope sInit) := ⟨rfl, rfl, rfl, by decide +kernel, rfl, by decide +kernel, by decide +kernel⟩
theorem ok_init (F : Fun K "__init__" "Book.__init__" sInit f fd) (T : Txt mg) (B : BTxt K mg C) (c1 : Cal P w K mg base 2 "is_within" ["thing", "least", "most"] spWithin f1 fd1)
    (c2 : Cal P w K mg base 5 "are_rising_pairs" ["thing", "many", "most"] spPairs f2 fd2) (c3 : Cal P w K mg base 1 "beside_lists" ["many", "pairs"] spBeside f3 fd3)
    (c4 : Cal P w K mg base 1 "reached" ["rows", "inside", "start"] spReached f4 fd4) : FnOk P w K mg base CX0 6 f fd ["self", "size", "ties"] (spInit C) := by
  refine F.ok scInit (fun vs H Q E h => ?_) (fun cdv A outer s H vs Q E hr h => ?_)
  · obtain ⟨p, dx, t, ps, n, rfl, _⟩ := h
    rfl
  · obtain ⟨p, dx, t, ps, n, rfl, hp, ht, hP, hT, h1, h8, hC, k⟩ := h
    have nd := scInit.nd
    have hu := hu_of hr
    obtain ⟨tm, mgM⟩ := B.most
    obtain ⟨tt, mgT⟩ := B.ties
    refine ⟨_, pss_cons (ps_if (pt_not (pt_val (pe_call c1.ok (hr.mono (by decide)) (by rfl) c1.at_ c1.kp c1.b .nil pass0 (pa_cons (pv 1) (pa_cons pe_int (pa_cons (pe_glob (v := .int 8) (by rfl) mgM ⟨_, rfl⟩) pa_nil)))))) (pss_one ps_never) pss_nil)
      (pss_cons (ps_if (pt_not (pt_val (pe_call c2.ok hr (by rfl) c2.at_ c2.kp c2.b .nil pass0 (pa_cons (pv 2) (pa_cons (pv 1) (pa_cons (pe_glob (v := .int 28) (by rfl) mgT ⟨_, rfl⟩) pa_nil)))))) (pss_one ps_never) pss_nil)
      (pss_cons (ps_fld (pv 0) (pv 1) rfl)
      (pss_cons (ps_fld (pv 0) (pv 2) rfl)
      (pss_cons (ps_fld (pv 0) (pe_disp (pps_cons pe_str (pe_call c3.ok (hr.mono (by decide)) (by rfl) c3.at_ c3.kp c3.b .nil pass0 (pa_cons (pv 1) (pa_cons (pv 2) pa_nil))) pps_nil) (by rfl) (by rfl) (fun z => by cases z) (by decide)) rfl)
      (pss_cons (ps_setDc (i := 3) (own := [("content", 4)]) (g := gName 4) (tt := tYes) (tk := tVar 4) (tv := tC (.bl true)) rfl nd rfl rfl (sw_dict rfl rfl rfl (by decide +kernel)) (pi_range1 (by rfl) T.range (pa_cons (pv 1) pa_nil)) (blkOk_by (N := nInit) (sc := defScope sInit) (by decide +kernel))
          (fun _ _ _ _ _ => pg_name (i := 4) nd rfl (Or.inl rfl)) (fun _ _ _ _ _ => pts_nil) (fun _ _ _ _ _ => pv 4) (fun _ _ _ _ _ => pe_bl))
      (pss_one (ps_if (pt_cmpR op_lt (pe_callB call_lenD (by rfl) T.len b_len (pa_cons (pe_call c4.ok (hr.mono (by decide)) (by rfl) c4.at_ c4.kp c4.b .nil pass0
          (pa_cons (pe_dget hu (pe_fld (pv 0) rfl) pe_str (fun _ _ => rfl)) (pa_cons (pv 3) (pa_cons pe_int pa_nil)))) pa_nil)) (pv 1) (nomark _)) (pss_one ps_never) pss_nil))))))), ?_⟩
    refine ⟨_, rfl, _, _, _, rfl, true, ?_, iteF ?_⟩
    · have e : decide ((1 : Int) ≤ (n : Int) ∧ (n : Int) ≤ 8) = true := decide_eq_true (by omega)
      exact congrArg V.bl e
    have hl := hT.len h8
    rw [List.length_map] at hl
    refine ⟨_, rfl, _, rfl, t, ps, n, 28, rfl, ht, hP, hT, hl, by omega, fun H1 s1 => ⟨true, rfl, iteF ?_⟩⟩
    have hp1 := s1 _ _ hp
    refine ⟨_, rfl, _, rfl, p, C, dx, _, rfl, hp1, B.cl, B.nS, by show 0 < 1000; decide, ?_⟩
    refine ⟨_, rfl, _, rfl, p, C, dx, _, rfl, upd_same, B.cl, B.nT, by show 1 < 1000; decide, ?_⟩
    rw [upd_upd]
    -- self.kept_facts = {"tied": ..}
    have tp : t ≠ p := ne_of ht hp (by intro z; cases z)
    intro d hd
    have pd : p ≠ d := fun e => by
      rw [← e, upd_same] at hd
      cases hd
    have hd1 : H1 d = none := by
      rw [upd_ne pd.symm] at hd
      exact hd
    have keep : ∀ b o, H b = some o → b ≠ p → (upd (upd H1 p (.ins C dx (bf2 n t))) d (.dK [])) b = some o := fun b o e hb => by
      rw [upd_ne (ne_of_none (s1 b o e) hd1), upd_ne hb]
      exact s1 b o e
    have hPk : PairsIn (upd (upd H1 p (.ins C dx (bf2 n t))) d (.dK [])) ps := fun q hq => keep _ _ (hP q hq) (ne_of (hP q hq) hp (by intro z; cases z))
    refine ⟨_, rfl, _, rfl, t, ps, n, rfl, keep _ _ ht tp, hPk, hT, h8, fun L rs H2 s2 hR => ?_⟩
    have hp2 : H2 p = some (.ins C dx (bf2 n t)) := s2 _ _ (by rw [upd_ne pd, upd_same]; rfl)
    have hd2 : H2 d = some (.dK []) := s2 _ _ upd_same
    refine ⟨hd2, [(kTied, V.ref L)], rfl, by show 1 ≤ 15; decide, ?_⟩
    refine ⟨_, rfl, p, C, dx, _, rfl, by rw [upd_ne pd]; exact hp2, B.cl, B.nF, bf2_len n t, ?_⟩
    -- inside
    have nL : L ≠ p := ne_of hR.at_ hp2 (by intro z; cases z)
    have nLd : L ≠ d := ne_of hR.at_ hd2 (by intro z; cases z)
    have hR3 : TupRows (upd (upd H2 d (.dK (mergeK [] [(kTied, V.ref L)]))) p (.ins C dx (bfl n t d))) L rs n (nb n (ps.map (·.2))) :=
      ⟨by rw [upd_ne nL, upd_ne nLd]; exact hR.at_, hR.len, fun i r hi => by
        have e := hR.row i r hi
        rw [upd_ne (ne_of e hp2 (by intro z; cases z)), upd_ne (ne_of e hd2 (by intro z; cases z))]
        exact e⟩
    have hB3 : BookAt C (upd (upd H2 d (.dK (mergeK [] [(kTied, V.ref L)]))) p (.ins C dx (bfl n t d))) p n L rs (nb n (ps.map (·.2))) :=
      ⟨⟨dx, t, d, upd_same, by rw [upd_ne pd.symm, upd_same]; rfl⟩, hR3⟩
    have keep3 : ∀ b o, H b = some o → b ≠ p → (upd (upd H2 d (.dK (mergeK [] [(kTied, V.ref L)]))) p (.ins C dx (bfl n t d))) b = some o := fun b o e hb => by
      rw [upd_ne hb, upd_ne (ne_of_none (s1 b o e) hd1)]
      exact s2 b o (keep b o e hb)
    refine ⟨_, rfl, (n : Int), rfl, by omega, by omega, fun D hD => ?_⟩
    have e0 : ((n : Int)).toNat = n := by omega
    rw [e0]
    refine dcR hD (by omega) (fun _ => rfl) (by show 4 < 5; decide) fun H4 s4 hI => ?_
    have hB4 := hB3.same s4
    obtain ⟨dx4, t4, d4, g1, g2⟩ := hB4.ob
    refine ⟨_, rfl, p, C, dx4, _, _, rfl, g1, B.cl, B.nF, bfl_facts _ _ _, d4, V.ref L, rfl, ?_, _, rfl, L, D, rs, n, _, rfl, hB4.rows, hI, gr_nb, by omega, h8, fun Fa ks H5 s5 hF R => ?_⟩
    · exact DGet.k (k := kTied) g2
    · refine ⟨Fa, _, rfl, hF, _, rfl, _, _, rfl, rfl, _, rfl, iteN ?_ ?_⟩
      · rw [kvB_len]
        have := R.all hC
        omega
      · exact k L rs H5 (fun b o e hb => s5 _ _ (s4 _ _ (keep3 b o e hb))) (hB4.same s5)

abbrev nTied : List Str := ["book"]
theorem scTied : FnScope nTied ["book"] (defScope sTied) := ⟨rfl, rfl, rfl, by decide +kernel, rfl, by decide +kernel, by decide +kernel⟩
theorem ok_tied (F : Dfn K mg "tied_of" sTied ["book"] f fd) (B : BTxt K mg C) : Cal P w K mg base 1 "tied_of" ["book"] (spTied C) f fd := by
  refine F.cal (F.fn.ok scTied (fun vs H Q E h => ?_) (fun cdv A outer s H vs Q E hr h => ?_))
  · obtain ⟨b, L, n, rs, g, rfl, _⟩ := h
    rfl
  · obtain ⟨b, L, n, rs, g, rfl, hB, k⟩ := h
    have hu := hu_of hr
    obtain ⟨dx, t, d, g1, g2⟩ := hB.ob
    refine ⟨_, pss_one (ps_ret (pe_dget hu (pe_fld (pv 0) rfl) pe_str (fun _ _ => rfl))), ?_⟩
    exact ⟨_, rfl, b, C, dx, _, _, rfl, g1, B.cl, B.nF, bfl_facts _ _ _, d, V.ref L, rfl, DGet.k (k := kTied) g2, k⟩
theorem scSize : FnScope ["self"] ["self"] (defScope sSize) := ⟨rfl, rfl, rfl, by decide +kernel, rfl, by decide +kernel, by decide +kernel⟩
def spSize (C : Addr) : Sp := fun vs H Q _ => ∃ (b L : Addr) (n : Nat) (rs : List Addr) (g : Nat → List Nat), vs = [.ref b] ∧ BookAt C H b n L rs g ∧ Q (vN n) H
theorem ok_size (F : Fun K "size" "Book.size" sSize f fd) (B : BTxt K mg C) : FnOk P w K mg base CX0 1 f fd ["self"] (spSize C) := by
  refine F.ok scSize (fun vs H Q E h => ?_) (fun cdv A outer s H vs Q E hr h => ?_)
  · obtain ⟨b, L, n, rs, g, rfl, _⟩ := h
    rfl
  · obtain ⟨b, L, n, rs, g, rfl, hB, k⟩ := h
    obtain ⟨dx, t, d, g1, _⟩ := hB.ob
    refine ⟨_, pss_one (ps_ret (pe_fld (pv 0) rfl)), ?_⟩
    exact ⟨_, rfl, b, C, dx, _, _, rfl, g1, B.cl, B.nS, bfl_size _ _ _, k⟩
end
end K87

/-! storelands.logs: what can be where -/
namespace K87
open PySem L2
/-! ### a loop over a dict's keys, the dict locked -/
theorem for_keys {d : Addr} {od : Obj} {ks : List Nat} {j : Nat} {tb : TS} {D : Ends} {σ : L2.St} {H : Hp} (Pv : Nat → L2.St → Hp → Prop) (h0 : Pv 0 σ H) (hl : ∀ i σ H, Pv i σ H → H d = some (.frz od (.dK (kvB ks))))
    (hs : ∀ i x σ H, ks[i]? = some x → Pv i σ H → tb { D with nx := Pv (i + 1), ct := Pv (i + 1), bk := D.nx } (σ.set j (some (vN x))) H) (hd : ∀ σ H, Pv ks.length σ H → D.nx σ H) :
    ∃ W : Nat → Nat → L2.St → Hp → Prop, (∃ m, W 0 m σ H) ∧ ∀ i m σ H, W i m σ H →
      ((Itk d od (kvB ks)).stop i H ∧ D.nx σ H) ∨ ((Itk d od (kvB ks)).go i H ∧ ∃ N : L2.St → Hp → Prop, (∀ σ' H', N σ' H' → ∃ m', m' < m ∧ W (i + 1) m' σ' H') ∧ ∀ x H', (Itk d od (kvB ks)).yld i H x H' → gName j x σ H' fun σ2 H2 => tb { D with nx := N, ct := N, bk := D.nx } σ2 H2) := by
  refine ⟨fun i m σ H => m = ks.length - i ∧ i ≤ ks.length ∧ Pv i σ H, ⟨ks.length, by omega, Nat.zero_le _, h0⟩, ?_⟩
  rintro i m σ H ⟨em, hi, p⟩
  have q := hl i σ H p
  by_cases lt : i < ks.length
  · refine .inr ⟨⟨q, by rw [kvB_len]; exact lt⟩, Pv (i + 1), fun σ' H' p' => ⟨ks.length - (i + 1), by omega, rfl, lt, p'⟩, fun x H' y => ?_⟩
    obtain ⟨e, k, v, hk, ex⟩ := y
    subst e
    obtain ⟨n, hn, e1, _⟩ := kvB_at hk
    subst e1
    rw [ex]
    exact hs i n σ _ hn p
  · have e : i = ks.length := by omega
    subst e
    exact .inl ⟨⟨q, by rw [kvB_len]; exact Nat.le_refl _⟩, hd σ H p⟩

/-! ### the text's constants -/
structure WTxt (K : PySem.W.Frag) (mg : Str → Option Value) (C : Addr) (fs : Addr) (fds : FuncData) : Prop where
  words : ∃ a, mg "WORDS" = some (.ref a) ∧ ∀ H, SqT K H a [.str "order", .str "read"]
  most : ∃ t, mg "MOST_ENTRIES" = some (.int 40 t)
  prop : ∃ p, PropOf K C "size" p fs
  bind : Binds K fds ["self"] []
theorem BookAt.ins {C : Addr} {H : Hp} {b : Addr} {n : Nat} {L : Addr} {rs : List Addr} {g : Nat → List Nat} (h : BookAt C H b n L rs g) : ∃ dx fs, H b = some (.ins C dx fs) := by
  obtain ⟨dx, t, d, h1, _⟩ := h.ob
  exact ⟨_, _, h1⟩
/-- without a dict of numbers the book stands -/
theorem BookAt.off {C : Addr} {H : Hp} {b c : Addr} {n : Nat} {L : Addr} {rs : List Addr} {g : Nat → List Nat} {ks : List Nat} (h : BookAt C H b n L rs g) (hc : H c = some (.dK (kvB ks))) : BookAt C (off c H) b n L rs g := by
  obtain ⟨dx, t, d, h1, h2⟩ := h.ob
  refine ⟨⟨dx, t, d, off_get (ne_of h1 hc (by intro z; cases z)) h1, off_get (ne_of h2 hc fun z => ?_) h2⟩, off_get (ne_of h.rows.at_ hc (by intro z; cases z)) h.rows.at_, h.rows.len, fun i r e => off_get (ne_of (h.rows.row i r e) hc (by intro z; cases z)) (h.rows.row i r e)⟩
  have z' : ([(kTied, V.ref L)] : List (Key × V)) = kvB ks := by
    injection z
  have e0 : (kvB ks)[0]? = some (kTied, V.ref L) := by rw [← z']; rfl
  obtain ⟨m, _, e1, _⟩ := kvB_at e0
  cases e1
/-- orders as they stand -/
abbrev isOrd (H : Hp) (x : Nat) (e : Addr) : Prop := H e = some (.tup [.str "order", vN x])
def OrdsAt (H : Hp) (l : Addr) (es : List Addr) (cs : List Nat) : Prop := H l = some (.lst (es.map V.ref)) ∧ Paired (isOrd H) cs es
theorem OrdsAt.same {H H' : Hp} {l : Addr} {es : List Addr} {cs : List Nat} (h : OrdsAt H l es cs) (s : L2.Same H H') : OrdsAt H' l es cs := ⟨s _ _ h.1, pr_imp (fun _ _ q => s _ _ q) h.2⟩

/-! ### promises -/
def spEntry (C : Addr) : Sp := fun vs H Q _ => ∃ (b L e : Addr) (n x : Nat) (rs : List Addr) (g : Nat → List Nat), vs = [.ref b, .ref e] ∧ BookAt C H b n L rs g ∧ isOrd H x e ∧ x < n ∧ Q (.bl true) H
def spChkLog (C : Addr) : Sp := fun vs H Q _ => ∃ (b L l : Addr) (n : Nat) (rs es : List Addr) (g : Nat → List Nat) (cs : List Nat), vs = [.ref b, .ref l] ∧ BookAt C H b n L rs g ∧ OrdsAt H l es cs ∧ (∀ x ∈ cs, x < n) ∧ cs.length ≤ 40 ∧ ∀ H', L2.Same H H' → Q .non H'
def spChkCon (C : Addr) : Sp := fun vs H Q _ => ∃ (b L l : Addr) (n : Nat) (rs : List Addr) (g : Nat → List Nat) (cs : List Nat), vs = [.ref b, .ref l] ∧ BookAt C H b n L rs g ∧ H l = some (.lst (vNs cs)) ∧ (∀ x ∈ cs, x < n) ∧ cs.length ≤ 40 ∧ ∀ H', L2.Same H H' → Q .non H'
def spBehind (C : Addr) : Sp := fun vs H Q _ => ∃ (b L c e : Addr) (n x : Nat) (rs : List Addr) (g : Nat → List Nat) (ks : List Nat), vs = [.ref b, .ref c, .ref e] ∧ BookAt C H b n L rs g ∧ Gr n g ∧ n ≤ 8 ∧ H c = some (.dK (kvB ks)) ∧ ks.Nodup ∧ (∀ k ∈ ks, k < n) ∧ isOrd H x e ∧ x < n ∧
  ∀ F ks' H', L2.Same H H' → H' F = some (.dK (kvB ks')) → ks'.Nodup → (∀ k ∈ ks', k < n) → (∀ k ∈ ks', k ∈ ks ∨ k = x) → (∀ o ∈ ks, x ∈ g o → x ∈ ks') → Q (.ref F) H'
def spStand (C : Addr) : Sp := fun vs H Q _ => ∃ (b L l : Addr) (n u z : Nat) (rs es : List Addr) (g : Nat → List Nat) (cs : List Nat), vs = [.ref b, vN u, .ref l] ∧ BookAt C H b n L rs g ∧ Gr n g ∧ n ≤ 8 ∧ u < n ∧ OrdsAt H l es cs ∧ Walk g u cs z ∧
  ∀ p zs H', L2.Same H H' → H' p = some (.lst (vNs zs)) → (∀ y ∈ zs, y ∈ u :: cs) → z ∈ zs → Q (.ref p) H'
def spCan (C : Addr) : Sp := fun vs H Q _ => ∃ (b L l : Addr) (n u z : Nat) (rs es : List Addr) (g : Nat → List Nat) (cs : List Nat), vs = [.ref b, vN u, .ref l] ∧ BookAt C H b n L rs g ∧ Gr n g ∧ n ≤ 8 ∧ u < n ∧ OrdsAt H l es cs ∧ Walk g u cs z ∧ cs.length ≤ 40 ∧
  ∀ p zs H', L2.Same H H' → H' p = some (.lst (vNs zs)) → (∀ y ∈ zs, y ∈ u :: cs) → z ∈ zs → Q (.ref p) H'
theorem inV_order : inV (.str "order") [.str "order", .str "read"] = true := by decide +kernel
theorem kit_lt {K : PySem.W.Frag} : PySem.W.kitAny K (.type "list") [.type "list", .type "tuple"] = some true := kitAny_cons kit_yes (fun z => by cases z) fun _ => rfl
/-- a content in a row -/
theorem inV_vN (x : Nat) : ∀ l : List Nat, inV (vN x) (vNs l) = decide (x ∈ l)
  | [] => rfl
  | y :: l => by
    have ih := inV_vN x l
    show (eqV (vN y) (vN x) || inV (vN x) (vNs l)) = _
    rw [ih]
    have e : eqV (vN y) (vN x) = decide ((y : Int) = (x : Int)) := by
      show ((y : Int) == (x : Int)) = _
      by_cases q : (y : Int) = (x : Int)
      · rw [decide_eq_true q, beq_iff_eq]
        exact q
      · rw [decide_eq_false q, beq_eq_false_iff_ne]
        exact q
    rw [e]
    by_cases q : y = x
    · subst q
      simp
    · rw [decide_eq_false (show ¬ (y : Int) = (x : Int) by omega), Bool.false_or]
      refine decide_eq_decide.mpr ⟨fun h => List.mem_cons_of_mem _ h, fun h => ?_⟩
      rcases List.mem_cons.mp h with r | r
      · exact absurd r.symm q
      · exact r
theorem flat_vNs (l : List Nat) : (vNs l).all flatV = true := by
  rw [List.all_eq_true]
  intro v hv
  obtain ⟨_, _, e⟩ := List.mem_map.mp hv
  rw [← e]
  rfl

section
variable {P : Program} {w : World} {K : PySem.W.Frag} {mg : Str → Option Value} {base : Heap} {f f1 f2 f3 f4 C fs : Addr} {fd fd1 fd2 fd3 fd4 fds : FuncData}
theorem scEntry : FnScope ["book", "thing"] ["book", "thing"] (defScope sEntry) := ⟨rfl, rfl, rfl, by decide +kernel, rfl, by decide +kernel, by decide +kernel⟩
theorem ok_entry (F : Dfn K mg "is_entry" sEntry ["book", "thing"] f fd) (T : Txt mg) (B : BTxt K mg C) (W : WTxt K mg C fs fds) (S : FnOk P w K mg base CX0 1 fs fds ["self"] (spSize C)) (c1 : Cal P w K mg base 3 "is_index" ["thing", "many"] spIndex f1 fd1) :
    Cal P w K mg base 4 "is_entry" ["book", "thing"] (spEntry C) f fd := by
  refine F.cal (F.fn.ok scEntry (fun vs H Q E h => ?_) (fun cdv A outer s H vs Q E hr h => ?_))
  · obtain ⟨b, L, e, n, x, rs, g, rfl, _⟩ := h
    rfl
  · obtain ⟨b, L, e, n, x, rs, g, rfl, hB, he, hx, k⟩ := h
    obtain ⟨aW, mgW, hW⟩ := W.words
    obtain ⟨pp, hpp⟩ := W.prop
    obtain ⟨dx, bfs, hb⟩ := hB.ins
    refine ⟨_, pss_cons (ps_if (PW.pt (pw_or (pt_not (pt_val (pe_callB call_isi (by rfl) T.isinstance b_isi (pa_cons (pv 1) (pa_cons (pe_bltn (v := .ty "tuple") (by rfl) T.tuple b_tuple rfl) pa_nil)))))
        (pw_or (pt_cmpR op_ne (pe_callB call_len_seq (by rfl) T.len b_len (pa_cons (pv 1) pa_nil)) pe_int (nomark _))
        (pw_or1 (pt_not (pt_val (pe_callB call_isi (by rfl) T.isinstance b_isi (pa_cons (pe_ix ix_tup (pv 1) pe_int (fun _ _ => rfl)) (pa_cons (pe_bltn (v := .ty "str") (by rfl) T.str b_str rfl) pa_nil))))))))) (pss_one (ps_ret pe_bl)) pss_nil)
      (pss_one (ps_ret (pe_and (pe_cmpR op_in_seq (pe_ix ix_tup (pv 1) pe_int (fun _ _ => rfl)) (pe_glob (v := .ref aW) (by rfl) mgW rfl) (by rfl))
        (pe_one (pe_call c1.ok hr (by rfl) c1.at_ c1.kp c1.b .nil pass0 (pa_cons (pe_ix ix_tup (pv 1) pe_int (fun _ _ => rfl)) (pa_cons (pe_prop (pv 0) B.cl hpp S (hr.mono (by decide)) W.bind .nil pass0 rfl) pa_nil))))))), ?_⟩
    refine ⟨_, rfl, .ref e, .ty "tuple", _, _, true, rfl, .ty "tuple", .base (.tup he), kit_yes, true, rfl, iteF ?_⟩
    refine ⟨_, rfl, e, _, rfl, .inr (SqT.of he), rfl, _, rfl, iteF ?_⟩
    refine ⟨_, rfl, e, _, 0, .str "order", rfl, rfl, SqT.of he, rfl, .str "order", .ty "str", _, _, true, rfl, .ty "str", .base (.str _), kit_yes, true, rfl, iteF ?_⟩
    refine ⟨_, rfl, e, _, 0, .str "order", rfl, rfl, SqT.of he, rfl, aW, _, rfl, .inr (hW _), rfl, rfl, true, congrArg V.bl inV_order, iteT ?_⟩
    refine ⟨_, rfl, e, _, 1, vN x, rfl, rfl, SqT.of he, rfl, _, rfl, b, dx, bfs, rfl, hb, b, L, n, rs, g, rfl, hB, x, n, rfl, ?_⟩
    rw [decide_eq_true (show 0 ≤ (x : Int) ∧ (x : Int) < (n : Int) by omega)]
    exact k

abbrev nChkLog : List Str := ["book", "log", "entry"]
theorem scChkLog : FnScope nChkLog ["book", "log"] (defScope sChkLog) := ⟨rfl, rfl, rfl, by decide +kernel, rfl, by decide +kernel, by decide +kernel⟩
theorem ok_chklog (F : Dfn K mg "check_log" sChkLog ["book", "log"] f fd) (T : Txt mg) (W : WTxt K mg C fs fds) (c1 : Cal P w K mg base 4 "is_entry" ["book", "thing"] (spEntry C) f1 fd1) :
    Cal P w K mg base 5 "check_log" ["book", "log"] (spChkLog C) f fd := by
  refine F.cal (F.fn.ok scChkLog (fun vs H Q E h => ?_) (fun cdv A outer s H vs Q E hr h => ?_))
  · obtain ⟨b, L, l, n, rs, es, g, cs, rfl, _⟩ := h
    rfl
  · obtain ⟨b, L, l, n, rs, es, g, cs, rfl, hB, ⟨hl, hO⟩, hx, h40, k⟩ := h
    have nd := scChkLog.nd
    obtain ⟨tm, mgM⟩ := W.most
    have el := pr_len hO
    refine ⟨_, pss_cons (ps_if (PW.pt (pw_or (pt_not (pt_val (pe_callB call_isiT (by rfl) T.isinstance b_isi (pa_cons (pv 1) (pa_cons (pe_tup (pa_cons (pe_bltn (v := .ty "list") (by rfl) T.list b_list rfl) (pa_cons (pe_bltn (v := .ty "tuple") (by rfl) T.tuple b_tuple rfl) pa_nil))) pa_nil)))))
        (pw_or1 (pt_cmpR op_gt (pe_callB call_len_seq (by rfl) T.len b_len (pa_cons (pv 1) pa_nil)) (pe_glob (v := .int 40) (by rfl) mgM ⟨_, rfl⟩) (nomark _))))) (pss_one ps_never) pss_nil)
      (pss_one (ps_if (pt_not (pt_val (pe_callB (cr_all rfl) (by rfl) T.all b_all (pa_cons
          (pe_lc (own := [("entry", 2)]) (g := gName 2) (tt := tYes) rfl nd (pi_list (pv 1)) (blkOk_by (N := nChkLog) (sc := defScope sChkLog) (by decide +kernel)) (fun _ _ _ _ _ => pg_name (i := 2) nd rfl (Or.inl rfl)) (fun _ _ _ _ _ => pts_nil)
            (fun _ _ _ _ _ => pe_call c1.ok hr (by rfl) c1.at_ c1.kp c1.b .nil pass0 (pa_cons (pv 0) (pa_cons (pv 2) pa_nil)))) pa_nil)))) (pss_one ps_never) pss_nil)), ?_⟩
    refine ⟨_, rfl, by show 2 ≤ sizeLine; decide, fun q hq => ?_⟩
    have s1 : L2.Same H (upd H q (.tup [.ty "list", .ty "tuple"])) := Same.new hq
    refine ⟨.ref l, q, _, _, [.type "list", .type "tuple"], true, rfl, upd_same, .cons (.ty "list") (.cons (.ty "tuple") .nil), .base (.lst (s1 _ _ hl)), kit_lt, true, rfl, iteF ?_⟩
    refine ⟨_, rfl, l, _, rfl, .inl (SqL.of (s1 _ _ hl)), _, _, rfl, rfl, _, rfl, iteN (by rw [List.length_map]; omega) ?_⟩
    refine ⟨_, rfl, l, rfl, ⟨_, SqL.of (s1 _ _ hl)⟩, fun D hD => lcL (l := es) (g := V.ref) (p := fun _ => true) (R := fun _ y _ => y = V.bl true) hD (SqL.of (s1 _ _ hl)) (by omega) (fun _ => rfl) lcT_yes (fun e H2 acc Q2 he _ s2 _ k2 => ?_) fun ys H2 s2 hy hr2 => ?_⟩
    · obtain ⟨i, hi⟩ := List.mem_iff_getElem?.mp he
      obtain ⟨x, hx2, ho⟩ := pr_back hO hi
      refine ⟨_, rfl, _, rfl, b, L, e, n, x, rs, g, rfl, hB.same (s1.trans s2), s2 _ _ (s1 _ _ ho), hx x (List.mem_of_getElem? hx2), k2 _ _ (L2.Same.refl _) fun _ _ => rfl⟩
    rw [filter_yes] at hr2
    have ey : ys = (es.map fun _ => true).map V.bl := by
      rw [pr_map (f := fun _ => V.bl true) hr2, List.map_map]
      rfl
    refine ⟨D, es.map fun _ => true, rfl, SqL.of (by rw [hy, ey]), _, rfl, ?_⟩
    have ea : (es.map fun _ => true).all id = true := by
      rw [List.all_eq_true]
      intro b hb
      obtain ⟨_, _, e⟩ := List.mem_map.mp hb
      exact e.symm
    rw [ea]
    exact iteF (k _ (s1.trans s2))

abbrev nChkCon : List Str := ["book", "contents", "content"]
theorem scChkCon : FnScope nChkCon ["book", "contents"] (defScope sChkCon) := ⟨rfl, rfl, rfl, by decide +kernel, rfl, by decide +kernel, by decide +kernel⟩
theorem ok_chkcon (F : Dfn K mg "check_contents" sChkCon ["book", "contents"] f fd) (T : Txt mg) (B : BTxt K mg C) (W : WTxt K mg C fs fds) (S : FnOk P w K mg base CX0 1 fs fds ["self"] (spSize C)) (c1 : Cal P w K mg base 3 "is_index" ["thing", "many"] spIndex f1 fd1) :
    Cal P w K mg base 4 "check_contents" ["book", "contents"] (spChkCon C) f fd := by
  refine F.cal (F.fn.ok scChkCon (fun vs H Q E h => ?_) (fun cdv A outer s H vs Q E hr h => ?_))
  · obtain ⟨b, L, l, n, rs, g, cs, rfl, _⟩ := h
    rfl
  · obtain ⟨b, L, l, n, rs, g, cs, rfl, hB, hl, hx, h40, k⟩ := h
    have nd := scChkCon.nd
    obtain ⟨pp, hpp⟩ := W.prop
    refine ⟨_, pss_one (ps_if (pt_not (pt_val (pe_callB (cr_all rfl) (by rfl) T.all b_all (pa_cons
          (pe_lc (own := [("content", 2)]) (g := gName 2) (tt := tYes) rfl nd (pi_list (pv 1)) (blkOk_by (N := nChkCon) (sc := defScope sChkCon) (by decide +kernel)) (fun _ _ _ _ _ => pg_name (i := 2) nd rfl (Or.inl rfl)) (fun _ _ _ _ _ => pts_nil)
            (fun _ _ _ _ _ => pe_call c1.ok hr (by rfl) c1.at_ c1.kp c1.b .nil pass0 (pa_cons (pv 2) (pa_cons (pe_prop (pv 0) B.cl hpp S (hr.mono (by decide)) W.bind .nil pass0 rfl) pa_nil)))) pa_nil)))) (pss_one ps_never) pss_nil), ?_⟩
    refine ⟨_, rfl, l, rfl, ⟨_, SqL.of hl⟩, fun D hD => lcL (l := cs) (g := vN) (p := fun _ => true) (R := fun _ y _ => y = V.bl true) hD (SqL.of hl) (by omega) (fun _ => rfl) lcT_yes (fun x H2 acc Q2 he _ s2 _ k2 => ?_) fun ys H2 s2 hy hr2 => ?_⟩
    · have hB2 := hB.same s2
      obtain ⟨dx, bfs, hb⟩ := hB2.ins
      have h1 := hx x he
      refine ⟨_, rfl, _, rfl, b, dx, bfs, rfl, hb, b, L, n, rs, g, rfl, hB2, x, n, rfl, ?_⟩
      rw [decide_eq_true (show 0 ≤ (x : Int) ∧ (x : Int) < (n : Int) by omega)]
      exact k2 _ _ (L2.Same.refl _) fun _ _ => rfl
    rw [filter_yes] at hr2
    have ey : ys = (cs.map fun _ => true).map V.bl := by
      rw [pr_map (f := fun _ => V.bl true) hr2, List.map_map]
      rfl
    refine ⟨D, cs.map fun _ => true, rfl, SqL.of (by rw [hy, ey]), _, rfl, ?_⟩
    have ea : (cs.map fun _ => true).all id = true := by
      rw [List.all_eq_true]
      intro b hb
      obtain ⟨_, _, e⟩ := List.mem_map.mp hb
      exact e.symm
    rw [ea]
    exact iteF (k _ s2)

abbrev nBehind : List Str := ["book", "contents", "entry", "word", "content", "found", "other"]
theorem scBehind : FnScope nBehind ["book", "contents", "entry"] (defScope sBehind) := ⟨rfl, rfl, rfl, by decide +kernel, rfl, by decide +kernel, by decide +kernel⟩
theorem ok_behind (F : Dfn K mg "behind_entry" sBehind ["book", "contents", "entry"] f fd) (T : Txt mg) (c1 : Cal P w K mg base 1 "tied_of" ["book"] (spTied C) f1 fd1) :
    Cal P w K mg base 2 "behind_entry" ["book", "contents", "entry"] (spBehind C) f fd := by
  refine F.cal (F.fn.ok scBehind (fun vs H Q E h => ?_) (fun cdv A outer s H vs Q E hr h => ?_))
  · obtain ⟨b, L, c, e, n, x, rs, g, ks, rfl, _⟩ := h
    rfl
  · obtain ⟨b, L, c, e, n, x, rs, g, ks, rfl, hB, G, h8, hc, knd, klt, he, hx, k⟩ := h
    have nd := scBehind.nd
    have hu := hu_of hr
    refine ⟨_, pss_cons (ps_asg (pv 2) (pg_tup rfl (pgs_cons (pg_name (i := 3) nd rfl (Or.inl rfl)) (pgs_cons (pg_name (i := 4) nd rfl (Or.inl rfl)) pgs_nil))))
      (pss_cons (ps_if (pt_cmpR op_eq (pv 3) pe_str (nomark _)) (pss_one ps_never) pss_nil)
      (pss_cons (ps_set (i := 5) nd rfl (Or.inl rfl) pe_dnewK)
      (pss_cons (ps_lock (ps_for PassesOwn.never rfl (pi_keys (pv 1)) (pg_name (i := 6) nd rfl (Or.inl rfl))
        (pss_one (ps_if (pt_cmpR op_in_seq (pv 4) (pe_ix ix_list (pe_call c1.ok hr (by rfl) c1.at_ c1.kp c1.b .nil pass0 (pa_cons (pv 0) pa_nil)) (pv 6) (fun _ _ => rfl)) (by rfl))
          (pss_cons (ps_dput hu (pv 5) (pv 6) pe_bl rfl) (pss_one (ps_dput hu (pv 5) (pv 4) pe_bl rfl))) pss_nil))))
      (pss_one (ps_ret (pv 5)))))), ?_⟩
    refine ⟨_, rfl, e, _, rfl, SqT.of he, rfl, _, _, rfl, _, _, rfl, rfl, ?_⟩
    refine ⟨_, rfl, rfl, _, rfl, iteF ?_⟩
    intro Fa hF
    have cF : c ≠ Fa := fun z => by
      rw [z, hF] at hc
      cases hc
    refine ⟨c, .dK (kvB ks), by rw [upd_ne cF]; exact hc, trivial, fun od => ?_⟩
    have hB0 := hB.off hc
    have s0 : ∀ o, L2.Same (off c H) (upd (upd H Fa (.dK [])) c o) := fun o b' o' q => by
      have nb : b' ≠ c := fun z => by
        rw [z, off_at] at q
        cases q
      rw [upd_ne nb]
      exact Same.new hF _ _ (by rw [off_ne nb] at q; exact q)
    have fF : off c H Fa = none := by
      rw [off_ne cF.symm]
      exact hF
    refine ⟨_, rfl, c, od, rfl, .inl ⟨kvB ks, upd_same, for_keys (ks := ks) (fun i σ H' => ∃ v ks', σ = [some (.ref b), some (.ref c), some (.ref e), some (.str "order"), some (vN x), some (.ref Fa), v] ∧ L2.Same (off c H) H' ∧ H' c = some (.frz od (.dK (kvB ks))) ∧ H' Fa = some (.dK (kvB ks')) ∧
        ks'.Nodup ∧ (∀ k ∈ ks', k < n) ∧ (∀ k ∈ ks', k ∈ ks ∨ k = x) ∧ (∀ o ∈ ks.take i, x ∈ g o → x ∈ ks'))
      ⟨none, [], rfl, s0 _, upd_same, by rw [upd_ne cF.symm, upd_same]; rfl, List.nodup_nil, by simp, by simp, by simp⟩ (fun i σ H' ⟨_, _, _, _, q, _⟩ => q) ?_ ?_⟩⟩
    · rintro i o σ H' ho ⟨v, ks', rfl, s', hc', hF', nd', lt', sub', has'⟩
      have hm : o ∈ ks := List.mem_of_getElem? ho
      have hB' := hB0.same s'
      obtain ⟨r, gr, hrow⟩ := hB'.rows.get (klt o hm)
      refine ⟨_, rfl, _, rfl, b, L, n, rs, g, rfl, hB', _, rfl, L, _, _, _, rfl, rfl, SqL.of hB'.rows.at_, atI_nat gr, r, _, rfl, .inr (SqT.of hrow), rfl, flat_vNs _, _, rfl, ?_⟩
      show (if inV (vN x) (vNs (g o)) = true then _ else _)
      rw [inV_vN]
      have tk := take_at ho
      by_cases hxo : x ∈ g o
      · refine iteY hxo ?_
        refine ⟨_, rfl, _, rfl, Fa, _, rfl, DPut.k (k := kN o) hF' (by rw [kvB_len]; exact szl (by have := nodup_le nd' lt'; omega)), ?_⟩
        -- found[other] = True, found[content] = True
        have step : ∀ (l : List Nat) (y : Nat), l.Nodup → (∀ k ∈ l, k < n) → (∀ k ∈ l, k ∈ ks ∨ k = x) → y < n → (y ∈ ks ∨ y = x) → ∃ l', putK (kvB l) (kN y) (.bl true) = kvB l' ∧ l'.Nodup ∧ (∀ k ∈ l', k < n) ∧ (∀ k ∈ l', k ∈ ks ∨ k = x) ∧ y ∈ l' ∧ ∀ k ∈ l, k ∈ l' := by
          intro l y l1 l2 l3 l4 l5
          by_cases hy : y ∈ l
          · refine ⟨l, ?_, l1, l2, l3, hy, fun k hk => hk⟩
            unfold putK
            have a : ((kvB l).any fun kv => decide (kv.1 = kN y)) = true := by
              rw [valV_any, kvB_yes l1 hy]
              rfl
            rw [if_pos a]
            conv => rhs; rw [← List.map_id (kvB l)]
            refine List.map_congr_left fun p hp => ?_
            obtain ⟨j, hj⟩ := List.mem_iff_getElem?.mp hp
            obtain ⟨m, _, e1, e2⟩ := kvB_at (k := p.1) (v := p.2) hj
            show (if p.1 = kN y then (p.1, V.bl true) else p) = p
            split
            · rw [← e2]
            · rfl
          · refine ⟨l ++ [y], kvB_put hy, List.nodup_append.mpr ⟨l1, List.nodup_cons.mpr ⟨by simp, List.nodup_nil⟩, fun a ha b hb z => ?_⟩, fun k hk => ?_, fun k hk => ?_, List.mem_append_right _ (List.mem_singleton.mpr rfl), fun k hk => List.mem_append_left _ hk⟩
            · rw [List.mem_singleton.mp hb] at z
              rw [z] at ha
              exact hy ha
            · rcases List.mem_append.mp hk with q | q
              · exact l2 k q
              · rw [List.mem_singleton.mp q]
                exact l4
            · rcases List.mem_append.mp hk with q | q
              · exact l3 k q
              · rw [List.mem_singleton.mp q]
                exact l5
        obtain ⟨l1, e1, a1, a2, a3, a4, a5⟩ := step ks' o nd' lt' sub' (klt o hm) (.inl hm)
        obtain ⟨l2, e2, b1, b2, b3, b4, b5⟩ := step l1 x a1 a2 a3 hx (.inr rfl)
        rw [e1]
        refine ⟨_, rfl, _, rfl, Fa, _, rfl, DPut.k (k := kN x) upd_same (by rw [kvB_len]; exact szl (by have := nodup_le a1 a2; omega)), _, l2, rfl, Same.mut (Same.mut s' fF) fF, by rw [upd_ne cF, upd_ne cF]; exact hc', by rw [upd_same, e2], b1, b2, b3, fun _ _ _ => b4⟩
      · refine iteN hxo ⟨_, ks', rfl, s', hc', hF', nd', lt', sub', fun y hy hxy => ?_⟩
        rw [tk] at hy
        rcases List.mem_append.mp hy with q | q
        · exact has' y q hxy
        · rw [List.mem_singleton.mp q] at hxy
          exact absurd hxy hxo
    · rintro σ H' ⟨v, ks', rfl, s', hc', hF', nd', lt', sub', has'⟩
      rw [List.take_length] at has'
      refine ⟨hc', _, rfl, k Fa ks' _ (fun b' o' q => ?_) (by rw [upd_ne cF.symm]; exact hF') nd' lt' sub' has'⟩
      by_cases z : b' = c
      · rw [z] at q ⊢
        rw [upd_same, ← q, hc]
      · rw [upd_ne z]
        exact s' _ _ (off_get z q)

abbrev nStand : List Str := ["book", "first", "log", "found", "entry"]
theorem scStand : FnScope nStand ["book", "first", "log"] (defScope sStand) := ⟨rfl, rfl, rfl, by decide +kernel, rfl, by decide +kernel, by decide +kernel⟩
theorem ok_stand (F : Dfn K mg "standings_behind" sStand ["book", "first", "log"] f fd) (T : Txt mg) (c1 : Cal P w K mg base 2 "behind_entry" ["book", "contents", "entry"] (spBehind C) f1 fd1) :
    Cal P w K mg base 3 "standings_behind" ["book", "first", "log"] (spStand C) f fd := by
  refine F.cal (F.fn.ok scStand (fun vs H Q E h => ?_) (fun cdv A outer s H vs Q E hr h => ?_))
  · obtain ⟨b, L, l, n, u, z, rs, es, g, cs, rfl, _⟩ := h
    rfl
  · obtain ⟨b, L, l, n, u, z, rs, es, g, cs, rfl, hB, G, h8, hu0, ⟨hl, hO⟩, hW, k⟩ := h
    have nd := scStand.nd
    have el := pr_len hO
    refine ⟨_, pss_cons (ps_set (i := 3) nd rfl (Or.inl rfl) (pe_disp (pps_cons (pv 1) pe_bl pps_nil) (by rfl) (by rfl) (fun z => by cases z) (by decide)))
      (pss_cons (ps_for PassesOwn.never rfl (pi_list (pv 2)) (pg_name (i := 4) nd rfl (Or.inl rfl))
        (pss_one (ps_set (i := 3) nd rfl (Or.inl rfl) (pe_call c1.ok hr (by rfl) c1.at_ c1.kp c1.b .nil pass0 (pa_cons (pv 0) (pa_cons (pv 3) (pa_cons (pv 4) pa_nil)))))))
      (pss_one (ps_ret (pe_callB (call_sortedDI rfl) (by rfl) T.sorted b_sorted (pa_cons (pv 3) pa_nil))))), ?_⟩
    intro Fa hF
    refine ⟨_, rfl, upd_same, [(kN u, V.bl true)], rfl, by show 1 ≤ 15; decide, ?_⟩
    refine ⟨_, rfl, l, rfl, ⟨_, SqL.of (Same.mut (Same.new hF) hF _ _ hl)⟩, for_list (K := K) (a := l) (xs := es.map V.ref) (fun i σ H' => ∃ (F' : Addr) (ks : List Nat) (y : Nat) (v : Option V), σ = [some (.ref b), some (vN u), some (.ref l), some (.ref F'), v] ∧ L2.Same H H' ∧ H' F' = some (.dK (kvB ks)) ∧
        ks.Nodup ∧ (∀ k ∈ ks, k < n) ∧ (∀ k ∈ ks, k ∈ u :: cs.take i) ∧ y ∈ ks ∧ Walk g y (cs.drop i) z)
      ⟨Fa, [u], u, none, rfl, Same.mut (Same.new hF) hF, by rw [upd_same]; rfl, List.nodup_cons.mpr ⟨by simp, List.nodup_nil⟩, fun k hk => by rw [List.mem_singleton.mp hk]; exact hu0, fun k hk => by rw [List.mem_singleton.mp hk]; exact List.mem_cons_self, List.mem_singleton.mpr rfl, hW⟩
      (fun i σ H' _ ⟨_, _, _, _, _, s', _⟩ => SqL.of (s' _ _ hl)) ?_ ?_⟩
    · rintro i ve σ H' he ⟨F', ks, y, v, rfl, s', hF', nd', lt', sub', hy, hw⟩
      obtain ⟨e, hei, rfl⟩ := at_map he
      obtain ⟨x, hx, ho⟩ := pr_back hO hei
      have hi : i < cs.length := lt_of_at hx
      have dr : cs.drop i = x :: cs.drop (i + 1) := by
        rw [List.drop_eq_getElem_cons hi]
        have q : cs[i] = x := by
          rw [List.getElem?_eq_getElem hi] at hx
          exact Option.some.inj hx
        rw [q]
      rw [dr] at hw
      have hxn : x < n := G.lt y x hw.1
      refine ⟨_, rfl, _, rfl, _, rfl, b, L, F', e, n, x, rs, g, ks, rfl, hB.same s', G, h8, hF', nd', lt', s' _ _ ho, hxn, fun F2 ks2 H2 s2 hF2 nd2 lt2 sub2 has2 => ?_⟩
      refine ⟨F2, ks2, x, _, rfl, s'.trans s2, hF2, nd2, lt2, fun k hk => ?_, has2 y hy hw.1, hw.2⟩
      rw [take_at hx]
      rcases sub2 k hk with q | q
      · rcases List.mem_cons.mp (sub' k q) with q | q
        · exact List.mem_cons.mpr (.inl q)
        · exact List.mem_cons_of_mem _ (List.mem_append_left _ q)
      · exact List.mem_cons_of_mem _ (List.mem_append_right _ (List.mem_singleton.mpr q))
    · rintro σ H' ⟨F', ks, y, v, rfl, s', hF', nd', lt', sub', hy, hw⟩
      rw [List.length_map, ← el, List.take_length] at sub'
      rw [List.length_map, ← el, List.drop_length] at hw
      have ey : y = z := hw
      refine ⟨_, rfl, F', kvB ks, ks.map (fun n : Nat => (n : Int)), rfl, Rd.of hF', ?_, by rw [List.length_map]; have := nodup_le nd' lt'; omega, fun zs p pm ps hp => ?_⟩
      · unfold kvB kvs
        rw [List.map_map, List.map_map, List.map_map]
        rfl
      · obtain ⟨l2, e2, _, pm2⟩ := sorted_cast pm ps nd'
        refine k p l2 _ (s'.trans (Same.new hp)) (by rw [upd_same, e2, List.map_map]; rfl) (fun y' hy' => sub' y' (pm2.mem_iff.mp hy')) (pm2.mem_iff.mpr ?_)
        rw [← ey]
        exact hy

theorem scCan : FnScope ["book", "first", "log"] ["book", "first", "log"] (defScope sCan) := ⟨rfl, rfl, rfl, by decide +kernel, rfl, by decide +kernel, by decide +kernel⟩
theorem ok_can (F : Dfn K mg "can_stand" sCan ["book", "first", "log"] f fd) (c1 : Cal P w K mg base 4 "check_contents" ["book", "contents"] (spChkCon C) f1 fd1) (c2 : Cal P w K mg base 5 "check_log" ["book", "log"] (spChkLog C) f2 fd2)
    (c3 : Cal P w K mg base 3 "standings_behind" ["book", "first", "log"] (spStand C) f3 fd3) : Cal P w K mg base 6 "can_stand" ["book", "first", "log"] (spCan C) f fd := by
  refine F.cal (F.fn.ok scCan (fun vs H Q E h => ?_) (fun cdv A outer s H vs Q E hr h => ?_))
  · obtain ⟨b, L, l, n, u, z, rs, es, g, cs, rfl, _⟩ := h
    rfl
  · obtain ⟨b, L, l, n, u, z, rs, es, g, cs, rfl, hB, G, h8, hu0, hO, hW, h40, k⟩ := h
    refine ⟨_, pss_cons (ps_expr (pe_call c1.ok (hr.mono (by decide)) (by rfl) c1.at_ c1.kp c1.b .nil pass0 (pa_cons (pv 0) (pa_cons (pe_lst (pa_cons (pv 1) pa_nil)) pa_nil))))
      (pss_cons (ps_expr (pe_call c2.ok hr (by rfl) c2.at_ c2.kp c2.b .nil pass0 (pa_cons (pv 0) (pa_cons (pv 2) pa_nil))))
      (pss_one (ps_ret (pe_call c3.ok (hr.mono (by decide)) (by rfl) c3.at_ c3.kp c3.b .nil pass0 (pa_cons (pv 0) (pa_cons (pv 1) (pa_cons (pv 2) pa_nil))))))), ?_⟩
    refine ⟨_, rfl, _, rfl, by show 1 ≤ sizeLine; decide, fun q hq => ?_⟩
    have s1 : L2.Same H (upd H q (.lst [vN u])) := Same.new hq
    refine ⟨b, L, q, n, rs, g, [u], rfl, hB.same s1, upd_same, fun x hx => by rw [List.mem_singleton.mp hx]; exact hu0, by show 1 ≤ 40; decide, fun H2 s2 => ?_⟩
    have s12 := s1.trans s2
    refine ⟨_, rfl, _, rfl, b, L, l, n, rs, es, g, cs, rfl, hB.same s12, hO.same s12, walk_lt G hW, h40, fun H3 s3 => ?_⟩
    have s123 := s12.trans s3
    exact ⟨_, rfl, _, rfl, _, rfl, b, L, l, n, u, z, rs, es, g, cs, rfl, hB.same s123, G, h8, hu0, hO.same s123, hW, fun p zs H4 s4 => k p zs H4 (s123.trans s4)⟩
end
end K87

/-! storelands.logs: the shortest log -/
namespace K87
open PySem L2
def spFar (C : Addr) : Sp := fun vs H Q _ => ∃ (b L : Addr) (n z : Nat) (rs : List Addr) (g : Nat → List Nat), vs = [.ref b, vN z] ∧ BookAt C H b n L rs g ∧ Gr n g ∧ n ≤ 8 ∧ z < n ∧
  ∀ F fs H', L2.Same H H' → H' F = some (.dK (kvs vN fs)) → Far n g z fs → Q (.ref F) H'
def spShort (C : Addr) : Sp := fun vs H Q _ => ∃ (b L : Addr) (n u z : Nat) (rs : List Addr) (g : Nat → List Nat), vs = [.ref b, vN u, vN z] ∧ BookAt C H b n L rs g ∧ Gr n g ∧ n ≤ 8 ∧ u < n ∧ z < n ∧ Conn n g ∧
  ∀ t fs H', L2.Same H H' → Far n g z fs → u ∈ fs.map (·.1) → H' t = some (.tup (vNs (told g fs (dist fs u) u))) → Q (.ref t) H'
theorem mem_take_succ {α : Type} {l : List α} {i : Nat} {x u : α} (hx : l[i]? = some x) (h : u ∈ l.take (i + 1)) : u ∈ l.take i ∨ u = x := by
  rw [take_at hx] at h
  rcases List.mem_append.mp h with q | q
  · exact .inl q
  · exact .inr (List.mem_singleton.mp q)
section
variable {P : Program} {w : World} {K : PySem.W.Frag} {mg : Str → Option Value} {base : Heap} {f f1 f2 f3 f4 C fs : Addr} {fd fd1 fd2 fd3 fd4 fds : FuncData}
abbrev nFar : List Str := ["book", "wanted", "found", "waiting", "at", "other"]
theorem scFar : FnScope nFar ["book", "wanted"] (defScope sFar) := ⟨rfl, rfl, rfl, by decide +kernel, rfl, by decide +kernel, by decide +kernel⟩
theorem ok_far (F : Dfn K mg "far_from" sFar ["book", "wanted"] f fd) (T : Txt mg) (c1 : Cal P w K mg base 1 "tied_of" ["book"] (spTied C) f1 fd1) : Cal P w K mg base 2 "far_from" ["book", "wanted"] (spFar C) f fd := by
  refine F.cal (F.fn.ok scFar (fun vs H Q E h => ?_) (fun cdv A outer s H vs Q E hr h => ?_))
  · obtain ⟨b, L, n, z, rs, g, rfl, _⟩ := h
    rfl
  · obtain ⟨b, L, n, z, rs, g, rfl, hB, G, h8, hz, k⟩ := h
    have nd := scFar.nd
    have hu := hu_of hr
    refine ⟨_, pss_cons (ps_set (i := 2) nd rfl (Or.inl rfl) (pe_disp (pps_cons (pv 1) pe_int pps_nil) (by rfl) (by rfl) (fun z => by cases z) (by decide)))
      (pss_cons (ps_set (i := 3) nd rfl (Or.inl rfl) (pe_lst (pa_cons (pv 1) pa_nil)))
      (pss_cons (ps_set (i := 4) nd rfl (Or.inl rfl) pe_int)
      (pss_cons (ps_while PassesOwn.never (pt_cmpR op_lt (pv 4) (pe_callB call_len_seq (by rfl) T.len b_len (pa_cons (pv 3) pa_nil)) (nomark _))
        (pss_cons (ps_for PassesOwn.never rfl (pi_tup (pe_ix ix_list (pe_call c1.ok hr (by rfl) c1.at_ c1.kp c1.b .nil pass0 (pa_cons (pv 0) pa_nil)) (pe_ix ix_list (pv 3) (pv 4) (fun _ _ => rfl)) (fun _ _ => rfl))) (pg_name (i := 5) nd rfl (Or.inl rfl))
          (pss_one (ps_if (pt_cmp (pc_dnotin hu (pv 5) (pv 2)))
            (pss_cons (ps_dput hu (pv 2) (pv 5) (pe_op op_add (pe_dget hu (pv 2) (pe_ix ix_list (pv 3) (pv 4) (fun _ _ => rfl)) (fun _ _ => rfl)) pe_int) rfl)
              (pss_one (ps_expr (pe_bm PySem.F.plainAttrs_list PySem.F.slot_list_append PySem.F.type_list_append mt_append (pv 3) (pa_cons (pv 5) pa_nil))))) pss_nil)))
          (pss_one (ps_aug (i := 4) nd rfl (Or.inl rfl) pe_int ip_add))))
      (pss_one (ps_ret (pv 2)))))), ?_⟩
    intro Fa hF
    refine ⟨_, rfl, upd_same, [(kN z, V.int 0)], rfl, by show 1 ≤ 15; decide, ?_⟩
    refine ⟨_, rfl, by show 1 ≤ sizeLine; decide, fun D hD => ?_⟩
    have hD0 : H D = none := by
      by_cases e : D = Fa
      · rw [e]
        exact hF
      · rw [upd_ne e, upd_ne e] at hD
        exact hD
    have nFD : Fa ≠ D := fun e => by
      rw [← e, upd_same] at hD
      cases hD
    -- while at < len(waiting)
    refine ⟨fun m σ H2 => ∃ fs i v, σ = [some (.ref b), some (vN z), some (.ref Fa), some (.ref D), some (vN i), v] ∧ L2.Same H H2 ∧ H2 Fa = some (.dK (kvs vN fs)) ∧ H2 D = some (.lst (vNs (fs.map (·.1)))) ∧ Bfs n g z fs i ∧ m = n - i,
      ⟨_, [(z, 0)], 0, none, rfl, Same.mut (Same.mut (Same.mut (L2.Same.refl H) hF) hF) hD0, by rw [upd_ne nFD, upd_same]; rfl, upd_same, bfs_start hz, rfl⟩, ?_⟩
    rintro m σ H2 ⟨fs, i, v, rfl, s2, hF2, hD2, R, em⟩
    refine ⟨_, rfl, _, rfl, D, _, rfl, .inl (SqL.of hD2), _, _, rfl, rfl, _, rfl, ?_⟩
    rw [List.length_map, List.length_map]
    by_cases hi : i < fs.length
    · refine iteY (by omega) ?_
      obtain ⟨⟨x, d⟩, hxd⟩ := get_lt rfl hi
      have hxm : (x, d) ∈ fs := List.mem_of_getElem? hxd
      have hxn := R.lt _ hxm
      have hil := bfs_len R
      refine ⟨fun σ' H' => ∃ fs' v', σ' = [some (.ref b), some (vN z), some (.ref Fa), some (.ref D), some (vN (i + 1)), v'] ∧ L2.Same H H' ∧ H' Fa = some (.dK (kvs vN fs')) ∧ H' D = some (.lst (vNs (fs'.map (·.1)))) ∧ Bfs n g z fs' (i + 1), ?_, ?_⟩
      · rintro σ' H' ⟨fs', v', e1, e2, e3, e4, e5⟩
        exact ⟨n - (i + 1), by omega, fs', i + 1, v', e1, e2, e3, e4, e5, rfl⟩
      · have hB2 := hB.same s2
        obtain ⟨rx, gx, hrx⟩ := hB2.rows.get hxn
        have wx : (vNs (fs.map (·.1)))[i]? = some (vN x) := by
          rw [List.getElem?_map, List.getElem?_map, hxd]
          rfl
        refine ⟨_, rfl, b, L, n, rs, g, rfl, hB2, _, rfl, _, rfl, D, _, _, vN x, rfl, rfl, SqL.of hD2, atI_nat wx, L, _, _, _, rfl, rfl, SqL.of hB2.rows.at_, atI_nat gx, rx, rfl, ⟨_, SqT.of hrx⟩,
          for_tup (K := K) (a := rx) (xs := vNs (g x)) (fun j σ' H' => ∃ fs' v', σ' = [some (.ref b), some (vN z), some (.ref Fa), some (.ref D), some (vN i), v'] ∧ L2.Same H H' ∧ H' rx = some (.tup (vNs (g x))) ∧ H' Fa = some (.dK (kvs vN fs')) ∧ H' D = some (.lst (vNs (fs'.map (·.1)))) ∧
              Bfs n g z fs' i ∧ fs'[i]? = some (x, d) ∧ ∀ u ∈ (g x).take j, u ∈ fs'.map (·.1))
            ⟨fs, v, rfl, s2, hrx, hF2, hD2, R, hxd, fun u hu => absurd hu (by simp)⟩ (fun j σ' H' _ ⟨_, _, _, _, q, _⟩ => SqT.of q) ?_ ?_⟩
        · rintro j y σ' H' hy ⟨fs', v', rfl, s', hr', hF', hD', R', hxd', hp'⟩
          obtain ⟨u, hu', rfl⟩ := at_map hy
          have hug : u ∈ g x := List.mem_of_getElem? hu'
          have hxm' : (x, d) ∈ fs' := List.mem_of_getElem? hxd'
          have wx' : (vNs (fs'.map (·.1)))[i]? = some (vN x) := by
            rw [List.getElem?_map, List.getElem?_map, hxd']
            rfl
          refine ⟨_, rfl, _, rfl, Fa, _, rfl, DGet.k (k := kN u) hF', _, rfl, ?_⟩
          by_cases hk : u ∈ fs'.map (·.1)
          · obtain ⟨⟨a, e⟩, hq, ea⟩ := List.mem_map.mp hk
            have ea' : a = u := ea
            subst ea'
            rw [valV_yes R'.nd hq]
            refine iteF ⟨fs', _, rfl, s', hr', hF', hD', R', hxd', fun t ht => ?_⟩
            rcases mem_take_succ hu' ht with q | q
            · exact hp' t q
            · rw [q]
              exact hk
          · rw [valV_no hk]
            obtain ⟨R2, hxd2⟩ := bfs_more G R' hxd' hug hk
            have hl2 := bfs_len R2
            rw [List.length_append] at hl2
            have wl : fs'.length ≤ 8 := by omega
            have hput : DPut H' Fa (vN u) (.int ((d : Int) + 1)) (upd H' Fa (.dK (kvs vN (fs' ++ [(u, d + 1)])))) := by
              have q := DPut.k (k := kN u) (v := vN (d + 1)) hF' (by rw [kvs_len]; exact szl (by omega))
              have ep : putK (kvs vN fs') (kN u) (vN (d + 1)) = kvs vN (fs' ++ [(u, d + 1)]) := put_new (f := vN) hk
              rw [ep] at q
              exact q
            refine iteT ⟨_, rfl, _, rfl, _, rfl, D, _, _, vN x, rfl, rfl, SqL.of hD', atI_nat wx', Fa, vN d, rfl, ?_, d, 1, rfl, rfl, _, rfl, _, rfl, Fa, _, rfl, hput, ?_⟩
            · have q := DGet.k (k := kN x) hF'
              rw [valV_yes R'.nd hxm'] at q
              exact q
            have hD3 : (upd H' Fa (.dK (kvs vN (fs' ++ [(u, d + 1)])))) D = some (.lst (vNs (fs'.map (·.1)))) := by
              rw [upd_ne nFD.symm]
              exact hD'
            have nrx1 : rx ≠ Fa := ne_of hr' hF' (by intro z; cases z)
            have nrx2 : rx ≠ D := ne_of hr' hD' (by intro z; cases z)
            refine ⟨_, rfl, .inl ⟨rfl, _, SqL.of hD3⟩, _, rfl, D, _, _, rfl, rfl, hD3, by rw [List.length_map, List.length_map]; exact szl (by omega), fs' ++ [(u, d + 1)], _, rfl, Same.mut (Same.mut s' hF) hD0, by rw [upd_ne nrx2, upd_ne nrx1]; exact hr', by rw [upd_ne nFD, upd_same], by rw [upd_same, List.map_append, ← vNs_snoc]; rfl, R2, hxd2, fun t ht => ?_⟩
            rw [List.map_append]
            rcases mem_take_succ hu' ht with q | q
            · exact List.mem_append_left _ (hp' t q)
            · rw [q]
              exact List.mem_append_right _ (List.mem_singleton.mpr rfl)
        · rintro σ' H' ⟨fs', v', rfl, s', hr', hF', hD', R', hxd', hp'⟩
          rw [List.length_map, List.take_length] at hp'
          exact ⟨vN i, rfl, i, 1, rfl, rfl, fs', v', rfl, s', hF', hD', bfs_next R' hxd' hp'⟩
    · exact iteN (by omega) ⟨_, rfl, k Fa fs H2 s2 hF2 (bfs_end R (by omega))⟩

abbrev nShort : List Str := ["book", "first", "wanted", "far", "found", "here", "other"]
theorem scShort : FnScope nShort ["book", "first", "wanted"] (defScope sShort) := ⟨rfl, rfl, rfl, by decide +kernel, rfl, by decide +kernel, by decide +kernel⟩
theorem ok_short (F : Dfn K mg "shortest_log" sShort ["book", "first", "wanted"] f fd) (T : Txt mg) (c1 : Cal P w K mg base 4 "check_contents" ["book", "contents"] (spChkCon C) f1 fd1) (c2 : Cal P w K mg base 2 "far_from" ["book", "wanted"] (spFar C) f2 fd2)
    (c3 : Cal P w K mg base 1 "tied_of" ["book"] (spTied C) f3 fd3) : Cal P w K mg base 5 "shortest_log" ["book", "first", "wanted"] (spShort C) f fd := by
  refine F.cal (F.fn.ok scShort (fun vs H Q E h => ?_) (fun cdv A outer s H vs Q E hr h => ?_))
  · obtain ⟨b, L, n, u, z, rs, g, rfl, _⟩ := h
    rfl
  · obtain ⟨b, L, n, u, z, rs, g, rfl, hB, G, h8, hun, hz, hC, k⟩ := h
    have nd := scShort.nd
    have hu := hu_of hr
    refine ⟨_, pss_cons (ps_expr (pe_call c1.ok hr (by rfl) c1.at_ c1.kp c1.b .nil pass0 (pa_cons (pv 0) (pa_cons (pe_lst (pa_cons (pv 1) (pa_cons (pv 2) pa_nil))) pa_nil))))
      (pss_cons (ps_set (i := 3) nd rfl (Or.inr rfl) (pe_call c2.ok (hr.mono (by decide)) (by rfl) c2.at_ c2.kp c2.b .nil pass0 (pa_cons (pv 0) (pa_cons (pv 2) pa_nil))))
      (pss_cons (ps_set (i := 4) nd rfl (Or.inl rfl) (pe_lst pa_nil))
      (pss_cons (ps_set (i := 5) nd rfl (Or.inr rfl) (pv 1))
      (pss_cons (ps_while PassesOwn.never (pt_cmpR op_ne (pv 5) (pv 2) (nomark _))
        (pss_cons (ps_set (i := 5) nd rfl (Or.inr rfl) (pe_ix ix_list (pe_lc (own := [("other", 6)]) (g := gName 6) rfl nd (pi_tup (pe_ix ix_list (pe_call c3.ok (hr.mono (by decide)) (by rfl) c3.at_ c3.kp c3.b .nil pass0 (pa_cons (pv 0) pa_nil)) (pv 5) (fun _ _ => rfl)))
            (blkOk_by (N := nShort) (sc := defScope sShort) (by decide +kernel)) (fun _ _ _ _ _ => pg_name (i := 6) nd rfl (Or.inl rfl))
            (fun _ _ _ _ _ => pts_one (pt_cmpR op_eq (pe_dget hu (pv 3) (pv 6) (fun _ _ => rfl)) (pe_op op_sub (pe_dget hu (pv 3) (pv 5) (fun _ _ => rfl)) pe_int) (nomark _))) (fun _ _ _ _ _ => pv 6)) pe_int (fun _ _ => rfl)))
          (pss_one (ps_expr (pe_bm PySem.F.plainAttrs_list PySem.F.slot_list_append PySem.F.type_list_append mt_append (pv 4) (pa_cons (pv 5) pa_nil))))))
      (pss_one (ps_ret (pe_callTy call_tupL (by rfl) T.tuple b_tuple (pa_cons (pv 4) pa_nil)))))))), ?_⟩
    refine ⟨_, rfl, _, rfl, _, rfl, by show 2 ≤ sizeLine; decide, fun q hq => ?_⟩
    have s1 : L2.Same H (upd H q (.lst [vN u, vN z])) := Same.new hq
    refine ⟨b, L, q, n, rs, g, [u, z], rfl, hB.same s1, upd_same, fun x hx => ?_, by show 2 ≤ 40; decide, fun H2 s2 => ?_⟩
    · rcases List.mem_cons.mp hx with e | e
      · omega
      · have := List.mem_singleton.mp e
        omega
    have s12 := s1.trans s2
    refine ⟨_, rfl, _, rfl, b, L, n, z, rs, g, rfl, hB.same s12, G, h8, hz, fun Fa fs H3 s3 hF R => ?_⟩
    have s13 := s12.trans s3
    refine ⟨Nat.zero_le _, fun D hD => ?_⟩
    have fD : H D = none := s13.free hD
    have s4 := s13.trans (Same.new (o := .lst []) hD)
    refine ⟨_, rfl, ?_⟩
    have inF : ∀ {x : Nat}, x < n → x ∈ fs.map (·.1) := fun {x} hx => far_all G R hC hz hx
    have nFD : Fa ≠ D := ne_of_none hF hD
    have hB3 := hB.same s13
    have H3k : L2.Same H3 (upd H3 D (.lst [])) := Same.new hD
    -- while here != wanted
    refine ⟨fun m σ H' => ∃ x acc v, σ = [some (.ref b), some (vN u), some (vN z), some (.ref Fa), some (.ref D), some (vN x), v] ∧ L2.Same H3 H' ∧ H' D = some (.lst (vNs acc)) ∧ x < n ∧ m = dist fs x ∧ acc ++ told g fs (dist fs x) x = told g fs (dist fs u) u ∧ acc.length ≤ 1000 - m,
      ⟨_, u, [], none, rfl, H3k, upd_same, hun, rfl, rfl, Nat.zero_le _⟩, ?_⟩
    rintro m σ H' ⟨x, acc, v, rfl, s', hD', hx, em, ht, hl⟩
    refine ⟨_, rfl, _, rfl, rfl, _, rfl, ?_⟩
    by_cases exz : x = z
    · subst exz
      refine iteNS rfl ?_
      have d0 : dist fs x = 0 := dist_of R.nd R.zero
      rw [d0] at ht
      have ht' : acc = told g fs (dist fs u) u := by
        rw [← ht]
        exact (List.append_nil acc).symm
      refine ⟨_, rfl, D, _, rfl, SqL.of hD', fun t ht2 => ?_⟩
      rw [ht'] at hD' ⊢
      exact k t fs _ ((s13.trans s').trans (Same.new ht2)) R (inF hun) upd_same
    · refine iteNY (fun e => exz (by have := V.int.inj e; omega)) ?_
      have dlt := dist_lt G R (inF hx) hx
      obtain ⟨p, hp⟩ : ∃ p, dist fs x = p + 1 := by
        cases e : dist fs x with
        | zero =>
          have q := far_at R (inF hx)
          rw [e] at q
          exact absurd (far_zero R q) exz
        | succ p => exact ⟨p, rfl⟩
      obtain ⟨y, r, ef, et, hy1, hy2, hy3⟩ := told_step R (inF hx) hp
      have hyn : y < n := G.lt x y hy1
      refine ⟨fun σ' H'' => ∃ x' acc' v', σ' = [some (.ref b), some (vN u), some (vN z), some (.ref Fa), some (.ref D), some (vN x'), v'] ∧ L2.Same H3 H'' ∧ H'' D = some (.lst (vNs acc')) ∧ x' < n ∧ dist fs x' < m ∧ acc' ++ told g fs (dist fs x') x' = told g fs (dist fs u) u ∧ acc'.length ≤ 1000 - dist fs x', ?_, ?_⟩
      · rintro σ' H'' ⟨x', acc', v', e1, e2, e3, e4, e5, e6, e7⟩
        exact ⟨_, e5, x', acc', v', e1, e2, e3, e4, rfl, e6, e7⟩
      have hB4 := hB3.same s'
      obtain ⟨rx, gx, hrx⟩ := hB4.rows.get hx
      have hF4 := s' _ _ hF
      refine ⟨_, rfl, b, L, n, rs, g, rfl, hB4, _, rfl, L, _, _, _, rfl, rfl, SqL.of hB4.rows.at_, atI_nat gx, rx, rfl, ⟨_, SqT.of hrx⟩, fun D2 hD2 =>
        lcT (l := g x) (g := vN) (p := fun v => dist fs v == p) (R := fun v y _ => y = vN v) hD2 (SqT.of hrx) ?_ (fun _ => rfl) (fun v H5 Q5 hv s5 k5 => ?_) (fun v H5 acc5 Q5 hv hpv s5 hacc k5 => ?_) fun ys H5 s5 hy5 hr5 => ?_⟩
      · have := nodup_le (n := n) (l := g x) ((G.asc x).imp fun {a b} h => Nat.ne_of_lt h) (fun v hv => G.lt x v hv)
        omega
      · have hv2 := far_at R (far_step R (inF hx) hv).1
        have hx2 := far_at R (inF hx)
        have q1 := DGet.k (k := kN v) (s5 _ _ hF4)
        rw [valV_yes R.nd hv2] at q1
        have q2 := DGet.k (k := kN x) (s5 _ _ hF4)
        rw [valV_yes R.nd hx2] at q2
        refine ⟨_, rfl, _, rfl, Fa, _, rfl, q1, _, rfl, _, rfl, Fa, _, rfl, q2, _, 1, rfl, rfl, rfl, _, rfl, ?_⟩
        have e : decide (vN (dist fs v) = V.int ((dist fs x : Nat) - 1)) = (dist fs v == p) := by
          by_cases c : dist fs v = p
          · rw [decide_eq_true (congrArg V.int (show ((dist fs v : Nat) : Int) = ((dist fs x : Nat) : Int) - 1 by omega)), beq_iff_eq.mpr c]
          · rw [decide_eq_false (fun z => c (by have := V.int.inj z; omega)), beq_eq_false_iff_ne.mpr c]
        rw [e]
        exact k5 _ (L2.Same.refl _)
      · exact ⟨_, rfl, k5 _ _ (L2.Same.refl _) fun _ _ => rfl⟩
      rw [pr_map (f := vN) hr5, ef] at hy5
      refine ⟨D2, _, 0, vN y, rfl, rfl, SqL.of hy5, at_of (j := 0) rfl rfl, ?_⟩
      have hD5 := s5 _ _ hD'
      have s35 := s'.trans s5
      refine ⟨_, rfl, .inl ⟨rfl, _, SqL.of hD5⟩, _, rfl, D, _, _, rfl, rfl, hD5, by rw [List.length_map]; exact szl (by omega), y, acc ++ [y], _, rfl, Same.mut s35 hD, by rw [upd_same, vNs_snoc], hyn, by omega, ?_, ?_⟩
      · rw [hp, et] at ht
        rw [hy2, List.append_assoc]
        exact ht
      · rw [List.length_append, List.length_singleton]
        omega
end
end K87

/-! The law's dice. -/
namespace K87
open PySem L2
theorem b_range : bootBuiltins "range" = some (.type "range") := by decide +kernel
structure DS (H : Hp) (a l : Addr) (ns : List Int) (p q r t : Int) : Prop where
  at_ : H a = some (.lst [.ref l, .int p, .int q, .int r, .int t])
  cells : H l = some (.lst (ns.map V.int))
  p0 : 0 ≤ p
  q0 : 0 ≤ q
  r0 : 0 ≤ r
  r1 : r < 2147483647
theorem DS.ne {H : Hp} {a l : Addr} {ns : List Int} {p q r t : Int} (h : DS H a l ns p q r t) : l ≠ a := fun e => by
  have h1 := h.cells
  rw [e, h.at_] at h1
  have h2 : ([.ref l, .int p, .int q, .int r, .int t] : List V) = ns.map V.int := by
    have z := Option.some.inj h1
    injection z
  cases ns with
  | nil => cases h2
  | cons n ns =>
    rw [List.map_cons] at h2
    injection h2 with h3 _
    cases h3
/-- the dice are written -/
theorem DS.put {H : Hp} {a l : Addr} {ns : List Int} {p q r t p' q' r' t' : Int} (h : DS H a l ns p q r t) (hp : 0 ≤ p') (hq : 0 ≤ q') (hr : 0 ≤ r') (hr' : r' < 2147483647) :
    DS (upd H a (.lst [.ref l, .int p', .int q', .int r', .int t'])) a l ns p' q' r' t' :=
  ⟨upd_same, by rw [upd_ne h.ne]; exact h.cells, hp, hq, hr, hr'⟩
/-- the dice: their address, that of the cells, the cells -/
structure Dc where
  a : Addr
  l : Addr
  ns : List Int
def DiceAt (H : Hp) (d : Dc) : Prop := ∃ p q r t, DS H d.a d.l d.ns p q r t
section
variable {H H' : Hp} {d : Dc} {b : Addr}
theorem DiceAt.same (h : DiceAt H d) (s : L2.Same H H') : DiceAt H' d := by
  obtain ⟨p, q, r, t, x⟩ := h
  exact ⟨p, q, r, t, s _ _ x.at_, s _ _ x.cells, x.p0, x.q0, x.r0, x.r1⟩
/-- the dice are no other thing -/
theorem DiceAt.not_tup {xs : List V} (h : DiceAt H d) (e : H b = some (.tup xs)) : b ≠ d.a := by
  obtain ⟨p, q, r, t, x⟩ := h
  exact ne_of e x.at_ (by intro z; cases z)
theorem DiceAt.not_refs {rs : List Addr} (h : DiceAt H d) (e : H b = some (.lst (rs.map V.ref))) : b ≠ d.a := by
  obtain ⟨p, q, r, t, x⟩ := h
  refine ne_of e x.at_ fun z => ?_
  have h2 : rs.map V.ref = ([.ref d.l, .int p, .int q, .int r, .int t] : List V) := by
    injection z
  match rs, h2 with
  | _ :: _ :: _, h2 =>
    injection h2 with _ h3
    injection h3 with h4 _
    cases h4
theorem DiceAt.not_free (h : DiceAt H d) (e : H b = none) : b ≠ d.a := by
  obtain ⟨p, q, r, t, x⟩ := h
  exact (ne_of_none x.at_ e).symm
theorem DiceAt.not_freeL (h : DiceAt H d) (e : H b = none) : b ≠ d.l := by
  obtain ⟨p, q, r, t, x⟩ := h
  exact (ne_of_none x.cells e).symm
theorem DiceAt.upd {o : HO} (h : DiceAt H d) (h1 : b ≠ d.a) (h2 : b ≠ d.l) : DiceAt (L2.upd H b o) d := by
  obtain ⟨p, q, r, t, x⟩ := h
  exact ⟨p, q, r, t, by rw [upd_ne h1.symm]; exact x.at_, by rw [upd_ne h2.symm]; exact x.cells, x.p0, x.q0, x.r0, x.r1⟩
end

def spDraw : Sp := fun vs H Q _ => ∃ (d : Dc) (s : Int), vs = [.ref d.a, .int s] ∧ DiceAt H d ∧ 0 < s ∧ s < 1073741824 ∧ ∀ (z : Nat) H', (z : Int) < s → But d.a H H' → DiceAt H' d → Q (vN z) H'
def spDice (K : PySem.W.Frag) : Sp := fun vs H Q _ => ∃ (a : Addr) (ns : List Int), vs = [.ref a] ∧ SqL K H a (ns.map V.int) ∧ ns.length ≤ 63 ∧ ∀ d H', L2.Same H H' → DiceAt H' d → Q (.ref d.a) H'
section
variable {P : Program} {w : World} {K : PySem.W.Frag} {mg : Str → Option Value} {base : Heap} {f f1 f2 f3 f4 C fs : Addr} {fd fd1 fd2 fd3 fd4 fds : FuncData}
abbrev nDice : List Str := ["_law_script", "_law_cell"]
theorem scDice : FnScope nDice ["_law_script"] (defScope sDice) := ⟨rfl, rfl, rfl, by decide +kernel, rfl, by decide +kernel, by decide +kernel⟩
theorem ok_dice (F : Dfn K mg "_law_dice" sDice ["_law_script"] f fd) (T : Txt mg) : Cal P w K mg base 1 "_law_dice" ["_law_script"] (spDice K) f fd := by
  refine F.cal (F.fn.ok scDice (fun vs H Q E h => ?_) (fun cdv A outer s H vs Q E hr h => ?_))
  · obtain ⟨a, ns, rfl, _⟩ := h
    rfl
  · obtain ⟨a, ns, rfl, hs, hl, k⟩ := h
    have nd := scDice.nd
    refine ⟨_, pss_one (ps_ret (pe_lst (pa_cons (pe_lc (own := [("_law_cell", 1)]) (g := gName 1) (tt := tYes) rfl nd (pi_list (pe_slice sl_list (pv 0) po_none (po_some pe_int))) (blkOk_by (N := nDice) (sc := defScope sDice) (by decide +kernel)) (fun _ _ _ _ _ => pg_name (i := 1) nd rfl (Or.inl rfl)) (fun _ _ _ _ _ => pts_nil)
        (fun _ _ _ _ _ => pe_callB call_abs (by rfl) T.abs b_abs (pa_cons (pe_callTy call_int1 (by rfl) T.int b_int (pa_cons (pv 1) pa_nil)) pa_nil)))
      (pa_cons pe_int (pa_cons pe_int (pa_cons pe_int (pa_cons pe_int pa_nil))))))), ?_⟩
    refine ⟨_, rfl, 63, rfl, a, _, rfl, hs, fun q hq => ?_⟩
    have hc : cutV (ns.map V.int) none (some 63) = ((ns.map V.int).drop (HT.sIx (ns.map V.int).length 0 none)).take (HT.sIx (ns.map V.int).length (ns.map V.int).length (some 63) - HT.sIx (ns.map V.int).length 0 none) := rfl
    obtain ⟨ms, hms, hml⟩ : ∃ ms : List Int, cutV (ns.map V.int) none (some 63) = ms.map V.int ∧ ms.length ≤ 63 := by
      rw [hc, ← List.map_drop, ← List.map_take]
      refine ⟨_, rfl, ?_⟩
      rw [List.length_take, List.length_drop]
      omega
    have s1 : L2.Same H (upd H q (.lst (cutV (ns.map V.int) none (some 63)))) := Same.new hq
    have hq1 : (upd H q (.lst (cutV (ns.map V.int) none (some 63)))) q = some (.lst (ms.map V.int)) := by rw [upd_same, hms]
    refine ⟨q, rfl, ⟨_, SqL.of upd_same⟩, fun D hD => lcL (l := ms) (g := V.int) (p := fun _ => true) (R := fun n y _ => y = V.int (if n < 0 then -n else n)) hD (SqL.of hq1) (by omega) (fun _ => rfl) lcT_yes (fun x H2 acc Q2 hx _ s2 _ k2 => ?_) fun ys H2 s2 hy hr2 => ?_⟩
    · exact ⟨_, rfl, .inl ⟨_, rfl, x, rfl, k2 _ _ (L2.Same.refl _) fun _ _ => rfl⟩⟩
    rw [filter_yes] at hr2
    have ey := pr_map (f := fun n : Int => V.int (if n < 0 then -n else n)) hr2
    refine ⟨by show 5 ≤ sizeLine; decide, fun d hd => ?_⟩
    refine k ⟨d, D, ms.map fun n => if n < 0 then -n else n⟩ _ ((s1.trans s2).trans (Same.new hd)) ⟨0, 0, 1, 0, upd_same, ?_, by decide, by decide, by decide, by decide⟩
    show (upd H2 d _) D = _
    rw [upd_ne (ne_of_none hy hd), hy, ey, List.map_map]
    rfl

abbrev nDraw : List Str := ["_law_dice_here", "_law_sides", "_law_cell", "_law_digit", "_law_mixed_here"]
theorem scDraw : FnScope nDraw ["_law_dice_here", "_law_sides"] (defScope sDraw) := ⟨rfl, rfl, rfl, by decide +kernel, rfl, by decide +kernel, by decide +kernel⟩
theorem ok_draw (F : Dfn K mg "_law_draw" sDraw ["_law_dice_here", "_law_sides"] f fd) (T : Txt mg) : Cal P w K mg base 1 "_law_draw" ["_law_dice_here", "_law_sides"] spDraw f fd := by
  refine F.cal (F.fn.ok scDraw (fun vs H Q E h => ?_) (fun cdv A outer s H vs Q E hr h => ?_))
  · obtain ⟨a, s, rfl, _⟩ := h
    rfl
  · obtain ⟨⟨a, l, ns⟩, sd, rfl, ⟨p, q, r, t, d⟩, hs0, hs1, k⟩ := h
    have d : DS H a l ns p q r t := d
    have nd := scDraw.nd
    refine ⟨_, Evl.pss_cut (ps_if (PW.pt (pw_and (pt_cmpR op_eq (pe_ix ix_list (pv 0) pe_int (fun _ _ => rfl)) pe_int (nomark _))
          (pw_and1 (pt_cmpR op_lt (pe_ix ix_list (pv 0) pe_int (fun _ _ => rfl)) (pe_callB call_len_seq (by rfl) T.len b_len (pa_cons (pe_ix ix_list (pv 0) pe_int (fun _ _ => rfl)) pa_nil)) (nomark _)))))
        (pss_cons (ps_set (i := 2) nd rfl (Or.inl rfl) (pe_ix ix_list (pe_ix ix_list (pv 0) pe_int (fun _ _ => rfl)) (pe_ix ix_list (pv 0) pe_int (fun _ _ => rfl)) (fun _ _ => rfl)))
        (pss_cons (ps_asg (pe_op op_add (pe_ix ix_list (pv 0) pe_int (fun _ _ => rfl)) pe_int) (pg_sub (pv 0) pe_int set_list))
        (pss_one (ps_if (pt_cmpR op_ge (pv 2) (pe_op op_pow pe_int pe_int) (nomark _)) (pss_one (ps_asg (pv 2) (pg_sub (pv 0) pe_int set_list)))
          (pss_one (ps_asg (pe_op op_mod (pe_callTy call_int1 (by rfl) T.int b_int (pa_cons (pe_op op_add (pe_op op_add (pe_op op_mul (pe_ix ix_list (pv 0) pe_int (fun _ _ => rfl)) pe_int) (pe_op op_mul (pv 2) pe_int)) (pe_ix ix_list (pv 0) pe_int (fun _ _ => rfl))) pa_nil)) pe_int) (pg_sub (pv 0) pe_int set_list)))))))
        pss_nil)
      (pss_cons (ps_if (pt_cmpR op_gt (pe_ix ix_list (pv 0) pe_int (fun _ _ => rfl)) pe_int (nomark _))
        (pss_cons (ps_set (i := 3) nd rfl (Or.inl rfl) (pe_op op_mod (pe_callTy call_int1 (by rfl) T.int b_int (pa_cons (pe_ix ix_list (pv 0) pe_int (fun _ _ => rfl)) pa_nil)) (pv 1)))
        (pss_cons (ps_asg (pe_op op_fdiv (pe_callTy call_int1 (by rfl) T.int b_int (pa_cons (pe_ix ix_list (pv 0) pe_int (fun _ _ => rfl)) pa_nil)) (pv 1)) (pg_sub (pv 0) pe_int set_list))
        (pss_one (ps_ret (pv 3))))) pss_nil)
      (pss_cons (ps_asg (pe_op op_add (pe_ix ix_list (pv 0) pe_int (fun _ _ => rfl)) pe_int) (pg_sub (pv 0) pe_int set_list))
      (pss_cons (ps_asg (pe_op op_mod (pe_callTy call_int1 (by rfl) T.int b_int (pa_cons (pe_op op_add (pe_op op_add (pe_op op_mul (pe_ix ix_list (pv 0) pe_int (fun _ _ => rfl)) pe_int) (pe_op op_mul (pe_ix ix_list (pv 0) pe_int (fun _ _ => rfl)) pe_int)) pe_int) pa_nil)) pe_int) (pg_sub (pv 0) pe_int set_list))
      (pss_cons (ps_set (i := 4) nd rfl (Or.inl rfl) (pe_op op_mod (pe_callTy call_int1 (by rfl) T.int b_int (pa_cons (pe_op op_mul (pe_ix ix_list (pv 0) pe_int (fun _ _ => rfl)) (pe_op op_add (pe_op op_fdiv (pe_ix ix_list (pv 0) pe_int (fun _ _ => rfl)) pe_int) pe_int)) pa_nil)) pe_int))
      (pss_cons (ps_set (i := 4) nd rfl (Or.inl rfl) (pe_op op_mod (pe_callTy call_int1 (by rfl) T.int b_int (pa_cons (pe_op op_mul (pv 4) (pe_op op_add (pe_op op_fdiv (pv 4) pe_int) pe_int)) pa_nil)) pe_int))
      (pss_one (ps_ret (pe_op op_mod (pe_callTy call_int1 (by rfl) T.int b_int (pa_cons (pe_op op_fdiv (pv 4) pe_int) pa_nil)) (pv 1))))))))), ?_⟩
    refine ⟨fun σ' H' => ∃ v p' q' r' t', σ' = [some (.ref a), some (.int sd), v, none, none] ∧ But a H H' ∧ DS H' a l ns p' q' r' t', ?_, ?_⟩
    · -- the first if
      refine ⟨_, rfl, a, _, 2, .int q, rfl, rfl, SqL.of d.at_, rfl, rfl, _, rfl, ?_⟩
      have nxt : ∃ v p' q' r' t', ([some (.ref a), some (.int sd), none, none, none] : L2.St) = [some (.ref a), some (.int sd), v, none, none] ∧ But a H H ∧ DS H a l ns p' q' r' t' := ⟨none, p, q, r, t, rfl, But.of (L2.Same.refl H), d⟩
      refine ite2 (fun _ => ?_) (fun _ => iteF nxt)
      refine ⟨_, rfl, a, _, 1, .int p, rfl, rfl, SqL.of d.at_, rfl, _, rfl, a, _, 0, .ref l, rfl, rfl, SqL.of d.at_, rfl, l, _, rfl, .inl (SqL.of d.cells), _, _, rfl, rfl, _, rfl, ?_⟩
      rw [List.length_map]
      by_cases hpl : p < (ns.length : Int)
      · refine iteY hpl ?_
        have hpn : p.toNat < ns.length := by
          have := d.p0
          omega
        have hcell : (ns.map V.int)[p.toNat]? = some (V.int ns[p.toNat]) := by rw [List.getElem?_map, List.getElem?_eq_getElem hpn]; rfl
        generalize ns[p.toNat] = c at hcell
        refine ⟨_, rfl, a, _, 0, .ref l, rfl, rfl, SqL.of d.at_, rfl, _, rfl, a, _, 1, .int p, rfl, rfl, SqL.of d.at_, rfl, l, _, p, _, rfl, rfl, SqL.of d.cells, at_of (by have := d.p0; omega) hcell, ?_⟩
        refine ⟨_, rfl, a, _, 1, .int p, rfl, rfl, SqL.of d.at_, rfl, p, 1, rfl, rfl, _, rfl, a, _, 1, 1, rfl, rfl, d.at_, rfl, ?_⟩
        have d1 : DS (upd H a (.lst [.ref l, .int (p + 1), .int q, .int r, .int t])) a l ns (p + 1) q r t := d.put (by have := d.p0; omega) d.q0 d.r0 d.r1
        refine ⟨_, rfl, 10, 18, rfl, rfl, ⟨by decide, by decide, by decide⟩, _, _, rfl, rfl, _, rfl, ?_⟩
        refine ite2 (fun hc => ?_) (fun _ => ?_)
        · have hc' : (10 : Int) ^ (18 : Int).toNat ≤ c := of_decide_eq_true hc
          have h10 : (0 : Int) ≤ (10 : Int) ^ (18 : Int).toNat := by decide
          refine ⟨_, rfl, _, rfl, a, _, 2, 2, rfl, rfl, d1.at_, rfl, _, p + 1, c, r, t, rfl, (But.of (L2.Same.refl H)).put.put, ?_⟩
          exact d1.put d1.p0 (by omega) d1.r0 d1.r1
        · refine ⟨_, rfl, a, _, 3, .int r, rfl, rfl, SqL.of d1.at_, rfl, r, 69621, rfl, rfl, .inr ⟨by decide, by decide⟩, _, rfl, c, 40692, rfl, rfl, .inr ⟨by decide, by decide⟩, _, _, rfl, rfl, ?_⟩
          refine ⟨_, rfl, a, _, 1, .int (p + 1), rfl, rfl, SqL.of d1.at_, rfl, _, _, rfl, rfl, .inl ⟨_, rfl, _, 2147483647, rfl, rfl, by show (0 : Int) < 2147483647; decide, _, rfl, a, _, 3, 3, rfl, rfl, d1.at_, rfl, ?_⟩⟩
          exact ⟨_, p + 1, q, _, t, rfl, (But.of (L2.Same.refl H)).put.put, d1.put d1.p0 d1.q0 (Int.emod_nonneg _ (by decide)) (Int.emod_lt_of_pos _ (by decide))⟩
      · exact iteN hpl nxt
    · rintro σ' H' ⟨v, p', q', r', t', rfl, bt, d'⟩
      refine ⟨_, rfl, a, _, 2, .int q', rfl, rfl, SqL.of d'.at_, rfl, q', 0, rfl, rfl, _, rfl, ?_⟩
      by_cases hq : 0 < q'
      · refine iteY hq ?_
        refine ⟨_, rfl, a, _, 2, .int q', rfl, rfl, SqL.of d'.at_, rfl, .inl ⟨_, rfl, _, rfl, q', sd, rfl, rfl, hs0, ?_⟩⟩
        refine ⟨_, rfl, a, _, 2, .int q', rfl, rfl, SqL.of d'.at_, rfl, .inl ⟨_, rfl, _, rfl, q', sd, rfl, rfl, ⟨hs0, hs1⟩, _, rfl, a, _, 2, 2, rfl, rfl, d'.at_, rfl, ?_⟩⟩
        have e : V.int (q' % sd) = vN (q' % sd).toNat := by
          have := Int.emod_nonneg q' (show sd ≠ 0 by omega)
          exact congrArg V.int (by omega)
        refine ⟨_, rfl, ?_⟩
        show Q (V.int (q' % sd)) _
        rw [e]
        refine k _ _ (by have := Int.emod_lt_of_pos q' hs0; have := Int.emod_nonneg q' (show sd ≠ 0 by omega); omega) bt.put ⟨p', _, r', t', d'.put d'.p0 (Int.ediv_nonneg d'.q0 (by omega)) d'.r0 d'.r1⟩
      · refine iteN hq ?_
        refine ⟨_, rfl, a, _, 4, .int t', rfl, rfl, SqL.of d'.at_, rfl, t', 1, rfl, rfl, _, rfl, a, _, 4, 4, rfl, rfl, d'.at_, rfl, ?_⟩
        have d1 : DS (upd H' a (.lst [.ref l, .int p', .int q', .int r', .int (t' + 1)])) a l ns p' q' r' (t' + 1) := d'.put d'.p0 d'.q0 d'.r0 d'.r1
        refine ⟨_, rfl, a, _, 3, .int r', rfl, rfl, SqL.of d1.at_, rfl, r', 48271, rfl, rfl, .inr ⟨by decide, by decide⟩, _, rfl, a, _, 4, .int (t' + 1), rfl, rfl, SqL.of d1.at_, rfl, _, 7919, rfl, rfl, .inr ⟨by decide, by decide⟩, _, _, rfl, rfl, _, _, rfl, rfl,
          .inl ⟨_, rfl, _, 2147483647, rfl, rfl, by show (0 : Int) < 2147483647; decide, _, rfl, a, _, 3, 3, rfl, rfl, d1.at_, rfl, ?_⟩⟩
        have d2 := d1.put (t' := t' + 1) d1.p0 d1.q0 (Int.emod_nonneg (r' * 48271 + (t' + 1) * 7919 + 1) (show (2147483647 : Int) ≠ 0 by decide)) (Int.emod_lt_of_pos (r' * 48271 + (t' + 1) * 7919 + 1) (show (0 : Int) < 2147483647 by decide))
        have m0 : ∀ x : Int, 0 ≤ x % 2147483399 ∧ x % 2147483399 < 2147483399 := fun x => ⟨Int.emod_nonneg _ (by decide), Int.emod_lt_of_pos _ (by decide)⟩
        -- mixed = int(dice[3] * (dice[3] // 1009 + 69623)) % 2147483399
        refine ⟨_, rfl, a, _, 3, _, rfl, rfl, SqL.of d2.at_, rfl, _, rfl, a, _, 3, _, rfl, rfl, SqL.of d2.at_, rfl, _, 1009, rfl, rfl, ⟨by decide, by decide⟩, _, _, rfl, rfl, _, _, rfl, rfl, .inl ⟨by have := d2.r0; omega, by have := d2.r1; omega⟩,
          .inl ⟨_, rfl, _, 2147483399, rfl, rfl, by show (0 : Int) < 2147483399; decide, ?_⟩⟩
        -- mixed = int(mixed * (mixed // 2003 + 40693)) % 2147483563
        refine ⟨_, rfl, _, rfl, _, 2003, rfl, rfl, ⟨by decide, by decide⟩, _, _, rfl, rfl, _, _, rfl, rfl, .inl ⟨?_, ?_⟩, .inl ⟨_, rfl, _, 2147483563, rfl, rfl, by show (0 : Int) < 2147483563; decide, ?_⟩⟩
        · refine Int.lt_of_lt_of_le ?_ (m0 _).1
          decide
        · refine Int.lt_trans (m0 _).2 ?_
          decide
        refine ⟨_, rfl, _, 16, rfl, rfl, ⟨by decide, by decide⟩, .inl ⟨_, rfl, _, rfl, _, sd, rfl, rfl, hs0, ?_⟩⟩
        have fin : ∀ x : Int, V.int (x % sd) = vN (x % sd).toNat ∧ ((x % sd).toNat : Int) < sd := fun x => by
          have h1 := Int.emod_nonneg x (show sd ≠ 0 by omega)
          have h2 := Int.emod_lt_of_pos x hs0
          exact ⟨congrArg V.int (by omega), by omega⟩
        have goal : ∀ (x : Int), Q (V.int (x % sd)) (upd (upd H' a (.lst [.ref l, .int p', .int q', .int r', .int (t' + 1)])) a (.lst [.ref l, .int p', .int q', .int ((r' * 48271 + (t' + 1) * 7919 + 1) % 2147483647), .int (t' + 1)])) := fun x => by
          rw [(fin x).1]
          exact k _ _ (fin x).2 bt.put.put ⟨_, _, _, _, d2⟩
        exact goal _
end
end K87

/-! _law_pairs, _law_mixed -/
namespace K87
open PySem L2
/-! ### pairs -/
theorem pairs_len {n : Nat} {ts : List (Nat × Nat)} (nd : ts.Nodup) (lt : ∀ p ∈ ts, p.1 < p.2 ∧ p.2 < n) (hn : n ≤ 8) : ts.length ≤ 28 := by
  have nd2 : (ts.map fun p => p.2 * (p.2 - 1) / 2 + p.1).Nodup := by
    unfold List.Nodup
    rw [List.pairwise_map]
    refine nd.imp_of_mem fun {p q} hp hq ne e => ne ?_
    have a := lt p hp
    have b := lt q hq
    exact code_inj p.1 p.2 q.1 q.2 a.1 (by omega) b.1 (by omega) e
  have h := nodup_le nd2 (n := 28) fun x hx => by
    obtain ⟨p, hp, e⟩ := List.mem_map.mp hx
    have a := lt p hp
    have hb : p.2 = 0 ∨ p.2 = 1 ∨ p.2 = 2 ∨ p.2 = 3 ∨ p.2 = 4 ∨ p.2 = 5 ∨ p.2 = 6 ∨ p.2 = 7 := by omega
    rcases hb with q | q | q | q | q | q | q | q <;> rw [q] at e a <;> omega
  rw [List.length_map] at h
  exact h
theorem mk_ps {α : Type} {H : Hp} (h : α → Nat × Nat) : ∀ {l : List α} {rs : List Addr}, Paired (fun x r => H r = some (.tup [vN (h x).1, vN (h x).2])) l rs → ∃ ps : List TP, rs.map V.ref = refs ps ∧ ps.map (·.2) = l.map h ∧ PairsIn H ps
  | _, _, .nil => ⟨[], rfl, rfl, fun p hp => absurd hp (by simp)⟩
  | _, _, .cons (a := x) (b := r) e t => by
    obtain ⟨ps, h1, h2, h3⟩ := mk_ps h t
    refine ⟨(r, h x) :: ps, by rw [List.map_cons, h1]; rfl, by rw [List.map_cons, List.map_cons, h2], fun p hp => ?_⟩
    rcases List.mem_cons.mp hp with q | q
    · rw [q]
      exact e
    · exact h3 p q
theorem refs_append (a b : List TP) : refs (a ++ b) = refs a ++ refs b := List.map_append ..
theorem PairsIn.append {H : Hp} {a b : List TP} (h1 : PairsIn H a) (h2 : PairsIn H b) : PairsIn H (a ++ b) := fun p hp => (List.mem_append.mp hp).elim (h1 p) (h2 p)
theorem PairsIn.but {H H' : Hp} {a : Dc} {ps : List TP} (h : PairsIn H ps) (d : DiceAt H a) (b : But a.a H H') : PairsIn H' ps := fun p hp => b.at_ (d.not_tup (h p hp)) (h p hp)
theorem PairsIn.sub {H : Hp} {ps qs : List TP} (h : PairsIn H ps) (s : ∀ p ∈ qs, p ∈ ps) : PairsIn H qs := fun p hp => h p (s p hp)
theorem refs_erase : ∀ (l : List TP) (i : Nat), (refs l).eraseIdx i = refs (l.eraseIdx i)
  | [], _ => rfl
  | _ :: _, 0 => rfl
  | x :: l, i + 1 => by
    show V.ref x.1 :: (refs l).eraseIdx i = V.ref x.1 :: refs (l.eraseIdx i)
    rw [refs_erase l i]
theorem perm_take {α : Type} : ∀ {l : List α} {i : Nat} {x : α}, l[i]? = some x → (x :: l.eraseIdx i).Perm l
  | [], _, _, h => absurd h (by simp)
  | y :: l, 0, x, h => by
    have e : y = x := Option.some.inj h
    rw [e]
    exact List.Perm.refl _
  | y :: l, i + 1, x, h => by
    have h' : l[i]? = some x := by simpa using h
    show (x :: y :: l.eraseIdx i).Perm (y :: l)
    exact (List.Perm.swap y x _).trans ((perm_take h').cons y)

/-- all pairs of contents -/
structure AllPairs (n : Nat) (ts : List (Nat × Nat)) : Prop where
  nd : ts.Nodup
  mem : ∀ q : Nat × Nat, q ∈ ts ↔ q.1 < q.2 ∧ q.2 < n
theorem AllPairs.perm {n : Nat} {ts us : List (Nat × Nat)} (h : AllPairs n ts) (p : us.Perm ts) : AllPairs n us := ⟨p.nodup_iff.mpr h.nd, fun q => p.mem_iff.trans (h.mem q)⟩
theorem AllPairs.len {n : Nat} {ts : List (Nat × Nat)} (h : AllPairs n ts) (hn : n ≤ 8) : ts.length ≤ 28 := pairs_len h.nd (fun p hp => (h.mem p).mp hp) hn
def spLPairs : Sp := fun vs H Q _ => ∃ n : Nat, vs = [vN n] ∧ n ≤ 8 ∧ ∀ p ps H', L2.Same H H' → H' p = some (.lst (refs ps)) → PairsIn H' ps → AllPairs n (ps.map (·.2)) → Q (.ref p) H'
def spMixed : Sp := fun vs H Q _ => ∃ (a : Dc) (l : Addr) (ps : List TP), vs = [.ref a.a, .ref l] ∧ DiceAt H a ∧ H l = some (.lst (refs ps)) ∧ PairsIn H ps ∧ ps.length ≤ 1000 ∧
  ∀ p qs H', But a.a H H' → DiceAt H' a → H' p = some (.lst (refs qs)) → PairsIn H' qs → qs.Perm ps → Q (.ref p) H'

section
variable {P : Program} {w : World} {K : PySem.W.Frag} {mg : Str → Option Value} {base : Heap} {f f1 f2 f3 f4 C fs : Addr} {fd fd1 fd2 fd3 fd4 fds : FuncData}
abbrev nLPairs : List Str := ["_law_size", "_law_found", "_law_one", "_law_two"]
theorem scLPairs : FnScope nLPairs ["_law_size"] (defScope sLPairs) := ⟨rfl, rfl, rfl, by decide +kernel, rfl, by decide +kernel, by decide +kernel⟩
theorem ok_lpairs (F : Dfn K mg "_law_pairs" sLPairs ["_law_size"] f fd) (T : Txt mg) : Cal P w K mg base 1 "_law_pairs" ["_law_size"] spLPairs f fd := by
  refine F.cal (F.fn.ok scLPairs (fun vs H Q E h => ?_) (fun cdv A outer s H vs Q E hr h => ?_))
  · obtain ⟨n, rfl, _⟩ := h
    rfl
  · obtain ⟨n, rfl, hn, k⟩ := h
    have nd := scLPairs.nd
    refine ⟨_, pss_cons (ps_set (i := 1) nd rfl (Or.inl rfl) (pe_lst pa_nil))
      (pss_cons (ps_for PassesOwn.never rfl (pi_range1 (by rfl) T.range (pa_cons (pv 0) pa_nil)) (pg_name (i := 2) nd rfl (Or.inr rfl))
        (pss_one (ps_expr (pe_bm PySem.F.plainAttrs_list PySem.F.slot_list_extend PySem.F.type_list_extend mt_extend (pv 1) (pa_cons
          (pe_lc (own := [("_law_two", 3)]) (g := gName 3) (tt := tYes) rfl nd (pi_range2 (by rfl) T.range (pa_cons (pe_op op_add (pv 2) pe_int) (pa_cons (pv 0) pa_nil))) (blkOk_by (N := nLPairs) (sc := defScope sLPairs) (by decide +kernel)) (fun _ _ _ _ _ => pg_name (i := 3) nd rfl (Or.inl rfl)) (fun _ _ _ _ _ => pts_nil)
            (fun _ _ _ _ _ => pe_tup (pa_cons (pv 2) (pa_cons (pv 3) pa_nil)))) pa_nil)))))
      (pss_one (ps_ret (pv 1)))), ?_⟩
    refine ⟨Nat.zero_le _, fun D hD => ?_⟩
    refine ⟨_, rfl, (n : Int), rfl, by omega, by omega, ?_⟩
    have e0 : ((n : Int)).toNat = n := by omega
    rw [e0]
    refine for_range (lo := 0) (n := n) (fun i σ H' => ∃ (v1 : Option V) (ps : List TP), σ = [some (vN n), some (.ref D), v1, none] ∧ L2.Same H H' ∧ H' D = some (.lst (refs ps)) ∧ PairsIn H' ps ∧ (ps.map (·.2)).Nodup ∧ ∀ q : Nat × Nat, q ∈ ps.map (·.2) ↔ q.1 < i ∧ q.1 < q.2 ∧ q.2 < n)
      ⟨none, [], rfl, Same.new hD, upd_same, fun p hp => absurd hp (by simp), List.nodup_nil, fun q => by simp⟩ ?_ ?_
    · rintro i σ H' hi ⟨v1, ps, rfl, s', hD', hP, hnd, hmem⟩
      have e1 : (0 : Int) + (i : Int) = (i : Int) := Int.zero_add _
      have hl := pairs_len hnd (fun p hp => ((hmem p).mp hp).2) hn
      rw [List.length_map] at hl
      show tDrop _ _ (List.set [some (vN n), some (V.ref D), v1, none] 2 (some (V.int (0 + (i : Int))))) H'
      rw [e1]
      refine ⟨_, rfl, .inl ⟨rfl, _, SqL.of hD'⟩, _, rfl, _, _, rfl, rfl, _, rfl, _, _, rfl, ⟨by omega, by omega, by omega, by omega⟩, fun D2 hD2 =>
        lcR (lo := (i : Int) + 1) (p := fun _ => true) (R := fun j y G => ∃ r, y = V.ref r ∧ G r = some (.tup [vN i, vN (i + 1 + j)])) hD2 (by omega) (fun _ => rfl) lcT_yes (fun j H3 acc Q3 hj _ s3 hacc k3 => ?_) fun ys H3 s3 hy3 hr3 => ?_⟩
      · have e2 : V.int ((i : Int) + 1 + (j : Nat)) = vN (i + 1 + j) := congrArg V.int (by omega)
        refine ⟨_, rfl, _, rfl, by show 2 ≤ sizeLine; decide, fun q hq => k3 _ _ (Same.new hq) fun G hG => ⟨q, rfl, hG.at_ (fun e => ?_) ?_⟩⟩
        · rw [e, hacc] at hq
          cases hq
        · rw [← e2]
          exact upd_same
      · rw [filter_yes] at hr3
        obtain ⟨rs, er, hrs⟩ := pr_refs hr3
        obtain ⟨ps2, g1, g2, g3⟩ := mk_ps (fun j => (i, i + 1 + j)) hrs
        have hD3 := s3 _ _ hD'
        rw [er, g1] at hy3
        have nDD : D ≠ D2 := ne_of_none hD' hD2
        have l2 : (refs ps2).length = n - (i + 1) := by
          rw [← g1, List.length_map, ← pr_len hrs, List.length_range]
          omega
        refine ⟨D, D2, _, _, rfl, rfl, hD3, hy3, by rw [List.length_map, l2]; exact sz (by omega), _, ps ++ ps2, rfl, Same.mut (s'.trans s3) hD, by rw [upd_same, refs_append], ?_, ?_, fun q => ?_⟩
        · have hPa : PairsIn H3 (ps ++ ps2) := (hP.same s3).append g3
          intro p hp
          rw [upd_ne (ne_of (hPa p hp) hD3 (by intro z; cases z))]
          exact hPa p hp
        · rw [List.map_append, g2]
          refine List.nodup_append.mpr ⟨hnd, ?_, fun a ha b hb e => ?_⟩
          · refine List.pairwise_map.mpr (List.nodup_range.imp fun {x y} hxy e => hxy ?_)
            have := (Prod.mk.inj e).2
            omega
          · obtain ⟨j, _, ej⟩ := List.mem_map.mp hb
            have := ((hmem a).mp ha).1
            rw [e, ← ej] at this
            dsimp only at this
            omega
        · rw [List.map_append, List.mem_append, g2, hmem]
          constructor
          · rintro (h | h)
            · omega
            · obtain ⟨j, hj, ej⟩ := List.mem_map.mp h
              rw [List.mem_range] at hj
              rw [← ej]
              dsimp only
              omega
          · intro h
            by_cases c : q.1 < i
            · exact .inl ⟨c, h.2⟩
            · refine .inr (List.mem_map.mpr ⟨q.2 - (i + 1), List.mem_range.mpr (by omega), ?_⟩)
              have a : i = q.1 := by omega
              have b : i + 1 + (q.2 - (i + 1)) = q.2 := by omega
              rw [b, a]
    · rintro σ H' ⟨v1, ps, rfl, s', hD', hP, hnd, hmem⟩
      refine ⟨_, rfl, k D ps H' s' hD' hP ⟨hnd, fun q => ?_⟩⟩
      rw [hmem]
      omega

abbrev nMixed : List Str := ["_law_dice_here", "_law_items", "_law_left", "_law_found"]
theorem scMixed : FnScope nMixed ["_law_dice_here", "_law_items"] (defScope sMixed) := ⟨rfl, rfl, rfl, by decide +kernel, rfl, by decide +kernel, by decide +kernel⟩
theorem ok_mixed (F : Dfn K mg "_law_mixed" sMixed ["_law_dice_here", "_law_items"] f fd) (T : Txt mg) (c1 : Cal P w K mg base 1 "_law_draw" ["_law_dice_here", "_law_sides"] spDraw f1 fd1) : Cal P w K mg base 2 "_law_mixed" ["_law_dice_here", "_law_items"] spMixed f fd := by
  refine F.cal (F.fn.ok scMixed (fun vs H Q E h => ?_) (fun cdv A outer s H vs Q E hr h => ?_))
  · obtain ⟨a, l, ps, rfl, _⟩ := h
    rfl
  · obtain ⟨a, l, ps, rfl, hd, hl, hP, hz, k⟩ := h
    have nd := scMixed.nd
    refine ⟨_, pss_cons (ps_set (i := 2) nd rfl (Or.inl rfl) (pe_callTy call_list_of (by rfl) T.list b_list (pa_cons (pv 1) pa_nil)))
      (pss_cons (ps_set (i := 3) nd rfl (Or.inl rfl) (pe_lst pa_nil))
      (pss_cons (ps_while PassesOwn.never (pt_cmpR op_gt (pe_callB call_len_seq (by rfl) T.len b_len (pa_cons (pv 2) pa_nil)) pe_int (nomark _))
        (pss_one (ps_expr (pe_bm PySem.F.plainAttrs_list PySem.F.slot_list_append PySem.F.type_list_append mt_append (pv 3) (pa_cons
          (pe_bm PySem.F.plainAttrs_list PySem.F.slot_list_pop PySem.F.type_list_pop mt_popAt (pv 2) (pa_cons (pe_call c1.ok hr (by rfl) c1.at_ c1.kp c1.b .nil pass0 (pa_cons (pv 0) (pa_cons (pe_callB call_len_seq (by rfl) T.len b_len (pa_cons (pv 2) pa_nil)) pa_nil))) pa_nil)) pa_nil)))))
      (pss_one (ps_ret (pv 3))))), ?_⟩
    refine ⟨_, rfl, l, _, rfl, .inl (SqL.of hl), fun L hL => ?_⟩
    refine ⟨Nat.zero_le _, fun D hD => ?_⟩
    have hD0 : H D = none := (Same.new hL).free hD
    have nLD : L ≠ D := ne_of_none upd_same hD
    have nLa := hd.not_free hL
    have nDa := hd.not_free hD0
    have s0 : L2.Same H (upd (upd H L (.lst (refs ps))) D (.lst [])) := (Same.new hL).trans (Same.new hD)
    refine ⟨fun m σ H' => ∃ xs ys : List TP, σ = [some (.ref a.a), some (.ref l), some (.ref L), some (.ref D)] ∧ But a.a H H' ∧ DiceAt H' a ∧ H' L = some (.lst (refs xs)) ∧ H' D = some (.lst (refs ys)) ∧ (ys ++ xs).Perm ps ∧ m = xs.length,
      ⟨_, ps, [], rfl, But.of s0, hd.same s0, by rw [upd_ne nLD, upd_same], upd_same, List.Perm.refl _, rfl⟩, ?_⟩
    rintro m σ H' ⟨xs, ys, rfl, bt, hd', hL', hD', pm, em⟩
    refine ⟨_, rfl, L, _, rfl, .inl (SqL.of hL'), _, _, rfl, rfl, _, rfl, ?_⟩
    rw [List.length_map]
    by_cases hx : 0 < xs.length
    · refine iteY (by omega) ?_
      have hxz : xs.length ≤ 1000 := by
        have := pm.length_eq
        rw [List.length_append] at this
        omega
      refine ⟨fun σ' H'' => ∃ xs' ys' : List TP, σ' = [some (.ref a.a), some (.ref l), some (.ref L), some (.ref D)] ∧ But a.a H H'' ∧ DiceAt H'' a ∧ H'' L = some (.lst (refs xs')) ∧ H'' D = some (.lst (refs ys')) ∧ (ys' ++ xs').Perm ps ∧ xs'.length < m, ?_, ?_⟩
      · rintro σ' H'' ⟨xs', ys', e1, e2, e3, e4, e5, e6, e7⟩
        exact ⟨_, e7, xs', ys', e1, e2, e3, e4, e5, e6, rfl⟩
      refine ⟨_, rfl, .inl ⟨rfl, _, SqL.of hD'⟩, _, rfl, .inl ⟨rfl, _, SqL.of hL'⟩, _, rfl, _, rfl, L, _, rfl, .inl (SqL.of hL'), a, _, rfl, hd', by rw [List.length_map]; omega, by rw [List.length_map]; omega, fun z H2 hz2 b2 hd2 => ?_⟩
      rw [List.length_map] at hz2
      have hzl : z < xs.length := by omega
      obtain ⟨x, hxz2⟩ := get_lt rfl hzl
      have hL2 := b2.at_ nLa hL'
      have hD2 := b2.at_ nDa hD'
      refine ⟨L, _, z, z, .ref x.1, rfl, rfl, hL2, by omega, by omega, ?_, by rw [List.getElem?_map, hxz2]; rfl, ?_⟩
      · rw [List.length_map]
        have q := PyProof.Rows.seqIndex_at (i := (z : Int)) (n := xs.length) (by omega) (by omega)
        exact q
      · have hD3 : (upd H2 L (.lst ((refs xs).eraseIdx z))) D = some (.lst (refs ys)) := by
          rw [upd_ne nLD.symm]
          exact hD2
        refine ⟨D, _, _, rfl, rfl, hD3, by rw [List.length_map]; have := pm.length_eq; rw [List.length_append] at this; exact szl (by omega), xs.eraseIdx z, ys ++ [x], rfl, ?_, ?_, ?_, ?_, ?_, ?_⟩
        · exact Same.mut (Same.mut (bt.trans b2) (by rw [off_ne nLa]; exact hL)) (by rw [off_ne nDa]; exact hD0)
        · exact (hd2.upd nLa (hd.not_freeL hL)).upd nDa (hd.not_freeL hD0)
        · rw [upd_ne nLD, upd_same, refs_erase]
        · rw [upd_same, refs_append]
          rfl
        · refine List.Perm.trans ?_ pm
          rw [List.append_assoc]
          exact (perm_take hxz2).append_left ys
        · rw [List.length_eraseIdx]
          rw [if_pos hzl]
          omega
    · refine iteN (by omega) ⟨_, rfl, k D ys H' bt hd' hD' ?_ ?_⟩
      · have e : xs = [] := List.eq_nil_of_length_eq_zero (by omega)
        subst e
        rw [List.append_nil] at pm
        exact (hP.but hd bt).sub fun p hp => pm.mem_iff.mp hp
      · have e : xs = [] := List.eq_nil_of_length_eq_zero (by omega)
        subst e
        rw [List.append_nil] at pm
        exact pm
end
end K87

/-! _law_drawn_ties, _law_book -/
namespace K87
open PySem L2
/-! ### rearranged -/
theorem perm_back {α β : Type} {f : α → β} : ∀ {ys : List β} {l : List α}, ys.Perm (l.map f) → ∃ l' : List α, l'.Perm l ∧ ys = l'.map f
  | [], l, h => by
    have e : l.map f = [] := List.Perm.eq_nil h.symm
    have e2 : l = [] := List.map_eq_nil_iff.mp e
    rw [e2]
    exact ⟨[], List.Perm.refl _, rfl⟩
  | y :: ys, l, h => by
    obtain ⟨x, hx, ex⟩ := List.mem_map.mp (h.mem_iff.mp List.mem_cons_self)
    obtain ⟨s, t, est⟩ := List.append_of_mem hx
    have h2 : (y :: ys).Perm (y :: (s ++ t).map f) := by
      refine h.trans ?_
      rw [est, List.map_append, List.map_cons, List.map_append, ex]
      exact List.perm_middle
    obtain ⟨l', p, e⟩ := perm_back h2.cons_inv
    refine ⟨x :: l', ?_, by rw [List.map_cons, ex, e]⟩
    rw [est]
    exact (p.cons x).trans List.perm_middle.symm
/-- the pair that stands at a value -/
def kP (H : Hp) (v : V) : Int × Int := match v with
  | .ref r => match H r with
    | some (.tup [.int a, .int b]) => (a, b)
    | _ => (0, 0)
  | _ => (0, 0)
theorem kP_at {H : Hp} {p : TP} (h : H p.1 = some (.tup [vN p.2.1, vN p.2.2])) : kP H (.ref p.1) = ((p.2.1 : Int), (p.2.2 : Int)) := by
  show (match H p.1 with
    | some (.tup [.int a, .int b]) => (a, b)
    | _ => (0, 0)) = _
  rw [h]
/-- what sorted makes of unlike pairs -/
theorem ties_sorted {H : Hp} {n : Nat} {qs : List TP} (hP : PairsIn H qs) (nd : (qs.map (·.2)).Nodup) (lt : ∀ p ∈ qs.map (·.2), p.1 < p.2 ∧ p.2 < n) (hs : SrtO.Srtd (ltP (kP H)) (refs qs)) : Ties n (qs.map (·.2)) := by
  refine ⟨lt, ?_⟩
  have h1 : qs.Pairwise (fun p q => ltP (kP H) (.ref q.1) (.ref p.1) = false) := List.pairwise_map.mp hs
  have h2 : qs.Pairwise (fun p q => p.2 ≠ q.2) := List.pairwise_map.mp nd
  rw [List.pairwise_map]
  refine (h1.and h2).imp_of_mem fun {p q} hp hq h => ?_
  have a := h.1
  unfold ltP at a
  rw [kP_at (hP p hp), kP_at (hP q hq), SrtO.lexB_no] at a
  dsimp only at a
  have b : ¬ (p.2.1 = q.2.1 ∧ p.2.2 = q.2.2) := fun e => h.2 (Prod.ext e.1 e.2)
  omega

/-! ### pairs as data -/
def pD (z : Nat × Nat) : PyData := .tuple [.int z.1, .int z.2]
theorem pD_depth (z : Nat × Nat) : (pD z).depth = 1 := by simp [pD, PyData.depth, PyData.depthAll]
theorem pD_shaped (z : Nat × Nat) : SeqAt.shaped (pD z) = true := by
  show ((pD z).canLay0 && decide ((pD z).depth ≤ 64)) = true
  rw [pD_depth]
  simp [pD, PyData.canLay0, PyData.canLayAll0]
theorem pDs_ok : ∀ l : List (Nat × Nat), PyData.canLayAll0 (l.map pD) = true ∧ PyData.depthAll (l.map pD) ≤ 1
  | [] => by simp [PyData.canLayAll0, PyData.depthAll]
  | z :: l => by
    obtain ⟨h1, h2⟩ := pDs_ok l
    have h3 := pD_depth z
    refine ⟨?_, ?_⟩
    · simp only [List.map_cons, PyData.canLayAll0, h1, Bool.and_true]
      simp [pD, PyData.canLay0, PyData.canLayAll0]
    · simp only [List.map_cons, PyData.depthAll]
      omega
theorem pDs_shaped (l : List (Nat × Nat)) : SeqAt.shaped (.list (l.map pD)) = true := by
  obtain ⟨h1, h2⟩ := pDs_ok l
  show (PyData.canLay0 (.list (l.map pD)) && decide (PyData.depth (.list (l.map pD)) ≤ 64)) = true
  rw [Bool.and_eq_true]
  refine ⟨by simp only [PyData.canLay0]; exact h1, decide_eq_true ?_⟩
  simp only [PyData.depth]
  omega
theorem pD_eqv (z w : Nat × Nat) : PyData.eqv (pD z) (pD w) = decide (z = w) := by
  have e : PyData.eqv (pD z) (pD w) = (((z.1 : Int) == (w.1 : Int)) && (((z.2 : Int) == (w.2 : Int)) && true)) := by simp only [pD, PyData.eqv, PyData.eqvAll]
  rw [e]
  by_cases h : z = w
  · rw [h]
    simp
  · rw [decide_eq_false h]
    by_cases h1 : z.1 = w.1
    · have h2 : ¬ z.2 = w.2 := fun q => h (Prod.ext h1 q)
      rw [beq_eq_false_iff_ne.mpr (show (z.2 : Int) ≠ (w.2 : Int) by omega), Bool.false_and, Bool.and_false]
    · rw [beq_eq_false_iff_ne.mpr (show (z.1 : Int) ≠ (w.1 : Int) by omega), Bool.false_and]
theorem pD_any (z : Nat × Nat) : ∀ l : List (Nat × Nat), ((l.map pD).any fun d => PyData.eqv d (pD z)) = decide (z ∈ l)
  | [] => rfl
  | w :: l => by
    rw [List.map_cons, List.any_cons, pD_any z l, pD_eqv]
    by_cases h : w = z
    · rw [decide_eq_true h, h]
      simp
    · rw [decide_eq_false h, Bool.false_or]
      refine decide_eq_decide.mpr ⟨fun q => List.mem_cons_of_mem _ q, fun q => ?_⟩
      rcases List.mem_cons.mp q with r | r
      · exact absurd r.symm h
      · exact r
theorem dp_pair {K : PySem.W.Frag} {H : Hp} {r : Addr} {z : Nat × Nat} (h : H r = some (.tup [vN z.1, vN z.2])) : Dp K H (.ref r) (pD z) := .tup (SqT.of h) (.cons (.int _) (.cons (.int _) .nil))
theorem dp_pairs {K : PySem.W.Frag} {H : Hp} : ∀ {l : List TP}, PairsIn H l → DpAll K H (refs l) ((l.map (·.2)).map pD)
  | [], _ => .nil
  | p :: l, h => .cons (dp_pair (h p List.mem_cons_self)) (dp_pairs fun q hq => h q (List.mem_cons_of_mem _ hq))

/-! ### the tree that grows -/
structure KI (n : Nat) (ps fs : List TP) (ks : List Nat) (i : Nat) : Prop where
  nd : ks.Nodup
  lt : ∀ k ∈ ks, k < n
  len : ks.length = i + 1
  fnd : (fs.map (·.2)).Nodup
  sub : ∀ p ∈ fs, p ∈ ps ∧ p.2.1 ∈ ks ∧ p.2.2 ∈ ks
/-- one end known, the other one not -/
def fitP (ks : List Nat) (p : TP) : Bool := !decide (V.bl (inV (vN p.2.1) (vNs ks)) = V.bl (inV (vN p.2.2) (vNs ks)))
theorem fitP_iff {ks : List Nat} {p : TP} : fitP ks p = true ↔ ¬ (p.2.1 ∈ ks ↔ p.2.2 ∈ ks) := by
  unfold fitP
  rw [inV_vN, inV_vN, Bool.not_eq_true', decide_eq_false_iff_not]
  constructor
  · intro h e
    exact h (congrArg V.bl (decide_eq_decide.mpr e))
  · intro h e
    have q := V.bl.inj e
    exact h (decide_eq_decide.mp q)
theorem KI.fit {n : Nat} {ps fs : List TP} {ks : List Nat} {i : Nat} (h : KI n ps fs ks i) (hi : i + 1 < n) (A : AllPairs n (ps.map (·.2))) : ∃ p ∈ ps, fitP ks p = true := by
  obtain ⟨b, hb, hbk⟩ : ∃ b, b < n ∧ b ∉ ks := by
    refine Classical.byContradiction fun c => ?_
    have q := range_sub (n := n) (l := ks) fun v hv => Classical.byContradiction fun z => c ⟨v, hv, z⟩
    have := h.len
    omega
  obtain ⟨a, ha⟩ : ∃ a, a ∈ ks := by
    cases e : ks with
    | nil =>
      have := h.len
      rw [e] at this
      cases this
    | cons a r => exact ⟨a, List.mem_cons_self⟩
  have hab : a ≠ b := fun e => hbk (e ▸ ha)
  have han := h.lt a ha
  rcases Nat.lt_or_gt_of_ne hab with l | l
  · obtain ⟨p, hp, ep⟩ := List.mem_map.mp ((A.mem (a, b)).mpr ⟨l, hb⟩)
    refine ⟨p, hp, fitP_iff.mpr fun e => ?_⟩
    rw [ep] at e
    exact hbk (e.mp ha)
  · obtain ⟨p, hp, ep⟩ := List.mem_map.mp ((A.mem (b, a)).mpr ⟨l, han⟩)
    refine ⟨p, hp, fitP_iff.mpr fun e => ?_⟩
    rw [ep] at e
    exact hbk (e.mpr ha)
theorem KI.step {n : Nat} {ps fs : List TP} {ks : List Nat} {i : Nat} {p : TP} (h : KI n ps fs ks i) (hp : p ∈ ps) (hf : fitP ks p = true) (hl : p.2.1 < p.2.2 ∧ p.2.2 < n) :
    KI n ps (fs ++ [p]) (ks ++ [p.2.1, p.2.2].filter fun c => !inV (vN c) (vNs ks)) (i + 1) := by
  have hx := fitP_iff.mp hf
  have two : ∃ c d, [p.2.1, p.2.2].filter (fun c => !inV (vN c) (vNs ks)) = [c] ∧ c ∉ ks ∧ c < n ∧ d ∈ ks ∧ ((p.2.1 = c ∧ p.2.2 = d) ∨ (p.2.1 = d ∧ p.2.2 = c)) := by
    by_cases h1 : p.2.1 ∈ ks
    · have h2 : p.2.2 ∉ ks := fun q => hx ⟨fun _ => q, fun _ => h1⟩
      refine ⟨p.2.2, p.2.1, ?_, h2, hl.2, h1, .inr ⟨rfl, rfl⟩⟩
      simp [inV_vN, h1, h2]
    · have h2 : p.2.2 ∈ ks := Classical.byContradiction fun q => hx ⟨fun z => absurd z h1, fun z => absurd z q⟩
      refine ⟨p.2.1, p.2.2, ?_, h1, by omega, h2, .inl ⟨rfl, rfl⟩⟩
      simp [inV_vN, h1, h2]
  obtain ⟨c, d, e, hc, hcn, hd, hcd⟩ := two
  rw [e]
  have mc : c ∈ ks ++ [c] := List.mem_append_right _ (List.mem_singleton.mpr rfl)
  refine ⟨List.nodup_append.mpr ⟨h.nd, List.nodup_cons.mpr ⟨by simp, List.nodup_nil⟩, fun a ha b hb z => ?_⟩, fun k hk => ?_, by rw [List.length_append, h.len]; rfl, ?_, fun q hq => ?_⟩
  · rw [List.mem_singleton.mp hb] at z
    rw [z] at ha
    exact hc ha
  · rcases List.mem_append.mp hk with q | q
    · exact h.lt k q
    · rw [List.mem_singleton.mp q]
      exact hcn
  · rw [List.map_append]
    refine List.nodup_append.mpr ⟨h.fnd, List.nodup_cons.mpr ⟨by simp, List.nodup_nil⟩, fun a ha b hb z => ?_⟩
    have hb' : b = p.2 := List.mem_singleton.mp hb
    obtain ⟨q, hq, eq⟩ := List.mem_map.mp ha
    have g := (h.sub q hq).2
    rw [eq, z, hb'] at g
    exact hx ⟨fun _ => g.2, fun _ => g.1⟩
  · rcases List.mem_append.mp hq with m | m
    · obtain ⟨g1, g2, g3⟩ := h.sub q m
      exact ⟨g1, List.mem_append_left _ g2, List.mem_append_left _ g3⟩
    · rw [List.mem_singleton.mp m]
      rcases hcd with ⟨g1, g2⟩ | ⟨g1, g2⟩
      · rw [g1, g2]
        exact ⟨hp, mc, List.mem_append_left _ hd⟩
      · rw [g1, g2]
        exact ⟨hp, List.mem_append_left _ hd, mc⟩
def spDrawn : Sp := fun vs H Q _ => ∃ (d : Dc) (l : Addr) (n : Nat) (ps : List TP), vs = [.ref d.a, vN n, .ref l] ∧ DiceAt H d ∧ 1 ≤ n ∧ n ≤ 8 ∧ H l = some (.lst (refs ps)) ∧ PairsIn H ps ∧ AllPairs n (ps.map (·.2)) ∧
  ∀ t qs H', But d.a H H' → DiceAt H' d → H' t = some (.tup (refs qs)) → PairsIn H' qs → Ties n (qs.map (·.2)) → Q (.ref t) H'
section
variable {P : Program} {w : World} {K : PySem.W.Frag} {mg : Str → Option Value} {base : Heap} {f f1 f2 f3 f4 C fs : Addr} {fd fd1 fd2 fd3 fd4 fds : FuncData}
abbrev nDrawn : List Str := ["_law_dice_here", "_law_many", "_law_pairs_here", "_law_left", "_law_found", "_law_known", "_law_turn", "_law_pair", "_law_fitting", "_law_more", "_law_content"]
theorem scDrawn : FnScope nDrawn ["_law_dice_here", "_law_many", "_law_pairs_here"] (defScope sDrawn) := ⟨rfl, rfl, rfl, by decide +kernel, rfl, by decide +kernel, by decide +kernel⟩
theorem ok_drawn (F : Dfn K mg "_law_drawn_ties" sDrawn ["_law_dice_here", "_law_many", "_law_pairs_here"] f fd) (T : Txt mg) (c1 : Cal P w K mg base 1 "_law_draw" ["_law_dice_here", "_law_sides"] spDraw f1 fd1) :
    Cal P w K mg base 2 "_law_drawn_ties" ["_law_dice_here", "_law_many", "_law_pairs_here"] spDrawn f fd := by
  refine F.cal (F.fn.ok scDrawn (fun vs H Q E h => ?_) (fun cdv A outer s H vs Q E hr h => ?_))
  · obtain ⟨d, l, n, ps, rfl, _⟩ := h
    rfl
  · obtain ⟨d, l, n, ps, rfl, hd, hn1, hn8, hl, hP, hA, k⟩ := h
    have nd := scDrawn.nd
    have hu : (A.deeper (PyProof.Rows.envOfC "_law_drawn_ties" (defScope sDrawn) s.heap.objs.size f cdv)).units + 65 < cLine := by
      have := hr.un
      omega
    have hpl := hA.len hn8
    rw [List.length_map] at hpl
    refine ⟨_, pss_cons (ps_set (i := 3) nd rfl (Or.inl rfl) (pe_callTy call_list_of (by rfl) T.list b_list (pa_cons (pv 2) pa_nil)))
      (pss_cons (ps_set (i := 4) nd rfl (Or.inr rfl) (pe_lst pa_nil))
      (pss_cons (ps_set (i := 5) nd rfl (Or.inr rfl) (pe_lst (pa_cons pe_int pa_nil)))
      (pss_cons (ps_for PassesOwn.never rfl (pi_range1 (by rfl) T.range (pa_cons (pe_op op_sub (pv 1) pe_int) pa_nil)) (pg_name (i := 6) nd rfl (Or.inl rfl))
        (pss_cons (ps_setLc (i := 8) (own := [("_law_pair", 7)]) (g := gName 7) rfl nd rfl rfl (sw_true rfl rfl rfl (by decide +kernel)) (pi_list (pv 3)) (blkOk_by (N := nDrawn) (sc := defScope sDrawn) (by decide +kernel)) (fun _ _ _ _ _ => pg_name (i := 7) nd rfl (Or.inl rfl))
          (fun _ _ _ _ _ => pts_one (pt_cmpR op_ne (pe_cmpR (r := rIn K false) op_in_seq (pe_ix (r := rIxT K) ix_tup (pv 7) pe_int (fun _ _ => rfl)) (pv 5) (by rfl)) (pe_cmpR (r := rIn K false) op_in_seq (pe_ix (r := rIxT K) ix_tup (pv 7) pe_int (fun _ _ => rfl)) (pv 5) (by rfl)) (nomark _)))
          (fun _ _ _ _ _ => pv 7))
        (pss_cons (ps_if (pt_cmpR op_eq (pe_callB call_len_seq (by rfl) T.len b_len (pa_cons (pv 8) pa_nil)) pe_int (nomark _)) (pss_one ps_never) pss_nil)
        (pss_cons (ps_set (i := 7) nd rfl (Or.inl rfl) (pe_ix ix_list (pv 8) (pe_call c1.ok hr (by rfl) c1.at_ c1.kp c1.b .nil pass0 (pa_cons (pv 0) (pa_cons (pe_callB call_len_seq (by rfl) T.len b_len (pa_cons (pv 8) pa_nil)) pa_nil))) (fun _ _ => rfl)))
        (pss_cons (ps_expr (pe_bm PySem.F.plainAttrs_list PySem.F.slot_list_extend PySem.F.type_list_extend mt_extend (pv 5) (pa_cons
          (pe_lc (own := [("_law_content", 10)]) (g := gName 10) rfl nd (pi_tup (pv 7)) (blkOk_by (N := nDrawn) (sc := defScope sDrawn) (by decide +kernel)) (fun _ _ _ _ _ => pg_name (i := 10) nd rfl (Or.inl rfl))
            (fun _ _ _ _ _ => pts_one (pt_cmpR (r := rIn K true) op_notIn_seq (pv 10) (pv 5) (by rfl))) (fun _ _ _ _ _ => pv 10)) pa_nil)))
        (pss_one (ps_expr (pe_bm PySem.F.plainAttrs_list PySem.F.slot_list_append PySem.F.type_list_append mt_append (pv 4) (pa_cons (pv 7) pa_nil)))))))))
      (pss_cons (ps_setLc (i := 9) (own := [("_law_pair", 7)]) (g := gName 7) rfl nd rfl rfl (sw_true rfl rfl rfl (by decide +kernel)) (pi_list (pv 3)) (blkOk_by (N := nDrawn) (sc := defScope sDrawn) (by decide +kernel)) (fun _ _ _ _ _ => pg_name (i := 7) nd rfl (Or.inl rfl))
          (fun _ _ _ _ _ => pts_one (PW.pt (pw_and (pt_cmpR (r := rNotInD K) (op_notInD hu) (pv 7) (pv 4) (by rfl)) (pw_and1 (pt_cmpR op_eq (pe_call c1.ok hr (by rfl) c1.at_ c1.kp c1.b .nil pass0 (pa_cons (pv 0) (pa_cons pe_int pa_nil))) pe_int (nomark _))))))
          (fun _ _ _ _ _ => pv 7))
      (pss_one (ps_ret (pe_callTy call_tupL (by rfl) T.tuple b_tuple (pa_cons (pe_callB cr_sortedPO (by rfl) T.sorted b_sorted (pa_cons (pe_op op_cat (pv 4) (pv 9)) pa_nil)) pa_nil)))))))), ?_⟩
    refine ⟨_, rfl, l, _, rfl, .inl (SqL.of hl), fun L hL => ?_⟩
    refine ⟨Nat.zero_le _, fun D hD => ?_⟩
    refine ⟨by show 1 ≤ sizeLine; decide, fun Kn hKn => ?_⟩
    have hD0 : H D = none := (Same.new hL).free hD
    have hK0 : H Kn = none := ((Same.new hL).trans (Same.new hD)).free hKn
    have nLD : L ≠ D := ne_of_none upd_same hD
    have nDK : D ≠ Kn := ne_of_none upd_same hKn
    have nLK : L ≠ Kn := ne_of_none (by rw [upd_ne nLD, upd_same]) hKn
    have nLa := hd.not_free hL
    have nDa := hd.not_free hD0
    have nKa := hd.not_free hK0
    have s0 : L2.Same H (upd (upd (upd H L (.lst (refs ps))) D (.lst [])) Kn (.lst [vN 0])) := ((Same.new hL).trans (Same.new hD)).trans (Same.new hKn)
    refine ⟨_, rfl, n, 1, rfl, rfl, _, rfl, by omega, by omega, ?_⟩
    have e0 : ((n : Int) - 1).toNat = n - 1 := by omega
    rw [e0]
    refine for_range (lo := 0) (n := n - 1) (fun i σ H' => ∃ (v1 v2 v3 : Option V) (fs : List TP) (ks : List Nat), σ = [some (.ref d.a), some (vN n), some (.ref l), some (.ref L), some (.ref D), some (.ref Kn), v1, v2, v3, none, none] ∧ But d.a H H' ∧ DiceAt H' d ∧
        H' L = some (.lst (refs ps)) ∧ H' D = some (.lst (refs fs)) ∧ H' Kn = some (.lst (vNs ks)) ∧ KI n ps fs ks i)
      ⟨none, none, none, [], [0], rfl, But.of s0, hd.same s0, by rw [upd_ne nLK, upd_ne nLD, upd_same], by rw [upd_ne nDK, upd_same]; rfl, upd_same, ⟨by decide, fun k hk => by rw [List.mem_singleton.mp hk]; omega, rfl, List.nodup_nil, fun p hp => absurd hp (by simp)⟩⟩ ?_ ?_
    · rintro i σ H' hi ⟨v1, v2, v3, fs, ks, rfl, bt, hd', hL', hD', hK', I⟩
      have hP' := hP.but hd bt
      -- fitting
      refine ⟨_, rfl, L, rfl, ⟨_, SqL.of hL'⟩, fun Ft hFt => lcL (l := ps) (g := fun p => V.ref p.1) (p := fitP ks) (R := fun p y _ => y = V.ref p.1) hFt (SqL.of hL') (by omega) (fun _ => rfl) (fun p H2 Q2 hp s2 k2 => ?_) (fun p H2 acc Q2 hp _ s2 _ k2 => ?_) fun ys H2 s2 hy hr2 => ?_⟩
      · have h1 := s2 _ _ (hP' p hp)
        have h2 := s2 _ _ hK'
        refine ⟨_, rfl, p.1, _, 0, vN p.2.1, rfl, rfl, SqT.of h1, rfl, _, rfl, Kn, _, rfl, .inl (SqL.of h2), rfl, flat_vNs ks, ?_⟩
        exact ⟨_, rfl, p.1, _, 1, vN p.2.2, rfl, rfl, SqT.of h1, rfl, _, rfl, Kn, _, rfl, .inl (SqL.of h2), rfl, flat_vNs ks, rfl, _, rfl, k2 _ (L2.Same.refl _)⟩
      · exact ⟨_, rfl, k2 _ _ (L2.Same.refl _) fun _ _ => rfl⟩
      rw [pr_map (f := fun p : TP => V.ref p.1) hr2] at hy
      obtain ⟨p0, hp0, hf0⟩ := I.fit (by omega) hA
      have hne : 0 < (ps.filter (fitP ks)).length := List.length_pos_of_mem (List.mem_filter.mpr ⟨hp0, hf0⟩)
      have hfl : (ps.filter (fitP ks)).length ≤ 28 := Nat.le_trans (List.length_filter_le _ _) hpl
      have hfit : ∀ p ∈ ps.filter (fitP ks), p ∈ ps ∧ fitP ks p = true := fun p hp => List.mem_filter.mp hp
      generalize ps.filter (fitP ks) = ft at hy hne hfl hfit
      have hFa : Ft ≠ d.a := hd'.not_free hFt
      have hd2 := hd'.same s2
      -- if len(fitting) == 0
      refine ⟨_, rfl, Ft, _, rfl, .inl (SqL.of hy), rfl, _, rfl, iteN (fun e => ?_) ?_⟩
      · have := V.int.inj e
        rw [List.length_map] at this
        omega
      -- pair = fitting[..]
      refine ⟨_, rfl, _, rfl, _, rfl, Ft, _, rfl, .inl (SqL.of hy), d, _, rfl, hd2, by rw [List.length_map]; omega, by rw [List.length_map]; omega, fun z H3 hz b3 hd3 => ?_⟩
      rw [List.length_map] at hz
      obtain ⟨p, hpz⟩ := get_lt (l := ft) rfl (show z < ft.length by omega)
      obtain ⟨hp, hpf⟩ := hfit p (List.mem_of_getElem? hpz)
      have hpl2 := (hA.mem p.2).mp (List.mem_map.mpr ⟨p, hp, rfl⟩)
      have btot : But d.a H H3 := (bt.trans (But.of s2)).trans b3
      have hy3 := b3.at_ hFa hy
      have hL3 := b3.at_ nLa (s2 _ _ hL')
      have hD3 := b3.at_ nDa (s2 _ _ hD')
      have hK3 := b3.at_ nKa (s2 _ _ hK')
      have hP3 := hP.but hd btot
      refine ⟨Ft, _, _, .ref p.1, rfl, rfl, SqL.of hy3, atI_nat (by rw [List.getElem?_map, hpz]; rfl), ?_⟩
      -- known.extend
      have hpt : SqT K H3 p.1 ([p.2.1, p.2.2].map vN) := SqT.of (hP3 p hp)
      refine ⟨_, rfl, .inl ⟨rfl, _, SqL.of hK3⟩, _, rfl, p.1, rfl, ⟨_, hpt⟩, fun X hX => lcT (l := [p.2.1, p.2.2]) (g := vN) (p := fun c => !inV (vN c) (vNs ks)) (R := fun c y _ => y = vN c) hX hpt (by show 2 ≤ 10000000; decide) (fun _ => rfl) (fun c H4 Q4 hc s4 k4 => ?_) (fun c H4 acc Q4 hc _ s4 _ k4 => ?_) fun ys4 H4 s4 hy4 hr4 => ?_⟩
      · exact ⟨_, rfl, _, rfl, Kn, _, rfl, .inl (SqL.of (s4 _ _ hK3)), rfl, flat_vNs ks, _, rfl, k4 _ (L2.Same.refl _)⟩
      · exact ⟨_, rfl, k4 _ _ (L2.Same.refl _) fun _ _ => rfl⟩
      rw [pr_map (f := vN) hr4] at hy4
      have I2 := I.step hp hpf hpl2
      have l2 := I2.len
      rw [List.length_append, I.len] at l2
      have hK4 := s4 _ _ hK3
      have nKX : Kn ≠ X := ne_of_none hK3 hX
      have hkl := nodup_le I.nd I.lt
      refine ⟨Kn, X, _, _, rfl, rfl, hK4, hy4, by rw [List.length_map, List.length_map]; exact sz (by omega), ?_⟩
      have hD5 : (upd H4 Kn (.lst (vNs ks ++ ([p.2.1, p.2.2].filter fun c => !inV (vN c) (vNs ks)).map vN))) D = some (.lst (refs fs)) := by
        rw [upd_ne nDK]
        exact s4 _ _ hD3
      have hfl2 : fs.length ≤ 28 := by
        have q := pairs_len I.fnd (fun q hq => by
          obtain ⟨r, hr2, er⟩ := List.mem_map.mp hq
          rw [← er]
          exact (hA.mem r.2).mp (List.mem_map.mpr ⟨r, (I.sub r hr2).1, rfl⟩)) hn8
        rw [List.length_map] at q
        exact q
      refine ⟨_, rfl, .inl ⟨rfl, _, SqL.of hD5⟩, _, rfl, D, _, _, rfl, rfl, hD5, by rw [List.length_map]; exact szl (by omega), ?_⟩
      refine ⟨_, _, _, fs ++ [p], _, rfl, Same.mut (Same.mut (btot.trans (But.of s4)) (by rw [off_ne nKa]; exact hK0)) (by rw [off_ne nDa]; exact hD0), ((hd3.same s4).upd nKa (hd.not_freeL hK0)).upd nDa (hd.not_freeL hD0),
        by rw [upd_ne nLD, upd_ne nLK]; exact s4 _ _ hL3, by rw [upd_same, refs_append]; rfl, by rw [upd_ne nDK.symm, upd_same, ← List.map_append], I2⟩
    · rintro σ H' ⟨v1, v2, v3, fs, ks, rfl, bt, hd', hL', hD', hK', I⟩
      have hP' := hP.but hd bt
      have hfs : PairsIn H' fs := hP'.sub fun p hp => (I.sub p hp).1
      -- more
      refine ⟨_, rfl, L, rfl, ⟨_, SqL.of hL'⟩, fun M hM => ?_⟩
      have nMa := hd'.not_free hM
      have nLM : L ≠ M := ne_of_none hL' hM
      have nDM : D ≠ M := ne_of_none hD' hM
      refine lc_list (K := K) (a := L) (xs := refs ps) (fun i H2 => But d.a H' H2 ∧ DiceAt H2 d ∧ ∃ ms : List TP, H2 M = some (.lst (refs ms)) ∧ ms.Sublist (ps.take i) ∧ ∀ m ∈ ms, m.2 ∉ fs.map (·.2))
        ⟨But.of (Same.new hM), hd'.same (Same.new hM), [], upd_same, List.nil_sublist _, fun m hm => absurd hm (by simp)⟩ (fun i H2 _ h => SqL.of (h.1.at_ nLa hL')) ?_ ?_
      · rintro i x H2 hx ⟨b2, hd2, ms, hM2, sl, nin⟩
        obtain ⟨p, hp, rfl⟩ := at_map hx
        have hpm : p ∈ ps := List.mem_of_getElem? hp
        have tk := take_at hp
        have sl2 : ms.Sublist (ps.take (i + 1)) := by
          rw [tk]
          exact sl.trans (List.sublist_append_left _ _)
        have hl2 : ms.length ≤ 28 := by
          have q := sl.length_le
          rw [List.length_take] at q
          omega
        have hP2 := hP'.but hd' b2
        have hfs2 := hfs.but hd' b2
        have hD2 := b2.at_ nDa hD'
        refine ⟨rfl, _, rfl, _, rfl, pD p.2, (fs.map (·.2)).map pD, dp_pair (hP2 p hpm), .lst (SqL.of hD2) (dp_pairs hfs2), pD_shaped _, pDs_shaped _, _, rfl, ?_⟩
        rw [pD_any]
        by_cases hin : p.2 ∈ fs.map (·.2)
        · rw [decide_eq_true hin]
          exact iteF (iteF ⟨b2, hd2, ms, hM2, sl2, nin⟩)
        · rw [decide_eq_false hin]
          refine iteT ⟨_, rfl, d, 2, rfl, hd2, by decide, by decide, fun z H3 hz b3 hd3 => ⟨rfl, _, rfl, ?_⟩⟩
          have hM3 := b3.at_ nMa hM2
          refine ite2 (fun _ => ?_) (fun _ => ⟨b2.trans b3, hd3, ms, hM3, sl2, nin⟩)
          refine ⟨_, rfl, _, hM3, by rw [List.length_map]; exact szl (by omega), Same.mut (b2.trans b3) (by rw [off_ne nMa]; exact hM), hd3.upd nMa (hd'.not_freeL hM), ms ++ [p], by rw [upd_same, refs_append]; rfl, ?_, fun m hm => ?_⟩
          · rw [tk]
            exact sl.append (List.Sublist.refl _)
          · rcases List.mem_append.mp hm with q | q
            · exact nin m q
            · rw [List.mem_singleton.mp q]
              exact hin
      · rintro H2 ⟨b2, hd2, ms, hM2, sl, nin⟩
        have sl' : ms.Sublist ps := sl.trans (List.take_sublist _ _)
        have bt2 := bt.trans b2
        have hP2 := hP.but hd bt2
        have hall : ∀ p ∈ fs ++ ms, p ∈ ps := fun p hp => (List.mem_append.mp hp).elim (fun q => (I.sub p q).1) fun q => sl'.subset q
        have ndm : ((fs ++ ms).map (·.2)).Nodup := by
          rw [List.map_append]
          refine List.nodup_append.mpr ⟨I.fnd, (sl'.map _).nodup hA.nd, fun a ha b hb e => ?_⟩
          obtain ⟨m, hm, em⟩ := List.mem_map.mp hb
          rw [e, ← em] at ha
          exact nin m hm ha
        have hD2 := b2.at_ nDa hD'
        have hml : ms.length ≤ 28 := Nat.le_trans sl'.length_le hpl
        have hfl2 : fs.length ≤ 28 := by
          have q := pairs_len I.fnd (fun q hq => by
            obtain ⟨r, hr2, er⟩ := List.mem_map.mp hq
            rw [← er]
            exact (hA.mem r.2).mp (List.mem_map.mpr ⟨r, (I.sub r hr2).1, rfl⟩)) hn8
          rw [List.length_map] at q
          exact q
        refine ⟨_, rfl, _, rfl, D, M, _, _, rfl, rfl, hD2, hM2, by rw [List.length_map, List.length_map]; exact sz (by omega), fun X hX => ?_⟩
        have s3 : L2.Same H2 (upd H2 X (.lst (refs fs ++ refs ms))) := Same.new hX
        have hP3 : PairsIn (upd H2 X (.lst (refs fs ++ refs ms))) (fs ++ ms) := (hP2.sub hall).same s3
        refine ⟨X, refs (fs ++ ms), kP (upd H2 X (.lst (refs fs ++ refs ms))), rfl, SqL.of (by rw [upd_same, refs_append]), fun x hx => ?_, fun ys Y srt stb hY => ?_⟩
        · obtain ⟨p, hp, rfl⟩ := List.mem_map.mp hx
          rw [kP_at (hP3 p hp)]
          exact ⟨p.1, rfl, hP3 p hp⟩
        · obtain ⟨qs, pq, eq⟩ := perm_back stb.perm
          subst eq
          refine ⟨Y, _, rfl, SqL.of upd_same, fun t ht => ?_⟩
          have hPq : PairsIn (upd H2 X (.lst (refs fs ++ refs ms))) qs := hP3.sub fun p hp => pq.mem_iff.mp hp
          have s4 : L2.Same (upd H2 X (.lst (refs fs ++ refs ms))) (upd (upd (upd H2 X (.lst (refs fs ++ refs ms))) Y (.lst (refs qs))) t (.tup (refs qs))) := (Same.new hY).trans (Same.new ht)
          refine k t qs _ (bt2.trans (But.of (s3.trans s4))) (hd2.same (s3.trans s4)) upd_same (hPq.same s4) (ties_sorted hPq ((pq.map (·.2)).nodup_iff.mpr ndm) (fun p hp => ?_) srt)
          obtain ⟨r, hr2, er⟩ := List.mem_map.mp hp
          rw [← er]
          exact (hA.mem r.2).mp (List.mem_map.mpr ⟨r, hall r (pq.mem_iff.mp hr2), rfl⟩)

def spLBook : Sp := fun vs H Q _ => ∃ (d : Dc) (m : Nat), vs = [.ref d.a, vN m] ∧ DiceAt H d ∧ 1 ≤ m ∧ m ≤ 8 ∧
  ∀ r n t qs H', But d.a H H' → DiceAt H' d → 1 ≤ n → n ≤ m → H' r = some (.tup [vN n, .ref t]) → H' t = some (.tup (refs qs)) → PairsIn H' qs → Ties n (qs.map (·.2)) → Q (.ref r) H'
abbrev nLBook : List Str := ["_law_dice_here", "_law_most", "_law_many"]
theorem scLBook : FnScope nLBook ["_law_dice_here", "_law_most"] (defScope sLBook) := ⟨rfl, rfl, rfl, by decide +kernel, rfl, by decide +kernel, by decide +kernel⟩
theorem ok_lbook (F : Dfn K mg "_law_book" sLBook ["_law_dice_here", "_law_most"] f fd) (c1 : Cal P w K mg base 1 "_law_draw" ["_law_dice_here", "_law_sides"] spDraw f1 fd1)
    (c2 : Cal P w K mg base 2 "_law_drawn_ties" ["_law_dice_here", "_law_many", "_law_pairs_here"] spDrawn f2 fd2) (c3 : Cal P w K mg base 2 "_law_mixed" ["_law_dice_here", "_law_items"] spMixed f3 fd3) (c4 : Cal P w K mg base 1 "_law_pairs" ["_law_size"] spLPairs f4 fd4) :
    Cal P w K mg base 3 "_law_book" ["_law_dice_here", "_law_most"] spLBook f fd := by
  refine F.cal (F.fn.ok scLBook (fun vs H Q E h => ?_) (fun cdv A outer s H vs Q E hr h => ?_))
  · obtain ⟨d, m, rfl, _⟩ := h
    rfl
  · obtain ⟨d, m, rfl, hd, h1, h8, k⟩ := h
    have nd := scLBook.nd
    refine ⟨_, pss_cons (ps_set (i := 2) nd rfl (Or.inl rfl) (pe_op op_add pe_int (pe_call c1.ok (hr.mono (by decide)) (by rfl) c1.at_ c1.kp c1.b .nil pass0 (pa_cons (pv 0) (pa_cons (pv 1) pa_nil)))))
      (pss_one (ps_ret (pe_tup (pa_cons (pv 2) (pa_cons (pe_call c2.ok hr (by rfl) c2.at_ c2.kp c2.b .nil pass0 (pa_cons (pv 0) (pa_cons (pv 2) (pa_cons
        (pe_call c3.ok hr (by rfl) c3.at_ c3.kp c3.b .nil pass0 (pa_cons (pv 0) (pa_cons (pe_call c4.ok (hr.mono (by decide)) (by rfl) c4.at_ c4.kp c4.b .nil pass0 (pa_cons (pv 2) pa_nil)) pa_nil))) pa_nil)))) pa_nil))))), ?_⟩
    refine ⟨_, rfl, _, rfl, d, m, rfl, hd, by omega, by omega, fun z H1 hz b1 hd1 => ⟨1, z, rfl, rfl, ?_⟩⟩
    have ez : ((1 : Int) + (z : Int)) = ((z + 1 : Nat) : Int) := by omega
    have hzm : z + 1 ≤ m := by omega
    refine ⟨vN (z + 1), congrArg (fun x => some (some (V.int x))) ez, _, rfl, vN (z + 1), congrArg (fun x => some (some (V.int x))) ez, _, rfl, vN (z + 1), congrArg (fun x => some (some (V.int x))) ez, z + 1, rfl, by omega, fun p ps H2 s2 hp hP hA => ?_⟩
    have hd2 := hd1.same s2
    have hpl := hA.len (by omega)
    rw [List.length_map] at hpl
    refine ⟨d, p, ps, rfl, hd2, hp, hP, by omega, fun p3 qs H3 b3 hd3 hp3 hP3 pm => ?_⟩
    refine ⟨d, p3, z + 1, qs, rfl, hd3, by omega, by omega, hp3, hP3, hA.perm (pm.map _), fun t us H4 b4 hd4 ht hP4 hT => ?_⟩
    refine ⟨by show 2 ≤ sizeLine; decide, fun r hr2 => ?_⟩
    have s5 : L2.Same H4 (upd H4 r (.tup [vN (z + 1), .ref t])) := Same.new hr2
    exact k r (z + 1) t us _ ((((b1.trans (But.of s2)).trans b3).trans b4).trans (But.of s5)) (hd4.same s5) (by omega) hzm upd_same (s5 _ _ ht) (hP4.same s5) hT
end
end K87

/-! _law_piece, _law_ways, _law_orders -/
namespace K87
open PySem L2
def Reach (g : Nat → List Nat) (v : Nat) : Prop := ∃ p, Walk g 0 p v
theorem Reach.next {g : Nat → List Nat} {v u : Nat} (h : Reach g v) (hu : u ∈ g v) : Reach g u := by
  obtain ⟨p, hp⟩ := h
  exact ⟨p ++ [u], walk_snoc.mpr ⟨v, hp, hu, rfl⟩⟩
def spPiece : Sp := fun vs H Q _ => ∃ (L I : Addr) (rs : List Addr) (n : Nat) (g : Nat → List Nat), vs = [.ref L, .ref I, vN 0] ∧ LstRows H L rs n g ∧ H I = some (.lst (vNs (List.range n))) ∧ Gr n g ∧ 0 < n ∧ n ≤ 8 ∧
  ∀ t ks H', L2.Same H H' → H' t = some (.tup (vNs ks)) → ks.Nodup → (∀ k ∈ ks, k < n ∧ Reach g k) → Q (.ref t) H'
def spOrders : Sp := fun vs H Q _ => ∃ (t : Addr) (cs : List Nat), vs = [.ref t] ∧ H t = some (.tup (vNs cs)) ∧ cs.length ≤ 40 ∧ ∀ l es H', L2.Same H H' → OrdsAt H' l es cs → Q (.ref l) H'
/-! ### tuples of contents as they stand -/
abbrev TW := Addr × List Nat
abbrev wrefs (zs : List TW) : List V := zs.map fun z => V.ref z.1
def WaysIn (H : Hp) (zs : List TW) : Prop := ∀ z ∈ zs, H z.1 = some (.tup (vNs z.2))
theorem WaysIn.same {H H' : Hp} {zs : List TW} (h : WaysIn H zs) (s : L2.Same H H') : WaysIn H' zs := fun z hz => s _ _ (h z hz)
theorem mk_ws {α : Type} {H : Hp} (h : α → List Nat) : ∀ {l : List α} {rs : List Addr}, Paired (fun x r => H r = some (.tup (vNs (h x)))) l rs → ∃ zs : List TW, rs.map V.ref = wrefs zs ∧ zs.map (·.2) = l.map h ∧ WaysIn H zs
  | _, _, .nil => ⟨[], rfl, rfl, fun p hp => absurd hp (by simp)⟩
  | _, _, .cons (a := x) (b := r) e t => by
    obtain ⟨zs, h1, h2, h3⟩ := mk_ws h t
    refine ⟨(r, h x) :: zs, by rw [List.map_cons, h1]; rfl, by rw [List.map_cons, List.map_cons, h2], fun p hp => ?_⟩
    rcases List.mem_cons.mp hp with q | q
    · rw [q]
      exact e
    · exact h3 p q
theorem flat_len {g : Nat → List Nat} {m : Nat} (hg : ∀ i, (g i).length ≤ m) : ∀ l : List (List Nat), (l.flatMap (ext g)).length ≤ l.length * m
  | [] => by simp
  | a :: l => by
    have ih := flat_len hg l
    rw [List.flatMap_cons, List.length_append, List.length_cons, Nat.add_mul, Nat.one_mul]
    have h2 : (ext g a).length ≤ m := by
      unfold ext
      rw [List.length_map]
      exact Nat.le_trans (List.length_filter_le _ _) (hg _)
    omega
theorem flat_snoc {g : Nat → List Nat} (l : List (List Nat)) (a : List Nat) : (l ++ [a]).flatMap (ext g) = l.flatMap (ext g) ++ ext g a := by
  rw [List.flatMap_append]
  simp
theorem asc_len {n : Nat} {g : Nat → List Nat} (G : Gr n g) (i : Nat) : (g i).length ≤ n :=
  nodup_le ((G.asc i).imp fun {a b} h => Nat.ne_of_lt h) fun v hv => G.lt i v hv
theorem last_snoc {a : List Nat} (h : a ≠ []) : a = a.dropLast ++ [a.getLastD 0] := by
  have e := (List.dropLast_concat_getLast h).symm
  cases a with
  | nil => exact absurd rfl h
  | cons x r => exact e
theorem at_lastN {a : List Nat} (h : a ≠ []) : atI (vNs a) (-1) = some (vN (a.getLastD 0)) := by
  have e := last_snoc h
  generalize a.getLastD 0 = x at e ⊢
  generalize a.dropLast = r at e
  subst e
  rw [vNs_snoc]
  exact atI_last _ _
theorem cut_tail {a : List Nat} (h : a ≠ []) : ¬ (HT.sIx (vNs a).length 0 (some 1) = 0 ∧ HT.sIx (vNs a).length (vNs a).length none = (vNs a).length) ∧ cutV (vNs a) (some 1) none = vNs a.tail := by
  cases a with
  | nil => exact absurd rfl h
  | cons x r =>
    have e : HT.sIx (vNs (x :: r)).length 0 (some 1) = 1 := by
      have q := HT.sIx_nat (vNs (x :: r)).length 0 1
      rw [show ((1 : Nat) : Int) = (1 : Int) from rfl] at q
      rw [q, List.length_map]
      show min 1 (r.length + 1) = 1
      omega
    refine ⟨fun z => by rw [e] at z; omega, ?_⟩
    unfold cutV
    rw [e]
    show (vNs r).take ((vNs r).length + 1 - 1) = vNs r
    exact List.take_of_length_le (by omega)
/-- the numbers of the tuple that stands at a value -/
def numV (v : V) : Int := match v with
  | .int i => i
  | _ => 0
def kT (H : Hp) (v : V) : List Int := match v with
  | .ref r => match H r with
    | some (.tup xs) => xs.map numV
    | _ => []
  | _ => []
theorem kT_at {H : Hp} {z : TW} (h : H z.1 = some (.tup (vNs z.2))) : kT H (.ref z.1) = z.2.map fun n : Nat => (n : Int) := by
  show (match H z.1 with
    | some (.tup xs) => xs.map numV
    | _ => []) = _
  rw [h]
  show (vNs z.2).map numV = _
  rw [List.map_map]
  rfl
def spWays : Sp := fun vs H Q _ => ∃ (L : Addr) (rs : List Addr) (n u z : Nat) (g : Nat → List Nat) (fs : List (Nat × Nat)), vs = [.ref L, vN u, vN z, vN n] ∧ LstRows H L rs n g ∧ Gr n g ∧ n ≤ 8 ∧ u < n ∧ Far n g z fs ∧ u ∈ fs.map (·.1) ∧
  ∀ S r xs H', L2.Same H H' → H' S = some (.lst (.ref r :: xs)) → H' r = some (.tup (vNs (told g fs (dist fs u) u))) → Q (.ref S) H'
section
variable {P : Program} {w : World} {K : PySem.W.Frag} {mg : Str → Option Value} {base : Heap} {f f1 f2 f3 f4 C : Addr} {fd fd1 fd2 fd3 fd4 : FuncData}
abbrev nPiece : List Str := ["_law_rows_here", "_law_inside", "_law_start", "_law_found", "_law_waiting", "_law_fresh", "_law_there"]
theorem scPiece : FnScope nPiece ["_law_rows_here", "_law_inside", "_law_start"] (defScope sPiece) := ⟨rfl, rfl, rfl, by decide +kernel, rfl, by decide +kernel, by decide +kernel⟩
theorem ok_piece (F : Dfn K mg "_law_piece" sPiece ["_law_rows_here", "_law_inside", "_law_start"] f fd) (T : Txt mg) : Cal P w K mg base 1 "_law_piece" ["_law_rows_here", "_law_inside", "_law_start"] spPiece f fd := by
  refine F.cal (F.fn.ok scPiece (fun vs H Q E h => ?_) (fun cdv A outer s H vs Q E hr h => ?_))
  · obtain ⟨L, I, rs, n, g, rfl, _⟩ := h
    rfl
  · obtain ⟨L, I, rs, n, g, rfl, hR, hI, G, h0, h8, k⟩ := h
    have nd := scPiece.nd
    refine ⟨_, pss_cons (ps_set (i := 3) nd rfl (Or.inr rfl) (pe_lst (pa_cons (pv 2) pa_nil)))
      (pss_cons (ps_set (i := 4) nd rfl (Or.inl rfl) (pe_lst (pa_cons (pv 2) pa_nil)))
      (pss_cons (ps_while PassesOwn.never (pt_cmpR op_gt (pe_callB call_len_seq (by rfl) T.len b_len (pa_cons (pv 4) pa_nil)) pe_int (nomark _))
        (pss_cons (ps_setLc (i := 5) (own := [("_law_there", 6)]) (g := gName 6) rfl nd rfl rfl (sw_true rfl rfl rfl (by decide +kernel))
            (pi_list (pe_ix ix_list (pv 0) (pe_bm0 PySem.F.plainAttrs_list PySem.F.slot_list_pop PySem.F.type_list_pop mt_pop (pv 4)) (fun _ _ => rfl)))
            (blkOk_by (N := nPiece) (sc := defScope sPiece) (by decide +kernel)) (fun _ _ _ _ _ => pg_name (i := 6) nd rfl (Or.inl rfl))
            (fun _ _ _ _ _ => pts_one (PW.pt (pw_and (pt_cmpR (r := rIn K false) op_in_seq (pv 6) (pv 1) (by rfl)) (pw_and1 (pt_cmpR (r := rIn K true) op_notIn_seq (pv 6) (pv 3) (by rfl))))))
            (fun _ _ _ _ _ => pv 6))
        (pss_cons (ps_expr (pe_bm PySem.F.plainAttrs_list PySem.F.slot_list_extend PySem.F.type_list_extend mt_extend (pv 3) (pa_cons (pv 5) pa_nil)))
        (pss_one (ps_expr (pe_bm PySem.F.plainAttrs_list PySem.F.slot_list_extend PySem.F.type_list_extend mt_extend (pv 4) (pa_cons (pv 5) pa_nil)))))))
      (pss_one (ps_ret (pe_callTy call_tupL (by rfl) T.tuple b_tuple (pa_cons (pe_callB cr_sorted (by rfl) T.sorted b_sorted (pa_cons (pv 3) pa_nil)) pa_nil)))))), ?_⟩
    refine ⟨_, rfl, by show 1 ≤ sizeLine; decide, fun Fa hF => ?_⟩
    refine ⟨_, rfl, by show 1 ≤ sizeLine; decide, fun D hD => ?_⟩
    have hD0 : H D = none := (Same.new hF).free hD
    have nFD : Fa ≠ D := ne_of_none upd_same hD
    refine ⟨fun m σ H2 => ∃ ks td v, σ = [some (.ref L), some (.ref I), some (vN 0), some (.ref Fa), some (.ref D), v, none] ∧ L2.Same H H2 ∧ H2 Fa = some (.lst (vNs ks)) ∧ H2 D = some (.lst (vNs td)) ∧ ks.Nodup ∧ (∀ k ∈ ks, k < n ∧ Reach g k) ∧ (∀ k ∈ td, k ∈ ks) ∧ m = 2 * (n - ks.length) + td.length ∧ m ≤ 100,
      ⟨_, [0], [0], none, rfl, (Same.new hF).trans (Same.new hD), by rw [upd_ne nFD, upd_same]; rfl, upd_same, by decide, fun k hk => by rw [List.mem_singleton.mp hk]; exact ⟨h0, [], rfl⟩, fun k hk => hk, rfl, by show 2 * (n - 1) + 1 ≤ 100; omega⟩, ?_⟩
    rintro m σ H2 ⟨ks, todo, v, rfl, s2, hF2, hD2, knd, kre, sub, em, em2⟩
    have kl := nodup_le knd fun x hx => (kre x hx).1
    refine ⟨_, rfl, D, _, rfl, .inl (SqL.of hD2), _, _, rfl, rfl, _, rfl, ?_⟩
    rw [List.length_map]
    rcases List.eq_nil_or_concat todo with e | ⟨td, x, e⟩
    · subst e
      refine iteN (by simp) ⟨_, rfl, Fa, ks.map (fun n : Nat => (n : Int)), rfl, SqL.of (by rw [hF2, vNs_ints]), by rw [List.length_map]; omega, fun zs q pm ps hq => ?_⟩
      obtain ⟨l2, e2, _, pm2⟩ := sorted_cast pm ps knd
      refine ⟨q, _, rfl, SqL.of upd_same, fun t ht => ?_⟩
      have ez : zs.map V.int = vNs l2 := by
        rw [e2, List.map_map]
        rfl
      refine k t l2 _ ((s2.trans (Same.new hq)).trans (Same.new ht)) (by rw [upd_same, ez]) (pm2.nodup_iff.mpr knd) fun y hy => kre y (pm2.mem_iff.mp hy)
    · rw [List.concat_eq_append] at e
      subst e
      have hxk := sub x (List.mem_append_right _ (List.mem_singleton.mpr rfl))
      have hx := kre x hxk
      refine iteY (by rw [List.length_append]; show (0 : Int) < ((td.length + 1 : Nat) : Int); omega) ?_
      refine ⟨fun σ' H' => ∃ ks' td' v', σ' = [some (.ref L), some (.ref I), some (vN 0), some (.ref Fa), some (.ref D), v', none] ∧ L2.Same H H' ∧ H' Fa = some (.lst (vNs ks')) ∧ H' D = some (.lst (vNs td')) ∧ ks'.Nodup ∧ (∀ k ∈ ks', k < n ∧ Reach g k) ∧ (∀ k ∈ td', k ∈ ks') ∧ 2 * (n - ks'.length) + td'.length < m, ?_, ?_⟩
      · rintro σ' H' ⟨ks', td', v', e1, e2, e3, e4, e5, e6, e7, e8⟩
        exact ⟨_, e8, ks', td', v', e1, e2, e3, e4, e5, e6, e7, rfl, by omega⟩
      rw [vNs_snoc] at hD2
      obtain ⟨rx, gx, hrx⟩ := hR.get hx.1
      have hF3 : (upd H2 D (.lst (vNs td))) Fa = some (.lst (vNs ks)) := by
        rw [upd_ne nFD]
        exact hF2
      have s3 : L2.Same H (upd H2 D (.lst (vNs td))) := Same.mut s2 hD0
      refine ⟨_, rfl, _, rfl, .inl ⟨rfl, _, SqL.of hD2⟩, D, _, vN x, rfl, rfl, hD2, by simp, L, rs.map V.ref, _, _, rfl, rfl, SqL.of (Same.mut s2 hD0 _ _ hR.at_), atI_nat gx, ?_⟩
      rw [List.dropLast_concat]
      have gl := asc_len G x
      refine ⟨rx, rfl, ⟨_, SqL.of (s3 _ _ hrx)⟩, fun X hX => lcL (l := g x) (g := vN) (p := fun c => !inV (vN c) (vNs ks)) (R := fun c y _ => y = vN c) hX (SqL.of (s3 _ _ hrx)) (by omega) (fun _ => rfl) (fun c H4 Q4 hc s4 k4 => ?_) (fun c H4 acc Q4 hc _ s4 _ k4 => ?_) fun ys4 H4 s4 hy4 hr4 => ?_⟩
      · have hcn := G.lt x c hc
        refine ⟨_, rfl, _, rfl, I, _, rfl, .inl (SqL.of (s4 _ _ (s3 _ _ hI))), rfl, flat_vNs _, _, rfl, ?_⟩
        show (if inV (vN c) (vNs (List.range n)) = true then _ else _)
        rw [inV_vN]
        refine iteY (List.mem_range.mpr hcn) ?_
        exact ⟨_, rfl, _, rfl, Fa, _, rfl, .inl (SqL.of (s4 _ _ hF3)), rfl, flat_vNs ks, _, rfl, k4 _ (L2.Same.refl _)⟩
      · exact ⟨_, rfl, k4 _ _ (L2.Same.refl _) fun _ _ => rfl⟩
      rw [pr_map (f := vN) hr4] at hy4
      have hfr : ∀ c ∈ (g x).filter (fun c => !inV (vN c) (vNs ks)), c ∈ g x ∧ c ∉ ks := fun c hc => by
        obtain ⟨q1, q2⟩ := List.mem_filter.mp hc
        rw [inV_vN] at q2
        exact ⟨q1, by simpa using q2⟩
      have hfd : ((g x).filter (fun c => !inV (vN c) (vNs ks))).Nodup := ((G.asc x).filter _).imp fun {a b} h => Nat.ne_of_lt h
      generalize (g x).filter (fun c => !inV (vN c) (vNs ks)) = fr at hy4 hfr hfd
      have knd2 : (ks ++ fr).Nodup := List.nodup_append.mpr ⟨knd, hfd, fun a ha b hb z => (hfr b hb).2 (z ▸ ha)⟩
      have kre2 : ∀ k ∈ ks ++ fr, k < n ∧ Reach g k := fun k hk => by
        rcases List.mem_append.mp hk with q | q
        · exact kre k q
        · exact ⟨G.lt x k (hfr k q).1, hx.2.next (hfr k q).1⟩
      have kl2 := nodup_le knd2 fun x hx => (kre2 x hx).1
      rw [List.length_append] at kl2
      have hF4 := s4 _ _ hF3
      have hD4 : H4 D = some (.lst (vNs td)) := s4 _ _ upd_same
      have nXF : X ≠ Fa := (ne_of_none hF3 hX).symm
      have nXD : X ≠ D := (ne_of_none upd_same hX).symm
      have tl : td.length ≤ 100 := by
        rw [List.length_append, List.length_singleton] at em
        omega
      refine ⟨_, rfl, .inl ⟨rfl, _, SqL.of hF4⟩, _, rfl, Fa, X, _, _, rfl, rfl, hF4, hy4, by rw [List.length_map, List.length_map]; exact sz (by omega), ?_⟩
      have hD5 : (upd H4 Fa (.lst (vNs ks ++ vNs fr))) D = some (.lst (vNs td)) := by
        rw [upd_ne nFD.symm]
        exact hD4
      have hX5 : (upd H4 Fa (.lst (vNs ks ++ vNs fr))) X = some (.lst (vNs fr)) := by
        rw [upd_ne nXF]
        exact hy4
      refine ⟨_, rfl, .inl ⟨rfl, _, SqL.of hD5⟩, _, rfl, D, X, _, _, rfl, rfl, hD5, hX5, by rw [List.length_map, List.length_map]; exact sz (by omega), ks ++ fr, td ++ fr, _, rfl, Same.mut (Same.mut (s3.trans s4) hF) hD0, by rw [upd_ne nFD, upd_same, ← List.map_append], by rw [upd_same, ← List.map_append], knd2, kre2, fun k hk => ?_, ?_⟩
      · rcases List.mem_append.mp hk with q | q
        · exact List.mem_append_left _ (sub k (List.mem_append_left _ q))
        · exact List.mem_append_right _ q
      · rw [List.length_append, List.length_append]
        rw [List.length_append, List.length_singleton] at em
        omega

abbrev nOrders : List Str := ["_law_contents", "_law_content"]
theorem scOrders : FnScope nOrders ["_law_contents"] (defScope sOrders) := ⟨rfl, rfl, rfl, by decide +kernel, rfl, by decide +kernel, by decide +kernel⟩
theorem ok_orders (F : Dfn K mg "_law_orders" sOrders ["_law_contents"] f fd) : Cal P w K mg base 1 "_law_orders" ["_law_contents"] spOrders f fd := by
  refine F.cal (F.fn.ok scOrders (fun vs H Q E h => ?_) (fun cdv A outer s H vs Q E hr h => ?_))
  · obtain ⟨t, cs, rfl, _⟩ := h
    rfl
  · obtain ⟨t, cs, rfl, ht, hl, k⟩ := h
    have nd := scOrders.nd
    refine ⟨_, pss_one (ps_ret (pe_lc (own := [("_law_content", 1)]) (g := gName 1) (tt := tYes) rfl nd (pi_tup (pv 0)) (blkOk_by (N := nOrders) (sc := defScope sOrders) (by decide +kernel)) (fun _ _ _ _ _ => pg_name (i := 1) nd rfl (Or.inl rfl)) (fun _ _ _ _ _ => pts_nil)
      (fun _ _ _ _ _ => pe_tup (pa_cons pe_str (pa_cons (pv 1) pa_nil))))), ?_⟩
    refine ⟨_, rfl, t, rfl, ⟨_, SqT.of ht⟩, fun D hD => lcT (l := cs) (g := vN) (p := fun _ => true) (R := fun c y G => ∃ r, y = V.ref r ∧ isOrd G c r) hD (SqT.of ht) (by omega) (fun _ => rfl) lcT_yes (fun c H2 acc Q2 hc _ s2 hacc k2 => ?_) fun ys H2 s2 hy hr2 => ?_⟩
    · refine ⟨_, rfl, by show 2 ≤ sizeLine; decide, fun q hq => k2 _ _ (Same.new hq) fun G hG => ⟨q, rfl, hG.at_ (fun e => ?_) upd_same⟩⟩
      rw [e, hacc] at hq
      cases hq
    · rw [filter_yes] at hr2
      obtain ⟨es, ee, hes⟩ := pr_refs hr2
      exact k D es H2 s2 ⟨by rw [hy, ee], hes⟩

abbrev nWays : List Str := ["_law_rows_here", "_law_first", "_law_wanted", "_law_most", "_law_found", "_law_turn", "_law_way", "_law_good", "_law_later", "_law_there"]
theorem scWays : FnScope nWays ["_law_rows_here", "_law_first", "_law_wanted", "_law_most"] (defScope sWays) := ⟨rfl, rfl, rfl, by decide +kernel, rfl, by decide +kernel, by decide +kernel⟩
theorem ok_ways (F : Dfn K mg "_law_ways" sWays ["_law_rows_here", "_law_first", "_law_wanted", "_law_most"] f fd) (T : Txt mg) : Cal P w K mg base 1 "_law_ways" ["_law_rows_here", "_law_first", "_law_wanted", "_law_most"] spWays f fd := by
  refine F.cal (F.fn.ok scWays (fun vs H Q E h => ?_) (fun cdv A outer s H vs Q E hr h => ?_))
  · obtain ⟨L, rs, n, u, z, g, fs, rfl, _⟩ := h
    rfl
  · obtain ⟨L, rs, n, u, z, g, fs, rfl, hR, G, h8, hun, Fr, huf, k⟩ := h
    have nd := scWays.nd
    have hdn := dist_lt G Fr huf hun
    have gl := asc_len G
    have pl : ∀ t, t ≤ 7 → (paths g u t).length ≤ 2097152 := fun t ht => by
      refine Nat.le_trans (paths_len (m := 8) (fun i => Nat.le_trans (gl i) h8) t) ?_
      exact Nat.le_trans (Nat.pow_le_pow_right (by decide) ht) (by decide)
    refine ⟨_, pss_cons (ps_set (i := 4) nd rfl (Or.inl rfl) (pe_lst (pa_cons (pe_tup (pa_cons (pv 1) pa_nil)) pa_nil)))
      (pss_cons (ps_for PassesOwn.never rfl (pi_range1 (by rfl) T.range (pa_cons (pv 3) pa_nil)) (pg_name (i := 5) nd rfl (Or.inl rfl))
        (pss_cons (ps_setLc (i := 7) (own := [("_law_way", 6)]) (g := gName 6) rfl nd rfl rfl (sw_true rfl rfl rfl (by decide +kernel)) (pi_list (pv 4)) (blkOk_by (N := nWays) (sc := defScope sWays) (by decide +kernel)) (fun _ _ _ _ _ => pg_name (i := 6) nd rfl (Or.inl rfl))
            (fun _ _ _ _ _ => pts_one (pt_cmpR op_eq (pe_ix (r := rIxT K) ix_tup (pv 6) (pe_un un_neg pe_int) (fun _ _ => rfl)) (pv 2) (nomark _)))
            (fun _ _ _ _ _ => pe_slice (r := rSlT K) sl_tup (pv 6) (po_some pe_int) po_none))
        (pss_cons (ps_if (pt_cmpR op_gt (pe_callB call_len_seq (by rfl) T.len b_len (pa_cons (pv 7) pa_nil)) pe_int (nomark _)) (pss_one (ps_ret (pe_callB cr_sortedTs (by rfl) T.sorted b_sorted (pa_cons (pv 7) pa_nil)))) pss_nil)
        (pss_cons (ps_set (i := 8) nd rfl (Or.inl rfl) (pe_lst pa_nil))
        (pss_cons (ps_for PassesOwn.never rfl (pi_list (pv 4)) (pg_name (i := 6) nd rfl (Or.inr rfl))
          (pss_one (ps_expr (pe_bm PySem.F.plainAttrs_list PySem.F.slot_list_extend PySem.F.type_list_extend mt_extend (pv 8) (pa_cons
            (pe_lc (own := [("_law_there", 9)]) (g := gName 9) rfl nd (pi_list (pe_ix ix_list (pv 0) (pe_ix ix_tup (pv 6) (pe_un un_neg pe_int) (fun _ _ => rfl)) (fun _ _ => rfl))) (blkOk_by (N := nWays) (sc := defScope sWays) (by decide +kernel)) (fun _ _ _ _ _ => pg_name (i := 9) nd rfl (Or.inl rfl))
              (fun _ _ _ _ _ => pts_one (pt_cmpR (r := rIn K true) op_notIn_seq (pv 9) (pv 6) (by rfl)))
              (fun _ _ _ _ _ => pe_op (r := rCatT K) op_catT (pv 6) (pe_tup (pa_cons (pv 9) pa_nil)))) pa_nil)))))
        (pss_one (ps_set (i := 4) nd rfl (Or.inl rfl) (pv 8))))))))
      (pss_one (ps_ret (pe_lst pa_nil)))), ?_⟩
    refine ⟨_, rfl, by show 1 ≤ sizeLine; decide, fun q hq => ⟨by show 1 ≤ sizeLine; decide, fun F0 hF0 => ?_⟩⟩
    have s0 : L2.Same H (upd (upd H q (.tup [vN u])) F0 (.lst [.ref q])) := (Same.new hq).trans (Same.new hF0)
    have nqF : q ≠ F0 := ne_of_none upd_same hF0
    refine ⟨_, rfl, (n : Int), rfl, by omega, by omega, ?_⟩
    have e0 : ((n : Int)).toNat = n := by omega
    rw [e0]
    refine for_range (lo := 0) (n := n) (fun t σ H' => ∃ (F' : Addr) (zs : List TW) (v1 v2 v3 v4 : Option V), σ = [some (.ref L), some (vN u), some (vN z), some (vN n), some (.ref F'), v1, v2, v3, v4, none] ∧ L2.Same H H' ∧ H' F' = some (.lst (wrefs zs)) ∧ WaysIn H' zs ∧ zs.map (·.2) = paths g u t ∧ t ≤ dist fs u)
      ⟨F0, [(q, [u])], none, none, none, none, rfl, s0, upd_same, fun z hz => by rw [List.mem_singleton.mp hz, upd_ne nqF, upd_same]; rfl, rfl, Nat.zero_le _⟩ ?_ ?_
    · rintro t σ H' ht ⟨F', zs, v1, v2, v3, v4, rfl, s', hF', hW, ep, htd⟩
      have ht7 : t ≤ 7 := by omega
      have zl : zs.length ≤ 2097152 := by
        have q := pl t ht7
        rw [← ep, List.length_map] at q
        exact q
      have zne : ∀ y ∈ zs, y.2 ≠ [] := fun y hy => paths_ne (g := g) (u := u) (t := t) (by rw [← ep]; exact List.mem_map.mpr ⟨y, hy, rfl⟩)
      -- good
      refine ⟨_, rfl, F', rfl, ⟨_, SqL.of hF'⟩, fun Ga hGa => lcL (l := zs) (g := fun y => V.ref y.1) (p := fun y => y.2.getLastD 0 == z) (R := fun y v Gh => ∃ r, v = V.ref r ∧ Gh r = some (.tup (vNs y.2.tail))) hGa (SqL.of hF') (by omega) (fun _ => rfl) (fun y H2 Q2 hy s2 k2 => ?_) (fun y H2 acc Q2 hy _ s2 hacc k2 => ?_) fun ys H2 s2 hys hr2 => ?_⟩
      · refine ⟨_, rfl, 1, rfl, y.1, _, -1, _, rfl, rfl, SqT.of (s2 _ _ (hW y hy)), at_lastN (zne y hy), _, rfl, rfl, _, rfl, ?_⟩
        have e : decide (vN (y.2.getLastD 0) = vN z) = (y.2.getLastD 0 == z) := by
          by_cases c : y.2.getLastD 0 = z
          · rw [decide_eq_true (by rw [c]), beq_iff_eq.mpr c]
          · rw [decide_eq_false (fun q => c (by have := V.int.inj q; omega)), beq_eq_false_iff_ne.mpr c]
        rw [e]
        exact k2 _ (L2.Same.refl _)
      · obtain ⟨c1, c2⟩ := cut_tail (zne y hy)
        refine ⟨_, rfl, 1, rfl, y.1, _, rfl, SqT.of (s2 _ _ (hW y hy)), c1, fun r hr3 => k2 _ _ (Same.new hr3) fun Gh hG => ⟨r, rfl, hG.at_ (fun e => ?_) ?_⟩⟩
        · rw [e, hacc] at hr3
          cases hr3
        · rw [upd_same, c2]
      obtain ⟨rs2, er2, hrs2⟩ := pr_refs hr2
      obtain ⟨gs, g1, g2, g3⟩ := mk_ws (fun y : TW => y.2.tail) hrs2
      have eg : gs.map (·.2) = good g u z t := by
        rw [g2]
        unfold good
        rw [← ep, List.filter_map, List.map_map]
        rfl
      rw [er2, g1] at hys
      have s12 := s'.trans s2
      refine ⟨_, rfl, Ga, _, rfl, .inl (SqL.of hys), _, _, rfl, rfl, _, rfl, ?_⟩
      rw [List.length_map]
      by_cases htt : t = dist fs u
      · -- the first level with a way to the wanted one
        have tg := told_good G Fr huf
        rw [← htt, ← eg] at tg
        obtain ⟨g0, hg0, _⟩ := List.mem_map.mp tg
        have gpos := List.length_pos_of_mem hg0
        refine iteY (by omega) ?_
        have hgl : gs.length ≤ 2097152 := by
          have q := congrArg List.length g2
          rw [List.length_map, List.length_map] at q
          rw [q]
          exact Nat.le_trans (List.length_filter_le _ _) zl
        refine ⟨_, rfl, Ga, wrefs gs, kT H2, t, rfl, SqL.of hys, fun h2 => ?_, fun x hx => ?_, fun yy Y pm srt hY => ?_⟩
        · refine Nat.pos_of_ne_zero fun e => ?_
          rw [List.length_map] at h2
          have q := congrArg List.length eg
          rw [List.length_map, e] at q
          have q2 : (good g u z 0).length ≤ 1 := by
            unfold good
            rw [List.length_map]
            exact List.length_filter_le _ _
          omega
        · obtain ⟨y, hy, rfl⟩ := List.mem_map.mp hx
          have hm : y.2 ∈ good g u z t := by
            rw [← eg]
            exact List.mem_map.mpr ⟨y, hy, rfl⟩
          obtain ⟨m1, m2, m3⟩ := mem_good.mp hm
          rw [kT_at (g3 y hy)]
          refine ⟨y.1, rfl, SqT.of (by rw [g3 y hy, vNs_ints]), by rw [List.length_map]; exact m1, fun i hi => ?_⟩
          obtain ⟨c, hc, ec⟩ := List.mem_map.mp hi
          have := walk_lt G m3 c hc
          omega
        · obtain ⟨os, po, eo⟩ := perm_back pm
          subst eo
          have ol := po.length_eq
          match os, po, ol, srt with
          | [], _, ol, _ => exact absurd ol (by rw [List.length_nil]; omega)
          | o :: os, po, _, srt =>
            have ho := po.mem_iff.mp List.mem_cons_self
            have fin : o.2 = told g fs (dist fs u) u := by
              refine told_first (r := os.map (·.2)) G Fr huf (fun y => ?_) fun y hy => ?_
              · rw [← htt, ← eg]
                exact (po.map (·.2)).mem_iff
              · obtain ⟨o2, ho2, e2⟩ := List.mem_map.mp hy
                have h1 := (List.pairwise_cons.mp (List.pairwise_map.mp srt)).1 o2 ho2
                rw [kT_at (g3 o ho), kT_at (g3 o2 (po.mem_iff.mp (List.mem_cons_of_mem _ ho2))), ltI_cast] at h1
                rw [← e2]
                exact h1
            refine k Y o.1 (wrefs os) _ (s12.trans (Same.new hY)) upd_same ?_
            rw [← fin]
            exact Same.new hY _ _ (g3 o ho)
      · have htl : t < dist fs u := by omega
        have g0 := good_none G Fr huf htl
        rw [g0] at eg
        have gz : gs.length = 0 := by
          have q := congrArg List.length eg
          rw [List.length_map] at q
          exact q
        refine iteN (by omega) ⟨Nat.zero_le _, fun La hLa => ?_⟩
        have hF2 := s2 _ _ hF'
        have hW2 := hW.same s2
        have hR2 := hR.same s12
        have fL : H La = none := s12.free hLa
        have s3 : L2.Same H2 (upd H2 La (.lst [])) := Same.new hLa
        refine ⟨_, rfl, F', rfl, ⟨_, SqL.of (s3 _ _ hF2)⟩, for_list (K := K) (a := F') (xs := wrefs zs) (fun j σ' H3 => ∃ (ws : List TW) (v2' v3' : Option V), σ' = [some (.ref L), some (vN u), some (vN z), some (vN n), some (.ref F'), some (V.int (0 + (t : Int))), v2', v3', some (.ref La), none] ∧ L2.Same H2 H3 ∧ H3 La = some (.lst (wrefs ws)) ∧ WaysIn H3 ws ∧ ws.map (·.2) = ((zs.take j).map (·.2)).flatMap (ext g))
          ⟨[], _, _, rfl, s3, upd_same, fun y hy => absurd hy (by simp), rfl⟩ (fun j σ' H3 _ ⟨_, _, _, _, q, _⟩ => SqL.of (q _ _ hF2)) ?_ ?_⟩
        · rintro j x σ' H3 hx ⟨ws, v2', v3', rfl, s4, hL3, hW3, ew⟩
          obtain ⟨y, hy, rfl⟩ := at_map hx
          have hym : y ∈ zs := List.mem_of_getElem? hy
          have hyt := s4 _ _ (hW2 y hym)
          obtain ⟨yne⟩ : y.2 ≠ [] ∧ True := ⟨zne y hym, trivial⟩
          have hlast : y.2.getLastD 0 < n := by
            have hp : y.2 ∈ paths g u t := by
              rw [← ep]
              exact List.mem_map.mpr ⟨y, hym, rfl⟩
            obtain ⟨p, e1, _, _, zz, hz⟩ := (mem_paths t).mp hp
            rw [e1, walk_last hz]
            have q := walk_end hz
            cases p with
            | nil =>
              have e2 : u = zz := hz
              omega
            | cons p0 p1 =>
              have hm : zz ∈ u :: p0 :: p1 := by
                rw [← q]
                exact List.getLast_mem _
              rcases List.mem_cons.mp hm with e | e
              · omega
              · exact walk_lt G hz zz e
          obtain ⟨rl, gll, hrl⟩ := (hR2.same s4).get hlast
          have hL3s := hR2.same s4
          refine ⟨_, rfl, .inl ⟨rfl, _, SqL.of hL3⟩, _, rfl, _, rfl, 1, rfl, y.1, _, -1, _, rfl, rfl, SqT.of hyt, at_lastN yne, L, _, _, _, rfl, rfl, SqL.of hL3s.at_, atI_nat gll, rl, rfl, ⟨_, SqL.of hrl⟩, fun X hX =>
            lcL (l := g (y.2.getLastD 0)) (g := vN) (p := fun c => !y.2.contains c) (R := fun c v Gh => ∃ r, v = V.ref r ∧ Gh r = some (.tup (vNs (y.2 ++ [c])))) hX (SqL.of hrl) (by have := gl (y.2.getLastD 0); omega) (fun _ => rfl) (fun c H5 Q5 hc s5 k5 => ?_) (fun c H5 acc Q5 hc _ s5 hacc k5 => ?_) fun ys5 H5 s5 hys5 hr5 => ?_⟩
          · refine ⟨_, rfl, _, rfl, y.1, _, rfl, .inr (SqT.of (s5 _ _ hyt)), rfl, flat_vNs _, _, rfl, ?_⟩
            have q5 : Q5 (!y.2.contains c) H5 := k5 H5 (L2.Same.refl _)
            have e : (!inV (vN c) (vNs y.2)) = !y.2.contains c := by
              rw [inV_vN]
              congr 1
              by_cases q : c ∈ y.2 <;> simp [q]
            rw [← e] at q5
            exact q5
          · have yl : y.2.length ≤ 9 := by
              have hp : y.2 ∈ paths g u t := by
                rw [← ep]
                exact List.mem_map.mpr ⟨y, hym, rfl⟩
              obtain ⟨p, e1, e2, _⟩ := (mem_paths t).mp hp
              rw [e1, List.length_cons, e2]
              omega
            refine ⟨_, rfl, _, rfl, by show 1 ≤ sizeLine; decide, fun r1 hr1 => ⟨y.1, r1, _, [vN c], rfl, rfl, SqT.of (Same.new hr1 _ _ (s5 _ _ hyt)), SqT.of upd_same, fun e => yne (List.map_eq_nil_iff.mp e), by rw [List.length_map]; exact sz (by show y.2.length + 1 ≤ _; omega), (fun e => by cases e), fun _ r2 hr2' => ?_⟩⟩
            refine k5 _ _ ((Same.new hr1).trans (Same.new hr2')) fun Gh hG => ⟨r2, rfl, hG.at_ (fun e => ?_) ?_⟩
            · have := (Same.new hr1).free hr2'
              rw [e, hacc] at this
              cases this
            · rw [upd_same, vNs_snoc]
          obtain ⟨rs5, er5, hrs5⟩ := pr_refs hr5
          obtain ⟨ns5, n1, n2, n3⟩ := mk_ws (fun c => y.2 ++ [c]) hrs5
          rw [er5, n1] at hys5
          have hL5 := s5 _ _ hL3
          have fL2 : H2 La = none := hLa
          have sizes : ws.length + ns5.length ≤ 10000000 := by
            have q1 := congrArg List.length ew
            rw [List.length_map] at q1
            have q2 := flat_len gl ((zs.take j).map (·.2))
            rw [List.length_map, List.length_take] at q2
            have q3 := congrArg List.length n2
            rw [List.length_map, List.length_map] at q3
            have q4 := List.length_filter_le (fun c => !y.2.contains c) (g (y.2.getLastD 0))
            have q5 := gl (y.2.getLastD 0)
            have q6 : (paths g u (t + 1)).length ≤ 2097152 := pl (t + 1) (by omega)
            have hj := lt_of_at hy
            have q7 : (((zs.take j).map (·.2)).flatMap (ext g)).length ≤ (paths g u (t + 1)).length := by
              show _ ≤ ((paths g u t).flatMap (ext g)).length
              rw [← ep]
              conv => rhs; rw [← List.take_append_drop j zs, List.map_append, List.flatMap_append, List.length_append]
              omega
            omega
          refine ⟨La, X, _, _, rfl, rfl, hL5, hys5, by rw [List.length_map, List.length_map]; exact sz sizes, ws ++ ns5, _, _, rfl, Same.mut (s4.trans s5) fL2, by rw [upd_same]; exact congrArg (fun l => some (HO.lst l)) (List.map_append ..).symm, fun y' hy' => ?_, ?_⟩
          · have hb : H5 y'.1 = some (.tup (vNs y'.2)) := (List.mem_append.mp hy').elim (fun q => s5 _ _ (hW3 y' q)) fun q => n3 y' q
            rw [upd_ne (ne_of hb hL5 (by intro z; cases z))]
            exact hb
          · rw [List.map_append, ew, n2, take_at hy, List.map_append, List.map_singleton, flat_snoc]
            rfl
        · rintro σ' H3 ⟨ws, v2', v3', rfl, s4, hL3, hW3, ew⟩
          refine ⟨_, rfl, La, ws, _, _, _, _, rfl, s12.trans s4, hL3, hW3, ?_, by omega⟩
          rw [ew, List.length_map, List.take_length, ep]
          rfl
    · rintro σ H' ⟨F', zs, v1, v2, v3, v4, rfl, s', hF', hW, ep, htd⟩
      omega
end
end K87

/-! The law's own walk. -/
namespace K87
open PySem L2
theorem DiceAt.not_ints {H : Hp} {d : Dc} {b : Addr} {ms : List Nat} (h : DiceAt H d) (e : H b = some (.lst (vNs ms))) : b ≠ d.a := by
  obtain ⟨p, q, r, t, x⟩ := h
  refine ne_of e x.at_ fun z => ?_
  have h2 : vNs ms = ([.ref d.l, .int p, .int q, .int r, .int t] : List V) := by
    injection z
  match ms, h2 with
  | _ :: _, h2 =>
    injection h2 with h3 _
    cases h3
theorem DiceAt.not_dict {H : Hp} {d : Dc} {b : Addr} {ks : List (Key × V)} (h : DiceAt H d) (e : H b = some (.dK ks)) : b ≠ d.a := by
  obtain ⟨p, q, r, t, x⟩ := h
  exact ne_of e x.at_ (by intro z; cases z)
theorem DiceAt.not_ins {H : Hp} {d : Dc} {b C dx : Addr} {fs : List (Str × V)} (h : DiceAt H d) (e : H b = some (.ins C dx fs)) : b ≠ d.a := by
  obtain ⟨p, q, r, t, x⟩ := h
  exact ne_of e x.at_ (by intro z; cases z)
theorem LstRows.but {H H' : Hp} {d : Dc} {L : Addr} {rs : List Addr} {n : Nat} {g : Nat → List Nat} (h : LstRows H L rs n g) (x : DiceAt H d) (b : But d.a H H') : LstRows H' L rs n g :=
  ⟨b.at_ (x.not_refs h.at_) h.at_, h.len, fun i r e => b.at_ (x.not_ints (h.row i r e)) (h.row i r e)⟩
theorem BookAt.but {C : Addr} {H H' : Hp} {d : Dc} {b : Addr} {n : Nat} {L : Addr} {rs : List Addr} {g : Nat → List Nat} (h : BookAt C H b n L rs g) (x : DiceAt H d) (bt : But d.a H H') : BookAt C H' b n L rs g := by
  obtain ⟨dx, t, e, h1, h2⟩ := h.ob
  exact ⟨⟨dx, t, e, bt.at_ (x.not_ins h1) h1, bt.at_ (x.not_dict h2) h2⟩, bt.at_ (x.not_refs h.rows.at_) h.rows.at_, h.rows.len, fun i r q => bt.at_ (x.not_tup (h.rows.row i r q)) (h.rows.row i r q)⟩
theorem rgV_range (n : Nat) : rgV 0 (n : Int) = vNs (List.range n) := by
  unfold rgV
  have e : (((n : Int) - 0)).toNat = n := by omega
  rw [e]
  refine List.map_congr_left fun i _ => ?_
  exact congrArg V.int (Int.zero_add _)
/-! ### tuples of contents as data -/
def lD (l : List Nat) : PyData := .tuple (l.map fun n : Nat => .int (n : Int))
theorem lD_ok : ∀ l : List Nat, PyData.canLayAll0 (l.map fun n : Nat => PyData.int (n : Int)) = true ∧ PyData.depthAll (l.map fun n : Nat => PyData.int (n : Int)) = 0 ∧ PyData.eqvAll (l.map fun n : Nat => PyData.int (n : Int)) (l.map fun n : Nat => PyData.int (n : Int)) = true
  | [] => by simp [PyData.canLayAll0, PyData.depthAll, PyData.eqvAll]
  | x :: l => by
    obtain ⟨h1, h2, h3⟩ := lD_ok l
    refine ⟨?_, ?_, ?_⟩
    · simp only [List.map_cons, PyData.canLayAll0, PyData.canLay0, h1, Bool.and_true]
    · simp only [List.map_cons, PyData.depthAll, PyData.depth, h2]
      rfl
    · simp [PyData.eqvAll, PyData.eqv, h3]
theorem lD_shaped (l : List Nat) : SeqAt.shaped (lD l) = true := by
  obtain ⟨h1, h2, _⟩ := lD_ok l
  show (PyData.canLay0 (lD l) && decide (PyData.depth (lD l) ≤ 64)) = true
  rw [Bool.and_eq_true]
  unfold lD
  refine ⟨by simp only [PyData.canLay0]; exact h1, decide_eq_true ?_⟩
  simp only [PyData.depth]
  omega
theorem lD_eqv (l : List Nat) : PyData.eqv (lD l) (lD l) = true := by
  obtain ⟨_, _, h3⟩ := lD_ok l
  unfold lD
  simp only [PyData.eqv]
  exact h3
theorem dp_ints {K : PySem.W.Frag} {H : Hp} : ∀ l : List Nat, DpAll K H (vNs l) (l.map fun n : Nat => PyData.int (n : Int))
  | [] => .nil
  | x :: l => .cons (.int _) (dp_ints l)
theorem dp_tup {K : PySem.W.Frag} {H : Hp} {t : Addr} {l : List Nat} (h : H t = some (.tup (vNs l))) : Dp K H (.ref t) (lD l) := .tup (SqT.of h) (dp_ints l)
/-- the same way is told, whoever tells it -/
theorem told_uniq {n : Nat} {g : Nat → List Nat} {z u : Nat} {fs gs : List (Nat × Nat)} (G : Gr n g) (F1 : Far n g z fs) (F2 : Far n g z gs) (h1 : u ∈ fs.map (·.1)) (h2 : u ∈ gs.map (·.1)) : told g gs (dist gs u) u = told g fs (dist fs u) u := by
  obtain ⟨w1, l1⟩ := told_walk F1 _ h1 rfl
  obtain ⟨w2, l2⟩ := told_walk F2 _ h2 rfl
  have a := far_le G F2 h2 w1
  have b := far_le G F1 h1 w2
  rcases told_least G F2 _ h2 rfl w1 (by omega) with e | e
  · exact e
  · rcases told_least G F1 _ h1 rfl w2 (by omega) with e' | e'
    · exact e'.symm
    · rw [← ltI_cast] at e e'
      rw [ltI_asym _ _ e] at e'
      cases e'

def spLaw (K : PySem.W.Frag) : Sp := fun vs H Q _ => ∃ (a : Addr) (ns : List Int), vs = [.ref a] ∧ SqL K H a (ns.map V.int) ∧ ns.length ≤ 63 ∧ ∀ H', Q (.bl true) H'
section
variable {P : Program} {w : World} {K : PySem.W.Frag} {mg : Str → Option Value} {base : Heap} {f f1 f2 f3 f4 f5 f6 f7 f8 f9 f10 C : Addr} {fd fd1 fd2 fd3 fd4 fd5 fd6 fd7 fd8 fd9 fd10 : FuncData}
abbrev nLaw : List Str := ["_law_script", "_law_dice_here", "_law_turn", "_law_many", "_law_ties", "_law_rows_here", "_law_book_here", "_law_first", "_law_wanted", "_law_told", "_law_tie"]
theorem scLaw : FnScope nLaw ["_law_script"] (defScope sLaw) := ⟨rfl, rfl, rfl, by decide +kernel, rfl, by decide +kernel, by decide +kernel⟩
theorem ok_law (F : Fun K "law" "law" sLaw f fd) (T : Txt mg) (B : BTxt K mg C) (M : Mk K C f10) (GI : FnOk P w K mg base CX0 6 f10 fd10 ["self", "size", "ties"] (spInit C)) (bI : Binds K fd10 ["self", "size", "ties"] [])
    (c1 : Cal P w K mg base 1 "_law_dice" ["_law_script"] (spDice K) f1 fd1) (c2 : Cal P w K mg base 3 "_law_book" ["_law_dice_here", "_law_most"] spLBook f2 fd2) (c3 : Cal P w K mg base 1 "_law_rows" ["_law_size", "_law_pairs_here"] spLRows f3 fd3)
    (c4 : Cal P w K mg base 1 "_law_piece" ["_law_rows_here", "_law_inside", "_law_start"] spPiece f4 fd4) (c5 : Cal P w K mg base 1 "_law_draw" ["_law_dice_here", "_law_sides"] spDraw f5 fd5) (c6 : Cal P w K mg base 5 "shortest_log" ["book", "first", "wanted"] (spShort C) f6 fd6)
    (c7 : Cal P w K mg base 1 "_law_ways" ["_law_rows_here", "_law_first", "_law_wanted", "_law_most"] spWays f7 fd7) (c8 : Cal P w K mg base 6 "can_stand" ["book", "first", "log"] (spCan C) f8 fd8) (c9 : Cal P w K mg base 1 "_law_orders" ["_law_contents"] spOrders f9 fd9) :
    FnOk P w K mg base CX0 8 f fd ["_law_script"] (spLaw K) := by
  refine F.ok scLaw (fun vs H Q E h => ?_) (fun cdv A outer s H vs Q E hr h => ?_)
  · obtain ⟨a, ns, rfl, _⟩ := h
    rfl
  · obtain ⟨a, ns, rfl, hS, hl, k⟩ := h
    have nd := scLaw.nd
    have hr1 : Room 1 (A.deeper (PyProof.Rows.envOfC "law" (defScope sLaw) s.heap.objs.size f cdv)) := hr.mono (by decide)
    refine ⟨_, pss_cons (ps_set (i := 1) nd rfl (Or.inl rfl) (pe_call c1.ok hr1 (by rfl) c1.at_ c1.kp c1.b .nil pass0 (pa_cons (pv 0) pa_nil)))
      (pss_cons (ps_for PassesOwn.never rfl (pi_range1 (by rfl) T.range (pa_cons pe_int pa_nil)) (pg_name (i := 2) nd rfl (Or.inl rfl))
        (pss_cons (ps_asg (pe_call c2.ok (hr.mono (by decide)) (by rfl) c2.at_ c2.kp c2.b .nil pass0 (pa_cons (pv 1) (pa_cons (pe_ix ix_list (pe_lst (pa_cons pe_int (pa_cons pe_int (pa_cons pe_int (pa_cons pe_int pa_nil))))) (pv 2) (fun _ _ => rfl)) pa_nil)))
            (pg_tup rfl (pgs_cons (pg_name (i := 3) nd rfl (Or.inl rfl)) (pgs_cons (pg_name (i := 4) nd rfl (Or.inl rfl)) pgs_nil))))
        (Evl.pss_cut (ps_if (pt_cmpR op_gt (pv 3) pe_int (nomark _))
            (pss_one (ps_set (i := 4) nd rfl (Or.inl rfl) (pe_callTy call_tupL (by rfl) T.tuple b_tuple (pa_cons
              (pe_lc (own := [("_law_tie", 10)]) (g := gName 10) rfl nd (pi_tup (pv 4)) (blkOk_by (N := nLaw) (sc := defScope sLaw) (by decide +kernel)) (fun _ _ _ _ _ => pg_name (i := 10) nd rfl (Or.inl rfl))
                (fun _ _ _ _ _ => pts_one (PW.pt (pw_or (pt_cmpR op_lt (pe_op op_sub (pe_ix (r := rIxT K) ix_tup (pv 10) pe_int (fun _ _ => rfl)) (pe_ix (r := rIxT K) ix_tup (pv 10) pe_int (fun _ _ => rfl))) pe_int (nomark _))
                  (pw_or1 (pt_cmpR op_eq (pe_ix (r := rIxT K) ix_tup (pv 10) pe_int (fun _ _ => rfl)) pe_int (nomark _))))))
                (fun _ _ _ _ _ => pv 10)) pa_nil)))) pss_nil)
        (pss_cons (ps_set (i := 5) nd rfl (Or.inl rfl) (pe_call c3.ok hr1 (by rfl) c3.at_ c3.kp c3.b .nil pass0 (pa_cons (pv 3) (pa_cons (pv 4) pa_nil))))
        (pss_one (ps_if (pt_cmpR op_eq (pe_callB call_len_seq (by rfl) T.len b_len (pa_cons (pe_call c4.ok hr1 (by rfl) c4.at_ c4.kp c4.b .nil pass0 (pa_cons (pv 5) (pa_cons (pe_listRg rfl (by rfl) T.list (prg_1 (by rfl) T.range (pv 3))) (pa_cons pe_int pa_nil)))) pa_nil)) (pv 3) (nomark _))
          (pss_cons (ps_set (i := 6) nd rfl (Or.inl rfl) (pe_make M GI hr (by rfl) B.mgC bI .nil pass0 (pa_cons (pv 3) (pa_cons (pv 4) pa_nil))))
          (pss_cons (ps_set (i := 7) nd rfl (Or.inl rfl) (pe_call c5.ok hr1 (by rfl) c5.at_ c5.kp c5.b .nil pass0 (pa_cons (pv 1) (pa_cons (pv 3) pa_nil))))
          (pss_cons (ps_set (i := 8) nd rfl (Or.inl rfl) (pe_call c5.ok hr1 (by rfl) c5.at_ c5.kp c5.b .nil pass0 (pa_cons (pv 1) (pa_cons (pv 3) pa_nil))))
          (pss_cons (ps_set (i := 9) nd rfl (Or.inl rfl) (pe_call c6.ok (hr.mono (by decide)) (by rfl) c6.at_ c6.kp c6.b .nil pass0 (pa_cons (pv 6) (pa_cons (pv 7) (pa_cons (pv 8) pa_nil)))))
          (pss_cons (ps_if (PW.pt (pw_or (pt_cmpR (op_neD hr.units) (pv 9) (pe_ix ix_list (pe_call c7.ok hr1 (by rfl) c7.at_ c7.kp c7.b .nil pass0 (pa_cons (pv 5) (pa_cons (pv 7) (pa_cons (pv 8) (pa_cons (pv 3) pa_nil))))) pe_int (fun _ _ => rfl)) (nomark _))
              (pw_or1 (pt_not (pt_val (pe_callB call_isi (by rfl) T.isinstance b_isi (pa_cons (pv 9) (pa_cons (pe_bltn (v := .ty "tuple") (by rfl) T.tuple b_tuple rfl) pa_nil)))))))) (pss_one (ps_ret pe_bl)) pss_nil)
          (pss_cons (ps_if (pt_cmpR op_notIn_seq (pv 8) (pe_call c8.ok (hr.mono (by decide)) (by rfl) c8.at_ c8.kp c8.b .nil pass0 (pa_cons (pv 6) (pa_cons (pv 7) (pa_cons (pe_call c9.ok hr1 (by rfl) c9.at_ c9.kp c9.b .nil pass0 (pa_cons (pv 9) pa_nil)) pa_nil)))) (by rfl)) (pss_one (ps_ret pe_bl)) pss_nil)
          (Evl.pss_cut (ps_if (PW.pt (pw_and (pt_cmpR op_gt (pe_callB call_len_seq (by rfl) T.len b_len (pa_cons (pv 9) pa_nil)) pe_int (nomark _))
              (pw_and1 (pt_cmpR op_in_seq (pv 8) (pe_call c8.ok (hr.mono (by decide)) (by rfl) c8.at_ c8.kp c8.b .nil pass0 (pa_cons (pv 6) (pa_cons (pv 7) (pa_cons (pe_call c9.ok hr1 (by rfl) c9.at_ c9.kp c9.b .nil pass0 (pa_cons (pe_slice sl_tup (pv 9) po_none (po_some (pe_un un_neg pe_int))) pa_nil)) pa_nil)))) (by rfl))))) (pss_one (ps_ret pe_bl)) pss_nil)
          (pss_one (ps_if (PW.pt (pw_or (pt_cmpR (op_neD hr.units) (pe_call c6.ok (hr.mono (by decide)) (by rfl) c6.at_ c6.kp c6.b .nil pass0 (pa_cons (pv 6) (pa_cons (pv 7) (pa_cons (pv 8) pa_nil)))) (pv 9) (nomark _))
              (pw_or1 (pt_cmpR (op_neD hr.units) (pe_call c6.ok (hr.mono (by decide)) (by rfl) c6.at_ c6.kp c6.b .nil pass0 (pa_cons (pv 6) (pa_cons (pv 8) (pa_cons (pv 8) pa_nil)))) (pe_tup pa_nil) (nomark _))))) (pss_one (ps_ret pe_bl)) pss_nil)))))))))
          pss_nil))))))
      (pss_one (ps_ret pe_bl))), ?_⟩
    refine ⟨_, rfl, a, ns, rfl, hS, hl, fun d H1 s1 hd1 => ?_⟩
    refine ⟨4, rfl, by decide, by decide, ?_⟩
    refine for_range (lo := 0) (n := 4) (fun i σ H' => ∃ v2 v3 v4 v5 v6 v7 v8 v9 : Option V, σ = [some (.ref a), some (.ref d.a), v2, v3, v4, v5, v6, v7, v8, v9, none] ∧ DiceAt H' d) ⟨none, none, none, none, none, none, none, none, rfl, hd1⟩ ?_ (fun σ H' _ => k H')
    rintro i σ H2 hi ⟨v2, v3, v4, v5, v6, v7, v8, v9, rfl, hd2⟩
    obtain ⟨m, hm, hm1, hm8⟩ : ∃ m : Nat, ([V.int 4, V.int 6, V.int 8, V.int 8] : List V)[i]? = some (vN m) ∧ 1 ≤ m ∧ m ≤ 8 := by
      match i, hi with
      | 0, _ => exact ⟨4, rfl, by decide, by decide⟩
      | 1, _ => exact ⟨6, rfl, by decide, by decide⟩
      | 2, _ => exact ⟨8, rfl, by decide, by decide⟩
      | 3, _ => exact ⟨8, rfl, by decide, by decide⟩
    -- many, ties = _law_book(..)
    refine ⟨_, rfl, by show 4 ≤ sizeLine; decide, fun q hq => ?_⟩
    have s2 : L2.Same H2 (upd H2 q (.lst [V.int 4, V.int 6, V.int 8, V.int 8])) := Same.new hq
    refine ⟨_, rfl, q, _, _, _, rfl, rfl, SqL.of upd_same, at_of (Int.zero_add _) hm, d, m, rfl, hd2.same s2, hm1, hm8, fun r n t qs H3 b3 hd3 hn1 hnm hr3 ht3 hP3 hT3 => ?_⟩
    have hn8 : n ≤ 8 := by omega
    refine ⟨r, _, rfl, SqT.of hr3, rfl, _, _, rfl, _, _, rfl, rfl, ?_⟩
    refine ⟨fun σ' H' => ∃ (t' : Addr) (qs' : List TP) (v2 v5 v6 v7 v8 v9 : Option V), σ' = [some (.ref a), some (.ref d.a), v2, some (vN n), some (.ref t'), v5, v6, v7, v8, v9, none] ∧ DiceAt H' d ∧ H' t' = some (.tup (refs qs')) ∧ PairsIn H' qs' ∧ Ties n (qs'.map (·.2)), ?_, ?_⟩
    · refine ⟨_, rfl, _, _, rfl, rfl, _, rfl, ?_⟩
      refine ite2 (fun _ => ?_) (fun _ => ⟨t, qs, _, _, _, _, _, _, rfl, hd3, ht3, hP3, hT3⟩)
      have ql := hT3.len hn8
      rw [List.length_map] at ql
      refine ⟨_, rfl, t, rfl, ⟨_, SqT.of ht3⟩, fun D hD => lcT (l := qs) (g := fun p => V.ref p.1) (p := fun p => decide ((p.2.2 : Int) - (p.2.1 : Int) < 3) || decide (vN p.2.1 = V.int 0)) (R := fun p y _ => y = V.ref p.1) hD (SqT.of ht3) (by omega) (fun _ => rfl) (fun p H4 Q4 hp s4 k4 => ?_) (fun p H4 acc Q4 hp _ s4 _ k4 => ?_) fun ys H4 s4 hy4 hr4 => ?_⟩
      · have hp4 := s4 _ _ (hP3 p hp)
        refine ⟨_, rfl, p.1, _, 1, vN p.2.2, rfl, rfl, SqT.of hp4, rfl, _, rfl, p.1, _, 0, vN p.2.1, rfl, rfl, SqT.of hp4, rfl, _, _, rfl, rfl, _, _, rfl, rfl, _, rfl, ?_⟩
        have q4 := k4 H4 (L2.Same.refl _)
        by_cases c : (p.2.2 : Int) - (p.2.1 : Int) < 3
        · refine iteY c ?_
          have q5 : Q4 (decide ((p.2.2 : Int) - (p.2.1 : Int) < 3) || decide (vN p.2.1 = V.int 0)) H4 := q4
          rw [decide_eq_true c] at q5
          exact q5
        · refine iteN c ?_
          have q5 : Q4 (decide ((p.2.2 : Int) - (p.2.1 : Int) < 3) || decide (vN p.2.1 = V.int 0)) H4 := q4
          rw [decide_eq_false c, Bool.false_or] at q5
          exact ⟨_, rfl, p.1, _, 0, vN p.2.1, rfl, rfl, SqT.of hp4, rfl, rfl, _, rfl, q5⟩
      · exact ⟨_, rfl, k4 _ _ (L2.Same.refl _) fun _ _ => rfl⟩
      · rw [pr_map (f := fun p : TP => V.ref p.1) hr4] at hy4
        have em : (qs.filter fun p => decide ((p.2.2 : Int) - (p.2.1 : Int) < 3) || decide (vN p.2.1 = V.int 0)).map (·.2) = (qs.map (·.2)).filter fun z => decide ((z.2 : Int) - (z.1 : Int) < 3) || decide (vN z.1 = V.int 0) := by
          rw [List.filter_map]
          rfl
        refine ⟨D, _, rfl, SqL.of hy4, fun t' ht' => ⟨t', _, _, _, _, _, _, _, rfl, (hd3.same s4).same (Same.new ht'), upd_same, ((hP3.same s4).sub fun p hp => (List.mem_filter.mp hp).1).same (Same.new ht'), ?_⟩⟩
        rw [em]
        exact hT3.filter _
    · rintro σ' H4 ⟨t, qs, w2, w5, w6, w7, w8, w9, rfl, hd4, ht4, hP4, hT4⟩
      have G : Gr n (nb n (qs.map (·.2))) := gr_nb
      refine ⟨_, rfl, _, rfl, t, qs, n, rfl, ht4, hP4, hT4, hn8, fun L rs H5 s5 hR5 => ?_⟩
      have hd5 := hd4.same s5
      refine ⟨_, rfl, _, rfl, n, rfl, RgOk.of_le (by omega) (by omega) (by omega) (by omega), fun I hI => ?_⟩
      have s6 : L2.Same H5 (upd H5 I (.lst (rgV 0 (n : Int)))) := Same.new hI
      refine ⟨L, I, rs, n, _, rfl, hR5.same s6, by rw [upd_same, rgV_range], G, by omega, hn8, fun tp ks H7 s7 htp knd kre => ?_⟩
      have s57 := s6.trans s7
      have hd7 := hd5.same s57
      refine ⟨tp, _, rfl, .inr (SqT.of htp), _, rfl, rfl, _, rfl, ?_⟩
      rw [List.length_map]
      refine ite2 (fun hlen => ?_) (fun _ => ⟨_, _, _, _, _, _, _, _, rfl, hd7⟩)
      have hkn : ks.length = n := by
        have := V.int.inj (of_decide_eq_true hlen)
        omega
      have hC : Conn n (nb n (qs.map (·.2))) := fun v hv => (kre v (nodup_all knd (fun x hx => (kre x hx).1) (by omega) hv)).2
      -- Book
      refine ⟨_, rfl, _, rfl, fun b dx hb hdx ndx => ?_⟩
      have s457 := s5.trans s57
      have sm : L2.Same H7 (upd (upd H7 dx (.own b)) b (.ins C dx [])) := (Same.new hdx).trans (Same.new (by rw [upd_ne ndx.symm]; exact hb))
      refine ⟨b, dx, t, qs, n, rfl, upd_same, sm _ _ (s457 _ _ ht4), (hP4.same s457).same sm, hT4, hn1, hn8, hC, fun Lb rsb H8 k8 hB8 => ⟨rfl, ?_⟩⟩
      have s8 : L2.Same H7 H8 := L2.Same.made hb hdx k8
      have hd8 := hd7.same s8
      have hR8 := (hR5.same s57).same s8
      -- first, wanted
      refine ⟨_, rfl, _, rfl, d, n, rfl, hd8, by omega, by omega, fun u H9 hu9 b9 hd9 => ?_⟩
      have hB9 := hB8.but hd8 b9
      have hR9 := hR8.but hd8 b9
      refine ⟨_, rfl, _, rfl, d, n, rfl, hd9, by omega, by omega, fun z H10 hz10 b10 hd10 => ?_⟩
      have hB := hB9.but hd9 b10
      have hR := hR9.but hd9 b10
      have hun : u < n := by omega
      have hzn : z < n := by omega
      -- told
      refine ⟨_, rfl, _, rfl, _, rfl, b, Lb, n, u, z, rsb, _, rfl, hB, G, hn8, hun, hzn, hC, fun tt fs H11 s11 Fr huf htt => ?_⟩
      obtain ⟨tw, tl⟩ := told_walk Fr _ huf rfl
      have tnd := (short_nodup G Fr huf tw tl).1
      have dl := dist_lt G Fr huf hun
      have hd11 := hd10.same s11
      have hB11 := hB.same s11
      have hR11 := hR.same s11
      have huq : ∀ fs2 : List (Nat × Nat), Far n (nb n (qs.map (·.2))) z fs2 → u ∈ fs2.map (·.1) → told (nb n (qs.map (·.2))) fs2 (dist fs2 u) u = told (nb n (qs.map (·.2))) fs (dist fs u) u := fun fs2 F2 h2 => told_uniq G Fr F2 huf h2
      refine ⟨_, rfl, _, rfl, _, rfl, _, rfl, _, rfl, L, rs, n, u, z, _, fs, rfl, hR11, G, hn8, hun, Fr, huf, fun S r0 xs H12 s12 hS12 hr12 => ?_⟩
      generalize told (nb n (qs.map (·.2))) fs (dist fs u) u = p at htt tw tl tnd hr12 huq
      have htt12 := s12 _ _ htt
      refine ⟨S, _, 0, .ref r0, rfl, rfl, SqL.of hS12, at_of (j := 0) rfl rfl, lD p, lD p, dp_tup htt12, dp_tup hr12, lD_shaped p, lD_shaped p, ?_⟩
      rw [lD_eqv]
      refine ⟨_, rfl, iteF ⟨_, rfl, .ref tt, .ty "tuple", _, _, true, rfl, .ty "tuple", .base (.tup htt12), kit_yes, true, rfl, iteF ?_⟩⟩
      have hB12 := hB11.same s12
      -- wanted not in can_stand(..)
      refine ⟨_, rfl, _, rfl, _, rfl, _, rfl, tt, p, rfl, htt12, by omega, fun l es H13 s13 hO13 => ?_⟩
      refine ⟨b, Lb, l, n, u, z, rsb, es, _, p, rfl, hB12.same s13, G, hn8, hun, hO13, tw, by omega, fun pz zs H14 s14 hz14 zsub zin => ?_⟩
      refine ⟨pz, _, rfl, .inl (SqL.of hz14), rfl, flat_vNs zs, _, rfl, ?_⟩
      show (if (!inV (vN z) (vNs zs)) = true then _ else _)
      rw [inV_vN, decide_eq_true zin]
      refine iteF ?_
      have s14' := s13.trans s14
      have hB14 := hB12.same s14'
      have htt14 := s14' _ _ htt12
      have hd14 := (hd11.same s12).same s14'
      -- len(told) > 0 and ..
      refine ⟨fun σ' H' => (∃ v2 : Option V, σ' = [some (.ref a), some (.ref d.a), v2, some (vN n), some (.ref t), some (.ref L), some (.ref b), some (vN u), some (vN z), some (.ref tt), none]) ∧ L2.Same H14 H', ?_, ?_⟩
      · refine ⟨_, rfl, tt, _, rfl, .inr (SqT.of htt14), _, _, rfl, rfl, _, rfl, ?_⟩
        rw [List.length_map]
        rcases List.eq_nil_or_concat p with e | ⟨q, x, e⟩
        · subst e
          exact iteN (by simp) (iteF ⟨⟨_, rfl⟩, L2.Same.refl _⟩)
        · rw [List.concat_eq_append] at e
          subst e
          refine iteY (by rw [List.length_append]; show (0 : Int) < ((q.length + 1 : Nat) : Int); omega) ?_
          obtain ⟨y, wy, _, exz⟩ := walk_snoc.mp tw
          have lenq : (vNs (q ++ [x])).length = q.length + 1 := by
            rw [List.length_map, List.length_append]
            rfl
          have hsx : HT.sIx (vNs (q ++ [x])).length (vNs (q ++ [x])).length (some (-1)) = q.length := by
            rw [lenq]
            show (if (-1 : Int) < 0 then ((-1 : Int) + ((q.length + 1 : Nat) : Int)).toNat else min (-1 : Int).toNat (q.length + 1)) = q.length
            rw [if_pos (by decide)]
            omega
          have hcut : cutV (vNs (q ++ [x])) none (some (-1)) = vNs q := by
            unfold cutV
            rw [hsx]
            show ((vNs (q ++ [x])).drop 0).take (q.length - 0) = vNs q
            rw [List.drop_zero, Nat.sub_zero, vNs_snoc]
            have ql : q.length = (vNs q).length := (List.length_map _).symm
            rw [ql]
            exact List.take_left
          refine ⟨_, rfl, _, rfl, _, rfl, _, rfl, 1, rfl, _, rfl, tt, _, rfl, SqT.of htt14, fun c => ?_, fun tq htq => ?_⟩
          · have c2 := c.2
            rw [hsx, lenq] at c2
            omega
          have s15 : L2.Same H14 (upd H14 tq (.tup (cutV (vNs (q ++ [x])) none (some (-1))))) := Same.new htq
          have tlq : q.length ≤ 40 := by
            rw [List.length_append, List.length_singleton] at tl
            omega
          refine ⟨tq, q, rfl, by rw [upd_same, hcut], tlq, fun l2 es2 H16 s16 hO16 => ?_⟩
          have s156 := s15.trans s16
          refine ⟨b, Lb, l2, n, u, y, rsb, es2, _, q, rfl, hB14.same s156, G, hn8, hun, hO16, wy, tlq, fun pz2 zs2 H17 s17 hz17 zsub2 zin2 => ?_⟩
          refine ⟨pz2, _, rfl, .inl (SqL.of hz17), rfl, flat_vNs zs2, _, rfl, ?_⟩
          have znot : z ∉ zs2 := fun hm => by
            have h1 := zsub2 z hm
            rw [← exz] at h1
            have h2 : ((u :: q) ++ [x]).Nodup := tnd
            obtain ⟨_, _, n3⟩ := List.nodup_append.mp h2
            exact n3 x h1 x (List.mem_singleton.mpr rfl) rfl
          show (if inV (vN z) (vNs zs2) = true then _ else _)
          rw [inV_vN, decide_eq_false znot]
          exact iteF ⟨⟨_, rfl⟩, s156.trans s17⟩
      · rintro σ' H15 ⟨⟨v2', rfl⟩, s15⟩
        refine ⟨_, rfl, _, rfl, _, rfl, b, Lb, n, u, z, rsb, _, rfl, hB14.same s15, G, hn8, hun, hzn, hC, fun t2 fs2 H16 s16 F2 hu2 ht2 => ?_⟩
        rw [huq fs2 F2 hu2] at ht2
        refine ⟨_, rfl, lD p, lD p, dp_tup ht2, dp_tup (s16 _ _ (s15 _ _ htt14)), lD_shaped p, lD_shaped p, ?_⟩
        rw [lD_eqv]
        refine ⟨_, rfl, iteF ⟨_, rfl, _, rfl, _, rfl, b, Lb, n, z, z, rsb, _, rfl, (hB14.same s15).same s16, G, hn8, hzn, hzn, hC, fun t3 fs3 H17 s17 F3 hu3 ht3 => ?_⟩⟩
        have e3 : dist fs3 z = 0 := dist_of F3.nd F3.zero
        rw [e3] at ht3
        have ht3' : H17 t3 = some (.tup (vNs [])) := ht3
        refine ⟨Nat.zero_le _, fun q3 hq3 => ?_⟩
        refine ⟨lD [], lD [], dp_tup (Same.new hq3 _ _ ht3'), dp_tup upd_same, lD_shaped [], lD_shaped [], ?_⟩
        rw [lD_eqv]
        exact ⟨_, rfl, iteF ⟨_, _, _, _, _, _, _, _, rfl, (((hd14.same s15).same s16).same s17).same (Same.new hq3)⟩⟩
end
end K87

/-! What the top has written, and the end. -/
namespace K87
open PySem L2
/-! ### a def of the top, from what the top has written of it -/
theorem has_1 {K : PySem.W.Frag} {h : Heap} {mg : Str → Option Value} {f1 : Addr} {od1 an1 : Option Addr} {sl1 : Array (Option Value)} {oc1 kV1 dc1 pm1 cd1 ct1 : Value} (X : K.In h) (G : h.Ns mainGlobals mg) (a1 : PySem.W.nsIn K mainGlobals "is_integer" = some (some (.ref f1))) (l1 : K.lookup f1 = some ⟨oc1, od1, .func (PySem.W.fnOf "is_integer" "is_integer" (defArgs sInteger) (defBody sInteger) (defScope sInteger) .none kV1 dc1 pm1 an1 cd1 ct1), sl1⟩) (c1 : PySem.W.codeIn K cd1 "is_integer" = true) (k1 : PySem.W.keepIn K (.ref f1) = true) :
    Dfn K mg "is_integer" sInteger ["thing"] f1 (PySem.W.fnOf "is_integer" "is_integer" (defArgs sInteger) (defBody sInteger) (defScope sInteger) .none kV1 dc1 pm1 an1 cd1 ct1) :=
  have F := fun_mk (st := sInteger) l1 c1 k1
  ⟨F, PySem.W.mg_of X G a1, F.binds (ps := ["thing"]) fun _ _ _ _ _ _ us hl => match us, hl with | [_], _ => rfl⟩
theorem has_2 {K : PySem.W.Frag} {h : Heap} {mg : Str → Option Value} {f2 : Addr} {od2 an2 : Option Addr} {sl2 : Array (Option Value)} {oc2 kV2 dc2 pm2 cd2 ct2 : Value} (X : K.In h) (G : h.Ns mainGlobals mg) (a2 : PySem.W.nsIn K mainGlobals "is_within" = some (some (.ref f2))) (l2 : K.lookup f2 = some ⟨oc2, od2, .func (PySem.W.fnOf "is_within" "is_within" (defArgs sWithin) (defBody sWithin) (defScope sWithin) .none kV2 dc2 pm2 an2 cd2 ct2), sl2⟩) (c2 : PySem.W.codeIn K cd2 "is_within" = true) (k2 : PySem.W.keepIn K (.ref f2) = true) :
    Dfn K mg "is_within" sWithin ["thing", "least", "most"] f2 (PySem.W.fnOf "is_within" "is_within" (defArgs sWithin) (defBody sWithin) (defScope sWithin) .none kV2 dc2 pm2 an2 cd2 ct2) :=
  have F := fun_mk (st := sWithin) l2 c2 k2
  ⟨F, PySem.W.mg_of X G a2, F.binds (ps := ["thing", "least", "most"]) fun _ _ _ _ _ _ us hl => match us, hl with | [_, _, _], _ => rfl⟩
theorem has_3 {K : PySem.W.Frag} {h : Heap} {mg : Str → Option Value} {f3 : Addr} {od3 an3 : Option Addr} {sl3 : Array (Option Value)} {oc3 kV3 dc3 pm3 cd3 ct3 : Value} (X : K.In h) (G : h.Ns mainGlobals mg) (a3 : PySem.W.nsIn K mainGlobals "is_index" = some (some (.ref f3))) (l3 : K.lookup f3 = some ⟨oc3, od3, .func (PySem.W.fnOf "is_index" "is_index" (defArgs sIndex) (defBody sIndex) (defScope sIndex) .none kV3 dc3 pm3 an3 cd3 ct3), sl3⟩) (c3 : PySem.W.codeIn K cd3 "is_index" = true) (k3 : PySem.W.keepIn K (.ref f3) = true) :
    Dfn K mg "is_index" sIndex ["thing", "many"] f3 (PySem.W.fnOf "is_index" "is_index" (defArgs sIndex) (defBody sIndex) (defScope sIndex) .none kV3 dc3 pm3 an3 cd3 ct3) :=
  have F := fun_mk (st := sIndex) l3 c3 k3
  ⟨F, PySem.W.mg_of X G a3, F.binds (ps := ["thing", "many"]) fun _ _ _ _ _ _ us hl => match us, hl with | [_, _], _ => rfl⟩
theorem has_4 {K : PySem.W.Frag} {h : Heap} {mg : Str → Option Value} {f4 : Addr} {od4 an4 : Option Addr} {sl4 : Array (Option Value)} {oc4 kV4 dc4 pm4 cd4 ct4 : Value} (X : K.In h) (G : h.Ns mainGlobals mg) (a4 : PySem.W.nsIn K mainGlobals "is_rising_pair" = some (some (.ref f4))) (l4 : K.lookup f4 = some ⟨oc4, od4, .func (PySem.W.fnOf "is_rising_pair" "is_rising_pair" (defArgs sPair) (defBody sPair) (defScope sPair) .none kV4 dc4 pm4 an4 cd4 ct4), sl4⟩) (c4 : PySem.W.codeIn K cd4 "is_rising_pair" = true) (k4 : PySem.W.keepIn K (.ref f4) = true) :
    Dfn K mg "is_rising_pair" sPair ["thing", "many"] f4 (PySem.W.fnOf "is_rising_pair" "is_rising_pair" (defArgs sPair) (defBody sPair) (defScope sPair) .none kV4 dc4 pm4 an4 cd4 ct4) :=
  have F := fun_mk (st := sPair) l4 c4 k4
  ⟨F, PySem.W.mg_of X G a4, F.binds (ps := ["thing", "many"]) fun _ _ _ _ _ _ us hl => match us, hl with | [_, _], _ => rfl⟩
theorem has_5 {K : PySem.W.Frag} {h : Heap} {mg : Str → Option Value} {f5 : Addr} {od5 an5 : Option Addr} {sl5 : Array (Option Value)} {oc5 kV5 dc5 pm5 cd5 ct5 : Value} (X : K.In h) (G : h.Ns mainGlobals mg) (a5 : PySem.W.nsIn K mainGlobals "are_rising_pairs" = some (some (.ref f5))) (l5 : K.lookup f5 = some ⟨oc5, od5, .func (PySem.W.fnOf "are_rising_pairs" "are_rising_pairs" (defArgs sPairs) (defBody sPairs) (defScope sPairs) .none kV5 dc5 pm5 an5 cd5 ct5), sl5⟩) (c5 : PySem.W.codeIn K cd5 "are_rising_pairs" = true) (k5 : PySem.W.keepIn K (.ref f5) = true) :
    Dfn K mg "are_rising_pairs" sPairs ["thing", "many", "most"] f5 (PySem.W.fnOf "are_rising_pairs" "are_rising_pairs" (defArgs sPairs) (defBody sPairs) (defScope sPairs) .none kV5 dc5 pm5 an5 cd5 ct5) :=
  have F := fun_mk (st := sPairs) l5 c5 k5
  ⟨F, PySem.W.mg_of X G a5, F.binds (ps := ["thing", "many", "most"]) fun _ _ _ _ _ _ us hl => match us, hl with | [_, _, _], _ => rfl⟩
theorem has_6 {K : PySem.W.Frag} {h : Heap} {mg : Str → Option Value} {f6 : Addr} {od6 an6 : Option Addr} {sl6 : Array (Option Value)} {oc6 kV6 dc6 pm6 cd6 ct6 : Value} (X : K.In h) (G : h.Ns mainGlobals mg) (a6 : PySem.W.nsIn K mainGlobals "beside_lists" = some (some (.ref f6))) (l6 : K.lookup f6 = some ⟨oc6, od6, .func (PySem.W.fnOf "beside_lists" "beside_lists" (defArgs sBeside) (defBody sBeside) (defScope sBeside) .none kV6 dc6 pm6 an6 cd6 ct6), sl6⟩) (c6 : PySem.W.codeIn K cd6 "beside_lists" = true) (k6 : PySem.W.keepIn K (.ref f6) = true) :
    Dfn K mg "beside_lists" sBeside ["many", "pairs"] f6 (PySem.W.fnOf "beside_lists" "beside_lists" (defArgs sBeside) (defBody sBeside) (defScope sBeside) .none kV6 dc6 pm6 an6 cd6 ct6) :=
  have F := fun_mk (st := sBeside) l6 c6 k6
  ⟨F, PySem.W.mg_of X G a6, F.binds (ps := ["many", "pairs"]) fun _ _ _ _ _ _ us hl => match us, hl with | [_, _], _ => rfl⟩
theorem has_7 {K : PySem.W.Frag} {h : Heap} {mg : Str → Option Value} {f7 : Addr} {od7 an7 : Option Addr} {sl7 : Array (Option Value)} {oc7 kV7 dc7 pm7 cd7 ct7 : Value} (X : K.In h) (G : h.Ns mainGlobals mg) (a7 : PySem.W.nsIn K mainGlobals "reached" = some (some (.ref f7))) (l7 : K.lookup f7 = some ⟨oc7, od7, .func (PySem.W.fnOf "reached" "reached" (defArgs sReached) (defBody sReached) (defScope sReached) .none kV7 dc7 pm7 an7 cd7 ct7), sl7⟩) (c7 : PySem.W.codeIn K cd7 "reached" = true) (k7 : PySem.W.keepIn K (.ref f7) = true) :
    Dfn K mg "reached" sReached ["rows", "inside", "start"] f7 (PySem.W.fnOf "reached" "reached" (defArgs sReached) (defBody sReached) (defScope sReached) .none kV7 dc7 pm7 an7 cd7 ct7) :=
  have F := fun_mk (st := sReached) l7 c7 k7
  ⟨F, PySem.W.mg_of X G a7, F.binds (ps := ["rows", "inside", "start"]) fun _ _ _ _ _ _ us hl => match us, hl with | [_, _, _], _ => rfl⟩
theorem has_17 {K : PySem.W.Frag} {h : Heap} {mg : Str → Option Value} {f17 : Addr} {od17 an17 : Option Addr} {sl17 : Array (Option Value)} {oc17 kV17 dc17 pm17 cd17 ct17 : Value} (X : K.In h) (G : h.Ns mainGlobals mg) (a17 : PySem.W.nsIn K mainGlobals "tied_of" = some (some (.ref f17))) (l17 : K.lookup f17 = some ⟨oc17, od17, .func (PySem.W.fnOf "tied_of" "tied_of" (defArgs sTied) (defBody sTied) (defScope sTied) .none kV17 dc17 pm17 an17 cd17 ct17), sl17⟩) (c17 : PySem.W.codeIn K cd17 "tied_of" = true) (k17 : PySem.W.keepIn K (.ref f17) = true) :
    Dfn K mg "tied_of" sTied ["book"] f17 (PySem.W.fnOf "tied_of" "tied_of" (defArgs sTied) (defBody sTied) (defScope sTied) .none kV17 dc17 pm17 an17 cd17 ct17) :=
  have F := fun_mk (st := sTied) l17 c17 k17
  ⟨F, PySem.W.mg_of X G a17, F.binds (ps := ["book"]) fun _ _ _ _ _ _ us hl => match us, hl with | [_], _ => rfl⟩
theorem has_21 {K : PySem.W.Frag} {h : Heap} {mg : Str → Option Value} {f21 : Addr} {od21 an21 : Option Addr} {sl21 : Array (Option Value)} {oc21 kV21 dc21 pm21 cd21 ct21 : Value} (X : K.In h) (G : h.Ns mainGlobals mg) (a21 : PySem.W.nsIn K mainGlobals "is_entry" = some (some (.ref f21))) (l21 : K.lookup f21 = some ⟨oc21, od21, .func (PySem.W.fnOf "is_entry" "is_entry" (defArgs sEntry) (defBody sEntry) (defScope sEntry) .none kV21 dc21 pm21 an21 cd21 ct21), sl21⟩) (c21 : PySem.W.codeIn K cd21 "is_entry" = true) (k21 : PySem.W.keepIn K (.ref f21) = true) :
    Dfn K mg "is_entry" sEntry ["book", "thing"] f21 (PySem.W.fnOf "is_entry" "is_entry" (defArgs sEntry) (defBody sEntry) (defScope sEntry) .none kV21 dc21 pm21 an21 cd21 ct21) :=
  have F := fun_mk (st := sEntry) l21 c21 k21
  ⟨F, PySem.W.mg_of X G a21, F.binds (ps := ["book", "thing"]) fun _ _ _ _ _ _ us hl => match us, hl with | [_, _], _ => rfl⟩
theorem has_22 {K : PySem.W.Frag} {h : Heap} {mg : Str → Option Value} {f22 : Addr} {od22 an22 : Option Addr} {sl22 : Array (Option Value)} {oc22 kV22 dc22 pm22 cd22 ct22 : Value} (X : K.In h) (G : h.Ns mainGlobals mg) (a22 : PySem.W.nsIn K mainGlobals "check_log" = some (some (.ref f22))) (l22 : K.lookup f22 = some ⟨oc22, od22, .func (PySem.W.fnOf "check_log" "check_log" (defArgs sChkLog) (defBody sChkLog) (defScope sChkLog) .none kV22 dc22 pm22 an22 cd22 ct22), sl22⟩) (c22 : PySem.W.codeIn K cd22 "check_log" = true) (k22 : PySem.W.keepIn K (.ref f22) = true) :
    Dfn K mg "check_log" sChkLog ["book", "log"] f22 (PySem.W.fnOf "check_log" "check_log" (defArgs sChkLog) (defBody sChkLog) (defScope sChkLog) .none kV22 dc22 pm22 an22 cd22 ct22) :=
  have F := fun_mk (st := sChkLog) l22 c22 k22
  ⟨F, PySem.W.mg_of X G a22, F.binds (ps := ["book", "log"]) fun _ _ _ _ _ _ us hl => match us, hl with | [_, _], _ => rfl⟩
theorem has_23 {K : PySem.W.Frag} {h : Heap} {mg : Str → Option Value} {f23 : Addr} {od23 an23 : Option Addr} {sl23 : Array (Option Value)} {oc23 kV23 dc23 pm23 cd23 ct23 : Value} (X : K.In h) (G : h.Ns mainGlobals mg) (a23 : PySem.W.nsIn K mainGlobals "check_contents" = some (some (.ref f23))) (l23 : K.lookup f23 = some ⟨oc23, od23, .func (PySem.W.fnOf "check_contents" "check_contents" (defArgs sChkCon) (defBody sChkCon) (defScope sChkCon) .none kV23 dc23 pm23 an23 cd23 ct23), sl23⟩) (c23 : PySem.W.codeIn K cd23 "check_contents" = true) (k23 : PySem.W.keepIn K (.ref f23) = true) :
    Dfn K mg "check_contents" sChkCon ["book", "contents"] f23 (PySem.W.fnOf "check_contents" "check_contents" (defArgs sChkCon) (defBody sChkCon) (defScope sChkCon) .none kV23 dc23 pm23 an23 cd23 ct23) :=
  have F := fun_mk (st := sChkCon) l23 c23 k23
  ⟨F, PySem.W.mg_of X G a23, F.binds (ps := ["book", "contents"]) fun _ _ _ _ _ _ us hl => match us, hl with | [_, _], _ => rfl⟩
theorem has_24 {K : PySem.W.Frag} {h : Heap} {mg : Str → Option Value} {f24 : Addr} {od24 an24 : Option Addr} {sl24 : Array (Option Value)} {oc24 kV24 dc24 pm24 cd24 ct24 : Value} (X : K.In h) (G : h.Ns mainGlobals mg) (a24 : PySem.W.nsIn K mainGlobals "behind_entry" = some (some (.ref f24))) (l24 : K.lookup f24 = some ⟨oc24, od24, .func (PySem.W.fnOf "behind_entry" "behind_entry" (defArgs sBehind) (defBody sBehind) (defScope sBehind) .none kV24 dc24 pm24 an24 cd24 ct24), sl24⟩) (c24 : PySem.W.codeIn K cd24 "behind_entry" = true) (k24 : PySem.W.keepIn K (.ref f24) = true) :
    Dfn K mg "behind_entry" sBehind ["book", "contents", "entry"] f24 (PySem.W.fnOf "behind_entry" "behind_entry" (defArgs sBehind) (defBody sBehind) (defScope sBehind) .none kV24 dc24 pm24 an24 cd24 ct24) :=
  have F := fun_mk (st := sBehind) l24 c24 k24
  ⟨F, PySem.W.mg_of X G a24, F.binds (ps := ["book", "contents", "entry"]) fun _ _ _ _ _ _ us hl => match us, hl with | [_, _, _], _ => rfl⟩
theorem has_25 {K : PySem.W.Frag} {h : Heap} {mg : Str → Option Value} {f25 : Addr} {od25 an25 : Option Addr} {sl25 : Array (Option Value)} {oc25 kV25 dc25 pm25 cd25 ct25 : Value} (X : K.In h) (G : h.Ns mainGlobals mg) (a25 : PySem.W.nsIn K mainGlobals "standings_behind" = some (some (.ref f25))) (l25 : K.lookup f25 = some ⟨oc25, od25, .func (PySem.W.fnOf "standings_behind" "standings_behind" (defArgs sStand) (defBody sStand) (defScope sStand) .none kV25 dc25 pm25 an25 cd25 ct25), sl25⟩) (c25 : PySem.W.codeIn K cd25 "standings_behind" = true) (k25 : PySem.W.keepIn K (.ref f25) = true) :
    Dfn K mg "standings_behind" sStand ["book", "first", "log"] f25 (PySem.W.fnOf "standings_behind" "standings_behind" (defArgs sStand) (defBody sStand) (defScope sStand) .none kV25 dc25 pm25 an25 cd25 ct25) :=
  have F := fun_mk (st := sStand) l25 c25 k25
  ⟨F, PySem.W.mg_of X G a25, F.binds (ps := ["book", "first", "log"]) fun _ _ _ _ _ _ us hl => match us, hl with | [_, _, _], _ => rfl⟩
theorem has_26 {K : PySem.W.Frag} {h : Heap} {mg : Str → Option Value} {f26 : Addr} {od26 an26 : Option Addr} {sl26 : Array (Option Value)} {oc26 kV26 dc26 pm26 cd26 ct26 : Value} (X : K.In h) (G : h.Ns mainGlobals mg) (a26 : PySem.W.nsIn K mainGlobals "can_stand" = some (some (.ref f26))) (l26 : K.lookup f26 = some ⟨oc26, od26, .func (PySem.W.fnOf "can_stand" "can_stand" (defArgs sCan) (defBody sCan) (defScope sCan) .none kV26 dc26 pm26 an26 cd26 ct26), sl26⟩) (c26 : PySem.W.codeIn K cd26 "can_stand" = true) (k26 : PySem.W.keepIn K (.ref f26) = true) :
    Dfn K mg "can_stand" sCan ["book", "first", "log"] f26 (PySem.W.fnOf "can_stand" "can_stand" (defArgs sCan) (defBody sCan) (defScope sCan) .none kV26 dc26 pm26 an26 cd26 ct26) :=
  have F := fun_mk (st := sCan) l26 c26 k26
  ⟨F, PySem.W.mg_of X G a26, F.binds (ps := ["book", "first", "log"]) fun _ _ _ _ _ _ us hl => match us, hl with | [_, _, _], _ => rfl⟩
theorem has_27 {K : PySem.W.Frag} {h : Heap} {mg : Str → Option Value} {f27 : Addr} {od27 an27 : Option Addr} {sl27 : Array (Option Value)} {oc27 kV27 dc27 pm27 cd27 ct27 : Value} (X : K.In h) (G : h.Ns mainGlobals mg) (a27 : PySem.W.nsIn K mainGlobals "far_from" = some (some (.ref f27))) (l27 : K.lookup f27 = some ⟨oc27, od27, .func (PySem.W.fnOf "far_from" "far_from" (defArgs sFar) (defBody sFar) (defScope sFar) .none kV27 dc27 pm27 an27 cd27 ct27), sl27⟩) (c27 : PySem.W.codeIn K cd27 "far_from" = true) (k27 : PySem.W.keepIn K (.ref f27) = true) :
    Dfn K mg "far_from" sFar ["book", "wanted"] f27 (PySem.W.fnOf "far_from" "far_from" (defArgs sFar) (defBody sFar) (defScope sFar) .none kV27 dc27 pm27 an27 cd27 ct27) :=
  have F := fun_mk (st := sFar) l27 c27 k27
  ⟨F, PySem.W.mg_of X G a27, F.binds (ps := ["book", "wanted"]) fun _ _ _ _ _ _ us hl => match us, hl with | [_, _], _ => rfl⟩
theorem has_28 {K : PySem.W.Frag} {h : Heap} {mg : Str → Option Value} {f28 : Addr} {od28 an28 : Option Addr} {sl28 : Array (Option Value)} {oc28 kV28 dc28 pm28 cd28 ct28 : Value} (X : K.In h) (G : h.Ns mainGlobals mg) (a28 : PySem.W.nsIn K mainGlobals "shortest_log" = some (some (.ref f28))) (l28 : K.lookup f28 = some ⟨oc28, od28, .func (PySem.W.fnOf "shortest_log" "shortest_log" (defArgs sShort) (defBody sShort) (defScope sShort) .none kV28 dc28 pm28 an28 cd28 ct28), sl28⟩) (c28 : PySem.W.codeIn K cd28 "shortest_log" = true) (k28 : PySem.W.keepIn K (.ref f28) = true) :
    Dfn K mg "shortest_log" sShort ["book", "first", "wanted"] f28 (PySem.W.fnOf "shortest_log" "shortest_log" (defArgs sShort) (defBody sShort) (defScope sShort) .none kV28 dc28 pm28 an28 cd28 ct28) :=
  have F := fun_mk (st := sShort) l28 c28 k28
  ⟨F, PySem.W.mg_of X G a28, F.binds (ps := ["book", "first", "wanted"]) fun _ _ _ _ _ _ us hl => match us, hl with | [_, _, _], _ => rfl⟩
theorem has_30 {K : PySem.W.Frag} {h : Heap} {mg : Str → Option Value} {f30 : Addr} {od30 an30 : Option Addr} {sl30 : Array (Option Value)} {oc30 kV30 dc30 pm30 cd30 ct30 : Value} (X : K.In h) (G : h.Ns mainGlobals mg) (a30 : PySem.W.nsIn K mainGlobals "_law_dice" = some (some (.ref f30))) (l30 : K.lookup f30 = some ⟨oc30, od30, .func (PySem.W.fnOf "_law_dice" "_law_dice" (defArgs sDice) (defBody sDice) (defScope sDice) .none kV30 dc30 pm30 an30 cd30 ct30), sl30⟩) (c30 : PySem.W.codeIn K cd30 "_law_dice" = true) (k30 : PySem.W.keepIn K (.ref f30) = true) :
    Dfn K mg "_law_dice" sDice ["_law_script"] f30 (PySem.W.fnOf "_law_dice" "_law_dice" (defArgs sDice) (defBody sDice) (defScope sDice) .none kV30 dc30 pm30 an30 cd30 ct30) :=
  have F := fun_mk (st := sDice) l30 c30 k30
  ⟨F, PySem.W.mg_of X G a30, F.binds (ps := ["_law_script"]) fun _ _ _ _ _ _ us hl => match us, hl with | [_], _ => rfl⟩
theorem has_31 {K : PySem.W.Frag} {h : Heap} {mg : Str → Option Value} {f31 : Addr} {od31 an31 : Option Addr} {sl31 : Array (Option Value)} {oc31 kV31 dc31 pm31 cd31 ct31 : Value} (X : K.In h) (G : h.Ns mainGlobals mg) (a31 : PySem.W.nsIn K mainGlobals "_law_draw" = some (some (.ref f31))) (l31 : K.lookup f31 = some ⟨oc31, od31, .func (PySem.W.fnOf "_law_draw" "_law_draw" (defArgs sDraw) (defBody sDraw) (defScope sDraw) .none kV31 dc31 pm31 an31 cd31 ct31), sl31⟩) (c31 : PySem.W.codeIn K cd31 "_law_draw" = true) (k31 : PySem.W.keepIn K (.ref f31) = true) :
    Dfn K mg "_law_draw" sDraw ["_law_dice_here", "_law_sides"] f31 (PySem.W.fnOf "_law_draw" "_law_draw" (defArgs sDraw) (defBody sDraw) (defScope sDraw) .none kV31 dc31 pm31 an31 cd31 ct31) :=
  have F := fun_mk (st := sDraw) l31 c31 k31
  ⟨F, PySem.W.mg_of X G a31, F.binds (ps := ["_law_dice_here", "_law_sides"]) fun _ _ _ _ _ _ us hl => match us, hl with | [_, _], _ => rfl⟩
theorem has_32 {K : PySem.W.Frag} {h : Heap} {mg : Str → Option Value} {f32 : Addr} {od32 an32 : Option Addr} {sl32 : Array (Option Value)} {oc32 kV32 dc32 pm32 cd32 ct32 : Value} (X : K.In h) (G : h.Ns mainGlobals mg) (a32 : PySem.W.nsIn K mainGlobals "_law_pairs" = some (some (.ref f32))) (l32 : K.lookup f32 = some ⟨oc32, od32, .func (PySem.W.fnOf "_law_pairs" "_law_pairs" (defArgs sLPairs) (defBody sLPairs) (defScope sLPairs) .none kV32 dc32 pm32 an32 cd32 ct32), sl32⟩) (c32 : PySem.W.codeIn K cd32 "_law_pairs" = true) (k32 : PySem.W.keepIn K (.ref f32) = true) :
    Dfn K mg "_law_pairs" sLPairs ["_law_size"] f32 (PySem.W.fnOf "_law_pairs" "_law_pairs" (defArgs sLPairs) (defBody sLPairs) (defScope sLPairs) .none kV32 dc32 pm32 an32 cd32 ct32) :=
  have F := fun_mk (st := sLPairs) l32 c32 k32
  ⟨F, PySem.W.mg_of X G a32, F.binds (ps := ["_law_size"]) fun _ _ _ _ _ _ us hl => match us, hl with | [_], _ => rfl⟩
theorem has_33 {K : PySem.W.Frag} {h : Heap} {mg : Str → Option Value} {f33 : Addr} {od33 an33 : Option Addr} {sl33 : Array (Option Value)} {oc33 kV33 dc33 pm33 cd33 ct33 : Value} (X : K.In h) (G : h.Ns mainGlobals mg) (a33 : PySem.W.nsIn K mainGlobals "_law_rows" = some (some (.ref f33))) (l33 : K.lookup f33 = some ⟨oc33, od33, .func (PySem.W.fnOf "_law_rows" "_law_rows" (defArgs sLRows) (defBody sLRows) (defScope sLRows) .none kV33 dc33 pm33 an33 cd33 ct33), sl33⟩) (c33 : PySem.W.codeIn K cd33 "_law_rows" = true) (k33 : PySem.W.keepIn K (.ref f33) = true) :
    Dfn K mg "_law_rows" sLRows ["_law_size", "_law_pairs_here"] f33 (PySem.W.fnOf "_law_rows" "_law_rows" (defArgs sLRows) (defBody sLRows) (defScope sLRows) .none kV33 dc33 pm33 an33 cd33 ct33) :=
  have F := fun_mk (st := sLRows) l33 c33 k33
  ⟨F, PySem.W.mg_of X G a33, F.binds (ps := ["_law_size", "_law_pairs_here"]) fun _ _ _ _ _ _ us hl => match us, hl with | [_, _], _ => rfl⟩
theorem has_34 {K : PySem.W.Frag} {h : Heap} {mg : Str → Option Value} {f34 : Addr} {od34 an34 : Option Addr} {sl34 : Array (Option Value)} {oc34 kV34 dc34 pm34 cd34 ct34 : Value} (X : K.In h) (G : h.Ns mainGlobals mg) (a34 : PySem.W.nsIn K mainGlobals "_law_piece" = some (some (.ref f34))) (l34 : K.lookup f34 = some ⟨oc34, od34, .func (PySem.W.fnOf "_law_piece" "_law_piece" (defArgs sPiece) (defBody sPiece) (defScope sPiece) .none kV34 dc34 pm34 an34 cd34 ct34), sl34⟩) (c34 : PySem.W.codeIn K cd34 "_law_piece" = true) (k34 : PySem.W.keepIn K (.ref f34) = true) :
    Dfn K mg "_law_piece" sPiece ["_law_rows_here", "_law_inside", "_law_start"] f34 (PySem.W.fnOf "_law_piece" "_law_piece" (defArgs sPiece) (defBody sPiece) (defScope sPiece) .none kV34 dc34 pm34 an34 cd34 ct34) :=
  have F := fun_mk (st := sPiece) l34 c34 k34
  ⟨F, PySem.W.mg_of X G a34, F.binds (ps := ["_law_rows_here", "_law_inside", "_law_start"]) fun _ _ _ _ _ _ us hl => match us, hl with | [_, _, _], _ => rfl⟩
theorem has_35 {K : PySem.W.Frag} {h : Heap} {mg : Str → Option Value} {f35 : Addr} {od35 an35 : Option Addr} {sl35 : Array (Option Value)} {oc35 kV35 dc35 pm35 cd35 ct35 : Value} (X : K.In h) (G : h.Ns mainGlobals mg) (a35 : PySem.W.nsIn K mainGlobals "_law_drawn_ties" = some (some (.ref f35))) (l35 : K.lookup f35 = some ⟨oc35, od35, .func (PySem.W.fnOf "_law_drawn_ties" "_law_drawn_ties" (defArgs sDrawn) (defBody sDrawn) (defScope sDrawn) .none kV35 dc35 pm35 an35 cd35 ct35), sl35⟩) (c35 : PySem.W.codeIn K cd35 "_law_drawn_ties" = true) (k35 : PySem.W.keepIn K (.ref f35) = true) :
    Dfn K mg "_law_drawn_ties" sDrawn ["_law_dice_here", "_law_many", "_law_pairs_here"] f35 (PySem.W.fnOf "_law_drawn_ties" "_law_drawn_ties" (defArgs sDrawn) (defBody sDrawn) (defScope sDrawn) .none kV35 dc35 pm35 an35 cd35 ct35) :=
  have F := fun_mk (st := sDrawn) l35 c35 k35
  ⟨F, PySem.W.mg_of X G a35, F.binds (ps := ["_law_dice_here", "_law_many", "_law_pairs_here"]) fun _ _ _ _ _ _ us hl => match us, hl with | [_, _, _], _ => rfl⟩
theorem has_36 {K : PySem.W.Frag} {h : Heap} {mg : Str → Option Value} {f36 : Addr} {od36 an36 : Option Addr} {sl36 : Array (Option Value)} {oc36 kV36 dc36 pm36 cd36 ct36 : Value} (X : K.In h) (G : h.Ns mainGlobals mg) (a36 : PySem.W.nsIn K mainGlobals "_law_mixed" = some (some (.ref f36))) (l36 : K.lookup f36 = some ⟨oc36, od36, .func (PySem.W.fnOf "_law_mixed" "_law_mixed" (defArgs sMixed) (defBody sMixed) (defScope sMixed) .none kV36 dc36 pm36 an36 cd36 ct36), sl36⟩) (c36 : PySem.W.codeIn K cd36 "_law_mixed" = true) (k36 : PySem.W.keepIn K (.ref f36) = true) :
    Dfn K mg "_law_mixed" sMixed ["_law_dice_here", "_law_items"] f36 (PySem.W.fnOf "_law_mixed" "_law_mixed" (defArgs sMixed) (defBody sMixed) (defScope sMixed) .none kV36 dc36 pm36 an36 cd36 ct36) :=
  have F := fun_mk (st := sMixed) l36 c36 k36
  ⟨F, PySem.W.mg_of X G a36, F.binds (ps := ["_law_dice_here", "_law_items"]) fun _ _ _ _ _ _ us hl => match us, hl with | [_, _], _ => rfl⟩
theorem has_37 {K : PySem.W.Frag} {h : Heap} {mg : Str → Option Value} {f37 : Addr} {od37 an37 : Option Addr} {sl37 : Array (Option Value)} {oc37 kV37 dc37 pm37 cd37 ct37 : Value} (X : K.In h) (G : h.Ns mainGlobals mg) (a37 : PySem.W.nsIn K mainGlobals "_law_book" = some (some (.ref f37))) (l37 : K.lookup f37 = some ⟨oc37, od37, .func (PySem.W.fnOf "_law_book" "_law_book" (defArgs sLBook) (defBody sLBook) (defScope sLBook) .none kV37 dc37 pm37 an37 cd37 ct37), sl37⟩) (c37 : PySem.W.codeIn K cd37 "_law_book" = true) (k37 : PySem.W.keepIn K (.ref f37) = true) :
    Dfn K mg "_law_book" sLBook ["_law_dice_here", "_law_most"] f37 (PySem.W.fnOf "_law_book" "_law_book" (defArgs sLBook) (defBody sLBook) (defScope sLBook) .none kV37 dc37 pm37 an37 cd37 ct37) :=
  have F := fun_mk (st := sLBook) l37 c37 k37
  ⟨F, PySem.W.mg_of X G a37, F.binds (ps := ["_law_dice_here", "_law_most"]) fun _ _ _ _ _ _ us hl => match us, hl with | [_, _], _ => rfl⟩
theorem has_38 {K : PySem.W.Frag} {h : Heap} {mg : Str → Option Value} {f38 : Addr} {od38 an38 : Option Addr} {sl38 : Array (Option Value)} {oc38 kV38 dc38 pm38 cd38 ct38 : Value} (X : K.In h) (G : h.Ns mainGlobals mg) (a38 : PySem.W.nsIn K mainGlobals "_law_ways" = some (some (.ref f38))) (l38 : K.lookup f38 = some ⟨oc38, od38, .func (PySem.W.fnOf "_law_ways" "_law_ways" (defArgs sWays) (defBody sWays) (defScope sWays) .none kV38 dc38 pm38 an38 cd38 ct38), sl38⟩) (c38 : PySem.W.codeIn K cd38 "_law_ways" = true) (k38 : PySem.W.keepIn K (.ref f38) = true) :
    Dfn K mg "_law_ways" sWays ["_law_rows_here", "_law_first", "_law_wanted", "_law_most"] f38 (PySem.W.fnOf "_law_ways" "_law_ways" (defArgs sWays) (defBody sWays) (defScope sWays) .none kV38 dc38 pm38 an38 cd38 ct38) :=
  have F := fun_mk (st := sWays) l38 c38 k38
  ⟨F, PySem.W.mg_of X G a38, F.binds (ps := ["_law_rows_here", "_law_first", "_law_wanted", "_law_most"]) fun _ _ _ _ _ _ us hl => match us, hl with | [_, _, _, _], _ => rfl⟩
theorem has_39 {K : PySem.W.Frag} {h : Heap} {mg : Str → Option Value} {f39 : Addr} {od39 an39 : Option Addr} {sl39 : Array (Option Value)} {oc39 kV39 dc39 pm39 cd39 ct39 : Value} (X : K.In h) (G : h.Ns mainGlobals mg) (a39 : PySem.W.nsIn K mainGlobals "_law_orders" = some (some (.ref f39))) (l39 : K.lookup f39 = some ⟨oc39, od39, .func (PySem.W.fnOf "_law_orders" "_law_orders" (defArgs sOrders) (defBody sOrders) (defScope sOrders) .none kV39 dc39 pm39 an39 cd39 ct39), sl39⟩) (c39 : PySem.W.codeIn K cd39 "_law_orders" = true) (k39 : PySem.W.keepIn K (.ref f39) = true) :
    Dfn K mg "_law_orders" sOrders ["_law_contents"] f39 (PySem.W.fnOf "_law_orders" "_law_orders" (defArgs sOrders) (defBody sOrders) (defScope sOrders) .none kV39 dc39 pm39 an39 cd39 ct39) :=
  have F := fun_mk (st := sOrders) l39 c39 k39
  ⟨F, PySem.W.mg_of X G a39, F.binds (ps := ["_law_contents"]) fun _ _ _ _ _ _ us hl => match us, hl with | [_], _ => rfl⟩
/-! ### the law, from the facts -/
theorem law_ok {l : PySem.W.OpenLaw} {w : World} {K : PySem.W.Frag} {mg : Str → Option Value} {fL fI fS C : Addr} {fdL fdI fdS : FuncData} (base : Heap) (T : Txt mg) (B : BTxt K mg C) (W : WTxt K mg C fS fdS) (M : Mk K C fI)
    (FL : Fun K "law" "law" sLaw fL fdL) (FI : Fun K "__init__" "Book.__init__" sInit fI fdI) (bI : Binds K fdI ["self", "size", "ties"] []) (FS : Fun K "size" "Book.size" sSize fS fdS)
    {f1 : Addr} {fd1 : FuncData} (D1 : Dfn K mg "is_integer" sInteger ["thing"] f1 fd1)
    {f2 : Addr} {fd2 : FuncData} (D2 : Dfn K mg "is_within" sWithin ["thing", "least", "most"] f2 fd2)
    {f3 : Addr} {fd3 : FuncData} (D3 : Dfn K mg "is_index" sIndex ["thing", "many"] f3 fd3)
    {f4 : Addr} {fd4 : FuncData} (D4 : Dfn K mg "is_rising_pair" sPair ["thing", "many"] f4 fd4)
    {f5 : Addr} {fd5 : FuncData} (D5 : Dfn K mg "are_rising_pairs" sPairs ["thing", "many", "most"] f5 fd5)
    {f6 : Addr} {fd6 : FuncData} (D6 : Dfn K mg "beside_lists" sBeside ["many", "pairs"] f6 fd6)
    {f7 : Addr} {fd7 : FuncData} (D7 : Dfn K mg "reached" sReached ["rows", "inside", "start"] f7 fd7)
    {f17 : Addr} {fd17 : FuncData} (D17 : Dfn K mg "tied_of" sTied ["book"] f17 fd17)
    {f21 : Addr} {fd21 : FuncData} (D21 : Dfn K mg "is_entry" sEntry ["book", "thing"] f21 fd21)
    {f22 : Addr} {fd22 : FuncData} (D22 : Dfn K mg "check_log" sChkLog ["book", "log"] f22 fd22)
    {f23 : Addr} {fd23 : FuncData} (D23 : Dfn K mg "check_contents" sChkCon ["book", "contents"] f23 fd23)
    {f24 : Addr} {fd24 : FuncData} (D24 : Dfn K mg "behind_entry" sBehind ["book", "contents", "entry"] f24 fd24)
    {f25 : Addr} {fd25 : FuncData} (D25 : Dfn K mg "standings_behind" sStand ["book", "first", "log"] f25 fd25)
    {f26 : Addr} {fd26 : FuncData} (D26 : Dfn K mg "can_stand" sCan ["book", "first", "log"] f26 fd26)
    {f27 : Addr} {fd27 : FuncData} (D27 : Dfn K mg "far_from" sFar ["book", "wanted"] f27 fd27)
    {f28 : Addr} {fd28 : FuncData} (D28 : Dfn K mg "shortest_log" sShort ["book", "first", "wanted"] f28 fd28)
    {f30 : Addr} {fd30 : FuncData} (D30 : Dfn K mg "_law_dice" sDice ["_law_script"] f30 fd30)
    {f31 : Addr} {fd31 : FuncData} (D31 : Dfn K mg "_law_draw" sDraw ["_law_dice_here", "_law_sides"] f31 fd31)
    {f32 : Addr} {fd32 : FuncData} (D32 : Dfn K mg "_law_pairs" sLPairs ["_law_size"] f32 fd32)
    {f33 : Addr} {fd33 : FuncData} (D33 : Dfn K mg "_law_rows" sLRows ["_law_size", "_law_pairs_here"] f33 fd33)
    {f34 : Addr} {fd34 : FuncData} (D34 : Dfn K mg "_law_piece" sPiece ["_law_rows_here", "_law_inside", "_law_start"] f34 fd34)
    {f35 : Addr} {fd35 : FuncData} (D35 : Dfn K mg "_law_drawn_ties" sDrawn ["_law_dice_here", "_law_many", "_law_pairs_here"] f35 fd35)
    {f36 : Addr} {fd36 : FuncData} (D36 : Dfn K mg "_law_mixed" sMixed ["_law_dice_here", "_law_items"] f36 fd36)
    {f37 : Addr} {fd37 : FuncData} (D37 : Dfn K mg "_law_book" sLBook ["_law_dice_here", "_law_most"] f37 fd37)
    {f38 : Addr} {fd38 : FuncData} (D38 : Dfn K mg "_law_ways" sWays ["_law_rows_here", "_law_first", "_law_wanted", "_law_most"] f38 fd38)
    {f39 : Addr} {fd39 : FuncData} (D39 : Dfn K mg "_law_orders" sOrders ["_law_contents"] f39 fd39) :
    FnOk l.prog w K mg base CX0 8 fL fdL ["_law_script"] (spLaw K) := by
  have c1 := ok_integer (P := l.prog) (w := w) (base := base) D1 T
  have c2 := ok_within D2 c1
  have c3 := ok_index D3 c2
  have c4 := ok_pair D4 T c3
  have c5 := ok_pairs D5 T c4
  have c6 := ok_beside (P := l.prog) (w := w) (base := base) D6 T
  have c7 := ok_reached (P := l.prog) (w := w) (base := base) D7 T
  have cI := ok_init FI T B c2 c5 c6 c7
  have c17 := ok_tied (P := l.prog) (w := w) (base := base) D17 B
  have cS := ok_size (P := l.prog) (w := w) (base := base) FS B
  have c21 := ok_entry D21 T B W cS c3
  have c22 := ok_chklog D22 T W c21
  have c23 := ok_chkcon D23 T B W cS c3
  have c24 := ok_behind D24 T c17
  have c25 := ok_stand D25 T c24
  have c26 := ok_can D26 c23 c22 c25
  have c27 := ok_far D27 T c17
  have c28 := ok_short D28 T c23 c27 c17
  have c30 := ok_dice (P := l.prog) (w := w) (base := base) D30 T
  have c31 := ok_draw (P := l.prog) (w := w) (base := base) D31 T
  have c32 := ok_lpairs (P := l.prog) (w := w) (base := base) D32 T
  have c33 := ok_lrows (P := l.prog) (w := w) (base := base) D33 T
  have c34 := ok_piece (P := l.prog) (w := w) (base := base) D34 T
  have c35 := ok_drawn D35 T c31
  have c36 := ok_mixed D36 T c31
  have c37 := ok_lbook D37 c31 c35 c36 c32
  have c38 := ok_ways (P := l.prog) (w := w) (base := base) D38 T
  have c39 := ok_orders (P := l.prog) (w := w) (base := base) D39
  exact ok_law FL T B M cI bI c30 c37 c33 c34 c31 c28 c38 c26 c39
/-- all that k_is is asked -/
theorem all_mk {l : PySem.W.OpenLaw} {w : World} {K : PySem.W.Frag} {h : Heap} {mg : Str → Option Value} {fa C pS aW : Addr} {rS : List Value} {odW : Option Addr} {slW : Array (Option Value)} {nW : Nat} {t1 t2 t3 t4 t5 : PySem.Tok}
    {fI : Addr} {odI anI : Option Addr} {slI : Array (Option Value)} {ocI kVI dcI pmI cdI ctI : Value} {fS : Addr} {odS anS : Option Addr} {slS : Array (Option Value)} {ocS kVS dcS pmS cdS ctS : Value} {fL : Addr} {odL anL : Option Addr} {slL : Array (Option Value)} {ocL kVL dcL pmL cdL ctL : Value} {f1 : Addr} {od1 an1 : Option Addr} {sl1 : Array (Option Value)} {oc1 kV1 dc1 pm1 cd1 ct1 : Value} {f2 : Addr} {od2 an2 : Option Addr} {sl2 : Array (Option Value)} {oc2 kV2 dc2 pm2 cd2 ct2 : Value} {f3 : Addr} {od3 an3 : Option Addr} {sl3 : Array (Option Value)} {oc3 kV3 dc3 pm3 cd3 ct3 : Value} {f4 : Addr} {od4 an4 : Option Addr} {sl4 : Array (Option Value)} {oc4 kV4 dc4 pm4 cd4 ct4 : Value} {f5 : Addr} {od5 an5 : Option Addr} {sl5 : Array (Option Value)} {oc5 kV5 dc5 pm5 cd5 ct5 : Value} {f6 : Addr} {od6 an6 : Option Addr} {sl6 : Array (Option Value)} {oc6 kV6 dc6 pm6 cd6 ct6 : Value} {f7 : Addr} {od7 an7 : Option Addr} {sl7 : Array (Option Value)} {oc7 kV7 dc7 pm7 cd7 ct7 : Value} {f17 : Addr} {od17 an17 : Option Addr} {sl17 : Array (Option Value)} {oc17 kV17 dc17 pm17 cd17 ct17 : Value} {f21 : Addr} {od21 an21 : Option Addr} {sl21 : Array (Option Value)} {oc21 kV21 dc21 pm21 cd21 ct21 : Value} {f22 : Addr} {od22 an22 : Option Addr} {sl22 : Array (Option Value)} {oc22 kV22 dc22 pm22 cd22 ct22 : Value} {f23 : Addr} {od23 an23 : Option Addr} {sl23 : Array (Option Value)} {oc23 kV23 dc23 pm23 cd23 ct23 : Value} {f24 : Addr} {od24 an24 : Option Addr} {sl24 : Array (Option Value)} {oc24 kV24 dc24 pm24 cd24 ct24 : Value} {f25 : Addr} {od25 an25 : Option Addr} {sl25 : Array (Option Value)} {oc25 kV25 dc25 pm25 cd25 ct25 : Value} {f26 : Addr} {od26 an26 : Option Addr} {sl26 : Array (Option Value)} {oc26 kV26 dc26 pm26 cd26 ct26 : Value} {f27 : Addr} {od27 an27 : Option Addr} {sl27 : Array (Option Value)} {oc27 kV27 dc27 pm27 cd27 ct27 : Value} {f28 : Addr} {od28 an28 : Option Addr} {sl28 : Array (Option Value)} {oc28 kV28 dc28 pm28 cd28 ct28 : Value} {f30 : Addr} {od30 an30 : Option Addr} {sl30 : Array (Option Value)} {oc30 kV30 dc30 pm30 cd30 ct30 : Value} {f31 : Addr} {od31 an31 : Option Addr} {sl31 : Array (Option Value)} {oc31 kV31 dc31 pm31 cd31 ct31 : Value} {f32 : Addr} {od32 an32 : Option Addr} {sl32 : Array (Option Value)} {oc32 kV32 dc32 pm32 cd32 ct32 : Value} {f33 : Addr} {od33 an33 : Option Addr} {sl33 : Array (Option Value)} {oc33 kV33 dc33 pm33 cd33 ct33 : Value} {f34 : Addr} {od34 an34 : Option Addr} {sl34 : Array (Option Value)} {oc34 kV34 dc34 pm34 cd34 ct34 : Value} {f35 : Addr} {od35 an35 : Option Addr} {sl35 : Array (Option Value)} {oc35 kV35 dc35 pm35 cd35 ct35 : Value} {f36 : Addr} {od36 an36 : Option Addr} {sl36 : Array (Option Value)} {oc36 kV36 dc36 pm36 cd36 ct36 : Value} {f37 : Addr} {od37 an37 : Option Addr} {sl37 : Array (Option Value)} {oc37 kV37 dc37 pm37 cd37 ct37 : Value} {f38 : Addr} {od38 an38 : Option Addr} {sl38 : Array (Option Value)} {oc38 kV38 dc38 pm38 cd38 ct38 : Value} {f39 : Addr} {od39 an39 : Option Addr} {sl39 : Array (Option Value)} {oc39 kV39 dc39 pm39 cd39 ct39 : Value} (X : K.In h) (G : h.Ns mainGlobals mg) (hfa : mg "law" = some (.ref fa))
    (aC : PySem.W.nsIn K mainGlobals "Book" = some (some (.ref C)))
    (aI : PySem.W.findIn K (.ref C) "__init__" = some (some (.ref fI)))
    (iI : PySem.W.isFn K (.ref fI) = true)
    (lI : K.lookup fI = some ⟨ocI, odI, .func (PySem.W.fnOf "__init__" "Book.__init__" (defArgs sInit) (defBody sInit) (defScope sInit) .none kVI dcI pmI anI cdI ctI), slI⟩)
    (cI : PySem.W.codeIn K cdI "Book.__init__" = true)
    (kI : PySem.W.keepIn K (.ref fI) = true)
    (pA : PySem.W.findIn K (.ref C) "size" = some (some (.ref pS)))
    (pG : PySem.W.specialIn K (.ref pS) "__get__" = some (some (.builtin "property.__get__")))
    (pT : PySem.W.takesIn K (.ref pS) = some true)
    (pR : PySem.W.recIn K pS "property" = some (.ref fS :: rS))
    (lS : K.lookup fS = some ⟨ocS, odS, .func (PySem.W.fnOf "size" "Book.size" (defArgs sSize) (defBody sSize) (defScope sSize) .none kVS dcS pmS anS cdS ctS), slS⟩)
    (cS : PySem.W.codeIn K cdS "Book.size" = true)
    (kS : PySem.W.keepIn K (.ref fS) = true)
    (pg : PySem.W.plainGet K C Str.empty = true)
    (hd : PySem.W.hasDictIn K C = true)
    (po : PySem.W.plainOver K C = true)
    (sa : PySem.W.findIn K (.ref C) "__setattr__" = some (some (.builtin "object.__setattr__")))
    (mk : PySem.W.makesIn K C = true)
    (kC : PySem.W.keepIn K (.ref C) = true)
    (nS : PySem.W.findIn K (.ref C) "kept_size" = some none)
    (nT : PySem.W.findIn K (.ref C) "kept_ties" = some none)
    (nF : PySem.W.findIn K (.ref C) "kept_facts" = some none)
    (m1 : PySem.W.nsIn K mainGlobals "MOST_CONTENTS" = some (some (.int 8 t1)))
    (m2 : PySem.W.nsIn K mainGlobals "MOST_TIES" = some (some (.int 28 t2)))
    (m3 : PySem.W.nsIn K mainGlobals "MOST_ENTRIES" = some (some (.int 40 t3)))
    (wA : PySem.W.nsIn K mainGlobals "WORDS" = some (some (.ref aW)))
    (wL : K.lookup aW = some ⟨.type "tuple", odW, .seq #[.str "order" t4, .str "read" t5] nW, slW⟩)
    (z0 : PySem.W.nsIn K mainGlobals "isinstance" = some none)
    (z1 : PySem.W.nsIn K mainGlobals "int" = some none)
    (z2 : PySem.W.nsIn K mainGlobals "bool" = some none)
    (z3 : PySem.W.nsIn K mainGlobals "tuple" = some none)
    (z4 : PySem.W.nsIn K mainGlobals "list" = some none)
    (z5 : PySem.W.nsIn K mainGlobals "str" = some none)
    (z6 : PySem.W.nsIn K mainGlobals "len" = some none)
    (z7 : PySem.W.nsIn K mainGlobals "all" = some none)
    (z8 : PySem.W.nsIn K mainGlobals "any" = some none)
    (z9 : PySem.W.nsIn K mainGlobals "range" = some none)
    (z10 : PySem.W.nsIn K mainGlobals "sorted" = some none)
    (z11 : PySem.W.nsIn K mainGlobals "abs" = some none)
    (aL : PySem.W.nsIn K mainGlobals "law" = some (some (.ref fL)))
    (lL : K.lookup fL = some ⟨ocL, odL, .func (PySem.W.fnOf "law" "law" (defArgs sLaw) (defBody sLaw) (defScope sLaw) .none kVL dcL pmL anL cdL ctL), slL⟩)
    (cL : PySem.W.codeIn K cdL "law" = true)
    (kL : PySem.W.keepIn K (.ref fL) = true)
    (a1 : PySem.W.nsIn K mainGlobals "is_integer" = some (some (.ref f1)))
    (l1 : K.lookup f1 = some ⟨oc1, od1, .func (PySem.W.fnOf "is_integer" "is_integer" (defArgs sInteger) (defBody sInteger) (defScope sInteger) .none kV1 dc1 pm1 an1 cd1 ct1), sl1⟩)
    (c1 : PySem.W.codeIn K cd1 "is_integer" = true)
    (k1 : PySem.W.keepIn K (.ref f1) = true)
    (a2 : PySem.W.nsIn K mainGlobals "is_within" = some (some (.ref f2)))
    (l2 : K.lookup f2 = some ⟨oc2, od2, .func (PySem.W.fnOf "is_within" "is_within" (defArgs sWithin) (defBody sWithin) (defScope sWithin) .none kV2 dc2 pm2 an2 cd2 ct2), sl2⟩)
    (c2 : PySem.W.codeIn K cd2 "is_within" = true)
    (k2 : PySem.W.keepIn K (.ref f2) = true)
    (a3 : PySem.W.nsIn K mainGlobals "is_index" = some (some (.ref f3)))
    (l3 : K.lookup f3 = some ⟨oc3, od3, .func (PySem.W.fnOf "is_index" "is_index" (defArgs sIndex) (defBody sIndex) (defScope sIndex) .none kV3 dc3 pm3 an3 cd3 ct3), sl3⟩)
    (c3 : PySem.W.codeIn K cd3 "is_index" = true)
    (k3 : PySem.W.keepIn K (.ref f3) = true)
    (a4 : PySem.W.nsIn K mainGlobals "is_rising_pair" = some (some (.ref f4)))
    (l4 : K.lookup f4 = some ⟨oc4, od4, .func (PySem.W.fnOf "is_rising_pair" "is_rising_pair" (defArgs sPair) (defBody sPair) (defScope sPair) .none kV4 dc4 pm4 an4 cd4 ct4), sl4⟩)
    (c4 : PySem.W.codeIn K cd4 "is_rising_pair" = true)
    (k4 : PySem.W.keepIn K (.ref f4) = true)
    (a5 : PySem.W.nsIn K mainGlobals "are_rising_pairs" = some (some (.ref f5)))
    (l5 : K.lookup f5 = some ⟨oc5, od5, .func (PySem.W.fnOf "are_rising_pairs" "are_rising_pairs" (defArgs sPairs) (defBody sPairs) (defScope sPairs) .none kV5 dc5 pm5 an5 cd5 ct5), sl5⟩)
    (c5 : PySem.W.codeIn K cd5 "are_rising_pairs" = true)
    (k5 : PySem.W.keepIn K (.ref f5) = true)
    (a6 : PySem.W.nsIn K mainGlobals "beside_lists" = some (some (.ref f6)))
    (l6 : K.lookup f6 = some ⟨oc6, od6, .func (PySem.W.fnOf "beside_lists" "beside_lists" (defArgs sBeside) (defBody sBeside) (defScope sBeside) .none kV6 dc6 pm6 an6 cd6 ct6), sl6⟩)
    (c6 : PySem.W.codeIn K cd6 "beside_lists" = true)
    (k6 : PySem.W.keepIn K (.ref f6) = true)
    (a7 : PySem.W.nsIn K mainGlobals "reached" = some (some (.ref f7)))
    (l7 : K.lookup f7 = some ⟨oc7, od7, .func (PySem.W.fnOf "reached" "reached" (defArgs sReached) (defBody sReached) (defScope sReached) .none kV7 dc7 pm7 an7 cd7 ct7), sl7⟩)
    (c7 : PySem.W.codeIn K cd7 "reached" = true)
    (k7 : PySem.W.keepIn K (.ref f7) = true)
    (a17 : PySem.W.nsIn K mainGlobals "tied_of" = some (some (.ref f17)))
    (l17 : K.lookup f17 = some ⟨oc17, od17, .func (PySem.W.fnOf "tied_of" "tied_of" (defArgs sTied) (defBody sTied) (defScope sTied) .none kV17 dc17 pm17 an17 cd17 ct17), sl17⟩)
    (c17 : PySem.W.codeIn K cd17 "tied_of" = true)
    (k17 : PySem.W.keepIn K (.ref f17) = true)
    (a21 : PySem.W.nsIn K mainGlobals "is_entry" = some (some (.ref f21)))
    (l21 : K.lookup f21 = some ⟨oc21, od21, .func (PySem.W.fnOf "is_entry" "is_entry" (defArgs sEntry) (defBody sEntry) (defScope sEntry) .none kV21 dc21 pm21 an21 cd21 ct21), sl21⟩)
    (c21 : PySem.W.codeIn K cd21 "is_entry" = true)
    (k21 : PySem.W.keepIn K (.ref f21) = true)
    (a22 : PySem.W.nsIn K mainGlobals "check_log" = some (some (.ref f22)))
    (l22 : K.lookup f22 = some ⟨oc22, od22, .func (PySem.W.fnOf "check_log" "check_log" (defArgs sChkLog) (defBody sChkLog) (defScope sChkLog) .none kV22 dc22 pm22 an22 cd22 ct22), sl22⟩)
    (c22 : PySem.W.codeIn K cd22 "check_log" = true)
    (k22 : PySem.W.keepIn K (.ref f22) = true)
    (a23 : PySem.W.nsIn K mainGlobals "check_contents" = some (some (.ref f23)))
    (l23 : K.lookup f23 = some ⟨oc23, od23, .func (PySem.W.fnOf "check_contents" "check_contents" (defArgs sChkCon) (defBody sChkCon) (defScope sChkCon) .none kV23 dc23 pm23 an23 cd23 ct23), sl23⟩)
    (c23 : PySem.W.codeIn K cd23 "check_contents" = true)
    (k23 : PySem.W.keepIn K (.ref f23) = true)
    (a24 : PySem.W.nsIn K mainGlobals "behind_entry" = some (some (.ref f24)))
    (l24 : K.lookup f24 = some ⟨oc24, od24, .func (PySem.W.fnOf "behind_entry" "behind_entry" (defArgs sBehind) (defBody sBehind) (defScope sBehind) .none kV24 dc24 pm24 an24 cd24 ct24), sl24⟩)
    (c24 : PySem.W.codeIn K cd24 "behind_entry" = true)
    (k24 : PySem.W.keepIn K (.ref f24) = true)
    (a25 : PySem.W.nsIn K mainGlobals "standings_behind" = some (some (.ref f25)))
    (l25 : K.lookup f25 = some ⟨oc25, od25, .func (PySem.W.fnOf "standings_behind" "standings_behind" (defArgs sStand) (defBody sStand) (defScope sStand) .none kV25 dc25 pm25 an25 cd25 ct25), sl25⟩)
    (c25 : PySem.W.codeIn K cd25 "standings_behind" = true)
    (k25 : PySem.W.keepIn K (.ref f25) = true)
    (a26 : PySem.W.nsIn K mainGlobals "can_stand" = some (some (.ref f26)))
    (l26 : K.lookup f26 = some ⟨oc26, od26, .func (PySem.W.fnOf "can_stand" "can_stand" (defArgs sCan) (defBody sCan) (defScope sCan) .none kV26 dc26 pm26 an26 cd26 ct26), sl26⟩)
    (c26 : PySem.W.codeIn K cd26 "can_stand" = true)
    (k26 : PySem.W.keepIn K (.ref f26) = true)
    (a27 : PySem.W.nsIn K mainGlobals "far_from" = some (some (.ref f27)))
    (l27 : K.lookup f27 = some ⟨oc27, od27, .func (PySem.W.fnOf "far_from" "far_from" (defArgs sFar) (defBody sFar) (defScope sFar) .none kV27 dc27 pm27 an27 cd27 ct27), sl27⟩)
    (c27 : PySem.W.codeIn K cd27 "far_from" = true)
    (k27 : PySem.W.keepIn K (.ref f27) = true)
    (a28 : PySem.W.nsIn K mainGlobals "shortest_log" = some (some (.ref f28)))
    (l28 : K.lookup f28 = some ⟨oc28, od28, .func (PySem.W.fnOf "shortest_log" "shortest_log" (defArgs sShort) (defBody sShort) (defScope sShort) .none kV28 dc28 pm28 an28 cd28 ct28), sl28⟩)
    (c28 : PySem.W.codeIn K cd28 "shortest_log" = true)
    (k28 : PySem.W.keepIn K (.ref f28) = true)
    (a30 : PySem.W.nsIn K mainGlobals "_law_dice" = some (some (.ref f30)))
    (l30 : K.lookup f30 = some ⟨oc30, od30, .func (PySem.W.fnOf "_law_dice" "_law_dice" (defArgs sDice) (defBody sDice) (defScope sDice) .none kV30 dc30 pm30 an30 cd30 ct30), sl30⟩)
    (c30 : PySem.W.codeIn K cd30 "_law_dice" = true)
    (k30 : PySem.W.keepIn K (.ref f30) = true)
    (a31 : PySem.W.nsIn K mainGlobals "_law_draw" = some (some (.ref f31)))
    (l31 : K.lookup f31 = some ⟨oc31, od31, .func (PySem.W.fnOf "_law_draw" "_law_draw" (defArgs sDraw) (defBody sDraw) (defScope sDraw) .none kV31 dc31 pm31 an31 cd31 ct31), sl31⟩)
    (c31 : PySem.W.codeIn K cd31 "_law_draw" = true)
    (k31 : PySem.W.keepIn K (.ref f31) = true)
    (a32 : PySem.W.nsIn K mainGlobals "_law_pairs" = some (some (.ref f32)))
    (l32 : K.lookup f32 = some ⟨oc32, od32, .func (PySem.W.fnOf "_law_pairs" "_law_pairs" (defArgs sLPairs) (defBody sLPairs) (defScope sLPairs) .none kV32 dc32 pm32 an32 cd32 ct32), sl32⟩)
    (c32 : PySem.W.codeIn K cd32 "_law_pairs" = true)
    (k32 : PySem.W.keepIn K (.ref f32) = true)
    (a33 : PySem.W.nsIn K mainGlobals "_law_rows" = some (some (.ref f33)))
    (l33 : K.lookup f33 = some ⟨oc33, od33, .func (PySem.W.fnOf "_law_rows" "_law_rows" (defArgs sLRows) (defBody sLRows) (defScope sLRows) .none kV33 dc33 pm33 an33 cd33 ct33), sl33⟩)
    (c33 : PySem.W.codeIn K cd33 "_law_rows" = true)
    (k33 : PySem.W.keepIn K (.ref f33) = true)
    (a34 : PySem.W.nsIn K mainGlobals "_law_piece" = some (some (.ref f34)))
    (l34 : K.lookup f34 = some ⟨oc34, od34, .func (PySem.W.fnOf "_law_piece" "_law_piece" (defArgs sPiece) (defBody sPiece) (defScope sPiece) .none kV34 dc34 pm34 an34 cd34 ct34), sl34⟩)
    (c34 : PySem.W.codeIn K cd34 "_law_piece" = true)
    (k34 : PySem.W.keepIn K (.ref f34) = true)
    (a35 : PySem.W.nsIn K mainGlobals "_law_drawn_ties" = some (some (.ref f35)))
    (l35 : K.lookup f35 = some ⟨oc35, od35, .func (PySem.W.fnOf "_law_drawn_ties" "_law_drawn_ties" (defArgs sDrawn) (defBody sDrawn) (defScope sDrawn) .none kV35 dc35 pm35 an35 cd35 ct35), sl35⟩)
    (c35 : PySem.W.codeIn K cd35 "_law_drawn_ties" = true)
    (k35 : PySem.W.keepIn K (.ref f35) = true)
    (a36 : PySem.W.nsIn K mainGlobals "_law_mixed" = some (some (.ref f36)))
    (l36 : K.lookup f36 = some ⟨oc36, od36, .func (PySem.W.fnOf "_law_mixed" "_law_mixed" (defArgs sMixed) (defBody sMixed) (defScope sMixed) .none kV36 dc36 pm36 an36 cd36 ct36), sl36⟩)
    (c36 : PySem.W.codeIn K cd36 "_law_mixed" = true)
    (k36 : PySem.W.keepIn K (.ref f36) = true)
    (a37 : PySem.W.nsIn K mainGlobals "_law_book" = some (some (.ref f37)))
    (l37 : K.lookup f37 = some ⟨oc37, od37, .func (PySem.W.fnOf "_law_book" "_law_book" (defArgs sLBook) (defBody sLBook) (defScope sLBook) .none kV37 dc37 pm37 an37 cd37 ct37), sl37⟩)
    (c37 : PySem.W.codeIn K cd37 "_law_book" = true)
    (k37 : PySem.W.keepIn K (.ref f37) = true)
    (a38 : PySem.W.nsIn K mainGlobals "_law_ways" = some (some (.ref f38)))
    (l38 : K.lookup f38 = some ⟨oc38, od38, .func (PySem.W.fnOf "_law_ways" "_law_ways" (defArgs sWays) (defBody sWays) (defScope sWays) .none kV38 dc38 pm38 an38 cd38 ct38), sl38⟩)
    (c38 : PySem.W.codeIn K cd38 "_law_ways" = true)
    (k38 : PySem.W.keepIn K (.ref f38) = true)
    (a39 : PySem.W.nsIn K mainGlobals "_law_orders" = some (some (.ref f39)))
    (l39 : K.lookup f39 = some ⟨oc39, od39, .func (PySem.W.fnOf "_law_orders" "_law_orders" (defArgs sOrders) (defBody sOrders) (defScope sOrders) .none kV39 dc39 pm39 an39 cd39 ct39), sl39⟩)
    (c39 : PySem.W.codeIn K cd39 "_law_orders" = true)
    (k39 : PySem.W.keepIn K (.ref f39) = true) :
    ∃ fd : FuncData, (∀ (s : Shared) (v : Value), BindsTo s fd ⟨[v], []⟩ [("_law_script", v)]) ∧ ∀ base : Heap, K.In base → base.Ns mainGlobals mg → FnOk l.prog w K mg base CX0 8 fa fd ["_law_script"] (spLaw K) := by
  have e := hfa.symm.trans (PySem.W.mg_of X G aL)
  cases e
  have T : Txt mg := ⟨PySem.W.mg_none_of X G z0, PySem.W.mg_none_of X G z1, PySem.W.mg_none_of X G z2, PySem.W.mg_none_of X G z3, PySem.W.mg_none_of X G z4, PySem.W.mg_none_of X G z5, PySem.W.mg_none_of X G z6, PySem.W.mg_none_of X G z7, PySem.W.mg_none_of X G z8, PySem.W.mg_none_of X G z9, PySem.W.mg_none_of X G z10, PySem.W.mg_none_of X G z11⟩
  have B : BTxt K mg C := ⟨⟨pg, hd, po, sa⟩, nS, nT, nF, PySem.W.mg_of X G aC, ⟨_, PySem.W.mg_of X G m1⟩, ⟨_, PySem.W.mg_of X G m2⟩⟩
  have FI := fun_mk (st := sInit) lI cI kI
  have FS := fun_mk (st := sSize) lS cS kS
  have FL := fun_mk (st := sLaw) lL cL kL
  have bI := FI.binds (ps := ["self", "size", "ties"]) fun _ _ _ _ _ _ us hl => match us, hl with | [_, _, _], _ => rfl
  have bS := FS.binds (ps := ["self"]) fun _ _ _ _ _ _ us hl => match us, hl with | [_], _ => rfl
  have W : WTxt K mg C fS _ := ⟨⟨aW, PySem.W.mg_of X G wA, fun _ => .inr ⟨_, _, _, wL, rfl, rfl, (by show 2 ≤ sizeLine; decide), .cons ⟨_, rfl⟩ (.cons ⟨_, rfl⟩ .nil)⟩⟩, ⟨_, PySem.W.mg_of X G m3⟩, ⟨pS, pA, pG, pT, ⟨_, pR⟩⟩, bS⟩
  exact ⟨PySem.W.fnOf "law" "law" (defArgs sLaw) (defBody sLaw) (defScope sLaw) .none kVL dcL pmL anL cdL ctL, fun s v => .of_eq rfl, fun base _ _ => law_ok base T B W ⟨mk, aI, iI, kC⟩ FL FI bI FS
    (has_1 X G a1 l1 c1 k1) (has_2 X G a2 l2 c2 k2) (has_3 X G a3 l3 c3 k3) (has_4 X G a4 l4 c4 k4) (has_5 X G a5 l5 c5 k5) (has_6 X G a6 l6 c6 k6) (has_7 X G a7 l7 c7 k7) (has_17 X G a17 l17 c17 k17) (has_21 X G a21 l21 c21 k21) (has_22 X G a22 l22 c22 k22) (has_23 X G a23 l23 c23 k23) (has_24 X G a24 l24 c24 k24) (has_25 X G a25 l25 c25 k25) (has_26 X G a26 l26 c26 k26) (has_27 X G a27 l27 c27 k27) (has_28 X G a28 l28 c28 k28) (has_30 X G a30 l30 c30 k30) (has_31 X G a31 l31 c31 k31) (has_32 X G a32 l32 c32 k32) (has_33 X G a33 l33 c33 k33) (has_34 X G a34 l34 c34 k34) (has_35 X G a35 l35 c35 k35) (has_36 X G a36 l36 c36 k36) (has_37 X G a37 l37 c37 k37) (has_38 X G a38 l38 c38 k38) (has_39 X G a39 l39 c39 k39)⟩
theorem walk {l : PySem.W.OpenLaw} {q : Program} {loose : List Str} {XP : (Str → Option Value) → Heap → Prop} {YP : World → Heap → Prop} {d : DefRec} {K : Params → PySem.W.Frag} (hn : l.most = some 63) (hdf : d.params.defaults = [])
    (hY : ∀ (w : World) (h : Heap), YP w h → (K w.params).In h)
    (F : ∀ (w : World) (mg : Str → Option Value) (fa : Addr) (h : Heap), (K w.params).In h → h.Ns mainGlobals mg → mg d.name = some (.ref fa) →
      ∃ fd : FuncData, (∀ (s : Shared) (u : Value), BindsTo s fd ⟨[u], []⟩ [("_law_script", u)]) ∧ ∀ base : Heap, (K w.params).In base → base.Ns mainGlobals mg → FnOk l.prog w (K w.params) mg base CX0 8 fa fd ["_law_script"] (spLaw (K w.params))) :
    PySem.W.WalkO q loose XP YP l.row.toRowW d [] (fun f vs => PySem.call f vs) :=
  L2.walk_of (n := 63) (k := 8) (x := "_law_script") (CX := fun _ => CX0) (sp := fun w => spLaw (K w.params)) hn (by decide) hdf ⟨rfl, by decide, by decide⟩ hY F (fun _ _ a ns hl _ hS => ⟨a, ns, rfl, hS, hl, fun _ => rfl⟩) fun _ _ _ _ _ z => z
end K87

open PySem PySem.W PyProof.Rows
set_option maxRecDepth 100000 in
set_option maxHeartbeats 0 in
theorem PySem.Challenge.cw_storelands_k87_whole_shortest_logs_holds : PySem.Challenge.rw_storelands_k87_whole_shortest_logs.Holds := by
  w_on; o_law; k_head; (case hw => w_witness2)
  k_fill
  refine K87.walk (l := PySem.Challenge.rw_storelands_k87_whole_shortest_logs) rfl rfl (fun w h Y => PySem.W.kIn_of Y) ?F
  case F =>
    intro w mg fa h KX G hmg
    refine' K87.all_mk KX G hmg ?aC ?aI ?iI ?lI ?cI ?kI ?pA ?pG ?pT ?pR ?lS ?cS ?kS ?pg ?hd ?po ?sa ?mk ?kC ?nS ?nT ?nF ?m1 ?m2 ?m3 ?wA ?wL ?z0 ?z1 ?z2 ?z3 ?z4 ?z5 ?z6 ?z7 ?z8 ?z9 ?z10 ?z11 ?aL ?lL ?cL ?kL ?a1 ?l1 ?c1 ?k1 ?a2 ?l2 ?c2 ?k2 ?a3 ?l3 ?c3 ?k3 ?a4 ?l4 ?c4 ?k4 ?a5 ?l5 ?c5 ?k5 ?a6 ?l6 ?c6 ?k6 ?a7 ?l7 ?c7 ?k7 ?a17 ?l17 ?c17 ?k17 ?a21 ?l21 ?c21 ?k21 ?a22 ?l22 ?c22 ?k22 ?a23 ?l23 ?c23 ?k23 ?a24 ?l24 ?c24 ?k24 ?a25 ?l25 ?c25 ?k25 ?a26 ?l26 ?c26 ?k26 ?a27 ?l27 ?c27 ?k27 ?a28 ?l28 ?c28 ?k28 ?a30 ?l30 ?c30 ?k30 ?a31 ?l31 ?c31 ?k31 ?a32 ?l32 ?c32 ?k32 ?a33 ?l33 ?c33 ?k33 ?a34 ?l34 ?c34 ?k34 ?a35 ?l35 ?c35 ?k35 ?a36 ?l36 ?c36 ?k36 ?a37 ?l37 ?c37 ?k37 ?a38 ?l38 ?c38 ?k38 ?a39 ?l39 ?c39 ?k39
    (case aC => k_is); (case aI => k_is); (case iI => k_is); (case lI => k_is); (case cI => k_is); (case kI => k_is)
    (case pA => k_is); (case pG => k_is); (case pT => k_is); (case pR => k_is); (case lS => k_is); (case cS => k_is)
    (case kS => k_is); (case pg => k_is); (case hd => k_is); (case po => k_is); (case sa => k_is); (case mk => k_is)
    (case kC => k_is); (case nS => k_is); (case nT => k_is); (case nF => k_is); (case m1 => k_is); (case m2 => k_is)
    (case m3 => k_is); (case wA => k_is); (case wL => k_is); (case z0 => k_is); (case z1 => k_is); (case z2 => k_is)
    (case z3 => k_is); (case z4 => k_is); (case z5 => k_is); (case z6 => k_is); (case z7 => k_is); (case z8 => k_is)
    (case z9 => k_is); (case z10 => k_is); (case z11 => k_is); (case aL => k_is); (case lL => k_is); (case cL => k_is)
    (case kL => k_is); (case a1 => k_is); (case l1 => k_is); (case c1 => k_is); (case k1 => k_is); (case a2 => k_is)
    (case l2 => k_is); (case c2 => k_is); (case k2 => k_is); (case a3 => k_is); (case l3 => k_is); (case c3 => k_is)
    (case k3 => k_is); (case a4 => k_is); (case l4 => k_is); (case c4 => k_is); (case k4 => k_is); (case a5 => k_is)
    (case l5 => k_is); (case c5 => k_is); (case k5 => k_is); (case a6 => k_is); (case l6 => k_is); (case c6 => k_is)
    (case k6 => k_is); (case a7 => k_is); (case l7 => k_is); (case c7 => k_is); (case k7 => k_is); (case a17 => k_is)
    (case l17 => k_is); (case c17 => k_is); (case k17 => k_is); (case a21 => k_is); (case l21 => k_is); (case c21 => k_is)
    (case k21 => k_is); (case a22 => k_is); (case l22 => k_is); (case c22 => k_is); (case k22 => k_is); (case a23 => k_is)
    (case l23 => k_is); (case c23 => k_is); (case k23 => k_is); (case a24 => k_is); (case l24 => k_is); (case c24 => k_is)
    (case k24 => k_is); (case a25 => k_is); (case l25 => k_is); (case c25 => k_is); (case k25 => k_is); (case a26 => k_is)
    (case l26 => k_is); (case c26 => k_is); (case k26 => k_is); (case a27 => k_is); (case l27 => k_is); (case c27 => k_is)
    (case k27 => k_is); (case a28 => k_is); (case l28 => k_is); (case c28 => k_is); (case k28 => k_is); (case a30 => k_is)
    (case l30 => k_is); (case c30 => k_is); (case k30 => k_is); (case a31 => k_is); (case l31 => k_is); (case c31 => k_is)
    (case k31 => k_is); (case a32 => k_is); (case l32 => k_is); (case c32 => k_is); (case k32 => k_is); (case a33 => k_is)
    (case l33 => k_is); (case c33 => k_is); (case k33 => k_is); (case a34 => k_is); (case l34 => k_is); (case c34 => k_is)
    (case k34 => k_is); (case a35 => k_is); (case l35 => k_is); (case c35 => k_is); (case k35 => k_is); (case a36 => k_is)
    (case l36 => k_is); (case c36 => k_is); (case k36 => k_is); (case a37 => k_is); (case l37 => k_is); (case c37 => k_is)
    (case k37 => k_is); (case a38 => k_is); (case l38 => k_is); (case c38 => k_is); (case k38 => k_is); (case a39 => k_is)
    (case l39 => k_is); (case c39 => k_is); (case k39 => k_is)
