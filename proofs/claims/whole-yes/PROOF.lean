import PyProof.Rows.All
import Wide.All
import OpenK.AllK
import Wide.FinOn
import HandS.ForMost
import HandS.SetKeys
import HandS.IsInst
import HandS.Defaults
import HandS.More
import HandS.Evl
import KE.SortData
import KE.SortKeyHeap
import KE.DataMinMax
import KE.KDictKeyed
import KE.KDictCopyH
import KE.KDictSum
import KE.KDictDisplayH
import KE.DataFind
import HandS.New0
import HandS.Rev
import HandS.Steps
import HandS.Words
import HandS.SortKw
import HandS.RevTup
import HandS.Head0
import HandS.Head1
import HandS.Head2
import HandS.HeadEnd
import HandS.HeadHook4
import PySem.Challenge.RW_skewhouse_k77_whole_yes_has_no_ill
set_option Elab.async false
set_option linter.all false
set_option maxRecDepth 100000
set_option maxHeartbeats 0
set_option autoImplicit false
/-! SkM -/
/-! Plain graph facts: Kahn's loop, breadth first, rings. -/
namespace Sk

/-- every node of S has a node of S ahead of it -/
def Stuck {N : Type} (nodes : List N) (pairs : List (N × N)) : Prop :=
  ∃ S : List N, S ≠ [] ∧ (∀ x ∈ S, x ∈ nodes) ∧ ∀ x ∈ S, ∃ y ∈ S, (y, x) ∈ pairs
/-- a rank that rises along every pair -/
def Ranked {N : Type} (pairs : List (N × N)) : Prop := ∃ r : N → Nat, ∀ p ∈ pairs, r p.1 < r p.2

inductive Reach {N : Type} (pairs : List (N × N)) : N → N → Prop
  | refl (x : N) : Reach pairs x x
  | step {x y z : N} : (x, y) ∈ pairs → Reach pairs y z → Reach pairs x z

theorem Reach.snoc {N : Type} {pairs : List (N × N)} {x y z : N} (h : Reach pairs x y) (e : (y, z) ∈ pairs) : Reach pairs x z := by
  induction h with
  | refl x => exact .step e (.refl _)
  | step a _ ih => exact .step a (ih e)

theorem Reach.trans {N : Type} {pairs : List (N × N)} {x y z : N} (h : Reach pairs x y) (e : Reach pairs y z) : Reach pairs x z := by
  induction h with
  | refl x => exact e
  | step a _ ih => exact .step a (ih e)

theorem nodup_sub_len {N : Type} [DecidableEq N] : ∀ {l m : List N}, l.Nodup → (∀ x ∈ l, x ∈ m) → l.length ≤ m.length
  | [], _, _, _ => Nat.zero_le _
  | a :: l, m, h, s => by
    obtain ⟨h1, h2⟩ := List.nodup_cons.mp h
    have ha : a ∈ m := s a (List.mem_cons_self)
    have q := nodup_sub_len (l := l) (m := m.erase a) h2 fun x hx => (List.mem_erase_of_ne (fun e => h1 (by rw [← e]; exact hx))).mpr (s x (List.mem_cons_of_mem _ hx))
    have e := List.length_erase_of_mem ha
    have p : 0 < m.length := List.length_pos_of_mem ha
    rw [List.length_cons]
    omega

theorem nodup_full {N : Type} [DecidableEq N] {l m : List N} (h : l.Nodup) (s : ∀ x ∈ l, x ∈ m) (e : m.length ≤ l.length) : ∀ x ∈ m, x ∈ l := by
  intro x hx
  by_cases q : x ∈ l
  · exact q
  · exfalso
    have p := nodup_sub_len (l := x :: l) (m := m) (List.nodup_cons.mpr ⟨q, h⟩) fun y hy => by
      rcases List.mem_cons.mp hy with rfl | hy
      · exact hx
      · exact s y hy
    rw [List.length_cons] at p
    omega

/-- a walk backwards in S that never ends comes back: some node of S reaches itself over one pair at least -/
theorem ring_in {N : Type} [DecidableEq N] {pairs : List (N × N)} {S : List N} (h : ∀ x ∈ S, ∃ y ∈ S, (y, x) ∈ pairs) :
    ∀ (k : Nat) (l : List N) (x : N), S.length ≤ l.length + k → l.Nodup → (∀ y ∈ l, y ∈ S) → x ∈ S → (∀ y ∈ l, Reach pairs x y ∧ ∃ z, (x, z) ∈ pairs ∧ Reach pairs z y) → ∃ s ∈ S, ∃ z, (s, z) ∈ pairs ∧ Reach pairs z s
  | k, l, x, hk, hl, hs, hx, hr => by
    by_cases q : x ∈ l
    · obtain ⟨_, z, a, b⟩ := hr x q
      exact ⟨x, hx, z, a, b⟩
    · have hl' : (x :: l).Nodup := List.nodup_cons.mpr ⟨q, hl⟩
      have hs' : ∀ y ∈ x :: l, y ∈ S := fun y hy => by
        rcases List.mem_cons.mp hy with rfl | hy
        · exact hx
        · exact hs y hy
      obtain ⟨y, hy, e⟩ := h x hx
      have hr' : ∀ z ∈ x :: l, Reach pairs y z ∧ ∃ u, (y, u) ∈ pairs ∧ Reach pairs u z := fun z hz => by
        rcases List.mem_cons.mp hz with rfl | hz
        · exact ⟨.step e (.refl _), _, e, .refl _⟩
        · obtain ⟨a, _⟩ := hr z hz
          exact ⟨.step e a, _, e, a⟩
      cases k with
      | zero =>
        have p := nodup_sub_len hl' hs'
        rw [List.length_cons] at p
        omega
      | succ k => exact ring_in h k (x :: l) y (by rw [List.length_cons]; omega) hl' hs' hy hr'

theorem Stuck.ring {N : Type} [DecidableEq N] {nodes : List N} {pairs : List (N × N)} (h : Stuck nodes pairs) : ∃ s ∈ nodes, ∃ z, (s, z) ∈ pairs ∧ Reach pairs z s := by
  obtain ⟨S, hne, hs, hp⟩ := h
  cases S with
  | nil => exact absurd rfl hne
  | cons x r =>
    obtain ⟨s, a, b⟩ := ring_in (pairs := pairs) hp (x :: r).length [] x (by simp) List.nodup_nil (fun y hy => nomatch hy) List.mem_cons_self fun y hy => nomatch hy
    exact ⟨s, hs s a, b⟩

/-! ### breadth first -/
/-- what steps_to tells: the nodes of line are those from which goal is reached, d falls towards goal -/
structure Bfs {N : Type} (nodes : List N) (pairs : List (N × N)) (goal : N) (line : List N) (d : N → Nat) : Prop where
  has : goal ∈ line
  nd : line.Nodup
  sub : ∀ x ∈ line, x ∈ nodes
  closed : ∀ x ∈ line, ∀ y, (y, x) ∈ pairs → y ∈ line
  down : ∀ x ∈ line, x ≠ goal → ∃ y ∈ line, (x, y) ∈ pairs ∧ d y < d x

theorem Bfs.reach {N : Type} {nodes : List N} {pairs : List (N × N)} {goal : N} {line : List N} {d : N → Nat} (b : Bfs nodes pairs goal line d) {x : N} (h : Reach pairs x goal) : x ∈ line := by
  induction h with
  | refl x => exact b.has
  | step a _ ih => exact b.closed _ (ih b) _ a

/-! ### Kahn's loop -/
section
variable {N : Type} [DecidableEq N]
/-- the nodes behind x, one for each pair -/
def succs (pairs : List (N × N)) (x : N) : List N := (pairs.filter fun p => decide (p.1 = x)).map (·.2)
def preds (pairs : List (N × N)) (x : N) : List N := (pairs.filter fun p => decide (p.2 = x)).map (·.1)
theorem mem_succs {pairs : List (N × N)} {x y : N} : y ∈ succs pairs x ↔ (x, y) ∈ pairs := by
  unfold succs
  rw [List.mem_map]
  constructor
  · rintro ⟨p, h, rfl⟩
    obtain ⟨h1, h2⟩ := List.mem_filter.mp h
    have e := of_decide_eq_true h2
    rw [← e]
    exact h1
  · intro h
    exact ⟨(x, y), List.mem_filter.mpr ⟨h, decide_eq_true rfl⟩, rfl⟩
theorem mem_preds {pairs : List (N × N)} {x y : N} : y ∈ preds pairs x ↔ (y, x) ∈ pairs := by
  unfold preds
  rw [List.mem_map]
  constructor
  · rintro ⟨p, h, rfl⟩
    obtain ⟨h1, h2⟩ := List.mem_filter.mp h
    have e := of_decide_eq_true h2
    rw [← e]
    exact h1
  · intro h
    exact ⟨(y, x), List.mem_filter.mpr ⟨h, decide_eq_true rfl⟩, rfl⟩
theorem succs_snoc (pairs : List (N × N)) (a b x : N) : succs (pairs ++ [(a, b)]) x = if a = x then succs pairs x ++ [b] else succs pairs x := by
  unfold succs
  rw [List.filter_append, List.map_append]
  by_cases e : a = x
  · rw [if_pos e, List.filter_cons, if_pos (by simpa using e)]
    simp
  · rw [if_neg e, List.filter_cons, if_neg (by simpa using e)]
    simp
theorem preds_snoc (pairs : List (N × N)) (a b x : N) : preds (pairs ++ [(a, b)]) x = if b = x then preds pairs x ++ [a] else preds pairs x := by
  unfold preds
  rw [List.filter_append, List.map_append]
  by_cases e : b = x
  · rw [if_pos e, List.filter_cons, if_pos (by simpa using e)]
    simp
  · rw [if_neg e, List.filter_cons, if_neg (by simpa using e)]
    simp
theorem length_succs (pairs : List (N × N)) (x : N) : (succs pairs x).length ≤ pairs.length := by
  unfold succs
  rw [List.length_map]
  exact List.length_filter_le _ _
theorem length_preds (pairs : List (N × N)) (x : N) : (preds pairs x).length ≤ pairs.length := by
  unfold preds
  rw [List.length_map]
  exact List.length_filter_le _ _

/-- how many pairs come to x from nodes outside of found -/
def open_ (pairs : List (N × N)) (found : List N) (x : N) : Nat := (pairs.filter fun p => decide (p.2 = x) && decide (p.1 ∉ found)).length

/-- a function changed at one place -/
def setAt {A : Type} (f : N → A) (x : N) (v : A) : N → A := fun y => if y = x then v else f y

/-- one turn of the inner loop -/
def kstep (s : (N → Int) × List N) (x : N) : (N → Int) × List N :=
  (setAt s.1 x (s.1 x - 1), if s.1 x - 1 = 0 then s.2 ++ [x] else s.2)

/-- the state of the outer loop -/
structure Kahn (nodes : List N) (pairs : List (N × N)) (w : N → Int) (ready found : List N) : Prop where
  fnd : found.Nodup
  fsub : ∀ x ∈ found, x ∈ nodes
  rnd : ready.Nodup
  rsub : ∀ x ∈ ready, x ∈ nodes
  apart : ∀ x ∈ ready, x ∉ found
  cnt : ∀ x ∈ nodes, w x = (open_ pairs found x : Int)
  due : ∀ x ∈ nodes, x ∉ found → w x = 0 → x ∈ ready
  zero : ∀ x ∈ ready, w x = 0
  ord : ∀ l1 x l2, found = l1 ++ x :: l2 → ∀ y, (y, x) ∈ pairs → y ∈ l1

theorem open_nil (pairs : List (N × N)) (x : N) : open_ pairs [] x = (pairs.filter fun p => decide (p.2 = x)).length := by
  unfold open_
  congr 1
  refine List.filter_congr fun p _ => ?_
  simp

theorem open_zero {pairs : List (N × N)} {found : List N} {x : N} (h : open_ pairs found x = 0) : ∀ y, (y, x) ∈ pairs → y ∈ found := by
  intro y hy
  unfold open_ at h
  have h' := List.eq_nil_of_length_eq_zero h
  by_cases q : y ∈ found
  · exact q
  · have : (y, x) ∈ (pairs.filter fun p => decide (p.2 = x) && decide (p.1 ∉ found)) := List.mem_filter.mpr ⟨hy, by simp [q]⟩
    rw [h'] at this
    cases this

/-- behind a new node: the pairs from it are no longer open -/
theorem open_snoc {found : List N} {n : N} (hn : n ∉ found) (x : N) : ∀ pairs : List (N × N), open_ pairs found x = open_ pairs (found ++ [n]) x + (succs pairs n).count x
  | [] => rfl
  | p :: r => by
    have ih := open_snoc hn x r
    unfold open_ succs at ih ⊢
    obtain ⟨a, b⟩ := p
    by_cases e1 : b = x
    · subst e1
      by_cases e2 : a = n
      · subst e2
        simp [List.filter_cons, hn] at ih ⊢
        omega
      · by_cases e3 : a ∈ found
        · simp [List.filter_cons, e2, e3] at ih ⊢
          omega
        · simp [List.filter_cons, e2, e3] at ih ⊢
          omega
    · by_cases e2 : a = n
      · subst e2
        have e4 : ¬ (b == x) = true := by simpa using e1
        simp [List.filter_cons, e1, List.count_cons, e4] at ih ⊢
        omega
      · simp [List.filter_cons, e1, e2] at ih ⊢
        omega

/-- what the inner loop has done behind the items l -/
structure Inner (nodes : List N) (w0 : N → Int) (r0 : List N) (l : List N) (s : (N → Int) × List N) : Prop where
  w : ∀ x, s.1 x = w0 x - (l.count x : Int)
  nd : s.2.Nodup
  mem : ∀ x, x ∈ s.2 ↔ x ∈ r0 ∨ (x ∈ l ∧ ∃ k, k ≤ l.count x ∧ w0 x = (k : Int) ∧ 0 < k)

theorem inner_fold (nodes : List N) {w0 : N → Int} {r0 : List N} (h0 : r0.Nodup) (hr : ∀ x ∈ r0, w0 x = 0) : ∀ (l : List N) (t : List N) (s : (N → Int) × List N), Inner nodes w0 r0 t s → (∀ x ∈ l, x ∉ r0) →
    Inner nodes w0 r0 (t ++ l) (l.foldl kstep s)
  | [], t, s, I, _ => by
    rw [List.append_nil]
    exact I
  | a :: l, t, s, I, hl => by
    have e : t ++ a :: l = (t ++ [a]) ++ l := by simp
    rw [e]
    refine inner_fold nodes h0 hr l (t ++ [a]) (kstep s a) ⟨fun x => ?_, ?_, fun x => ?_⟩ fun x hx => hl x (List.mem_cons_of_mem _ hx)
    · show setAt s.1 a (s.1 a - 1) x = _
      unfold setAt
      rw [List.count_append, List.count_singleton]
      by_cases q : x = a
      · subst q
        rw [if_pos rfl, I.w]
        simp
        omega
      · rw [if_neg q, I.w]
        have q2 : ¬ (a == x) = true := by
          simp
          exact fun z => q z.symm
        simp [q2]
    · show (if s.1 a - 1 = 0 then s.2 ++ [a] else s.2).Nodup
      by_cases z : s.1 a - 1 = 0
      · rw [if_pos z]
        refine List.nodup_append.mpr ⟨I.nd, by simp, fun x hx y hy => ?_⟩
        rw [List.mem_singleton] at hy
        subst hy
        rintro rfl
        rcases (I.mem x).mp hx with q | ⟨_, k, k1, k2, k3⟩
        · exact hl x List.mem_cons_self q
        · have := I.w x
          omega
      · rw [if_neg z]
        exact I.nd
    · show x ∈ (if s.1 a - 1 = 0 then s.2 ++ [a] else s.2) ↔ _
      have wa := I.w a
      rw [List.count_append, List.count_singleton, List.mem_append, List.mem_singleton]
      by_cases q : x = a
      · subst q
        have hx0 : x ∉ r0 := hl x List.mem_cons_self
        have ea : (if (x == x) = true then 1 else 0) = 1 := by simp
        rw [ea]
        by_cases z : s.1 x - 1 = 0
        · rw [if_pos z]
          constructor
          · intro _
            exact .inr ⟨.inr rfl, t.count x + 1, Nat.le_refl _, by omega, by omega⟩
          · intro _
            simp
        · rw [if_neg z]
          constructor
          · intro m
            rcases (I.mem x).mp m with m | ⟨m, k, k1, k2, k3⟩
            · exact .inl m
            · exact .inr ⟨.inl m, k, by omega, k2, k3⟩
          · rintro (m | ⟨m, k, k1, k2, k3⟩)
            · exact (hx0 m).elim
            · have hk : k ≤ t.count x := by
                rcases Nat.lt_or_ge (t.count x) k with y | y
                · exfalso
                  have : k = t.count x + 1 := by omega
                  subst this
                  apply z
                  omega
                · exact y
              have ht : x ∈ t := List.count_pos_iff.mp (by omega)
              exact (I.mem x).mpr (.inr ⟨ht, k, hk, k2, k3⟩)
      · have q2 : (if (a == x) = true then 1 else 0) = 0 := by
          rw [if_neg]
          simp
          exact fun z => q z.symm
        rw [q2, Nat.add_zero]
        have : x ∈ (if s.1 a - 1 = 0 then s.2 ++ [a] else s.2) ↔ x ∈ s.2 := by
          split
          · simp [q]
          · exact Iff.rfl
        rw [this, I.mem x]
        simp [q]

theorem inner_nil (nodes : List N) {w0 : N → Int} {r0 : List N} (h0 : r0.Nodup) : Inner nodes w0 r0 [] (w0, r0) :=
  ⟨fun x => by simp, h0, fun x => by simp⟩

/-- one turn of the outer loop -/
theorem Kahn.turn {nodes : List N} {pairs : List (N × N)} {w : N → Int} {ready found : List N} (K : Kahn nodes pairs w ready found) (hp : ∀ p ∈ pairs, p.1 ∈ nodes ∧ p.2 ∈ nodes) {n : N} (hn : n ∈ ready) :
    Kahn nodes pairs ((succs pairs n).foldl kstep (w, ready.erase n)).1 ((succs pairs n).foldl kstep (w, ready.erase n)).2 (found ++ [n]) := by
  have hnf := K.apart n hn
  have hnn := K.rsub n hn
  have opn := fun x => open_snoc hnf x pairs
  have r0nd : (ready.erase n).Nodup := K.rnd.erase n
  have r0m : ∀ x, x ∈ ready.erase n ↔ x ≠ n ∧ x ∈ ready := fun x => K.rnd.mem_erase_iff
  have r0z : ∀ x ∈ ready.erase n, w x = 0 := fun x hx => K.zero x ((r0m x).mp hx).2
  have hs : ∀ x ∈ succs pairs n, x ∉ ready.erase n := fun x hx hr => by
    have hz := r0z x hr
    have hxn := K.rsub x ((r0m x).mp hr).2
    rw [K.cnt x hxn] at hz
    exact hnf (open_zero (by omega) n (mem_succs.mp hx))
  have I := inner_fold nodes r0nd r0z (succs pairs n) [] (w, ready.erase n) (inner_nil nodes r0nd) hs
  rw [List.nil_append] at I
  have nself : (n, n) ∉ pairs := fun q => by
    have hz := K.zero n hn
    rw [K.cnt n hnn] at hz
    exact hnf (open_zero (by omega) n q)
  have cnt' : ∀ x ∈ nodes, ((succs pairs n).foldl kstep (w, ready.erase n)).1 x = (open_ pairs (found ++ [n]) x : Int) := fun x hx => by
    rw [I.w x, K.cnt x hx, opn x]
    omega
  have memr : ∀ x, x ∈ ((succs pairs n).foldl kstep (w, ready.erase n)).2 ↔ _ := I.mem
  refine ⟨?_, ?_, I.nd, ?_, ?_, cnt', ?_, ?_, ?_⟩
  · refine List.nodup_append.mpr ⟨K.fnd, by simp, fun x hx y hy => ?_⟩
    rw [List.mem_singleton] at hy
    subst hy
    rintro rfl
    exact hnf hx
  · intro x hx
    rcases List.mem_append.mp hx with q | q
    · exact K.fsub x q
    · rw [List.mem_singleton] at q
      subst q
      exact hnn
  · intro x hx
    rcases (memr x).mp hx with q | ⟨q, _⟩
    · exact K.rsub x ((r0m x).mp q).2
    · exact (hp _ (mem_succs.mp q)).2
  · intro x hx hf
    rcases List.mem_append.mp hf with f | f
    · rcases (memr x).mp hx with q | ⟨q, _⟩
      · exact K.apart x ((r0m x).mp q).2 f
      · -- x found before n, but n leads to x
        obtain ⟨l1, l2, e⟩ := List.append_of_mem f
        have := K.ord l1 x l2 e n (mem_succs.mp q)
        exact hnf (by rw [e]; exact List.mem_append.mpr (.inl this))
    · rw [List.mem_singleton] at f
      subst f
      rcases (memr x).mp hx with q | ⟨q, _⟩
      · exact ((r0m x).mp q).1 rfl
      · exact nself (mem_succs.mp q)
  · intro x hx hf hz
    rw [cnt' x hx] at hz
    have hxf : x ∉ found := fun q => hf (List.mem_append.mpr (.inl q))
    have hxn : x ≠ n := fun q => hf (List.mem_append.mpr (.inr (List.mem_singleton.mpr q)))
    by_cases w0 : w x = 0
    · exact (memr x).mpr (.inl ((r0m x).mpr ⟨hxn, K.due x hx hxf w0⟩))
    · have h1 := K.cnt x hx
      have h2 := opn x
      have h3 : 0 < (succs pairs n).count x := by omega
      exact (memr x).mpr (.inr ⟨List.count_pos_iff.mp h3, (succs pairs n).count x, Nat.le_refl _, by omega, h3⟩)
  · intro x hx
    rcases (memr x).mp hx with q | ⟨q, k, k1, k2, k3⟩
    · have hz := r0z x q
      have hc : (succs pairs n).count x = 0 := List.count_eq_zero.mpr fun z => hs x z q
      rw [I.w x, hc]
      omega
    · have hxn := (hp _ (mem_succs.mp q)).2
      have h1 := K.cnt x hxn
      have h2 := opn x
      rw [cnt' x hxn]
      omega
  · intro l1 x l2 e y hy
    rcases List.eq_nil_or_concat l2 with z | ⟨l3, u, z⟩
    · subst z
      have e' : found ++ [n] = l1 ++ [x] := e
      obtain ⟨e1, e2⟩ := List.append_inj' e' rfl
      have e3 : n = x := by simpa using e2
      subst e3
      have hz := K.zero n hn
      rw [K.cnt n hnn] at hz
      rw [← e1]
      exact open_zero (by omega) y hy
    · subst z
      have e' : found ++ [n] = (l1 ++ x :: l3) ++ [u] := by simpa using e
      obtain ⟨e1, _⟩ := List.append_inj' e' rfl
      exact K.ord l1 x l3 e1 y hy

/-- the place of a node in a list -/
def placeOf (l : List N) (x : N) : Nat := l.findIdx fun y => decide (y = x)
theorem placeOf_lt {l1 l2 : List N} {x y : N} (hy : y ∈ l1) (hx : x ∉ l1) : placeOf (l1 ++ x :: l2) y < placeOf (l1 ++ x :: l2) x := by
  have h1 : placeOf (l1 ++ x :: l2) y < l1.length := by
    unfold placeOf
    rw [List.findIdx_append, if_pos]
    · exact List.findIdx_lt_length_of_exists ⟨y, hy, decide_eq_true rfl⟩
    · exact List.findIdx_lt_length_of_exists ⟨y, hy, decide_eq_true rfl⟩
  have h2 : l1.length ≤ placeOf (l1 ++ x :: l2) x := by
    unfold placeOf
    rw [List.findIdx_append, if_neg]
    · omega
    · intro q
      obtain ⟨z, hz, e⟩ := List.findIdx_lt_length.mp q
      exact hx ((of_decide_eq_true e) ▸ hz)
  omega

/-- the loop's end: all nodes found -/
theorem Kahn.ranked {nodes : List N} {pairs : List (N × N)} {w : N → Int} {ready found : List N} (K : Kahn nodes pairs w ready found) (hp : ∀ p ∈ pairs, p.1 ∈ nodes ∧ p.2 ∈ nodes) (hl : nodes.length ≤ found.length) : Ranked pairs := by
  refine ⟨placeOf found, fun p hpm => ?_⟩
  have hx : p.2 ∈ found := nodup_full K.fnd K.fsub hl p.2 (hp p hpm).2
  obtain ⟨l1, l2, e⟩ := List.append_of_mem hx
  have hy := K.ord l1 p.2 l2 e p.1 hpm
  have hn : p.2 ∉ l1 := fun q => by
    have := K.fnd
    rw [e] at this
    obtain ⟨_, _, d⟩ := List.nodup_append.mp this
    exact d _ q _ List.mem_cons_self rfl
  rw [e]
  exact placeOf_lt hy hn

/-- .. or stuck -/
theorem Kahn.stuck {nodes : List N} {pairs : List (N × N)} {w : N → Int} {found : List N} (K : Kahn nodes pairs w [] found) (hnd : nodes.Nodup) (hp : ∀ p ∈ pairs, p.1 ∈ nodes ∧ p.2 ∈ nodes) (hl : found.length < nodes.length) : Stuck nodes pairs := by
  refine ⟨nodes.filter fun x => decide (x ∉ found), fun e => ?_, fun x hx => (List.mem_filter.mp hx).1, fun x hx => ?_⟩
  · have sub : ∀ x ∈ nodes, x ∈ found := fun x hx => by
      by_cases q : x ∈ found
      · exact q
      · have : x ∈ nodes.filter fun x => decide (x ∉ found) := List.mem_filter.mpr ⟨hx, by simpa using q⟩
        rw [e] at this
        cases this
    have := nodup_sub_len hnd sub
    omega
  · obtain ⟨h1, h2⟩ := List.mem_filter.mp hx
    have h2 : x ∉ found := by simpa using h2
    by_cases z : w x = 0
    · have := K.due x h1 h2 z
      cases this
    · rw [K.cnt x h1] at z
      have pos : 0 < (pairs.filter fun p => decide (p.2 = x) && decide (p.1 ∉ found)).length := by
        unfold open_ at z
        omega
      obtain ⟨p, hpm⟩ := List.exists_mem_of_length_pos pos
      obtain ⟨a, b⟩ := List.mem_filter.mp hpm
      obtain ⟨b1, b2⟩ : p.2 = x ∧ p.1 ∉ found := by simpa using b
      refine ⟨p.1, List.mem_filter.mpr ⟨(hp p a).1, by simpa using b2⟩, ?_⟩
      rw [← b1]
      exact a
end
end Sk
/-! Histories, their edges, their ills: an order leaves no ill that is not let. -/
namespace Sk

inductive Lev where
  | loose | kept | make | watch | hold
  deriving DecidableEq
def Lev.nSpots : Lev → Nat → Nat
  | .loose, _ => 1
  | .kept, n => n + 1
  | .make, _ => 2
  | .watch, _ => 1
  | .hold, _ => 1
def Lev.lookSpot : Lev → Nat → Option Nat
  | .loose, _ => none
  | .kept, p => some p
  | .make, _ => some 0
  | .watch, _ => some 0
  | .hold, _ => some 0
def Lev.firstSpot : Lev → Nat → Nat
  | .loose, _ => 0
  | .kept, n => n
  | .make, _ => 0
  | .watch, _ => 0
  | .hold, _ => 0
theorem Lev.nSpots_pos (l : Lev) (n : Nat) : 0 < l.nSpots n := by cases l <;> simp [Lev.nSpots]

abbrev Node := Int × Int
abbrev Look := List (Int × Int)
structure Deal where
  num : Int
  lev : Lev
  looks : List Look
structure Hist where
  deals : List Deal
  makes : List (Int × List Int)
/-- the level at which a dealing is judged -/
def lvOf (w : Option Lev) (d : Deal) : Lev := w.getD d.lev
inductive Why where
  | own | saw | unseen | over
  deriving DecidableEq
structure Edge where
  one : Node
  other : Node
  why : Why
  key : Option Int
  deriving DecidableEq

def keepOf (w : Option Lev) (d : Deal) : Node := (d.num, (((lvOf w d).nSpots d.looks.length : Nat) : Int) - 1)
def firstOf (w : Option Lev) (d : Deal) : Node := (d.num, ((lvOf w d).firstSpot d.looks.length : Nat))
def dealAt (h : Hist) (m : Int) : Option Deal := h.deals.find? fun d => decide (d.num = m)
def keepAt (h : Hist) (w : Option Lev) (m : Int) : Node := ((dealAt h m).map (keepOf w)).getD (m, 0)
def firstAt (h : Hist) (w : Option Lev) (m : Int) : Node := ((dealAt h m).map (firstOf w)).getD (m, 0)
def makersOf (h : Hist) (key : Int) : List Int := ((h.makes.find? fun km => decide (km.1 = key)).map (·.2)).getD []

def spotsOf (w : Option Lev) (d : Deal) : List Node := (List.range ((lvOf w d).nSpots d.looks.length)).map fun (p : Nat) => (d.num, (p : Int))
def spotsL (h : Hist) (w : Option Lev) : List Node := h.deals.flatMap (spotsOf w)

def pairE (keep : Int → Node) (spot : Node) (key s : Int) : Bool → List Int → List Edge
  | _, [] => []
  | ahead, m :: r => (if m = spot.1 then [] else [if ahead then ⟨keep m, spot, .saw, some key⟩ else ⟨spot, keep m, .unseen, some key⟩]) ++ pairE keep spot key s (if m = s then false else ahead) r
def lookE1 (h : Hist) (w : Option Lev) (num : Int) (at_ : Nat) (p : Int × Int) : List Edge :=
  if 0 ≤ p.2 then pairE (keepAt h w) (num, (at_ : Int)) p.1 p.2 (decide (0 < p.2)) (makersOf h p.1) else []
def lookE (h : Hist) (w : Option Lev) (lv : Lev) (num : Int) (looks : List Look) (p : Nat) : List Edge :=
  match lv.lookSpot p with
  | none => []
  | some a => (looks.getD p []).flatMap (lookE1 h w num a)
def looksE (h : Hist) (w : Option Lev) (d : Deal) : List Edge := (List.range d.looks.length).flatMap (lookE h w (lvOf w d) d.num d.looks)
def ownE1 (num : Int) (many p : Nat) : List Edge := (List.range (many - (p + 1))).map fun (j : Nat) => ⟨(num, (p : Int)), (num, ((p + 1 + j : Nat) : Int)), .own, none⟩
def ownE (w : Option Lev) (d : Deal) : List Edge := (List.range ((lvOf w d).nSpots d.looks.length)).flatMap (ownE1 d.num ((lvOf w d).nSpots d.looks.length))
def overE1 (h : Hist) (w : Option Lev) (key : Int) (ms : List Int) (k : Nat) : List Edge :=
  (List.range (ms.length - (k + 1))).map fun j => ⟨keepAt h w (ms.getD k 0), firstAt h w (ms.getD (k + 1 + j) 0), .over, some key⟩
def overE (h : Hist) (w : Option Lev) (km : Int × List Int) : List Edge := (List.range km.2.length).flatMap (overE1 h w km.1 km.2)
def edgesL (h : Hist) (w : Option Lev) : List Edge := h.makes.flatMap (overE h w) ++ h.deals.flatMap fun d => ownE w d ++ looksE h w d

structure Hist.Ok (h : Hist) : Prop where
  nums : (h.deals.map (·.num)).Nodup
  pos : ∀ d ∈ h.deals, 0 < d.num
  mkr : ∀ km ∈ h.makes, ∀ m ∈ km.2, m ∈ h.deals.map (·.num)
  mnd : ∀ km ∈ h.makes, km.2.Nodup
  knd : (h.makes.map (·.1)).Nodup
  src : ∀ d ∈ h.deals, ∀ l ∈ d.looks, ∀ p ∈ l, p.2 = -1 ∨ p.2 = 0 ∨ (p.2 ∈ makersOf h p.1 ∧ p.2 ≠ d.num)

section
variable {h : Hist} {w : Option Lev}
theorem dealAt_mem {m : Int} {d : Deal} (e : dealAt h m = some d) : d ∈ h.deals ∧ d.num = m := by
  unfold dealAt at e
  exact ⟨List.mem_of_find?_eq_some e, by simpa using List.find?_some e⟩
theorem find_nodup {A : Type} (f : A → Int) : ∀ {l : List A} {d : A}, (l.map f).Nodup → d ∈ l → (l.find? fun x => decide (f x = f d)) = some d
  | a :: l, d, hn, hd => by
    obtain ⟨h1, h2⟩ := List.nodup_cons.mp (show (f a :: l.map f).Nodup from hn)
    rw [List.find?_cons]
    rcases List.mem_cons.mp hd with e | hd
    · subst e
      simp
    · have ne : f a ≠ f d := fun e => h1 (by rw [e]; exact List.mem_map.mpr ⟨d, hd, rfl⟩)
      have : decide (f a = f d) = false := decide_eq_false ne
      rw [this]
      exact find_nodup f h2 hd
theorem dealAt_of (ok : h.Ok) {d : Deal} (hd : d ∈ h.deals) : dealAt h d.num = some d := find_nodup Deal.num ok.nums hd
theorem keepAt_of (ok : h.Ok) {d : Deal} (hd : d ∈ h.deals) : keepAt h w d.num = keepOf w d := by
  unfold keepAt
  rw [dealAt_of ok hd]
  rfl
theorem firstAt_of (ok : h.Ok) {d : Deal} (hd : d ∈ h.deals) : firstAt h w d.num = firstOf w d := by
  unfold firstAt
  rw [dealAt_of ok hd]
  rfl
theorem makersOf_of (ok : h.Ok) {km : Int × List Int} (hk : km ∈ h.makes) : makersOf h km.1 = km.2 := by
  unfold makersOf
  rw [find_nodup Prod.fst ok.knd hk]
  rfl
theorem makersOf_mem {key m : Int} (hm : m ∈ makersOf h key) : (key, makersOf h key) ∈ h.makes := by
  unfold makersOf at hm ⊢
  cases e : h.makes.find? fun km => decide (km.1 = key) with
  | none =>
    rw [e] at hm
    cases hm
  | some km =>
    have a := List.mem_of_find?_eq_some e
    have b : km.1 = key := by simpa using List.find?_some e
    subst b
    exact a
theorem makers_deal (ok : h.Ok) {key m : Int} (hm : m ∈ makersOf h key) : ∃ d ∈ h.deals, d.num = m := by
  obtain ⟨d, a, b⟩ := List.mem_map.mp (ok.mkr _ (makersOf_mem hm) m hm)
  exact ⟨d, a, b⟩

/-! the spots -/
theorem mem_spotsOf {d : Deal} {x : Node} : x ∈ spotsOf w d ↔ ∃ p : Nat, p < (lvOf w d).nSpots d.looks.length ∧ x = (d.num, (p : Int)) := by
  unfold spotsOf
  rw [List.mem_map]
  constructor
  · rintro ⟨p, a, rfl⟩
    exact ⟨p, List.mem_range.mp a, rfl⟩
  · rintro ⟨p, a, rfl⟩
    exact ⟨p, List.mem_range.mpr a, rfl⟩
theorem spot_mem {d : Deal} (hd : d ∈ h.deals) {p : Nat} (hp : p < (lvOf w d).nSpots d.looks.length) : ((d.num, (p : Int)) : Node) ∈ spotsL h w :=
  List.mem_flatMap.mpr ⟨d, hd, mem_spotsOf.mpr ⟨p, hp, rfl⟩⟩
theorem keepOf_mem {d : Deal} (hd : d ∈ h.deals) : keepOf w d ∈ spotsL h w := by
  have := Lev.nSpots_pos (lvOf w d) d.looks.length
  have e : keepOf w d = (d.num, (((lvOf w d).nSpots d.looks.length - 1 : Nat) : Int)) := by
    unfold keepOf
    congr 1
    omega
  rw [e]
  exact spot_mem hd (by omega)
theorem firstOf_mem {d : Deal} (hd : d ∈ h.deals) : firstOf w d ∈ spotsL h w := by
  refine spot_mem hd ?_
  cases lvOf w d <;> simp [Lev.firstSpot, Lev.nSpots]
theorem flatMap_nodup {A B : Type} (f : A → List B) (k : A → Int) (g : B → Int) : ∀ {l : List A}, (l.map k).Nodup → (∀ a ∈ l, (f a).Nodup) → (∀ a ∈ l, ∀ b ∈ f a, g b = k a) → (l.flatMap f).Nodup
  | [], _, _, _ => List.nodup_nil
  | a :: l, hn, h1, h2 => by
    obtain ⟨n1, n2⟩ := List.nodup_cons.mp (show (k a :: l.map k).Nodup from hn)
    rw [List.flatMap_cons]
    refine List.nodup_append.mpr ⟨h1 a List.mem_cons_self, flatMap_nodup f k g n2 (fun x hx => h1 x (List.mem_cons_of_mem _ hx)) (fun x hx => h2 x (List.mem_cons_of_mem _ hx)), fun x hx y hy => ?_⟩
    rintro rfl
    obtain ⟨b, hb, e⟩ := List.mem_flatMap.mp hy
    have e1 := h2 a List.mem_cons_self x hx
    have e2 := h2 b (List.mem_cons_of_mem _ hb) x e
    exact n1 (by rw [← e1, e2]; exact List.mem_map.mpr ⟨b, hb, rfl⟩)
theorem map_range_nodup {B : Type} (f : Nat → B) (hf : ∀ i j, f i = f j → i = j) (n : Nat) : ((List.range n).map f).Nodup :=
  List.Pairwise.map f (fun _ _ ne e => ne (hf _ _ e)) List.nodup_range
theorem spotsL_nodup (ok : h.Ok) : (spotsL h w).Nodup := by
  refine flatMap_nodup (spotsOf w) (·.num) (·.1) ok.nums (fun d _ => ?_) fun d _ x hx => ?_
  · refine map_range_nodup _ (fun i j e => ?_) _
    have := (Prod.mk.inj e).2
    omega
  · obtain ⟨p, _, rfl⟩ := mem_spotsOf.mp hx
    rfl

/-! the edges' ends are spots -/
theorem pairE_ends {N : Node → Prop} {keep : Int → Node} {spot : Node} {key s : Int} : ∀ {ms : List Int} {b : Bool}, (∀ m ∈ ms, N (keep m)) → N spot → ∀ e ∈ pairE keep spot key s b ms, N e.one ∧ N e.other
  | [], _, _, _, e, he => by cases he
  | m :: r, b, hk, hs, e, he => by
    rw [pairE] at he
    rcases List.mem_append.mp he with q | q
    · by_cases z : m = spot.1
      · rw [if_pos z] at q
        cases q
      · rw [if_neg z, List.mem_singleton] at q
        subst q
        have := hk m List.mem_cons_self
        cases b <;> simp [this, hs]
    · exact pairE_ends (fun x hx => hk x (List.mem_cons_of_mem _ hx)) hs e q
theorem keepAt_mem (ok : h.Ok) {m : Int} (hm : m ∈ h.deals.map (·.num)) : keepAt h w m ∈ spotsL h w := by
  obtain ⟨d, hd, rfl⟩ := List.mem_map.mp hm
  rw [keepAt_of ok hd]
  exact keepOf_mem hd
theorem firstAt_mem (ok : h.Ok) {m : Int} (hm : m ∈ h.deals.map (·.num)) : firstAt h w m ∈ spotsL h w := by
  obtain ⟨d, hd, rfl⟩ := List.mem_map.mp hm
  rw [firstAt_of ok hd]
  exact firstOf_mem hd
theorem makers_num (ok : h.Ok) {key m : Int} (hm : m ∈ makersOf h key) : m ∈ h.deals.map (·.num) := ok.mkr _ (makersOf_mem hm) m hm
theorem getD_mem {ms : List Int} {k : Nat} (hk : k < ms.length) : ms.getD k 0 ∈ ms := by
  rw [List.getD_eq_getElem?_getD, List.getElem?_eq_getElem hk]
  exact List.getElem_mem hk
theorem lookSpot_lt {l : Lev} {p a n : Nat} (hp : p < n) (e : l.lookSpot p = some a) : a < l.nSpots n := by
  cases l <;> simp [Lev.lookSpot] at e <;> simp [Lev.nSpots] <;> omega
theorem edges_ends (ok : h.Ok) : ∀ e ∈ edgesL h w, e.one ∈ spotsL h w ∧ e.other ∈ spotsL h w := by
  intro e he
  rcases List.mem_append.mp he with q | q
  · obtain ⟨km, hk, q⟩ := List.mem_flatMap.mp q
    obtain ⟨k, hk2, q⟩ := List.mem_flatMap.mp q
    obtain ⟨j, hj, rfl⟩ := List.mem_map.mp q
    rw [List.mem_range] at hk2 hj
    exact ⟨keepAt_mem ok (ok.mkr km hk _ (getD_mem hk2)), firstAt_mem ok (ok.mkr km hk _ (getD_mem (by omega)))⟩
  · obtain ⟨d, hd, q⟩ := List.mem_flatMap.mp q
    rcases List.mem_append.mp q with q | q
    · obtain ⟨p, hp, q⟩ := List.mem_flatMap.mp q
      obtain ⟨j, hj, rfl⟩ := List.mem_map.mp q
      rw [List.mem_range] at hp hj
      exact ⟨spot_mem hd hp, spot_mem hd (by omega)⟩
    · obtain ⟨p, hp, q⟩ := List.mem_flatMap.mp q
      rw [List.mem_range] at hp
      unfold lookE at q
      cases ea : (lvOf w d).lookSpot p with
      | none =>
        rw [ea] at q
        cases q
      | some a =>
        rw [ea] at q
        obtain ⟨pr, _, q⟩ := List.mem_flatMap.mp q
        unfold lookE1 at q
        by_cases z : 0 ≤ pr.2
        · rw [if_pos z] at q
          exact pairE_ends (N := fun x => x ∈ spotsL h w) (fun m hm => keepAt_mem ok (makers_num ok hm)) (spot_mem hd (lookSpot_lt hp ea)) e q
        · rw [if_neg z] at q
          cases q

/-! ### ills -/
inductive Ill where
  | lost (d right key : Int)
  | midway (d key : Int)
  | skewed (a b k k2 : Int)
  | unkept (d key : Int)
  deriving DecidableEq
/-- the pairs of a dealing's looks -/
def pairsOf (d : Deal) : Look := d.looks.flatten
/-- the maker right ahead -/
def rightOf : Int → List Int → Int → Int
  | p, [], _ => p
  | p, m :: r, x => if m = x then p else rightOf m r x
/-- a source ahead of a maker -/
def Ahead (ms : List Int) (s m : Int) : Prop := m ∈ ms ∧ (s = 0 ∨ ∃ l1 l2, ms = l1 ++ m :: l2 ∧ s ∈ l1)
inductive IsIll (h : Hist) : Ill → Prop
  | lost {d : Deal} {key s : Int} : d ∈ h.deals → (key, s) ∈ pairsOf d → d.num ∈ makersOf h key → s ≠ rightOf 0 (makersOf h key) d.num → IsIll h (.lost d.num (rightOf 0 (makersOf h key) d.num) key)
  | midway {d : Deal} {key s t : Int} : d ∈ h.deals → (key, s) ∈ pairsOf d → (key, t) ∈ pairsOf d → s ≠ t → IsIll h (.midway d.num key)
  | skewed {a b : Deal} {k s k2 t : Int} : a ∈ h.deals → b ∈ h.deals → a.num ≠ b.num → (k, s) ∈ pairsOf a → Ahead (makersOf h k) s b.num → (k2, t) ∈ pairsOf b → Ahead (makersOf h k2) t a.num → IsIll h (.skewed a.num b.num k k2)
  | unkept {d : Deal} {key : Int} : d ∈ h.deals → (key, -1) ∈ pairsOf d → IsIll h (.unkept d.num key)

/-- the level of a number -/
def levAt (h : Hist) (m : Int) : Lev := ((dealAt h m).map (·.lev)).getD .loose
def Lev.low : Lev → Bool
  | .loose => true
  | .kept => true
  | _ => false
def Lev.alone : Lev → Bool
  | .watch => true
  | .hold => true
  | _ => false
def isLet (h : Hist) : Ill → Bool
  | .lost d _ _ => (levAt h d).low
  | .midway d _ => (levAt h d).low
  | .skewed a b _ _ => !(levAt h a).alone || !(levAt h b).alone
  | .unkept d _ => decide (levAt h d = .loose)
/-- the numbers in an ill -/
def Ill.nums : Ill → List Int
  | .lost d _ _ => [d]
  | .midway d _ => [d]
  | .skewed a b _ _ => [a, b]
  | .unkept d _ => [d]
theorem IsIll.nums {h : Hist} {i : Ill} (x : IsIll h i) : ∀ m ∈ i.nums, m ∈ h.deals.map (·.num) := by
  cases x with
  | lost a _ _ _ => exact fun m hm => by rw [List.mem_singleton.mp hm]; exact List.mem_map.mpr ⟨_, a, rfl⟩
  | midway a _ _ _ => exact fun m hm => by rw [List.mem_singleton.mp hm]; exact List.mem_map.mpr ⟨_, a, rfl⟩
  | unkept a _ => exact fun m hm => by rw [List.mem_singleton.mp hm]; exact List.mem_map.mpr ⟨_, a, rfl⟩
  | skewed a b _ _ _ _ _ =>
    intro m hm
    rcases List.mem_cons.mp hm with rfl | hm
    · exact List.mem_map.mpr ⟨_, a, rfl⟩
    · rw [List.mem_singleton.mp hm]
      exact List.mem_map.mpr ⟨_, b, rfl⟩

/-- the same history with one level for all -/
def atW (h : Hist) : Option Lev → Hist
  | none => h
  | some l => ⟨h.deals.map fun d => { d with lev := l }, h.makes⟩

/-- what the judge's order says: a rank along all edges, and no read of what was never kept -/
structure Order (h : Hist) (w : Option Lev) : Prop where
  rank : ∃ r : Node → Nat, ∀ e ∈ edgesL h w, r e.one < r e.other
  kept : ∀ d ∈ h.deals, lvOf w d ≠ .loose → ∀ p ∈ pairsOf d, p.2 ≠ -1

section
variable {h : Hist} {w : Option Lev}
/-- the first spot is no later than the keep -/
theorem first_le {r : Node → Nat} (hr : ∀ e ∈ edgesL h w, r e.one < r e.other) {d : Deal} (hd : d ∈ h.deals) : r (firstOf w d) ≤ r (keepOf w d) := by
  have own : ∀ p q : Nat, p < q → q < (lvOf w d).nSpots d.looks.length → (⟨(d.num, (p : Int)), (d.num, (q : Int)), .own, none⟩ : Edge) ∈ edgesL h w := fun p q hpq hq => by
    refine List.mem_append.mpr (.inr (List.mem_flatMap.mpr ⟨d, hd, List.mem_append.mpr (.inl (List.mem_flatMap.mpr ⟨p, List.mem_range.mpr (by omega), ?_⟩))⟩))
    refine List.mem_map.mpr ⟨q - (p + 1), List.mem_range.mpr (by omega), ?_⟩
    have e : p + 1 + (q - (p + 1)) = q := by omega
    rw [e]
  unfold firstOf keepOf
  cases e : lvOf w d with
  | loose => simp [Lev.firstSpot, Lev.nSpots]
  | kept => simp [Lev.firstSpot, Lev.nSpots]
  | watch => simp [Lev.firstSpot, Lev.nSpots]
  | hold => simp [Lev.firstSpot, Lev.nSpots]
  | make =>
    have := hr _ (own 0 1 (by omega) (by rw [e]; simp [Lev.nSpots]))
    simp [Lev.firstSpot, Lev.nSpots] at this ⊢
    omega
theorem over_mem {key : Int} {ms : List Int} (hk : (key, ms) ∈ h.makes) {l1 l2 l3 : List Int} {m n : Int} (e : ms = l1 ++ m :: (l2 ++ n :: l3)) : (⟨keepAt h w m, firstAt h w n, .over, some key⟩ : Edge) ∈ edgesL h w := by
  refine List.mem_append.mpr (.inl (List.mem_flatMap.mpr ⟨_, hk, List.mem_flatMap.mpr ⟨l1.length, List.mem_range.mpr (by rw [e]; simp), List.mem_map.mpr ⟨l2.length, List.mem_range.mpr (by rw [e]; simp; omega), ?_⟩⟩⟩))
  have e1 : ms.getD l1.length 0 = m := by
    rw [e, List.getD_eq_getElem?_getD]
    simp
  have e2 : ms.getD (l1.length + 1 + l2.length) 0 = n := by
    rw [e, List.getD_eq_getElem?_getD]
    have : l1 ++ m :: (l2 ++ n :: l3) = (l1 ++ m :: l2) ++ n :: l3 := by simp
    rw [this, List.getElem?_append_right (by simp; omega)]
    simp
    have : l1.length + 1 + l2.length - (l1.length + (l2.length + 1)) = 0 := by omega
    rw [this]
    simp
  rw [e1, e2]
/-- the pair (key, s) of a look that has a spot gives these edges -/
theorem pair_mem {d : Deal} (hd : d ∈ h.deals) {key s : Int} (hp : (key, s) ∈ pairsOf d) (ha : ∀ p, (lvOf w d).lookSpot p = some 0) (hs : 0 ≤ s) :
    ∀ e ∈ pairE (keepAt h w) (d.num, 0) key s (decide (0 < s)) (makersOf h key), e ∈ edgesL h w := by
  intro e he
  unfold pairsOf at hp
  obtain ⟨l, hl, hp⟩ := List.mem_flatten.mp hp
  obtain ⟨i, hi, el⟩ := List.mem_iff_getElem.mp hl
  refine List.mem_append.mpr (.inr (List.mem_flatMap.mpr ⟨d, hd, List.mem_append.mpr (.inr (List.mem_flatMap.mpr ⟨i, List.mem_range.mpr hi, ?_⟩))⟩))
  unfold lookE
  rw [ha]
  refine List.mem_flatMap.mpr ⟨(key, s), ?_, ?_⟩
  · rw [List.getD_eq_getElem?_getD, List.getElem?_eq_getElem hi, el]
    exact hp
  · unfold lookE1
    rw [if_pos hs]
    exact he
theorem pairE_saw {keep : Int → Node} {spot : Node} {key s m : Int} : ∀ {l1 l2 : List Int}, s ∉ l1 → m ∈ l1 ++ [s] → m ≠ spot.1 → (⟨keep m, spot, .saw, some key⟩ : Edge) ∈ pairE keep spot key s true (l1 ++ s :: l2)
  | [], l2, _, hm, hn => by
    have e : m = s := by simpa using hm
    subst e
    show _ ∈ pairE keep spot key m true (m :: l2)
    rw [pairE, if_neg hn]
    simp
  | a :: l1, l2, hs, hm, hn => by
    have ha : ¬ a = s := fun e => hs (by rw [e]; exact List.mem_cons_self)
    show _ ∈ pairE keep spot key s true (a :: (l1 ++ s :: l2))
    rw [pairE, if_neg ha]
    rcases List.mem_cons.mp (show m ∈ a :: (l1 ++ [s]) from hm) with e | hm
    · subst e
      rw [if_neg hn]
      simp
    · exact List.mem_append.mpr (.inr (pairE_saw (fun q => hs (List.mem_cons_of_mem _ q)) hm hn))
theorem pairE_unseen0 {keep : Int → Node} {spot : Node} {key s m : Int} : ∀ {ms : List Int}, m ∈ ms → m ≠ spot.1 → (⟨spot, keep m, .unseen, some key⟩ : Edge) ∈ pairE keep spot key s false ms
  | a :: r, hm, hn => by
    rw [pairE]
    rcases List.mem_cons.mp hm with e | hm
    · subst e
      rw [if_neg hn]
      simp
    · refine List.mem_append.mpr (.inr ?_)
      have : (if a = s then false else false) = false := by split <;> rfl
      rw [this]
      exact pairE_unseen0 hm hn
theorem pairE_unseen {keep : Int → Node} {spot : Node} {key s m : Int} : ∀ {l1 l2 : List Int}, s ∉ l1 → m ∈ l2 → m ≠ spot.1 → (⟨spot, keep m, .unseen, some key⟩ : Edge) ∈ pairE keep spot key s true (l1 ++ s :: l2)
  | [], l2, _, hm, hn => by
    show _ ∈ pairE keep spot key s true (s :: l2)
    rw [pairE, if_pos (rfl : s = s)]
    exact List.mem_append.mpr (.inr (pairE_unseen0 hm hn))
  | a :: l1, l2, hs, hm, hn => by
    have ha : ¬ a = s := fun e => hs (by rw [e]; exact List.mem_cons_self)
    show _ ∈ pairE keep spot key s true (a :: (l1 ++ s :: l2))
    rw [pairE, if_neg ha]
    exact List.mem_append.mpr (.inr (pairE_unseen (fun q => hs (List.mem_cons_of_mem _ q)) hm hn))
theorem nodup_notin {l1 l2 : List Int} {s : Int} (h : (l1 ++ s :: l2).Nodup) : s ∉ l1 := fun q => by
  obtain ⟨_, _, d⟩ := List.nodup_append.mp h
  exact d _ q _ List.mem_cons_self rfl
/-- a look whose source is s, s behind 0: the source's keep, and that of every maker ahead of it, comes ahead of the look's spot -/
theorem saw_mem (ok : h.Ok) {d : Deal} (hd : d ∈ h.deals) {key s : Int} (hp : (key, s) ∈ pairsOf d) (ha : ∀ p, (lvOf w d).lookSpot p = some 0) (hs : s ∈ makersOf h key) (hn : s ≠ d.num) : (⟨keepAt h w s, (d.num, 0), .saw, some key⟩ : Edge) ∈ edgesL h w := by
  obtain ⟨d', hd', e'⟩ := makers_deal ok hs
  have hpos : 0 < s := by rw [← e']; exact ok.pos d' hd'
  obtain ⟨l1, l2, e⟩ := List.append_of_mem hs
  have nd := ok.mnd _ (makersOf_mem hs)
  refine pair_mem hd hp ha (by omega) _ ?_
  rw [decide_eq_true hpos, e]
  rw [e] at nd
  exact pairE_saw (nodup_notin nd) (by simp) hn
/-- a look whose source is ahead of a maker: its spot comes ahead of that maker's keep -/
theorem unseen_mem (ok : h.Ok) {d : Deal} (hd : d ∈ h.deals) {key s m : Int} (hp : (key, s) ∈ pairsOf d) (ha : ∀ p, (lvOf w d).lookSpot p = some 0) (hm : Ahead (makersOf h key) s m) (hn : m ≠ d.num) : (⟨(d.num, 0), keepAt h w m, .unseen, some key⟩ : Edge) ∈ edgesL h w := by
  obtain ⟨hmem, hs | ⟨l1, l2, e, hs⟩⟩ := hm
  · subst hs
    refine pair_mem hd hp ha (by omega) _ ?_
    exact pairE_unseen0 hmem hn
  · obtain ⟨l3, l4, e2⟩ := List.append_of_mem hs
    have hsm : s ∈ makersOf h key := by rw [e]; exact List.mem_append.mpr (.inl hs)
    obtain ⟨d', hd', e'⟩ := makers_deal ok hsm
    have hpos : 0 < s := by rw [← e']; exact ok.pos d' hd'
    have nd := ok.mnd _ (makersOf_mem hsm)
    have e3 : makersOf h key = l3 ++ s :: (l4 ++ m :: l2) := by rw [e, e2]; simp
    refine pair_mem hd hp ha (by omega) _ ?_
    rw [decide_eq_true hpos, e3]
    have nd : (makersOf h key).Nodup := nd
    rw [e3] at nd
    exact pairE_unseen (nodup_notin nd) (by simp) hn

theorem rightOf_eq {d : Int} : ∀ {l1 l2 : List Int} {p : Int}, d ∉ l1 → rightOf p (l1 ++ d :: l2) d = l1.getLastD p
  | [], l2, p, _ => by simp [rightOf]
  | a :: l1, l2, p, hd => by
    have ha : ¬ a = d := fun e => hd (by rw [e]; exact List.mem_cons_self)
    show rightOf p (a :: (l1 ++ d :: l2)) d = _
    rw [rightOf, if_neg ha, rightOf_eq fun q => hd (List.mem_cons_of_mem _ q)]
    exact (List.getLastD_cons).symm

/-- levels at which all looks stand at one spot, which is the first -/
theorem not_low {l : Lev} (hl : l.low = false) : (∀ p, l.lookSpot p = some 0) ∧ ∀ n, l.firstSpot n = 0 := by
  cases l <;> simp [Lev.low] at hl <;> exact ⟨fun _ => rfl, fun _ => rfl⟩
theorem not_low_loose {l : Lev} (hl : l.low = false) : l ≠ .loose := by
  rintro rfl
  cases hl

theorem order_lets (ok : h.Ok) (o : Order h w) : ∀ i, IsIll h i → isLet (atW h w) i = true := by
  have lv : ∀ d ∈ h.deals, levAt (atW h w) d.num = lvOf w d := fun d hd => by
    unfold levAt dealAt atW lvOf
    cases w with
    | none =>
      show ((h.deals.find? fun x => decide (x.num = d.num)).map _).getD _ = _
      rw [find_nodup Deal.num ok.nums hd]
      rfl
    | some l =>
      show (((h.deals.map fun d => { d with lev := l }).find? fun x => decide (x.num = d.num)).map _).getD _ = _
      rw [List.find?_map]
      have : (h.deals.find? ((fun x : Deal => decide (x.num = d.num)) ∘ fun d => { d with lev := l })) = some d := find_nodup Deal.num ok.nums hd
      rw [this]
      rfl
  obtain ⟨r, hr⟩ := o.rank
  intro i hi
  cases hi with
  | @unkept d key hd hp =>
    show decide (levAt (atW h w) d.num = .loose) = true
    rw [lv d hd]
    cases e : lvOf w d with
    | loose => rfl
    | _ => exact absurd rfl (o.kept d hd (by rw [e]; simp) _ hp)
  | @midway d key s t hd hs ht hne =>
    show (levAt (atW h w) d.num).low = true
    rw [lv d hd]
    cases e : (lvOf w d).low with
    | true => rfl
    | false =>
      exfalso
      obtain ⟨ha, _⟩ := not_low e
      have hk := o.kept d hd (not_low_loose e)
      have src : ∀ x, (key, x) ∈ pairsOf d → x = 0 ∨ (x ∈ makersOf h key ∧ x ≠ d.num) := fun x hx => by
        have hx' := hx
        unfold pairsOf at hx'
        obtain ⟨l, hl, hp⟩ := List.mem_flatten.mp hx'
        rcases ok.src d hd l hl _ hp with q | q | q
        · exact absurd q (hk _ hx)
        · exact .inl q
        · exact .inr q
      -- whichever is ahead of the other
      have key1 : ∀ x y, (key, x) ∈ pairsOf d → (key, y) ∈ pairsOf d → (y ∈ makersOf h key ∧ y ≠ d.num) → Ahead (makersOf h key) x y → False := fun x y hx hy ⟨y1, y2⟩ hxy => by
        have a := hr _ (saw_mem (w := w) ok hd hy ha y1 y2)
        have b := hr _ (unseen_mem (w := w) ok hd hx ha hxy y2)
        have a : r (keepAt h w y) < r (d.num, 0) := a
        have b : r (d.num, 0) < r (keepAt h w y) := b
        omega
      rcases src s hs with s0 | s1
      · rcases src t ht with t0 | t1
        · exact hne (s0.trans t0.symm)
        · exact key1 s t hs ht t1 ⟨t1.1, .inl s0⟩
      · rcases src t ht with t0 | t1
        · exact key1 t s ht hs s1 ⟨s1.1, .inl t0⟩
        · obtain ⟨l1, l2, e1⟩ := List.append_of_mem t1.1
          have : s ∈ l1 ++ t :: l2 := by rw [← e1]; exact s1.1
          rcases List.mem_append.mp this with q | q
          · exact key1 s t hs ht t1 ⟨t1.1, .inr ⟨l1, l2, e1, q⟩⟩
          · rcases List.mem_cons.mp q with q | q
            · exact hne q
            · obtain ⟨l3, l4, e2⟩ := List.append_of_mem q
              exact key1 t s ht hs s1 ⟨s1.1, .inr ⟨l1 ++ t :: l3, l4, by rw [e1, e2]; simp, by simp⟩⟩
  | @skewed a b k s k2 t hda hdb hne hp1 ha1 hp2 ha2 =>
    show (!(levAt (atW h w) a.num).alone || !(levAt (atW h w) b.num).alone) = true
    rw [lv a hda, lv b hdb]
    cases e1 : (lvOf w a).alone with
    | false => rfl
    | true =>
      cases e2 : (lvOf w b).alone with
      | false => rfl
      | true =>
        exfalso
        have al : ∀ l : Lev, l.alone = true → (∀ p, l.lookSpot p = some 0) ∧ ∀ n, l.nSpots n = 1 := fun l hl => by
          cases l <;> simp [Lev.alone] at hl <;> exact ⟨fun _ => rfl, fun _ => rfl⟩
        obtain ⟨x1, y1⟩ := al _ e1
        obtain ⟨x2, y2⟩ := al _ e2
        have u1 := hr _ (unseen_mem (w := w) ok hda hp1 x1 ha1 (fun z => hne z.symm))
        have u2 := hr _ (unseen_mem (w := w) ok hdb hp2 x2 ha2 hne)
        rw [keepAt_of ok hdb] at u1
        rw [keepAt_of ok hda] at u2
        unfold keepOf at u1 u2
        rw [y2] at u1
        rw [y1] at u2
        have u1 : r (a.num, 0) < r (b.num, 0) := u1
        have u2 : r (b.num, 0) < r (a.num, 0) := u2
        omega
  | @lost d key s hd hp hm hne =>
    show (levAt (atW h w) d.num).low = true
    rw [lv d hd]
    cases e : (lvOf w d).low with
    | true => rfl
    | false =>
      exfalso
      obtain ⟨ha, hf⟩ := not_low e
      have hk := o.kept d hd (not_low_loose e)
      have hfd : firstAt h w d.num = (d.num, 0) := by
        rw [firstAt_of ok hd]
        unfold firstOf
        rw [hf]
        rfl
      have lek := first_le hr hd
      rw [← firstAt_of (w := w) ok hd, hfd, ← keepAt_of (w := w) ok hd] at lek
      obtain ⟨l1, l2, e1⟩ := List.append_of_mem hm
      have hmk := makersOf_mem hm
      have nd : (makersOf h key).Nodup := ok.mnd _ hmk
      have hd1 : d.num ∉ l1 := by
        rw [e1] at nd
        exact nodup_notin nd
      have src : s = 0 ∨ (s ∈ makersOf h key ∧ s ≠ d.num) := by
        have hx' := hp
        unfold pairsOf at hx'
        obtain ⟨l, hl, hq⟩ := List.mem_flatten.mp hx'
        rcases ok.src d hd l hl _ hq with q | q | q
        · exact absurd q (hk _ hp)
        · exact .inl q
        · exact .inr q
      -- a source behind d
      have behind : s ∈ l2 → (s ∈ makersOf h key ∧ s ≠ d.num) → False := fun hs ⟨s1, s2⟩ => by
        obtain ⟨l3, l4, e2⟩ := List.append_of_mem hs
        have a := hr _ (over_mem (w := w) hmk (l1 := l1) (m := d.num) (l2 := l3) (n := s) (l3 := l4) (by rw [e1, e2]))
        have b := hr _ (saw_mem (w := w) ok hd hp ha s1 s2)
        obtain ⟨ds, hds, es⟩ := makers_deal ok s1
        have c := first_le hr hds
        rw [← firstAt_of (w := w) ok hds, ← keepAt_of (w := w) ok hds, es] at c
        have a : r (keepAt h w d.num) < r (firstAt h w s) := a
        have b : r (keepAt h w s) < r (d.num, 0) := b
        omega
      -- a source ahead of the right one
      have ahead : ∀ q, q ∈ l1 → Ahead (makersOf h key) s q → False := fun q hq hs => by
        obtain ⟨l3, l4, e2⟩ := List.append_of_mem hq
        have hqn : q ≠ d.num := fun z => hd1 (z ▸ hq)
        have a := hr _ (unseen_mem (w := w) ok hd hp ha hs hqn)
        have b := hr _ (over_mem (w := w) hmk (l1 := l3) (m := q) (l2 := l4) (n := d.num) (l3 := l2) (by rw [e1, e2]; simp))
        rw [hfd] at b
        have a : r (d.num, 0) < r (keepAt h w q) := a
        have b : r (keepAt h w q) < r (d.num, 0) := b
        omega
      have er := rightOf_eq (p := 0) (l2 := l2) hd1
      rw [← e1] at er
      rcases List.eq_nil_or_concat l1 with z | ⟨l3, q, z⟩
      · subst z
        have er : rightOf 0 (makersOf h key) d.num = 0 := er
        rw [er] at hne
        rcases src with s0 | s1
        · exact hne s0
        · have : s ∈ d.num :: l2 := by
            have t := s1.1
            rw [e1] at t
            exact t
          rcases List.mem_cons.mp this with t | t
          · exact s1.2 t
          · exact behind t s1
      · have z : l1 = l3 ++ [q] := by simpa using z
        have er : rightOf 0 (makersOf h key) d.num = q := by
          rw [er, z]
          exact List.getLastD_concat
        rw [er] at hne
        have hq : q ∈ l1 := by rw [z]; simp
        have hqm : q ∈ makersOf h key := by rw [e1]; exact List.mem_append.mpr (.inl hq)
        rcases src with s0 | s1
        · exact ahead q hq ⟨hqm, .inl s0⟩
        · have : s ∈ l1 ++ d.num :: l2 := by
            have t := s1.1
            rw [e1] at t
            exact t
          rcases List.mem_append.mp this with t | t
          · have t2 : s ∈ l3 := by
              rw [z] at t
              rcases List.mem_append.mp t with u | u
              · exact u
              · exact absurd (List.mem_singleton.mp u) hne
            exact ahead q hq ⟨hqm, .inr ⟨l3, d.num :: l2, by rw [e1, z]; simp, t2⟩⟩
          · rcases List.mem_cons.mp t with t | t
            · exact s1.2 t
            · exact behind t s1
end
end
end Sk
/-! SkB -/
/-! What evaluates to what, over a base G of objects that stay within the heap H. -/
namespace Sk
open PySem L2

/-! ### heaps -/
abbrev Ex (H H' : Hp) : Prop := Evl.Ex H H'
theorem Ex.refl (H : Hp) : Ex H H := Evl.Ex.refl H
theorem Ex.trans {H H1 H2 : Hp} (a : Ex H H1) (b : Ex H1 H2) : Ex H H2 := Evl.Ex.trans a b
theorem Ex.non {H H' : Hp} (e : Ex H H') {a : Addr} (h : H' a = none) : H a = none := by
  cases q : H a with
  | none => rfl
  | some o =>
    rw [e a o q] at h
    cases h
theorem Ex.new {G H : Hp} (e : Ex G H) {p : Addr} {o : HO} : Ex (upd G p o) (upd H p o) := fun a u h => by
  by_cases q : a = p
  · subst q
    rw [upd_same] at h ⊢
    exact h
  · rw [upd_ne q] at h ⊢
    exact e a u h
theorem Ex.upd1 {G : Hp} {p : Addr} {o : HO} (h : G p = none) : Ex G (upd G p o) := fun a u e => by
  rw [upd_ne (ne_of_none e h)]
  exact e
theorem Ex.mut {G H : Hp} (e : Ex G H) {p : Addr} {o : HO} (h : G p = none) : Ex G (upd H p o) := fun a u ha => by
  rw [upd_ne (ne_of_none ha h)]
  exact e a u ha
theorem Ex.put {G H : Hp} (e : Ex G H) {p : Addr} {o : HO} (h : H p = some o) : Ex (upd G p o) H := fun a u ha => by
  by_cases q : a = p
  · subst q
    rw [upd_same] at ha
    cases ha
    exact h
  · rw [upd_ne q] at ha
    exact e a u ha
/-- an object that may change: no tuple -/
def NT (o : HO) : Prop := ∀ xs, o ≠ .tup xs
/-- the base G has grown within H: what H had besides is not in it -/
structure Grow (G H G' H' : Hp) : Prop where
  gg : Ex G G'
  gh : Ex G' H'
  hh : Ex H H'
  ap : ∀ a o, H a = some o → NT o → G a = none → G' a = none
theorem Grow.refl {G H : Hp} (e : Ex G H) : Grow G H G H := ⟨Ex.refl G, e, Ex.refl H, fun _ _ _ _ h => h⟩
theorem Grow.trans {G H G1 H1 G2 H2 : Hp} (a : Grow G H G1 H1) (b : Grow G1 H1 G2 H2) : Grow G H G2 H2 :=
  ⟨a.gg.trans b.gg, b.gh, a.hh.trans b.hh, fun x o h t n => b.ap x o (a.hh x o h) t (a.ap x o h t n)⟩
theorem Grow.new {G H : Hp} (e : Ex G H) {p : Addr} {o : HO} (h : H p = none) : Grow G H (upd G p o) (upd H p o) :=
  ⟨Ex.upd1 (e.non h), e.new, Ex.upd1 h, fun a u ha _ n => by rw [upd_ne (ne_of_none ha h)]; exact n⟩
theorem Grow.over {G H H' : Hp} (e : Ex G H) (h : Ex H H') : Grow G H G H' := ⟨Ex.refl G, e.trans h, h, fun _ _ _ _ n => n⟩
/-- an object outside of the base is made (or changed) where the first heap has none -/
theorem Grow.mut {G0 H0 G H : Hp} (g : Grow G0 H0 G H) {p : Addr} {o : HO} (h0 : H0 p = none) (hg : G p = none) : Grow G0 H0 G (upd H p o) :=
  ⟨g.gg, g.gh.mut hg, g.hh.mut h0, g.ap⟩
/-- an object of H is taken into the base -/
theorem Grow.put {G0 H0 G H : Hp} (g : Grow G0 H0 G H) {p : Addr} {o : HO} (h0 : H0 p = none) (hg : G p = none) (h : H p = some o) : Grow G0 H0 (upd G p o) H :=
  ⟨g.gg.trans (Ex.upd1 hg), g.gh.put h, g.hh, fun a u ha t n => by rw [upd_ne (ne_of_none ha h0)]; exact g.ap a u ha t n⟩
/-- all tuples of H are taken into the base -/
def withT (G H : Hp) : Hp := fun a => match G a with
  | some o => some o
  | none => match H a with
    | some (.tup xs) => some (.tup xs)
    | _ => none
theorem Grow.tups {G H : Hp} (e : Ex G H) : Grow G H (withT G H) H := by
  refine ⟨fun a o h => ?_, fun a o h => ?_, Ex.refl H, fun a o h t n => ?_⟩
  · unfold withT
    rw [h]
  · unfold withT at h
    cases q : G a with
    | some u =>
      rw [q] at h
      cases h
      exact e a _ q
    | none =>
      rw [q] at h
      cases r : H a with
      | none =>
        rw [r] at h
        cases h
      | some u =>
        rw [r] at h
        cases u with
        | tup xs => exact h
        | _ => cases h
  · unfold withT
    rw [n, h]
    cases o with
    | tup xs => exact absurd rfl (t xs)
    | _ => rfl
theorem withT_tup {G H : Hp} (e : Ex G H) {a : Addr} {xs : List V} (h : H a = some (.tup xs)) : withT G H a = some (.tup xs) := by
  unfold withT
  cases q : G a with
  | some u =>
    have := e a u q
    rw [h] at this
    cases this
    rfl
  | none =>
    rw [h]
theorem nt_lst {xs : List V} : NT (.lst xs) := fun _ h => by cases h
theorem nt_dK {xs : List (Key × V)} : NT (.dK xs) := fun _ h => by cases h
theorem nt_dT {xs : List (List Key × V)} : NT (.dT xs) := fun _ h => by cases h

/-! ### data -/
mutual
inductive Dt (G : Hp) : V → PyData → Prop
  | non : Dt G .non .none
  | bl (b : Bool) : Dt G (.bl b) (.bool b)
  | int (i : Int) : Dt G (.int i) (.int i)
  | str (x : Str) : Dt G (.str x) (.str x)
  | lst {a : Addr} {xs : List V} {ds : List PyData} : G a = some (.lst xs) → DtL G xs ds → Dt G (.ref a) (.list ds)
  | tup {a : Addr} {xs : List V} {ds : List PyData} : G a = some (.tup xs) → DtL G xs ds → Dt G (.ref a) (.tuple ds)
inductive DtL (G : Hp) : List V → List PyData → Prop
  | nil : DtL G [] []
  | cons {v : V} {vs : List V} {d : PyData} {ds : List PyData} : Dt G v d → DtL G vs ds → DtL G (v :: vs) (d :: ds)
end
section
variable {G G' H : Hp} {K : PySem.W.Frag}
mutual
theorem Dt.mono (e : Ex G G') : ∀ {v : V} {d : PyData}, Dt G v d → Dt G' v d
  | _, _, .non => .non
  | _, _, .bl b => .bl b
  | _, _, .int i => .int i
  | _, _, .str x => .str x
  | _, _, .lst h r => .lst (e _ _ h) (DtL.mono e r)
  | _, _, .tup h r => .tup (e _ _ h) (DtL.mono e r)
theorem DtL.mono (e : Ex G G') : ∀ {vs : List V} {ds : List PyData}, DtL G vs ds → DtL G' vs ds
  | _, _, .nil => .nil
  | _, _, .cons h r => .cons (Dt.mono e h) (DtL.mono e r)
end
mutual
theorem Dt.dp : ∀ {v : V} {d : PyData}, Dt G v d → Dp K G v d
  | _, _, .non => .non
  | _, _, .bl b => .bl b
  | _, _, .int i => .int i
  | _, _, .str x => .str x
  | _, _, .lst h r => .lst (SqL.of h) (DtL.dp r)
  | _, _, .tup h r => .tup (SqT.of h) (DtL.dp r)
theorem DtL.dp : ∀ {vs : List V} {ds : List PyData}, DtL G vs ds → DpAll K G vs ds
  | _, _, .nil => .nil
  | _, _, .cons h r => .cons (Dt.dp h) (DtL.dp r)
end
theorem Dt.int_iff {v : V} {i : Int} : Dt G v (.int i) ↔ v = .int i := ⟨fun h => by cases h; rfl, fun h => by subst h; exact .int i⟩
theorem Dt.str_iff {v : V} {x : Str} : Dt G v (.str x) ↔ v = .str x := ⟨fun h => by cases h; rfl, fun h => by subst h; exact .str x⟩
theorem Dt.bl_iff {v : V} {b : Bool} : Dt G v (.bool b) ↔ v = .bl b := ⟨fun h => by cases h; rfl, fun h => by subst h; exact .bl b⟩
theorem Dt.non_iff {v : V} : Dt G v .none ↔ v = .non := ⟨fun h => by cases h; rfl, fun h => by subst h; exact .non⟩
theorem Dt.lst_inv {v : V} {ds : List PyData} (h : Dt G v (.list ds)) : ∃ a xs, v = .ref a ∧ G a = some (.lst xs) ∧ DtL G xs ds := by
  cases h with
  | lst h r => exact ⟨_, _, rfl, h, r⟩
theorem Dt.tup_inv {v : V} {ds : List PyData} (h : Dt G v (.tuple ds)) : ∃ a xs, v = .ref a ∧ G a = some (.tup xs) ∧ DtL G xs ds := by
  cases h with
  | tup h r => exact ⟨_, _, rfl, h, r⟩
theorem DtL.length : ∀ {vs : List V} {ds : List PyData}, DtL G vs ds → vs.length = ds.length
  | _, _, .nil => rfl
  | _, _, .cons _ r => congrArg (· + 1) (DtL.length r)
theorem DtL.get : ∀ {vs : List V} {ds : List PyData} {i : Nat} {v : V}, DtL G vs ds → vs[i]? = some v → ∃ d, ds[i]? = some d ∧ Dt G v d
  | _, _, _, _, .nil, e => by simp at e
  | _, _, 0, v, .cons h _, e => by
    simp at e
    subst e
    exact ⟨_, rfl, h⟩
  | _, _, i + 1, v, .cons _ r, e => by
    obtain ⟨d, h1, h2⟩ := DtL.get (i := i) (v := v) r (by simpa using e)
    exact ⟨d, by simpa using h1, h2⟩
theorem DtL.getD : ∀ {vs : List V} {ds : List PyData} {i : Nat} {d : PyData}, DtL G vs ds → ds[i]? = some d → ∃ v, vs[i]? = some v ∧ Dt G v d
  | _, _, _, _, .nil, e => by simp at e
  | _, _, 0, v, .cons h _, e => by
    simp at e
    subst e
    exact ⟨_, rfl, h⟩
  | _, _, i + 1, d, .cons _ r, e => by
    obtain ⟨v, h1, h2⟩ := DtL.getD (i := i) (d := d) r (by simpa using e)
    exact ⟨v, by simpa using h1, h2⟩
theorem DtL.append : ∀ {vs ws : List V} {ds es : List PyData}, DtL G vs ds → DtL G ws es → DtL G (vs ++ ws) (ds ++ es)
  | _, _, _, _, .nil, s => s
  | _, _, _, _, .cons h r, s => .cons h (DtL.append r s)
theorem DtL.snoc {vs : List V} {v : V} {ds : List PyData} {d : PyData} (h : DtL G vs ds) (q : Dt G v d) : DtL G (vs ++ [v]) (ds ++ [d]) := h.append (.cons q .nil)
theorem DtL.take : ∀ {vs : List V} {ds : List PyData} (n : Nat), DtL G vs ds → DtL G (vs.take n) (ds.take n)
  | _, _, 0, _ => .nil
  | _, _, _ + 1, .nil => .nil
  | _, _, n + 1, .cons h r => .cons h (DtL.take n r)
theorem DtL.drop : ∀ {vs : List V} {ds : List PyData} (n : Nat), DtL G vs ds → DtL G (vs.drop n) (ds.drop n)
  | _, _, 0, r => r
  | _, _, _ + 1, .nil => .nil
  | _, _, n + 1, .cons _ r => DtL.drop n r
theorem DtL.mem_l : ∀ {vs : List V} {ds : List PyData} {v : V}, DtL G vs ds → v ∈ vs → ∃ d ∈ ds, Dt G v d
  | _, _, _, .nil, e => nomatch e
  | _, _, v, .cons h r, e => by
    rcases List.mem_cons.mp e with rfl | e
    · exact ⟨_, List.mem_cons_self, h⟩
    · obtain ⟨d, a, b⟩ := DtL.mem_l r e
      exact ⟨d, List.mem_cons_of_mem _ a, b⟩
theorem DtL.ints : ∀ {vs : List V} {is : List Int}, DtL G vs (is.map .int) → vs = is.map V.int
  | _, [], .nil => rfl
  | _, i :: is, .cons h r => by
    rw [Dt.int_iff.mp h, DtL.ints r]
    rfl
theorem DtL.nil_inv {vs : List V} (h : DtL G vs []) : vs = [] := by cases h; rfl
theorem DtL.cons_inv {vs : List V} {d : PyData} {ds : List PyData} (h : DtL G vs (d :: ds)) : ∃ v r, vs = v :: r ∧ Dt G v d ∧ DtL G r ds := by
  cases h with
  | cons a b => exact ⟨_, _, rfl, a, b⟩
theorem Dt.t2 {v : V} {d1 d2 : PyData} (h : Dt G v (.tuple [d1, d2])) : ∃ a v1 v2, v = .ref a ∧ G a = some (.tup [v1, v2]) ∧ Dt G v1 d1 ∧ Dt G v2 d2 := by
  obtain ⟨a, xs, e, h1, h2⟩ := h.tup_inv
  obtain ⟨v1, r, rfl, q1, h2⟩ := h2.cons_inv
  obtain ⟨v2, r, rfl, q2, h2⟩ := h2.cons_inv
  obtain rfl := h2.nil_inv
  exact ⟨a, v1, v2, e, h1, q1, q2⟩
theorem Dt.t3 {v : V} {d1 d2 d3 : PyData} (h : Dt G v (.tuple [d1, d2, d3])) : ∃ a v1 v2 v3, v = .ref a ∧ G a = some (.tup [v1, v2, v3]) ∧ Dt G v1 d1 ∧ Dt G v2 d2 ∧ Dt G v3 d3 := by
  obtain ⟨a, xs, e, h1, h2⟩ := h.tup_inv
  obtain ⟨v1, r, rfl, q1, h2⟩ := h2.cons_inv
  obtain ⟨v2, r, rfl, q2, h2⟩ := h2.cons_inv
  obtain ⟨v3, r, rfl, q3, h2⟩ := h2.cons_inv
  obtain rfl := h2.nil_inv
  exact ⟨a, v1, v2, v3, e, h1, q1, q2, q3⟩
end

/-! ### what is known of a value, whatever stays -/
structure MP where
  p : Hp → V → Prop
  mono : ∀ {G G' : Hp} {v : V}, Ex G G' → p G v → p G' v
def mV (v : V) : MP := ⟨fun _ x => x = v, fun _ h => h⟩
def mD (d : PyData) : MP := ⟨fun G x => Dt G x d, fun e h => h.mono e⟩
/-- some data of a kind -/
def mDs (P : PyData → Prop) : MP := ⟨fun G x => ∃ d, P d ∧ Dt G x d, fun e ⟨d, a, b⟩ => ⟨d, a, b.mono e⟩⟩
def mAny : MP := ⟨fun _ _ => True, fun _ h => h⟩
def MP.flat (m : MP) : Prop := ∀ G G' v, m.p G v → m.p G' v
theorem flat_V (v : V) : (mV v).flat := fun _ _ _ h => h
theorem flat_int (i : Int) : (mD (.int i)).flat := fun _ _ _ h => Dt.int_iff.mpr (Dt.int_iff.mp h)
theorem flat_bl (b : Bool) : (mD (.bool b)).flat := fun _ _ _ h => Dt.bl_iff.mpr (Dt.bl_iff.mp h)
theorem flat_str (x : Str) : (mD (.str x)).flat := fun _ _ _ h => Dt.str_iff.mpr (Dt.str_iff.mp h)
theorem flat_non : (mD .none).flat := fun _ _ _ h => Dt.non_iff.mpr (Dt.non_iff.mp h)

def Ev (te : TE) (σ : L2.St) (G H : Hp) (m : MP) : Prop := ∀ G1 H1, Grow G H G1 H1 → ∀ Q : VK, (∀ v G2 H2, Grow G1 H1 G2 H2 → m.p G2 v → Q v H2) → te σ H1 Q
def ET (tt : TT) (σ : L2.St) (G H : Hp) (b : Bool) : Prop := ∀ G1 H1, Grow G H G1 H1 → ∀ Q : Bool → Hp → Prop, (∀ G2 H2, Grow G1 H1 G2 H2 → Q b H2) → tt σ H1 Q
def AllP (G : Hp) : List MP → List V → Prop
  | [], [] => True
  | m :: ms, v :: vs => m.p G v ∧ AllP G ms vs
  | _, _ => False
theorem AllP.mono {G G' : Hp} (e : Ex G G') : ∀ {ms : List MP} {vs : List V}, AllP G ms vs → AllP G' ms vs
  | [], [], _ => trivial
  | m :: _, _ :: _, h => ⟨m.mono e h.1, AllP.mono e h.2⟩
  | [], _ :: _, h => h.elim
  | _ :: _, [], h => h.elim
theorem AllP.length {G : Hp} : ∀ {ms : List MP} {vs : List V}, AllP G ms vs → vs.length = ms.length
  | [], [], _ => rfl
  | _ :: _, _ :: _, h => congrArg (· + 1) (AllP.length h.2)
  | [], _ :: _, h => h.elim
  | _ :: _, [], h => h.elim
theorem AllP.append {G : Hp} : ∀ {ms ns : List MP} {vs ws : List V}, AllP G ms vs → AllP G ns ws → AllP G (ms ++ ns) (vs ++ ws)
  | [], _, [], _, _, h => h
  | _ :: _, _, _ :: _, _, h, q => ⟨h.1, AllP.append h.2 q⟩
  | [], _, _ :: _, _, h, _ => h.elim
  | _ :: _, _, [], _, h, _ => h.elim
def EvA (ta : TA) (σ : L2.St) (G H : Hp) (ms : List MP) : Prop := ∀ G1 H1, Grow G H G1 H1 → ∀ Q : List V → Hp → Prop, (∀ vs G2 H2, Grow G1 H1 G2 H2 → AllP G2 ms vs → Q vs H2) → ta σ H1 Q
/-- a list of data -/
def EvD (ta : TA) (σ : L2.St) (G H : Hp) (ds : List PyData) : Prop := ∀ G1 H1, Grow G H G1 H1 → ∀ Q : List V → Hp → Prop, (∀ vs G2 H2, Grow G1 H1 G2 H2 → DtL G2 vs ds → Q vs H2) → ta σ H1 Q
section
variable {K : PySem.W.Frag} {σ : L2.St} {G H G' H' : Hp} {ta tb te tx : TE} {t u : TT} {r : R2} {m m1 m2 : MP} {b c : Bool} {d e : PyData}
theorem Ev.on (h : Ev te σ G H m) (g : Grow G H G' H') : Ev te σ G' H' m := fun G1 H1 g1 Q k => h G1 H1 (g.trans g1) Q k
theorem ET.on (h : ET t σ G H b) (g : Grow G H G' H') : ET t σ G' H' b := fun G1 H1 g1 Q k => h G1 H1 (g.trans g1) Q k
theorem Ev.imp (h : Ev te σ G H m) (q : ∀ G v, m.p G v → m1.p G v) : Ev te σ G H m1 := fun G1 H1 g1 Q k => h G1 H1 g1 Q fun v G2 H2 g2 hv => k v G2 H2 g2 (q _ _ hv)
theorem ET.is (h : ET t σ G H b) (q : b = c) : ET t σ G H c := q ▸ h
theorem Ev.is (h : Ev te σ G H (mD d)) (q : d = e) : Ev te σ G H (mD e) := q ▸ h
/-- read over the whole heap, where the result does not lean on it -/
theorem Ev.now (h : Ev te σ H H m) (f : m.flat) (e : Ex G H) : Ev te σ G H m := fun G1 H1 g1 Q k =>
  h H1 H1 ⟨g1.hh, Ex.refl _, g1.hh, fun a o ha _ n => by rw [ha] at n; cases n⟩ Q fun v G2 H2 g2 hv => k v G1 H2 (Grow.over g1.gh g2.hh) (f _ _ _ hv)
theorem ET.now (h : ET t σ H H b) (e : Ex G H) : ET t σ G H b := fun G1 H1 g1 Q k =>
  h H1 H1 ⟨g1.hh, Ex.refl _, g1.hh, fun a o ha _ n => by rw [ha] at n; cases n⟩ Q fun G2 H2 g2 => k G1 H2 (Grow.over g1.gh g2.hh)

theorem ev_var {i : Nat} {v : V} (h : σ[i]? = some (some v)) (hm : m.p G v) : Ev (tVar i) σ G H m := fun G1 H1 g Q k => ⟨v, h, k v G1 H1 (Grow.refl g.gh) (m.mono g.gg hm)⟩
theorem ev_varV {i : Nat} {v : V} (h : σ[i]? = some (some v)) : Ev (tVar i) σ G H (mV v) := ev_var h rfl
theorem ev_int {i : Int} : Ev (tC (.int i)) σ G H (mD (.int i)) := fun G1 H1 g Q k => k _ G1 H1 (Grow.refl g.gh) (.int i)
theorem ev_bl {i : Bool} : Ev (tC (.bl i)) σ G H (mD (.bool i)) := fun G1 H1 g Q k => k _ G1 H1 (Grow.refl g.gh) (.bl i)
theorem ev_str {i : Str} : Ev (tC (.str i)) σ G H (mD (.str i)) := fun G1 H1 g Q k => k _ G1 H1 (Grow.refl g.gh) (.str i)
theorem ev_non : Ev (tC .non) σ G H (mD .none) := fun G1 H1 g Q k => k _ G1 H1 (Grow.refl g.gh) .non
theorem ev_cV {v : V} : Ev (tC v) σ G H (mV v) := fun G1 H1 g Q k => k _ G1 H1 (Grow.refl g.gh) rfl
def RV (r : R2) (G H : Hp) (m1 m2 m : MP) : Prop := ∀ x y G1 H1, Grow G H G1 H1 → m1.p G1 x → m2.p G1 y → ∀ Q : VK, (∀ z G2 H2, Grow G1 H1 G2 H2 → m.p G2 z → Q z H2) → r x y H1 Q
theorem ev_op (ha : Ev ta σ G H m1) (hb : Ev tb σ G H m2) (hr : RV r G H m1 m2 m) : Ev (tOp r ta tb) σ G H m := fun G1 H1 g1 Q k =>
  ha G1 H1 g1 _ fun x G2 H2 g2 hx => hb G2 H2 (g1.trans g2) _ fun y G3 H3 g3 hy => hr x y G3 H3 ((g1.trans g2).trans g3) (m1.mono g3.gg hx) hy Q fun z G4 H4 g4 hz => k z G4 H4 ((g2.trans g3).trans g4) hz
/-- the answer at once -/
theorem rv_now (h : ∀ x y G1 H1, Grow G H G1 H1 → m1.p G1 x → m2.p G1 y → ∃ z, m.p G1 z ∧ ∀ Q : VK, Q z H1 → r x y H1 Q) : RV r G H m1 m2 m := fun x y G1 H1 g hx hy Q k => by
  obtain ⟨z, hz, q⟩ := h x y G1 H1 g hx hy
  exact q Q (k z G1 H1 (Grow.refl g.gh) hz)
theorem rv_I0 {g : Int → Int → Int} {i j : Int} : RV (rI0 fun i j => .int (g i j)) G H (mD (.int i)) (mD (.int j)) (mD (.int (g i j))) := rv_now fun x y G1 H1 _ hx hy =>
  ⟨_, .int _, fun Q q => ⟨i, j, Dt.int_iff.mp hx, Dt.int_iff.mp hy, q⟩⟩
theorem rv_B0 {g : Int → Int → Bool} {i j : Int} : RV (rI0 fun i j => .bl (g i j)) G H (mD (.int i)) (mD (.int j)) (mD (.bool (g i j))) := rv_now fun x y G1 H1 _ hx hy =>
  ⟨_, .bl _, fun Q q => ⟨i, j, Dt.int_iff.mp hx, Dt.int_iff.mp hy, q⟩⟩
theorem rv_I {C : Int → Int → Prop} {g : Int → Int → Int} {i j : Int} (hc : C i j) : RV (rI C fun i j => .int (g i j)) G H (mD (.int i)) (mD (.int j)) (mD (.int (g i j))) := rv_now fun x y G1 H1 _ hx hy =>
  ⟨_, .int _, fun Q q => ⟨i, j, Dt.int_iff.mp hx, Dt.int_iff.mp hy, hc, q⟩⟩
theorem rv_eqI {i j : Int} : RV rEq G H (mD (.int i)) (mD (.int j)) (mD (.bool (decide (i = j)))) := rv_now fun x y G1 H1 _ hx hy => by
  obtain rfl := Dt.int_iff.mp hx
  obtain rfl := Dt.int_iff.mp hy
  refine ⟨.bl (decide (i = j)), .bl _, fun Q q => ⟨rfl, ?_⟩⟩
  have e : decide (V.int i = V.int j) = decide (i = j) := by simp
  rw [e]
  exact q
theorem rv_neI {i j : Int} : RV rNe G H (mD (.int i)) (mD (.int j)) (mD (.bool (!decide (i = j)))) := rv_now fun x y G1 H1 _ hx hy => by
  obtain rfl := Dt.int_iff.mp hx
  obtain rfl := Dt.int_iff.mp hy
  refine ⟨.bl (!decide (i = j)), .bl _, fun Q q => ⟨rfl, ?_⟩⟩
  have e : decide (V.int i = V.int j) = decide (i = j) := by simp
  rw [e]
  exact q
theorem rv_eqS {i j : Str} : RV rEq G H (mD (.str i)) (mD (.str j)) (mD (.bool (decide (i = j)))) := rv_now fun x y G1 H1 _ hx hy => by
  obtain rfl := Dt.str_iff.mp hx
  obtain rfl := Dt.str_iff.mp hy
  refine ⟨.bl (decide (i = j)), .bl _, fun Q q => ⟨rfl, ?_⟩⟩
  have e : decide (V.str i = V.str j) = decide (i = j) := by simp
  rw [e]
  exact q
theorem rv_neS {i j : Str} : RV rNe G H (mD (.str i)) (mD (.str j)) (mD (.bool (!decide (i = j)))) := rv_now fun x y G1 H1 _ hx hy => by
  obtain rfl := Dt.str_iff.mp hx
  obtain rfl := Dt.str_iff.mp hy
  refine ⟨.bl (!decide (i = j)), .bl _, fun Q q => ⟨rfl, ?_⟩⟩
  have e : decide (V.str i = V.str j) = decide (i = j) := by simp
  rw [e]
  exact q
/-- deep == -/
theorem rv_eqD (hd : SeqAt.shaped d = true) (he : SeqAt.shaped e = true) : RV (rEqD K) G H (mD d) (mD e) (mD (.bool (PyData.eqv d e))) := rv_now fun x y G1 H1 g hx hy =>
  ⟨_, .bl _, fun Q q => ⟨d, e, (Dt.mono g.gh hx).dp, (Dt.mono g.gh hy).dp, hd, he, q⟩⟩
theorem rv_neD (hd : SeqAt.shaped d = true) (he : SeqAt.shaped e = true) : RV (rNeD K) G H (mD d) (mD e) (mD (.bool (!PyData.eqv d e))) := rv_now fun x y G1 H1 g hx hy =>
  ⟨_, .bl _, fun Q q => ⟨d, e, (Dt.mono g.gh hx).dp, (Dt.mono g.gh hy).dp, hd, he, q⟩⟩
/-- a place of a list, of a tuple -/
theorem rv_ixL {ds : List PyData} {i : Int} (ha : atI ds i = some d) : RV (rIxL K) G H (mD (.list ds)) (mD (.int i)) (mD d) := rv_now fun x y G1 H1 g hx hy => by
  obtain rfl := Dt.int_iff.mp hy
  obtain ⟨a, xs, rfl, h1, h2⟩ := Dt.lst_inv hx
  unfold atI at ha
  cases q : ixN ds.length i with
  | none =>
    rw [q] at ha
    cases ha
  | some j =>
    rw [q] at ha
    obtain ⟨v, v1, v2⟩ := h2.getD (show ds[j]? = some d from ha)
    refine ⟨v, v2, fun Q k => ⟨a, xs, i, v, rfl, rfl, SqL.of (g.gh _ _ h1), ?_, k⟩⟩
    unfold atI
    rw [h2.length, q]
    exact v1
theorem rv_ixT {ds : List PyData} {i : Int} (ha : atI ds i = some d) : RV (rIxT K) G H (mD (.tuple ds)) (mD (.int i)) (mD d) := rv_now fun x y G1 H1 g hx hy => by
  obtain rfl := Dt.int_iff.mp hy
  obtain ⟨a, xs, rfl, h1, h2⟩ := Dt.tup_inv hx
  unfold atI at ha
  cases q : ixN ds.length i with
  | none =>
    rw [q] at ha
    cases ha
  | some j =>
    rw [q] at ha
    obtain ⟨v, v1, v2⟩ := h2.getD (show ds[j]? = some d from ha)
    refine ⟨v, v2, fun Q k => ⟨a, xs, i, v, rfl, rfl, SqT.of (g.gh _ _ h1), ?_, k⟩⟩
    unfold atI
    rw [h2.length, q]
    exact v1

/-! ### tests -/
theorem et_test (h : Ev te σ G H (mD (.bool b))) : ET (tTest te) σ G H b := fun G1 H1 g Q k => h G1 H1 g _ fun v G2 H2 g2 hv => ⟨b, Dt.bl_iff.mp hv, k G2 H2 g2⟩
theorem et_B (h : Ev te σ G H (mD (.bool b))) : ET (tB te) σ G H b := fun G1 H1 g Q k => h G1 H1 g _ fun v G2 H2 g2 hv => ⟨b, Dt.bl_iff.mp hv, k G2 H2 g2⟩
theorem et_and (h1 : ET t σ G H b) (h2 : b = true → ET u σ G H c) : ET (tAnd t u) σ G H (b && c) := fun G1 H1 g Q k => h1 G1 H1 g _ fun G2 H2 g2 => by
  cases b with
  | false =>
    rw [if_neg Bool.false_ne_true]
    exact k G2 H2 g2
  | true =>
    rw [if_pos rfl]
    exact h2 rfl G2 H2 (g.trans g2) Q fun G3 H3 g3 => k G3 H3 (g2.trans g3)
theorem et_or (h1 : ET t σ G H b) (h2 : b = false → ET u σ G H c) : ET (tOr t u) σ G H (b || c) := fun G1 H1 g Q k => h1 G1 H1 g _ fun G2 H2 g2 => by
  cases b with
  | true =>
    rw [if_pos rfl]
    exact k G2 H2 g2
  | false =>
    rw [if_neg Bool.false_ne_true]
    exact h2 rfl G2 H2 (g.trans g2) Q fun G3 H3 g3 => k G3 H3 (g2.trans g3)
theorem et_not (h : ET t σ G H b) : ET (tNot t) σ G H (!b) := fun G1 H1 g Q k => h G1 H1 g _ fun G2 H2 g2 => k G2 H2 g2
theorem ev_andV (h1 : Ev ta σ G H (mD (.bool b))) (h2 : b = true → Ev tb σ G H (mD (.bool c))) : Ev (tAndV ta tb) σ G H (mD (.bool (b && c))) := fun G1 H1 g Q k => h1 G1 H1 g _ fun v G2 H2 g2 hv => by
  refine ⟨b, Dt.bl_iff.mp hv, ?_⟩
  cases b with
  | false =>
    rw [if_neg Bool.false_ne_true]
    exact k _ G2 H2 g2 (.bl _)
  | true =>
    rw [if_pos rfl]
    exact h2 rfl G2 H2 (g.trans g2) Q fun v G3 H3 g3 hv => k v G3 H3 (g2.trans g3) hv
theorem ev_orV (h1 : Ev ta σ G H (mD (.bool b))) (h2 : b = false → Ev tb σ G H (mD (.bool c))) : Ev (tOrV ta tb) σ G H (mD (.bool (b || c))) := fun G1 H1 g Q k => h1 G1 H1 g _ fun v G2 H2 g2 hv => by
  refine ⟨b, Dt.bl_iff.mp hv, ?_⟩
  cases b with
  | true =>
    rw [if_pos rfl]
    exact k _ G2 H2 g2 (.bl _)
  | false =>
    rw [if_neg Bool.false_ne_true]
    exact h2 rfl G2 H2 (g.trans g2) Q fun v G3 H3 g3 hv => k v G3 H3 (g2.trans g3) hv
/-- is None, is not None -/
def isNon : PyData → Bool
  | .none => true
  | _ => false
theorem dec_non {G : Hp} {v : V} {d : PyData} (h : Dt G v d) : decide (v = .non) = isNon d := by cases h <;> simp [isNon]
theorem rv_isN : RV rIsN G H (mD d) (mD .none) (mD (.bool (isNon d))) := rv_now fun x y G1 H1 g hx hy => ⟨_, .bl (isNon d), fun Q q => ⟨Dt.non_iff.mp hy, by rw [dec_non hx]; exact q⟩⟩
theorem rv_notN : RV rNotN G H (mD d) (mD .none) (mD (.bool (!isNon d))) := rv_now fun x y G1 H1 g hx hy => ⟨_, .bl (!isNon d), fun Q q => ⟨Dt.non_iff.mp hy, by rw [dec_non hx]; exact q⟩⟩

/-! ### lists of values -/
theorem ea_nil : EvA tNil σ G H [] := fun G1 H1 g Q k => k _ G1 H1 (Grow.refl g.gh) trivial
theorem ea_cons {tr : TA} {ms : List MP} (h : Ev ta σ G H m) (hr : EvA tr σ G H ms) : EvA (tCons ta tr) σ G H (m :: ms) := fun G1 H1 g Q k => h G1 H1 g _ fun v G2 H2 g2 hv =>
  hr G2 H2 (g.trans g2) _ fun vs G3 H3 g3 hvs => k _ G3 H3 (g2.trans g3) ⟨m.mono g3.gg hv, hvs⟩
theorem ed_nil : EvD tNil σ G H [] := fun G1 H1 g Q k => k _ G1 H1 (Grow.refl g.gh) .nil
theorem ed_cons {tr : TA} {ds : List PyData} (h : Ev ta σ G H (mD d)) (hr : EvD tr σ G H ds) : EvD (tCons ta tr) σ G H (d :: ds) := fun G1 H1 g Q k => h G1 H1 g _ fun v G2 H2 g2 hv =>
  hr G2 H2 (g.trans g2) _ fun vs G3 H3 g3 hvs => k _ G3 H3 (g2.trans g3) (.cons (Dt.mono g3.gg hv) hvs)
theorem line_of {n : Nat} (h : n ≤ 100000) : n ≤ sizeLine := Evl.sz_of h
theorem line_lt {n : Nat} (h : n ≤ 100000) : n < sizeLine := Nat.lt_of_le_of_lt h (by decide)
/-- a tuple, a list of data -/
theorem ev_tup {ta : TA} {ds : List PyData} (h : EvD ta σ G H ds) (hl : ds.length ≤ 100000 := by exact Nat.le_of_ble_eq_true rfl) : Ev (tTup ta) σ G H (mD (.tuple ds)) := fun G1 H1 g Q k => h G1 H1 g _ fun vs G2 H2 g2 hv =>
  ⟨by rw [hv.length]; exact line_of hl, fun p hp => by
    have g3 : Grow G2 H2 (upd G2 p (.tup vs)) (upd H2 p (.tup vs)) := Grow.new g2.gh hp
    exact k _ _ _ (g2.trans g3) (.tup upd_same (hv.mono g3.gg))⟩
theorem ev_lst {ta : TA} {ds : List PyData} (h : EvD ta σ G H ds) (hl : ds.length ≤ 100000 := by exact Nat.le_of_ble_eq_true rfl) : Ev (tLst ta) σ G H (mD (.list ds)) := fun G1 H1 g Q k => h G1 H1 g _ fun vs G2 H2 g2 hv =>
  ⟨by rw [hv.length]; exact line_of hl, fun p hp => by
    have g3 : Grow G2 H2 (upd G2 p (.lst vs)) (upd H2 p (.lst vs)) := Grow.new g2.gh hp
    exact k _ _ _ (g2.trans g3) (.lst upd_same (hv.mono g3.gg))⟩
/-- built-ins by values -/
theorem ev_cb {r : List V → Hp → VK → Prop} {ta : TA} {ms : List MP} (h : EvA ta σ G H ms) (hr : ∀ vs G1 H1, Grow G H G1 H1 → AllP G1 ms vs → ∀ Q : VK, (∀ v G2 H2, Grow G1 H1 G2 H2 → m.p G2 v → Q v H2) → r vs H1 Q) : Ev (tCB r ta) σ G H m :=
  fun G1 H1 g Q k => h G1 H1 g _ fun vs G2 H2 g2 hv => hr vs G2 H2 (g.trans g2) hv Q fun v G3 H3 g3 hv => k v G3 H3 (g2.trans g3) hv
abbrev rLenS (K : PySem.W.Frag) : List V → Hp → VK → Prop := Evl.rLenS K
theorem ev_len {ds : List PyData} (h : Ev ta σ G H (mD (.list ds))) : Ev (tCB (rLenS K) (tCons ta tNil)) σ G H (mD (.int (ds.length : Int))) := ev_cb (ea_cons h ea_nil) fun vs G1 H1 g hv Q k => by
  match vs, hv with
  | [v], ⟨hv, _⟩ =>
    obtain ⟨a, xs, rfl, h1, h2⟩ := Dt.lst_inv hv
    refine ⟨a, xs, rfl, .inl (SqL.of (g.gh _ _ h1)), ?_⟩
    rw [h2.length]
    exact k _ G1 H1 (Grow.refl g.gh) (.int _)
theorem ev_lenT {ds : List PyData} (h : Ev ta σ G H (mD (.tuple ds))) : Ev (tCB (rLenS K) (tCons ta tNil)) σ G H (mD (.int (ds.length : Int))) := ev_cb (ea_cons h ea_nil) fun vs G1 H1 g hv Q k => by
  match vs, hv with
  | [v], ⟨hv, _⟩ =>
    obtain ⟨a, xs, rfl, h1, h2⟩ := Dt.tup_inv hv
    refine ⟨a, xs, rfl, .inr (SqT.of (g.gh _ _ h1)), ?_⟩
    rw [h2.length]
    exact k _ G1 H1 (Grow.refl g.gh) (.int _)

/-! ### promises -/
def mkSp {α : Type} (args : α → List MP) (ok : α → Prop) (res : α → MP) : Sp := fun vs H Q _ => ∃ (x : α) (G : Hp), ok x ∧ Ex G H ∧ AllP G (args x) vs ∧ ∀ v G2 H2, Grow G H G2 H2 → (res x).p G2 v → Q v H2
theorem ev_call {α : Type} {args : α → List MP} {ok : α → Prop} {res : α → MP} {ta : TA} {E : XK} (x : α) (hx : ok x) (h : EvA ta σ G H (args x)) : Ev (tCall (mkSp args ok res) [] E ta) σ G H (res x) :=
  fun G1 H1 g Q k => h G1 H1 g _ fun vs G2 H2 g2 hv => by
    rw [List.append_nil]
    exact ⟨x, G2, hx, g2.gh, hv, fun v G3 H3 g3 hr => k v G3 H3 (g2.trans g3) hr⟩
/-- .. with defaults behind the written arguments -/
theorem ev_callD {α : Type} {args : α → List MP} {ok : α → Prop} {res : α → MP} {ta : TA} {E : XK} {ms ns : List MP} {dvs : List V} (x : α) (hx : ok x) (h : EvA ta σ G H ms) (ha : args x = ms ++ ns) (hd : ∀ G, AllP G ns dvs) : Ev (tCall (mkSp args ok res) dvs E ta) σ G H (res x) :=
  fun G1 H1 g Q k => h G1 H1 g _ fun vs G2 H2 g2 hv =>
    ⟨x, G2, hx, g2.gh, by rw [ha]; exact hv.append (hd G2), fun v G3 H3 g3 hr => k v G3 H3 (g2.trans g3) hr⟩

/-! ### statements -/
variable {D : Ends} {tu tw tz : TS} {g : TG}
theorem q_asg {i : Nat} (h : Ev te σ G H m) (e : Ex G H) (k : ∀ v G1 H1, Grow G H G1 H1 → m.p G1 v → tz D (σ.set i (some v)) H1) : tSeq (tAsg te (gName i)) tz D σ H := h G H (Grow.refl e) _ fun v G1 H1 g hv => k v G1 H1 g hv
theorem s_asg {i : Nat} (h : Ev te σ G H m) (e : Ex G H) (k : ∀ v G1 H1, Grow G H G1 H1 → m.p G1 v → D.nx (σ.set i (some v)) H1) : tAsg te (gName i) D σ H := h G H (Grow.refl e) _ fun v G1 H1 g hv => k v G1 H1 g hv
theorem s_ret (h : Ev te σ G H m) (e : Ex G H) (k : ∀ v G1 H1, Grow G H G1 H1 → m.p G1 v → D.rt v H1) : tRet te D σ H := h G H (Grow.refl e) _ fun v G1 H1 g hv => k v G1 H1 g hv
theorem q_drop (h : Ev te σ G H m) (e : Ex G H) (k : ∀ v G1 H1, Grow G H G1 H1 → m.p G1 v → tz D σ H1) : tSeq (tDrop te) tz D σ H := h G H (Grow.refl e) _ fun v G1 H1 g hv => k v G1 H1 g hv
theorem s_if (h : ET t σ G H b) (e : Ex G H) (h1 : b = true → ∀ G1 H1, Grow G H G1 H1 → tu D σ H1) (h2 : b = false → ∀ G1 H1, Grow G H G1 H1 → tw D σ H1) : tIfS t tu tw D σ H := h G H (Grow.refl e) _ fun G1 H1 g => by
  cases b with
  | true =>
    rw [if_pos rfl]
    exact h1 rfl G1 H1 g
  | false =>
    rw [if_neg Bool.false_ne_true]
    exact h2 rfl G1 H1 g
theorem q_if (h : ET t σ G H b) (e : Ex G H) (h1 : b = true → ∀ G1 H1, Grow G H G1 H1 → tu { D with nx := tz D } σ H1) (h2 : b = false → ∀ G1 H1, Grow G H G1 H1 → tw { D with nx := tz D } σ H1) : tSeq (tIfS t tu tw) tz D σ H := s_if (D := { D with nx := tz D }) h e h1 h2
theorem q_when (h : ET t σ G H b) (e : Ex G H) (h1 : b = true → ∀ G1 H1, Grow G H G1 H1 → tu { D with nx := tz D } σ H1) (h2 : b = false → ∀ G1 H1, Grow G H G1 H1 → tz D σ H1) : tSeq (tIfS t tu tNext) tz D σ H := q_if h e h1 h2
theorem s_when (h : ET t σ G H b) (e : Ex G H) (h1 : b = true → ∀ G1 H1, Grow G H G1 H1 → tu D σ H1) (h2 : b = false → ∀ G1 H1, Grow G H G1 H1 → D.nx σ H1) : tIfS t tu tNext D σ H := s_if h e h1 h2
theorem q_aug {i : Nat} {f : Int → Int → Int} {a c : Int} (hx : σ[i]? = some (some (.int a))) (h : Ev te σ G H (mD (.int c))) (e : Ex G H) (k : ∀ G1 H1, Grow G H G1 H1 → tz D (σ.set i (some (.int (f a c)))) H1) : tSeq (tAug i te (ipI f)) tz D σ H :=
  ⟨_, hx, h G H (Grow.refl e) _ fun v G1 H1 g hv => ⟨a, c, rfl, Dt.int_iff.mp hv, k G1 H1 g⟩⟩
/-- a new list, a new dict, to be changed: it is not in the base -/
theorem q_newL {i : Nat} (e : Ex G H) (k : ∀ p, H p = none → G p = none → tz D (σ.set i (some (.ref p))) (upd H p (.lst []))) : tSeq (tAsg (tLst tNil) (gName i)) tz D σ H := ⟨Nat.zero_le _, fun p hp => k p hp (e.non hp)⟩
theorem q_newK {i : Nat} (e : Ex G H) (k : ∀ p, H p = none → G p = none → tz D (σ.set i (some (.ref p))) (upd H p (.dK []))) : tSeq (tAsg tDNewK (gName i)) tz D σ H := fun p hp => k p hp (e.non hp)
theorem q_newT {i : Nat} (e : Ex G H) (k : ∀ p, H p = none → G p = none → tz D (σ.set i (some (.ref p))) (upd H p (.dT []))) : tSeq (tAsg tDNewT (gName i)) tz D σ H := fun p hp => k p hp (e.non hp)

/-- a list that changes: outside of the base, its items data -/
def ML (G H : Hp) (l : Addr) (ds : List PyData) : Prop := G l = none ∧ ∃ xs, H l = some (.lst xs) ∧ DtL G xs ds
theorem ML.new {p : Addr} (h : G p = none) : ML G (upd H p (.lst [])) p [] := ⟨h, [], upd_same, .nil⟩
theorem ML.grow {l : Addr} {ds : List PyData} (h : ML G H l ds) (g : Grow G H G' H') : ML G' H' l ds := by
  obtain ⟨h1, xs, h2, h3⟩ := h
  exact ⟨g.ap l _ h2 nt_lst h1, xs, g.hh _ _ h2, h3.mono g.gg⟩
theorem ML.other {l p : Addr} {o : HO} {ds : List PyData} (h : ML G H l ds) (n : l ≠ p) : ML G (upd H p o) l ds := by
  obtain ⟨h1, xs, h2, h3⟩ := h
  exact ⟨h1, xs, by rw [upd_ne n]; exact h2, h3⟩
theorem ML.ne {l p : Addr} {ds : List PyData} (h : ML G H l ds) (n : H p = none) : l ≠ p := by
  obtain ⟨_, xs, h2, _⟩ := h
  exact ne_of_none h2 n
/-- taken into the base: data -/
theorem ML.data {l : Addr} {ds : List PyData} (h : ML G H l ds) : ∃ xs, H l = some (.lst xs) ∧ Dt (upd G l (.lst xs)) (.ref l) (.list ds) := by
  obtain ⟨h1, xs, h2, h3⟩ := h
  exact ⟨xs, h2, .lst upd_same (h3.mono (Ex.upd1 h1))⟩
theorem ML.dtH {l : Addr} {ds : List PyData} (h : ML G H l ds) (e : Ex G H) : Dt H (.ref l) (.list ds) := by
  obtain ⟨h1, xs, h2, h3⟩ := h
  exact .lst h2 (h3.mono e)
/-- .. at a def's end -/
theorem ML.ret {G0 H0 : Hp} {l : Addr} {ds : List PyData} (h : ML G H l ds) (g : Grow G0 H0 G H) (h0 : H0 l = none) : ∃ G2, Grow G0 H0 G2 H ∧ Dt G2 (.ref l) (.list ds) := by
  obtain ⟨xs, h2, h3⟩ := h.data
  exact ⟨_, g.put h0 h.1 h2, h3⟩
/-- the base has grown, the object at l has changed -/
structure GrowB (l : Addr) (G H G' H' : Hp) : Prop where
  gg : Ex G G'
  gh : Ex G' H'
  hb : ∀ a o, a ≠ l → H a = some o → H' a = some o
  ap : ∀ a o, H a = some o → NT o → G a = none → G' a = none
theorem Grow.thenB {G0 H0 : Hp} {l : Addr} (g : Grow G0 H0 G H) (h0 : H0 l = none) (b : GrowB l G H G' H') : Grow G0 H0 G' H' :=
  ⟨g.gg.trans b.gg, b.gh, fun a o h => b.hb a o (ne_of_none h h0) (g.hh a o h), fun a o h t n => b.ap a o (g.hh a o h) t (g.ap a o h t n)⟩
theorem GrowB.of {l : Addr} {o : HO} (g : Grow G H G' H') (n : G' l = none) : GrowB l G H G' (upd H' l o) :=
  ⟨g.gg, g.gh.mut n, fun a u na h => by rw [upd_ne na]; exact g.hh a u h, g.ap⟩
theorem Grow.toB {l : Addr} (g : Grow G H G' H') : GrowB l G H G' H' := ⟨g.gg, g.gh, fun a o _ h => g.hh a o h, g.ap⟩
theorem ML.growB {l m : Addr} {ds : List PyData} (h : ML G H m ds) (n : m ≠ l) (b : GrowB l G H G' H') : ML G' H' m ds := by
  obtain ⟨h1, xs, h2, h3⟩ := h
  exact ⟨b.ap m _ h2 nt_lst h1, xs, b.hb _ _ n h2, h3.mono b.gg⟩
/-- xs.append(e) -/
theorem q_app {l : Addr} {ds : List PyData} (hl : ML G H l ds) (e : Ex G H) (ha : Ev ta σ G H (mV (.ref l))) (h : Ev te σ G H (mD d)) (hz : ds.length ≤ 100000) (k : ∀ G1 H1, GrowB l G H G1 H1 → ML G1 H1 l (ds ++ [d]) → tz D σ H1) :
    tSeq (tDrop (tBM K "list" rAppend ta (tCons te tNil))) tz D σ H := ha G H (Grow.refl e) _ fun v G1 H1 g1 hv => by
  obtain rfl := hv
  have m1 := hl.grow g1
  obtain ⟨n1, xs, x1, x2⟩ := m1
  refine ⟨.inl ⟨rfl, xs, SqL.of x1⟩, h G1 H1 g1 _ fun u G2 H2 g2 hu => ?_⟩
  have g12 := g1.trans g2
  obtain ⟨n2, ys, y1, y2⟩ := hl.grow g12
  exact ⟨l, ys, u, rfl, rfl, y1, by rw [y2.length]; exact line_lt hz, k G2 _ (.of g12 n2) ⟨n2, _, upd_same, y2.snoc hu⟩⟩
theorem s_app {l : Addr} {ds : List PyData} (hl : ML G H l ds) (e : Ex G H) (ha : Ev ta σ G H (mV (.ref l))) (h : Ev te σ G H (mD d)) (hz : ds.length ≤ 100000) (k : ∀ G1 H1, GrowB l G H G1 H1 → ML G1 H1 l (ds ++ [d]) → D.nx σ H1) :
    tDrop (tBM K "list" rAppend ta (tCons te tNil)) D σ H := q_app (D := D) (tz := fun D σ H => D.nx σ H) hl e ha h hz k
/-- xs.extend(ys), ys data -/
theorem q_ext {l : Addr} {ds es : List PyData} (hl : ML G H l ds) (e : Ex G H) (ha : Ev ta σ G H (mV (.ref l))) (h : Ev te σ G H (mD (.list es))) (hz : ds.length + es.length ≤ 100000) (k : ∀ G1 H1, GrowB l G H G1 H1 → ML G1 H1 l (ds ++ es) → tz D σ H1) :
    tSeq (tDrop (tBM K "list" rExtend ta (tCons te tNil))) tz D σ H := ha G H (Grow.refl e) _ fun v G1 H1 g1 hv => by
  obtain rfl := hv
  have m1 := hl.grow g1
  obtain ⟨n1, xs, x1, x2⟩ := m1
  refine ⟨.inl ⟨rfl, xs, SqL.of x1⟩, h G1 H1 g1 _ fun u G2 H2 g2 hu => ?_⟩
  have g12 := g1.trans g2
  obtain ⟨n2, ys, y1, y2⟩ := hl.grow g12
  obtain ⟨p, zs, rfl, p1, p2⟩ := Dt.lst_inv hu
  exact ⟨l, p, ys, zs, rfl, rfl, y1, g2.gh _ _ p1, by rw [y2.length, p2.length]; exact line_of hz, k G2 _ (.of g12 n2) ⟨n2, _, upd_same, y2.append p2⟩⟩
theorem s_ext {l : Addr} {ds es : List PyData} (hl : ML G H l ds) (e : Ex G H) (ha : Ev ta σ G H (mV (.ref l))) (h : Ev te σ G H (mD (.list es))) (hz : ds.length + es.length ≤ 100000) (k : ∀ G1 H1, GrowB l G H G1 H1 → ML G1 H1 l (ds ++ es) → D.nx σ H1) :
    tDrop (tBM K "list" rExtend ta (tCons te tNil)) D σ H := q_ext (D := D) (tz := fun D σ H => D.nx σ H) hl e ha h hz k

/-! ### loops -/
/-- the word of a loop at turn i: over a base that has grown from Gs -/
def PvE (Gs : Hp) (Pv : Nat → L2.St → Hp → Hp → Prop) (i : Nat) (σ : L2.St) (H : Hp) : Prop := ∃ G, Ex Gs G ∧ Ex G H ∧ Pv i σ G H
theorem q_forD {tl : TE} {ds : List PyData} (h : Ev tl σ G H (mD (.list ds))) (e : Ex G H) (Pv : Nat → L2.St → Hp → Hp → Prop) (h0 : ∀ G1 H1, Grow G H G1 H1 → Pv 0 σ G1 H1)
    (hs : ∀ Gs i d x σ' G' H', ds[i]? = some d → Dt G' x d → Ex Gs G' → Ex G' H' → Pv i σ' G' H' → g x σ' H' fun σ2 H2 => tu { D with nx := PvE Gs Pv (i + 1), ct := PvE Gs Pv (i + 1), bk := tz D } σ2 H2)
    (hd : ∀ σ' G' H', Ex G' H' → Pv ds.length σ' G' H' → tz D σ' H') : tSeq (tFor (iList K tl) g tu) tz D σ H := h G H (Grow.refl e) _ fun v G1 H1 g1 hv => by
  obtain ⟨a, xs, rfl, h1, h2⟩ := Dt.lst_inv hv
  refine ⟨a, rfl, ⟨xs, SqL.of (g1.gh _ _ h1)⟩, for_list (K := K) (a := a) (xs := xs) (D := { D with nx := tz D }) (PvE G1 Pv) ⟨G1, Ex.refl _, g1.gh, h0 G1 H1 g1⟩ (fun i σ' H' _ ⟨G', e1, e2, _⟩ => SqL.of (e2 _ _ (e1 _ _ h1))) ?_ ?_⟩
  · rintro i x σ' H' hi ⟨G', e1, e2, p⟩
    obtain ⟨d, d1, d2⟩ := h2.get hi
    exact hs G1 i d x σ' G' H' d1 (d2.mono e1) e1 e2 p
  · rintro σ' H' ⟨G', e1, e2, p⟩
    rw [h2.length] at p
    exact hd σ' G' H' e2 p
/-- the target a name -/
theorem q_forDn {tl : TE} {j : Nat} {ds : List PyData} (h : Ev tl σ G H (mD (.list ds))) (e : Ex G H) (Pv : Nat → L2.St → Hp → Hp → Prop) (h0 : ∀ G1 H1, Grow G H G1 H1 → Pv 0 σ G1 H1)
    (hs : ∀ Gs i d x σ' G' H', ds[i]? = some d → Dt G' x d → Ex Gs G' → Ex G' H' → Pv i σ' G' H' → tu { D with nx := PvE Gs Pv (i + 1), ct := PvE Gs Pv (i + 1), bk := tz D } (σ'.set j (some x)) H')
    (hd : ∀ σ' G' H', Ex G' H' → Pv ds.length σ' G' H' → tz D σ' H') : tSeq (tFor (iList K tl) (gName j) tu) tz D σ H := q_forD h e Pv h0 hs hd
/-- over range(lo, n) -/
theorem q_forR {ta : TA} {j : Nat} {lo n : Int} (h : EvD ta σ G H [.int lo, .int n]) (e : Ex G H) (hn : -100000 ≤ lo ∧ lo ≤ 100000 ∧ -100000 ≤ n ∧ n ≤ 100000) (Pv : Nat → L2.St → Hp → Hp → Prop) (h0 : ∀ G1 H1, Grow G H G1 H1 → Pv 0 σ G1 H1)
    (hs : ∀ (i : Nat) σ' G' H', lo + (i : Int) < n → Ex G' H' → Pv i σ' G' H' → tu { D with nx := fun σ2 H2 => ∃ G2, Ex G2 H2 ∧ Pv (i + 1) σ2 G2 H2, ct := fun σ2 H2 => ∃ G2, Ex G2 H2 ∧ Pv (i + 1) σ2 G2 H2, bk := tz D } (σ'.set j (some (.int (lo + (i : Int))))) H')
    (hd : ∀ σ' G' H', Ex G' H' → Pv (n - lo).toNat σ' G' H' → tz D σ' H') : tSeq (tFor (iRng2 ta) (gName j) tu) tz D σ H := h G H (Grow.refl e) _ fun vs G1 H1 g1 hv => by
  obtain ⟨v1, r, rfl, q1, hv⟩ := hv.cons_inv
  obtain ⟨v2, r, rfl, q2, hv⟩ := hv.cons_inv
  obtain rfl := hv.nil_inv
  refine ⟨lo, n, by rw [Dt.int_iff.mp q1, Dt.int_iff.mp q2], ⟨by omega, by omega, by omega, by omega⟩, for_range (lo := lo) (n := (n - lo).toNat) (D := { D with nx := tz D }) (fun i σ2 H2 => ∃ G2, Ex G2 H2 ∧ Pv i σ2 G2 H2) ⟨G1, g1.gh, h0 G1 H1 g1⟩ ?_ ?_⟩
  · rintro i σ' H' hi ⟨G', e2, p⟩
    exact hs i σ' G' H' (by omega) e2 p
  · rintro σ' H' ⟨G', e2, p⟩
    exact hd σ' G' H' e2 p
/-- over range(n) -/
theorem q_forR1 {ta : TA} {j : Nat} {n : Int} (h : EvD ta σ G H [.int n]) (e : Ex G H) (hn : 0 ≤ n ∧ n ≤ 100000) (Pv : Nat → L2.St → Hp → Hp → Prop) (h0 : ∀ G1 H1, Grow G H G1 H1 → Pv 0 σ G1 H1)
    (hs : ∀ (i : Nat) σ' G' H', (i : Int) < n → Ex G' H' → Pv i σ' G' H' → tu { D with nx := fun σ2 H2 => ∃ G2, Ex G2 H2 ∧ Pv (i + 1) σ2 G2 H2, ct := fun σ2 H2 => ∃ G2, Ex G2 H2 ∧ Pv (i + 1) σ2 G2 H2, bk := tz D } (σ'.set j (some (.int (i : Int)))) H')
    (hd : ∀ σ' G' H', Ex G' H' → Pv n.toNat σ' G' H' → tz D σ' H') : tSeq (tFor (iRng1 ta) (gName j) tu) tz D σ H := h G H (Grow.refl e) _ fun vs G1 H1 g1 hv => by
  obtain ⟨v1, r, rfl, q1, hv⟩ := hv.cons_inv
  obtain rfl := hv.nil_inv
  refine ⟨n, by rw [Dt.int_iff.mp q1], by omega, by omega, for_range (lo := 0) (n := n.toNat) (D := { D with nx := tz D }) (fun i σ2 H2 => ∃ G2, Ex G2 H2 ∧ Pv i σ2 G2 H2) ⟨G1, g1.gh, h0 G1 H1 g1⟩ ?_ ?_⟩
  · rintro i σ' H' hi ⟨G', e2, p⟩
    have : (0 : Int) + (i : Int) = (i : Int) := by omega
    rw [this]
    exact hs i σ' G' H' (by omega) e2 p
  · rintro σ' H' ⟨G', e2, p⟩
    exact hd σ' G' H' e2 p
/-- while, by a word that falls -/
theorem q_while (W : Nat → L2.St → Hp → Prop) (m0 : Nat) (h0 : W m0 σ H)
    (hs : ∀ n σ' H', W n σ' H' → ∃ b G', Ex G' H' ∧ ET t σ' G' H' b ∧ (b = true → ∀ G1 H1, Grow G' H' G1 H1 → ∃ N : L2.St → Hp → Prop, (∀ σ2 H2, N σ2 H2 → ∃ n', n' < n ∧ W n' σ2 H2) ∧ tu { D with nx := N, ct := N, bk := tz D } σ' H1) ∧
      (b = false → ∀ G1 H1, Grow G' H' G1 H1 → tz D σ' H1)) : tSeq (tWhile t tu) tz D σ H := by
  refine ⟨W, ⟨m0, h0⟩, fun n σ' H' w => ?_⟩
  obtain ⟨b, G', e, ht, hy, hn⟩ := hs n σ' H' w
  refine ht G' H' (Grow.refl e) _ fun G1 H1 g1 => ?_
  cases b with
  | true =>
    rw [if_pos rfl]
    exact hy rfl G1 H1 g1
  | false =>
    rw [if_neg Bool.false_ne_true]
    exact hn rfl G1 H1 g1
/-- targets -/
theorem g_2 {i j : Nat} {x : V} {d1 d2 : PyData} {Q : L2.St → Hp → Prop} (h : Dt G x (.tuple [d1, d2])) (e : Ex G H) (k : ∀ v1 v2, Dt G v1 d1 → Dt G v2 d2 → Q ((σ.set i (some v1)).set j (some v2)) H) : gTup K 2 (gCons (gName i) (gCons (gName j) gNil)) x σ H Q := by
  obtain ⟨a, v1, v2, rfl, h1, q1, q2⟩ := h.t2
  exact ⟨a, _, rfl, SqT.of (e _ _ h1), rfl, v1, _, rfl, v2, _, rfl, rfl, k v1 v2 q1 q2⟩
theorem g_3 {i j n : Nat} {x : V} {d1 d2 d3 : PyData} {Q : L2.St → Hp → Prop} (h : Dt G x (.tuple [d1, d2, d3])) (e : Ex G H) (k : ∀ v1 v2 v3, Dt G v1 d1 → Dt G v2 d2 → Dt G v3 d3 → Q (((σ.set i (some v1)).set j (some v2)).set n (some v3)) H) : gTup K 3 (gCons (gName i) (gCons (gName j) (gCons (gName n) gNil))) x σ H Q := by
  obtain ⟨a, v1, v2, v3, rfl, h1, q1, q2, q3⟩ := h.t3
  exact ⟨a, _, rfl, SqT.of (e _ _ h1), rfl, v1, _, rfl, v2, _, rfl, v3, _, rfl, rfl, k v1 v2 v3 q1 q2 q3⟩
theorem q_2 {i j : Nat} {d1 d2 : PyData} (h : Ev te σ G H (mD (.tuple [d1, d2]))) (e : Ex G H) (k : ∀ v1 v2 G1 H1, Grow G H G1 H1 → Dt G1 v1 d1 → Dt G1 v2 d2 → tz D ((σ.set i (some v1)).set j (some v2)) H1) : tSeq (tAsg te (gTup K 2 (gCons (gName i) (gCons (gName j) gNil)))) tz D σ H :=
  h G H (Grow.refl e) _ fun v G1 H1 g1 hv => g_2 hv g1.gh fun v1 v2 h1 h2 => k v1 v2 G1 H1 g1 h1 h2
end
end Sk
/-! SkR -/
/-! Rules of my own over the layer. -/
namespace Sk
open PySem PySem.Spec PyProof.Rows L2

/-! ### the text by places; defs and their promises -/
def top (i : Nat) : Stmt := PySem.Challenge.pw_skewhouse_k77_whole_yes_has_no_ill.main.body.getD i (.Pass ⟨0, 0, 0, 0⟩)

/-- a def as it stands behind the top -/
def DefAt (K : PySem.W.Frag) (mg : Str → Option Value) (x : Str) (st : Stmt) (dvs : List V) : Prop :=
  ∃ (f : Addr) (fd : FuncData), mg x = some (.ref f) ∧ FunD K x x (defArgs st) (defBody st) (defScope st) dvs [] f fd
/-- a def that keeps its promise, called with the defaults dvs behind the written arguments -/
structure Own (P : Program) (w : World) (K : PySem.W.Frag) (mg : Str → Option Value) (base : Heap) (x : Str) (k : Nat) (ps : List Str) (dvs : List V) (sp : Sp) : Prop where
  ex : ∃ (f : Addr) (fd : FuncData) (ds : List Value), mg x = some (.ref f) ∧ PySem.W.keepIn K (.ref f) = true ∧ Vals dvs ds ∧ Binds K fd ps ds ∧ FnOk P w K mg base CX0 k f fd ps sp
section
variable {X : Cx} {x : Str} {k : Nat} {ps : List Str} {dvs : List V} {sp : Sp} {p pos : Pos} {e : Expr} {es : List Expr} {t : TA}
theorem pe_own (O : Own X.prog X.w X.K X.mg X.base x k ps dvs sp) (hr : Room k X.A) (hg : Gl X x) (ha : PA X (e :: es) t) (hdb : (x == ("__debug__" : Str)) = false := by decide)
    (he : starEach (e :: es) X.env = (false, eval e X.env) :: starEach es X.env := by rfl) (hpl : (backTo pos (starEach es X.env)).any (·.1) = false := by rfl) :
    PE X (.Call (.Name x p) (e :: es) [] pos) (tCall sp dvs E0 t) := by
  obtain ⟨f, fd, ds, hm, hk, hd, hb, F⟩ := O.ex
  exact pe_call F hr hg hm hk hb hd pass0 ha hdb he hpl
end
section
variable {P : Program} {w : World} {K : PySem.W.Frag} {mg : Str → Option Value} {base : Heap} {x : Str} {st : Stmt} {N ps : List Str} {k : Nat} {α : Type} {args : α → List MP} {ok : α → Prop} {res : α → MP}
abbrev cxD (P : Program) (w : World) (K : PySem.W.Frag) (mg : Str → Option Value) (base : Heap) (N : List Str) (x : Str) (st : Stmt) (f : Addr) (cdv : Value) (A : Around) (outer : List Env) (s : Shared) (H : Hp) (E : XK) : Cx :=
  (cxOf CX0 P w K mg base N x (defScope st) f cdv A outer s H E).nox
/-- a def's promise by its body -/
theorem ok_mk {dvs : List V} {f : Addr} {fd : FuncData} (F : FunD K x x (defArgs st) (defBody st) (defScope st) dvs [] f fd) (S : FnScope N ps (defScope st)) (hl : ∀ y, (args y).length = ps.length)
    (hbody : ∀ (f : Addr) (cdv : Value) (A : Around) (outer : List Env) (s : Shared) (H : Hp) (E : XK) (y : α) (G : Hp) (vs : List V) (Q : VK), Room k (A.deeper (envOfC x (defScope st) s.heap.objs.size f cdv)) → ok y → Ex G H → AllP G (args y) vs →
      (∀ v G2 H2, Grow G H G2 H2 → (res y).p G2 v → Q v H2) →
      ∃ t, PSs (cxD P w K mg base N x st f cdv A outer s H E) (defBody st) t ∧ t { nx := fun _ H' => Q .non H', rt := Q } (start N vs) H) :
    FnOk P w K mg base CX0 (k + 1) f fd ps (mkSp args ok res) := by
  refine F.ok S (fun vs H Q E h => ?_) (fun cdv A outer s H vs Q E hr h => ?_)
  · obtain ⟨y, G, _, _, hv, _⟩ := h
    exact hv.length.trans (hl y)
  · obtain ⟨y, G, hok, hGH, hv, hk⟩ := h
    obtain ⟨t, h1, h2⟩ := hbody f cdv A outer s H E y G vs Q hr hok hGH hv hk
    exact ⟨t, h1.nox, h2⟩
theorem own_mk (A : DefAt K mg x st []) (S : FnScope N ps (defScope st))
    (hb : ∀ (kV doc pm : Value) (an : Option Addr) (cdv ct : Value) (us : List Value), us.length = ps.length → bindArgs (PySem.W.fnOf x x (defArgs st) (defBody st) (defScope st) .none kV doc pm an cdv ct) ⟨us, []⟩ = pure (ps.zip us)) (hl : ∀ y, (args y).length = ps.length)
    (hbody : ∀ (f : Addr) (cdv : Value) (A : Around) (outer : List Env) (s : Shared) (H : Hp) (E : XK) (y : α) (G : Hp) (vs : List V) (Q : VK), Room k (A.deeper (envOfC x (defScope st) s.heap.objs.size f cdv)) → ok y → Ex G H → AllP G (args y) vs →
      (∀ v G2 H2, Grow G H G2 H2 → (res y).p G2 v → Q v H2) →
      ∃ t, PSs (cxD P w K mg base N x st f cdv A outer s H E) (defBody st) t ∧ t { nx := fun _ H' => Q .non H', rt := Q } (start N vs) H) :
    Own P w K mg base x (k + 1) ps [] (mkSp args ok res) := by
  obtain ⟨f, fd, hm, F⟩ := A
  exact ⟨f, fd, [], hm, F.kp, .nil, F.bindsN hb, ok_mk F S hl hbody⟩
end
end Sk
/-! SkE -/
/-! More of what evaluates to what. -/
namespace Sk
open PySem PySem.Spec PyProof.Rows L2

/-- ints, texts as data -/
abbrev dI (is : List Int) : List PyData := is.map PyData.int
abbrev dS (ss : List Str) : List PyData := ss.map PyData.str
theorem DtL.strs {G : Hp} : ∀ {vs : List V} {ss : List Str}, DtL G vs (dS ss) → vs = ss.map V.str
  | _, [], .nil => rfl
  | _, i :: is, .cons h r => by
    rw [Dt.str_iff.mp h, DtL.strs r]
    rfl
theorem all_flat_int (is : List Int) : (is.map V.int).all flatV = true := by
  rw [List.all_eq_true]
  intro x hx
  obtain ⟨i, _, rfl⟩ := List.mem_map.mp hx
  rfl
theorem all_flat_str (is : List Str) : (is.map V.str).all flatV = true := by
  rw [List.all_eq_true]
  intro x hx
  obtain ⟨i, _, rfl⟩ := List.mem_map.mp hx
  rfl
theorem inV_int (x : Int) : ∀ is : List Int, inV (.int x) (is.map V.int) = decide (x ∈ is)
  | [] => rfl
  | i :: is => by
    have ih := inV_int x is
    unfold inV at ih ⊢
    rw [List.map_cons, List.any_cons, ih]
    by_cases e : i = x
    · subst e
      simp [eqV]
    · have : ¬ x = i := fun z => e z.symm
      simp [eqV, e, this]
theorem inV_str (x : Str) : ∀ is : List Str, inV (.str x) (is.map V.str) = decide (x ∈ is)
  | [] => rfl
  | i :: is => by
    have ih := inV_str x is
    unfold inV at ih ⊢
    rw [List.map_cons, List.any_cons, ih]
    by_cases e : i = x
    · subst e
      simp [eqV]
    · have : ¬ x = i := fun z => e z.symm
      simp [eqV, e, this]
section
variable {K : PySem.W.Frag} {σ : L2.St} {G H G' H' : Hp} {ta tb te tx : TE} {t u : TT} {r : R2} {m m1 m2 : MP} {b c : Bool} {d e : PyData}
theorem rv_inI {x : Int} {is : List Int} : RV (rIn K false) G H (mD (.int x)) (mD (.list (dI is))) (mD (.bool (decide (x ∈ is)))) := rv_now fun v y G1 H1 g hx hy => by
  obtain rfl := Dt.int_iff.mp hx
  obtain ⟨a, xs, rfl, h1, h2⟩ := Dt.lst_inv hy
  obtain rfl := h2.ints
  refine ⟨_, .bl _, fun Q q => ⟨a, _, rfl, .inl (SqL.of (g.gh _ _ h1)), rfl, all_flat_int is, ?_⟩⟩
  rw [inV_int]
  exact q
theorem rv_niI {x : Int} {is : List Int} : RV (rIn K true) G H (mD (.int x)) (mD (.list (dI is))) (mD (.bool (!decide (x ∈ is)))) := rv_now fun v y G1 H1 g hx hy => by
  obtain rfl := Dt.int_iff.mp hx
  obtain ⟨a, xs, rfl, h1, h2⟩ := Dt.lst_inv hy
  obtain rfl := h2.ints
  refine ⟨_, .bl _, fun Q q => ⟨a, _, rfl, .inl (SqL.of (g.gh _ _ h1)), rfl, all_flat_int is, ?_⟩⟩
  rw [inV_int]
  exact q
theorem rv_inS {x : Str} {ss : List Str} : RV (rIn K false) G H (mD (.str x)) (mD (.tuple (dS ss))) (mD (.bool (decide (x ∈ ss)))) := rv_now fun v y G1 H1 g hx hy => by
  obtain rfl := Dt.str_iff.mp hx
  obtain ⟨a, xs, rfl, h1, h2⟩ := Dt.tup_inv hy
  obtain rfl := h2.strs
  refine ⟨_, .bl _, fun Q q => ⟨a, _, rfl, .inr (SqT.of (g.gh _ _ h1)), rfl, all_flat_str ss, ?_⟩⟩
  rw [inV_str]
  exact q
theorem rv_niS {x : Str} {ss : List Str} : RV (rIn K true) G H (mD (.str x)) (mD (.tuple (dS ss))) (mD (.bool (!decide (x ∈ ss)))) := rv_now fun v y G1 H1 g hx hy => by
  obtain rfl := Dt.str_iff.mp hx
  obtain ⟨a, xs, rfl, h1, h2⟩ := Dt.tup_inv hy
  obtain rfl := h2.strs
  refine ⟨_, .bl _, fun Q q => ⟨a, _, rfl, .inr (SqT.of (g.gh _ _ h1)), rfl, all_flat_str ss, ?_⟩⟩
  rw [inV_str]
  exact q
/-- a method of a list, by values -/
theorem ev_bmL {r : V → List V → Hp → VK → Prop} {t : TA} {ds : List PyData} {ms : List MP} (h : Ev te σ G H (mD (.list ds))) (ha : EvA t σ G H ms)
    (hr : ∀ x vs G1 H1, Grow G H G1 H1 → Dt G1 x (.list ds) → AllP G1 ms vs → ∀ Q : VK, (∀ v G2 H2, Grow G1 H1 G2 H2 → m.p G2 v → Q v H2) → r x vs H1 Q) : Ev (tBM K "list" r te t) σ G H m := fun G1 H1 g Q k => h G1 H1 g _ fun v G2 H2 g2 hv => by
  obtain ⟨a, xs, rfl, h1, h2⟩ := Dt.lst_inv hv
  refine ⟨.inl ⟨rfl, xs, SqL.of (g2.gh _ _ h1)⟩, ha G2 H2 (g.trans g2) _ fun vs G3 H3 g3 hvs => ?_⟩
  exact hr _ vs G3 H3 ((g.trans g2).trans g3) (Dt.mono g3.gg (.lst h1 h2)) hvs Q fun v G4 H4 g4 hv => k v G4 H4 ((g2.trans g3).trans g4) hv
theorem idx_at {x : Int} : ∀ {is : List Int}, x ∈ is → is[is.idxOf x]? = some x
  | a :: is, h => by
    by_cases e : a = x
    · subst e
      simp
    · have h' : x ∈ is := by
        rcases List.mem_cons.mp h with z | z
        · exact absurd z.symm e
        · exact z
      have eb : (a == x) = false := by simpa using e
      rw [List.idxOf_cons, eb]
      exact idx_at h'
theorem idx_no {x : Int} : ∀ {is : List Int} {j : Nat} {z : Int}, j < is.idxOf x → is[j]? = some z → z ≠ x
  | a :: is, j, z, h, hz => by
    by_cases e : a = x
    · subst e
      simp at h
    · have eb : (a == x) = false := by simpa using e
      rw [List.idxOf_cons, eb] at h
      cases j with
      | zero =>
        have : a = z := by simpa using hz
        rw [← this]
        exact e
      | succ j => exact idx_no (is := is) (j := j) (by simpa using h) (by simpa using hz)
theorem ev_index {x : Int} {is : List Int} (h : Ev te σ G H (mD (.list (dI is)))) (hx : Ev tx σ G H (mD (.int x))) (hm : x ∈ is) : Ev (tBM K "list" (rIndex K) te (tCons tx tNil)) σ G H (mD (.int ((is.idxOf x : Nat) : Int))) :=
  ev_bmL h (ea_cons hx ea_nil) fun v vs G1 H1 g hv hvs Q k => by
    match vs, hvs with
    | [y], ⟨hy, _⟩ =>
    obtain rfl := Dt.int_iff.mp hy
    obtain ⟨a, xs, rfl, h1, h2⟩ := Dt.lst_inv hv
    obtain rfl := h2.ints
    refine ⟨a, _, .int x, is.idxOf x, .int x, rfl, rfl, SqL.of (g.gh _ _ h1), rfl, all_flat_int is, ?_, by simp [eqV], fun n z' hn hz => ?_, k _ G1 H1 (Grow.refl g.gh) (.int _)⟩
    · rw [List.getElem?_map, idx_at hm]
      rfl
    · rw [List.getElem?_map] at hz
      cases q : is[n]? with
      | none =>
        rw [q] at hz
        cases hz
      | some z =>
        rw [q] at hz
        cases hz
        have := idx_no hn q
        simpa [eqV] using this
/-- slices of lists -/
def EvO (to : TO) (σ : L2.St) (G H : Hp) (o : Option Int) : Prop := ∀ G1 H1, Grow G H G1 H1 → ∀ Q : Option Int → Hp → Prop, (∀ G2 H2, Grow G1 H1 G2 H2 → Q o H2) → to σ H1 Q
theorem eo_none : EvO tNoPart σ G H none := fun G1 H1 g Q k => k G1 H1 (Grow.refl g.gh)
theorem eo_some {i : Int} (h : Ev te σ G H (mD (.int i))) : EvO (tPart te) σ G H (some i) := fun G1 H1 g Q k => h G1 H1 g _ fun v G2 H2 g2 hv => ⟨i, Dt.int_iff.mp hv, k G2 H2 g2⟩
def cutD (xs : List PyData) (lo hi : Option Int) : List PyData := (xs.drop (HT.sIx xs.length 0 lo)).take (HT.sIx xs.length xs.length hi - HT.sIx xs.length 0 lo)
theorem DtL.cut {vs : List V} {ds : List PyData} (h : DtL G vs ds) (lo hi : Option Int) : DtL G (cutV vs lo hi) (cutD ds lo hi) := by
  unfold cutV cutD
  rw [h.length]
  exact (h.drop _).take _
theorem ev_sl {tl th : TO} {ds : List PyData} {lo hi : Option Int} (h : Ev te σ G H (mD (.list ds))) (h1 : EvO tl σ G H lo) (h2 : EvO th σ G H hi) : Ev (tSl (rSlL K) te tl th) σ G H (mD (.list (cutD ds lo hi))) := fun G1 H1 g Q k =>
  h G1 H1 g _ fun v G2 H2 g2 hv => h1 G2 H2 (g.trans g2) _ fun G3 H3 g3 => h2 G3 H3 ((g.trans g2).trans g3) _ fun G4 H4 g4 => by
    obtain ⟨a, xs, rfl, q1, q2⟩ := Dt.lst_inv (Dt.mono g4.gg (Dt.mono g3.gg hv))
    refine ⟨a, xs, rfl, SqL.of (g4.gh _ _ q1), fun p hp => ?_⟩
    have g5 : Grow G4 H4 (upd G4 p (.lst (cutV xs lo hi))) (upd H4 p (.lst (cutV xs lo hi))) := Grow.new g4.gh hp
    exact k _ _ _ (((g2.trans g3).trans g4).trans g5) (.lst upd_same ((q2.mono g5.gg).cut lo hi))
theorem cut_from (ds : List PyData) (k : Nat) : cutD ds (some (k : Int)) none = ds.drop k := by
  unfold cutD
  rw [HT.sIx_nat, HT.sIx_none]
  rcases Nat.lt_or_ge k ds.length with h | h
  · rw [Nat.min_eq_left (Nat.le_of_lt h)]
    rw [List.take_of_length_le]
    rw [List.length_drop]
    omega
  · rw [Nat.min_eq_right h, List.drop_eq_nil_of_le (Nat.le_refl _), List.drop_eq_nil_of_le h]
    simp
theorem cut_to (ds : List PyData) (k : Nat) : cutD ds none (some (k : Int)) = ds.take k := by
  unfold cutD
  rw [HT.sIx_nat, HT.sIx_none]
  simp only [List.drop_zero, Nat.sub_zero]
  rcases Nat.lt_or_ge k ds.length with h | h
  · rw [Nat.min_eq_left (Nat.le_of_lt h)]
  · rw [Nat.min_eq_right h, List.take_of_length_le h, List.take_of_length_le (Nat.le_refl _)]
/-- xs + ys -/
theorem rv_cat {ds es : List PyData} (hz : ds.length + es.length ≤ 100000) : RV rCat G H (mD (.list ds)) (mD (.list es)) (mD (.list (ds ++ es))) := fun x y G1 H1 g hx hy Q k => by
  obtain ⟨a, xs, rfl, q1, q2⟩ := Dt.lst_inv hx
  obtain ⟨b, ys, rfl, p1, p2⟩ := Dt.lst_inv hy
  refine ⟨a, b, xs, ys, rfl, rfl, g.gh _ _ q1, g.gh _ _ p1, by rw [q2.length, p2.length]; exact line_of hz, fun p hp => ?_⟩
  have g5 : Grow G1 H1 (upd G1 p (.lst (xs ++ ys))) (upd H1 p (.lst (xs ++ ys))) := Grow.new g.gh hp
  exact k _ _ _ g5 (.lst upd_same ((q2.mono g5.gg).append (p2.mono g5.gg)))
theorem ev_neg {i : Int} (h : Ev te σ G H (mD (.int i))) : Ev (tUn (rU fun i => .int (-i)) te) σ G H (mD (.int (-i))) := fun G1 H1 g Q k => h G1 H1 g _ fun v G2 H2 g2 hv => ⟨i, Dt.int_iff.mp hv, k _ G2 H2 g2 (.int _)⟩
theorem at_nat {ds : List PyData} {j : Nat} (h : ds[j]? = some d) : atI ds (j : Int) = some d := atI_nat h
theorem ev_max2 {i j : Int} (ha : Ev ta σ G H (mD (.int i))) (hb : Ev tb σ G H (mD (.int j))) : Ev (tCB (fun xs H Q => ∃ i j, xs = [.int i, .int j] ∧ Q (.int (if j > i then j else i)) H) (tCons ta (tCons tb tNil))) σ G H (mD (.int (if j > i then j else i))) :=
  ev_cb (ea_cons ha (ea_cons hb ea_nil)) fun vs G1 H1 g hv Q k => by
    match vs, hv with
    | [x, y], ⟨hx, hy, _⟩ => exact ⟨i, j, by rw [Dt.int_iff.mp hx, Dt.int_iff.mp hy], k _ G1 H1 (Grow.refl g.gh) (.int _)⟩
theorem ev_min2 {i j : Int} (ha : Ev ta σ G H (mD (.int i))) (hb : Ev tb σ G H (mD (.int j))) : Ev (tCB (fun xs H Q => ∃ i j, xs = [.int i, .int j] ∧ Q (.int (if j < i then j else i)) H) (tCons ta (tCons tb tNil))) σ G H (mD (.int (if j < i then j else i))) :=
  ev_cb (ea_cons ha (ea_cons hb ea_nil)) fun vs G1 H1 g hv Q k => by
    match vs, hv with
    | [x, y], ⟨hx, hy, _⟩ => exact ⟨i, j, by rw [Dt.int_iff.mp hx, Dt.int_iff.mp hy], k _ G1 H1 (Grow.refl g.gh) (.int _)⟩
theorem ev_if (h : ET t σ G H b) (h1 : b = true → Ev ta σ G H m) (h2 : b = false → Ev tb σ G H m) : Ev (tIf t ta tb) σ G H m := fun G1 H1 g Q k => h G1 H1 g _ fun G2 H2 g2 => by
  cases b with
  | true =>
    rw [if_pos rfl]
    exact h1 rfl G2 H2 (g.trans g2) Q fun v G3 H3 g3 hv => k v G3 H3 (g2.trans g3) hv
  | false =>
    rw [if_neg Bool.false_ne_true]
    exact h2 rfl G2 H2 (g.trans g2) Q fun v G3 H3 g3 hv => k v G3 H3 (g2.trans g3) hv

/-! ### dicts: keys ints or tuples, values as told -/
section
variable {κ : Type} [DecidableEq κ]
/-- the pairs of a dict: its keys, what is known of its values -/
def KVs (G : Hp) : List (κ × V) → List (κ × MP) → Prop
  | [], [] => True
  | p :: ps, q :: qs => (p.1 = q.1 ∧ q.2.p G p.2) ∧ KVs G ps qs
  | _, _ => False
theorem KVs.mono (e : Ex G G') : ∀ {ps : List (κ × V)} {qs : List (κ × MP)}, KVs G ps qs → KVs G' ps qs
  | [], [], _ => trivial
  | _ :: _, q :: _, h => ⟨⟨h.1.1, q.2.mono e h.1.2⟩, KVs.mono e h.2⟩
  | [], _ :: _, h => h.elim
  | _ :: _, [], h => h.elim
theorem KVs.length : ∀ {ps : List (κ × V)} {qs : List (κ × MP)}, KVs G ps qs → ps.length = qs.length
  | [], [], _ => rfl
  | _ :: _, _ :: _, h => congrArg (· + 1) (KVs.length h.2)
  | [], _ :: _, h => h.elim
  | _ :: _, [], h => h.elim
def lookM (qs : List (κ × MP)) (k : κ) : Option MP := (qs.find? fun q => decide (q.1 = k)).map (·.2)
def putM (qs : List (κ × MP)) (k : κ) (m : MP) : List (κ × MP) :=
  if (qs.any fun q => decide (q.1 = k)) = true then qs.map (fun q => if q.1 = k then (q.1, m) else q) else qs ++ [(k, m)]
theorem KVs.look {k : κ} : ∀ {ps : List (κ × V)} {qs : List (κ × MP)}, KVs G ps qs → (∀ m, lookM qs k = some m → ∃ v, valV ps k = some v ∧ m.p G v) ∧ (lookM qs k = none → valV ps k = none)
  | [], [], _ => ⟨fun m h => by
    unfold lookM at h
    simp at h, fun _ => rfl⟩
  | p :: ps, q :: qs, ⟨⟨h1, h2⟩, h3⟩ => by
    obtain ⟨i1, i2⟩ := KVs.look (k := k) h3
    by_cases e : q.1 = k
    · have e1 : lookM (q :: qs) k = some q.2 := by
        unfold lookM
        rw [List.find?_cons, decide_eq_true e]
        rfl
      refine ⟨fun m h => ?_, fun h => ?_⟩
      · rw [e1] at h
        cases h
        exact ⟨p.2, valV_pos (h1.trans e), h2⟩
      · rw [e1] at h
        cases h
    · have e1 : lookM (q :: qs) k = lookM qs k := by
        unfold lookM
        rw [List.find?_cons, decide_eq_false e]
      have e2 : valV (p :: ps) k = valV ps k := valV_neg (fun z => e (h1.symm.trans z))
      rw [e1, e2]
      exact ⟨i1, i2⟩
  | [], _ :: _, h => h.elim
  | _ :: _, [], h => h.elim
theorem KVs.any {k : κ} : ∀ {ps : List (κ × V)} {qs : List (κ × MP)}, KVs G ps qs → (ps.any fun p => decide (p.1 = k)) = (qs.any fun q => decide (q.1 = k))
  | [], [], _ => rfl
  | p :: ps, q :: qs, h => by
    rw [List.any_cons, List.any_cons, KVs.any h.2, h.1.1]
  | [], _ :: _, h => h.elim
  | _ :: _, [], h => h.elim
theorem KVs.snoc {k : κ} {v : V} (hv : m.p G v) : ∀ {ps : List (κ × V)} {qs : List (κ × MP)}, KVs G ps qs → KVs G (ps ++ [(k, v)]) (qs ++ [(k, m)])
  | [], [], _ => ⟨⟨rfl, hv⟩, trivial⟩
  | _ :: _, _ :: _, h => ⟨h.1, KVs.snoc hv h.2⟩
  | [], _ :: _, h => h.elim
  | _ :: _, [], h => h.elim
theorem KVs.repl {k : κ} {v : V} (hv : m.p G v) : ∀ {ps : List (κ × V)} {qs : List (κ × MP)}, KVs G ps qs → KVs G (ps.map fun p => if p.1 = k then (p.1, v) else p) (qs.map fun q => if q.1 = k then (q.1, m) else q)
  | [], [], _ => trivial
  | p :: ps, q :: qs, h => by
    refine ⟨?_, KVs.repl hv h.2⟩
    show (if p.1 = k then (p.1, v) else p).1 = (if q.1 = k then (q.1, m) else q).1 ∧ (if q.1 = k then (q.1, m) else q).2.p G (if p.1 = k then (p.1, v) else p).2
    by_cases e : q.1 = k
    · rw [if_pos e, if_pos (h.1.1.trans e)]
      exact ⟨h.1.1, hv⟩
    · rw [if_neg e, if_neg (fun z => e (h.1.1.symm.trans z))]
      exact h.1
  | [], _ :: _, h => h.elim
  | _ :: _, [], h => h.elim
theorem KVs.put {k : κ} {v : V} {ps : List (κ × V)} {qs : List (κ × MP)} (h : KVs G ps qs) (hv : m.p G v) : KVs G (putK ps k v) (putM qs k m) := by
  unfold putK putM
  rw [h.any]
  split
  · exact h.repl hv
  · exact h.snoc hv
theorem putM_new {qs : List (κ × MP)} {k : κ} {m : MP} (h : k ∉ qs.map (·.1)) : putM qs k m = qs ++ [(k, m)] := by
  unfold putM
  rw [if_neg]
  intro z
  obtain ⟨q, hq, e⟩ := List.any_eq_true.mp z
  exact h (List.mem_map.mpr ⟨q, hq, of_decide_eq_true e⟩)
theorem length_putM (qs : List (κ × MP)) (k : κ) (m : MP) : (putM qs k m).length ≤ qs.length + 1 := by
  unfold putM
  split
  · rw [List.length_map]
    omega
  · rw [List.length_append]
    exact Nat.le_refl _
end
/-- a dict of the base: keys ints (and texts) | tuples -/
def mK (l : List (Key × MP)) : MP := ⟨fun G x => ∃ a kvs, x = .ref a ∧ G a = some (.dK kvs) ∧ KVs G kvs l, fun e ⟨a, kvs, h1, h2, h3⟩ => ⟨a, kvs, h1, e _ _ h2, h3.mono e⟩⟩
def mT (l : List (List Key × MP)) : MP := ⟨fun G x => ∃ a kvs, x = .ref a ∧ G a = some (.dT kvs) ∧ KVs G kvs l, fun e ⟨a, kvs, h1, h2, h3⟩ => ⟨a, kvs, h1, e _ _ h2, h3.mono e⟩⟩
/-- a dict that changes -/
def MK (G H : Hp) (a : Addr) (l : List (Key × MP)) : Prop := G a = none ∧ ∃ kvs, H a = some (.dK kvs) ∧ KVs G kvs l
def MT (G H : Hp) (a : Addr) (l : List (List Key × MP)) : Prop := G a = none ∧ ∃ kvs, H a = some (.dT kvs) ∧ KVs G kvs l
theorem MK.new {p : Addr} (h : G p = none) : MK G (upd H p (.dK [])) p [] := ⟨h, [], upd_same, trivial⟩
theorem MT.new {p : Addr} (h : G p = none) : MT G (upd H p (.dT [])) p [] := ⟨h, [], upd_same, trivial⟩
theorem MK.grow {a : Addr} {l : List (Key × MP)} (h : MK G H a l) (g : Grow G H G' H') : MK G' H' a l := by
  obtain ⟨h1, xs, h2, h3⟩ := h
  exact ⟨g.ap _ _ h2 nt_dK h1, xs, g.hh _ _ h2, h3.mono g.gg⟩
theorem MT.grow {a : Addr} {l : List (List Key × MP)} (h : MT G H a l) (g : Grow G H G' H') : MT G' H' a l := by
  obtain ⟨h1, xs, h2, h3⟩ := h
  exact ⟨g.ap _ _ h2 nt_dT h1, xs, g.hh _ _ h2, h3.mono g.gg⟩
theorem MK.growB {a p : Addr} {l : List (Key × MP)} (h : MK G H a l) (n : a ≠ p) (g : GrowB p G H G' H') : MK G' H' a l := by
  obtain ⟨h1, xs, h2, h3⟩ := h
  exact ⟨g.ap _ _ h2 nt_dK h1, xs, g.hb _ _ n h2, h3.mono g.gg⟩
theorem MT.growB {a p : Addr} {l : List (List Key × MP)} (h : MT G H a l) (n : a ≠ p) (g : GrowB p G H G' H') : MT G' H' a l := by
  obtain ⟨h1, xs, h2, h3⟩ := h
  exact ⟨g.ap _ _ h2 nt_dT h1, xs, g.hb _ _ n h2, h3.mono g.gg⟩
theorem MK.other {a p : Addr} {o : HO} {l : List (Key × MP)} (h : MK G H a l) (n : a ≠ p) : MK G (upd H p o) a l := by
  obtain ⟨h1, xs, h2, h3⟩ := h
  exact ⟨h1, xs, by rw [upd_ne n]; exact h2, h3⟩
theorem MT.other {a p : Addr} {o : HO} {l : List (List Key × MP)} (h : MT G H a l) (n : a ≠ p) : MT G (upd H p o) a l := by
  obtain ⟨h1, xs, h2, h3⟩ := h
  exact ⟨h1, xs, by rw [upd_ne n]; exact h2, h3⟩
theorem MK.ne {a p : Addr} {l : List (Key × MP)} (h : MK G H a l) (n : H p = none) : a ≠ p := by
  obtain ⟨_, xs, h2, _⟩ := h
  exact ne_of_none h2 n
theorem MT.ne {a p : Addr} {l : List (List Key × MP)} (h : MT G H a l) (n : H p = none) : a ≠ p := by
  obtain ⟨_, xs, h2, _⟩ := h
  exact ne_of_none h2 n
/-- over the whole heap it is a dict of the base -/
theorem MK.now {a : Addr} {l : List (Key × MP)} (h : MK G H a l) (e : Ex G H) : (mK l).p H (.ref a) := by
  obtain ⟨h1, xs, h2, h3⟩ := h
  exact ⟨a, xs, rfl, h2, h3.mono e⟩
theorem MT.now {a : Addr} {l : List (List Key × MP)} (h : MT G H a l) (e : Ex G H) : (mT l).p H (.ref a) := by
  obtain ⟨h1, xs, h2, h3⟩ := h
  exact ⟨a, xs, rfl, h2, h3.mono e⟩
/-- taken into the base -/
theorem MK.ret {G0 H0 : Hp} {a : Addr} {l : List (Key × MP)} (h : MK G H a l) (g : Grow G0 H0 G H) (h0 : H0 a = none) : ∃ G2, Grow G0 H0 G2 H ∧ Ex G G2 ∧ (∀ b, b ≠ a → G2 b = G b) ∧ (mK l).p G2 (.ref a) := by
  obtain ⟨h1, xs, h2, h3⟩ := h
  exact ⟨_, g.put h0 h1 h2, Ex.upd1 h1, fun b hb => upd_ne hb, a, xs, rfl, upd_same, h3.mono (Ex.upd1 h1)⟩
theorem MT.ret {G0 H0 : Hp} {a : Addr} {l : List (List Key × MP)} (h : MT G H a l) (g : Grow G0 H0 G H) (h0 : H0 a = none) : ∃ G2, Grow G0 H0 G2 H ∧ Ex G G2 ∧ (∀ b, b ≠ a → G2 b = G b) ∧ (mT l).p G2 (.ref a) := by
  obtain ⟨h1, xs, h2, h3⟩ := h
  exact ⟨_, g.put h0 h1 h2, Ex.upd1 h1, fun b hb => upd_ne hb, a, xs, rfl, upd_same, h3.mono (Ex.upd1 h1)⟩
/-- a key tuple: its places ints and texts -/
def kD : Key → PyData
  | .inl i => .int i
  | .inr x => .str x
theorem keyD {k : Key} {v : V} (h : Dt G v (kD k)) : v = kV k := by
  cases k with
  | inl i => exact Dt.int_iff.mp h
  | inr x => exact Dt.str_iff.mp h
theorem keysD : ∀ {ks : List Key} {vs : List V}, DtL G vs (ks.map kD) → vs = ks.map kV
  | [], _, .nil => rfl
  | k :: ks, _, .cons h r => by
    rw [keyD h, keysD r]
    rfl
theorem tupD {ks : List Key} {v : V} (h : Dt G v (.tuple (ks.map kD))) : ∃ b, v = .ref b ∧ G b = some (.tup (ks.map kV)) := by
  obtain ⟨b, xs, rfl, h1, h2⟩ := h.tup_inv
  obtain rfl := keysD h2
  exact ⟨b, rfl, h1⟩
/-- d[k] -/
theorem ev_dgetK {l : List (Key × MP)} {k : Key} (hd : Ev ta σ G H (mK l)) (hk : Ev tb σ G H (mD (kD k))) (h : lookM l k = some m) : Ev (tDGet ta tb) σ G H m := fun G1 H1 g Q q =>
  hd G1 H1 g _ fun v G2 H2 g2 hv => hk G2 H2 (g.trans g2) _ fun y G3 H3 g3 hy => by
    obtain ⟨a, kvs, rfl, h1, h2⟩ := (mK l).mono g3.gg hv
    obtain ⟨z, z1, z2⟩ := h2.look.1 m h
    refine ⟨a, z, rfl, ?_, q z G3 H3 (g2.trans g3) z2⟩
    rw [keyD hy, ← z1]
    exact DGet.k (g3.gh _ _ h1)
theorem ev_dgetT {l : List (List Key × MP)} {ks : List Key} (hd : Ev ta σ G H (mT l)) (hk : Ev tb σ G H (mD (.tuple (ks.map kD)))) (h : lookM l ks = some m) : Ev (tDGet ta tb) σ G H m := fun G1 H1 g Q q =>
  hd G1 H1 g _ fun v G2 H2 g2 hv => hk G2 H2 (g.trans g2) _ fun y G3 H3 g3 hy => by
    obtain ⟨a, kvs, rfl, h1, h2⟩ := (mT l).mono g3.gg hv
    obtain ⟨z, z1, z2⟩ := h2.look.1 m h
    obtain ⟨b, rfl, hb⟩ := tupD hy
    refine ⟨a, z, rfl, ?_, q z G3 H3 (g2.trans g3) z2⟩
    rw [← z1]
    exact DGet.t (g3.gh _ _ h1) (g3.gh _ _ hb)
/-- k in d, k not in d -/
theorem lookM_none {κ : Type} [DecidableEq κ] {ps : List (κ × V)} {l : List (κ × MP)} {k : κ} (h : KVs G ps l) : (valV ps k).isSome = (lookM l k).isSome := by
  obtain ⟨h1, h2⟩ := h.look (k := k)
  cases q : lookM l k with
  | none =>
    rw [h2 q]
    rfl
  | some m =>
    obtain ⟨v, e, _⟩ := h1 m q
    rw [e]
    rfl
theorem ev_dnotinT {l : List (List Key × MP)} {ks : List Key} (hk : Ev tb σ G H (mD (.tuple (ks.map kD)))) (hd : Ev ta σ G H (mT l)) : Ev (tDNotIn tb ta) σ G H (mD (.bool (!(lookM l ks).isSome))) := fun G1 H1 g Q q =>
  hk G1 H1 g _ fun y G2 H2 g2 hy => hd G2 H2 (g.trans g2) _ fun v G3 H3 g3 hv => by
    obtain ⟨a, kvs, rfl, h1, h2⟩ := hv
    obtain ⟨b, rfl, hb⟩ := tupD (Dt.mono g3.gg hy)
    refine ⟨a, _, rfl, DGet.t (g3.gh _ _ h1) (g3.gh _ _ hb), ?_⟩
    rw [lookM_none h2]
    exact q _ G3 H3 (g2.trans g3) (.bl _)
/-- d.get(k, x): some data -/
theorem ev_dget2K {l : List (Key × MP)} {k : Key} (hd : Ev ta σ G H (mK l)) (hk : Ev tb σ G H (mD (kD k))) (hx : Ev tx σ G H m1) (h1 : ∀ n, lookM l k = some n → ∀ G v, n.p G v → m.p G v) (h2 : lookM l k = none → ∀ G v, m1.p G v → m.p G v) : Ev (tDGet2 ta tb tx) σ G H m := fun G1 H1 g Q q =>
  hd G1 H1 g _ fun v G2 H2 g2 hv => by
    obtain ⟨a0, kvs0, e0, c1, c2⟩ := id hv
    refine ⟨a0, e0, .inl ⟨kvs0, .inl (g2.gh _ _ c1)⟩, hk G2 H2 (g.trans g2) _ fun y G3 H3 g3 hy => hx G3 H3 ((g.trans g2).trans g3) _ fun z G4 H4 g4 hz => ?_⟩
    have c3 := c2.mono (g3.gg.trans g4.gg)
    have c4 := g4.gh _ _ (g4.gg _ _ (g3.gg _ _ c1))
    refine ⟨valV kvs0 k, ?_, ?_⟩
    · rw [keyD hy]
      exact DGet.k c4
    · obtain ⟨l1, l2⟩ := c3.look (k := k)
      cases r : lookM l k with
      | none =>
        rw [l2 r]
        exact q z G4 H4 ((g2.trans g3).trans g4) (h2 r _ _ hz)
      | some n =>
        obtain ⟨w, w1, w2⟩ := l1 n r
        rw [w1]
        exact q w G4 H4 ((g2.trans g3).trans g4) (h1 n r _ _ w2)
/-- d[k] = e -/
theorem q_putK {D : Ends} {tz : TS} {a : Addr} {l : List (Key × MP)} {k : Key} (hl : MK G H a l) (e : Ex G H) (hv : Ev te σ G H m) (hd : Ev ta σ G H (mV (.ref a))) (hk : Ev tb σ G H (mD (kD k))) (hz : l.length ≤ 100000)
    (c : ∀ G1 H1, GrowB a G H G1 H1 → MK G1 H1 a (putM l k m) → tz D σ H1) : tSeq (sDPut ta tb te) tz D σ H := hv G H (Grow.refl e) _ fun v G1 H1 g1 hv => hd G1 H1 g1 _ fun x G2 H2 g2 hx => hk G2 H2 (g1.trans g2) _ fun y G3 H3 g3 hy => by
  obtain rfl := hx
  have g := (g1.trans g2).trans g3
  obtain ⟨n, kvs, h2, h3⟩ := hl.grow g
  refine ⟨a, _, rfl, by rw [keyD hy]; exact DPut.k (k := k) h2 (by rw [h3.length]; exact line_lt hz), c G3 _ (.of g n) ⟨n, _, upd_same, h3.put (m.mono (g2.trans g3).gg hv)⟩⟩
theorem q_putT {D : Ends} {tz : TS} {a : Addr} {l : List (List Key × MP)} {ks : List Key} (hl : MT G H a l) (e : Ex G H) (hv : Ev te σ G H m) (hd : Ev ta σ G H (mV (.ref a))) (hk : Ev tb σ G H (mD (.tuple (ks.map kD)))) (hz : l.length ≤ 100000)
    (c : ∀ G1 H1, GrowB a G H G1 H1 → MT G1 H1 a (putM l ks m) → tz D σ H1) : tSeq (sDPut ta tb te) tz D σ H := hv G H (Grow.refl e) _ fun v G1 H1 g1 hv => hd G1 H1 g1 _ fun x G2 H2 g2 hx => hk G2 H2 (g1.trans g2) _ fun y G3 H3 g3 hy => by
  obtain rfl := hx
  have g := (g1.trans g2).trans g3
  obtain ⟨n, kvs, h2, h3⟩ := hl.grow g
  obtain ⟨b, rfl, hb⟩ := tupD hy
  refine ⟨a, _, rfl, DPut.t (k := ks) h2 (g3.gh _ _ hb) (by rw [h3.length]; exact line_lt hz), c G3 _ (.of g n) ⟨n, _, upd_same, h3.put (m.mono (g2.trans g3).gg hv)⟩⟩
theorem s_putK {D : Ends} {a : Addr} {l : List (Key × MP)} {k : Key} (hl : MK G H a l) (e : Ex G H) (hv : Ev te σ G H m) (hd : Ev ta σ G H (mV (.ref a))) (hk : Ev tb σ G H (mD (kD k))) (hz : l.length ≤ 100000)
    (c : ∀ G1 H1, GrowB a G H G1 H1 → MK G1 H1 a (putM l k m) → D.nx σ H1) : sDPut ta tb te D σ H := q_putK (D := D) (tz := fun D σ H => D.nx σ H) hl e hv hd hk hz c
theorem s_putT {D : Ends} {a : Addr} {l : List (List Key × MP)} {ks : List Key} (hl : MT G H a l) (e : Ex G H) (hv : Ev te σ G H m) (hd : Ev ta σ G H (mV (.ref a))) (hk : Ev tb σ G H (mD (.tuple (ks.map kD)))) (hz : l.length ≤ 100000)
    (c : ∀ G1 H1, GrowB a G H G1 H1 → MT G1 H1 a (putM l ks m) → D.nx σ H1) : sDPut ta tb te D σ H := q_putT (D := D) (tz := fun D σ H => D.nx σ H) hl e hv hd hk hz c
end
end Sk
/-! SkD -/
/-! How histories, edges, ills stand as data. -/
namespace Sk
open PySem PySem.Spec PyProof.Rows L2
def levW : Lev → Str
  | .loose => "loose"
  | .kept => "kept"
  | .make => "make"
  | .watch => "watch"
  | .hold => "hold"
def whyW : Why → Str
  | .own => "own"
  | .saw => "saw"
  | .unseen => "unseen"
  | .over => "over"
abbrev pD (p : Int × Int) : PyData := .tuple [.int p.1, .int p.2]
abbrev ppD (p : (Int × Int) × (Int × Int)) : PyData := .tuple [pD p.1, pD p.2]
abbrev lookD (l : Look) : PyData := .list (l.map pD)
abbrev looksD (ls : List Look) : PyData := .list (ls.map lookD)
abbrev dealD (d : Deal) : PyData := .tuple [.int d.num, .str (levW d.lev), looksD d.looks]
abbrev makeD (km : Int × List Int) : PyData := .tuple [.int km.1, .list (dI km.2)]
abbrev histD (h : Hist) : PyData := .tuple [.list (h.deals.map dealD), .list (h.makes.map makeD)]
def keyO : Option Int → PyData
  | none => .none
  | some k => .int k
abbrev edgeD (e : Edge) : PyData := .tuple [pD e.one, pD e.other, .str (whyW e.why), keyO e.key]
def illD : Ill → PyData
  | .lost d r k => .tuple [.str "lost", .int d, .int r, .int k]
  | .midway d k => .tuple [.str "midway", .int d, .int k]
  | .skewed a b k k2 => .tuple [.str "skewed", .int a, .int b, .int k, .int k2]
  | .unkept d k => .tuple [.str "unkept", .int d, .int k]
def wD : Option Lev → PyData
  | none => .none
  | some l => .str (levW l)
/-- the key of a node in a dict -/
abbrev nk (x : Node) : List Key := [.inl x.1, .inl x.2]
/-- the bounds of a history -/
structure Hist.Small (h : Hist) : Prop where
  deals : h.deals.length ≤ 4
  looks : ∀ d ∈ h.deals, d.looks.length ≤ 30
  pairs : ∀ d ∈ h.deals, (pairsOf d).length ≤ 200
  makes : h.makes.length ≤ 4
  makers : ∀ km ∈ h.makes, km.2.length ≤ 4
theorem look_le {d : Deal} {n : Nat} (h : (pairsOf d).length ≤ n) : ∀ l ∈ d.looks, l.length ≤ n := by
  intro l hl
  refine Nat.le_trans ?_ h
  unfold pairsOf
  obtain ⟨a, b, e⟩ := List.append_of_mem hl
  rw [e, List.flatten_append, List.flatten_cons]
  simp
  omega
theorem Hist.Small.makersOf {h : Hist} (s : h.Small) (k : Int) : (makersOf h k).length ≤ 4 := by
  by_cases e : Sk.makersOf h k = []
  · rw [e]
    exact Nat.zero_le _
  · obtain ⟨m, hm⟩ := List.exists_mem_of_ne_nil _ e
    exact s.makers _ (makersOf_mem hm)
/-- the dict of the makes, as it is handed on -/
abbrev mksL (h : Hist) : List (Key × MP) := h.makes.map fun km => ((.inl km.1 : Key), mD (.list (dI km.2)))
theorem lookM_map {A κ : Type} [DecidableEq κ] (f : A → κ) (g : A → MP) (k : κ) : ∀ l : List A, lookM (l.map fun a => (f a, g a)) k = (l.find? fun a => decide (f a = k)).map g
  | [] => rfl
  | a :: l => by
    have ih := lookM_map f g k l
    unfold lookM at ih ⊢
    rw [List.map_cons, List.find?_cons, List.find?_cons]
    by_cases e : f a = k
    · rw [decide_eq_true e]
      rfl
    · rw [decide_eq_false e]
      exact ih
theorem look_mks (h : Hist) (k : Int) : lookM (mksL h) (.inl k) = (h.makes.find? fun km => decide (km.1 = k)).map fun km => mD (.list (dI km.2)) := by
  have e := lookM_map (fun km : Int × List Int => (Sum.inl km.1 : Key)) (fun km => mD (.list (dI km.2))) (Sum.inl k : Key) h.makes
  refine e.trans ?_
  congr 1
  congr 1
  funext km
  by_cases z : km.1 = k
  · rw [decide_eq_true z, decide_eq_true (by rw [z])]
  · rw [decide_eq_false z, decide_eq_false (fun q => z (Sum.inl.inj q))]
section
variable {K : PySem.W.Frag} {σ : L2.St} {G H G' H' : Hp} {ta tb te tx : TE}
/-- makers.get(key, []) -/
theorem ev_getMks {h : Hist} {k : Int} (hd : Ev ta σ G H (mK (mksL h))) (hk : Ev tb σ G H (mD (.int k))) : Ev (tDGet2 ta tb (tLst tNil)) σ G H (mD (.list (dI (makersOf h k)))) := by
  refine ev_dget2K (k := .inl k) (m1 := mD (.list [])) hd hk (ev_lst ed_nil (Nat.zero_le _)) (fun n hn G v hv => ?_) fun hn G v hv => ?_
  · rw [look_mks] at hn
    unfold makersOf
    cases q : h.makes.find? fun km => decide (km.1 = k) with
    | none =>
      rw [q] at hn
      cases hn
    | some km =>
      rw [q] at hn
      cases hn
      exact hv
  · rw [look_mks] at hn
    unfold makersOf
    cases q : h.makes.find? fun km => decide (km.1 = k) with
    | none => exact hv
    | some km =>
      rw [q] at hn
      cases hn
end
/-- a list of ills -/
def mIlls (h : Hist) (n : Nat) : MP := mDs fun x => ∃ es : List Ill, x = .list (es.map illD) ∧ (∀ i ∈ es, IsIll h i) ∧ es.length ≤ n
/-- a list of some ints -/
def mInts (P : List Int → Prop) : MP := mDs fun x => ∃ is : List Int, x = .list (dI is) ∧ P is
def mInt (P : Int → Prop) : MP := mDs fun x => ∃ i : Int, x = .int i ∧ P i
theorem flat_mInt (P : Int → Prop) : (mInt P).flat := fun G G' v ⟨d, ⟨i, e, p⟩, h⟩ => ⟨d, ⟨i, e, p⟩, by subst e; rw [Dt.int_iff.mp h]; exact .int i⟩
theorem mInt_inv {P : Int → Prop} {G : Hp} {v : V} (h : (mInt P).p G v) : ∃ i, v = .int i ∧ P i := by
  obtain ⟨d, ⟨i, rfl, p⟩, h⟩ := h
  exact ⟨i, Dt.int_iff.mp h, p⟩
end Sk
/-! SkF -/
/-! sorted, list, min, remove, < over data. -/
namespace Sk
open PySem PySem.Spec PyProof.Rows L2
open PySem.W (EachIs AllAlike Sortable dataLe KdlSrc)

/-! ### what data reads off is there -/
section
variable {h : Heap}
mutual
theorem reads_there : ∀ {v : Value} {d : PyData} {as : List Addr}, Reads h v d as → ∀ a ∈ as, ∃ o, h.get? a = some o
  | _, _, _, .none, a, ha => nomatch ha
  | _, _, _, .bool _, a, ha => nomatch ha
  | _, _, _, .int _ _, a, ha => nomatch ha
  | _, _, _, .str _ _, a, ha => nomatch ha
  | _, _, _, .list ho _ _ r, a, ha => by
    rcases List.mem_cons.mp ha with rfl | ha
    · exact ⟨_, ho⟩
    · exact readsAll_there r a ha
  | _, _, _, .tuple _ _ _ r, a, ha => readsAll_there r a ha
  | _, _, _, .dict ho _ _ r q, a, ha => by
    rcases List.mem_append.mp ha with ha | ha
    · rcases List.mem_cons.mp ha with rfl | ha
      · exact ⟨_, ho⟩
      · exact readsAll_there r a ha
    · exact readsAll_there q a ha
theorem readsAll_there : ∀ {vs : List Value} {ds : List PyData} {as : List Addr}, ReadsAll h vs ds as → ∀ a ∈ as, ∃ o, h.get? a = some o
  | _, _, _, .nil, a, ha => nomatch ha
  | _, _, _, .cons r q, a, ha => by
    rcases List.mem_append.mp ha with ha | ha
    · exact reads_there r a ha
    · exact readsAll_there q a ha
end
end
theorem each_vals {ps : List (V × PyData)} : ∀ {us : List Value}, EachIs (fun u b => RelV b.1 u) us ps → Vals (ps.map (·.1)) us := by
  induction ps with
  | nil => intro us e; cases e; exact .nil
  | cons p ps ih => intro us e; cases e with | cons a b => exact .cons a (ih b)
theorem vals_each : ∀ {xs : List V} {us : List Value} {ds : List PyData}, Vals xs us → xs.length = ds.length → EachIs (fun u (b : V × PyData) => RelV b.1 u) us (xs.zip ds)
  | [], _, _, .nil, _ => .nil
  | x :: xs, _, [], .cons r t, h => by simp at h
  | x :: xs, _, d :: ds, .cons r t, h => .cons r (vals_each t (by simpa using h))
theorem dpLen {K : PySem.W.Frag} {H : Hp} : ∀ {vs : List V} {ds : List PyData}, DpAll K H vs ds → vs.length = ds.length
  | _, _, .nil => rfl
  | _, _, .cons _ r => congrArg (· + 1) (dpLen r)
theorem dpAll_zip {K : PySem.W.Frag} {H : Hp} : ∀ {vs : List V} {ds : List PyData}, DpAll K H vs ds → ∀ b ∈ vs.zip ds, Dp K H b.1 b.2
  | _, _, .nil, b, hb => nomatch hb
  | _, _, .cons h r, b, hb => by
    rcases List.mem_cons.mp hb with rfl | hb
    · exact h
    · exact dpAll_zip r b hb
theorem dpAll_of {K : PySem.W.Frag} {H : Hp} : ∀ {ps : List (V × PyData)}, (∀ b ∈ ps, Dp K H b.1 b.2) → DpAll K H (ps.map (·.1)) (ps.map (·.2))
  | [], _ => .nil
  | p :: ps, h => .cons (h p List.mem_cons_self) (dpAll_of fun b hb => h b (List.mem_cons_of_mem _ hb))
theorem reads_each {X : Cx} {pins : List (Addr × Obj)} {σ : L2.St} {H : Hp} {s : Shared} (I : Inv X pins σ H s) : ∀ {xs : List V} {us : List Value} {ds : List PyData}, Vals xs us → DpAll X.K H xs ds → EachIs (fun u (b : V × PyData) => ∃ as, Reads s.heap u b.2 as) us (xs.zip ds)
  | [], _, _, .nil, .nil => .nil
  | x :: xs, _, _, .cons r t, .cons h q => .cons (Dp.reads I _ _ _ h r) (reads_each I t q)

/-- a bound on depths -/
def Flat3 (d : PyData) : Prop := d.depth ≤ 30
section
variable {X : Cx} {pins : List (Addr × Obj)} {σ : L2.St} {H : Hp} {s : Shared} {Q : VK}
/-- the new list at the heap's end is sorted -/
theorem sort_tail {h' : Heap} {tk : Nat} {xs : List V} {vs : List Value} {ds : List PyData} (I : Inv X pins σ H { s with heap := h', toks := tk }) (hu : X.A.units + 64 < cLine) (r : Vals xs vs) (hd : DpAll X.K H xs ds) (hal : AllAlike ds) (hso : Sortable ds) (hf : ∀ d ∈ ds, Flat3 d) (hz : xs.length ≤ sizeLine)
    (q : ∀ (zs : List (V × PyData)), zs.Perm (xs.zip ds) → ∀ p, H p = none → Q (.ref p) (upd H p (.lst (zs.map (·.1))))) (E : Value → Shared → Prop) :
    wpAny (model X.prog X.w) X.A.in1 (call (.builtin "list.sort") [.ref h'.objs.size]) (fun _ s' => EP X pins σ Q (.ref h'.objs.size) s') E { s with heap := h'.push (seqObj "list" vs.toArray 0), toks := tk } := by
  have hl : xs.length = ds.length := dpLen hd
  have hoL : (h'.push (seqObj "list" vs.toArray 0)).get? h'.objs.size = some (seqObj "list" vs.toArray 0) := Heap.get?_push_size _ rfl
  have hmap : (xs.zip ds).map (·.2) = ds := by rw [List.map_snd_zip (by omega)]
  have her := reads_each I r hd
  have her2 : EachIs (fun u (b : V × PyData) => ∃ as, Reads (h'.push (seqObj "list" vs.toArray 0)) u b.2 as ∧ h'.objs.size ∉ as) vs (xs.zip ds) := her.mono fun u b ⟨as, ra⟩ => ⟨as, PyProof.Rows.Reads.keeps (fun _ _ e => Heap.get?_push_of_some _ e) ra, fun hm => by
    obtain ⟨o, ho⟩ := reads_there ra _ hm
    exact absurd (Heap.lt_size ho) (Nat.lt_irrefl _)⟩
  refine PySem.W.list_sort_data (A := X.A.in1) (s := { s with heap := h'.push (seqObj "list" vs.toArray 0), toks := tk }) (enc := fun b : V × PyData => b.2) (R := fun u b => RelV b.1 u) (bs := xs.zip ds) hoL (vals_each r hl) her2 ?_ ?_ ?_ ?_ fun out h1 h2 => ?_
  · rw [hmap]
    exact hal
  · rw [hmap]
    exact hso
  · rw [List.length_zip]
    omega
  · intro b hb
    have hbd : b.2 ∈ ds := (List.of_mem_zip hb).2
    have := hf _ hbd
    unfold Flat3 at this
    show X.A.units + 1 + 1 + b.2.depth < cLine
    omega
  · obtain ⟨ep, he'⟩ := PyProof.Rows.sortedHeap_at (vs := vs) (out := out.toArray) hoL
    have hperm := List.mergeSort_perm (xs.zip ds) (dataLe false fun b : V × PyData => b.2)
    have hv := each_vals h2
    have hlen : (((xs.zip ds).mergeSort (dataLe false fun b : V × PyData => b.2)).map (·.1)).length ≤ sizeLine := by
      rw [List.length_map, hperm.length_eq, List.length_zip]
      omega
    refine ⟨.ref h'.objs.size, upd H h'.objs.size (.lst _), I.laid (t' := tk) (fun b u e => ?_) (Nat.le_refl _) ⟨hlen, out, ep, hv, he'⟩, rfl, q _ hperm _ (I.hok.fresh (Nat.le_refl _))⟩
    have hb : b < h'.objs.size := Heap.lt_size e
    rw [PyProof.Rows.sortedHeap_old (Nat.ne_of_lt hb) (by rw [size_push']; exact Nat.lt_succ_of_lt hb)]
    exact Heap.get?_push_of_some _ e
/-- sorted(x), x anything that is walked -/
theorem sorted_src {T : String} {r d : Addr} {n : Nat} {P : Nat → Value → Prop} {OK : Heap → Prop} {A : Around} {E : Value → Shared → Prop} {Q' : Value → Shared → Prop} (S : KdlSrc X.prog X.w T r d n P OK) (hh : A.handled = none) (hok : OK s.heap) (hn : n ≤ sizeLine)
    (h : ∀ (h' : Heap) (tk : Nat) (acc : Array Value), (∀ b o, s.heap.get? b = some o → h'.get? b = some o) → ItemsOf P acc n →
      wpAny (model X.prog X.w) A.in1 (call (.builtin "list.sort") [.ref h'.objs.size]) (fun _ s' => Q' (.ref h'.objs.size) s') E { s with heap := h'.push (seqObj "list" acc.toList.toArray 0), toks := tk }) :
    wpAny (model X.prog X.w) A (call (.builtin "sorted") [.ref r]) Q' E s := by
  refine Calls.call_function_entry PyProof.Rows.kind_sorted PyProof.Rows.plain_sorted PyProof.Rows.entry_sorted (PyProof.Rows.args_sorted1 _) ?_
  unfold Builtin.«sorted»
  refine wpAny_bind (m := checkCount "sorted" 1 1 _) (wpAny_pure ?_)
  refine wpAny_bind (PySem.W.kdu_collect (A := A.in1) S hh hok hn fun h' tk acc hk hacc => ?_)
  refine wpAny_bind (wpAny_newList ?_ (by rw [Array.length_toList, hacc.1]; exact hn))
  have hg := h h' tk acc hk hacc
  refine wpAny_bind (wpAny_holding (wpAny_mono hg (fun _ s' x => ?_) fun _ _ e => e))
  exact wpAny_pure ⟨_, rfl, x⟩
end
/-- sorted(xs), xs a list of data -/
def rSortedL (K : PySem.W.Frag) : List V → Hp → VK → Prop := fun vs H Q => ∃ (a : Addr) (xs : List V) (ds : List PyData), vs = [.ref a] ∧ H a = some (.lst xs) ∧ DpAll K H xs ds ∧ AllAlike ds ∧ Sortable ds ∧ (∀ d ∈ ds, Flat3 d) ∧
  ∀ (zs : List (V × PyData)), zs.Perm (xs.zip ds) → ∀ p, H p = none → Q (.ref p) (upd H p (.lst (zs.map (·.1))))
/-- sorted(d), d a dict whose keys are pairs of ints -/
def rSortedT : List V → Hp → VK → Prop := fun vs H Q => ∃ (a : Addr) (kvs : List (List Key × V)) (ps : List Node), vs = [.ref a] ∧ H a = some (.dT kvs) ∧ kvs.map (·.1) = ps.map nk ∧
  ∀ (qs : List (Addr × Node)), (qs.map (·.2)).Perm ps → (∀ q ∈ qs, H q.1 = some (.tup [.int q.2.1, .int q.2.2])) → ∀ p, H p = none → Q (.ref p) (upd H p (.lst (qs.map fun q => .ref q.1)))
/-- sorted(d), d a dict whose keys are ints -/
def rSortedK : List V → Hp → VK → Prop := fun vs H Q => ∃ (a : Addr) (kvs : List (Key × V)) (is : List Int), vs = [.ref a] ∧ H a = some (.dK kvs) ∧ kvs.map (·.1) = is.map Sum.inl ∧
  ∀ (js : List Int), js.Perm is → ∀ p, H p = none → Q (.ref p) (upd H p (.lst (js.map V.int)))
/-- list(d), d a dict whose keys are tuples -/
def rListT : List V → Hp → VK → Prop := fun vs H Q => ∃ (a : Addr) (kvs : List (List Key × V)), vs = [.ref a] ∧ H a = some (.dT kvs) ∧
  ∀ (qs : List (Addr × List Key)), qs.map (·.2) = kvs.map (·.1) → (∀ q ∈ qs, H q.1 = some (.tup (q.2.map kV))) → ∀ p, H p = none → Q (.ref p) (upd H p (.lst (qs.map fun q => .ref q.1)))
theorem alike_ints (is : List Int) : AllAlike (is.map PyData.int) := by
  intro d hd d' hd'
  obtain ⟨i, _, rfl⟩ := List.mem_map.mp hd
  obtain ⟨j, _, rfl⟩ := List.mem_map.mp hd'
  rfl
theorem alike_nodes (ps : List Node) : AllAlike (ps.map pD) := by
  intro d hd d' hd'
  obtain ⟨i, _, rfl⟩ := List.mem_map.mp hd
  obtain ⟨j, _, rfl⟩ := List.mem_map.mp hd'
  rfl
theorem sortable_nodes (ps : List Node) : Sortable (ps.map pD) := by
  refine .inl fun d hd => ?_
  obtain ⟨i, _, rfl⟩ := List.mem_map.mp hd
  exact ⟨_, _, rfl⟩
theorem sortable_ints (ps : List Int) : Sortable (ps.map PyData.int) := by
  refine .inr fun d hd => ?_
  obtain ⟨i, _, rfl⟩ := List.mem_map.mp hd
  exact And.intro (fun h => by cases h) (fun xs h => by cases h)
theorem flat_nodes (ps : List Node) : ∀ d ∈ ps.map pD, Flat3 d := by
  intro d hd
  obtain ⟨i, _, rfl⟩ := List.mem_map.mp hd
  show PyData.depth (.tuple [.int _, .int _]) ≤ 30
  simp [PyData.depth, PyData.depthAll]
theorem flat_ints (ps : List Int) : ∀ d ∈ ps.map PyData.int, Flat3 d := by
  intro d hd
  obtain ⟨i, _, rfl⟩ := List.mem_map.mp hd
  show PyData.depth (.int _) ≤ 30
  simp [PyData.depth]
section
variable {X : Cx}
theorem cr_sortedL (hu : X.A.units + 64 < cLine) : CallR X (.builtin "sorted") (rSortedL X.K) := by
  intro pins s σ H vs us Q I r h
  obtain ⟨a, xs, ds, rfl, ha, hd, hal, hso, hf, q⟩ := h
  obtain ⟨its, rv, hl, hz⟩ := I.list (SqL.of ha)
  rw [Vals.ref1 r]
  have hlen : xs.length = ds.length := dpLen hd
  have hmap : (xs.zip ds).map (·.2) = ds := by rw [List.map_snd_zip (by omega)]
  refine PySem.W.sorted_data (A := X.A) (enc := fun b : V × PyData => b.2) (R := fun u b => RelV b.1 u) (bs := xs.zip ds) hl.isList (vals_each rv hlen) (reads_each I rv hd) (by rw [hmap]; exact hal) (by rw [hmap]; exact hso) (by rw [List.length_zip]; omega) (fun b hb => ?_) fun out h1 h2 => ?_
  · have hbd : b.2 ∈ ds := (List.of_mem_zip hb).2
    have := hf _ hbd
    unfold Flat3 at this
    omega
  · obtain ⟨ep, he'⟩ := PyProof.Rows.sortedAll_at s.heap its out.toArray
    have hperm := List.mergeSort_perm (xs.zip ds) (dataLe false fun b : V × PyData => b.2)
    have hv := each_vals h2
    have hlen2 : (((xs.zip ds).mergeSort (dataLe false fun b : V × PyData => b.2)).map (·.1)).length ≤ sizeLine := by
      rw [List.length_map, hperm.length_eq, List.length_zip]
      omega
    exact ⟨.ref _, upd H (s.heap.objs.size + 1) (.lst _), I.laid (t' := s.toks) (fun _ _ => PyProof.Rows.sortedAll_old) (Nat.le_succ _) ⟨hlen2, out, ep, hv, he'⟩, rfl, q _ hperm _ (I.hok.fresh (Nat.le_succ _))⟩
/-- the keys of a dict, as its walk gives them -/
theorem keysT {pins : List (Addr × Obj)} {σ : L2.St} {H : Hp} {s : Shared} (I : Inv X pins σ H s) {a : Addr} {kvs : List (List Key × V)} (ha : H a = some (.dT kvs)) : kvs.length ≤ sizeLine ∧ (a == sysModules) = false ∧ ∃ (es : Array DictEntry) (ep : Nat) (xs : List (List Key × Addr × Value)), s.heap.DictRaw a es ep ∧ es.size = kvs.length ∧ xs.map (·.1) = kvs.map (·.1) ∧ (∀ x ∈ xs, H x.2.1 = some (.tup (x.1.map kV))) ∧ ∀ (acc : Array Value), ItemsOf (fun i v => ∃ hi : i < es.size, v = es[i].key) acc es.size → acc.toList = xs.map fun x => Value.ref x.2.1 := by
  obtain ⟨z, lo, xs, rel, dd⟩ := dt_of I.hok ha
  obtain ⟨es, ep, raw, hsz, hkey⟩ := Heap.DictOfH.raw dd
  have hk : ∀ {kvs : List (List Key × V)} {xs : List (List Key × Addr × Value)}, KT H kvs xs → kvs.length = xs.length ∧ xs.map (·.1) = kvs.map (·.1) ∧ ∀ x ∈ xs, H x.2.1 = some (.tup (x.1.map kV)) := by
    intro kvs xs rel
    induction rel with
    | nil => exact ⟨rfl, rfl, fun x hx => nomatch hx⟩
    | cons h _ ih =>
      obtain ⟨i1, i2, i3⟩ := ih
      refine ⟨congrArg (· + 1) i1, ?_, fun x hx => ?_⟩
      · rw [List.map_cons, List.map_cons, i2, h.1]
      · rcases List.mem_cons.mp hx with rfl | hx
        · rw [← h.1]
          exact h.2.1
        · exact i3 x hx
  obtain ⟨k1, k2, k3⟩ := hk rel
  refine ⟨z, lo, es, ep, xs, raw, hsz.trans k1.symm, k2, k3, fun acc hacc => ?_⟩
  refine List.ext_getElem? fun j => ?_
  rw [List.getElem?_map]
  rcases Nat.lt_or_ge j es.size with hj | hj
  · have hja : j < acc.toList.length := by rw [Array.length_toList, hacc.1]; exact hj
    rw [List.getElem?_eq_getElem hja]
    obtain ⟨hi, ev⟩ := hacc.2 j acc.toList[j] (by rw [← Array.getElem?_toList]; exact List.getElem?_eq_getElem hja)
    obtain ⟨y, y1, y2, _, _⟩ := hkey j hj
    rw [y1, ev, y2]
    rfl
  · rw [List.getElem?_eq_none (by rw [Array.length_toList, hacc.1]; exact hj), List.getElem?_eq_none (by rw [← hsz]; exact hj)]
    rfl
theorem ref_vals : ∀ (as : List Addr), Vals (as.map V.ref) (as.map Value.ref)
  | [] => .nil
  | a :: as => .cons rfl (ref_vals as)
theorem dp_nodes {K : PySem.W.Frag} {H : Hp} : ∀ {qs : List (Addr × Node)}, (∀ q ∈ qs, H q.1 = some (.tup [.int q.2.1, .int q.2.2])) → DpAll K H (qs.map fun q => .ref q.1) (qs.map fun q => pD q.2)
  | [], _ => .nil
  | q :: qs, h => .cons (.tup (SqT.of (h q List.mem_cons_self)) (.cons (.int _) (.cons (.int _) .nil))) (dp_nodes fun x hx => h x (List.mem_cons_of_mem _ hx))
theorem dp_ints {K : PySem.W.Frag} {H : Hp} : ∀ (is : List Int), DpAll K H (is.map V.int) (is.map PyData.int)
  | [] => .nil
  | i :: is => .cons (.int i) (dp_ints is)
theorem dp_ints_inv {K : PySem.W.Frag} {H : Hp} : ∀ {js : List Int} {xs : List V}, DpAll K H xs (js.map PyData.int) → xs = js.map V.int
  | [], _, .nil => rfl
  | j :: js, _, .cons h r => by
    cases h
    rw [dp_ints_inv r]
    rfl
theorem perm_map_inv {A B : Type} (f : A → B) : ∀ {l : List A} {m : List B}, m.Perm (l.map f) → ∃ l' : List A, l'.Perm l ∧ l'.map f = m := by
  intro l m h
  have key : ∀ {m1 m2 : List B}, m1.Perm m2 → ∀ l, l.map f = m2 → ∃ l' : List A, l'.Perm l ∧ l'.map f = m1 := by
    intro m1 m2 h
    induction h with
    | nil => intro l hl; exact ⟨[], by cases l with | nil => exact .nil | cons a b => simp at hl, rfl⟩
    | cons x _ ih =>
      intro l hl
      cases l with
      | nil => simp at hl
      | cons a l =>
        rw [List.map_cons] at hl
        obtain ⟨e1, e2⟩ := List.cons.inj hl
        obtain ⟨l', p, q⟩ := ih l e2
        exact ⟨a :: l', p.cons a, by rw [List.map_cons, q, e1]⟩
    | swap x y t =>
      intro l hl
      match l, hl with
      | a :: b :: l, hl =>
        rw [List.map_cons, List.map_cons] at hl
        obtain ⟨e1, e2⟩ := List.cons.inj hl
        obtain ⟨e2, e3⟩ := List.cons.inj e2
        exact ⟨b :: a :: l, .swap a b l, by rw [List.map_cons, List.map_cons, e1, e2, e3]⟩
    | trans _ _ ih1 ih2 =>
      intro l hl
      obtain ⟨l1, p1, q1⟩ := ih2 l hl
      obtain ⟨l2, p2, q2⟩ := ih1 l1 q1
      exact ⟨l2, p2.trans p1, q2⟩
  exact key h l rfl
theorem nodes_of {H : Hp} : ∀ {xs : List (List Key × Addr × Value)} {ps : List Node}, xs.map (·.1) = ps.map nk → (∀ x ∈ xs, H x.2.1 = some (.tup (x.1.map kV))) →
    ∃ qs : List (Addr × Node), qs.map (·.1) = xs.map (fun x => x.2.1) ∧ qs.map (·.2) = ps ∧ ∀ q ∈ qs, H q.1 = some (.tup [.int q.2.1, .int q.2.2])
  | [], [], _, _ => ⟨[], rfl, rfl, fun q hq => nomatch hq⟩
  | [], p :: ps, h, _ => by simp at h
  | x :: xs, [], h, _ => by simp at h
  | x :: xs, p :: ps, h, k => by
    rw [List.map_cons, List.map_cons] at h
    obtain ⟨e1, e2⟩ := List.cons.inj h
    obtain ⟨qs, a1, a2, a3⟩ := nodes_of e2 fun y hy => k y (List.mem_cons_of_mem _ hy)
    refine ⟨(x.2.1, p) :: qs, by rw [List.map_cons, List.map_cons, a1], by rw [List.map_cons, a2], fun q hq => ?_⟩
    rcases List.mem_cons.mp hq with rfl | hq
    · have := k x List.mem_cons_self
      rw [e1] at this
      exact this
    · exact a3 q hq
theorem cr_sortedT (hc : X.calm = true) (hu : X.A.units + 64 < cLine) : CallR X (.builtin "sorted") rSortedT := by
  intro pins s σ H vs us Q I r h
  obtain ⟨a, kvs, ps, rfl, ha, hk, q⟩ := h
  rw [Vals.ref1 r]
  obtain ⟨z, lo, es, ep, xs, raw, hsz, k1, k2, k3⟩ := keysT I ha
  refine sorted_src (X := X) (KdlSrc.rawDict lo) (I.ok.hd hc) raw (by rw [hsz]; exact z) fun h' tk acc hkeep hacc => ?_
  have e := k3 acc hacc
  have I1 : Inv X pins σ H { s with heap := h', toks := tk } := I.kept hkeep
  -- the keys with their addresses
  obtain ⟨qs, q1, q2, q3⟩ := nodes_of (k1.trans hk) k2
  have ev : acc.toList = (qs.map (·.1)).map Value.ref := by rw [e, q1, List.map_map]; rfl
  have ed : (qs.map fun q => pD q.2) = ps.map pD := by rw [← q2, List.map_map]; rfl
  rw [ev]
  refine sort_tail (X := X) (s := s) I1 hu (ref_vals (qs.map (·.1))) (ds := qs.map fun q => pD q.2) (by rw [List.map_map]; exact dp_nodes q3) (by rw [ed]; exact alike_nodes ps) (by rw [ed]; exact sortable_nodes ps) (by rw [ed]; exact flat_nodes ps) ?_ (fun zs hp p hpn => ?_) _
  · rw [List.length_map, ← List.length_map (f := Value.ref), ← ev, Array.length_toList, hacc.1, hsz]
    exact z
  · have ez : ((qs.map (·.1)).map V.ref).zip (qs.map fun q => pD q.2) = qs.map fun q => (V.ref q.1, pD q.2) := by
      rw [List.map_map]
      clear q1 q2 q3 hp ed ev e k1 k2 k3
      induction qs with
      | nil => rfl
      | cons a b ih => rw [List.map_cons, List.map_cons, List.map_cons, List.zip_cons_cons, ih]; rfl
    rw [ez] at hp
    obtain ⟨rs, p1, p2⟩ := perm_map_inv (fun q : Addr × Node => (V.ref q.1, pD q.2)) hp
    have e2 : zs.map (·.1) = rs.map fun q => V.ref q.1 := by rw [← p2, List.map_map]; rfl
    rw [e2]
    refine q rs ?_ (fun x hx => q3 x (p1.mem_iff.mp hx)) p hpn
    have := p1.map (·.2)
    rw [q2] at this
    exact this
theorem cr_sortedK (hc : X.calm = true) (hu : X.A.units + 64 < cLine) : CallR X (.builtin "sorted") rSortedK := by
  intro pins s σ H vs us Q I r h
  obtain ⟨a, kvs, is, rfl, ha, hks, q⟩ := h
  rw [Vals.ref1 r]
  obtain ⟨z, lo, vs, rel, dd⟩ := dk_of I.hok ha
  obtain ⟨ep, hat⟩ := dd.dictAt
  have hkeys : vs.map (·.1) = is.map Sum.inl := rel.keys.symm.trans hks
  have hl : vs.length = is.length := by
    have e := congrArg List.length hkeys
    rw [List.length_map, List.length_map] at e
    exact e
  refine sorted_src (X := X) (PySem.W.kdl_dict (knd := mixKind X.prog X.w) (kvs := vs) (ep := ep) lo) (I.ok.hd hc) hat (by rw [← rel.length]; exact z) fun h' tk acc hkeep hacc => ?_
  have I1 : Inv X pins σ H { s with heap := h', toks := tk } := I.kept hkeep
  have hal : acc.toList.length = is.length := by rw [Array.length_toList, hacc.1, hl]
  have hI : IntsAre acc.toList is := ints_each hal fun j v e => by
    obtain ⟨k, x, e1, e2⟩ := hacc.2 j v (by rw [← Array.getElem?_toList]; exact e)
    have e3 : (vs.map (·.1))[j]? = some k := by rw [List.getElem?_map, e1]; all_goals rfl
    rw [hkeys, List.getElem?_map] at e3
    cases e4 : is[j]? with
    | none => rw [e4] at e3; cases e3
    | some y =>
      rw [e4] at e3
      have e5 : Sum.inl y = k := Option.some.inj e3
      subst e5
      obtain ⟨t, ev⟩ := Value.isInt_shape (k := y) (v := v) e2
      exact ⟨y, t, rfl, ev⟩
  refine sort_tail (X := X) (s := s) I1 hu (vals_of_ints hI) (ds := is.map PyData.int) (dp_ints is) (alike_ints is) (sortable_ints is) (flat_ints is) (by rw [List.length_map, ← hl, ← rel.length]; exact z) (fun zs hp p hpn => ?_) _
  have ez : (is.map V.int).zip (is.map PyData.int) = is.map fun i => (V.int i, PyData.int i) := by
    clear hI hal hl hkeys hks hp q
    induction is with
    | nil => rfl
    | cons a b ih => rw [List.map_cons, List.map_cons, List.map_cons, List.zip_cons_cons, ih]
  rw [ez] at hp
  obtain ⟨rs, p1, p2⟩ := perm_map_inv (fun i : Int => (V.int i, PyData.int i)) hp
  have e2 : zs.map (·.1) = rs.map V.int := by rw [← p2, List.map_map]; rfl
  rw [e2]
  exact q rs p1 p hpn
theorem cr_listT (hc : X.calm = true) : CallR X (.type "list") rListT := by
  intro pins s σ H vs us Q I r h
  obtain ⟨a, kvs, rfl, ha, q⟩ := h
  rw [Vals.ref1 r]
  obtain ⟨z, lo, es, ep, xs, raw, hsz, k1, k2, k3⟩ := keysT I ha
  refine PySem.W.kdl_call (KdlSrc.rawDict lo) (I.ok.hd hc) raw (by rw [hsz]; exact z) fun h' tk acc c' hk hD hacc => ?_
  have e := k3 acc hacc
  have hv : Vals (xs.map fun x => V.ref x.2.1) acc.toList := by
    rw [e]
    have := ref_vals (xs.map fun x => x.2.1)
    rw [List.map_map, List.map_map] at this
    exact this
  have hlen : (xs.map fun x => V.ref x.2.1).length ≤ sizeLine := by
    have := congrArg List.length k1
    rw [List.length_map, List.length_map] at this
    rw [List.length_map, this]
    exact z
  refine ⟨.ref s.heap.objs.size, upd H s.heap.objs.size (.lst (xs.map fun x => V.ref x.2.1)), I.laid (t' := tk) hk (Nat.le_refl _)
    (show ObjOk X.prog X.w _ _ _ (.lst (xs.map fun x => V.ref x.2.1)) from ⟨hlen, acc.toList, c', hv, by rw [Array.toArray_toList]; exact hD⟩), rfl, ?_⟩
  have e2 : (xs.map fun x => V.ref x.2.1) = (xs.map fun x => (x.2.1, x.1)).map fun q => V.ref q.1 := by rw [List.map_map]; rfl
  rw [e2]
  refine q _ ?_ (fun x hx => ?_) _ (I.hok.fresh (Nat.le_refl _))
  · rw [List.map_map]
    exact k1
  · obtain ⟨y, hy, rfl⟩ := List.mem_map.mp hx
    exact k2 y hy
end
section
variable {K : PySem.W.Frag} {σ : L2.St} {G H G' H' : Hp} {ta tb te tx : TE}
theorem dtl_zip : ∀ {xs : List V} {ds : List PyData}, DtL G xs ds → ∀ b ∈ xs.zip ds, Dt G b.1 b.2
  | _, _, .nil, b, hb => nomatch hb
  | _, _, .cons h r, b, hb => by
    rcases List.mem_cons.mp hb with rfl | hb
    · exact h
    · exact dtl_zip r b hb
theorem dtl_of : ∀ {ps : List (V × PyData)}, (∀ b ∈ ps, Dt G b.1 b.2) → DtL G (ps.map (·.1)) (ps.map (·.2))
  | [], _ => .nil
  | p :: ps, h => .cons (h p List.mem_cons_self) (dtl_of fun b hb => h b (List.mem_cons_of_mem _ hb))
def mPerm (ds : List PyData) : MP := mDs fun x => ∃ es : List PyData, x = .list es ∧ es.Perm ds
theorem ev_sortedL {ds : List PyData} (h : Ev ta σ G H (mD (.list ds))) (h1 : AllAlike ds) (h2 : Sortable ds) (h3 : ∀ d ∈ ds, Flat3 d) : Ev (tCB (rSortedL K) (tCons ta tNil)) σ G H (mPerm ds) := ev_cb (ea_cons h ea_nil) fun vs G1 H1 g hv Q k => by
  match vs, hv with
  | [v], ⟨hv, _⟩ =>
  obtain ⟨a, xs, rfl, c1, c2⟩ := Dt.lst_inv hv
  refine ⟨a, xs, ds, rfl, g.gh _ _ c1, (c2.mono g.gh).dp, h1, h2, h3, fun zs hp p hpn => ?_⟩
  have g3 : Grow G1 H1 (upd G1 p (.lst (zs.map (·.1)))) (upd H1 p (.lst (zs.map (·.1)))) := Grow.new g.gh hpn
  have e : (xs.zip ds).map (·.2) = ds := by rw [List.map_snd_zip (by rw [c2.length]; exact Nat.le_refl _)]
  have hp2 := hp.map (·.2)
  rw [e] at hp2
  exact k _ _ _ g3 ⟨_, ⟨zs.map (·.2), rfl, hp2⟩, .lst upd_same ((dtl_of fun b hb => dtl_zip c2 b (hp.mem_iff.mp hb)).mono g3.gg)⟩
theorem kvs_keys {κ : Type} [DecidableEq κ] : ∀ {ps : List (κ × V)} {qs : List (κ × MP)}, KVs G ps qs → ps.map (·.1) = qs.map (·.1)
  | [], [], _ => rfl
  | _ :: _, _ :: _, h => by rw [List.map_cons, List.map_cons, h.1.1, kvs_keys h.2]
  | [], _ :: _, h => h.elim
  | _ :: _, [], h => h.elim
theorem dtl_ints (G : Hp) : ∀ is : List Int, DtL G (is.map V.int) (dI is)
  | [] => .nil
  | i :: is => .cons (.int i) (dtl_ints G is)
theorem ev_sortedK {l : List (Key × MP)} {is : List Int} (h : Ev ta σ G H (mK l)) (hk : l.map (·.1) = is.map Sum.inl) : Ev (tCB rSortedK (tCons ta tNil)) σ G H (mInts fun js => js.Perm is) := ev_cb (ea_cons h ea_nil) fun vs G1 H1 g hv Q k => by
  match vs, hv with
  | [v], ⟨hv, _⟩ =>
  obtain ⟨a, kvs, rfl, c1, c2⟩ := hv
  refine ⟨a, kvs, is, rfl, g.gh _ _ c1, (kvs_keys c2).trans hk, fun js hj p hpn => ?_⟩
  have g3 : Grow G1 H1 (upd G1 p (.lst (js.map V.int))) (upd H1 p (.lst (js.map V.int))) := Grow.new g.gh hpn
  exact k _ _ _ g3 ⟨_, ⟨js, rfl, hj⟩, .lst upd_same (dtl_ints _ js)⟩
def mNodes (P : List Node → Prop) : MP := mDs fun x => ∃ js : List Node, x = .list (js.map pD) ∧ P js
theorem ev_sortedT {l : List (List Key × MP)} {ps : List Node} (h : Ev ta σ G H (mT l)) (hk : l.map (·.1) = ps.map nk) : Ev (tCB rSortedT (tCons ta tNil)) σ G H (mNodes fun js => js.Perm ps) := ev_cb (ea_cons h ea_nil) fun vs G1 H1 g hv Q k => by
  match vs, hv with
  | [v], ⟨hv, _⟩ =>
  obtain ⟨a, kvs, rfl, c1, c2⟩ := hv
  refine ⟨a, kvs, ps, rfl, g.gh _ _ c1, (kvs_keys c2).trans hk, fun qs hq hin p hpn => ?_⟩
  have g2 := Grow.tups g.gh
  have g3 : Grow (withT G1 H1) H1 (upd (withT G1 H1) p (.lst (qs.map fun q => .ref q.1))) (upd H1 p (.lst (qs.map fun q => .ref q.1))) := Grow.new g2.gh hpn
  have hd : ∀ {qs : List (Addr × Node)}, (∀ q ∈ qs, H1 q.1 = some (.tup [.int q.2.1, .int q.2.2])) → DtL (withT G1 H1) (qs.map fun q => V.ref q.1) ((qs.map (·.2)).map pD) := by
    intro qs hin
    induction qs with
    | nil => exact .nil
    | cons q qs ih => exact .cons (.tup (withT_tup g.gh (hin q List.mem_cons_self)) (.cons (.int _) (.cons (.int _) .nil))) (ih fun x hx => hin x (List.mem_cons_of_mem _ hx))
  exact k _ _ _ (g2.trans g3) ⟨_, ⟨qs.map (·.2), rfl, hq⟩, .lst upd_same ((hd hin).mono g3.gg)⟩
theorem dt_key (G : Hp) : ∀ k : Key, Dt G (kV k) (kD k)
  | .inl i => .int i
  | .inr x => .str x
theorem dtl_keys (G : Hp) : ∀ ks : List Key, DtL G (ks.map kV) (ks.map kD)
  | [] => .nil
  | k :: ks => .cons (dt_key G k) (dtl_keys G ks)
theorem ev_listT {l : List (List Key × MP)} (h : Ev ta σ G H (mT l)) : Ev (tCB rListT (tCons ta tNil)) σ G H (mD (.list (l.map fun q => .tuple (q.1.map kD)))) := ev_cb (ea_cons h ea_nil) fun vs G1 H1 g hv Q k => by
  match vs, hv with
  | [v], ⟨hv, _⟩ =>
  obtain ⟨a, kvs, rfl, c1, c2⟩ := hv
  refine ⟨a, kvs, rfl, g.gh _ _ c1, fun qs hq hin p hpn => ?_⟩
  have g2 := Grow.tups g.gh
  have g3 : Grow (withT G1 H1) H1 (upd (withT G1 H1) p (.lst (qs.map fun q => .ref q.1))) (upd H1 p (.lst (qs.map fun q => .ref q.1))) := Grow.new g2.gh hpn
  have hd : ∀ {qs : List (Addr × List Key)}, (∀ q ∈ qs, H1 q.1 = some (.tup (q.2.map kV))) → DtL (withT G1 H1) (qs.map fun q => V.ref q.1) ((qs.map (·.2)).map fun ks => .tuple (ks.map kD)) := by
    intro qs hin
    induction qs with
    | nil => exact .nil
    | cons q qs ih => exact .cons (.tup (withT_tup g.gh (hin q List.mem_cons_self)) (dtl_keys _ _)) (ih fun x hx => hin x (List.mem_cons_of_mem _ hx))
  have e : (l.map fun q => PyData.tuple (q.1.map kD)) = (qs.map (·.2)).map fun ks => .tuple (ks.map kD) := by
    rw [hq, kvs_keys c2, List.map_map]
    rfl
  rw [e] at k
  exact k _ _ _ (g2.trans g3) (.lst upd_same ((hd hin).mono g3.gg))
end
end Sk
namespace Sk
open PySem PySem.Spec PyProof.Rows L2
section
variable {K : PySem.W.Frag} {σ : L2.St} {G H : Hp} {D : Ends} {tu tz : TS}
/-- a loop over a list of which something is known -/
theorem q_forM {tl : TE} {g : TG} {P : List PyData → Prop} (h : Ev tl σ G H (mDs fun x => ∃ ds, x = .list ds ∧ P ds)) (e : Ex G H) (Pv : List PyData → Nat → L2.St → Hp → Hp → Prop) (h0 : ∀ ds G1 H1, P ds → Grow G H G1 H1 → Pv ds 0 σ G1 H1)
    (hs : ∀ Gs ds i d x σ' G' H', P ds → ds[i]? = some d → Dt G' x d → Ex Gs G' → Ex G' H' → Pv ds i σ' G' H' → g x σ' H' fun σ2 H2 => tu { D with nx := PvE Gs (Pv ds) (i + 1), ct := PvE Gs (Pv ds) (i + 1), bk := tz D } σ2 H2)
    (hd : ∀ ds σ' G' H', P ds → Ex G' H' → Pv ds ds.length σ' G' H' → tz D σ' H') : tSeq (tFor (iList K tl) g tu) tz D σ H := h G H (Grow.refl e) _ fun v G1 H1 g1 ⟨d, ⟨ds, ed, p⟩, hv⟩ => by
  subst ed
  obtain ⟨a, xs, rfl, h1, h2⟩ := Dt.lst_inv hv
  refine ⟨a, rfl, ⟨xs, SqL.of (g1.gh _ _ h1)⟩, for_list (K := K) (a := a) (xs := xs) (D := { D with nx := tz D }) (PvE G1 (Pv ds)) ⟨G1, Ex.refl _, g1.gh, h0 ds G1 H1 p g1⟩ (fun i σ' H' _ ⟨G', e1, e2, _⟩ => SqL.of (e2 _ _ (e1 _ _ h1))) ?_ ?_⟩
  · rintro i x σ' H' hi ⟨G', e1, e2, w⟩
    obtain ⟨d, d1, d2⟩ := h2.get hi
    exact hs G1 ds i d x σ' G' H' p d1 (d2.mono e1) e1 e2 w
  · rintro σ' H' ⟨G', e1, e2, w⟩
    rw [h2.length] at w
    exact hd ds σ' G' H' p e2 w
theorem q_forMs {tl : TE} {j : Nat} {P : List PyData → Prop} (h : Ev tl σ G H ⟨fun G v => ∃ ds, P ds ∧ Dt G v (.list ds), fun e ⟨ds, a, b⟩ => ⟨ds, a, b.mono e⟩⟩) (e : Ex G H) (Pv : List PyData → Nat → L2.St → Hp → Hp → Prop) (h0 : ∀ ds G1 H1, P ds → Grow G H G1 H1 → Pv ds 0 σ G1 H1)
    (hs : ∀ Gs ds i d x σ' G' H', P ds → ds[i]? = some d → Dt G' x d → Ex Gs G' → Ex G' H' → Pv ds i σ' G' H' → tu { D with nx := PvE Gs (Pv ds) (i + 1), ct := PvE Gs (Pv ds) (i + 1), bk := tz D } (σ'.set j (some x)) H')
    (hd : ∀ ds σ' G' H', P ds → Ex G' H' → Pv ds ds.length σ' G' H' → tz D σ' H') : tSeq (tFor (iList K tl) (gName j) tu) tz D σ H :=
  q_forM (Ev.imp h fun G v ⟨ds, a, b⟩ => ⟨_, ⟨ds, rfl, a⟩, b⟩) e Pv h0 hs hd
theorem s_forMs {tl : TE} {j : Nat} {P : List PyData → Prop} (h : Ev tl σ G H ⟨fun G v => ∃ ds, P ds ∧ Dt G v (.list ds), fun e ⟨ds, a, b⟩ => ⟨ds, a, b.mono e⟩⟩) (e : Ex G H) (Pv : List PyData → Nat → L2.St → Hp → Hp → Prop) (h0 : ∀ ds G1 H1, P ds → Grow G H G1 H1 → Pv ds 0 σ G1 H1)
    (hs : ∀ Gs ds i d x σ' G' H', P ds → ds[i]? = some d → Dt G' x d → Ex Gs G' → Ex G' H' → Pv ds i σ' G' H' → tu { D with nx := PvE Gs (Pv ds) (i + 1), ct := PvE Gs (Pv ds) (i + 1), bk := D.nx } (σ'.set j (some x)) H')
    (hd : ∀ ds σ' G' H', P ds → Ex G' H' → Pv ds ds.length σ' G' H' → D.nx σ' H') : tFor (iList K tl) (gName j) tu D σ H :=
  q_forMs (D := D) (tz := fun D σ H => D.nx σ H) h e Pv h0 hs hd
theorem s_forD {tl : TE} {g : TG} {ds : List PyData} (h : Ev tl σ G H (mD (.list ds))) (e : Ex G H) (Pv : Nat → L2.St → Hp → Hp → Prop) (h0 : ∀ G1 H1, Grow G H G1 H1 → Pv 0 σ G1 H1)
    (hs : ∀ Gs i d x σ' G' H', ds[i]? = some d → Dt G' x d → Ex Gs G' → Ex G' H' → Pv i σ' G' H' → g x σ' H' fun σ2 H2 => tu { D with nx := PvE Gs Pv (i + 1), ct := PvE Gs Pv (i + 1), bk := D.nx } σ2 H2)
    (hd : ∀ σ' G' H', Ex G' H' → Pv ds.length σ' G' H' → D.nx σ' H') : tFor (iList K tl) g tu D σ H := q_forD (D := D) (tz := fun D σ H => D.nx σ H) h e Pv h0 hs hd
theorem s_forDn {tl : TE} {j : Nat} {ds : List PyData} (h : Ev tl σ G H (mD (.list ds))) (e : Ex G H) (Pv : Nat → L2.St → Hp → Hp → Prop) (h0 : ∀ G1 H1, Grow G H G1 H1 → Pv 0 σ G1 H1)
    (hs : ∀ Gs i d x σ' G' H', ds[i]? = some d → Dt G' x d → Ex Gs G' → Ex G' H' → Pv i σ' G' H' → tu { D with nx := PvE Gs Pv (i + 1), ct := PvE Gs Pv (i + 1), bk := D.nx } (σ'.set j (some x)) H')
    (hd : ∀ σ' G' H', Ex G' H' → Pv ds.length σ' G' H' → D.nx σ' H') : tFor (iList K tl) (gName j) tu D σ H := s_forD h e Pv h0 hs hd
theorem s_forR {ta : TA} {j : Nat} {lo n : Int} (h : EvD ta σ G H [.int lo, .int n]) (e : Ex G H) (hn : -100000 ≤ lo ∧ lo ≤ 100000 ∧ -100000 ≤ n ∧ n ≤ 100000) (Pv : Nat → L2.St → Hp → Hp → Prop) (h0 : ∀ G1 H1, Grow G H G1 H1 → Pv 0 σ G1 H1)
    (hs : ∀ (i : Nat) σ' G' H', lo + (i : Int) < n → Ex G' H' → Pv i σ' G' H' → tu { D with nx := fun σ2 H2 => ∃ G2, Ex G2 H2 ∧ Pv (i + 1) σ2 G2 H2, ct := fun σ2 H2 => ∃ G2, Ex G2 H2 ∧ Pv (i + 1) σ2 G2 H2, bk := D.nx } (σ'.set j (some (.int (lo + (i : Int))))) H')
    (hd : ∀ σ' G' H', Ex G' H' → Pv (n - lo).toNat σ' G' H' → D.nx σ' H') : tFor (iRng2 ta) (gName j) tu D σ H := q_forR (D := D) (tz := fun D σ H => D.nx σ H) h e hn Pv h0 hs hd
theorem s_forR1 {ta : TA} {j : Nat} {n : Int} (h : EvD ta σ G H [.int n]) (e : Ex G H) (hn : 0 ≤ n ∧ n ≤ 100000) (Pv : Nat → L2.St → Hp → Hp → Prop) (h0 : ∀ G1 H1, Grow G H G1 H1 → Pv 0 σ G1 H1)
    (hs : ∀ (i : Nat) σ' G' H', (i : Int) < n → Ex G' H' → Pv i σ' G' H' → tu { D with nx := fun σ2 H2 => ∃ G2, Ex G2 H2 ∧ Pv (i + 1) σ2 G2 H2, ct := fun σ2 H2 => ∃ G2, Ex G2 H2 ∧ Pv (i + 1) σ2 G2 H2, bk := D.nx } (σ'.set j (some (.int (i : Int)))) H')
    (hd : ∀ σ' G' H', Ex G' H' → Pv n.toNat σ' G' H' → D.nx σ' H') : tFor (iRng1 ta) (gName j) tu D σ H := q_forR1 (D := D) (tz := fun D σ H => D.nx σ H) h e hn Pv h0 hs hd
end
end Sk
namespace Sk
open PySem PySem.Spec PyProof.Rows L2
section
variable {K : PySem.W.Frag} {σ : L2.St} {G H : Hp} {D : Ends} {tu tz : TS} {ta te : TE}
/-- xs.extend(ys), ys data of which something is known -/
theorem q_extM {l : Addr} {ds : List PyData} {P : List PyData → Prop} (hl : ML G H l ds) (e : Ex G H) (ha : Ev ta σ G H (mV (.ref l))) (h : Ev te σ G H ⟨fun G v => ∃ es, P es ∧ Dt G v (.list es), fun e ⟨es, a, b⟩ => ⟨es, a, b.mono e⟩⟩) (hz : ∀ es, P es → ds.length + es.length ≤ 100000)
    (k : ∀ es G1 H1, P es → GrowB l G H G1 H1 → ML G1 H1 l (ds ++ es) → tz D σ H1) :
    tSeq (tDrop (tBM K "list" rExtend ta (tCons te tNil))) tz D σ H := ha G H (Grow.refl e) _ fun v G1 H1 g1 hv => by
  obtain rfl := hv
  have m1 := hl.grow g1
  obtain ⟨n1, xs, x1, x2⟩ := m1
  refine ⟨.inl ⟨rfl, xs, SqL.of x1⟩, h G1 H1 g1 _ fun u G2 H2 g2 ⟨es, pe, hu⟩ => ?_⟩
  have g12 := g1.trans g2
  obtain ⟨n2, ys, y1, y2⟩ := hl.grow g12
  obtain ⟨p, zs, rfl, p1, p2⟩ := Dt.lst_inv hu
  exact ⟨l, p, ys, zs, rfl, rfl, y1, g2.gh _ _ p1, by rw [y2.length, p2.length]; exact line_of (hz es pe), k es G2 _ pe (.of g12 n2) ⟨n2, _, upd_same, y2.append p2⟩⟩
theorem s_extM {l : Addr} {ds : List PyData} {P : List PyData → Prop} (hl : ML G H l ds) (e : Ex G H) (ha : Ev ta σ G H (mV (.ref l))) (h : Ev te σ G H ⟨fun G v => ∃ es, P es ∧ Dt G v (.list es), fun e ⟨es, a, b⟩ => ⟨es, a, b.mono e⟩⟩) (hz : ∀ es, P es → ds.length + es.length ≤ 100000)
    (k : ∀ es G1 H1, P es → GrowB l G H G1 H1 → ML G1 H1 l (ds ++ es) → D.nx σ H1) :
    tDrop (tBM K "list" rExtend ta (tCons te tNil)) D σ H := q_extM (D := D) (tz := fun D σ H => D.nx σ H) hl e ha h hz k
/-- xs.append(e), e data of which something is known -/
theorem q_appM {l : Addr} {ds : List PyData} {P : PyData → Prop} (hl : ML G H l ds) (e : Ex G H) (ha : Ev ta σ G H (mV (.ref l))) (h : Ev te σ G H (mDs P)) (hz : ds.length ≤ 100000) (k : ∀ d G1 H1, P d → GrowB l G H G1 H1 → ML G1 H1 l (ds ++ [d]) → tz D σ H1) :
    tSeq (tDrop (tBM K "list" rAppend ta (tCons te tNil))) tz D σ H := ha G H (Grow.refl e) _ fun v G1 H1 g1 hv => by
  obtain rfl := hv
  have m1 := hl.grow g1
  obtain ⟨n1, xs, x1, x2⟩ := m1
  refine ⟨.inl ⟨rfl, xs, SqL.of x1⟩, h G1 H1 g1 _ fun u G2 H2 g2 ⟨d, pd, hu⟩ => ?_⟩
  have g12 := g1.trans g2
  obtain ⟨n2, ys, y1, y2⟩ := hl.grow g12
  exact ⟨l, ys, u, rfl, rfl, y1, by rw [y2.length]; exact line_lt hz, k d G2 _ pd (.of g12 n2) ⟨n2, _, upd_same, y2.snoc hu⟩⟩
theorem s_appM {l : Addr} {ds : List PyData} {P : PyData → Prop} (hl : ML G H l ds) (e : Ex G H) (ha : Ev ta σ G H (mV (.ref l))) (h : Ev te σ G H (mDs P)) (hz : ds.length ≤ 100000) (k : ∀ d G1 H1, P d → GrowB l G H G1 H1 → ML G1 H1 l (ds ++ [d]) → D.nx σ H1) :
    tDrop (tBM K "list" rAppend ta (tCons te tNil)) D σ H := q_appM (D := D) (tz := fun D σ H => D.nx σ H) hl e ha h hz k
end
end Sk
/-! SkG -/
/-! Comprehensions; instances and their methods; min, remove, <, displays. -/
namespace Sk
open PySem PySem.Spec PyProof.Rows L2

/-! ### comprehensions -/
section
variable {K : PySem.W.Frag} {σ : L2.St} {G H : Hp} {tl te : TE} {tt : TT} {g : TG} {vs : List Nat} {ta : TA}
theorem et_yes {σ : L2.St} {G H : Hp} : ET tYes σ G H true := fun G1 H1 g Q k => k G1 H1 (Grow.refl g.gh)
/-- a turn's body -/
def LcB (K : PySem.W.Frag) (tt : TT) (te : TE) (σ2 : L2.St) (G' H' : Hp) (P : List PyData → Prop) (P' : List PyData → Prop) : Prop :=
  ∃ b, ET tt σ2 G' H' b ∧ (b = true → ∃ R : PyData → Prop, Ev te σ2 G' H' (mDs R) ∧ ∀ acc e, P acc → R e → P' (acc ++ [e])) ∧ (b = false → ∀ acc, P acc → P' acc)
theorem lc_turn {D : Addr} {G1 H1 : Hp} {σ2 : L2.St} {G' H' : Hp} {P P' : List PyData → Prop} {acc : List PyData} (g : Grow G1 H1 G' H') (hD : H1 D = none) (ml : ML G' H' D acc) (hl : acc.length ≤ 90000) (p : P acc) (b : LcB K tt te σ2 G' H' P P') :
    tt σ2 H' fun b H3 => if b = true then te σ2 H3 fun y H4 => ∃ acc, H4 D = some (.lst acc) ∧ acc.length < sizeLine ∧ (∃ G2 es, Grow G1 H1 G2 (upd H4 D (.lst (acc ++ [y]))) ∧ ML G2 (upd H4 D (.lst (acc ++ [y]))) D es ∧ P' es) else ∃ G2 es, Grow G1 H1 G2 H3 ∧ ML G2 H3 D es ∧ P' es := by
  obtain ⟨c, ht, hy, hn⟩ := b
  refine ht G' H' (Grow.refl g.gh) _ fun G2 H2 g2 => ?_
  cases c with
  | false =>
    rw [if_neg Bool.false_ne_true]
    exact ⟨G2, acc, g.trans g2, ml.grow g2, hn rfl acc p⟩
  | true =>
    rw [if_pos rfl]
    obtain ⟨R, he, hs⟩ := hy rfl
    refine he G2 H2 g2 _ fun v G3 H3 g3 ⟨d, rd, hv⟩ => ?_
    obtain ⟨n3, xs, x1, x2⟩ := ml.grow (g2.trans g3)
    refine ⟨xs, x1, by rw [x2.length]; exact line_lt (by omega), G3, acc ++ [d], ((g.trans g2).trans g3).mut hD n3, ⟨n3, _, upd_same, x2.snoc hv⟩, hs acc d p rd⟩
theorem ev_lcM {P0 : List PyData → Prop} (h : Ev tl σ G H (mDs fun x => ∃ ds, x = .list ds ∧ P0 ds)) (P : List PyData → Nat → List PyData → Prop) (h0 : ∀ ds, P0 ds → P ds 0 []) (hl : ∀ ds i acc, P0 ds → P ds i acc → acc.length ≤ 90000)
    (hg : ∀ ds i d x G' H' Q, P0 ds → ds[i]? = some d → Grow G H G' H' → Dt G' x d → (∀ σ2, wipe σ2 vs = wipe σ vs → LcB K tt te σ2 G' H' (P ds i) (P ds (i + 1)) → Q σ2 H') → g x (wipe σ vs) H' Q) :
    Ev (tLc (iList K tl) g tt te vs) σ G H (mDs fun x => ∃ ds es, x = .list es ∧ P0 ds ∧ P ds ds.length es) := fun G1 H1 g1 Q k => h G1 H1 g1 _ fun v G2 H2 g2 ⟨d, ⟨ds, ed, p0⟩, hv⟩ => by
  subst ed
  obtain ⟨a, xs, rfl, c1, c2⟩ := Dt.lst_inv hv
  refine ⟨a, rfl, ⟨xs, SqL.of (g2.gh _ _ c1)⟩, fun D hD => lc_list (K := K) (a := a) (xs := xs) (D := D) (Qd := fun H' => Q (.ref D) H') (fun i H' => ∃ G' es, Grow G2 H2 G' H' ∧ ML G' H' D es ∧ P ds i es) ?_ ?_ ?_ ?_⟩
  · exact ⟨G2, [], (Grow.refl g2.gh).mut hD (g2.gh.non hD), ML.new (g2.gh.non hD), h0 ds p0⟩
  · rintro i H' _ ⟨G', es, g', _, _⟩
    exact SqL.of (g'.gh _ _ (g'.gg _ _ c1))
  · rintro i x H' hi ⟨G', es, g', ml, p⟩
    obtain ⟨d, d1, d2⟩ := c2.get hi
    refine hg ds i d x G' H' _ p0 d1 ((g1.trans g2).trans g') (d2.mono g'.gg) fun σ2 hw b => ⟨hw, ?_⟩
    exact lc_turn (K := K) g' hD ml (hl ds i es p0 p) p b
  · rintro H' ⟨G', es, g', ml, p⟩
    obtain ⟨G3, g3, d3⟩ := ml.ret g' hD
    rw [c2.length] at p
    exact k _ _ _ (g2.trans g3) ⟨_, ⟨ds, es, rfl, p0, p⟩, d3⟩
theorem ev_lcD {ds : List PyData} (h : Ev tl σ G H (mD (.list ds))) (P : Nat → List PyData → Prop) (h0 : P 0 []) (hl : ∀ i acc, P i acc → acc.length ≤ 90000)
    (hg : ∀ i d x G' H' Q, ds[i]? = some d → Grow G H G' H' → Dt G' x d → (∀ σ2, wipe σ2 vs = wipe σ vs → LcB K tt te σ2 G' H' (P i) (P (i + 1)) → Q σ2 H') → g x (wipe σ vs) H' Q) :
    Ev (tLc (iList K tl) g tt te vs) σ G H (mDs fun x => ∃ es, x = .list es ∧ P ds.length es) :=
  Ev.imp (ev_lcM (P0 := fun x => x = ds) (Ev.imp h fun G v hv => ⟨_, ⟨ds, rfl, rfl⟩, hv⟩) (fun _ i acc => P i acc) (fun _ _ => h0) (fun _ i acc _ => hl i acc) fun ds' i d x G' H' Q e hi => by subst e; exact hg i d x G' H' Q hi) fun G v ⟨d, ⟨ds', es, e1, e2, p⟩, hv⟩ => by
    subst e2
    exact ⟨d, ⟨es, e1, p⟩, hv⟩
/-- over range(n) -/
theorem ev_lcR {n : Int} (h : EvD ta σ G H [.int n]) (hn : 0 ≤ n ∧ n ≤ 80000) (P : Nat → List PyData → Prop) (h0 : P 0 []) (hl : ∀ i acc, P i acc → acc.length ≤ 90000)
    (hg : ∀ (i : Nat) G' H' Q, (i : Int) < n → Grow G H G' H' → (∀ σ2, wipe σ2 vs = wipe σ vs → LcB K tt te σ2 G' H' (P i) (P (i + 1)) → Q σ2 H') → g (.int (i : Int)) (wipe σ vs) H' Q) :
    Ev (tLc (iRng1 ta) g tt te vs) σ G H (mDs fun x => ∃ es, x = .list es ∧ P n.toNat es) := fun G1 H1 g1 Q k => h G1 H1 g1 _ fun us G2 H2 g2 hv => by
  obtain ⟨v1, r, rfl, q1, hv⟩ := hv.cons_inv
  obtain rfl := hv.nil_inv
  refine ⟨n, by rw [Dt.int_iff.mp q1], by omega, by omega, fun D hD => lc_range (lo := 0) (n := n.toNat) (D := D) (Qd := fun H' => Q (.ref D) H') (fun i H' => ∃ G' es, Grow G2 H2 G' H' ∧ ML G' H' D es ∧ P i es) ?_ ?_ ?_⟩
  · exact ⟨G2, [], (Grow.refl g2.gh).mut hD (g2.gh.non hD), ML.new (g2.gh.non hD), h0⟩
  · rintro i H' hi ⟨G', es, g', ml, p⟩
    have : (0 : Int) + (i : Int) = (i : Int) := by omega
    rw [this]
    refine hg i G' H' _ (by omega) ((g1.trans g2).trans g') fun σ2 hw b => ⟨hw, ?_⟩
    exact lc_turn (K := K) g' hD ml (hl i es p) p b
  · rintro H' ⟨G', es, g', ml, p⟩
    obtain ⟨G3, g3, d3⟩ := ml.ret g' hD
    exact k _ _ _ (g2.trans g3) ⟨_, ⟨es, rfl, p⟩, d3⟩
end
end Sk
namespace Sk
open PySem PySem.Spec PyProof.Rows L2
/-! ### min, remove, < -/
def rMinD (K : PySem.W.Frag) : List V → Hp → VK → Prop := fun vs H Q => ∃ (a : Addr) (xs : List V) (ds : List PyData), vs = [.ref a] ∧ H a = some (.lst xs) ∧ DpAll K H xs ds ∧ PySem.W.AllAlike ds ∧ (∀ d ∈ ds, d ≠ .none ∧ Flat3 d) ∧ ds ≠ [] ∧ ∀ (i : Nat) (v : V), xs[i]? = some v → Q v H
def rRemD (K : PySem.W.Frag) : V → List V → Hp → VK → Prop := fun x vs H Q => ∃ (l : Addr) (xs : List V) (ds : List PyData) (y : V) (d : PyData) (j : Nat), x = .ref l ∧ vs = [y] ∧ H l = some (.lst xs) ∧ DpAll K H xs ds ∧ Dp K H y d ∧ PyData.plainAll ds = true ∧ d.plain = true ∧ Flat3 d ∧
  SeqAt.dataPlace ds d = some j ∧ Q .non (upd H l (.lst (xs.eraseIdx j)))
def rLtD (K : PySem.W.Frag) : R2 := fun x y H Q => ∃ d e, Dp K H x d ∧ Dp K H y e ∧ PySem.W.alike d e = true ∧ d ≠ .none ∧ Flat3 d ∧ Q (.bl (PySem.W.dataLt d e)) H
theorem depthAll_le {n : Nat} : ∀ {ds : List PyData}, (∀ d ∈ ds, d.depth ≤ n) → PyData.depthAll ds ≤ n
  | [], _ => Nat.zero_le _
  | d :: ds, h => by
    have h1 := h d List.mem_cons_self
    have h2 := depthAll_le fun e he => h e (List.mem_cons_of_mem _ he)
    unfold PyData.depthAll
    omega
section
variable {X : Cx}
theorem cr_minD (hc : X.calm = true) (hu : X.A.units + 64 < cLine) : CallR X (.builtin "min") (rMinD X.K) := by
  intro pins s σ H vs us Q I r h
  obtain ⟨a, xs, ds, rfl, ha, hd, hal, hn, hne, q⟩ := h
  obtain ⟨its, rv, hl, hz⟩ := I.list (SqL.of ha)
  rw [Vals.ref1 r]
  obtain ⟨as, hr⟩ := Dp.readsAll I ds xs its hd rv
  cases ds with
  | nil => exact absurd rfl hne
  | cons d0 dr =>
    have hdep : PyData.depthAll (d0 :: dr) ≤ 30 := depthAll_le fun d hd' => (hn d hd').2
    refine PySem.W.min_list_data (A := X.A) (x := d0) (xs := dr) (I.ok.hd hc) hl.isList (by simpa using hr) ⟨fun x hx y hy => hal x hx y hy, fun x hx => (hn x hx).1⟩ (by omega) fun i v h' tk bs hv _ hk => ?_
    have hv' : its[i]? = some v := by simpa using hv
    have hi : i < xs.length := by
      rw [rv.length]
      exact (List.getElem?_eq_some_iff.mp hv').1
    obtain ⟨u, u1, u2⟩ := rv.get (List.getElem?_eq_getElem hi)
    rw [hv'] at u1
    cases u1
    exact ⟨xs[i], H, I.kept hk, u2, q i _ (List.getElem?_eq_getElem hi)⟩
theorem mt_removeD (hu : X.A.units + 64 < cLine) : MtR X "list.remove" (rRemD X.K) := by
  intro pins s σ H x vs v us Q I rx rv h
  obtain ⟨l, xs, ds, y, d, j, rfl, rfl, ha, hd, hy, p1, p2, p3, hp, q⟩ := h
  cases rx
  obtain ⟨u, rfl, ry⟩ := vals1 rv
  obtain ⟨hz, its, n, r, e⟩ := I.hok l _ ha
  obtain ⟨as, hr⟩ := Dp.readsAll I ds xs its hd r
  obtain ⟨bs, hr2⟩ := Dp.reads I d y u hy ry
  have hlen : xs.length = its.length := r.length
  have hm : min (PyData.depthAll ds) d.depth ≤ 30 := Nat.le_trans (Nat.min_le_right _ _) p3
  refine SeqAt.remove_list_data (A := X.A) (vs := its.toArray) ⟨_, e, rfl, n, rfl⟩ (by simpa using hr) hr2 p1 p2 (by omega) hp (by rw [List.size_toArray, ← hlen]; exact hz) ?_
  refine ⟨.non, _, I.lset (its' := its.eraseIdx j) (t' := s.toks) ha e ?_ (r.eraseIdx j) (Nat.le_trans (len_erase _ _) hz), rfl, q⟩
  show its.toArray.eraseIdxIfInBounds j = (its.eraseIdx j).toArray
  rw [List.eraseIdxIfInBounds_toArray]
theorem op_ltD (hu : X.A.units + 64 < cLine) : OpR X (compareOp .Lt) (rLtD X.K) := by
  intro pins s σ H x y v u Q I rx ry h
  obtain ⟨d, e, h1, h2, ha, hn, hf, q⟩ := h
  obtain ⟨as, r1⟩ := Dp.reads I d x v h1 rx
  obtain ⟨bs, r2⟩ := Dp.reads I e y u h2 ry
  have hm : min d.depth e.depth ≤ 30 := Nat.le_trans (Nat.min_le_left _ _) hf
  exact PySem.W.lt_data (A := X.A) r1 r2 ha hn (by omega) ⟨.bl _, H, I, rfl, q⟩
end
/-! ### {k: v}, k a tuple -/
def tDisp1T (tk tv : TE) : TE := fun σ H Q => ∀ p, H p = none → tPairs [(tk, tv)] σ (upd H p (.dT [])) fun ps H2 => H2 p = some (.dT []) ∧ ∃ (ks : List Key) (b : Addr) (y : V), ps = [(.ref b, y)] ∧ H2 b = some (.tup (ks.map kV)) ∧ Q (.ref p) (upd H2 p (.dT [(ks, y)]))
section
open PySem
variable {prog : Program} {w : World} {A : Around} {E : Value → Shared → Prop} {κ : Type} [DecidableEq κ] {knd : HeapKind prog w κ}
theorem wpAny_Dict_H {env : Env} {keys : List (Option Expr)} {values : List Expr} {pos : Pos} {s : Shared} {pairs : List (Sem Value × Sem Value)} {Q : Value → Shared → Prop} (hu : knd.room A)
    (hshape : (evalEachOpt keys env).zip ((evalEach values env).map fun v => do let x ← v; standAt pos; pure x) = pairs.map fun p => (some p.1, p.2)) (h0 : pairs ≠ []) (hlen : pairs.length ≤ 15)
    (h : wpAny (model prog w) A (evalPairs pairs) (fun vs s₁ => ∃ ps, CarriesH knd s₁.heap vs ps ∧ s₁.heap.DictOfH knd s.heap.objs.size [] ∧
      ∀ h' tk, h'.DictOfH knd s.heap.objs.size (storedAllH [] ps) → Heap.SameBut s.heap.objs.size s₁.heap h' → Q (.ref s.heap.objs.size) { s₁ with heap := h', toks := tk }) E
      { s with heap := s.heap.push { cls := .type "dict", data := .dict #[] } }) :
    wpAny (model prog w) A (eval (.Dict keys values pos) env) Q E s := by
  rw [arm_eval_Dict, hshape, dictDisplay_pairs pairs h0 (by omega)]
  exact wpAny_bind (wpAny_standAt (wpAny_bind (wpAny_subDictH (knd := knd) (Q := fun d s' => wpAny (model prog w) A (pure (Value.ref d)) Q E s') hu hlen
    (wpAny_mono h (fun vs s₁ h₁ => by obtain ⟨ps, hc, hm, hq⟩ := h₁; exact ⟨ps, hc, hm, fun h' tk a b => wpAny_pure (hq h' tk a b)⟩) fun _ _ e => e))))
end
theorem vv1 {p : V × V} {ws : List (Value × Value)} (r : VV [p] ws) : ∃ q, ws = [q] ∧ RelV p.1 q.1 ∧ RelV p.2 q.2 := by
  cases r with
  | cons h t =>
    cases t
    exact ⟨_, rfl, h.1, h.2⟩
theorem dt_write1 {X : Cx} {pins : List (Addr × Obj)} {σ : L2.St} {H : Hp} {s : Shared} {a b : Addr} {ks : List Key} {y : V} {vv : Value} {h' : Heap} {tk : Nat} (I : Inv X pins σ H s) (e : H a = some (.dT [])) (hd : (a == sysModules) = false) (eb : H b = some (.tup (ks.map kV))) (rb : RelV y vv)
    (dd' : h'.DictOfH (tupleKind (mixKind X.prog X.w)) a [(ks, b, vv)]) (hs : Heap.SameBut a s.heap h') : Inv X pins σ (upd H a (.dT [(ks, y)])) { s with heap := h', toks := tk } := by
  obtain ⟨q', es, ep, hq, h2, h3, h4, h5, h6⟩ := dd'
  refine d_write I (by rw [e]; exact True.intro) hs ⟨q', hq⟩ ?_
  have hb : (upd H a (.dT [(ks, y)])) b = some (.tup (ks.map kV)) := by
    rw [upd_ne (ne_of eb e (fun z => nomatch z))]
    exact eb
  have h1 : ([(ks, y)] : List (List Key × V)).length ≤ sizeLine := Nat.le_trans (Nat.le_of_ble_eq_true rfl : 1 ≤ 100000) (line_of (Nat.le_refl _))
  exact ⟨h1, hd, [(ks, b, vv)], .cons ⟨rfl, hb, rb⟩ .nil, q', es, ep, hq, h2, h3, h4, h6⟩
theorem pe_disp1T {X : Cx} {pos : Pos} {k v : Expr} {tk tv : TE} (hu : X.A.units + 64 < cLine) (hk : PE X k tk) (hv : PE X v tv) : PE X (.Dict [some k] [v] pos) (tDisp1T tk tv) := by
  refine ⟨fun pins s σ H Q I q => ?_⟩
  have hn := I.hok.fresh (Nat.le_refl s.heap.objs.size)
  have I1 := I.laid (a := s.heap.objs.size) (o := .dT []) (h' := s.heap.push { cls := .type "dict", data := .dict #[] }) (t' := s.toks) (fun _ _ q => Heap.get?_push_of_some _ q) (Nat.le_refl _) (dt_empty s.heap I.big)
  have hl1 : (pairTrees [some k] [v] X.env pos).length = 1 := pairTrees_length [some k] [v] X.env pos rfl rfl
  refine wpAny_Dict_H (knd := tupleKind (mixKind X.prog X.w)) (by show X.A.units < cLine; omega) (zip_pairTrees [some k] [v] X.env pos rfl rfl) (by intro z; rw [z] at hl1; cases hl1) (by rw [hl1]; decide) ?_
  refine thn ((pps_cons (X := X) (pos := pos) hk hv pps_nil).run pins _ σ _ _ I1 (q _ hn)) fun ws s2 ⟨ps, H2, I2, rel, e, ks, b, y, ep, eb, q2⟩ => ?_
  subst ep
  obtain ⟨w1, ew, ra, rb⟩ := vv1 rel
  subst ew
  obtain ⟨kv, vv⟩ := w1
  cases (show kv = Value.ref b from ra)
  obtain ⟨z, hd, xs0, r0, dd⟩ := dt_of I2.hok e
  cases r0
  refine ⟨[(ks, b, vv)], ⟨rfl, rfl, key_of I2.hok eb, trivial⟩, dd, fun h' tk dd' hs => ⟨.ref s.heap.objs.size, _, ?_, rfl, q2⟩⟩
  exact dt_write1 I2 e hd eb rb dd' hs
/-! ### Ev: these -/
section
variable {K : PySem.W.Frag} {σ : L2.St} {G H : Hp} {ta tb te tx : TE}
theorem ev_disp1T {ks : List Key} {m : MP} (hk : Ev ta σ G H (mD (.tuple (ks.map kD)))) (hv : Ev tb σ G H m) : Ev (tDisp1T ta tb) σ G H (mT [(ks, m)]) := fun G1 H1 g Q k p hp => by
  have g0 : Grow G H G1 (upd H1 p (.dT [])) := g.trans ((Grow.refl g.gh).mut hp (g.gh.non hp))
  have gp : G1 p = none := g.gh.non hp
  refine hk G1 _ g0 _ fun x G2 H2 g2 hx => hv G2 H2 (g0.trans g2) _ fun y G3 H3 g3 hy => ?_
  have g23 := g2.trans g3
  obtain ⟨b, rfl, hb⟩ := tupD (Dt.mono g3.gg hx)
  have h3 : H3 p = some (.dT []) := g23.hh _ _ upd_same
  have n3 : G3 p = none := g23.ap _ _ upd_same nt_dT gp
  refine ⟨h3, ks, b, y, rfl, g3.gh _ _ hb, ?_⟩
  have e : upd (upd H1 p (.dT [])) p (.dT []) = upd H1 p (.dT []) := upd_upd
  have g1 : Grow G1 H1 G3 (upd H3 p (.dT [(ks, y)])) := ⟨g23.gg, g23.gh.mut n3, fun a o ha => by
      have na : a ≠ p := ne_of_none ha hp
      rw [upd_ne na]
      exact g23.hh a o (by rw [upd_ne na]; exact ha), fun a o ha t n => g23.ap a o (by rw [upd_ne (ne_of_none ha hp)]; exact ha) t n⟩
  have g4 : Grow G1 H1 (upd G3 p (.dT [(ks, y)])) (upd H3 p (.dT [(ks, y)])) := g1.put hp n3 upd_same
  exact k _ _ _ g4 ⟨p, _, rfl, upd_same, ⟨rfl, m.mono (Ex.upd1 n3) hy⟩, trivial⟩
theorem ev_minD {ds : List PyData} {a : Addr} (h : Ev ta σ G H (mV (.ref a))) (ml : ML G H a ds) (hal : PySem.W.AllAlike ds) (hn : ∀ d ∈ ds, d ≠ .none ∧ Flat3 d) (hne : ds ≠ []) : Ev (tCB (rMinD K) (tCons ta tNil)) σ G H (mDs fun d => d ∈ ds) := ev_cb (ea_cons h ea_nil) fun vs G1 H1 g hv Q k => by
  match vs, hv with
  | [v], ⟨hv, _⟩ =>
  obtain rfl := hv
  obtain ⟨_, xs, x1, x2⟩ := ml.grow g
  refine ⟨a, xs, ds, rfl, x1, (x2.mono g.gh).dp, hal, hn, hne, fun i v hv => ?_⟩
  obtain ⟨d, d1, d2⟩ := x2.get hv
  exact k v G1 H1 (Grow.refl g.gh) ⟨d, List.mem_of_getElem? d1, d2⟩
theorem rv_ltD {d e : PyData} (ha : PySem.W.alike d e = true) (hn : d ≠ .none) (hf : Flat3 d) : RV (rLtD K) G H (mD d) (mD e) (mD (.bool (PySem.W.dataLt d e))) := rv_now fun x y G1 H1 g hx hy =>
  ⟨_, .bl _, fun Q q => ⟨d, e, (Dt.mono g.gh hx).dp, (Dt.mono g.gh hy).dp, ha, hn, hf, q⟩⟩
theorem DtL.eraseIdx : ∀ {vs : List V} {ds : List PyData} (j : Nat), DtL G vs ds → DtL G (vs.eraseIdx j) (ds.eraseIdx j)
  | _, _, _, .nil => .nil
  | _, _, 0, .cons _ r => r
  | _, _, j + 1, .cons h r => .cons h (DtL.eraseIdx j r)
/-- xs.remove(e) -/
theorem q_rem {D : Ends} {tz : TS} {l : Addr} {ds : List PyData} {d : PyData} {j : Nat} (hl : ML G H l ds) (e : Ex G H) (ha : Ev ta σ G H (mV (.ref l))) (h : Ev te σ G H (mD d)) (p1 : PyData.plainAll ds = true) (p2 : d.plain = true) (p3 : Flat3 d) (hp : SeqAt.dataPlace ds d = some j)
    (k : ∀ G1 H1, GrowB l G H G1 H1 → ML G1 H1 l (ds.eraseIdx j) → tz D σ H1) : tSeq (tDrop (tBM K "list" (rRemD K) ta (tCons te tNil))) tz D σ H := ha G H (Grow.refl e) _ fun v G1 H1 g1 hv => by
  obtain rfl := hv
  obtain ⟨n1, xs, x1, x2⟩ := hl.grow g1
  refine ⟨.inl ⟨rfl, xs, SqL.of x1⟩, h G1 H1 g1 _ fun u G2 H2 g2 hu => ?_⟩
  have g12 := g1.trans g2
  obtain ⟨n2, ys, y1, y2⟩ := hl.grow g12
  exact ⟨l, ys, ds, u, d, j, rfl, rfl, y1, (y2.mono g12.gh).dp, (Dt.mono g2.gh hu).dp, p1, p2, p3, hp, k G2 _ (.of g12 n2) ⟨n2, _, upd_same, y2.eraseIdx j⟩⟩
end
end Sk
/-! SkH -/
/-! Levels: instances without __init__, methods of one of several classes; defaults; dicts with counts. -/
namespace Sk
open PySem PySem.Spec PyProof.Rows L2

structure Mk0 (K : PySem.W.Frag) (C : Addr) : Prop where
  makes : PySem.W.makesIn K C = true
  init : PySem.W.findIn K (.ref C) "__init__" = some (some (.builtin "object.__init__"))
  kp : PySem.W.keepIn K (.ref C) = true
  top : PySem.W.mroIn K C (.type "object") = some true
section
variable {X : Cx} {C : Addr}
theorem run_make0 {pins : List (Addr × Obj)} {σ : L2.St} {H : Hp} {s : Shared} {Q : VK} (M : Mk0 X.K C) (I : Inv X pins σ H s) (h : ∀ x dx, H x = none → H dx = none → dx ≠ x → Q (.ref x) (upd (upd H dx (.own x)) x (.ins C dx []))) :
    wpAny (model X.prog X.w) X.A (call (.ref C) []) (EP X pins σ Q) X.xe s := by
  have hq := h (s.heap.objs.size + 1) s.heap.objs.size (I.hok.fresh (Nat.le_succ _)) (I.hok.fresh (Nat.le_refl _)) (Nat.ne_of_lt (Nat.lt_succ_self _))
  have I2 := Inv.made (C := C) I
  have ho : ((s.heap.push PySem.W.emptyDict).push (PySem.W.instObj C s.heap.objs.size)).get? (s.heap.objs.size + 1) = some (PySem.W.instObj C s.heap.objs.size) := by
    have := Heap.get?_push_size (s.heap.push PySem.W.emptyDict) (o := PySem.W.instObj C s.heap.objs.size) rfl
    rwa [Heap.size_push] at this
  refine wpAny_call (make_map0 I.kIn M.makes M.init (fun self => PySem.W.Looks.of_pure (PySem.W.oi_bind self)) ?_)
  have t2 : PySem.W.Looks (model X.prog X.w) ((s.heap.push PySem.W.emptyDict).push (PySem.W.instObj C s.heap.objs.size)) (isInstance (.ref (s.heap.objs.size + 1)) (.type "object")) true := (NwA.type_at ho rfl).andThen (PySem.W.looks_mroIn I2.kIn M.top)
  refine codeAny_call_builtin PySem.W.oi_plain PySem.W.entry_oi (@PySem.W.check_slot (model X.prog X.w) _ _ _ "object.__init__" "object" "__init__" (.ref (s.heap.objs.size + 1)) [] [] _ PySem.W.oi_kind PySem.W.oi_split t2 (NwA.oi_args_any _ [] []) ?_)
  rw [PySem.W.oi_run]
  exact wpAny_pure ⟨rfl, ⟨.ref (s.heap.objs.size + 1), _, I2, rfl, hq⟩⟩
def tNew0 (C : Addr) : TE := fun σ H Q => ∀ x dx, H x = none → H dx = none → dx ≠ x → Q (.ref x) (upd (upd H dx (.own x)) x (.ins C dx []))
theorem pe_new00 {x : Str} {p pos : Pos} (M : Mk0 X.K C) (hg : Gl X x) (hm : X.mg x = some (.ref C)) (hdb : (x == ("__debug__" : Str)) = false := by decide) : PE X (.Call (.Name x p) [] [] pos) (tNew0 C) := by
  refine ⟨fun pins s σ H Q I h => ?_⟩
  refine wpAny_Call_Name_kw (ld_glob I hg hm ?_ hdb)
  exact PySem.W.callWith_K0 I.kIn M.kp (run_make0 M I h)
end

/-! ### levels -/
def clsW : Lev → Str
  | .loose => "Loose"
  | .kept => "Kept"
  | .make => "Make"
  | .watch => "Watch"
  | .hold => "Hold"
def mLev (CL : Lev → Addr) (lv : Lev) : MP := ⟨fun G x => ∃ a dx, x = .ref a ∧ G a = some (.ins (CL lv) dx []), fun e ⟨a, dx, h1, h2⟩ => ⟨a, dx, h1, e _ _ h2⟩⟩
structure LevK (K : PySem.W.Frag) (mg : Str → Option Value) (CL : Lev → Addr) : Prop where
  cls : ∀ lv, Cls K (CL lv)
  new : ∀ lv, Mk0 K (CL lv)
  glob : ∀ lv, mg (clsW lv) = some (.ref (CL lv))
structure OwnM (P : Program) (w : World) (K : PySem.W.Frag) (mg : Str → Option Value) (base : Heap) (CL : Lev → Addr) (m : Str) (k : Nat) (sp : Lev → Sp) : Prop where
  ex : ∀ lv, ∃ (f : Addr) (fd : FuncData) (ps : List Str), Meth K (CL lv) m f ∧ Binds K fd ps [] ∧ FnOk P w K mg base CX0 k f fd ps (sp lv)
def tLM (CL : Lev → Addr) (m : Str) (sp : Lev → Sp) (ta : TE) (t : TA) : TE := fun σ H Q => ta σ H fun x H1 => ∃ lv a dx, x = .ref a ∧ H1 a = some (.ins (CL lv) dx []) ∧ t σ H1 fun vs H2 => sp lv (x :: vs) H2 Q E0
section
variable {X : Cx} {CL : Lev → Addr} {m : Str} {k : Nat} {sp : Lev → Sp} {o e : Expr} {es : List Expr} {apos pos : Pos} {ta : TE} {t : TA} {pl : Sem Bool}
theorem pe_lm (O : OwnM X.prog X.w X.K X.mg X.base CL m k sp) (L : LevK X.K X.mg CL) (hr : Room k X.A) (he : PE X o ta) (ha : PA X (e :: es) t)
    (hst : starEach (e :: es) X.env = (false, eval e X.env) :: starEach es X.env := by rfl) (hpl : (backTo pos (starEach es X.env)).any (·.1) = false := by rfl)
    (ht : eval (.Call (.Attribute o m apos) (e :: es) [] pos) X.env = (do
      let ov ← eval o X.env
      standAt apos.atName
      let (f, first) ← holding [ov] (getMethod ov m pl)
      callWith pos f first (backTo pos (starEach (e :: es) X.env)) (backToKw pos (keywordEach [] X.env))) := by rfl) :
    PE X (.Call (.Attribute o m apos) (e :: es) [] pos) (tLM CL m sp ta t) := by
  refine ⟨fun pins s σ H Q I h => ?_⟩
  refine PySem.W.methodCall_KW (pl := pl) (thn (he.run pins s σ H _ I h) fun u s1 ⟨x, H1, I1, rx, lv, a, dx, ex, ea, q⟩ => ?_) ht
  subst ex
  obtain rfl : u = Value.ref a := rx
  obtain ⟨f, fd, ps, hm, hb, F⟩ := O.ex lv
  refine getmeth_ok I1 ea (L.cls lv) hm rfl ?_
  refine PySem.W.callWith_K (first := [.ref a]) (h₀ := X.base) I.ok.mod.kin hm.kp (thn (ha.run pos pins s1 σ H1 _ I1 q) fun us s2 ⟨vs, H2, I2, r, q2⟩ => ⟨I2.kIn, ?_⟩) hst hpl
  exact run_fn (us := .ref a :: us) (vs := .ref a :: vs) (dvs := []) F hr hb .nil pass0 I2 (.cons rfl r) (by rw [List.append_nil]; exact q2)
theorem pe_lm0 (O : OwnM X.prog X.w X.K X.mg X.base CL m k sp) (L : LevK X.K X.mg CL) (hr : Room k X.A) (he : PE X o ta)
    (ht : eval (.Call (.Attribute o m apos) [] [] pos) X.env = (do
      let ov ← eval o X.env
      standAt apos.atName
      let (f, first) ← holding [ov] (getMethod ov m pl)
      callWith pos f first (backTo pos (starEach [] X.env)) (backToKw pos (keywordEach [] X.env))) := by rfl) :
    PE X (.Call (.Attribute o m apos) [] [] pos) (tLM CL m sp ta tNil) := by
  refine ⟨fun pins s σ H Q I h => ?_⟩
  refine PySem.W.methodCall_KW (pl := pl) (thn (he.run pins s σ H _ I h) fun u s1 ⟨x, H1, I1, rx, lv, a, dx, ex, ea, q⟩ => ?_) ht
  subst ex
  obtain rfl : u = Value.ref a := rx
  obtain ⟨f, fd, ps, hm, hb, F⟩ := O.ex lv
  refine getmeth_ok I1 ea (L.cls lv) hm rfl ?_
  exact PySem.W.callWith_K0 (first := [.ref a]) I1.kIn hm.kp (run_fn (us := [.ref a]) (vs := [.ref a]) (dvs := []) F hr hb .nil pass0 I1 (.cons rfl .nil) (by rw [List.append_nil]; exact q))
end
section
variable {K : PySem.W.Frag} {σ : L2.St} {G H : Hp} {CL : Lev → Addr} {ta te : TE} {t : TA} {m : Str}
theorem ev_lm {α : Type} {lv : Lev} {args : Lev → α → List MP} {ms : List MP} {ok : Lev → α → Prop} {res : Lev → α → MP} (x : α) (hx : ok lv x) (ha : args lv x = mAny :: ms) (h : Ev te σ G H (mLev CL lv)) (hs : EvA t σ G H ms) : Ev (tLM CL m (fun lv => mkSp (args lv) (ok lv) (res lv)) te t) σ G H (res lv x) := fun G1 H1 g Q k => h G1 H1 g _ fun v G2 H2 g2 ⟨a, dx, ev, ea⟩ =>
  ⟨lv, a, dx, ev, g2.gh _ _ ea, hs G2 H2 (g.trans g2) _ fun vs G3 H3 g3 hv => ⟨x, G3, hx, g3.gh, by rw [ha]; exact ⟨trivial, hv⟩, fun u G4 H4 g4 hu => k u G4 H4 ((g2.trans g3).trans g4) hu⟩⟩
theorem ev_new0 {lv : Lev} : Ev (tNew0 (CL lv)) σ G H (mLev CL lv) := fun G1 H1 g Q k x dx hx hdx hne => by
  have h1 : (upd H1 dx (.own x)) x = none := by
    rw [upd_ne (Ne.symm hne)]
    exact hx
  have g1 : Grow G1 H1 G1 (upd H1 dx (.own x)) := (Grow.refl g.gh).mut hdx (g.gh.non hdx)
  exact k _ _ _ (g1.trans (Grow.new g1.gh h1)) ⟨x, dx, rfl, upd_same⟩
end
section
variable {P : Program} {w : World} {K : PySem.W.Frag} {mg : Str → Option Value} {base : Heap} {x qual : Str} {st : Stmt} {N ps : List Str} {k : Nat} {α : Type} {args : α → List MP} {ok : α → Prop} {res : α → MP}
abbrev cxM (P : Program) (w : World) (K : PySem.W.Frag) (mg : Str → Option Value) (base : Heap) (N : List Str) (q : Str) (st : Stmt) (f : Addr) (cdv : Value) (A : Around) (outer : List Env) (s : Shared) (H : Hp) (E : XK) : Cx :=
  (cxOf CX0 P w K mg base N q (defScope st) f cdv A outer s H E).nox
theorem ok_mkM {dvs : List V} {f : Addr} {fd : FuncData} (F : FunD K x qual (defArgs st) (defBody st) (defScope st) dvs [] f fd) (S : FnScope N ps (defScope st)) (hl : ∀ y, (args y).length = ps.length)
    (hbody : ∀ (f : Addr) (cdv : Value) (A : Around) (outer : List Env) (s : Shared) (H : Hp) (E : XK) (y : α) (G : Hp) (vs : List V) (Q : VK), Room k (A.deeper (envOfC qual (defScope st) s.heap.objs.size f cdv)) → ok y → Ex G H → AllP G (args y) vs →
      (∀ v G2 H2, Grow G H G2 H2 → (res y).p G2 v → Q v H2) →
      ∃ t, PSs (cxM P w K mg base N qual st f cdv A outer s H E) (defBody st) t ∧ t { nx := fun _ H' => Q .non H', rt := Q } (start N vs) H) :
    FnOk P w K mg base CX0 (k + 1) f fd ps (mkSp args ok res) := by
  refine F.ok S (fun vs H Q E h => ?_) (fun cdv A outer s H vs Q E hr h => ?_)
  · obtain ⟨y, G, _, _, hv, _⟩ := h
    exact hv.length.trans (hl y)
  · obtain ⟨y, G, hok, hGH, hv, hk⟩ := h
    obtain ⟨t, h1, h2⟩ := hbody f cdv A outer s H E y G vs Q hr hok hGH hv hk
    exact ⟨t, h1.nox, h2⟩
end

/-! ### counts in a dict: d[k] += c -/
section
variable {K : PySem.W.Frag} {σ : L2.St} {G H : Hp} {ta tb te : TE} {D : Ends} {tz : TS}
theorem q_augT {a : Addr} {l : List (List Key × MP)} {ks : List Key} {i c : Int} {rd : V → V → Hp → VK → Prop} {f : Int → Int → Int} (hrd : ∀ (i j : Int) (H : Hp) (Q : VK), Q (.int (f i j)) H → rd (.int i) (.int j) H Q) (hl : MT G H a l) (e : Ex G H) (hd : Ev ta σ G H (mV (.ref a))) (hk : Ev tb σ G H (mD (.tuple (ks.map kD)))) (hv : Ev te σ G H (mD (.int c))) (hi : lookM l ks = some (mD (.int i))) (hz : l.length ≤ 100000)
    (k : ∀ G1 H1, GrowB a G H G1 H1 → MT G1 H1 a (putM l ks (mD (.int (f i c)))) → tz D σ H1) : tSeq (sDAug ta tb te rd) tz D σ H := hd G H (Grow.refl e) _ fun x G1 H1 g1 hx => hk G1 H1 g1 _ fun y G2 H2 g2 hy => by
  obtain rfl := hx
  have g12 := g1.trans g2
  obtain ⟨n, kvs, h2, h3⟩ := hl.grow g12
  obtain ⟨z, z1, z2⟩ := h3.look.1 _ hi
  obtain rfl := Dt.int_iff.mp z2
  obtain ⟨b, rfl, hb⟩ := tupD hy
  refine ⟨a, .int i, rfl, by rw [← z1]; exact DGet.t h2 (g2.gh _ _ hb), ?_⟩
  refine hv G2 H2 g12 _ fun w G3 H3 g3 hw => ?_
  obtain rfl := Dt.int_iff.mp hw
  have g13 := g12.trans g3
  obtain ⟨n3, kvs3, h23, h33⟩ := hl.grow g13
  refine hrd i c H3 _ ?_
  exact ⟨_, DPut.t (k := ks) h23 (g3.gh _ _ (g3.gg _ _ hb)) (by rw [h33.length]; exact line_lt hz), k G3 _ (.of g13 n3) ⟨n3, _, upd_same, h33.put (m := mD (.int (f i c))) (.int _)⟩⟩
theorem s_augT {a : Addr} {l : List (List Key × MP)} {ks : List Key} {i c : Int} {rd : V → V → Hp → VK → Prop} {f : Int → Int → Int} (hrd : ∀ (i j : Int) (H : Hp) (Q : VK), Q (.int (f i j)) H → rd (.int i) (.int j) H Q) (hl : MT G H a l) (e : Ex G H) (hd : Ev ta σ G H (mV (.ref a))) (hk : Ev tb σ G H (mD (.tuple (ks.map kD)))) (hv : Ev te σ G H (mD (.int c))) (hi : lookM l ks = some (mD (.int i))) (hz : l.length ≤ 100000)
    (k : ∀ G1 H1, GrowB a G H G1 H1 → MT G1 H1 a (putM l ks (mD (.int (f i c)))) → D.nx σ H1) : sDAug ta tb te rd D σ H := q_augT (D := D) (tz := fun D σ H => D.nx σ H) hrd hl e hd hk hv hi hz k
end

def placeO : Option Nat → PyData
  | none => .none
  | some a => .int (a : Int)
abbrev spM_spots (lv : Lev) : Sp := mkSp (α := Nat) (fun n => [mAny, mD (.int (n : Int))]) (fun n => n ≤ 1000) (fun n => mD (.int (lv.nSpots n : Int)))
abbrev spM_look_spot (lv : Lev) : Sp := mkSp (α := Nat) (fun n => [mAny, mD (.int (n : Int))]) (fun n => n ≤ 1000) (fun n => mD (placeO (lv.lookSpot n)))
abbrev spM_first_spot (lv : Lev) : Sp := mkSp (α := Nat) (fun n => [mAny, mD (.int (n : Int))]) (fun n => n ≤ 1000) (fun n => mD (.int (lv.firstSpot n : Int)))
abbrev spM_unkept (lv : Lev) : Sp := mkSp (α := Unit) (fun _ => [mAny]) (fun _ => True) (fun _ => mD (.bool (decide (lv = .loose))))
structure MetAt (K : PySem.W.Frag) (CL : Lev → Addr) (lv : Lev) (m qual : Str) (st : Stmt) : Prop where
  ex : ∃ (f : Addr) (fd : FuncData), Meth K (CL lv) m f ∧ FunD K m qual (defArgs st) (defBody st) (defScope st) [] [] f fd
section
variable {P : Program} {w : World} {K : PySem.W.Frag} {mg : Str → Option Value} {base : Heap} {x : Str} {st : Stmt} {ps : List Str} {k : Nat} {sp : Sp} {dvs : List V}
theorem own_D (A : DefAt K mg x st [.non]) (hb : ∀ (f : Addr) (fd : FuncData), FunD K x x (defArgs st) (defBody st) (defScope st) [.non] [] f fd → ∃ ds, Vals dvs ds ∧ Binds K fd ps ds) (ok : ∀ (f : Addr) (fd : FuncData), FunD K x x (defArgs st) (defBody st) (defScope st) [.non] [] f fd → FnOk P w K mg base CX0 k f fd ps sp) : Own P w K mg base x k ps dvs sp := by
  obtain ⟨f, fd, hm, F⟩ := A
  obtain ⟨ds, h1, h2⟩ := hb f fd F
  exact ⟨f, fd, ds, hm, F.kp, h1, h2, ok f fd F⟩
end
end Sk
/-! SkI -/
/-! Dicts by nodes; dicts of lists that change; lists and dicts to be changed from displays. -/
namespace Sk
open PySem PySem.Spec PyProof.Rows L2

theorem nk_inj {x y : Node} (h : nk x = nk y) : x = y := by
  obtain ⟨a, b⟩ := x
  obtain ⟨c, d⟩ := y
  injection h with h1 h2
  injection h2 with h2 _
  have h1 := Sum.inl.inj h1
  have h2 := Sum.inl.inj h2
  subst h1 h2
  rfl
theorem look_nk {f : Node → MP} {y : Node} : ∀ {l : List Node}, y ∈ l → lookM (l.map fun x => (nk x, f x)) (nk y) = some (f y)
  | a :: l, h => by
    unfold lookM
    rw [List.map_cons, List.find?_cons]
    by_cases e : a = y
    · rw [decide_eq_true (by rw [e])]
      rw [e]
      rfl
    · rw [decide_eq_false (fun z => e (nk_inj z))]
      have h' : y ∈ l := by
        rcases List.mem_cons.mp h with z | z
        · exact absurd z.symm e
        · exact z
      exact look_nk (l := l) h'
theorem look_nk_none {f : Node → MP} {y : Node} : ∀ {l : List Node}, y ∉ l → lookM (l.map fun x => (nk x, f x)) (nk y) = none
  | [], _ => rfl
  | a :: l, h => by
    unfold lookM
    rw [List.map_cons, List.find?_cons]
    rw [decide_eq_false (fun z => h (by rw [nk_inj z]; exact List.mem_cons_self))]
    exact look_nk_none (l := l) fun z => h (List.mem_cons_of_mem _ z)
theorem look_nk_some {f : Node → MP} {y : Node} (l : List Node) : (lookM (l.map fun x => (nk x, f x)) (nk y)).isSome = decide (y ∈ l) := by
  by_cases h : y ∈ l
  · rw [look_nk h, decide_eq_true h]
    rfl
  · rw [look_nk_none h, decide_eq_false h]
    rfl
theorem keys_nk (f : Node → MP) (l : List Node) : (l.map fun x => (nk x, f x)).map (·.1) = l.map nk := by
  rw [List.map_map]
  rfl
theorem nk_notin {y : Node} {l : List Node} (h : y ∉ l) : nk y ∉ l.map nk := fun z => by
  obtain ⟨x, hx, e⟩ := List.mem_map.mp z
  exact h (by rw [← nk_inj e]; exact hx)
theorem put_nk_new {f : Node → MP} {y : Node} {l : List Node} {m : MP} (h : y ∉ l) : putM (l.map fun x => (nk x, f x)) (nk y) m = (l.map fun x => (nk x, f x)) ++ [(nk y, m)] :=
  putM_new (by rw [keys_nk]; exact nk_notin h)
theorem put_nk {f : Node → MP} {y : Node} {l : List Node} {m : MP} (h : y ∈ l) : putM (l.map fun x => (nk x, f x)) (nk y) m = l.map fun x => (nk x, if x = y then m else f x) := by
  unfold putM
  rw [if_pos, List.map_map]
  · refine List.map_congr_left fun x _ => ?_
    show (if nk x = nk y then (nk x, m) else (nk x, f x)) = _
    by_cases e : x = y
    · rw [if_pos (by rw [e]), if_pos e]
    · rw [if_neg (fun z => e (nk_inj z)), if_neg e]
  · rw [List.any_eq_true]
    exact ⟨(nk y, f y), List.mem_map.mpr ⟨y, h, rfl⟩, decide_eq_true rfl⟩
theorem setAt_same {N A : Type} [DecidableEq N] {f : N → A} {x : N} {v : A} : setAt f x v x = v := if_pos rfl
theorem setAt_ne {N A : Type} [DecidableEq N] {f : N → A} {x y : N} {v : A} (h : y ≠ x) : setAt f x v y = f y := if_neg h
/-- ints by nodes -/
abbrev wL (l : List Node) (w : Node → Int) : List (List Key × MP) := l.map fun x => (nk x, mD (.int (w x)))
theorem put_wL {l : List Node} {w : Node → Int} {y : Node} {v : Int} (h : y ∈ l) : putM (wL l w) (nk y) (mD (.int v)) = wL l (setAt w y v) := by
  rw [put_nk h]
  refine List.map_congr_left fun x _ => ?_
  show (nk x, if x = y then mD (.int v) else mD (.int (w x))) = (nk x, mD (.int (if x = y then v else w x)))
  by_cases e : x = y
  · rw [if_pos e, if_pos e]
  · rw [if_neg e, if_neg e]
theorem put_wL_new {l : List Node} {w : Node → Int} {y : Node} {v : Int} (h : y ∉ l) : putM (wL l w) (nk y) (mD (.int v)) = wL (l ++ [y]) (setAt w y v) := by
  rw [put_nk_new h]
  show _ = List.map _ (l ++ [y])
  rw [List.map_append]
  congr 1
  · refine List.map_congr_left fun x hx => ?_
    show (nk x, mD (.int (w x))) = (nk x, mD (.int (if x = y then v else w x)))
    rw [if_neg (fun e => h (by rw [← e]; exact hx))]
  · show _ = [(nk y, mD (.int (if y = y then v else w y)))]
    rw [if_pos rfl]

/-! ### dicts of lists that change -/
structure MTL (G H : Hp) (a : Addr) (ad : Node → Addr) (l : List Node) (f : Node → List PyData) : Prop where
  non : G a = none
  at_ : H a = some (.dT (l.map fun x => (nk x, V.ref (ad x))))
  ls : ∀ x ∈ l, ML G H (ad x) (f x)
  inj : ∀ x ∈ l, ∀ y ∈ l, ad x = ad y → x = y
section
variable {G H G' H' G0 H0 : Hp} {a p : Addr} {ad : Node → Addr} {l : List Node} {f : Node → List PyData}
theorem MTL.new (h : G p = none) : MTL G (upd H p (.dT [])) p ad [] f := ⟨h, upd_same, fun x hx => (nomatch hx), fun x hx => (nomatch hx)⟩
theorem MTL.grow (h : MTL G H a ad l f) (g : Grow G H G' H') : MTL G' H' a ad l f := ⟨g.ap _ _ h.at_ nt_dT h.non, g.hh _ _ h.at_, fun x hx => (h.ls x hx).grow g, h.inj⟩
theorem MTL.growB (h : MTL G H a ad l f) (n : a ≠ p) (m : ∀ x ∈ l, ad x ≠ p) (g : GrowB p G H G' H') : MTL G' H' a ad l f := ⟨g.ap _ _ h.at_ nt_dT h.non, g.hb _ _ n h.at_, fun x hx => (h.ls x hx).growB (m x hx) g, h.inj⟩
theorem MTL.other {o : HO} (h : MTL G H a ad l f) (n : a ≠ p) (m : ∀ x ∈ l, ad x ≠ p) : MTL G (upd H p o) a ad l f := ⟨h.non, by rw [upd_ne n]; exact h.at_, fun x hx => (h.ls x hx).other (m x hx), h.inj⟩
theorem MTL.ne (h : MTL G H a ad l f) (n : H p = none) : a ≠ p ∧ ∀ x ∈ l, ad x ≠ p := ⟨ne_of_none h.at_ n, fun x hx => (h.ls x hx).ne n⟩
theorem MTL.neA (h : MTL G H a ad l f) {x : Node} (hx : x ∈ l) : a ≠ ad x := fun e => by
  obtain ⟨_, xs, h2, _⟩ := h.ls x hx
  have h1 := h.at_
  rw [e, h2] at h1
  cases h1
theorem kvs_refs (G : Hp) (ad : Node → Addr) : ∀ l : List Node, KVs G (l.map fun x => (nk x, V.ref (ad x))) (l.map fun x => (nk x, mV (.ref (ad x))))
  | [] => trivial
  | x :: l => ⟨⟨rfl, rfl⟩, kvs_refs G ad l⟩
theorem MTL.get (h : MTL G H a ad l f) (G : Hp) (e : Ex G H) : (mT (l.map fun x => (nk x, mV (.ref (ad x))))).p H (.ref a) := ⟨a, _, rfl, h.at_, kvs_refs H ad l⟩
theorem MTL.app {x : Node} {ds : List PyData} (h : MTL G H a ad l f) (hx : x ∈ l) (b : GrowB (ad x) G H G' H') (m : ML G' H' (ad x) ds) : MTL G' H' a ad l (setAt f x ds) := by
  refine ⟨b.ap _ _ h.at_ nt_dT h.non, b.hb _ _ (h.neA hx) h.at_, fun y hy => ?_, h.inj⟩
  by_cases e : y = x
  · subst e
    rw [setAt_same]
    exact m
  · rw [setAt_ne e]
    exact (h.ls y hy).growB (fun z => e (h.inj y hy x hx z)) b
theorem MTL.congr {f' : Node → List PyData} (h : MTL G H a ad l f) (e : ∀ x ∈ l, f' x = f x) : MTL G H a ad l f' := ⟨h.non, h.at_, fun x hx => by rw [e x hx]; exact h.ls x hx, h.inj⟩
theorem seal_lists (h : MTL G H a ad l f) (g : Grow G0 H0 G H) (hs : ∀ x ∈ l, H0 (ad x) = none) : ∀ l' : List Node, (∀ x ∈ l', x ∈ l) → ∃ G2, Grow G0 H0 G2 H ∧ Ex G G2 ∧ (∀ b, (∀ x ∈ l', b ≠ ad x) → G2 b = G b) ∧ ∀ x ∈ l', Dt G2 (.ref (ad x)) (.list (f x))
  | [], _ => ⟨G, g, Ex.refl G, fun _ _ => rfl, fun x hx => (nomatch hx)⟩
  | x :: l', hl => by
    obtain ⟨G1, g1, e1, n1, d1⟩ := seal_lists h g hs l' fun y hy => hl y (List.mem_cons_of_mem _ hy)
    by_cases hx : x ∈ l'
    · exact ⟨G1, g1, e1, fun b hb => n1 b fun y hy => hb y (List.mem_cons_of_mem _ hy), fun y hy => by
        rcases List.mem_cons.mp hy with z | z
        · rw [z]
          exact d1 x hx
        · exact d1 y z⟩
    · have hxl := hl x List.mem_cons_self
      obtain ⟨h1, xs, h2, h3⟩ := h.ls x hxl
      have hn : G1 (ad x) = none := by
        rw [n1 (ad x) fun y hy z => hx (by rw [h.inj x hxl y (hl y (List.mem_cons_of_mem _ hy)) z]; exact hy)]
        exact h1
      refine ⟨upd G1 (ad x) (.lst xs), g1.put (hs x hxl) hn h2, e1.trans (Ex.upd1 hn), fun b hb => ?_, fun y hy => ?_⟩
      · rw [upd_ne (hb x List.mem_cons_self)]
        exact n1 b fun y hy => hb y (List.mem_cons_of_mem _ hy)
      · rcases List.mem_cons.mp hy with z | z
        · rw [z]
          exact .lst upd_same (h3.mono (e1.trans (Ex.upd1 hn)))
        · exact (d1 y z).mono (Ex.upd1 hn)
theorem kvs_lists {G : Hp} : ∀ l : List Node, (∀ x ∈ l, Dt G (.ref (ad x)) (.list (f x))) → KVs G (l.map fun x => (nk x, V.ref (ad x))) (l.map fun x => (nk x, mD (.list (f x))))
  | [], _ => trivial
  | x :: l, h => ⟨⟨rfl, h x List.mem_cons_self⟩, kvs_lists l fun y hy => h y (List.mem_cons_of_mem _ hy)⟩
theorem MTL.seal (h : MTL G H a ad l f) (g : Grow G0 H0 G H) (h0 : H0 a = none) (hs : ∀ x ∈ l, H0 (ad x) = none) :
    ∃ G2, Grow G0 H0 G2 H ∧ Ex G G2 ∧ (∀ b, b ≠ a → (∀ x ∈ l, b ≠ ad x) → G2 b = G b) ∧ (mT (l.map fun x => (nk x, mD (.list (f x))))).p G2 (.ref a) := by
  obtain ⟨G1, g1, e1, n1, d1⟩ := seal_lists h g hs l fun x hx => hx
  have hn : G1 a = none := by
    rw [n1 a fun x hx => h.neA hx]
    exact h.non
  exact ⟨upd G1 a _, g1.put h0 hn h.at_, e1.trans (Ex.upd1 hn), fun b b1 b2 => by rw [upd_ne b1]; exact n1 b b2, a, _, rfl, upd_same, kvs_lists l fun x hx => (d1 x hx).mono (Ex.upd1 hn)⟩
end
section
variable {K : PySem.W.Frag} {σ : L2.St} {G H : Hp} {td tk te tl : TE} {D : Ends} {tz : TS} {a : Addr} {ad : Node → Addr} {l : List Node} {f : Node → List PyData} {y : Node}
theorem Ev.val {te : TE} {v : V} {m : MP} (h : Ev te σ G H (mV v)) (hm : m.p G v) : Ev te σ G H m := fun G1 H1 g Q k => h G1 H1 g Q fun u G2 H2 g2 hu => k u G2 H2 g2 (by
  obtain rfl := hu
  exact m.mono (g.gg.trans g2.gg) hm)
/-- d[y] = [] -/
theorem s_putNewL (hl : MTL G H a ad l f) (e : Ex G H) (hd : Ev td σ G H (mV (.ref a))) (hk : Ev tk σ G H (mD (pD y))) (hy : y ∉ l) (hz : l.length ≤ 100000)
    (k : ∀ p G1 H1, H p = none → GrowB a G H G1 H1 → MTL G1 H1 a (setAt ad y p) (l ++ [y]) (setAt f y []) → D.nx σ H1) : sDPut td tk (tLst tNil) D σ H := by
  refine ⟨Nat.zero_le _, fun p hp => ?_⟩
  have np := e.non hp
  have g0 : Grow G H G (upd H p (.lst [])) := (Grow.refl e).mut hp np
  refine hd G _ g0 _ fun x G1 H1 g1 hx => hk G1 H1 (g0.trans g1) _ fun z G2 H2 g2 hz2 => ?_
  obtain rfl := hx
  have g12 := g1.trans g2
  have gall := g0.trans g12
  obtain ⟨n1, n2⟩ := hl.ne hp
  have h2 := (hl.other (o := .lst []) n1 n2).grow g12
  have m2 := (ML.new (H := H) np).grow g12
  obtain ⟨b, rfl, hb⟩ := tupD (ks := nk y) hz2
  have hv : valV (l.map fun x => (nk x, V.ref (ad x))) (nk y) = none := (kvs_refs G2 ad l).look.2 (look_nk_none hy)
  refine ⟨a, _, rfl, DPut.t (k := nk y) h2.at_ (g2.gh _ _ hb) (by rw [List.length_map]; exact line_lt hz), k p G2 _ hp (.of gall h2.non) ⟨h2.non, ?_, fun x hx => ?_, fun x hx x' hx' ez => ?_⟩⟩
  · rw [upd_same, putK_new _ hv, List.map_append]
    have e1 : (l.map fun x => (nk x, V.ref (ad x))) = l.map fun x => (nk x, V.ref (setAt ad y p x)) := List.map_congr_left fun x hx => by
      rw [setAt_ne (fun e => hy (by rw [← e]; exact hx))]
    have e2 : [(nk y, V.ref p)] = [y].map fun x => (nk x, V.ref (setAt ad y p x)) := by
      rw [List.map_cons, setAt_same]
      rfl
    rw [e1, e2]
  · rcases List.mem_append.mp hx with hx | hx
    · have ne : x ≠ y := fun e => hy (by rw [← e]; exact hx)
      rw [setAt_ne ne, setAt_ne ne]
      exact (h2.ls x hx).other (Ne.symm (h2.neA hx))
    · rw [List.mem_singleton.mp hx, setAt_same, setAt_same]
      refine m2.other fun e => ?_
      obtain ⟨_, xs, q, _⟩ := m2
      have q2 := h2.at_
      rw [← e, q] at q2
      cases q2
  · have hc : ∀ x ∈ l ++ [y], x ≠ y → x ∈ l := fun x hx ne => by
      rcases List.mem_append.mp hx with hx | hx
      · exact hx
      · exact absurd (List.mem_singleton.mp hx) ne
    by_cases e1 : x = y
    · by_cases e2 : x' = y
      · rw [e1, e2]
      · rw [e1, setAt_same, setAt_ne e2] at ez
        exact absurd ez.symm (n2 x' (hc x' hx' e2))
    · by_cases e2 : x' = y
      · rw [e2, setAt_same, setAt_ne e1] at ez
        exact absurd ez (n2 x (hc x hx e1))
      · rw [setAt_ne e1, setAt_ne e2] at ez
        exact hl.inj x (hc x hx e1) x' (hc x' hx' e2) ez
/-- d[y] where the values are lists that change -/
theorem ev_getL (hl : MTL G H a ad l f) (e : Ex G H) (hd : Ev td σ H H (mV (.ref a))) (hk : Ev tk σ H H (mD (pD y))) (hy : y ∈ l) : Ev (tDGet td tk) σ G H (mV (.ref (ad y))) :=
  Ev.now (ev_dgetT (ks := nk y) (l := l.map fun x => (nk x, mV (.ref (ad x)))) (Ev.val hd (hl.get G e)) hk (look_nk hy)) (flat_V _) e
/-- xs = [e], to be changed -/
theorem q_lst1 {i : Nat} {d : PyData} (h : Ev te σ G H (mD d)) (e : Ex G H) (k : ∀ p G1 H1, Grow G H G1 H1 → H p = none → ML G1 H1 p [d] → tz D (σ.set i (some (.ref p))) H1) : tSeq (tAsg (tLst (tCons te tNil)) (gName i)) tz D σ H :=
  h G H (Grow.refl e) _ fun v G1 H1 g1 hv => ⟨line_of (Nat.le_of_ble_eq_true rfl), fun p hp => k p G1 _ (g1.mut (g1.hh.non hp) (g1.gh.non hp)) (g1.hh.non hp) ⟨g1.gh.non hp, [v], upd_same, .cons hv .nil⟩⟩
/-- d = {k: v}, to be changed -/
theorem q_disp1 {i : Nat} {ks : List Key} {m : MP} (hk : Ev tk σ G H (mD (.tuple (ks.map kD)))) (hv : Ev te σ G H m) (e : Ex G H) (k : ∀ p G1 H1, Grow G H G1 H1 → H p = none → MT G1 H1 p [(ks, m)] → tz D (σ.set i (some (.ref p))) H1) : tSeq (tAsg (tDisp1T tk te) (gName i)) tz D σ H := fun p hp => by
  have np := e.non hp
  have g0 : Grow G H G (upd H p (.dT [])) := (Grow.refl e).mut hp np
  refine hk G _ g0 _ fun x G2 H2 g2 hx => hv G2 H2 (g0.trans g2) _ fun y G3 H3 g3 hy => ?_
  have g23 := g2.trans g3
  obtain ⟨b, rfl, hb⟩ := tupD (Dt.mono g3.gg hx)
  have h3 : H3 p = some (.dT []) := g23.hh _ _ upd_same
  have n3 : G3 p = none := g23.ap _ _ upd_same nt_dT np
  refine ⟨h3, ks, b, y, rfl, g3.gh _ _ hb, ?_⟩
  have g1 : Grow G H G3 (upd H3 p (.dT [(ks, y)])) := ⟨g23.gg, g23.gh.mut n3, fun a o ha => by
      have na : a ≠ p := ne_of_none ha hp
      rw [upd_ne na]
      exact g23.hh a o (by rw [upd_ne na]; exact ha), fun a o ha t n => g23.ap a o (by rw [upd_ne (ne_of_none ha hp)]; exact ha) t n⟩
  exact k p _ _ g1 hp ⟨n3, _, upd_same, ⟨rfl, hy⟩, trivial⟩
/-- xs = [.. for ..], to be changed -/
theorem q_lcD {i : Nat} {g : TG} {tt : TT} {vs : List Nat} {ds : List PyData} (h : Ev tl σ G H (mD (.list ds))) (e : Ex G H) (P : Nat → List PyData → Prop) (h0 : P 0 []) (hl : ∀ i acc, P i acc → acc.length ≤ 90000)
    (hg : ∀ i d x G' H' Q, ds[i]? = some d → Grow G H G' H' → Dt G' x d → (∀ σ2, wipe σ2 vs = wipe σ vs → LcB K tt te σ2 G' H' (P i) (P (i + 1)) → Q σ2 H') → g x (wipe σ vs) H' Q)
    (k : ∀ p es G1 H1, Grow G H G1 H1 → H p = none → ML G1 H1 p es → P ds.length es → tz D (σ.set i (some (.ref p))) H1) : tSeq (tAsg (tLc (iList K tl) g tt te vs) (gName i)) tz D σ H := h G H (Grow.refl e) _ fun v G2 H2 g2 hv => by
  obtain ⟨a, xs, rfl, c1, c2⟩ := Dt.lst_inv hv
  refine ⟨a, rfl, ⟨xs, SqL.of (g2.gh _ _ c1)⟩, fun D' hD => lc_list (K := K) (a := a) (xs := xs) (D := D') (Qd := fun H' => gName i (.ref D') σ H' (tz D)) (fun i H' => ∃ G' es, Grow G2 H2 G' H' ∧ ML G' H' D' es ∧ P i es) ?_ ?_ ?_ ?_⟩
  · exact ⟨G2, [], (Grow.refl g2.gh).mut hD (g2.gh.non hD), ML.new (g2.gh.non hD), h0⟩
  · rintro i H' _ ⟨G', es, g', _, _⟩
    exact SqL.of (g'.gh _ _ (g'.gg _ _ c1))
  · rintro i x H' hi ⟨G', es, g', ml, p⟩
    obtain ⟨d, d1, d2⟩ := c2.get hi
    refine hg i d x G' H' _ d1 (g2.trans g') (d2.mono g'.gg) fun σ2 hw b => ⟨hw, ?_⟩
    exact lc_turn (K := K) g' hD ml (hl i es p) p b
  · rintro H' ⟨G', es, g', ml, p⟩
    rw [c2.length] at p
    exact k D' es G' H' (g2.trans g') (g2.hh.non hD) ml p
end
/-! ### remove by data -/
theorem eqv_node (x y : Node) : PyData.eqv (pD x) (pD y) = decide (x = y) := by
  obtain ⟨a, b⟩ := x
  obtain ⟨c, d⟩ := y
  by_cases h1 : a = c
  · by_cases h2 : b = d
    · subst h1 h2
      simp [PyData.eqv, PyData.eqvAll]
    · have : (a, b) ≠ (c, d) := fun z => h2 (Prod.mk.inj z).2
      simp [PyData.eqv, PyData.eqvAll, h2]
  · have : (a, b) ≠ (c, d) := fun z => h1 (Prod.mk.inj z).1
    simp [PyData.eqv, PyData.eqvAll, h1]
theorem place_node {n : Node} : ∀ {l : List Node}, n ∈ l → ∃ j, SeqAt.dataPlace (l.map pD) (pD n) = some j ∧ (l.map pD).eraseIdx j = (l.erase n).map pD
  | a :: l, h => by
    by_cases e : a = n
    · refine ⟨0, ?_, ?_⟩
      · unfold SeqAt.dataPlace
        rw [List.map_cons, List.findIdx?_cons, eqv_node, decide_eq_true e]
        rfl
      · subst e
        simp
    · have h' : n ∈ l := by
        rcases List.mem_cons.mp h with z | z
        · exact absurd z.symm e
        · exact z
      obtain ⟨j, j1, j2⟩ := place_node h'
      refine ⟨j + 1, ?_, ?_⟩
      · unfold SeqAt.dataPlace at j1 ⊢
        rw [List.map_cons, List.findIdx?_cons, eqv_node, decide_eq_false e, j1]
        rfl
      · have eb : (a == n) = false := by simpa using e
        rw [List.map_cons, List.eraseIdx_cons_succ, j2, List.erase_cons, eb]
        rfl
theorem plain_nodes : ∀ l : List Node, PyData.plainAll (l.map pD) = true
  | [] => rfl
  | a :: l => by
    have := plain_nodes l
    simp [PyData.plainAll, PyData.plain] at this ⊢
    exact this
theorem plain_node (x : Node) : (pD x).plain = true := by simp [PyData.plain, PyData.plainAll]
theorem flat_node (x : Node) : Flat3 (pD x) := by
  show PyData.depth (.tuple [.int _, .int _]) ≤ 30
  simp [PyData.depth, PyData.depthAll]
end Sk
/-! SkJ -/
/-! Levels, keeps; pairs of dicts; joins. -/
namespace Sk
open PySem PySem.Spec PyProof.Rows L2
section
variable {K : PySem.W.Frag} {σ : L2.St} {G H : Hp} {CL : Lev → Addr} {ta te tb : TE} {t : TT} {tu tz tw : TS} {D : Ends} {m m1 m2 : MP} {b : Bool}
theorem ev_spots {lv : Lev} {n : Nat} (h : Ev te σ G H (mLev CL lv)) (hn : n ≤ 1000) (ha : Ev ta σ G H (mD (.int (n : Int)))) : Ev (tLM CL "spots" spM_spots te (tCons ta tNil)) σ G H (mD (.int (lv.nSpots n : Int))) :=
  ev_lm (α := Nat) (lv := lv) (args := fun _ n => [mAny, mD (.int (n : Int))]) (ms := [mD (.int (n : Int))]) (ok := fun _ n => n ≤ 1000) (res := fun lv n => mD (.int (lv.nSpots n : Int))) n hn rfl h (ea_cons ha ea_nil)
theorem ev_first_spot {lv : Lev} {n : Nat} (h : Ev te σ G H (mLev CL lv)) (hn : n ≤ 1000) (ha : Ev ta σ G H (mD (.int (n : Int)))) : Ev (tLM CL "first_spot" spM_first_spot te (tCons ta tNil)) σ G H (mD (.int (lv.firstSpot n : Int))) :=
  ev_lm (α := Nat) (lv := lv) (args := fun _ n => [mAny, mD (.int (n : Int))]) (ms := [mD (.int (n : Int))]) (ok := fun _ n => n ≤ 1000) (res := fun lv n => mD (.int (lv.firstSpot n : Int))) n hn rfl h (ea_cons ha ea_nil)
theorem ev_look_spot {lv : Lev} {n : Nat} (h : Ev te σ G H (mLev CL lv)) (hn : n ≤ 1000) (ha : Ev ta σ G H (mD (.int (n : Int)))) : Ev (tLM CL "look_spot" spM_look_spot te (tCons ta tNil)) σ G H (mD (placeO (lv.lookSpot n))) :=
  ev_lm (α := Nat) (lv := lv) (args := fun _ n => [mAny, mD (.int (n : Int))]) (ms := [mD (.int (n : Int))]) (ok := fun _ n => n ≤ 1000) (res := fun lv n => mD (placeO (lv.lookSpot n))) n hn rfl h (ea_cons ha ea_nil)
theorem ev_unkept {lv : Lev} (h : Ev te σ G H (mLev CL lv)) : Ev (tLM CL "unkept" spM_unkept te tNil) σ G H (mD (.bool (decide (lv = .loose)))) :=
  ev_lm (α := Unit) (lv := lv) (args := fun _ _ => [mAny]) (ms := []) (ok := fun _ _ => True) (res := fun lv _ => mD (.bool (decide (lv = .loose)))) () trivial rfl h ea_nil
/-- a branch that leaves the names as they were -/
theorem q_whenJ (h : ET t σ G H b) (e : Ex G H) (h1 : b = true → ∀ G1 H1, Grow G H G1 H1 → ∀ N : L2.St → Hp → Prop, (∀ G2 H2, Grow G1 H1 G2 H2 → N σ H2) → tu { D with nx := N } σ H1) (k : ∀ G1 H1, Grow G H G1 H1 → tz D σ H1) : tSeq (tIfS t tu tNext) tz D σ H :=
  q_when h e (fun hb G1 H1 g1 => h1 hb G1 H1 g1 _ fun G2 H2 g2 => k G2 H2 (g1.trans g2)) fun _ G1 H1 g1 => k G1 H1 g1
theorem s_drop (h : Ev te σ G H m) (e : Ex G H) (k : ∀ v G1 H1, Grow G H G1 H1 → m.p G1 v → D.nx σ H1) : tDrop te D σ H := h G H (Grow.refl e) _ fun v G1 H1 g hv => k v G1 H1 g hv
/-- a pair of what is known -/
def mPair (m1 m2 : MP) : MP := ⟨fun G v => ∃ a x y, v = .ref a ∧ G a = some (.tup [x, y]) ∧ m1.p G x ∧ m2.p G y, fun e ⟨a, x, y, h1, h2, h3, h4⟩ => ⟨a, x, y, h1, e _ _ h2, m1.mono e h3, m2.mono e h4⟩⟩
theorem ev_pair (ha : Ev ta σ G H m1) (hb : Ev tb σ G H m2) : Ev (tTup (tCons ta (tCons tb tNil))) σ G H (mPair m1 m2) := fun G1 H1 g Q k => (ea_cons ha (ea_cons hb ea_nil)) G1 H1 g _ fun vs G2 H2 g2 hv => by
  match vs, hv with
  | [x, y], ⟨h1, h2, _⟩ =>
  refine ⟨line_of (Nat.le_of_ble_eq_true rfl), fun p hp => ?_⟩
  have g3 : Grow G2 H2 (upd G2 p (.tup [x, y])) (upd H2 p (.tup [x, y])) := Grow.new g2.gh hp
  exact k _ _ _ (g2.trans g3) ⟨p, x, y, rfl, upd_same, m1.mono g3.gg h1, m2.mono g3.gg h2⟩
theorem q_2P {i j : Nat} (h : Ev te σ G H (mPair m1 m2)) (e : Ex G H) (k : ∀ v1 v2 G1 H1, Grow G H G1 H1 → m1.p G1 v1 → m2.p G1 v2 → tz D ((σ.set i (some v1)).set j (some v2)) H1) : tSeq (tAsg te (gTup K 2 (gCons (gName i) (gCons (gName j) gNil)))) tz D σ H :=
  h G H (Grow.refl e) _ fun v G1 H1 g1 ⟨a, x, y, ev, h1, h2, h3⟩ => by
    subst ev
    exact ⟨a, _, rfl, SqT.of (g1.gh _ _ h1), rfl, x, _, rfl, y, _, rfl, rfl, k x y G1 H1 g1 h2 h3⟩
/-- a call whose ghost leans on the arguments -/
theorem ev_callE {α : Type} {args : α → List MP} {ok : α → Prop} {res : α → MP} {ta : TA} {E : XK} {ms : List MP} (h : EvA ta σ G H ms) (q : ∀ G vs, AllP G ms vs → ∃ x, ok x ∧ AllP G (args x) vs ∧ ∀ G v, (res x).p G v → m.p G v) : Ev (tCall (mkSp args ok res) [] E ta) σ G H m :=
  fun G1 H1 g Q k => h G1 H1 g _ fun vs G2 H2 g2 hv => by
    rw [List.append_nil]
    obtain ⟨x, hx, hv', hr⟩ := q G2 vs hv
    exact ⟨x, G2, hx, g2.gh, hv', fun v G3 H3 g3 hr' => k v G3 H3 (g2.trans g3) (hr _ _ hr')⟩
theorem ev_pairD {s : Str} {P : PyData → Prop} (ha : Ev ta σ G H (mD (.str s))) (hb : Ev tb σ G H (mDs P)) : Ev (tTup (tCons ta (tCons tb tNil))) σ G H (mDs fun x => ∃ d, x = .tuple [.str s, d] ∧ P d) :=
  Ev.imp (ev_pair ha hb) fun G v ⟨a, x, y, e, h1, h2, d, pd, h3⟩ => ⟨_, ⟨d, rfl, pd⟩, by
    subst e
    exact .tup h1 (.cons h2 (.cons h3 .nil))⟩
theorem MK.over {a : Addr} {l : List (Key × MP)} {G2 : Hp} (h : MK G H a l) (e : Ex G G2) (n : G2 a = none) : MK G2 H a l := by
  obtain ⟨_, kvs, h2, h3⟩ := h
  exact ⟨n, kvs, h2, h3.mono e⟩
theorem ML.over {a : Addr} {l : List PyData} {G2 : Hp} (h : ML G H a l) (e : Ex G G2) (n : G2 a = none) : ML G2 H a l := by
  obtain ⟨_, xs, h2, h3⟩ := h
  exact ⟨n, xs, h2, h3.mono e⟩
end
/-- the levels, keeps, firsts by numbers -/
abbrev levL (CL : Lev → Addr) (h : Hist) (w : Option Lev) : List (Key × MP) := h.deals.map fun d => ((.inl d.num : Key), mLev CL (lvOf w d))
abbrev keepL (h : Hist) (w : Option Lev) : List (Key × MP) := h.deals.map fun d => ((.inl d.num : Key), mD (pD (keepOf w d)))
abbrev firstL (h : Hist) (w : Option Lev) : List (Key × MP) := h.deals.map fun d => ((.inl d.num : Key), mD (pD (firstOf w d)))
end Sk
/-! SkK -/
/-! A dict by nested tuples; sorted(d, key=f) with a def of one's own. -/
namespace Sk
open PySem PySem.Spec PyProof.Rows L2

/-! ### keys -/
mutual
def keyN : PyData → NestedKey
  | .none => .none
  | .int i => .num i
  | .str x => .text x
  | .tuple ds => .tup (keysN ds)
  | _ => .none
def keysN : List PyData → List NestedKey
  | [] => []
  | d :: ds => keyN d :: keysN ds
def isN : PyData → Bool
  | .none => true
  | .int _ => true
  | .str _ => true
  | .tuple ds => isNs ds
  | _ => false
def isNs : List PyData → Bool
  | [] => true
  | d :: ds => isN d && isNs ds
end
mutual
theorem nested_is {P : Program} {w : World} {H : Hp} {h : Heap} (ok : HOk P w H h) : ∀ {v : V} {d : PyData}, Dt H v d → isN d = true → ∀ {u : Value}, RelV v u → NestedIs h (keyN d) u
  | _, _, .non, _, u, r => by
    cases (show u = Value.none from r)
    exact .none
  | _, _, .bl b, hn, u, r => by cases hn
  | _, _, .int i, _, u, r => by
    obtain ⟨t, rfl⟩ := (show ∃ t, u = Value.int i t from r)
    exact .int i t
  | _, _, .str x, _, u, r => by
    obtain ⟨t, rfl⟩ := (show ∃ t, u = Value.str x t from r)
    exact .text x t
  | _, _, .lst _ _, hn, u, r => by cases hn
  | _, _, .tup (a := a) (xs := xs) e q, hn, u, r => by
    cases (show u = Value.ref a from r)
    obtain ⟨_, its, rv, o, h1, h2, n, h3⟩ := (show ObjOk P w H h a (.tup xs) from ok a _ e)
    exact .tup h1 h2 h3 (by simpa using nested_all ok q hn rv)
theorem nested_all {P : Program} {w : World} {H : Hp} {h : Heap} (ok : HOk P w H h) : ∀ {vs : List V} {ds : List PyData}, DtL H vs ds → isNs ds = true → ∀ {us : List Value}, Vals vs us → NestedAll h (keysN ds) us
  | _, _, .nil, _, us, r => by
    cases r
    exact .nil
  | _, _, .cons a b, hn, us, r => by
    rw [isNs, Bool.and_eq_true] at hn
    cases r with
    | cons r1 r2 => exact .cons (nested_is ok a hn.1 r1) (nested_all ok b hn.2 r2)
end

/-! ### the dict -/
abbrev NX := List (NestedKey × Addr × Value)
def PhiN (P : Program) (w : World) (a : Addr) (xs : NX) : Heap → Prop := fun h => ∃ o es ep, h.get? a = some o ∧ o.ExactDict ∧ o.data = .dict es ep ∧ es.toList = xs.map (entryOfKey (nestedKind P w)) ∧ (xs.map (·.1)).Nodup ∧ xs.length ≤ sizeLine ∧ (a == sysModules) = false
theorem phiN_ok {P : Program} {w : World} {H : Hp} {h : Heap} {a : Addr} {xs : NX} (p : PhiN P w a xs h) : ObjOk P w H h a (.ext (PhiN P w a xs)) := by
  refine ⟨p, ?_, fun h1 h2 p1 k => ?_⟩
  · obtain ⟨o, _, _, e, _⟩ := p
    exact ⟨o, e⟩
  · obtain ⟨o, es, ep, e, q⟩ := p1
    exact ⟨o, es, ep, k o e, q⟩
theorem phiN_of {P : Program} {w : World} {H : Hp} {h : Heap} {a : Addr} {xs : NX} (ok : HOk P w H h) (e : H a = some (.ext (PhiN P w a xs))) : PhiN P w a xs h := (ok a _ e).1
def tDNewN (P : Program) (w : World) : TE := fun _ H Q => ∀ p, H p = none → Q (.ref p) (upd H p (.ext (PhiN P w p [])))
def sNPut (P : Program) (w : World) (td ty tv : TE) : TS := fun D σ H => tv σ H fun v H1 => td σ H1 fun x H2 => ty σ H2 fun y H3 => ∃ a xs d b, x = .ref a ∧ H3 a = some (.ext (PhiN P w a xs)) ∧ y = .ref b ∧ Dt H3 (.ref b) d ∧ isN d = true ∧ (keyN d).depth ≤ 8 ∧ xs.length < sizeLine ∧ (∀ x ∈ xs, ∃ d', Dt H3 (.ref x.2.1) d' ∧ isN d' = true ∧ x.1 = keyN d' ∧ (keyN d').depth ≤ 8) ∧
  ∀ u : Value, RelV v u → D.nx σ (upd H3 a (.ext (PhiN P w a (storedH xs (keyN d) b u))))
section
variable {X : Cx} {o i value : Expr} {pos pos' : Pos} {td ty tv : TE}
theorem pe_dnewN : PE X (.Dict [] [] pos) (tDNewN X.prog X.w) := ⟨fun pins s σ H Q I h =>
  wpAny_Dict_empty ⟨.ref s.heap.objs.size, _, I.laid (a := s.heap.objs.size) (o := .ext (PhiN X.prog X.w s.heap.objs.size [])) (t' := s.toks) (fun _ _ q => Heap.get?_push_of_some _ q) (Nat.le_refl _)
    (phiN_ok ⟨_, #[], 0, Heap.get?_push_size _ rfl, ⟨rfl, rfl, rfl⟩, rfl, rfl, List.nodup_nil, Nat.zero_le _, beq_eq_false_iff_ne.mpr (Ne.symm (Nat.ne_of_lt I.big))⟩), rfl, h _ (I.hok.fresh (Nat.le_refl _))⟩⟩
theorem length_storedH (xs : NX) (k : NestedKey) (b : Addr) (u : Value) : (storedH xs k b u).length ≤ xs.length + 1 := storedH_length xs k b u
theorem ps_nput (hu : X.A.units + 64 < cLine) (ho : PE X o td) (hi : PE X i ty) (hv : PE X value tv) (hs : swapsWith value (some (.Subscript o i pos')) pos.line X.env = pure false) :
    PS X (.Assign [.Subscript o i pos'] value pos) (sNPut X.prog X.w td ty tv) := by
  refine ⟨fun pins s σ H D I h => ?_⟩
  refine wpAny_Assign_Subscript (thn (hv.run pins s σ H _ I h) fun r s1 ⟨v, H1, I1, rv, q1⟩ => thn (ho.run pins s1 σ H1 _ I1 q1) fun u s2 ⟨x, H2, I2, rx, q2⟩ => thn (hi.run pins s2 σ H2 _ I2 q2) fun iv s3 ⟨y, H3, I3, ry, a, xs, d, b, ex, ea, ey, db, hn, hdp, hl, hx, q3⟩ => ?_) hs
  subst ex ey
  obtain rfl : u = Value.ref a := rx
  obtain rfl : iv = Value.ref b := ry
  obtain ⟨ob, es, ep, e1, e2, e3, e4, e5, e6, e7⟩ := phiN_of I3.hok ea
  have dd : s3.heap.DictOfH (nestedKind X.prog X.w) a xs := ⟨ob, es, ep, e1, e2, e3, e4, fun x hxm => by
    obtain ⟨d', d1, d2, d3, d4⟩ := hx x hxm
    rw [d3]
    exact ⟨nested_is I3.hok d1 d2 rfl, d4⟩, e5⟩
  have hk : (nestedKind X.prog X.w).is s3.heap (keyN d) b := ⟨nested_is I3.hok db hn rfl, hdp⟩
  have hroom : (nestedKind X.prog X.w).room X.A.in1 := by
    show X.A.units + 1 + 8 < cLine
    omega
  refine wpAny_setItem_heap (knd := nestedKind X.prog X.w) (k := keyN d) (hsz := e6) hroom hk dd fun h' dd' hs => ⟨σ, _, ?_, q3 r rv⟩
  obtain ⟨q, es', ep', hq, h2, h3, h4, h6, h5⟩ := dd'
  have hz := length_storedH xs (keyN d) b r
  exact d_write I3 (by rw [ea]; exact True.intro) hs ⟨q, hq⟩ (phiN_ok ⟨q, es', ep', hq, h2, h3, h4, h5, by omega, e7⟩)
end

/-! ### sorted(d, key=f) -/
open PySem.W (EachIs AllAlike Sortable dataLe KdlSrc)
def tFold (sp : Sp) : List V → Hp → (List V → Hp → Prop) → Prop
  | [], H, R => R [] H
  | x :: xs, H, R => sp [x] H (fun v H1 => tFold sp xs H1 fun vs H2 => R (v :: vs) H2) E0
def rSortF (P : Program) (w : World) (K : PySem.W.Frag) (sp : Sp) (g : Addr) : List V → List V → Hp → VK → Prop := fun vs zs H Q => ∃ (p : Addr) (xs : NX), vs = [.ref p] ∧ zs = [.ref g] ∧ H p = some (.ext (PhiN P w p xs)) ∧
  tFold sp (xs.map fun x => V.ref x.2.1) H fun ks H2 => ∃ kz, DpAll K H2 ks kz ∧ AllAlike kz ∧ Sortable kz ∧ (∀ d ∈ kz, Flat3 d) ∧ ∀ (zs : List Addr), zs.Perm (xs.map fun x => x.2.1) → ∀ q, H2 q = none → Q (.ref q) (upd H2 q (.lst (zs.map V.ref)))
/-- an address of ours, untracked -/
structure Free (X : Cx) (pins : List (Addr × Obj)) (a : Addr) : Prop where
  la : X.s_0.heap.objs.size ≤ a
  nl : a ≠ X.env.locals
  nc : ∀ x c, X.env.cells.lookup x = some c → c ≠ a
  np : ∀ p ∈ X.pn ++ pins, p.1 ≠ a
  nf : a ∉ X.fs
section
variable {X : Cx} {pins : List (Addr × Obj)} {σ : L2.St} {H : Hp} {s : Shared}
theorem free_of (I : Inv X pins σ H s) {a : Addr} (h : s.heap.objs.size ≤ a) : Free X pins a := by
  refine ⟨Nat.le_trans I.sz h, Nat.ne_of_gt (Nat.lt_of_lt_of_le I.lt h), fun x c e z => ?_, fun p hp z => ?_, I.nofs h⟩
  · obtain ⟨v, o, ho, _⟩ := I.cell x c e
    rw [z] at ho
    exact absurd (Nat.lt_of_lt_of_le (Heap.lt_size ho) h) (Nat.lt_irrefl _)
  · obtain ⟨ho, _⟩ := I.pin p hp
    rw [z] at ho
    exact absurd (Nat.lt_of_lt_of_le (Heap.lt_size ho) h) (Nat.lt_irrefl _)
theorem inv_adopt {a c : Addr} {o : HO} {h' : Heap} {t' : Nat} (I : Inv X pins σ H s) (k : ∀ b u, b ≠ a → b ≠ c → s.heap.get? b = some u → h'.get? b = some u) (ha : H a = none) (hc : H c = none) (fa : Free X pins a) (fc : Free X pins c) (new : ObjOk X.prog X.w (upd H a o) h' a o) :
    Inv X pins σ (upd H a o) { s with heap := h', toks := t' } := by
  have na : ∀ b u, H b = some u → b ≠ a := fun b u e => ne_of_none e ha
  have nc : ∀ b u, H b = some u → b ≠ c := fun b u e => ne_of_none e hc
  have out : ∀ b, b ∉ [a, c] → b ≠ a ∧ b ≠ c := fun b hb => ⟨fun z => hb (by simp [z]), fun z => hb (by simp [z])⟩
  refine I.step (g' := s.gens) (d' := s.drawn) (ch := [a, c]) (fun b hb => ?_) (fun b u _ _ hb e _ => k b u (out b hb).1 (out b hb).2 e) (fun b u _ _ hb e _ => ⟨u.slots, k b u (out b hb).1 (out b hb).2 e⟩) (fun b u hb _ n => ?_)
    (fun b u hb e => ⟨u, k b u (out b hb).1 (out b hb).2 e⟩) (fun b xs e => by rw [upd_ne (na b _ e)]; exact e) (fun b u xs e => by rw [upd_ne (na b _ e)]; exact e) (fun b ps e => ⟨#[], by rw [upd_ne (na b _ e), e]; simp⟩) (fun m hm => ?_) (fun b u e => ?_) I.bare
  · have hb : b = a ∨ b = c := by simpa using hb
    rcases hb with e | e
    · subst e
      exact ⟨.inr fa.la, fa.nl, fa.nc, fa.np⟩
    · subst e
      exact ⟨.inr fc.la, fc.nl, fc.nc, fc.np⟩
  · rw [upd_ne (out b hb).1]
    exact n
  · obtain ⟨ob, es, ep, ho, r⟩ := hm
    exact ⟨ob, es, ep, k _ ob (Ne.symm fa.nl) (Ne.symm fc.nl) ho, r⟩
  · by_cases hb : b = a
    · subst hb
      rw [upd_same] at e
      cases e
      exact new
    · rw [upd_ne hb] at e
      refine (I.hok b u e).stay (fun d v hd q => k d v ?_ ?_ q) (fun d q => by rw [upd_ne (na d _ q)]; exact q) fun d xs q => by rw [upd_ne (na d _ q)]; exact q
      · rcases hd with z | z
        · rw [z]
          exact hb
        · exact na d _ z
      · rcases hd with z | z
        · rw [z]
          exact nc b _ e
        · exact nc d _ z
theorem sorted_srcK {T : String} {r d : Addr} {n : Nat} {P : Nat → Value → Prop} {OK : Heap → Prop} {A : Around} {E : Value → Shared → Prop} {Q' : Value → Shared → Prop} {kw : List (Str × Value)} (S : KdlSrc X.prog X.w T r d n P OK) (hh : A.handled = none) (hok : OK s.heap) (hn : n ≤ sizeLine) (ha1 : argsOk "sorted" ⟨[.ref r], kw⟩) (ha2 : ∀ x, argsOk "list.sort" ⟨[.ref x], kw⟩)
    (h : ∀ (E' : Value → Shared → Prop) (h' : Heap) (tk : Nat) (acc : Array Value), (∀ b o, s.heap.get? b = some o → h'.get? b = some o) → ItemsOf P acc n →
      wpAny (model X.prog X.w) A.in1.in1 (Builtin.«list.sort» ⟨[.ref h'.objs.size], kw⟩) (fun f s' => f = .done (.ret .none) ∧ Q' (.ref h'.objs.size) s') E' { s with heap := h'.push (seqObj "list" acc.toList.toArray 0), toks := tk }) :
    wpAny (model X.prog X.w) A (call (.builtin "sorted") [.ref r] kw) Q' E s := by
  refine PyProof.Rows.call_function_entry_kw PyProof.Rows.kind_sorted PyProof.Rows.plain_sorted PyProof.Rows.entry_sorted ha1 ?_
  unfold Builtin.«sorted»
  refine wpAny_bind (m := checkCount "sorted" 1 1 _) (wpAny_pure ?_)
  refine wpAny_bind (PySem.W.kdu_collect (A := A.in1) S hh hok hn fun h' tk acc hk hacc => ?_)
  refine wpAny_bind (wpAny_newList ?_ (by rw [Array.length_toList, hacc.1]; exact hn))
  have ho : (h'.push (seqObj "list" acc.toList.toArray 0)).get? h'.objs.size = some (seqObj "list" acc.toList.toArray 0) := Heap.get?_push_size _ rfl
  refine wpAny_bind (wpAny_holding (PyProof.Rows.wpAny_call_entry_kw PyProof.Rows.slot_list_sort ⟨_, ho, rfl⟩ PyProof.Rows.entry_list_sort ?_ (ha2 _)))
  refine wpAny_mono (h _ h' tk acc hk hacc) (fun f s' hf => ?_) fun _ _ e => e
  obtain ⟨rfl, hq⟩ := hf
  exact ⟨_, rfl, wpAny_pure ⟨_, rfl, hq⟩⟩
end

section
variable {X : Cx} {pins : List (Addr × Obj)} {σ : L2.St} {k : Nat} {g : Addr} {fd : FuncData} {ps : List Str} {sp : Sp}
theorem vals_refs : ∀ (as : List Addr), Vals (as.map V.ref) (as.map Value.ref)
  | [] => .nil
  | a :: as => .cons rfl (vals_refs as)
abbrev lo (xs : Array Value) (e : Nat) : Obj := seqObj "list" xs e
/-- the keys are made -/
theorem rest_run {R : List V → Hp → Prop} {a kS : Addr} {e1 : Nat} {as : List Addr} {H : Hp} {s : Shared} {E : Value → Shared → Prop} {P : PySem.Fin → Shared → Prop} (F : FnOk X.prog X.w X.K X.mg X.base CX0 k g fd ps sp) (hb : Binds X.K fd ps []) (hr : Room (k + 2) X.A)
    (I : Inv X ((a, lo #[] e1) :: (kS, lo #[] 0) :: pins) σ H s) (fk : Free X pins kS) (hka : a ≠ kS) (hz : as.length ≤ sizeLine) (q : tFold sp (as.map V.ref) H R)
    (fin : ∀ (s' : Shared) (H2 : Hp) (ks : List V) (kA : Array Value) (e : Nat), Inv X ((a, lo #[] e1) :: (kS, lo kA e) :: pins) σ H2 s' → Vals ks kA.toList → kA.size = as.length → R ks H2 → wpAny (model X.prog X.w) X.A.in1.in1 (PyProof.Rows.ksk_end a false (as.map Value.ref).toArray e1 (.ref kS) kA) P E s') :
    wpAny (model X.prog X.w) X.A.in1.in1 (PyProof.Rows.ksk_rest a (.ref g) false (as.map Value.ref).toArray e1 (.ref kS)) P E s := by
  unfold PyProof.Rows.ksk_rest
  refine wpAny_bind (wpAny_rule ?_)
  first
    | rw [List.forIn_toArray]
    | (rw [← Array.forIn_toList]; simp only [List.toList_toArray])
    | rw [← Array.forIn_toList]
  refine wpAny_bind (PyProof.Rows.ksk_fold (fun i s' => ∃ H' kA ks e, Inv X ((a, lo #[] e1) :: (kS, lo kA e) :: pins) σ H' s' ∧ Vals ks kA.toList ∧ kA.size = i ∧ tFold sp ((as.drop i).map V.ref) H' (fun vs H2 => R (ks ++ vs) H2)) (as.map Value.ref) 0 s
    ⟨H, #[], [], 0, I, .nil, rfl, by simpa using q⟩ ?step ?done)
  case step =>
    rintro j x s' hx ⟨H', kA, ks, e, I', rk, hs, q'⟩
    simp only [Nat.zero_add] at hs q' ⊢
    rw [List.getElem?_map] at hx
    cases hj : as[j]? with
    | none =>
      rw [hj] at hx
      cases hx
    | some b =>
    rw [hj] at hx
    cases hx
    obtain ⟨hjl, ej⟩ := List.getElem?_eq_some_iff.mp hj
    have ed : as.drop j = b :: as.drop (j + 1) := by
      rw [List.drop_eq_getElem_cons hjl, ej]
    rw [ed, List.map_cons] at q'
    have q' : sp [.ref b] H' (fun v H1 => tFold sp ((as.drop (j + 1)).map V.ref) H1 fun vs H2 => R (ks ++ (v :: vs)) H2) E0 := q'
    have hlen := F.len _ _ _ _ q'
    refine wpAny_bind (wpAny_attempt (wpAny_call (codeAny_mono (F.run X.A.in1.in1 X.stack s' H' ⟨[Value.ref b], []⟩ ([Value.ref b] ++ []) [V.ref b] _ E0 hr.in1.in1 I'.env0.in1.in1 (hb s' [Value.ref b] I'.kIn hlen) (show Vals [V.ref b] ([Value.ref b] ++ []) from .cons rfl .nil) q') fun r s'' hq => ?_)))
    cases r with
    | error er => exact hq.elim
    | ok fl =>
      cases fl with
      | ret u =>
        obtain ⟨v, H2, I2, rv, q2⟩ := I'.after hq
        have pk := I2.pin (kS, lo kA e) (List.mem_append_right _ (List.mem_cons_of_mem _ List.mem_cons_self))
        have pa := I2.pin (a, lo #[] e1) (List.mem_append_right _ List.mem_cons_self)
        try dsimp only
        have nk2 : s''.heap.get? kS = some (seqObj "list" kA e) := pk.1
        have na2 : s''.heap.get? a = some (seqObj "list" #[] e1) := pa.1
        have s1 := Heap.SameBut.update s''.heap kS (Obj.mapSeq (·.push u))
        obtain ⟨c2, hc2⟩ : ∃ c2, (s''.heap.update kS (Obj.mapSeq (·.push u))).get? kS = some (seqObj "list" (kA.push u) c2) := ⟨_, get?_update_seq nk2 (·.push u)⟩
        have hzk : kA.size ≤ sizeLine := by omega
        have hzk2 : (kA.push u).size ≤ sizeLine + 1 := by
          rw [Array.size_push]
          omega
        refine wpAny_bind (listUpdate_at nk2 rfl ?_ hzk hzk2)
        have I3 : Inv X ((a, lo #[] e1) :: pins) σ H2 s'' := I2.pins_of fun p hp => I2.pin p (List.mem_append_right _ (by
          rcases List.mem_cons.mp hp with z | z
          · rw [z]
            exact List.mem_cons_self
          · exact List.mem_cons_of_mem _ (List.mem_cons_of_mem _ z)))
        have I4 : Inv X ((a, lo #[] e1) :: pins) σ H2 { s'' with heap := s''.heap.update kS (Obj.mapSeq (·.push u)), toks := s''.toks } := I3.turned (it := kS) (fun b o hb e => (s1.2 b hb).trans e) pk.2.1 fk.nl (.inr fk.la) fk.nc fun p hp => by
          rcases List.mem_append.mp hp with z | z
          · exact fk.np p (List.mem_append_left _ z)
          · rcases List.mem_cons.mp z with z | z
            · rw [z]
              exact hka
            · exact fk.np p (List.mem_append_right _ z)
        have I5 : Inv X ((a, lo #[] e1) :: (kS, lo (kA.push u) c2) :: pins) σ H2 { s'' with heap := s''.heap.update kS (Obj.mapSeq (·.push u)), toks := s''.toks } := I4.pins_of fun p hp => by
          rcases List.mem_cons.mp hp with z | z
          · rw [z]
            exact I4.pin _ (List.mem_append_right _ List.mem_cons_self)
          · rcases List.mem_cons.mp z with z | z
            · rw [z]
              exact ⟨hc2, pk.2.1, fk.nl, fk.nf, fun v h => by cases h⟩
            · exact I4.pin _ (List.mem_append_right _ (List.mem_cons_of_mem _ z))
        refine wpAny_pure ⟨rfl, H2, kA.push u, ks ++ [v], c2, I5, ?_, by rw [Array.size_push, hs], ?_⟩
        · rw [Array.toList_push]
          exact rk.append (.cons rv .nil)
        · have e3 : (fun (vs : List V) (H2 : Hp) => R ((ks ++ [v]) ++ vs) H2) = fun vs H2 => R (ks ++ (v :: vs)) H2 := by
            funext vs H2
            rw [List.append_assoc]
            rfl
          rw [e3]
          exact q2
      | next => exact False.elim hq
      | brk => exact False.elim hq
      | cont => exact False.elim hq
  case done =>
    rintro s' ⟨H', kA, ks, e, I', rk, hs, q'⟩
    rw [List.length_map, Nat.zero_add] at hs q'
    rw [List.drop_length] at q'
    have q' : R (ks ++ []) H' := q'
    rw [List.append_nil] at q'
    have pk := I'.pin (kS, lo kA e) (List.mem_append_right _ (List.mem_cons_of_mem _ List.mem_cons_self))
    try dsimp only
    refine wpAny_bind (listItems_at pk.1 rfl ?_)
    exact fin s' H' ks kA e I' rk hs q'
end

section
variable {X : Cx} {pins : List (Addr × Obj)} {σ : L2.St} {k : Nat} {g : Addr} {fd : FuncData} {ps : List Str} {sp : Sp}
/-- sorting's end -/
theorem end_run {a kS : Addr} {e1 e : Nat} {as : List Addr} {ks : List V} {kA : Array Value} {kz : List PyData} {H2 : Hp} {s : Shared} {E : Value → Shared → Prop} {Q : VK} (hu : X.A.units + 64 < cLine)
    (I : Inv X ((a, lo #[] e1) :: (kS, lo kA e) :: pins) σ H2 s) (fa : Free X pins a) (fk : Free X pins kS) (hka : a ≠ kS) (hz : as.length ≤ sizeLine) (rk : Vals ks kA.toList) (hs : kA.size = as.length)
    (hd : DpAll X.K H2 ks kz) (hal : AllAlike kz) (hso : Sortable kz) (hf : ∀ d ∈ kz, Flat3 d) (q : ∀ (zs : List Addr), zs.Perm as → ∀ p, H2 p = none → Q (.ref p) (upd H2 p (.lst (zs.map V.ref)))) :
    wpAny (model X.prog X.w) X.A.in1.in1 (PyProof.Rows.ksk_end a false (as.map Value.ref).toArray e1 (.ref kS) kA) (fun f s' => f = .done (.ret .none) ∧ EP X pins σ Q (.ref a) s') E s := by
  have pk := I.pin (kS, lo kA e) (List.mem_append_right _ (List.mem_cons_of_mem _ List.mem_cons_self))
  have pa := I.pin (a, lo #[] e1) (List.mem_append_right _ List.mem_cons_self)
  have I3 : Inv X pins σ H2 s := I.pins_of fun p hp => I.pin p (List.mem_append_right _ (List.mem_cons_of_mem _ (List.mem_cons_of_mem _ hp)))
  have hkl : ks.length = kz.length := dpLen hd
  have hkl2 : ks.length = kA.toList.length := rk.length
  have hkz : kz.length = as.length := hkl.symm.trans (hkl2.trans (Array.length_toList.trans hs))
  -- the keys read off
  have each : EachIs (fun v d => ∃ as, Reads s.heap v d as) kA.toList kz := by
    have h1 := reads_each I3 rk hd
    have h2 : (ks.zip kz).map (·.2) = kz := by rw [List.map_snd_zip (by omega)]
    have key : ∀ {us : List Value} {bs : List (V × PyData)}, EachIs (fun u (b : V × PyData) => ∃ as, Reads s.heap u b.2 as) us bs → EachIs (fun v d => ∃ as, Reads s.heap v d as) us (bs.map (·.2)) := by
      intro us bs h
      induction h with
      | nil => exact .nil
      | cons x _ ih => exact .cons x ih
    have h3 := key h1
    rw [h2] at h3
    exact h3
  refine PySem.W.keyH_end (κ := PySem.W.dataKind s.heap kz) (h₁ := PySem.W.hideAll s.heap [kS]) (vs := as.map Value.ref) (fun b o hb e => PySem.W.of_hideAll _ e) (PySem.W.hideAll_none _ List.mem_cons_self) pk.1 pa.1 (Ne.symm hka)
    (PySem.W.SortsAt.data each hal hso fun d hd => ?_) (by rw [List.length_map]; exact hs) (by rw [List.length_map]; exact hz) fun h3 tk3 c k3 n3 => ⟨rfl, ?_⟩
  · have := hf d hd
    unfold Flat3 at this
    show X.A.units + 1 + 1 + d.depth < cLine
    omega
  · have ko : PySem.W.KeyedOut false ((as.zip kz).map (·.2)) (as.map Value.ref) (PySem.W.sortVals (PySem.W.dataKind s.heap kz) false kA.toList (as.map Value.ref)) := by
      have h2 : (as.zip kz).map (·.2) = kz := by rw [List.map_snd_zip (by omega)]
      rw [h2]
      exact ⟨s.heap, kA.toList, hal, rfl, each⟩
    have hR : EachIs (fun u (b : Addr × PyData) => u = Value.ref b.1) (as.map Value.ref) (as.zip kz) := by
      have key : ∀ {as : List Addr} {kz : List PyData}, kz.length = as.length → EachIs (fun u (b : Addr × PyData) => u = Value.ref b.1) (as.map Value.ref) (as.zip kz) := by
        intro as
        induction as with
        | nil =>
          intro kz h
          exact .nil
        | cons a as ih =>
          intro kz h
          cases kz with
          | nil => simp at h
          | cons d kz => exact .cons rfl (ih (by simpa using h))
      exact key hkz
    have h4 := PySem.W.keyedOut_each (fun b : Addr × PyData => b.2) ko hR
    have hperm := List.mergeSort_perm (as.zip kz) (dataLe false fun b : Addr × PyData => b.2)
    generalize (as.zip kz).mergeSort (dataLe false fun b : Addr × PyData => b.2) = ms at h4 hperm
    have eo : ∀ {us : List Value} {bs : List (Addr × PyData)}, EachIs (fun u (b : Addr × PyData) => u = Value.ref b.1) us bs → us = (bs.map (·.1)).map Value.ref := by
      intro us bs h
      induction h with
      | nil => rfl
      | cons x _ ih => rw [x, ih]; rfl
    have eo := eo h4
    rw [eo] at n3
    have hp2 : (ms.map (·.1)).Perm as := by
      have h5 := hperm.map (·.1)
      rw [List.map_fst_zip (by omega)] at h5
      exact h5
    have hl : ((ms.map (·.1)).map V.ref).length ≤ sizeLine := by
      rw [List.length_map, hp2.length_eq]
      exact hz
    refine ⟨.ref a, upd H2 a (.lst ((ms.map (·.1)).map V.ref)), inv_adopt I3 (fun b u h1 h2 h3 => k3 b u h1 (PySem.W.hideAll_get _ h3 fun z => h2 (by simpa using z))) pa.2.1 pk.2.1 fa fk ⟨hl, _, c, vals_refs _, n3⟩, rfl, q _ hp2 a pa.2.1⟩
theorem sort_run {as : List Addr} {H : Hp} {s : Shared} {h1 : Heap} {tk : Nat} {E : Value → Shared → Prop} {Q : VK} (F : FnOk X.prog X.w X.K X.mg X.base CX0 k g fd ps sp) (hb : Binds X.K fd ps []) (hr : Room (k + 2) X.A) (I : Inv X pins σ H { s with heap := h1, toks := tk }) (hz : as.length ≤ sizeLine)
    (q : tFold sp (as.map V.ref) H fun ks H2 => ∃ kz, DpAll X.K H2 ks kz ∧ AllAlike kz ∧ Sortable kz ∧ (∀ d ∈ kz, Flat3 d) ∧ ∀ (zs : List Addr), zs.Perm as → ∀ q, H2 q = none → Q (.ref q) (upd H2 q (.lst (zs.map V.ref)))) :
    wpAny (model X.prog X.w) X.A.in1.in1 (PyProof.Rows.ksk_tree h1.objs.size (.ref g) false) (fun f s' => f = .done (.ret .none) ∧ EP X pins σ Q (.ref h1.objs.size) s') E { s with heap := h1.push (seqObj "list" (as.map Value.ref).toArray 0), toks := tk } := by
  have ho : (h1.push (seqObj "list" (as.map Value.ref).toArray 0)).get? h1.objs.size = some (seqObj "list" (as.map Value.ref).toArray 0) := Heap.get?_push_size _ rfl
  obtain ⟨e1, ho1⟩ : ∃ e1, ((h1.push (seqObj "list" (as.map Value.ref).toArray 0)).update h1.objs.size (Obj.mapSeq fun _ => (#[] : Array Value))).get? h1.objs.size = some (seqObj "list" #[] e1) := ⟨_, get?_update_seq ho fun _ => #[]⟩
  have hkS : (((h1.push (seqObj "list" (as.map Value.ref).toArray 0)).update h1.objs.size (Obj.mapSeq fun _ => (#[] : Array Value))).push (seqObj "tuple" (as.map Value.ref).toArray 0)).objs.size = h1.objs.size + 1 + 1 := by rw [size_push', Heap.size_update, size_push']
  have hzl : (as.map Value.ref).length ≤ sizeLine := by
    rw [List.length_map]
    exact hz
  unfold PyProof.Rows.ksk_tree
  refine wpAny_bind (listItems_at ho rfl ?_)
  refine wpAny_bind (listUpdate_at ho rfl ?_ (by rw [List.size_toArray]; exact hzl) (Nat.zero_le _))
  refine wpAny_bind (seqEpoch_at ho1 rfl ?_)
  refine wpAny_bind (wpAny_newTuple ?_ (by show (as.map Value.ref).length ≤ _; exact hzl))
  refine wpAny_bind (wpAny_newList ?_ (Nat.zero_le _))
  refine wpAny_holding ?_
  have fa : Free X pins h1.objs.size := free_of I (Nat.le_refl _)
  have fk : Free X pins (h1.objs.size + 1 + 1) := free_of I (Nat.le_trans (Nat.le_succ _) (Nat.le_succ _))
  have kp : ∀ b o, h1.get? b = some o → (PySem.W.sortingHeap (h1.push (seqObj "list" (as.map Value.ref).toArray 0)) h1.objs.size (as.map Value.ref)).get? b = some o := fun b o e =>
    PySem.W.sortingHeap_old (Nat.ne_of_lt (Heap.lt_size e)) (Heap.get?_push_of_some _ e)
  have na2 : (PySem.W.sortingHeap (h1.push (seqObj "list" (as.map Value.ref).toArray 0)) h1.objs.size (as.map Value.ref)).get? h1.objs.size = some (seqObj "list" #[] e1) := Heap.get?_push_of_some _ (Heap.get?_push_of_some _ ho1)
  have nk2 : (PySem.W.sortingHeap (h1.push (seqObj "list" (as.map Value.ref).toArray 0)) h1.objs.size (as.map Value.ref)).get? (h1.objs.size + 1 + 1) = some (seqObj "list" #[] 0) := by
    rw [← hkS]
    exact Heap.get?_push_size _ rfl
  have I1 : Inv X pins σ H { s with heap := PySem.W.sortingHeap (h1.push (seqObj "list" (as.map Value.ref).toArray 0)) h1.objs.size (as.map Value.ref), toks := tk } := I.kept (t' := tk) kp
  have I2 : Inv X ((h1.objs.size, lo #[] e1) :: (h1.objs.size + 1 + 1, lo #[] 0) :: pins) σ H { s with heap := PySem.W.sortingHeap (h1.push (seqObj "list" (as.map Value.ref).toArray 0)) h1.objs.size (as.map Value.ref), toks := tk } := I1.pins_of fun p hp => by
    rcases List.mem_cons.mp hp with z | z
    · rw [z]
      exact ⟨na2, I.hok.fresh (Nat.le_refl _), fa.nl, fa.nf, fun v h => by cases h⟩
    · rcases List.mem_cons.mp z with z | z
      · rw [z]
        exact ⟨nk2, I.hok.fresh (Nat.le_trans (Nat.le_succ _) (Nat.le_succ _)), fk.nl, fk.nf, fun v h => by cases h⟩
      · exact I1.pin p (List.mem_append_right _ z)
  rw [hkS]
  have hne : h1.objs.size ≠ h1.objs.size + 1 + 1 := by omega
  exact rest_run F hb hr I2 fk hne hz q fun s' H2 ks kA e I' rk hs ⟨kz, hd, hal, hso, hf, q'⟩ => end_run hr.units I' fa fk hne hz rk hs hd hal hso hf q'
theorem cr_sortF (F : FnOk X.prog X.w X.K X.mg X.base CX0 k g fd ps sp) (hb : Binds X.K fd ps []) (hr : Room (k + 2) X.A) (hc : X.calm = true) : CallRK X (.builtin "sorted") [Str.ofString "key"] (rSortF X.prog X.w X.K sp g) := by
  intro pins s σ H vs zs us ws Q I r rz h
  obtain ⟨p, xs, rfl, rfl, ep, q⟩ := h
  obtain rfl := Vals.ref1 r
  obtain ⟨w1, rfl, e1⟩ := vals1 rz
  obtain rfl : w1 = Value.ref g := e1
  obtain ⟨ob, es, epo, e1, e2, e3, e4, e5, e6, e7⟩ := phiN_of I.hok ep
  have raw : s.heap.DictRaw p es epo := ⟨ob, e1, e2, e3⟩
  have hsz : es.size = xs.length := by
    rw [← Array.length_toList, e4, List.length_map]
  refine sorted_srcK (X := X) (KdlSrc.rawDict e7) (I.ok.hd hc) raw (by rw [hsz]; exact e6) (PyProof.Rows.ksk_s1 _ _) (fun _ => PyProof.Rows.ksk_l1 _ _) fun E' h1 tk acc hkeep hacc => ?_
  have ev : acc.toList = (xs.map fun x => x.2.1).map Value.ref := by
    refine List.ext_getElem? fun j => ?_
    rcases Nat.lt_or_ge j es.size with hj | hj
    · have hja : j < acc.toList.length := by rw [Array.length_toList, hacc.1]; exact hj
      rw [List.getElem?_eq_getElem hja]
      obtain ⟨hi, ev⟩ := hacc.2 j acc.toList[j] (by rw [← Array.getElem?_toList]; exact List.getElem?_eq_getElem hja)
      rw [ev, List.getElem?_map, List.getElem?_map]
      have e8 : es.toList[j]? = some es[j] := by rw [Array.getElem?_toList]; exact Array.getElem?_eq_getElem hj
      rw [e4, List.getElem?_map] at e8
      cases hx : xs[j]? with
      | none =>
        rw [hx] at e8
        cases e8
      | some x =>
        rw [hx] at e8
        have e9 := Option.some.inj e8
        show some es[j].key = some (Value.ref x.2.1)
        rw [← e9]
        rfl
    · rw [List.getElem?_eq_none (by rw [Array.length_toList, hacc.1]; exact hj), List.getElem?_eq_none (by rw [List.length_map, List.length_map, ← hsz]; exact hj)]
  have I1 : Inv X pins σ H { s with heap := h1, toks := tk } := I.kept hkeep
  show wpAny _ _ (Builtin.«list.sort» ⟨[.ref h1.objs.size], [(Str.ofString "key", .ref g)]⟩) _ _ _
  rw [PyProof.Rows.ksk_t1, ev]
  refine sort_run F hb hr I1 (by rw [List.length_map]; exact e6) ?_
  rw [List.map_map]
  exact q
end

/-! ### what evaluates so -/
section
variable {X : Cx}
def tSortF (P : Program) (w : World) (K : PySem.W.Frag) (sp : Sp) (td : TE) : TE := fun σ H Q => ∀ g, tCKw (rSortF P w K sp g) (tCons td tNil) (tCons (tC (.ref g)) tNil) σ H Q
theorem pe_sortedRank {x y : Str} {k : Nat} {ps : List Str} {sp : Sp} {e : Expr} {td : TE} {p p2 kp pos : Pos} (hc : X.calm = true) (O : Own X.prog X.w X.K X.mg X.base y k ps [] sp) (hr : Room (k + 2) X.A) (hg : Gl X x) (hm : X.mg x = none) (hgy : Gl X y) (hv : bootBuiltins x = some (.builtin "sorted")) (he1 : PE X e td)
    (hn : x ≠ "__name__" := by decide) (hdb : (x == ("__debug__" : Str)) = false := by decide) (hdy : (y == ("__debug__" : Str)) = false := by decide) (hst : starEach [e] X.env = (false, eval e X.env) :: starEach [] X.env := by rfl)
    (he : backTo pos (starEach [e] X.env) = (false, eval e X.env) :: backTo pos (starEach [] X.env) := by rfl) (hpl : (backTo pos (starEach [e] X.env)).any (·.1) = false := by rfl)
    (hall : (backToKw pos (keywordEach [⟨some "key", .Name y p2, kp⟩] X.env)).all (·.1.isSome) = true := by rfl) (hnone : (backToKw pos (keywordEach [⟨some "key", .Name y p2, kp⟩] X.env)).any (·.1.isNone) = false := by rfl) (hks : (backToKw pos (keywordEach [⟨some "key", .Name y p2, kp⟩] X.env)).filterMap (·.1) = [Str.ofString "key"] := by rfl) :
    PE X (.Call (.Name x p) [e] [⟨some "key", .Name y p2, kp⟩] pos) (tSortF X.prog X.w X.K sp td) := by
  obtain ⟨f, fd, ds, hmy, hk, hd, hb, F⟩ := O.ex
  cases hd
  refine ⟨fun pins s σ H Q I h => ?_⟩
  exact (pe_callBK (cr_sortF F hb hr hc) hg hm hv (pa_cons he1 pa_nil hst) (pk_cons (pe_glob (v := .ref f) hgy hmy rfl hdy) pk_nil) hn hdb he hpl hall hnone hks).run pins s σ H Q I (h f)
end

/-! ### edges -/
def whyI : Why → Int
  | .own => 0
  | .saw => 1
  | .unseen => 2
  | .over => 3
abbrev rankD (e : Edge) : PyData := .tuple [pD e.one, pD e.other, .int (whyI e.why), .int (e.key.getD 0)]
abbrev sp_rank : Sp := mkSp (α := Edge) (fun e => [mD (edgeD e)]) (fun _ => True) (fun e => mD (rankD e))
theorem isN_edge (e : Edge) : isN (edgeD e) = true := by
  cases h : e.key <;> simp [isN, isNs, keyO, h]
theorem depth_edge (e : Edge) : (keyN (edgeD e)).depth ≤ 8 := by
  cases h : e.key <;> simp [keyN, keysN, keyO, h, NestedKey.depth, NestedKey.depthAll]
theorem whyW_inj {a b : Why} (h : whyW a = whyW b) : a = b := by
  cases a <;> cases b <;> first | rfl | exact absurd h (by decide +kernel)
theorem keyN_inj {a b : Edge} (h : keyN (edgeD a) = keyN (edgeD b)) : a = b := by
  obtain ⟨⟨a1, a2⟩, ⟨a3, a4⟩, aw, ak⟩ := a
  obtain ⟨⟨b1, b2⟩, ⟨b3, b4⟩, bw, bk⟩ := b
  simp only [keyN, keysN, NestedKey.tup.injEq, List.cons.injEq, NestedKey.num.injEq, NestedKey.text.injEq, and_true] at h
  obtain ⟨⟨h1, h2⟩, ⟨h3, h4⟩, h5, h6⟩ := h
  have h5 := whyW_inj h5
  have h6 : ak = bk := by
    cases ak <;> cases bk <;> simp_all [keyO, keyN]
  subst h1 h2 h3 h4 h5 h6
  rfl
theorem nt_ext {φ : Heap → Prop} : NT (.ext φ) := fun _ h => by cases h
def MN (P : Program) (w : World) (G H : Hp) (a : Addr) (es : List Edge) : Prop := G a = none ∧ ∃ xs : NX, H a = some (.ext (PhiN P w a xs)) ∧ xs.length ≤ es.length ∧ (∀ x ∈ xs, ∃ e ∈ es, Dt G (.ref x.2.1) (edgeD e) ∧ x.1 = keyN (edgeD e)) ∧ ∀ e ∈ es, ∃ x ∈ xs, x.1 = keyN (edgeD e)
section
variable {P : Program} {w : World} {K : PySem.W.Frag} {σ : L2.St} {G H G' H' : Hp} {td ty te : TE} {a p : Addr} {es : List Edge} {D : Ends}
theorem MN.new (h : G p = none) : MN P w G (upd H p (.ext (PhiN P w p []))) p [] := ⟨h, [], upd_same, Nat.le_refl _, fun x hx => (nomatch hx), fun x hx => (nomatch hx)⟩
theorem MN.grow (h : MN P w G H a es) (g : Grow G H G' H') : MN P w G' H' a es := by
  obtain ⟨h1, xs, h2, h3, h4, h5⟩ := h
  exact ⟨g.ap _ _ h2 nt_ext h1, xs, g.hh _ _ h2, h3, fun x hx => by
    obtain ⟨e, e1, e2, e3⟩ := h4 x hx
    exact ⟨e, e1, e2.mono g.gg, e3⟩, h5⟩
theorem q_newN {i : Nat} {tz : TS} (e : Ex G H) (k : ∀ p, H p = none → G p = none → tz D (σ.set i (some (.ref p))) (upd H p (.ext (PhiN P w p [])))) : tSeq (tAsg (tDNewN P w) (gName i)) tz D σ H := fun p hp => k p hp (e.non hp)
theorem atKey_mem : ∀ {xs : NX} {k : NestedKey} {p : Addr × Value}, atKey xs k = some p → ∃ y ∈ xs, y.1 = k
  | [], _, _, h => by simp [atKey] at h
  | x :: xs, k, p, h => by
    by_cases e : x.1 = k
    · exact ⟨x, List.mem_cons_self, e⟩
    · have h' : atKey xs k = some p := by simpa [atKey, e] using h
      obtain ⟨y, y1, y2⟩ := atKey_mem h'
      exact ⟨y, List.mem_cons_of_mem _ y1, y2⟩
theorem mem_storedH {xs : NX} {k : NestedKey} {b : Addr} {u : Value} : (∀ x ∈ storedH xs k b u, (x.1 = k ∧ x.2.1 = b) ∨ ∃ y ∈ xs, y.1 = x.1 ∧ y.2.1 = x.2.1) ∧ (∀ y ∈ xs, ∃ x ∈ storedH xs k b u, x.1 = y.1) ∧ ∃ x ∈ storedH xs k b u, x.1 = k := by
  unfold storedH
  by_cases h : (atKey xs k).isSome = true
  · rw [if_pos h]
    have fst : ∀ y : NestedKey × Addr × Value, (putAt k u y).1 = y.1 ∧ (putAt k u y).2.1 = y.2.1 := fun y => by
      unfold putAt
      split
      · exact ⟨rfl, rfl⟩
      · exact ⟨rfl, rfl⟩
    refine ⟨fun x hx => ?_, fun y hy => ⟨putAt k u y, List.mem_map.mpr ⟨y, hy, rfl⟩, (fst y).1⟩, ?_⟩
    · obtain ⟨y, hy, rfl⟩ := List.mem_map.mp hx
      exact .inr ⟨y, hy, (fst y).1.symm, (fst y).2.symm⟩
    · obtain ⟨p, hp⟩ := Option.isSome_iff_exists.mp h
      obtain ⟨y, hy, e⟩ := atKey_mem hp
      exact ⟨putAt k u y, List.mem_map.mpr ⟨y, hy, rfl⟩, (fst y).1.trans e⟩
  · rw [if_neg h]
    refine ⟨fun x hx => ?_, fun y hy => ⟨y, List.mem_append.mpr (.inl hy), rfl⟩, ⟨_, List.mem_append.mpr (.inr List.mem_cons_self), rfl⟩⟩
    rcases List.mem_append.mp hx with hx | hx
    · exact .inr ⟨x, hx, rfl, rfl⟩
    · rw [List.mem_singleton.mp hx]
      exact .inl ⟨rfl, rfl⟩
theorem s_nput {d : Edge} {m : MP} (hl : MN P w G H a es) (e : Ex G H) (hv : Ev te σ G H m) (hd : Ev td σ G H (mV (.ref a))) (hk : Ev ty σ G H (mD (edgeD d))) (hz : es.length ≤ 100000)
    (c : ∀ G1 H1, GrowB a G H G1 H1 → MN P w G1 H1 a (es ++ [d]) → D.nx σ H1) : sNPut P w td ty te D σ H := hv G H (Grow.refl e) _ fun v G1 H1 g1 hv => hd G1 H1 g1 _ fun x G2 H2 g2 hx => hk G2 H2 (g1.trans g2) _ fun y G3 H3 g3 hy => by
  obtain rfl := hx
  have g := (g1.trans g2).trans g3
  obtain ⟨h1, xs, h2, h3, h4, h5⟩ := hl.grow g
  obtain ⟨b, vs, rfl, b1, b2⟩ := Dt.tup_inv hy
  refine ⟨a, xs, edgeD d, b, rfl, h2, rfl, Dt.mono g3.gh hy, isN_edge d, depth_edge d, line_lt (Nat.le_trans h3 hz), fun x hx => ?_, fun u hu => c G3 _ (.of g h1) ⟨h1, _, upd_same, ?_, fun x hx => ?_, fun e' he' => ?_⟩⟩
  · obtain ⟨e1, _, e2, e3⟩ := h4 x hx
    exact ⟨_, e2.mono g3.gh, isN_edge e1, e3, depth_edge e1⟩
  · have := length_storedH xs (keyN (edgeD d)) b u
    rw [List.length_append]
    exact Nat.le_trans this (Nat.succ_le_succ h3)
  · obtain ⟨q, _, _⟩ := mem_storedH (xs := xs) (k := keyN (edgeD d)) (b := b) (u := u)
    rcases q x hx with ⟨q1, q2⟩ | ⟨y, q1, q2, q3⟩
    · exact ⟨d, List.mem_append.mpr (.inr List.mem_cons_self), by rw [q2]; exact hy, q1⟩
    · obtain ⟨e1, e2, e3, e4⟩ := h4 y q1
      exact ⟨e1, List.mem_append.mpr (.inl e2), by rw [← q3]; exact e3, by rw [← q2]; exact e4⟩
  · obtain ⟨_, q2, q3⟩ := mem_storedH (xs := xs) (k := keyN (edgeD d)) (b := b) (u := u)
    rcases List.mem_append.mp he' with he' | he'
    · obtain ⟨y, y1, y2⟩ := h5 e' he'
      obtain ⟨x, x1, x2⟩ := q2 y y1
      exact ⟨x, x1, x2.trans y2⟩
    · rw [List.mem_singleton.mp he']
      exact q3
theorem fold_rank {R : List V → Hp → Prop} : ∀ {xs : List V} {es : List Edge} {G H : Hp}, Ex G H → DtL G xs (es.map edgeD) → (∀ vs G2 H2, Grow G H G2 H2 → DtL G2 vs (es.map rankD) → R vs H2) → tFold sp_rank xs H R
  | _, [], G, H, e, .nil, k => k [] G H (Grow.refl e) .nil
  | _, d :: es, G, H, e, .cons h r, k => ⟨d, G, trivial, e, ⟨h, trivial⟩, fun v G2 H2 g hv => fold_rank (es := es) g.gh (r.mono g.gg) fun vs G3 H3 g3 hvs => k _ G3 H3 (g.trans g3) (.cons (Dt.mono g3.gg hv) hvs)⟩
theorem alike_rank (es : List Edge) : AllAlike (es.map rankD) := by
  intro d hd d' hd'
  obtain ⟨i, _, rfl⟩ := List.mem_map.mp hd
  obtain ⟨j, _, rfl⟩ := List.mem_map.mp hd'
  simp [PySem.W.alike, PySem.W.alikeAll]
theorem sortable_rank (es : List Edge) : Sortable (es.map rankD) := by
  refine .inl fun d hd => ?_
  obtain ⟨i, _, rfl⟩ := List.mem_map.mp hd
  exact ⟨_, _, rfl⟩
theorem flat_rank (es : List Edge) : ∀ d ∈ es.map rankD, Flat3 d := by
  intro d hd
  obtain ⟨i, _, rfl⟩ := List.mem_map.mp hd
  unfold Flat3
  simp [PyData.depth, PyData.depthAll]
/-- the list of the keys: the same edges -/
def mEdges (P : Edge → Prop) : MP := mDs fun x => ∃ fs : List Edge, x = .list (fs.map edgeD) ∧ ∀ e, e ∈ fs ↔ P e
theorem ev_sortF (hl : MN P w G H a es) (hd : Ev td σ G H (mV (.ref a))) : Ev (tSortF P w K sp_rank td) σ G H (mDs fun x => ∃ fs : List Edge, x = .list (fs.map edgeD) ∧ fs.length ≤ es.length ∧ ∀ e, e ∈ fs ↔ e ∈ es) := fun G1 H1 g1 Q k g => hd G1 H1 g1 _ fun v G2 H2 g2 hv => by
  obtain rfl := hv
  obtain ⟨h1, xs, h2, h3, h4, h5⟩ := hl.grow (g1.trans g2)
  -- the edges of the entries
  have key : ∀ ys : NX, (∀ x ∈ ys, ∃ e ∈ es, Dt G2 (.ref x.2.1) (edgeD e) ∧ x.1 = keyN (edgeD e)) → ∃ ds : List (Addr × Edge), ds.map (·.1) = ys.map (fun x => x.2.1) ∧ (∀ p ∈ ds, p.2 ∈ es ∧ Dt G2 (.ref p.1) (edgeD p.2)) ∧ ∀ x ∈ ys, ∃ p ∈ ds, x.1 = keyN (edgeD p.2) := by
    intro ys
    induction ys with
    | nil => intro _; exact ⟨[], rfl, fun p hp => (nomatch hp), fun p hp => (nomatch hp)⟩
    | cons y ys ih =>
      intro hy
      obtain ⟨e, e1, e2, e3⟩ := hy y List.mem_cons_self
      obtain ⟨ds, d1, d2, d3⟩ := ih fun x hx => hy x (List.mem_cons_of_mem _ hx)
      refine ⟨(y.2.1, e) :: ds, by rw [List.map_cons, List.map_cons, d1], fun p hp => ?_, fun x hx => ?_⟩
      · rcases List.mem_cons.mp hp with z | z
        · rw [z]
          exact ⟨e1, e2⟩
        · exact d2 p z
      · rcases List.mem_cons.mp hx with z | z
        · rw [z]
          exact ⟨_, List.mem_cons_self, e3⟩
        · obtain ⟨p, p1, p2⟩ := d3 x z
          exact ⟨p, List.mem_cons_of_mem _ p1, p2⟩
  obtain ⟨ds, d1, d2, d3⟩ := key xs h4
  have dl : ∀ qs : List (Addr × Edge), (∀ p ∈ qs, Dt G2 (.ref p.1) (edgeD p.2)) → DtL G2 (qs.map fun p => V.ref p.1) ((qs.map (·.2)).map edgeD) := by
    intro qs
    induction qs with
    | nil => intro _; exact .nil
    | cons q qs ih => intro h; exact .cons (h q List.mem_cons_self) (ih fun p hp => h p (List.mem_cons_of_mem _ hp))
  refine ⟨a, xs, rfl, rfl, h2, ?_⟩
  have ex : (xs.map fun x => V.ref x.2.1) = ds.map fun p => V.ref p.1 := by
    have : (xs.map fun x => V.ref x.2.1) = (xs.map fun x => x.2.1).map V.ref := by rw [List.map_map]; rfl
    rw [this, ← d1, List.map_map]
    rfl
  rw [ex]
  refine fold_rank g2.gh (dl ds fun p hp => (d2 p hp).2) fun ks G3 H3 g3 hks => ⟨(ds.map (·.2)).map rankD, (hks.mono g3.gh).dp, alike_rank _, sortable_rank _, flat_rank _, fun zs hp q hq => ?_⟩
  rw [← d1] at hp
  obtain ⟨rs, r1, r2⟩ := perm_map_inv (fun p : Addr × Edge => p.1) hp
  subst r2
  have g4 : Grow G3 H3 (upd G3 q (.lst ((rs.map (·.1)).map V.ref))) (upd H3 q (.lst ((rs.map (·.1)).map V.ref))) := Grow.new g3.gh hq
  refine k _ _ _ ((g2.trans g3).trans g4) ⟨_, ⟨rs.map (·.2), rfl, ?_, fun e => ⟨fun he => ?_, fun he => ?_⟩⟩, ?_⟩
  · rw [List.length_map, r1.length_eq]
    have := congrArg List.length d1
    rw [List.length_map, List.length_map] at this
    omega
  · obtain ⟨p, p1, rfl⟩ := List.mem_map.mp he
    exact (d2 p (r1.mem_iff.mp p1)).1
  · obtain ⟨x, x1, x2⟩ := h5 e he
    obtain ⟨p, p1, p2⟩ := d3 x x1
    have : e = p.2 := keyN_inj (x2.symm.trans p2)
    rw [this]
    exact List.mem_map.mpr ⟨p, r1.mem_iff.mpr p1, rfl⟩
  · have h9 := dl rs fun p hp => (d2 p (r1.mem_iff.mp hp)).2
    have em : ((rs.map (·.1)).map V.ref) = rs.map fun p => V.ref p.1 := by
      rw [List.map_map]
      rfl
    refine .lst upd_same (DtL.mono (g3.gg.trans g4.gg) ?_)
    rw [em]
    exact h9
end
end Sk
/-! SkL -/
/-! list(reversed(xs)); a script's list; isinstance; dicts of lists by ints. -/
namespace Sk
open PySem PySem.Spec PyProof.Rows L2

/-! ### list(reversed(xs)) -/
section
variable {prog : Program} {w : World} {A : Around} {E : Value → Shared → Prop} {s : Shared} {it l : Addr} {items : Array Value}
theorem rev_init {R : Result → Shared → Prop} (hh : A.handled = none) (hit : s.heap.IsRevIter it l ((items.size : Int) - 1)) (hl : s.heap.IsList l items) (hne : l ≠ it) (hn : items.size ≤ sizeLine) (S : Addr) (hSi : S ≠ it) (hSl : S ≠ l) (hS : s.heap.get? S = some { cls := .type "list", data := .seq #[] })
    (hR : ∀ h' tk acc' c', (∀ b o, b ≠ S → b ≠ it → s.heap.get? b = some o → h'.get? b = some o) → h'.get? S = some { cls := .type "list", dict := none, data := .seq acc' c', slots := #[] } → ItemsOf (fun i v => items[items.size - 1 - i]? = some v) acc' items.size → R (.ok (.ret .none)) { s with heap := h', toks := tk }) :
    wpAny (model prog w) A.in1 (Builtin.«list.__init__» ⟨[.ref S, .ref it], []⟩)
      (fun fin s' => match fin with | .done f => R (.ok f) s' | .again c' => c'.quiet = true ∧ codeAny (model prog w) A c' R s') (fun e s' => R (.error e) s') s := by
  have W := (Walks.listRev (prog := prog) (w := w) (A := A.in1) hh it l hne items).toS
  have hSf : S ∉ [it, l] := by
    simp only [List.mem_cons, List.not_mem_nil, or_false, not_or]
    exact ⟨hSi, hSl⟩
  show wpAny _ _ (do let old ← Builtin.List.listItems (.ref S); Builtin.List.listUpdate (.ref S) (fun _ => #[]); letGo old.toList.reverse; Builtin.List.listExtendWith (.ref S) (.ref it) .none) _ _ s
  refine wpAny_bind ?_
  unfold Builtin.List.listItems
  refine wpAny_bind (wpAny_seqItems hS rfl (wpAny_pure ?_))
  show wpAny _ _ (updateSeq S (fun _ => #[]) >>= fun _ => letGo (#[] : Array Value).toList.reverse >>= fun _ => Builtin.List.listExtendWith (.ref S) (.ref it) .none) _ _ s
  refine wpAny_bind (wpAny_updateSeq hS rfl ?_)
  have hS₂ := Heap.get?_update_self (Obj.mapSeq (fun _ => (#[] : Array Value))) hS rfl
  have oth : ∀ b o, b ≠ S → s.heap.get? b = some o → (s.heap.update S (Obj.mapSeq (fun _ => (#[] : Array Value)))).get? b = some o :=
    fun b o hb e => (Heap.get?_update_other _ _ (Ne.symm hb)).trans e
  refine wpAny_bind (wpAny_letGo ?_)
  have hit1 : (s.heap.update S (Obj.mapSeq (fun _ => (#[] : Array Value)))).IsRevIter it l ((items.size : Int) - 1) := hit.at fun o e => oth it o (Ne.symm hSi) e
  have hl1 : (s.heap.update S (Obj.mapSeq (fun _ => (#[] : Array Value)))).IsList l items := by
    obtain ⟨o, ho, r⟩ := id hl
    exact ⟨o, oth l o (Ne.symm hSl) ho, r⟩
  have hT : ({ s with heap := s.heap.update S (Obj.mapSeq (fun _ => (#[] : Array Value))) } : Shared).TypeIs (.ref it) "list_reverseiterator" := Heap.IsRevIter.typeIs (s := { s with heap := s.heap.update S (Obj.mapSeq (fun _ => (#[] : Array Value))) }) hit1
  have h1 : Builtin.List.listSameRef (.ref S) (.ref it) = false := by simp [Builtin.List.listSameRef, hSi]
  unfold Builtin.List.listExtendWith
  refine wpAny_bind (wpAny_typeOf hT ?_)
  rw [if_neg (by rw [h1]; decide)]
  refine wpAny_bind (wpAny_pyIter_revIter (s := { s with heap := s.heap.update S (Obj.mapSeq (fun _ => (#[] : Array Value))) }) hit1 ?_)
  refine wpAny_bind (wpAny_holding ?_)
  unfold Builtin.List.listLengthHint
  refine wpAny_bind (wpAny_specialOf hT RT.nolen_lri ?_)
  show wpAny _ A.in1 (specialOf (Value.ref it) (Str.ofString "__length_hint__") >>= _) _ _ _
  refine wpAny_bind (wpAny_specialOf hT RT.hint_lri ?_)
  generalize hid : ("list_reverseiterator.__length_hint__" : String) = id0
  wp_delta
  rw [show splitId id0 = some ("list_reverseiterator", "__length_hint__") from by subst hid; decide +kernel]
  subst hid
  refine wpAny_bind (wpAny_isInstance (b := true) hT (by rw [isSubtype_type]; kernel_rfl) ?_)
  refine wpAny_pure ?_
  rw [if_neg (by decide)]
  have e0 : ((items.size : Nat) : Int) - 1 - ((0 : Nat) : Int) = (items.size : Int) - 1 := by omega
  refine wpAny_pure ⟨plainId_quiet F.plain_extend_loop _, codeAny_extend_loopS W hn _ hSf _ items.size 0 _ _ _ rfl (Nat.zero_le _) ⟨Nat.zero_le _, by rw [e0]; exact hit1, hl1⟩ hS₂ (ItemsOf.nil _) fun s' acc' c' hm hS' hacc => ?_⟩
  rw [Moved.eq_with hm]
  refine hR s'.heap s'.toks acc' c' (fun b o hb hbi e => hm.heap b o (fun hmem => ?_) (oth b o hb e)) hS' hacc
  rcases List.mem_cons.mp hmem with e' | hmem
  · exact hb e'
  · exact hbi (List.mem_singleton.mp hmem)
theorem call_list_rev {Q : Value → Shared → Prop} (hh : A.handled = none) (hit : s.heap.IsRevIter it l ((items.size : Int) - 1)) (hl : s.heap.IsList l items) (hne : l ≠ it) (hn : items.size ≤ sizeLine)
    (hQ : ∀ h' tk acc' c', (∀ b o, b ≠ it → s.heap.get? b = some o → h'.get? b = some o) → h'.get? s.heap.objs.size = some { cls := .type "list", dict := none, data := .seq acc' c', slots := #[] } → ItemsOf (fun i v => items[items.size - 1 - i]? = some v) acc' items.size → Q (.ref s.heap.objs.size) { s with heap := h', toks := tk }) :
    wpAny (model prog w) A (call (.type "list") [.ref it]) Q E s := by
  refine callType_codes (Q₁ := fun obj s₁ => obj = .ref s.heap.objs.size ∧ s₁ = { s with heap := s.heap.push { cls := .type "list", data := .seq #[] } }) PySem.F.called_list (PySem.F.typeCall_list_1 _) PySem.F.entry_list_init
    (code_list_new _ ⟨rfl, rfl⟩) fun obj s₁ h₁ => ?_
  obtain ⟨rfl, rfl⟩ := h₁
  have hS : (s.heap.push { cls := .type "list", data := .seq #[] }).get? s.heap.objs.size = some { cls := .type "list", data := .seq #[] } := Heap.get?_push_size _ rfl
  obtain ⟨oi, hoi, _⟩ := id hit
  obtain ⟨ol, hol, _⟩ := id hl
  refine ⟨⟨_, hS, rfl⟩, PySem.F.args_list_init_2 _ _, rev_init (A := A.in1) (s := { s with heap := s.heap.push { cls := .type "list", data := .seq #[] } }) hh (hit.at fun o e => Heap.get?_push_of_some _ e) (hl.push _) hne hn _ (Nat.ne_of_gt (Heap.lt_size hoi)) (Nat.ne_of_gt (Heap.lt_size hol)) hS (fun h' tk acc' c' hk hS' hacc => ?_)⟩
  exact ⟨rfl, hQ h' tk acc' c' (fun b o hb e => hk b o (Nat.ne_of_lt (Heap.lt_size e)) hb (Heap.get?_push_of_some _ e)) hS' hacc⟩
end
def tListRev (K : PySem.W.Frag) (te : TE) : TE := fun σ H Q => te σ H fun v H1 => ∃ (a : Addr) (xs : List V), v = .ref a ∧ SqL K H1 a xs ∧ ∀ q, H1 q = none → Q (.ref q) (upd H1 q (.lst xs.reverse))
section
variable {X : Cx}
theorem pe_listRev {e : Expr} {te : TE} {p p2 pos pos2 : Pos} (hc : X.calm = true) (hg : Gl X "list") (hm : X.mg "list" = none) (hg2 : Gl X "reversed") (hm2 : X.mg "reversed" = none) (he : PE X e te)
    (hs : starEach [e] X.env = (false, eval e X.env) :: starEach [] X.env := by rfl)
    (hs2 : starEach [.Call (.Name "reversed" p2) [e] [] pos2] X.env = (false, eval (.Call (.Name "reversed" p2) [e] [] pos2) X.env) :: starEach [] X.env := by rfl) :
    PE X (.Call (.Name "list" p) [.Call (.Name "reversed" p2) [e] [] pos2] [] pos) (tListRev X.K te) := by
  refine ⟨fun pins s σ H Q I h => ?_⟩
  refine Call_ (ld_blt I hg hm boot_list (PyProof.Rows.callWith_type1 (args_cons (Call_ (ld_blt I hg2 hm2 PyProof.Rows.boot_reversed (PyProof.Rows.callWith_type1 (args_cons (thn (he.run pins s σ H _ I h) fun u s1 ⟨v, H1, I1, r1, q1⟩ => args_nil ?_) hs) hs rfl))) hs2) hs2 rfl))
  obtain ⟨a, xs, ev, hq, q⟩ := q1
  subst ev
  obtain rfl : u = Value.ref a := r1
  obtain ⟨its, rv, p', hz⟩ := I1.list hq
  refine call_reversed_list p'.isList (args_nil ?_)
  have k0 : ∀ b o, s1.heap.get? b = some o → (s1.heap.push (revObj a ((its.toArray.size : Int) - 1))).get? b = some o := fun b o e => Heap.get?_push_of_some _ e
  have hl := p'.isList
  obtain ⟨ol, hol, _⟩ := id hl
  have hne : a ≠ s1.heap.objs.size := Nat.ne_of_lt (Heap.lt_size hol)
  have hn : its.toArray.size ≤ sizeLine := by rw [List.size_toArray, ← rv.length]; exact hz
  refine call_list_rev (s := { s1 with heap := s1.heap.push (revObj a ((its.toArray.size : Int) - 1)) }) (I1.ok.hd hc) ⟨_, Heap.get?_push_size _ rfl, rfl, rfl⟩ (hl.push _) hne hn fun h' tk acc c hk hD hi => ?_
  have hsz : (s1.heap.push (revObj a ((its.toArray.size : Int) - 1))).objs.size = s1.heap.objs.size + 1 := size_push' ..
  have hkeep : ∀ b o, s1.heap.get? b = some o → h'.get? b = some o := fun b o e => hk b o (Nat.ne_of_lt (Heap.lt_size e)) (k0 b o e)
  refine ⟨.ref _, upd H1 _ (.lst xs.reverse), I1.laid (t' := tk) hkeep ?_ (show ObjOk X.prog X.w _ _ _ (.lst xs.reverse) from ⟨by rw [List.length_reverse]; exact hz, acc.toList, c, RT.vals_rev rv hi, by rw [Array.toArray_toList]; exact hD⟩), rfl, q _ (I1.hok.fresh ?_)⟩
  · rw [hsz]
    exact Nat.le_succ _
  · rw [hsz]
    exact Nat.le_succ _
end

/-! ### dicts by ints, of lists that change -/
def kI (i : Int) : Key := .inl i
theorem kI_inj {x y : Int} (h : kI x = kI y) : x = y := Sum.inl.inj h
theorem look_kI {f : Int → MP} {y : Int} : ∀ {l : List Int}, y ∈ l → lookM (l.map fun x => (kI x, f x)) (kI y) = some (f y)
  | a :: l, h => by
    unfold lookM
    rw [List.map_cons, List.find?_cons]
    by_cases e : a = y
    · rw [decide_eq_true (by rw [e])]
      rw [e]
      rfl
    · rw [decide_eq_false (fun z => e (kI_inj z))]
      have h' : y ∈ l := by
        rcases List.mem_cons.mp h with z | z
        · exact absurd z.symm e
        · exact z
      exact look_kI (l := l) h'
theorem look_kI_none {f : Int → MP} {y : Int} : ∀ {l : List Int}, y ∉ l → lookM (l.map fun x => (kI x, f x)) (kI y) = none
  | [], _ => rfl
  | a :: l, h => by
    unfold lookM
    rw [List.map_cons, List.find?_cons]
    rw [decide_eq_false (fun z => h (by rw [kI_inj z]; exact List.mem_cons_self))]
    exact look_kI_none (l := l) fun z => h (List.mem_cons_of_mem _ z)
theorem look_kI_some {f : Int → MP} {y : Int} (l : List Int) : (lookM (l.map fun x => (kI x, f x)) (kI y)).isSome = decide (y ∈ l) := by
  by_cases h : y ∈ l
  · rw [look_kI h, decide_eq_true h]
    rfl
  · rw [look_kI_none h, decide_eq_false h]
    rfl
theorem keys_kI (f : Int → MP) (l : List Int) : (l.map fun x => (kI x, f x)).map (·.1) = l.map kI := by
  rw [List.map_map]
  rfl
theorem kI_notin {y : Int} {l : List Int} (h : y ∉ l) : kI y ∉ l.map kI := fun z => by
  obtain ⟨x, hx, e⟩ := List.mem_map.mp z
  exact h (by rw [← kI_inj e]; exact hx)
theorem put_kI_new {f : Int → MP} {y : Int} {l : List Int} {m : MP} (h : y ∉ l) : putM (l.map fun x => (kI x, f x)) (kI y) m = (l.map fun x => (kI x, f x)) ++ [(kI y, m)] :=
  putM_new (by rw [keys_kI]; exact kI_notin h)
theorem put_kI {f : Int → MP} {y : Int} {l : List Int} {m : MP} (h : y ∈ l) : putM (l.map fun x => (kI x, f x)) (kI y) m = l.map fun x => (kI x, if x = y then m else f x) := by
  unfold putM
  rw [if_pos, List.map_map]
  · refine List.map_congr_left fun x _ => ?_
    show (if kI x = kI y then (kI x, m) else (kI x, f x)) = _
    by_cases e : x = y
    · rw [if_pos (by rw [e]), if_pos e]
    · rw [if_neg (fun z => e (kI_inj z)), if_neg e]
  · rw [List.any_eq_true]
    exact ⟨(kI y, f y), List.mem_map.mpr ⟨y, h, rfl⟩, decide_eq_true rfl⟩
structure MKL (G H : Hp) (a : Addr) (ad : Int → Addr) (l : List Int) (f : Int → List PyData) : Prop where
  non : G a = none
  at_ : H a = some (.dK (l.map fun x => (kI x, V.ref (ad x))))
  ls : ∀ x ∈ l, ML G H (ad x) (f x)
  inj : ∀ x ∈ l, ∀ y ∈ l, ad x = ad y → x = y
section
variable {G H G' H' G0 H0 : Hp} {a p : Addr} {ad : Int → Addr} {l : List Int} {f : Int → List PyData}
theorem MKL.new (h : G p = none) : MKL G (upd H p (.dK [])) p ad [] f := ⟨h, upd_same, fun x hx => (nomatch hx), fun x hx => (nomatch hx)⟩
theorem MKL.grow (h : MKL G H a ad l f) (g : Grow G H G' H') : MKL G' H' a ad l f := ⟨g.ap _ _ h.at_ nt_dK h.non, g.hh _ _ h.at_, fun x hx => (h.ls x hx).grow g, h.inj⟩
theorem MKL.growB (h : MKL G H a ad l f) (n : a ≠ p) (m : ∀ x ∈ l, ad x ≠ p) (g : GrowB p G H G' H') : MKL G' H' a ad l f := ⟨g.ap _ _ h.at_ nt_dK h.non, g.hb _ _ n h.at_, fun x hx => (h.ls x hx).growB (m x hx) g, h.inj⟩
theorem MKL.other {o : HO} (h : MKL G H a ad l f) (n : a ≠ p) (m : ∀ x ∈ l, ad x ≠ p) : MKL G (upd H p o) a ad l f := ⟨h.non, by rw [upd_ne n]; exact h.at_, fun x hx => (h.ls x hx).other (m x hx), h.inj⟩
theorem MKL.ne (h : MKL G H a ad l f) (n : H p = none) : a ≠ p ∧ ∀ x ∈ l, ad x ≠ p := ⟨ne_of_none h.at_ n, fun x hx => (h.ls x hx).ne n⟩
theorem MKL.neA (h : MKL G H a ad l f) {x : Int} (hx : x ∈ l) : a ≠ ad x := fun e => by
  obtain ⟨_, xs, h2, _⟩ := h.ls x hx
  have h1 := h.at_
  rw [e, h2] at h1
  cases h1
theorem kvs_refsK (G : Hp) (ad : Int → Addr) : ∀ l : List Int, KVs G (l.map fun x => (kI x, V.ref (ad x))) (l.map fun x => (kI x, mV (.ref (ad x))))
  | [] => trivial
  | x :: l => ⟨⟨rfl, rfl⟩, kvs_refsK G ad l⟩
theorem MKL.get (h : MKL G H a ad l f) (G : Hp) (e : Ex G H) : (mK (l.map fun x => (kI x, mV (.ref (ad x))))).p H (.ref a) := ⟨a, _, rfl, h.at_, kvs_refsK H ad l⟩
theorem MKL.app {x : Int} {ds : List PyData} (h : MKL G H a ad l f) (hx : x ∈ l) (b : GrowB (ad x) G H G' H') (m : ML G' H' (ad x) ds) : MKL G' H' a ad l (setAt f x ds) := by
  refine ⟨b.ap _ _ h.at_ nt_dK h.non, b.hb _ _ (h.neA hx) h.at_, fun y hy => ?_, h.inj⟩
  by_cases e : y = x
  · subst e
    rw [setAt_same]
    exact m
  · rw [setAt_ne e]
    exact (h.ls y hy).growB (fun z => e (h.inj y hy x hx z)) b
theorem MKL.congr {f' : Int → List PyData} (h : MKL G H a ad l f) (e : ∀ x ∈ l, f' x = f x) : MKL G H a ad l f' := ⟨h.non, h.at_, fun x hx => by rw [e x hx]; exact h.ls x hx, h.inj⟩
theorem seal_listsK (h : MKL G H a ad l f) (g : Grow G0 H0 G H) (hs : ∀ x ∈ l, H0 (ad x) = none) : ∀ l' : List Int, (∀ x ∈ l', x ∈ l) → ∃ G2, Grow G0 H0 G2 H ∧ Ex G G2 ∧ (∀ b, (∀ x ∈ l', b ≠ ad x) → G2 b = G b) ∧ ∀ x ∈ l', Dt G2 (.ref (ad x)) (.list (f x))
  | [], _ => ⟨G, g, Ex.refl G, fun _ _ => rfl, fun x hx => (nomatch hx)⟩
  | x :: l', hl => by
    obtain ⟨G1, g1, e1, n1, d1⟩ := seal_listsK h g hs l' fun y hy => hl y (List.mem_cons_of_mem _ hy)
    by_cases hx : x ∈ l'
    · exact ⟨G1, g1, e1, fun b hb => n1 b fun y hy => hb y (List.mem_cons_of_mem _ hy), fun y hy => by
        rcases List.mem_cons.mp hy with z | z
        · rw [z]
          exact d1 x hx
        · exact d1 y z⟩
    · have hxl := hl x List.mem_cons_self
      obtain ⟨h1, xs, h2, h3⟩ := h.ls x hxl
      have hn : G1 (ad x) = none := by
        rw [n1 (ad x) fun y hy z => hx (by rw [h.inj x hxl y (hl y (List.mem_cons_of_mem _ hy)) z]; exact hy)]
        exact h1
      refine ⟨upd G1 (ad x) (.lst xs), g1.put (hs x hxl) hn h2, e1.trans (Ex.upd1 hn), fun b hb => ?_, fun y hy => ?_⟩
      · rw [upd_ne (hb x List.mem_cons_self)]
        exact n1 b fun y hy => hb y (List.mem_cons_of_mem _ hy)
      · rcases List.mem_cons.mp hy with z | z
        · rw [z]
          exact .lst upd_same (h3.mono (e1.trans (Ex.upd1 hn)))
        · exact (d1 y z).mono (Ex.upd1 hn)
theorem kvs_listsK {G : Hp} : ∀ l : List Int, (∀ x ∈ l, Dt G (.ref (ad x)) (.list (f x))) → KVs G (l.map fun x => (kI x, V.ref (ad x))) (l.map fun x => (kI x, mD (.list (f x))))
  | [], _ => trivial
  | x :: l, h => ⟨⟨rfl, h x List.mem_cons_self⟩, kvs_listsK l fun y hy => h y (List.mem_cons_of_mem _ hy)⟩
theorem MKL.seal (h : MKL G H a ad l f) (g : Grow G0 H0 G H) (h0 : H0 a = none) (hs : ∀ x ∈ l, H0 (ad x) = none) :
    ∃ G2, Grow G0 H0 G2 H ∧ Ex G G2 ∧ (∀ b, b ≠ a → (∀ x ∈ l, b ≠ ad x) → G2 b = G b) ∧ (mK (l.map fun x => (kI x, mD (.list (f x))))).p G2 (.ref a) := by
  obtain ⟨G1, g1, e1, n1, d1⟩ := seal_listsK h g hs l fun x hx => hx
  have hn : G1 a = none := by
    rw [n1 a fun x hx => h.neA hx]
    exact h.non
  exact ⟨upd G1 a _, g1.put h0 hn h.at_, e1.trans (Ex.upd1 hn), fun b b1 b2 => by rw [upd_ne b1]; exact n1 b b2, a, _, rfl, upd_same, kvs_listsK l fun x hx => (d1 x hx).mono (Ex.upd1 hn)⟩
end
section
variable {K : PySem.W.Frag} {σ : L2.St} {G H : Hp} {td tk te tl : TE} {D : Ends} {tz : TS} {a : Addr} {ad : Int → Addr} {l : List Int} {f : Int → List PyData} {y : Int}
/-- d[y] = [] -/
theorem s_putNewK (hl : MKL G H a ad l f) (e : Ex G H) (hd : Ev td σ G H (mV (.ref a))) (hk : Ev tk σ G H (mD (.int y))) (hy : y ∉ l) (hz : l.length ≤ 100000)
    (k : ∀ p G1 H1, H p = none → GrowB a G H G1 H1 → MKL G1 H1 a (setAt ad y p) (l ++ [y]) (setAt f y []) → D.nx σ H1) : sDPut td tk (tLst tNil) D σ H := by
  refine ⟨Nat.zero_le _, fun p hp => ?_⟩
  have np := e.non hp
  have g0 : Grow G H G (upd H p (.lst [])) := (Grow.refl e).mut hp np
  refine hd G _ g0 _ fun x G1 H1 g1 hx => hk G1 H1 (g0.trans g1) _ fun z G2 H2 g2 hz2 => ?_
  obtain rfl := hx
  have g12 := g1.trans g2
  have gall := g0.trans g12
  obtain ⟨n1, n2⟩ := hl.ne hp
  have h2 := (hl.other (o := .lst []) n1 n2).grow g12
  have m2 := (ML.new (H := H) np).grow g12
  have ez2 : z = kV (kI y) := Dt.int_iff.mp hz2
  have hv : valV (l.map fun x => (kI x, V.ref (ad x))) (kI y) = none := (kvs_refsK G2 ad l).look.2 (look_kI_none hy)
  refine ⟨a, _, rfl, by rw [ez2]; exact DPut.k (k := kI y) h2.at_ (by rw [List.length_map]; exact line_lt hz), k p G2 _ hp (.of gall h2.non) ⟨h2.non, ?_, fun x hx => ?_, fun x hx x' hx' ez => ?_⟩⟩
  · rw [upd_same, putK_new _ hv, List.map_append]
    have e1 : (l.map fun x => (kI x, V.ref (ad x))) = l.map fun x => (kI x, V.ref (setAt ad y p x)) := List.map_congr_left fun x hx => by
      rw [setAt_ne (fun e => hy (by rw [← e]; exact hx))]
    have e2 : [(kI y, V.ref p)] = [y].map fun x => (kI x, V.ref (setAt ad y p x)) := by
      rw [List.map_cons, setAt_same]
      rfl
    rw [e1, e2]
  · rcases List.mem_append.mp hx with hx | hx
    · have ne : x ≠ y := fun e => hy (by rw [← e]; exact hx)
      rw [setAt_ne ne, setAt_ne ne]
      exact (h2.ls x hx).other (Ne.symm (h2.neA hx))
    · rw [List.mem_singleton.mp hx, setAt_same, setAt_same]
      refine m2.other fun e => ?_
      obtain ⟨_, xs, q, _⟩ := m2
      have q2 := h2.at_
      rw [← e, q] at q2
      cases q2
  · have hc : ∀ x ∈ l ++ [y], x ≠ y → x ∈ l := fun x hx ne => by
      rcases List.mem_append.mp hx with hx | hx
      · exact hx
      · exact absurd (List.mem_singleton.mp hx) ne
    by_cases e1 : x = y
    · by_cases e2 : x' = y
      · rw [e1, e2]
      · rw [e1, setAt_same, setAt_ne e2] at ez
        exact absurd ez.symm (n2 x' (hc x' hx' e2))
    · by_cases e2 : x' = y
      · rw [e2, setAt_same, setAt_ne e1] at ez
        exact absurd ez (n2 x (hc x hx e1))
      · rw [setAt_ne e1, setAt_ne e2] at ez
        exact hl.inj x (hc x hx e1) x' (hc x' hx' e2) ez
/-- d[y] where the values are lists that change -/
theorem ev_getK (hl : MKL G H a ad l f) (e : Ex G H) (hd : Ev td σ H H (mV (.ref a))) (hk : Ev tk σ H H (mD (.int y))) (hy : y ∈ l) : Ev (tDGet td tk) σ G H (mV (.ref (ad y))) :=
  Ev.now (ev_dgetK (k := kI y) (l := l.map fun x => (kI x, mV (.ref (ad x)))) (Ev.val hd (hl.get G e)) hk (look_kI hy)) (flat_V _) e
end

/-! ### the script; lists turned round; isinstance -/
inductive ScrAt (K : PySem.W.Frag) (G : Hp) (ns : List Int) : V → Prop
  | mk {a : Addr} (h : SqL K G a (ns.map V.int)) : ScrAt K G ns (.ref a)
theorem sql_ex {K : PySem.W.Frag} {G H : Hp} {a : Addr} {xs : List V} (h : SqL K G a xs) (e : Ex G H) : SqL K H a xs := h.elim (fun h => .inl (h.elim (fun h => .inl (e _ _ h)) fun ⟨o, h⟩ => .inr ⟨o, e _ _ h⟩)) .inr
theorem ScrAt.mono {K : PySem.W.Frag} {G H : Hp} {ns : List Int} {v : V} (e : Ex G H) : ScrAt K G ns v → ScrAt K H ns v
  | .mk h => .mk (sql_ex h e)
theorem ScrAt.inv {K : PySem.W.Frag} {G : Hp} {ns : List Int} {v : V} : ScrAt K G ns v → ∃ a, v = .ref a ∧ SqL K G a (ns.map V.int)
  | .mk h => ⟨_, rfl, h⟩
def mScript (K : PySem.W.Frag) (ns : List Int) : MP := ⟨fun G v => ScrAt K G ns v, fun e h => h.mono e⟩
section
variable {K : PySem.W.Frag} {σ : L2.St} {G H : Hp} {te tb : TE}
theorem ev_lenS {ns : List Int} (h : Ev te σ G H (mScript K ns)) : Ev (tCB (rLenS K) (tCons te tNil)) σ G H (mD (.int (ns.length : Int))) := fun G1 H1 g Q k => h G1 H1 g _ fun v G2 H2 g2 hv => by
  obtain ⟨a, ea, h1⟩ := ScrAt.inv hv
  subst ea
  have hs : SqL K H2 a (ns.map V.int) := sql_ex h1 g2.gh
  have hq := k (.int (ns.length : Int)) G2 H2 g2 (.int _)
  have el : (V.int (ns.length : Int)) = V.int ((ns.map V.int).length : Int) := by rw [List.length_map]
  rw [el] at hq
  exact ⟨a, ns.map V.int, rfl, .inl hs, hq⟩
theorem ev_ixS {ns : List Int} {j : Nat} {i : Int} (h : Ev te σ G H (mScript K ns)) (hj : ns[j]? = some i) (hk : Ev tb σ G H (mD (.int (j : Int)))) : Ev (tOp (rIxL K) te tb) σ G H (mD (.int i)) :=
  ev_op h hk (rv_now fun x y G1 H1 g hx hy => by
    obtain ⟨a, ea, h1⟩ := ScrAt.inv hx
    subst ea
    obtain rfl := Dt.int_iff.mp hy
    refine ⟨.int i, .int i, fun Q k => ⟨a, _, (j : Int), .int i, rfl, rfl, sql_ex h1 g.gh, ?_, k⟩⟩
    exact atI_nat (by rw [List.getElem?_map, hj]; rfl))
theorem DtL.reverse {G : Hp} : ∀ {vs : List V} {ds : List PyData}, DtL G vs ds → DtL G vs.reverse ds.reverse
  | _, _, .nil => .nil
  | _, _, .cons h r => by
    rw [List.reverse_cons, List.reverse_cons]
    exact (DtL.reverse r).snoc h
theorem ev_listRev {ds : List PyData} (h : Ev te σ G H (mD (.list ds))) : Ev (tListRev K te) σ G H (mD (.list ds.reverse)) := fun G1 H1 g Q k => h G1 H1 g _ fun v G2 H2 g2 hv => by
  obtain ⟨a, xs, rfl, h1, h2⟩ := Dt.lst_inv hv
  refine ⟨a, xs, rfl, SqL.of (g2.gh _ _ h1), fun q hq => ?_⟩
  have g3 : Grow G2 H2 (upd G2 q (.lst xs.reverse)) (upd H2 q (.lst xs.reverse)) := Grow.new g2.gh hq
  exact k _ _ _ (g2.trans g3) (.lst upd_same ((h2.reverse).mono g3.gg))
theorem kit_tup (K : PySem.W.Frag) : PySem.W.kitOne K (.type "tuple") (.type "tuple") = some true := by
  unfold PySem.W.kitOne
  exact if_pos (by decide +kernel)
theorem ev_is1 {ds : List PyData} {n : String} (hk : PySem.W.kitOne K (.type "tuple") (.type n) = some true) (h : Ev te σ G H (mD (.tuple ds))) : Ev (tCB (rIsi K) (tCons te (tCons (tC (.ty n)) tNil))) σ G H (mD (.bool true)) := fun G1 H1 g Q k => h G1 H1 g _ fun v G2 H2 g2 hv => by
  obtain ⟨a, xs, rfl, h1, h2⟩ := Dt.tup_inv hv
  have hq := k (.bl true) G2 H2 g2 (.bl _)
  have ty : TyX K H2 (.ref a) (.type "tuple") := .base (.tup (g2.gh _ _ h1))
  exact ⟨.ref a, .ty n, _, .type n, true, rfl, .ty n, ty, hk, hq⟩
theorem ev_isT {ds : List PyData} (h : Ev te σ G H (mD (.tuple ds))) : Ev (tCB (rIsi K) (tCons te (tCons (tC (.ty "tuple")) tNil))) σ G H (mD (.bool true)) := ev_is1 (kit_tup K) h
end

/-! ### some int -/
section
variable {K : PySem.W.Frag} {σ : L2.St} {G H : Hp} {te tb : TE} {P R : Int → Prop} {j : Int}
theorem rv_MI {C : Int → Int → Prop} {f : Int → Int → Int} (h : ∀ i, P i → C i j ∧ R (f i j)) : RV (rI C fun i j => .int (f i j)) G H (mInt P) (mD (.int j)) (mInt R) := rv_now fun x y G1 H1 g hx hy => by
  obtain ⟨i, rfl, p⟩ := mInt_inv hx
  exact ⟨.int (f i j), ⟨_, ⟨_, rfl, (h i p).2⟩, .int _⟩, fun Q q => ⟨i, j, rfl, Dt.int_iff.mp hy, (h i p).1, q⟩⟩
theorem rv_MI0 {f : Int → Int → Int} (h : ∀ i, P i → R (f i j)) : RV (rI0 fun i j => .int (f i j)) G H (mInt P) (mD (.int j)) (mInt R) := rv_now fun x y G1 H1 g hx hy => by
  obtain ⟨i, rfl, p⟩ := mInt_inv hx
  exact ⟨.int (f i j), ⟨_, ⟨_, rfl, h i p⟩, .int _⟩, fun Q q => ⟨i, j, rfl, Dt.int_iff.mp hy, q⟩⟩
def mB : MP := mDs fun d => ∃ b : Bool, d = .bool b
theorem rv_eqMI : RV rEq G H (mInt P) (mD (.int j)) mB := rv_now fun x y G1 H1 g hx hy => by
  obtain ⟨i, rfl, p⟩ := mInt_inv hx
  obtain rfl := Dt.int_iff.mp hy
  exact ⟨.bl (decide (V.int i = V.int j)), ⟨_, ⟨_, rfl⟩, .bl _⟩, fun Q q => ⟨rfl, q⟩⟩
/-- a test whose answer is not told -/
def ETE (tt : TT) (σ : L2.St) (G H : Hp) : Prop := ∀ G1 H1, Grow G H G1 H1 → ∀ Q : Bool → Hp → Prop, (∀ b G2 H2, Grow G1 H1 G2 H2 → Q b H2) → tt σ H1 Q
theorem et_testE (h : Ev te σ G H mB) : ETE (tTest te) σ G H := fun G1 H1 g Q k => h G1 H1 g _ fun v G2 H2 g2 ⟨d, ⟨b, e⟩, hv⟩ => by
  subst e
  exact ⟨b, Dt.bl_iff.mp hv, k b G2 H2 g2⟩
theorem s_whenE {D : Ends} {t : TT} {tu : TS} (h : ETE t σ G H) (e : Ex G H) (h1 : ∀ G1 H1, Grow G H G1 H1 → tu D σ H1) (h2 : ∀ G1 H1, Grow G H G1 H1 → D.nx σ H1) : tIfS t tu tNext D σ H := h G H (Grow.refl e) _ fun b G1 H1 g => by
  cases b with
  | true =>
    rw [if_pos rfl]
    exact h1 G1 H1 g
  | false =>
    rw [if_neg Bool.false_ne_true]
    exact h2 G1 H1 g
end

/-! ### arguments by their number -/
section
variable {G : Hp} {m1 m2 m3 m4 : MP} {vs : List V}
theorem AllP.inv1 (h : AllP G [m1] vs) : ∃ v1, vs = [v1] ∧ m1.p G v1 := by
  match vs, h with
  | [v1], ⟨h1, _⟩ => exact ⟨v1, rfl, h1⟩
theorem AllP.inv2 (h : AllP G [m1, m2] vs) : ∃ v1 v2, vs = [v1, v2] ∧ m1.p G v1 ∧ m2.p G v2 := by
  match vs, h with
  | [v1, v2], ⟨h1, h2, _⟩ => exact ⟨v1, v2, rfl, h1, h2⟩
theorem AllP.inv3 (h : AllP G [m1, m2, m3] vs) : ∃ v1 v2 v3, vs = [v1, v2, v3] ∧ m1.p G v1 ∧ m2.p G v2 ∧ m3.p G v3 := by
  match vs, h with
  | [v1, v2, v3], ⟨h1, h2, h3, _⟩ => exact ⟨v1, v2, v3, rfl, h1, h2, h3⟩
theorem AllP.inv4 (h : AllP G [m1, m2, m3, m4] vs) : ∃ v1 v2 v3 v4, vs = [v1, v2, v3, v4] ∧ m1.p G v1 ∧ m2.p G v2 ∧ m3.p G v3 ∧ m4.p G v4 := by
  match vs, h with
  | [v1, v2, v3, v4], ⟨h1, h2, h3, h4, _⟩ => exact ⟨v1, v2, v3, v4, rfl, h1, h2, h3, h4⟩
end

/-! ### operators with their conditions -/
section
variable {G H : Hp} {i j : Int}
theorem rv_mod (h : 0 < j) : RV (rI (fun _ j => 0 < j) fun i j => .int (i % j)) G H (mD (.int i)) (mD (.int j)) (mD (.int (i % j))) := rv_I (C := fun _ j => 0 < j) h
theorem rv_fdiv (h : CDiv i j) : RV (rI CDiv fun i j => .int (i / j)) G H (mD (.int i)) (mD (.int j)) (mD (.int (i / j))) := rv_I h
theorem rv_mul (h : CMul i j) : RV (rI CMul fun i j => .int (i * j)) G H (mD (.int i)) (mD (.int j)) (mD (.int (i * j))) := rv_I h
theorem rv_pow (h : CPow i j) : RV (rI CPow fun i j => .int (i ^ j.toNat)) G H (mD (.int i)) (mD (.int j)) (mD (.int (i ^ j.toNat))) := rv_I h
theorem rv_shr (h : 0 ≤ j) : RV (rI (fun _ j => 0 ≤ j) fun i j => .int (i / 2 ^ j.toNat)) G H (mD (.int i)) (mD (.int j)) (mD (.int (i / 2 ^ j.toNat))) := rv_I (C := fun _ j => 0 ≤ j) h
theorem rv_and : RV (rI0 fun i j => .int (Builtin.bitAnd i j)) G H (mD (.int i)) (mD (.int j)) (mD (.int (Builtin.bitAnd i j))) := rv_I0
theorem rv_add : RV (rI0 fun i j => .int (i + j)) G H (mD (.int i)) (mD (.int j)) (mD (.int (i + j))) := rv_I0
theorem rv_sub : RV (rI0 fun i j => .int (i - j)) G H (mD (.int i)) (mD (.int j)) (mD (.int (i - j))) := rv_I0
theorem cd (i : Int) {j : Int} (h1 : 0 < j) (h2 : j < 1073741824) : CDiv i j := ⟨h1, h2⟩
end

theorem ML.retE {G0 H0 G H : Hp} {l : Addr} {ds : List PyData} (h : ML G H l ds) (g : Grow G0 H0 G H) (h0 : H0 l = none) : ∃ G2, Grow G0 H0 G2 H ∧ Ex G G2 ∧ (∀ b, b ≠ l → G2 b = G b) ∧ Dt G2 (.ref l) (.list ds) := by
  obtain ⟨h1, xs, h2, h3⟩ := h
  exact ⟨_, g.put h0 h1 h2, Ex.upd1 h1, fun b hb => upd_ne hb, .lst upd_same (h3.mono (Ex.upd1 h1))⟩

/-! ### lists of which something is known -/
def mL (P : List PyData → Prop) : MP := mDs fun x => ∃ ds, x = .list ds ∧ P ds
section
variable {K : PySem.W.Frag} {σ : L2.St} {G H : Hp} {te tb : TE} {P R S : List PyData → Prop}
theorem rv_catM (h : ∀ a b, P a → R b → S (a ++ b) ∧ a.length + b.length ≤ 100000) : RV rCat G H (mL P) (mL R) (mL S) := fun x y G1 H1 g hx hy Q k => by
  obtain ⟨d, ⟨ds, rfl, p⟩, hx⟩ := hx
  obtain ⟨e, ⟨es, rfl, r⟩, hy⟩ := hy
  obtain ⟨s, z⟩ := h ds es p r
  exact rv_cat z x y G1 H1 g hx hy Q fun v G2 H2 g2 hv => k v G2 H2 g2 ⟨_, ⟨_, rfl, s⟩, hv⟩
theorem ev_mL {ds : List PyData} (h : Ev te σ G H (mD (.list ds))) (p : P ds) : Ev te σ G H (mL P) := Ev.imp h fun G v hv => ⟨_, ⟨ds, rfl, p⟩, hv⟩
end

section
variable {K : PySem.W.Frag} {σ : L2.St} {G H : Hp} {te tb : TE} {P R S : List PyData → Prop} {tl th : TO} {lo hi : Option Int}
theorem ev_slM (h : Ev te σ G H (mL P)) (h1 : EvO tl σ G H lo) (h2 : EvO th σ G H hi) : Ev (tSl (rSlL K) te tl th) σ G H (mL fun ds => ∃ es, P es ∧ ds = cutD es lo hi) := fun G1 H1 g Q k => h G1 H1 g _ fun v G2 H2 g2 ⟨d, ⟨es, ed, p⟩, hv⟩ => by
  subst ed
  refine h1 G2 H2 (g.trans g2) _ fun G3 H3 g3 => h2 G3 H3 ((g.trans g2).trans g3) _ fun G4 H4 g4 => ?_
  obtain ⟨a, xs, rfl, q1, q2⟩ := Dt.lst_inv (Dt.mono g4.gg (Dt.mono g3.gg hv))
  refine ⟨a, xs, rfl, SqL.of (g4.gh _ _ q1), fun p hp => ?_⟩
  have g5 : Grow G4 H4 (upd G4 p (.lst (cutV xs lo hi))) (upd H4 p (.lst (cutV xs lo hi))) := Grow.new g4.gh hp
  exact k _ _ _ (((g2.trans g3).trans g4).trans g5) ⟨_, ⟨_, rfl, es, ‹_›, rfl⟩, .lst upd_same ((q2.mono g5.gg).cut lo hi)⟩
/-- .. determined -/
theorem ev_det {es : List PyData} {P : List PyData → Prop} (h : Ev te σ G H (mDs fun x => ∃ ds, x = .list ds ∧ P ds)) (q : ∀ ds, P ds → ds = es) : Ev te σ G H (mD (.list es)) := Ev.imp h fun G v ⟨d, ⟨ds, ed, p⟩, hv⟩ => by
  subst ed
  rw [q ds p] at hv
  exact hv
theorem ev_mLs (h : Ev te σ G H (mDs fun x => ∃ ds, x = .list ds ∧ P ds)) : Ev te σ G H (mL P) := h
end
end Sk
/-! Sk_order_of -/
namespace Sk
open PySem PySem.Spec PyProof.Rows L2
open Evl (pss_cut tCut)
theorem eqv_nilL (ds : List PyData) : PyData.eqv (.list ds) (.list []) = ds.isEmpty := by
  cases ds <;> simp [PyData.eqv, PyData.eqvAll]
theorem shaped_nodes (l : List Node) : SeqAt.shaped (.list (l.map pD)) = true := by
  have h1 : PyData.canLayAll0 (l.map pD) = true := by
    induction l with
    | nil => rfl
    | cons a l ih =>
      have ih' : PyData.canLayAll0 (l.map pD) = true := ih
      simp [PyData.canLayAll0, PyData.canLay0] at ih' ⊢
      exact ih'
  have h2 : PyData.depthAll (l.map pD) ≤ 30 := depthAll_le (flat_nodes l)
  unfold SeqAt.shaped
  simp [PyData.canLay0, h1, PyData.depth]
  omega
theorem open_preds (pairs : List (Node × Node)) (x : Node) : open_ pairs [] x = (preds pairs x).length := by
  rw [open_nil]
  unfold preds
  rw [List.length_map]
theorem Kahn.start {nodes : List Node} {pairs : List (Node × Node)} (nd : nodes.Nodup) : Kahn nodes pairs (fun x => ((preds pairs x).length : Int)) (nodes.filter fun x => decide (((preds pairs x).length : Int) = 0)) [] := by
  refine ⟨List.nodup_nil, fun x hx => (nomatch hx), nd.filter _, fun x hx => (List.mem_filter.mp hx).1, fun x _ hx => (nomatch hx), fun x _ => by rw [open_preds], fun x hx _ h0 => List.mem_filter.mpr ⟨hx, decide_eq_true h0⟩, fun x hx => of_decide_eq_true (List.mem_filter.mp hx).2, fun l1 x l2 e => ?_⟩
  cases l1 <;> cases e
theorem kstep_len (l : List Node) : ∀ s : (Node → Int) × List Node, (l.foldl kstep s).2.length ≤ s.2.length + l.length := by
  induction l with
  | nil => intro s; exact Nat.le_refl _
  | cons a l ih =>
    intro s
    have h := ih (kstep s a)
    have h2 : (kstep s a).2.length ≤ s.2.length + 1 := by
      show (if s.1 a - 1 = 0 then s.2 ++ [a] else s.2).length ≤ _
      split
      · rw [List.length_append]; exact Nat.le_refl _
      · omega
    rw [List.foldl_cons, List.length_cons]
    omega
theorem ET_eq0 {σ : L2.St} {G H : Hp} {te : TE} {i j : Int} (h : Ev te σ G H (mD (.int i))) (e : i = j) : Ev (tOp rEq te (tC (.int 0))) σ G H (mD (.bool (decide (j = 0)))) := by
  subst e
  exact ev_op h ev_int rv_eqI
theorem ers_eq (n : Node) : ∀ l : List Node, @List.erase Node instBEqOfDecidableEq l n = l.erase n
  | [] => rfl
  | a :: l => by
    have ih := ers_eq n l
    by_cases e : a = n
    · subst e
      simp
    · have e1 : @BEq.beq Node instBEqOfDecidableEq a n = false := decide_eq_false e
      have e2 : @BEq.beq Node instBEqProd a n = false := by simpa using e
      show (match @BEq.beq Node instBEqOfDecidableEq a n with | true => l | false => a :: @List.erase Node instBEqOfDecidableEq l n) = (match @BEq.beq Node instBEqProd a n with | true => l | false => a :: l.erase n)
      rw [e1, e2, ih]
theorem take_snoc {A : Type} {l : List A} {i : Nat} {a : A} (h : l[i]? = some a) : l.take (i + 1) = l.take i ++ [a] := by
  rw [List.take_add_one, h]
  rfl
theorem not_take {A : Type} {l : List A} (nd : l.Nodup) {i : Nat} {a : A} (h : l[i]? = some a) : a ∉ l.take i := fun hm => by
  obtain ⟨hi, e⟩ := List.getElem?_eq_some_iff.mp h
  have e2 : l = l.take i ++ a :: l.drop (i + 1) := by
    rw [← e, List.getElem_cons_drop, List.take_append_drop]
  rw [e2] at nd
  have := (List.nodup_append.mp nd).2.2 a hm a List.mem_cons_self
  exact this rfl
theorem map_some {A B : Type} {f : A → B} {l : List A} {i : Nat} {b : B} (h : (l.map f)[i]? = some b) : ∃ a, l[i]? = some a ∧ b = f a := by
  rw [List.getElem?_map] at h
  cases q : l[i]? with
  | none =>
    rw [q] at h
    cases h
  | some a =>
    rw [q] at h
    cases h
    exact ⟨a, rfl, rfl⟩
abbrev sucL (nodes : List Node) (pairs : List (Node × Node)) : List (List Key × MP) := nodes.map fun x => (nk x, mD (.list ((succs pairs x).map pD)))
section
variable {P : Program} {w : World} {K : PySem.W.Frag} {mg : Str → Option Value} {base : Heap}
abbrev s_order_of : Stmt := top 12
abbrev N_order_of : List Str := ["nodes", "pairs", "waiting", "behind", "node", "one", "other", "ready", "found"]
theorem sc_order_of : FnScope N_order_of ["nodes", "pairs"] (defScope s_order_of) := ⟨rfl, rfl, rfl, by decide +kernel, rfl, by decide +kernel, by decide +kernel⟩
abbrev sp_order_of : Sp := mkSp (α := List Node × List (Node × Node)) (fun y => [mD (.list (y.1.map pD)), mD (.list (y.2.map ppD))]) (fun y => y.1.Nodup ∧ y.1.length ≤ 1000 ∧ y.2.length ≤ 50000 ∧ ∀ p ∈ y.2, p.1 ∈ y.1 ∧ p.2 ∈ y.1) (fun y => mDs fun d => (d = .none ∧ Stuck y.1 y.2) ∨ (Ranked y.2 ∧ ∃ l : List Node, d = .list (l.map pD)))
theorem own_order_of  (A : DefAt K mg "order_of" s_order_of []) (z_min : mg "min" = none) (z_len : mg "len" = none) : Own P w K mg base "order_of" 1 ["nodes", "pairs"] [] sp_order_of := by
  have sc := sc_order_of
  refine own_mk A sc (fun _ _ _ _ _ _ us hl => match us, hl with | [_, _], _ => rfl) (fun _ => rfl) fun f cdv Ar outer s H E y G vs Q hr hok hGH hv k => ?_
  match vs, hv with
  | [v1, v2], ⟨h1, h2, _⟩ =>
  refine ⟨_, (pss_cons (ps_set (i := 2) sc.nd rfl (Or.inr rfl) pe_dnewT)
 (pss_cons (ps_set (i := 3) sc.nd rfl (Or.inl rfl) pe_dnewT)
 (pss_cons (ps_for PassesOwn.never rfl (pi_list (pv 0)) (pg_name (i := 4) sc.nd rfl (Or.inl rfl)) (pss_cons (ps_dput (hu_of hr) (pv 2) (pv 4) pe_int rfl)
 (pss_one (ps_dput (hu_of hr) (pv 3) (pv 4) (pe_lst pa_nil) rfl))))
 (pss_cons (ps_for PassesOwn.never rfl (pi_list (pv 1)) (pg_tup rfl (pgs_cons (pg_name (i := 5) sc.nd rfl (Or.inl rfl)) (pgs_cons (pg_name (i := 6) sc.nd rfl (Or.inl rfl)) pgs_nil))) (pss_cons (ps_daug (hu_of hr) (pv 2) (pv 6) pe_int in_add (fun _ _ _ => rfl))
 (pss_one (ps_expr (pe_bm PySem.F.plainAttrs_list PySem.F.slot_list_append PySem.F.type_list_append mt_append (pe_dget (hu_of hr) (pv 3) (pv 5) (fun _ _ => rfl)) (pa_cons (pv 6) pa_nil))))))
 (pss_cons (ps_setLc (i := 7) (own := [("node", 4)]) (g := gName 4) rfl sc.nd rfl rfl (sw_true rfl rfl rfl (by decide +kernel)) (pi_list (pv 0)) (blkOk_by (own := [("node", 4)]) (N := N_order_of) (sc := defScope s_order_of) (by decide +kernel)) (fun _ _ _ _ _ => (pg_name (i := 4) sc.nd rfl (Or.inl rfl))) (fun _ _ _ _ _ => (pts_one (pt_cmpR op_eq (pe_dget (hu_of hr) (pv 2) (pv 4) (fun _ _ => rfl)) pe_int (nomark _)))) (fun _ _ _ _ _ => (pv 4)))
 (pss_cons (ps_set (i := 8) sc.nd rfl (Or.inl rfl) (pe_lst pa_nil))
 (pss_cons (ps_while PassesOwn.never (pt_cmpR (op_neD hr.units) (pv 7) (pe_lst pa_nil) (nomark _)) (pss_cons (ps_set (i := 4) sc.nd rfl (Or.inl rfl) (pe_callB (cr_minD rfl hr.units) (by rfl) z_min (by decide +kernel) (pa_cons (pv 7) pa_nil)))
 (pss_cons (ps_expr (pe_bm PySem.F.plainAttrs_list PySem.F.slot_list_remove PySem.F.type_list_remove (mt_removeD hr.units) (pv 7) (pa_cons (pv 4) pa_nil)))
 (pss_cons (ps_expr (pe_bm PySem.F.plainAttrs_list PySem.F.slot_list_append PySem.F.type_list_append mt_append (pv 8) (pa_cons (pv 4) pa_nil)))
 (pss_one (ps_for PassesOwn.never rfl (pi_list (pe_dget (hu_of hr) (pv 3) (pv 4) (fun _ _ => rfl))) (pg_name (i := 6) sc.nd rfl (Or.inl rfl)) (pss_cons (ps_daug (hu_of hr) (pv 2) (pv 6) pe_int in_sub (fun _ _ _ => rfl))
 (pss_one (ps_if (pt_cmpR op_eq (pe_dget (hu_of hr) (pv 2) (pv 6) (fun _ _ => rfl)) pe_int (nomark _)) (pss_one (ps_expr (pe_bm PySem.F.plainAttrs_list PySem.F.slot_list_append PySem.F.type_list_append mt_append (pv 7) (pa_cons (pv 6) pa_nil)))) pss_nil)))))))))
 (pss_cons (ps_if (pt_cmpR op_lt (pe_callB call_len_seq (by rfl) z_len PySem.boot_len (pa_cons (pv 8) pa_nil)) (pe_callB call_len_seq (by rfl) z_len PySem.boot_len (pa_cons (pv 0) pa_nil)) (nomark _)) (pss_one (ps_ret pe_non)) pss_nil)
 (pss_one (ps_ret (pv 8))))))))))), ?_⟩
  obtain ⟨nodes, pairs⟩ := y
  obtain ⟨nd, nz, pz, he⟩ := hok
  have nd : nodes.Nodup := nd
  have nz : nodes.length ≤ 1000 := nz
  have pz : pairs.length ≤ 50000 := pz
  have he : ∀ p ∈ pairs, p.1 ∈ nodes ∧ p.2 ∈ nodes := he
  refine q_newT hGH fun pw hpw hpw0 => ?_
  have g1 : Grow G H G (upd H pw (.dT [])) := (Grow.refl hGH).mut hpw hpw0
  refine q_newT g1.gh fun pb hpb' hpb0 => ?_
  have hpb : H pb = none := g1.hh.non hpb'
  have nwb : pw ≠ pb := ne_of_none (upd_same (H := H) (o := .dT [])) hpb'
  have g2 : Grow G H G (upd (upd H pw (.dT [])) pb (.dT [])) := g1.mut hpb hpb0
  refine q_forDn (ev_var rfl h1) g2.gh (fun i σ' G' H' => ∃ u4 ad, σ' = [some v1, some v2, some (.ref pw), some (.ref pb), u4, none, none, none, none] ∧ Grow G H G' H' ∧ MT G' H' pw (wL (nodes.take i) fun _ => 0) ∧ MTL G' H' pb ad (nodes.take i) (fun _ => []) ∧ ∀ x ∈ nodes.take i, H (ad x) = none) ?_ ?_ ?_
  · intro G3 H3 g3
    exact ⟨none, fun _ => pb, rfl, g2.trans g3, ((MT.new hpw0).other nwb).grow g3, (MTL.new hpb0).grow g3, fun x hx => by simp at hx⟩
  · rintro Gs i d x σ' G' H' hi hx x1 x2 ⟨u4, ad, rfl, g', mw, mb, fr⟩
    obtain ⟨n, hn, rfl⟩ := map_some hi
    have nt := not_take nd hn
    have hil := (List.getElem?_eq_some_iff.mp hn).1
    refine q_putT (ks := nk n) (m := mD (.int 0)) mw x2 ev_int (ev_varV rfl) (ev_var rfl hx) (by rw [List.length_map, List.length_take]; omega) fun G3 H3 b3 mw3 => ?_
    rw [put_wL_new nt] at mw3
    have e0 : setAt (fun _ : Node => (0 : Int)) n 0 = fun _ => 0 := by
      funext z
      unfold setAt
      split <;> rfl
    rw [e0, ← take_snoc hn] at mw3
    have gw := g'.thenB hpw b3
    have nadw : ∀ y ∈ nodes.take i, ad y ≠ pw := fun y hy e => by
      obtain ⟨_, xs, q, _⟩ := mb.ls y hy
      obtain ⟨_, kv, q2, _⟩ := mw
      rw [e, q2] at q
      cases q
    have mb3 := mb.growB (Ne.symm nwb) nadw b3
    refine s_putNewL mb3 gw.gh (ev_varV rfl) (ev_var rfl (Dt.mono b3.gg hx)) nt (by rw [List.length_take]; omega) fun p G4 H4 hp b4 mb4 => ?_
    rw [← take_snoc hn] at mb4
    have e1 : setAt (fun _ : Node => ([] : List PyData)) n [] = fun _ => [] := by
      funext z
      unfold setAt
      split <;> rfl
    rw [e1] at mb4
    refine ⟨G4, (x1.trans b3.gg).trans b4.gg, b4.gh, some x, setAt ad n p, rfl, gw.thenB hpb b4, mw3.growB nwb b4, mb4, fun y hy => ?_⟩
    by_cases e : y = n
    · rw [e, setAt_same]
      exact gw.hh.non hp
    · rw [setAt_ne e]
      refine fr y ?_
      rw [take_snoc hn] at hy
      rcases List.mem_append.mp hy with hy | hy
      · exact hy
      · exact absurd (List.mem_singleton.mp hy) e
  rintro σ' G3 H3 x3 ⟨u4, ad, rfl, g3, mw, mb, fr⟩
  rw [List.length_map, List.take_length] at mw mb fr
  have nadw : ∀ {G' H' : Hp} {w f}, MT G' H' pw (wL nodes w) → MTL G' H' pb ad nodes f → ∀ y ∈ nodes, ad y ≠ pw := fun mw mb y hy e => by
    obtain ⟨_, xs, q, _⟩ := mb.ls y hy
    obtain ⟨_, kv, q2, _⟩ := mw
    rw [e, q2] at q
    cases q
  have hna := nadw mw mb
  refine q_forD (ev_var rfl (Dt.mono g3.gg h2)) x3 (fun i σ' G' H' => ∃ u4 u5 u6, σ' = [some v1, some v2, some (.ref pw), some (.ref pb), u4, u5, u6, none, none] ∧ Grow G H G' H' ∧ MT G' H' pw (wL nodes fun x => ((preds (pairs.take i) x).length : Int)) ∧ MTL G' H' pb ad nodes (fun x => (succs (pairs.take i) x).map pD)) ?_ ?_ ?_
  · intro G4 H4 g4
    exact ⟨u4, none, none, rfl, g3.trans g4, mw.grow g4, mb.grow g4⟩
  · rintro Gs i d x σ' G' H' hi hx x1 x2 ⟨u4, u5, u6, rfl, g', mw, mb⟩
    obtain ⟨⟨n, o⟩, hn, rfl⟩ := map_some hi
    obtain ⟨hen, heo⟩ := he _ (List.mem_of_getElem? hn)
    refine g_2 hx x2 fun w5 w6 c5 c6 => ?_
    refine q_augT (ks := nk o) (c := 1) (rd := rAdd) (f := fun i j => i + j) (fun i j H Q q => ⟨i, j, rfl, rfl, q⟩) mw x2 (ev_varV rfl) (ev_var rfl c6) ev_int (look_nk heo) (by rw [List.length_map]; omega) fun G4 H4 b4 mw4 => ?_
    rw [put_wL heo] at mw4
    have gw := g'.thenB hpw b4
    have mb4 := mb.growB (Ne.symm nwb) hna b4
    have ln := length_succs (pairs.take i) n
    have lt : (pairs.take i).length ≤ pairs.length := by rw [List.length_take]; omega
    refine s_app (mb4.ls n hen) gw.gh (ev_getL mb4 gw.gh (ev_varV rfl) (ev_var rfl (Dt.mono gw.gh (Dt.mono b4.gg c5))) hen) (ev_var rfl (Dt.mono b4.gg c6)) (by rw [List.length_map]; omega) fun G5 H5 b5 ml5 => ?_
    have mb5 := mb4.app hen b5 ml5
    refine ⟨G5, (x1.trans b4.gg).trans b5.gg, b5.gh, u4, some w5, some w6, rfl, gw.thenB (fr n hen) b5, ?_, ?_⟩
    · have mw5 := mw4.growB (Ne.symm (hna n hen)) b5
      have e : (setAt (fun x => ((preds (pairs.take i) x).length : Int)) o (((preds (pairs.take i) o).length : Int) + 1)) = fun x => ((preds (pairs.take (i + 1)) x).length : Int) := by
        funext z
        rw [take_snoc hn, preds_snoc]
        unfold setAt
        by_cases ez : z = o
        · subst ez
          rw [if_pos rfl, if_pos rfl, List.length_append]
          rfl
        · rw [if_neg ez, if_neg (Ne.symm ez)]
      rw [e] at mw5
      exact mw5
    · refine mb5.congr fun z hz => ?_
      rw [take_snoc hn, succs_snoc]
      unfold setAt
      by_cases ez : z = n
      · subst ez
        rw [if_pos rfl, if_pos rfl, List.map_append]
        rfl
      · rw [if_neg ez, if_neg (Ne.symm ez)]
  clear mw mb
  rintro σ' G4 H4 x4 ⟨u4, u5, u6, rfl, g4, mw, mb⟩
  rw [List.length_map, List.take_length] at mw mb
  obtain ⟨G5, g5, e5, n5, db⟩ := mb.seal g4 hpb fr
  have mw5 : MT G5 H4 pw (wL nodes fun x => ((preds pairs x).length : Int)) := by
    obtain ⟨q1, kv, q2, q3⟩ := mw
    exact ⟨by rw [n5 pw nwb fun x hx => Ne.symm (hna x hx)]; exact q1, kv, q2, q3.mono e5⟩
  clear mw
  refine q_lcD (ev_var rfl (Dt.mono g5.gg h1)) g5.gh (fun i es => es = ((nodes.take i).filter fun x => decide (((preds pairs x).length : Int) = 0)).map pD) rfl (fun i acc e => ?_) ?_ ?_
  · rw [e, List.length_map]
    have h1 := List.length_filter_le (fun x => decide (((preds pairs x).length : Int) = 0)) (nodes.take i)
    have h2 : (nodes.take i).length ≤ nodes.length := by rw [List.length_take]; omega
    omega
  · intro i d x G' H' Q' hi g' hx kk
    obtain ⟨n, hn, rfl⟩ := map_some hi
    have hnm := List.mem_of_getElem? hn
    have mw' := mw5.grow g'
    refine kk _ rfl ⟨decide (((preds pairs n).length : Int) = 0), ET.now (et_test (ev_op (ev_dgetT (ks := nk n) (ev_var rfl (mw'.now g'.gh)) (ev_var rfl (Dt.mono g'.gh hx)) (look_nk hnm)) ev_int rv_eqI)) g'.gh, fun hb => ⟨fun d => d = pD n, Ev.imp (ev_var (m := mD (pD n)) rfl hx) fun G v hv => ⟨_, rfl, hv⟩, fun acc d ea ed => ?_⟩, fun hb acc ea => ?_⟩
    · rw [ea, ed, take_snoc hn, List.filter_append, List.map_append]
      congr 1
      rw [List.filter_cons, if_pos hb]
      rfl
    · rw [ea, take_snoc hn, List.filter_append, List.map_append]
      have : [n].filter (fun x => decide (((preds pairs x).length : Int) = 0)) = [] := by
        rw [List.filter_cons, if_neg (by rw [hb]; exact Bool.false_ne_true)]
        rfl
      rw [this]
      simp
  rintro pr es G6 H6 g6 hpr' mr ees
  rw [List.length_map, List.take_length] at ees
  subst ees
  have g6' := g5.trans g6
  have hpr : H pr = none := g5.hh.non hpr'
  have mw6 := mw5.grow g6
  have nwr : pw ≠ pr := mw5.ne hpr'
  have db6 := (mT (sucL nodes pairs)).mono g6.gg db
  refine q_newL g6'.gh fun pf hpf' hpf0 => ?_
  have hpf : H pf = none := g6'.hh.non hpf'
  have nwf : pw ≠ pf := mw6.ne hpf'
  have nrf : pr ≠ pf := mr.ne hpf'
  have g7 : Grow G H G6 (upd H6 pf (.lst [])) := g6'.mut hpf hpf0
  refine q_while (fun n σ' H' => ∃ G' u4 u6 w rdy fnd, Grow G H G' H' ∧ σ' = [some v1, some v2, some (.ref pw), some (.ref pb), u4, u5, u6, some (.ref pr), some (.ref pf)] ∧ MT G' H' pw (wL nodes w) ∧ ML G' H' pr (rdy.map pD) ∧ ML G' H' pf (fnd.map pD) ∧ Kahn nodes pairs w rdy fnd ∧ fnd.length + n = nodes.length ∧ (mT (sucL nodes pairs)).p G' (.ref pb)) nodes.length ?_ ?_
  · exact ⟨G6, u4, u6, _, _, [], g7, rfl, mw6.other nwf, mr.other nrf, ML.new hpf0, Kahn.start nd, Nat.zero_add _, db6⟩
  · rintro n σ' H' ⟨G', u4, u6, w, rdy, fnd, g', rfl, mw, mr, mf, kh, hn, db⟩
    refine ⟨!PyData.eqv (.list (rdy.map pD)) (.list []), G', g'.gh, ET.now (et_test (ev_op (ev_var rfl (mr.dtH g'.gh)) (ev_lst ed_nil) (rv_neD (shaped_nodes rdy) (shaped_nodes [])))) g'.gh, fun hb G8 H8 g8 => ?_, fun hb G8 H8 g8 => ?_⟩
    · -- a turn
      have hne : rdy ≠ [] := fun e => by
        rw [e] at hb
        exact absurd hb (by rw [eqv_nilL]; exact Bool.false_ne_true)
      have g9 := g'.trans g8
      refine ⟨fun σ2 H2 => ∃ G' u4 u6 w rdy fnd', Grow G H G' H2 ∧ σ2 = [some v1, some v2, some (.ref pw), some (.ref pb), u4, u5, u6, some (.ref pr), some (.ref pf)] ∧ MT G' H2 pw (wL nodes w) ∧ ML G' H2 pr (rdy.map pD) ∧ ML G' H2 pf (fnd'.map pD) ∧ Kahn nodes pairs w rdy fnd' ∧ fnd'.length = fnd.length + 1 ∧ (mT (sucL nodes pairs)).p G' (.ref pb), ?_, ?_⟩
      · rintro σ2 H2 ⟨G2, u4, u6, w2, r2, f2, a1, a2, a3, a4, a5, a6, a7, a8⟩
        have hle := nodup_sub_len a6.fnd a6.fsub
        exact ⟨n - 1, by omega, G2, u4, u6, w2, r2, f2, a1, a2, a3, a4, a5, a6, by omega, a8⟩
      · have mr8 := mr.grow g8
        refine q_asg (ev_minD (ev_varV rfl) mr8 (alike_nodes rdy) (fun d hd => ⟨(fun e => by
          obtain ⟨q, _, e2⟩ := List.mem_map.mp hd
          rw [e] at e2
          cases e2), flat_nodes rdy d hd⟩) (fun e => hne (List.map_eq_nil_iff.mp e))) g8.gh fun v G10 H10 g10 ⟨d, hd, hv⟩ => ?_
        obtain ⟨m, hm, rfl⟩ := List.mem_map.mp hd
        have hmn := kh.rsub m hm
        obtain ⟨j, j1, j2⟩ := place_node hm
        have ga := g9.trans g10
        refine q_rem (mr8.grow g10) ga.gh (ev_varV rfl) (ev_var rfl hv) (plain_nodes rdy) (plain_node m) (flat_node m) j1 fun G11 H11 b11 mr11 => ?_
        rw [j2] at mr11
        have gb := ga.thenB hpr b11
        have mf11 := ((mf.grow g8).grow g10).growB (Ne.symm nrf) b11
        have mw11 := ((mw.grow g8).grow g10).growB nwr b11
        have hfl := nodup_sub_len kh.fnd kh.fsub
        have hrl := nodup_sub_len kh.rnd kh.rsub
        refine q_app mf11 gb.gh (ev_varV rfl) (ev_var rfl (Dt.mono b11.gg hv)) (by rw [List.length_map]; omega) fun G12 H12 b12 mf12 => ?_
        have gc := gb.thenB hpf b12
        have mr12 := mr11.growB nrf b12
        have mw12 := mw11.growB nwf b12
        have e12 : Ex G' G12 := ((g8.gg.trans g10.gg).trans b11.gg).trans b12.gg
        have db12 := (mT (sucL nodes pairs)).mono e12 db
        have sl := length_succs pairs m
        have el : (rdy.erase m).length ≤ rdy.length := List.length_erase_le
        refine s_forDn (ds := (succs pairs m).map pD) (ev_dgetT (ks := nk m) (l := sucL nodes pairs) (ev_var rfl db12) (ev_var rfl (Dt.mono (b11.gg.trans b12.gg) hv)) (look_nk hmn)) gc.gh
          (fun i σ' G' H' => ∃ u6, σ' = [some v1, some v2, some (.ref pw), some (.ref pb), some v, u5, u6, some (.ref pr), some (.ref pf)] ∧ Grow G H G' H' ∧ MT G' H' pw (wL nodes (((succs pairs m).take i).foldl kstep (w, rdy.erase m)).1) ∧ ML G' H' pr ((((succs pairs m).take i).foldl kstep (w, rdy.erase m)).2.map pD) ∧ ML G' H' pf ((fnd ++ [m]).map pD) ∧ (mT (sucL nodes pairs)).p G' (.ref pb)) ?_ ?_ ?_
        · intro G13 H13 g13
          refine ⟨u6, rfl, gc.trans g13, mw12.grow g13, mr12.grow g13, ?_, (mT (sucL nodes pairs)).mono g13.gg db12⟩
          have := mf12.grow g13
          rw [List.map_append]
          exact this
        · rintro Gs i d x σ' G' H' hi hx x1 x2 ⟨u6, rfl, g', mw, mr, mf, db⟩
          obtain ⟨o, ho, rfl⟩ := map_some hi
          have hon : o ∈ nodes := (he _ (mem_succs.mp (List.mem_of_getElem? ho))).2
          have ek : ((succs pairs m).take (i + 1)).foldl kstep (w, rdy.erase m) = kstep (((succs pairs m).take i).foldl kstep (w, rdy.erase m)) o := by
            rw [take_snoc ho, List.foldl_append]
            rfl
          have sl2 := kstep_len ((succs pairs m).take i) (w, rdy.erase m)
          have tl : ((succs pairs m).take i).length ≤ (succs pairs m).length := by rw [List.length_take]; omega
          generalize hs : ((succs pairs m).take i).foldl kstep (w, rdy.erase m) = s at mw mr sl2 ek
          have sl2 : s.2.length ≤ (rdy.erase m).length + ((succs pairs m).take i).length := sl2
          refine q_augT (ks := nk o) (c := 1) (rd := rSub) (f := fun i j => i - j) (fun i j H Q q => ⟨i, j, rfl, rfl, q⟩) mw x2 (ev_varV rfl) (ev_var rfl hx) ev_int (look_nk hon) (by rw [List.length_map]; omega) fun G4 H4 b4 mw4 => ?_
          rw [put_wL hon] at mw4
          have gd := g'.thenB hpw b4
          have mr4 := mr.growB (Ne.symm nwr) b4
          have mf4 := mf.growB (Ne.symm nwf) b4
          have db4 := (mT (sucL nodes pairs)).mono b4.gg db
          refine s_when (b := decide (s.1 o - 1 = 0)) (ET.now (et_test (ET_eq0 (ev_dgetT (ks := nk o) (ev_var rfl (mw4.now gd.gh)) (ev_var rfl (Dt.mono gd.gh (Dt.mono b4.gg hx))) (look_nk hon)) setAt_same)) gd.gh) gd.gh (fun hb G6 H6 g6 => ?_) fun hb G6 H6 g6 => ?_
          · refine s_app (mr4.grow g6) g6.gh (ev_varV rfl) (ev_var rfl (Dt.mono (b4.gg.trans g6.gg) hx)) (by rw [List.length_map]; omega) fun G7 H7 b7 mr7 => ⟨G7, ((x1.trans b4.gg).trans g6.gg).trans b7.gg, b7.gh, some x, rfl, (gd.trans g6).thenB hpr b7, by rw [ek]; exact (mw4.grow g6).growB nwr b7, ?_, (mf4.grow g6).growB (Ne.symm nrf) b7, (mT (sucL nodes pairs)).mono (g6.gg.trans b7.gg) db4⟩
            rw [ek]
            show ML G7 H7 pr ((if s.1 o - 1 = 0 then s.2 ++ [o] else s.2).map pD)
            rw [if_pos (of_decide_eq_true hb), List.map_append]
            exact mr7
          · refine ⟨G6, (x1.trans b4.gg).trans g6.gg, g6.gh, some x, rfl, gd.trans g6, by rw [ek]; exact mw4.grow g6, ?_, mf4.grow g6, (mT (sucL nodes pairs)).mono g6.gg db4⟩
            rw [ek]
            show ML G6 H6 pr ((if s.1 o - 1 = 0 then s.2 ++ [o] else s.2).map pD)
            rw [if_neg (of_decide_eq_false hb)]
            exact mr4.grow g6
        · rintro σ' G' H' x2 ⟨u6, rfl, g', mw, mr, mf, db⟩
          rw [List.length_map, List.take_length] at mw mr
          have kt := kh.turn he hm
          rw [ers_eq] at kt
          exact ⟨G', some v, u6, _, _, fnd ++ [m], g', rfl, mw, mr, mf, kt, by rw [List.length_append]; rfl, db⟩
    · -- the end
      have he0 : rdy = [] := by
        rw [eqv_nilL] at hb
        cases rdy with
        | nil => rfl
        | cons a l => cases hb
      subst he0
      have g9 := g'.trans g8
      have mf9 := mf.grow g8
      refine q_when (et_test (ev_op (Ev.now (ev_len (ev_var rfl (mf9.dtH g9.gh))) (flat_int _) g9.gh) (ev_len (ev_var rfl (Dt.mono g9.gg h1))) rv_B0)) g9.gh (fun hb2 G10 H10 g10 => ?_) fun hb2 G10 H10 g10 => ?_
      · have hlt : ((fnd.map pD).length : Int) < ((nodes.map pD).length : Int) := of_decide_eq_true hb2
        rw [List.length_map, List.length_map] at hlt
        exact s_ret ev_non g10.gh fun v G11 H11 g11 hv => k v G11 H11 ((g9.trans g10).trans g11) ⟨_, .inl ⟨rfl, kh.stuck nd he (by omega)⟩, hv⟩
      · have hlt : ¬ ((fnd.map pD).length : Int) < ((nodes.map pD).length : Int) := of_decide_eq_false hb2
        rw [List.length_map, List.length_map] at hlt
        obtain ⟨G12, g12, d12⟩ := (mf9.grow g10).ret (g9.trans g10) hpf
        exact s_ret (m := mD (.list (fnd.map pD))) (ev_var rfl d12) g12.gh fun v G11 H11 g11 hv => k v G11 H11 (g12.trans g11) ⟨_, .inr ⟨kh.ranked he (by omega), fnd, rfl⟩, hv⟩
end
end Sk
/-! Sk__law_ahead -/
namespace Sk
open PySem PySem.Spec PyProof.Rows L2
open Evl (pss_cut tCut)
section
variable {P : Program} {w : World} {K : PySem.W.Frag} {mg : Str → Option Value} {base : Heap}
abbrev s__law_ahead : Stmt := top 47
abbrev N__law_ahead : List Str := ["_law_order", "_law_makers", "_law_looker", "_law_found", "_law_number"]
theorem sc__law_ahead : FnScope N__law_ahead ["_law_order", "_law_makers", "_law_looker"] (defScope s__law_ahead) := ⟨rfl, rfl, rfl, by decide +kernel, rfl, by decide +kernel, by decide +kernel⟩
abbrev sp__law_ahead : Sp := mkSp (α := List Int × List Int × Int) (fun y => [mD (.list (dI y.1)), mD (.list (dI y.2.1)), mD (.int y.2.2)]) (fun _ => True) (fun y => mInt fun x => x = 0 ∨ (x ∈ y.2.1 ∧ x ≠ y.2.2))
theorem own__law_ahead  (A : DefAt K mg "_law_ahead" s__law_ahead [])  : Own P w K mg base "_law_ahead" 1 ["_law_order", "_law_makers", "_law_looker"] [] sp__law_ahead := by
  have sc := sc__law_ahead
  refine own_mk A sc (fun _ _ _ _ _ _ us hl => match us, hl with | [_, _, _], _ => rfl) (fun _ => rfl) fun f cdv Ar outer s H E y G vs Q hr hok hGH hv k => ?_
  obtain ⟨v1, v2, v3, ev, h1, h2, h3⟩ := AllP.inv3 hv
  subst ev
  refine ⟨_, (pss_cons (ps_set (i := 3) sc.nd rfl (Or.inl rfl) pe_int)
 (pss_cons (ps_for PassesOwn.never rfl (pi_list (pv 0)) (pg_name (i := 4) sc.nd rfl (Or.inl rfl)) (pss_cons (ps_if (pt_cmpR op_eq (pv 4) (pv 2) (nomark _)) (pss_one (ps_ret (pv 3))) pss_nil)
 (pss_one (ps_if (pt_cmpR op_in_seq (pv 4) (pv 1) rfl) (pss_one (ps_set (i := 3) sc.nd rfl (Or.inl rfl) (pv 4))) pss_nil))))
 (pss_one (ps_ret (pv 3))))), ?_⟩
  obtain ⟨o, ms, lk⟩ := y
  have h1 : Dt G v1 (.list (dI o)) := h1
  have h2 : Dt G v2 (.list (dI ms)) := h2
  have h3 : Dt G v3 (.int lk) := h3
  refine q_asg ev_int hGH fun v4 G1 H1 g1 c4 => ?_
  obtain rfl := Dt.int_iff.mp c4
  refine q_forDn (ev_var rfl (Dt.mono g1.gg h1)) g1.gh (fun i σ' G' H' => ∃ u5 fd, σ' = [some v1, some v2, some v3, some (.int fd), u5] ∧ Grow G H G' H' ∧ (fd = 0 ∨ (fd ∈ ms ∧ fd ≠ lk))) ?_ ?_ ?_
  · intro G2 H2 g2
    exact ⟨none, 0, rfl, g1.trans g2, .inl rfl⟩
  · rintro Gs i d x σ' G' H' hi hx x1 x2 ⟨u5, fd, rfl, g', st⟩
    obtain ⟨n, hn, rfl⟩ := map_some hi
    obtain rfl := Dt.int_iff.mp hx
    refine q_when (et_test (ev_op (ev_var rfl hx) (ev_var rfl (Dt.mono g'.gg h3)) rv_eqI)) x2 (fun hb G2 H2 g2 => ?_) fun hb G2 H2 g2 => ?_
    · exact s_ret (ev_var (m := mD (.int fd)) rfl (Dt.int fd)) g2.gh fun v G3 H3 g3 hv => k v G3 H3 ((g'.trans g2).trans g3) ⟨_, ⟨fd, rfl, st⟩, hv⟩
    · have hne : n ≠ lk := of_decide_eq_false hb
      refine s_when (et_test (ev_op (ev_var rfl (Dt.mono g2.gg hx)) (ev_var rfl (Dt.mono (g'.gg.trans g2.gg) h2)) rv_inI)) g2.gh (fun hb2 G3 H3 g3 => ?_) fun hb2 G3 H3 g3 => ⟨G3, (x1.trans g2.gg).trans g3.gg, g3.gh, _, fd, rfl, (g'.trans g2).trans g3, st⟩
      exact s_asg (ev_var (m := mV (.int n)) rfl rfl) g3.gh fun v G4 H4 g4 hv => by
        obtain rfl := hv
        exact ⟨G4, ((x1.trans g2.gg).trans g3.gg).trans g4.gg, g4.gh, _, n, rfl, ((g'.trans g2).trans g3).trans g4, .inr ⟨of_decide_eq_true hb2, hne⟩⟩
  · rintro σ' G' H' x2 ⟨u5, fd, rfl, g', st⟩
    exact s_ret (ev_var (m := mD (.int fd)) rfl (Dt.int fd)) x2 fun v G3 H3 g3 hv => k v G3 H3 (g'.trans g3) ⟨_, ⟨fd, rfl, st⟩, hv⟩
end
end Sk
/-! Sk__law_pairs -/
namespace Sk
open PySem PySem.Spec PyProof.Rows L2
open Evl (pss_cut tCut)
section
variable {P : Program} {w : World} {K : PySem.W.Frag} {mg : Str → Option Value} {base : Heap}
abbrev s__law_pairs : Stmt := top 50
abbrev N__law_pairs : List Str := ["_law_looks", "_law_found", "_law_look_here", "_law_pair"]
theorem sc__law_pairs : FnScope N__law_pairs ["_law_looks"] (defScope s__law_pairs) := ⟨rfl, rfl, rfl, by decide +kernel, rfl, by decide +kernel, by decide +kernel⟩
abbrev sp__law_pairs : Sp := mkSp (α := List Look) (fun y => [mD (looksD y)]) (fun y => y.flatten.length ≤ 10000) (fun y => mNodes fun ps => ps.Nodup ∧ (∀ p ∈ ps, p ∈ y.flatten) ∧ ps.length ≤ y.flatten.length)
theorem put_trues {ps : List Node} {p : Node} : ∃ qs : List Node, putM (ps.map fun x => (nk x, mD (.bool true))) (nk p) (mD (.bool true)) = qs.map (fun x => (nk x, mD (.bool true))) ∧ (ps.Nodup → qs.Nodup) ∧ (∀ x ∈ qs, x ∈ ps ∨ x = p) := by
  by_cases h : p ∈ ps
  · refine ⟨ps, ?_, fun n => n, fun x hx => .inl hx⟩
    rw [put_nk h]
    refine List.map_congr_left fun x _ => ?_
    split <;> rfl
  · refine ⟨ps ++ [p], ?_, fun n => ?_, fun x hx => ?_⟩
    · rw [put_nk_new h, List.map_append]
      rfl
    · refine List.nodup_append.mpr ⟨n, by simp, fun x hx y hy => ?_⟩
      rw [List.mem_singleton] at hy
      subst hy
      rintro rfl
      exact h hx
    · rcases List.mem_append.mp hx with hx | hx
      · exact .inl hx
      · exact .inr (List.mem_singleton.mp hx)
theorem own__law_pairs  (A : DefAt K mg "_law_pairs" s__law_pairs []) (z_sorted : mg "sorted" = none) : Own P w K mg base "_law_pairs" 1 ["_law_looks"] [] sp__law_pairs := by
  have sc := sc__law_pairs
  refine own_mk A sc (fun _ _ _ _ _ _ us hl => match us, hl with | [_], _ => rfl) (fun _ => rfl) fun f cdv Ar outer s H E y G vs Q hr hok hGH hv k => ?_
  obtain ⟨v1, ev, h1⟩ := AllP.inv1 hv
  subst ev
  refine ⟨_, (pss_cons (ps_set (i := 1) sc.nd rfl (Or.inl rfl) pe_dnewT)
 (pss_cons (ps_for PassesOwn.never rfl (pi_list (pv 0)) (pg_name (i := 2) sc.nd rfl (Or.inl rfl)) (pss_one (ps_for PassesOwn.never rfl (pi_list (pv 2)) (pg_name (i := 3) sc.nd rfl (Or.inl rfl)) (pss_one (ps_dput (hu_of hr) (pv 1) (pv 3) pe_bl rfl)))))
 (pss_one (ps_ret (pe_callB (cr_sortedT rfl hr.units) (by rfl) z_sorted (by decide +kernel) (pa_cons (pv 1) pa_nil)))))), ?_⟩
  have hz : y.flatten.length ≤ 10000 := hok
  have h1 : Dt G v1 (looksD y) := h1
  refine q_newT hGH fun pf hpf hpf0 => ?_
  have g1 : Grow G H G (upd H pf (.dT [])) := (Grow.refl hGH).mut hpf hpf0
  refine q_forDn (ev_var rfl h1) g1.gh (fun i σ' G' H' => ∃ (u3 u4 : Option V) (ps : List Node), σ' = [some v1, some (.ref pf), u3, u4] ∧ Grow G H G' H' ∧ MT G' H' pf (ps.map fun x => (nk x, mD (.bool true))) ∧ ps.Nodup ∧ ∀ p ∈ ps, p ∈ y.flatten) ?_ ?_ ?_
  · intro G2 H2 g2
    exact ⟨none, none, [], rfl, g1.trans g2, (MT.new hpf0).grow g2, List.nodup_nil, fun p hp => (nomatch hp)⟩
  · rintro Gs i d x σ' G' H' hi hx x1 x2 ⟨u3, u4, ps, rfl, g', mt, nd, hps⟩
    obtain ⟨l, hl, rfl⟩ := map_some hi
    have hlm := List.mem_of_getElem? hl
    refine s_forDn (ds := l.map pD) (ev_var rfl hx) x2 (fun j σ'' G'' H'' => ∃ (u4 : Option V) (ps : List Node), σ'' = [some v1, some (.ref pf), some x, u4] ∧ Grow G H G'' H'' ∧ Ex G' G'' ∧ MT G'' H'' pf (ps.map fun x => (nk x, mD (.bool true))) ∧ ps.Nodup ∧ ∀ p ∈ ps, p ∈ y.flatten) ?_ ?_ ?_
    · intro G2 H2 g2
      exact ⟨u4, ps, rfl, g'.trans g2, g2.gg, mt.grow g2, nd, hps⟩
    · rintro Gt j d w σ'' G'' H'' hj hw y1 y2 ⟨u4, ps, rfl, g'', ex, mt, nd, hps⟩
      obtain ⟨p, hp, rfl⟩ := map_some hj
      have hpm := List.mem_of_getElem? hp
      have hle := nodup_sub_len nd hps
      refine s_putT (ks := nk p) (m := mD (.bool true)) mt y2 ev_bl (ev_varV rfl) (ev_var rfl hw) (by rw [List.length_map]; omega) fun G3 H3 b3 mt3 => ?_
      obtain ⟨qs, e1, e2, e3⟩ := put_trues (ps := ps) (p := p)
      rw [e1] at mt3
      refine ⟨G3, y1.trans b3.gg, b3.gh, some w, qs, rfl, g''.thenB hpf b3, ex.trans b3.gg, mt3, e2 nd, fun z hz => ?_⟩
      rcases e3 z hz with hz | hz
      · exact hps z hz
      · rw [hz]
        exact List.mem_flatten.mpr ⟨l, hlm, hpm⟩
    · rintro σ'' G'' H'' y2 ⟨u4, ps, rfl, g'', ex, mt, nd, hps⟩
      exact ⟨G'', x1.trans ex, y2, some x, u4, ps, rfl, g'', mt, nd, hps⟩
  · rintro σ' G' H' x2 ⟨u3, u4, ps, rfl, g', mt, nd, hps⟩
    obtain ⟨G2, g2, _, _, r2⟩ := mt.ret g' hpf
    have hle := nodup_sub_len nd hps
    exact s_ret (ev_sortedT (l := ps.map fun x => (nk x, mD (.bool true))) (ps := ps) (ev_var rfl r2) (keys_nk _ ps)) g2.gh fun v G3 H3 g3 ⟨d, ⟨js, ed, hp⟩, hv⟩ => k v G3 H3 (g2.trans g3) ⟨d, ⟨js, ed, hp.nodup_iff.mpr nd, fun p hpj => hps p (hp.mem_iff.mp hpj), by rw [hp.length_eq]; exact hle⟩, hv⟩
end
end Sk
/-! Sk__law_right -/
namespace Sk
open PySem PySem.Spec PyProof.Rows L2
open Evl (pss_cut tCut)
section
variable {P : Program} {w : World} {K : PySem.W.Frag} {mg : Str → Option Value} {base : Heap}
abbrev s__law_right : Stmt := top 51
abbrev N__law_right : List Str := ["_law_makers", "_law_looker", "_law_found", "_law_maker"]
theorem sc__law_right : FnScope N__law_right ["_law_makers", "_law_looker"] (defScope s__law_right) := ⟨rfl, rfl, rfl, by decide +kernel, rfl, by decide +kernel, by decide +kernel⟩
abbrev sp__law_right : Sp := mkSp (α := List Int × Int) (fun y => [mD (.list (dI y.1)), mD (.int y.2)]) (fun _ => True) (fun y => mInt fun x => (y.2 ∈ y.1 ∧ x = rightOf 0 y.1 y.2) ∨ x = -2)
theorem own__law_right  (A : DefAt K mg "_law_right" s__law_right [])  : Own P w K mg base "_law_right" 1 ["_law_makers", "_law_looker"] [] sp__law_right := by
  have sc := sc__law_right
  refine own_mk A sc (fun _ _ _ _ _ _ us hl => match us, hl with | [_, _], _ => rfl) (fun _ => rfl) fun f cdv Ar outer s H E y G vs Q hr hok hGH hv k => ?_
  obtain ⟨v1, v2, ev, h1, h2⟩ := AllP.inv2 hv
  subst ev
  refine ⟨_, (pss_cons (ps_set (i := 2) sc.nd rfl (Or.inl rfl) pe_int)
 (pss_cons (ps_for PassesOwn.never rfl (pi_list (pv 0)) (pg_name (i := 3) sc.nd rfl (Or.inl rfl)) (pss_cons (ps_if (pt_cmpR op_eq (pv 3) (pv 1) (nomark _)) (pss_one (ps_ret (pv 2))) pss_nil)
 (pss_one (ps_set (i := 2) sc.nd rfl (Or.inl rfl) (pv 3)))))
 (pss_one (ps_ret (pe_un un_neg pe_int))))), ?_⟩
  obtain ⟨ms, lk⟩ := y
  have h1 : Dt G v1 (.list (dI ms)) := h1
  have h2 : Dt G v2 (.int lk) := h2
  refine q_asg ev_int hGH fun v3 G1 H1 g1 c3 => ?_
  obtain rfl := Dt.int_iff.mp c3
  refine q_forDn (ev_var rfl (Dt.mono g1.gg h1)) g1.gh (fun i σ' G' H' => ∃ u4 fd, σ' = [some v1, some v2, some (.int fd), u4] ∧ Grow G H G' H' ∧ rightOf 0 ms lk = rightOf fd (ms.drop i) lk) ?_ ?_ ?_
  · intro G2 H2 g2
    exact ⟨none, 0, rfl, g1.trans g2, rfl⟩
  · rintro Gs i d x σ' G' H' hi hx x1 x2 ⟨u4, fd, rfl, g', st⟩
    obtain ⟨n, hn, rfl⟩ := map_some hi
    obtain rfl := Dt.int_iff.mp hx
    obtain ⟨hil, em⟩ := List.getElem?_eq_some_iff.mp hn
    have ed : ms.drop i = n :: ms.drop (i + 1) := by rw [List.drop_eq_getElem_cons hil, em]
    rw [ed] at st
    refine q_when (et_test (ev_op (ev_var rfl hx) (ev_var rfl (Dt.mono g'.gg h2)) rv_eqI)) x2 (fun hb G2 H2 g2 => ?_) fun hb G2 H2 g2 => ?_
    · have he : n = lk := of_decide_eq_true hb
      have st' : rightOf 0 ms lk = fd := by
        rw [st]
        show (if n = lk then fd else _) = fd
        rw [if_pos he]
      exact s_ret (ev_var (m := mD (.int fd)) rfl (Dt.int fd)) g2.gh fun v G3 H3 g3 hv => k v G3 H3 ((g'.trans g2).trans g3) ⟨_, ⟨fd, rfl, .inl ⟨by rw [← he]; exact List.mem_of_getElem? hn, st'.symm⟩⟩, hv⟩
    · have hne : n ≠ lk := of_decide_eq_false hb
      have st' : rightOf 0 ms lk = rightOf n (ms.drop (i + 1)) lk := by
        rw [st]
        show (if n = lk then fd else rightOf n (ms.drop (i + 1)) lk) = _
        rw [if_neg hne]
      refine s_asg (ev_var (m := mD (.int n)) rfl (Dt.int n)) g2.gh fun v G4 H4 g4 hv => ?_
      obtain rfl := Dt.int_iff.mp hv
      exact ⟨G4, (x1.trans g2.gg).trans g4.gg, g4.gh, _, n, rfl, (g'.trans g2).trans g4, st'⟩
  · rintro σ' G' H' x2 ⟨u4, fd, rfl, g', st⟩
    exact s_ret (ev_neg ev_int) x2 fun v G3 H3 g3 hv => k v G3 H3 (g'.trans g3) ⟨_, ⟨_, rfl, .inr rfl⟩, hv⟩
end
end Sk
/-! Sk_pairs_of -/
namespace Sk
open PySem PySem.Spec PyProof.Rows L2
open Evl (pss_cut tCut)
section
variable {P : Program} {w : World} {K : PySem.W.Frag} {mg : Str → Option Value} {base : Heap}
abbrev s_pairs_of : Stmt := top 2
abbrev N_pairs_of : List Str := ["looks", "found", "look"]
theorem sc_pairs_of : FnScope N_pairs_of ["looks"] (defScope s_pairs_of) := ⟨rfl, rfl, rfl, by decide +kernel, rfl, by decide +kernel, by decide +kernel⟩
abbrev sp_pairs_of : Sp := mkSp (α := List Look) (fun y => [mD (looksD y)]) (fun y => y.flatten.length ≤ 1000) (fun y => mD (lookD y.flatten))
theorem own_pairs_of  (A : DefAt K mg "pairs_of" s_pairs_of [])  : Own P w K mg base "pairs_of" 1 ["looks"] [] sp_pairs_of := by
  have sc := sc_pairs_of
  refine own_mk A sc (fun _ _ _ _ _ _ us hl => match us, hl with | [_], _ => rfl) (fun _ => rfl) fun f cdv Ar outer s H E y G vs Q hr hok hGH hv k => ?_
  match vs, hv with
  | [v1], ⟨h1, _⟩ =>
  refine ⟨_, (pss_cons (ps_set (i := 1) sc.nd rfl (Or.inl rfl) (pe_lst pa_nil))
 (pss_cons (ps_for PassesOwn.never rfl (pi_list (pv 0)) (pg_name (i := 2) sc.nd rfl (Or.inl rfl)) (pss_one (ps_expr (pe_bm PySem.F.plainAttrs_list PySem.F.slot_list_extend PySem.F.type_list_extend mt_extend (pv 1) (pa_cons (pv 2) pa_nil)))))
 (pss_one (ps_ret (pv 1))))), ?_⟩
  refine q_newL hGH fun p hp hgp => ?_
  refine q_forDn (ev_var rfl h1) (hGH.mut hgp) (fun i σ' G' H' => ∃ u, σ' = [some v1, some (.ref p), u] ∧ Grow G H G' H' ∧ ML G' H' p ((y.take i).flatten.map pD)) ?_ ?_ ?_
  · intro G1 H1 g1
    have g := ((Grow.refl hGH).mut (o := .lst []) hp hgp)
    exact ⟨none, rfl, g.trans g1, (ML.new hgp).grow g1⟩
  · rintro Gs i d x σ' G' H' hi hx e1 e2 ⟨u, rfl, g, ml⟩
    rw [List.getElem?_map] at hi
    cases q : y[i]? with
    | none =>
      rw [q] at hi
      cases hi
    | some l =>
      rw [q] at hi
      cases hi
      have et : y.take (i + 1) = y.take i ++ [l] := by rw [List.take_add_one, q]; rfl
      have ef : (y.take (i + 1)).flatten.map pD = (y.take i).flatten.map pD ++ l.map pD := by
        rw [et]
        simp
      have hlen : ((y.take (i + 1)).flatten).length ≤ y.flatten.length := by
        have := congrArg List.length (congrArg List.flatten (List.take_append_drop (i + 1) y))
        rw [List.flatten_append, List.length_append] at this
        omega
      refine s_ext ml e2 (ev_varV rfl) (ev_var rfl hx) ?_ fun G2 H2 g2 ml2 => ⟨G2, e1.trans g2.gg, g2.gh, some x, rfl, g.thenB hp g2, ?_⟩
      · have := congrArg List.length ef
        rw [List.length_map, List.length_append] at this
        omega
      · rw [ef]
        exact ml2
  · rintro σ' G' H' e2 ⟨u, rfl, g, ml⟩
    have hl : (y.map lookD).length = y.length := List.length_map _
    rw [hl, List.take_length] at ml
    obtain ⟨G2, g2, d2⟩ := ml.ret g hp
    exact ⟨_, rfl, k _ G2 H' g2 d2⟩
end
end Sk
/-! Sk_right_ahead -/
namespace Sk
open PySem PySem.Spec PyProof.Rows L2
open Evl (pss_cut tCut)
theorem right_at0 {x p : Int} : ∀ {is : List Int}, is.idxOf x = 0 → rightOf p is x = p
  | [], _ => rfl
  | a :: is, h => by
    by_cases e : a = x
    · rw [rightOf, if_pos e]
    · have eb : (a == x) = false := by simpa using e
      rw [List.idxOf_cons, eb] at h
      simp at h
theorem right_at {x p : Int} : ∀ {is : List Int}, 0 < is.idxOf x → x ∈ is → is[is.idxOf x - 1]? = some (rightOf p is x)
  | a :: is, h, hx => by
    by_cases e : a = x
    · subst e
      simp at h
    · have eb : (a == x) = false := by simpa using e
      have hx' : x ∈ is := by
        rcases List.mem_cons.mp hx with z | z
        · exact absurd z.symm e
        · exact z
      rw [rightOf, if_neg e, List.idxOf_cons, eb]
      show (a :: is)[is.idxOf x]? = _
      cases q : is.idxOf x with
      | zero =>
        rw [right_at0 q]
        rfl
      | succ n =>
        have ih := right_at (p := a) (by omega) hx'
        rw [q] at ih
        exact ih
section
variable {P : Program} {w : World} {K : PySem.W.Frag} {mg : Str → Option Value} {base : Heap}
abbrev s_right_ahead : Stmt := top 3
abbrev N_right_ahead : List Str := ["numbers", "number", "at"]
theorem sc_right_ahead : FnScope N_right_ahead ["numbers", "number"] (defScope s_right_ahead) := ⟨rfl, rfl, rfl, by decide +kernel, rfl, by decide +kernel, by decide +kernel⟩
abbrev sp_right_ahead : Sp := mkSp (α := List Int × Int) (fun y => [mD (.list (dI y.1)), mD (.int y.2)]) (fun y => y.2 ∈ y.1) (fun y => mD (.int (rightOf 0 y.1 y.2)))
theorem own_right_ahead  (A : DefAt K mg "right_ahead" s_right_ahead [])  : Own P w K mg base "right_ahead" 1 ["numbers", "number"] [] sp_right_ahead := by
  have sc := sc_right_ahead
  refine own_mk A sc (fun _ _ _ _ _ _ us hl => match us, hl with | [_, _], _ => rfl) (fun _ => rfl) fun f cdv Ar outer s H E y G vs Q hr hok hGH hv k => ?_
  match vs, hv with
  | [v1, v2], ⟨h1, h2, _⟩ =>
  refine ⟨_, (pss_cons (ps_set (i := 2) sc.nd rfl (Or.inl rfl) (pe_bm PySem.F.plainAttrs_list PySem.F.slot_list_index PySem.F.type_list_index mt_index (pv 0) (pa_cons (pv 1) pa_nil)))
 (pss_cons (ps_if (pt_cmpR op_eq (pv 2) pe_int (nomark _)) (pss_one (ps_ret pe_int)) pss_nil)
 (pss_one (ps_ret (pe_ix ix_list (pv 0) (pe_op op_sub (pv 2) pe_int) (fun _ _ => rfl)))))), ?_⟩
  refine q_asg (ev_index (ev_var rfl h1) (ev_var rfl h2) hok) hGH fun w1 G1 H1 g1 e1 => ?_
  obtain rfl := Dt.int_iff.mp e1
  refine q_when (et_test (ev_op (ev_var rfl e1) ev_int rv_eqI)) g1.gh (fun hb G2 H2 g2 => ?_) fun hb G2 H2 g2 => ?_
  · refine s_ret ev_int g2.gh fun v G3 H3 g3 hv => k v G3 H3 ((g1.trans g2).trans g3) ?_
    have z : ((y.1.idxOf y.2 : Nat) : Int) = 0 := of_decide_eq_true hb
    rw [Dt.int_iff.mp hv, right_at0 (by omega)]
    exact .int _
  · have z : ¬ ((y.1.idxOf y.2 : Nat) : Int) = 0 := of_decide_eq_false hb
    refine s_ret (ev_op (ev_var rfl (Dt.mono (g1.gg.trans g2.gg) h1)) (ev_op (ev_var rfl (Dt.mono g2.gg e1)) ev_int rv_I0) (rv_ixL (d := .int (rightOf 0 y.1 y.2)) ?_)) g2.gh fun v G3 H3 g3 hv => k v G3 H3 ((g1.trans g2).trans g3) hv
    have e : ((y.1.idxOf y.2 : Nat) : Int) - 1 = ((y.1.idxOf y.2 - 1 : Nat) : Int) := by omega
    rw [e]
    refine at_nat ?_
    rw [List.getElem?_map, right_at (by omega) hok]
    rfl
end
end Sk
/-! Sk_own_ills -/
namespace Sk
open PySem PySem.Spec PyProof.Rows L2
open Evl (pss_cut tCut)
def illK : Ill → List Key
  | .lost d r k => [.inr "lost", .inl d, .inl r, .inl k]
  | .midway d k => [.inr "midway", .inl d, .inl k]
  | .skewed a b k k2 => [.inr "skewed", .inl a, .inl b, .inl k, .inl k2]
  | .unkept d k => [.inr "unkept", .inl d, .inl k]
theorem illD_eq (i : Ill) : illD i = .tuple ((illK i).map kD) := by cases i <;> rfl
abbrev illL (es : List Ill) : List (List Key × MP) := es.map fun i => (illK i, mD (.bool true))
theorem put_illL (es : List Ill) (i : Ill) : ∃ es', putM (illL es) (illK i) (mD (.bool true)) = illL es' ∧ (∀ j ∈ es', j ∈ es ∨ j = i) ∧ es'.length ≤ es.length + 1 := by
  unfold putM
  split
  · refine ⟨es, ?_, fun j hj => .inl hj, Nat.le_succ _⟩
    rw [List.map_map]
    refine List.map_congr_left fun j _ => ?_
    show (if illK j = illK i then (illK j, mD (.bool true)) else (illK j, mD (.bool true))) = _
    split <;> rfl
  · refine ⟨es ++ [i], by rw [illL, illL, List.map_append]; rfl, fun j hj => ?_, by rw [List.length_append]; exact Nat.le_refl _⟩
    rcases List.mem_append.mp hj with h | h
    · exact .inl h
    · exact .inr (List.mem_singleton.mp h)
/-- the word of own_ills's loop -/
def OI (h : Hist) (d : Deal) (G H : Hp) (pf ps : Addr) (n m : Nat) (G' H' : Hp) : Prop := Grow G H G' H' ∧ pf ≠ ps ∧ ∃ (es : List Ill) (fs : List (Int × Int)), MT G' H' pf (illL es) ∧ MK G' H' ps (fs.map fun p => ((.inl p.1 : Key), mD (.int p.2))) ∧
  (∀ i ∈ es, IsIll h i) ∧ (∀ p ∈ fs, p ∈ pairsOf d) ∧ es.length ≤ n ∧ fs.length ≤ m
theorem OI.more {h : Hist} {d : Deal} {G H : Hp} {pf ps : Addr} {n m n' m' : Nat} {G' H' : Hp} (o : OI h d G H pf ps n m G' H') (hn : n ≤ n') (hm : m ≤ m') : OI h d G H pf ps n' m' G' H' := by
  obtain ⟨a, b, es, fs, c1, c2, c3, c4, c5, c6⟩ := o
  exact ⟨a, b, es, fs, c1, c2, c3, c4, by omega, by omega⟩
theorem OI.grow {h : Hist} {d : Deal} {G H : Hp} {pf ps : Addr} {n m : Nat} {G' H' G2 H2 : Hp} (o : OI h d G H pf ps n m G' H') (g : Grow G' H' G2 H2) : OI h d G H pf ps n m G2 H2 := by
  obtain ⟨a, b, es, fs, c1, c2, c3, c4, c5, c6⟩ := o
  exact ⟨a.trans g, b, es, fs, c1.grow g, c2.grow g, c3, c4, c5, c6⟩
theorem put_ill {h : Hist} {d : Deal} {G H : Hp} {pf ps : Addr} {n m : Nat} {G' H' : Hp} {D : Ends} {σ : L2.St} {tk : TE} {i : Ill} (o : OI h d G H pf ps n m G' H') (hpf : H pf = none) (hd : σ[3]? = some (some (.ref pf))) (hk : Ev tk σ G' H' (mD (illD i))) (hi : IsIll h i) (hn : n ≤ 10000)
    (c : ∀ G1 H1, Ex G' G1 → Ex G1 H1 → OI h d G H pf ps (n + 1) m G1 H1 → D.nx σ H1) : sDPut (tVar 3) tk (tC (.bl true)) D σ H' := by
  obtain ⟨a, b, es, fs, c1, c2, c3, c4, c5, c6⟩ := o
  have z : (illL es).length ≤ 100000 := by rw [illL, List.length_map]; omega
  rw [illD_eq] at hk
  refine s_putT c1 a.gh ev_bl (ev_varV hd) hk z fun G1 H1 g1 m1 => ?_
  obtain ⟨es', e1, e2, e3⟩ := put_illL es i
  rw [e1] at m1
  refine c G1 H1 g1.gg g1.gh ⟨a.thenB hpf g1, b, es', fs, m1, c2.growB b.symm g1, fun j hj => ?_, c4, by omega, c6⟩
  rcases e2 j hj with q | q
  · exact c3 j q
  · rw [q]
    exact hi
theorem look_ints {fs : List (Int × Int)} {k : Int} : lookM (fs.map fun p => ((.inl p.1 : Key), mD (.int p.2))) (.inl k) = (fs.find? fun p => decide (p.1 = k)).map fun p => mD (.int p.2) := by
  have e := lookM_map (fun p : Int × Int => (Sum.inl p.1 : Key)) (fun p => mD (.int p.2)) (Sum.inl k : Key) fs
  refine e.trans ?_
  congr 1
  congr 1
  funext km
  by_cases z : km.1 = k
  · rw [decide_eq_true z, decide_eq_true (by rw [z])]
  · rw [decide_eq_false z, decide_eq_false (fun q => z (Sum.inl.inj q))]
section
variable {P : Program} {w : World} {K : PySem.W.Frag} {mg : Str → Option Value} {base : Heap}
abbrev s_own_ills : Stmt := top 5
abbrev N_own_ills : List Str := ["number", "looks", "makers", "found", "first", "key", "source", "numbers"]
theorem sc_own_ills : FnScope N_own_ills ["number", "looks", "makers"] (defScope s_own_ills) := ⟨rfl, rfl, rfl, by decide +kernel, rfl, by decide +kernel, by decide +kernel⟩
abbrev sp_own_ills : Sp := mkSp (α := Hist × Deal) (fun y => [mD (.int y.2.num), mD (looksD y.2.looks), mK (mksL y.1)]) (fun y => y.1.Ok ∧ y.1.Small ∧ y.2 ∈ y.1.deals) (fun y => mIlls y.1 1000)
theorem own_own_ills  (A : DefAt K mg "own_ills" s_own_ills []) (O_pairs_of : Own P w K mg base "pairs_of" 1 ["looks"] [] sp_pairs_of) (O_right_ahead : Own P w K mg base "right_ahead" 1 ["numbers", "number"] [] sp_right_ahead) (z_list : mg "list" = none) : Own P w K mg base "own_ills" 2 ["number", "looks", "makers"] [] sp_own_ills := by
  have sc := sc_own_ills
  refine own_mk A sc (fun _ _ _ _ _ _ us hl => match us, hl with | [_, _, _], _ => rfl) (fun _ => rfl) fun f cdv Ar outer s H E y G vs Q hr hok hGH hv k => ?_
  match vs, hv with
  | [v1, v2, v3], ⟨h1, h2, h3, _⟩ =>
  refine ⟨_, (pss_cons (ps_set (i := 3) sc.nd rfl (Or.inl rfl) pe_dnewT)
 (pss_cons (ps_set (i := 4) sc.nd rfl (Or.inl rfl) pe_dnewK)
 (pss_cons (ps_for PassesOwn.never rfl (pi_list (pe_own O_pairs_of (hr.mono (by decide)) (by rfl) (pa_cons (pv 1) pa_nil))) (pg_tup rfl (pgs_cons (pg_name (i := 5) sc.nd rfl (Or.inl rfl)) (pgs_cons (pg_name (i := 6) sc.nd rfl (Or.inl rfl)) pgs_nil))) (pss_cut (ps_if (pt_cmpR op_eq (pv 6) (pe_un un_neg pe_int) (nomark _)) (pss_one (ps_dput (hu_of hr) (pv 3) (pe_tup (pa_cons pe_str (pa_cons (pv 0) (pa_cons (pv 5) pa_nil)))) pe_bl rfl)) pss_nil)
 (pss_cut (ps_if (pt_cmpR op_ne (pe_dsetd (pv 4) (pv 5) (pv 6) ⟨rfl, rfl, rfl, rfl⟩) (pv 6) (nomark _)) (pss_one (ps_dput (hu_of hr) (pv 3) (pe_tup (pa_cons pe_str (pa_cons (pv 0) (pa_cons (pv 5) pa_nil)))) pe_bl rfl)) pss_nil)
 (pss_cons (ps_set (i := 7) sc.nd rfl (Or.inl rfl) (pe_dget2 (hu_of hr) (pv 2) (pv 5) (pe_lst pa_nil) ⟨rfl, rfl, rfl, rfl⟩))
 (pss_one (ps_if (PW.pt (pw_and (pt_cmpR op_in_seq (pv 0) (pv 7) rfl) (pw_and1 (pt_cmpR op_ne (pv 6) (pe_own O_right_ahead (hr.mono (by decide)) (by rfl) (pa_cons (pv 7) (pa_cons (pv 0) pa_nil))) (nomark _))))) (pss_one (ps_dput (hu_of hr) (pv 3) (pe_tup (pa_cons pe_str (pa_cons (pv 0) (pa_cons (pe_own O_right_ahead (hr.mono (by decide)) (by rfl) (pa_cons (pv 7) (pa_cons (pv 0) pa_nil))) (pa_cons (pv 5) pa_nil))))) pe_bl rfl)) pss_nil))))))
 (pss_one (ps_ret (pe_callTy (cr_listT rfl) (by rfl) z_list (by decide +kernel) (pa_cons (pv 3) pa_nil))))))), ?_⟩
  obtain ⟨h, d⟩ := y
  obtain ⟨ok, sm, hd⟩ := hok
  have hpl : (pairsOf d).length ≤ 200 := sm.pairs d hd
  refine q_newT hGH fun pf hpf hgpf => ?_
  have e1 : Ex G (upd H pf (.dT [])) := hGH.mut hgpf
  refine q_newK e1 fun ps hps hgps => ?_
  have nps : pf ≠ ps := fun q => by
    rw [← q, upd_same] at hps
    cases hps
  have hps0 : H ps = none := by
    rw [upd_ne nps.symm] at hps
    exact hps
  have e2 : Ex G (upd (upd H pf (.dT [])) ps (.dK [])) := e1.mut hgps
  refine q_forD (ev_call d.looks (by show d.looks.flatten.length ≤ 1000; exact Nat.le_trans hpl (by decide)) (ea_cons (ev_var rfl h2) ea_nil)) e2
    (fun i σ' G' H' => ∃ u5 u6 u7, σ' = [some v1, some v2, some v3, some (.ref pf), some (.ref ps), u5, u6, u7] ∧ OI h d G H pf ps (3 * i) i G' H') ?_ ?_ ?_
  · intro G1 H1 g1
    have g0 : Grow G H G (upd (upd H pf (.dT [])) ps (.dK [])) := ((Grow.refl hGH).mut hpf hgpf).mut hps0 hgps
    refine ⟨none, none, none, rfl, g0.trans g1, nps, [], [], ?_, ?_, fun i hi => (nomatch hi), fun i hi => (nomatch hi), Nat.le_refl _, Nat.le_refl _⟩
    · exact ((MT.new hgpf).other nps).grow g1
    · exact (MK.new hgps).grow g1
  · rintro Gs i dd x σ' G' H' hi hx x1 x2 ⟨u5, u6, u7, rfl, o⟩
    rw [List.getElem?_map] at hi
    cases q : d.looks.flatten[i]? with
    | none =>
      rw [q] at hi
      cases hi
    | some p =>
    rw [q] at hi
    cases hi
    have hpm : p ∈ pairsOf d := List.mem_of_getElem? q
    have hil : i < 200 := by
      have := (List.getElem?_eq_some_iff.mp q).1
      unfold pairsOf at hpl
      omega
    obtain ⟨key, src⟩ := p
    refine g_2 hx x2 fun w1 w2 c1 c2 => ?_
    have gr := o.1
    -- if source == -1
    refine ⟨fun σ3 H3 => ∃ G3, Ex Gs G3 ∧ Ex G3 H3 ∧ Ex G' G3 ∧ σ3 = [some v1, some v2, some v3, some (.ref pf), some (.ref ps), some w1, some w2, u7] ∧ OI h d G H pf ps (3 * i + 1) i G3 H3, ?_, ?_⟩
    · refine s_when (et_test (ev_op (ev_var rfl c2) (ev_neg ev_int) rv_eqI)) x2 (fun hb G1 H1 g1 => ?_) fun hb G1 H1 g1 => ⟨G1, x1.trans g1.gg, g1.gh, g1.gg, rfl, (o.grow g1).more (by omega) (Nat.le_refl _)⟩
      have hb : src = -1 := of_decide_eq_true hb
      refine put_ill (i := .unkept d.num key) (o.grow g1) hpf rfl (ev_tup (ed_cons ev_str (ed_cons (ev_var rfl (Dt.mono (gr.gg.trans g1.gg) h1)) (ed_cons (ev_var rfl (Dt.mono g1.gg c1)) ed_nil)))) (.unkept hd (by rw [← hb]; exact hpm)) (by omega) fun G2 H2 g2 y2 o2 => ⟨G2, (x1.trans g1.gg).trans g2, y2, g1.gg.trans g2, rfl, o2⟩
    · rintro σ3 H3 ⟨G3, y1, y2, y3, rfl, o3⟩
      have c1 := c1.mono y3
      have c2 := c2.mono y3
      -- if first.setdefault(key, source) != source
      refine ⟨fun σ4 H4 => ∃ G4, Ex Gs G4 ∧ Ex G4 H4 ∧ Ex G3 G4 ∧ σ4 = [some v1, some v2, some v3, some (.ref pf), some (.ref ps), some w1, some w2, u7] ∧ OI h d G H pf ps (3 * i + 2) (i + 1) G4 H4, ?_, ?_⟩
      · obtain ⟨g3, _, es, fs, m1, m2, a1, a2, a3, a4⟩ := id o3
        obtain ⟨n1, kvs, k1, k2⟩ := id m2
        have ew1 := Dt.int_iff.mp c1
        have ew2 := Dt.int_iff.mp c2
        refine ⟨_, rfl, ps, rfl, .inl ⟨kvs, .inl k1⟩, _, rfl, _, rfl, kvs, .inl key, k1, by rw [ew1]; rfl, by rw [k2.length, List.length_map]; exact line_lt (by omega), fun v hv => ?_, fun hv => ?_⟩
        · -- there: v is an earlier source
          obtain ⟨l1, l2⟩ := k2.look (k := .inl key)
          obtain ⟨s0, hs0, ev0⟩ : ∃ s0, (key, s0) ∈ fs ∧ v = .int s0 := by
            cases z : fs.find? fun p => decide (p.1 = key) with
            | none =>
              have := l2 (by rw [look_ints, z]; rfl)
              rw [this] at hv
              cases hv
            | some p0 =>
              obtain ⟨v', e1, e2⟩ := l1 (mD (.int p0.2)) (by rw [look_ints, z]; rfl)
              rw [hv] at e1
              cases e1
              have e3 : p0.1 = key := by simpa using List.find?_some z
              exact ⟨p0.2, by rw [← e3]; exact List.mem_of_find?_eq_some z, Dt.int_iff.mp e2⟩
          subst ev0
          refine ⟨_, rfl, by rw [ew2]; rfl, _, rfl, ?_⟩
          by_cases hne : s0 = src
          · have : (!decide (V.int s0 = w2)) = false := by rw [ew2, hne]; simp
            show (if (!decide (V.int s0 = w2)) = true then _ else _)
            rw [this]
            refine iteF ?_
            exact ⟨G3, y1, y2, Ex.refl _, rfl, o3.more (by omega) (by omega)⟩
          · have : (!decide (V.int s0 = w2)) = true := by rw [ew2]; simp [hne]
            show (if (!decide (V.int s0 = w2)) = true then _ else _)
            rw [this]
            refine iteT ?_
            refine put_ill (i := .midway d.num key) o3 hpf rfl (ev_tup (ed_cons ev_str (ed_cons (ev_var rfl (Dt.mono g3.gg h1)) (ed_cons (ev_var rfl c1) ed_nil)))) (.midway hd (a2 _ hs0) hpm hne) (by omega) fun G4 H4 g4 y4 o4 => ⟨G4, y1.trans g4, y4, g4, rfl, o4.more (by omega) (by omega)⟩
        · refine ⟨_, rfl, by rw [ew2]; rfl, _, rfl, ?_⟩
          have : (!decide (w2 = w2)) = false := by simp
          show (if (!decide (w2 = w2)) = true then _ else _)
          rw [this]
          refine iteF ?_
          refine ⟨G3, y1, y2.mut n1, Ex.refl _, rfl, g3.mut hps0 n1, nps, es, fs ++ [(key, src)], m1.other nps, ⟨n1, _, upd_same, ?_⟩, a1, fun p hp => ?_, by omega, by rw [List.length_append]; exact Nat.succ_le_succ a4⟩
          · rw [putK_new _ hv, List.map_append]
            exact k2.snoc (m := mD (.int src)) c2
          · rcases List.mem_append.mp hp with r | r
            · exact a2 p r
            · rw [List.mem_singleton.mp r]
              exact hpm
      · rintro σ4 H4 ⟨G4, z1, z2, z3, rfl, o4⟩
        have c1 := c1.mono z3
        have c2 := c2.mono z3
        have gr4 := o4.1
        refine q_asg (ev_getMks (ev_var rfl ((mK (mksL h)).mono gr4.gg h3)) (ev_var rfl c1)) z2 fun w3 G5 H5 g5 c3 => ?_
        have o5 := o4.grow g5
        have h1' := Dt.mono o5.1.gg h1
        refine s_when ((et_and (et_test (ev_op (ev_var rfl h1') (ev_var rfl c3) rv_inI)) fun hm => et_test (ev_op (ev_var rfl (Dt.mono g5.gg c2)) (ev_call (makersOf h key, d.num) (of_decide_eq_true hm) (ea_cons (ev_var rfl c3) (ea_cons (ev_var rfl h1') ea_nil))) rv_neI))) g5.gh (fun hb G6 H6 g6 => ?_) fun hb G6 H6 g6 => ⟨G6, (z1.trans g5.gg).trans g6.gg, g6.gh, some w1, some w2, some w3, rfl, (o5.grow g6).more (by omega) (by omega)⟩
        rw [Bool.and_eq_true, decide_eq_true_eq] at hb
        obtain ⟨hb1, hb2⟩ := hb
        have hb2 : src ≠ rightOf 0 (makersOf h key) d.num := by simpa using hb2
        have h1'' := Dt.mono g6.gg h1'
        refine put_ill (i := .lost d.num (rightOf 0 (makersOf h key) d.num) key) (o5.grow g6) hpf rfl (ev_tup (ed_cons ev_str (ed_cons (ev_var rfl h1'') (ed_cons (ev_call (makersOf h key, d.num) hb1 (ea_cons (ev_var rfl (Dt.mono g6.gg c3)) (ea_cons (ev_var rfl h1'') ea_nil))) (ed_cons (ev_var rfl (Dt.mono (g5.gg.trans g6.gg) c1)) ed_nil))))) (.lost hd hpm hb1 hb2) (by omega) fun G7 H7 g7 y7 o7 => ⟨G7, ((z1.trans g5.gg).trans g6.gg).trans g7, y7, some w1, some w2, some w3, rfl, o7.more (by omega) (by omega)⟩
  · rintro σ' G' H' x2 ⟨u5, u6, u7, rfl, g', _, es, fs, m1, m2, a1, a2, a3, a4⟩
    obtain ⟨G2, g2, _, _, r2⟩ := m1.ret g' hpf
    refine s_ret (ev_listT (ev_var rfl r2)) g2.gh fun v G3 H3 g3 hv => k v G3 H3 (g2.trans g3) ⟨_, ⟨es, ?_, a1, ?_⟩, hv⟩
    · rw [illL, List.map_map]
      congr 1
      refine List.map_congr_left fun i _ => ?_
      exact (illD_eq i).symm
    · have : ((d.looks.flatten.map pD).length) = (pairsOf d).length := List.length_map _
      omega
end
end Sk
/-! Sk_steps_to -/
namespace Sk
open PySem PySem.Spec PyProof.Rows L2
open Evl (pss_cut tCut)
abbrev predL (nodes : List Node) (pairs : List (Node × Node)) : List (List Key × MP) := nodes.map fun x => (nk x, mD (.list ((preds pairs x).map pD)))
structure Bf (nodes : List Node) (pairs : List (Node × Node)) (goal : Node) (line : List Node) (d : Node → Nat) : Prop where
  has : goal ∈ line
  nd : line.Nodup
  sub : ∀ x ∈ line, x ∈ nodes
  down : ∀ x ∈ line, x ≠ goal → ∃ y ∈ line, (x, y) ∈ pairs ∧ d y < d x
  lt : ∀ x ∈ line, d x < line.length
theorem Bf.add {nodes : List Node} {pairs : List (Node × Node)} {goal : Node} {line : List Node} {d : Node → Nat} (b : Bf nodes pairs goal line d) {n o : Node} (hn : n ∈ line) (ho : o ∉ line) (hon : o ∈ nodes) (hp : (o, n) ∈ pairs) : Bf nodes pairs goal (line ++ [o]) (setAt d o (d n + 1)) := by
  have old : ∀ {x : Node}, x ∈ line → setAt d o (d n + 1) x = d x := fun hx => setAt_ne fun e => ho (by rw [← e]; exact hx)
  refine ⟨List.mem_append.mpr (.inl b.has), List.nodup_append.mpr ⟨b.nd, by simp, fun x hx y hy => ?_⟩, fun x hx => ?_, fun x hx hg => ?_, fun x hx => ?_⟩
  · rw [List.mem_singleton] at hy
    subst hy
    rintro rfl
    exact ho hx
  · rcases List.mem_append.mp hx with hx | hx
    · exact b.sub x hx
    · rw [List.mem_singleton.mp hx]
      exact hon
  · rcases List.mem_append.mp hx with hx | hx
    · obtain ⟨y, y1, y2, y3⟩ := b.down x hx hg
      exact ⟨y, List.mem_append.mpr (.inl y1), y2, by rw [old y1, old hx]; exact y3⟩
    · rw [List.mem_singleton.mp hx]
      exact ⟨n, List.mem_append.mpr (.inl hn), hp, by rw [old hn, setAt_same]; omega⟩
  · rw [List.length_append, List.length_singleton]
    rcases List.mem_append.mp hx with hx | hx
    · rw [old hx]
      exact Nat.lt_succ_of_lt (b.lt x hx)
    · rw [List.mem_singleton.mp hx, setAt_same]
      exact Nat.succ_lt_succ (b.lt n hn)
/-- a place of a list that changes -/
theorem ev_ixML {K : PySem.W.Frag} {σ : L2.St} {G H : Hp} {ta tb : TE} {l : Addr} {ds : List PyData} {i : Int} {d : PyData} (hl : ML G H l ds) (ha : Ev ta σ G H (mV (.ref l))) (hb : Ev tb σ G H (mD (.int i))) (h : atI ds i = some d) : Ev (tOp (rIxL K) ta tb) σ G H (mD d) :=
  ev_op ha hb (rv_now fun x y G1 H1 g hx hy => by
    obtain rfl := hx
    obtain rfl := Dt.int_iff.mp hy
    obtain ⟨_, xs, h1, h2⟩ := hl.grow g
    unfold atI at h
    cases q : ixN ds.length i with
    | none =>
      rw [q] at h
      cases h
    | some j =>
      rw [q] at h
      obtain ⟨v, v1, v2⟩ := h2.getD (show ds[j]? = some d from h)
      refine ⟨v, v2, fun Q k => ⟨l, xs, i, v, rfl, rfl, SqL.of h1, ?_, k⟩⟩
      unfold atI
      rw [h2.length, q]
      exact v1)
abbrev wN (l : List Node) (d : Node → Nat) : List (List Key × MP) := wL l fun x => (d x : Int)
theorem put_wN_new {l : List Node} {d : Node → Nat} {y : Node} {v : Nat} (h : y ∉ l) : putM (wN l d) (nk y) (mD (.int (v : Int))) = wN (l ++ [y]) (setAt d y v) := by
  rw [put_wL_new h]
  refine List.map_congr_left fun x _ => ?_
  show (nk x, mD (.int (if x = y then (v : Int) else (d x : Int)))) = (nk x, mD (.int ((if x = y then v else d x : Nat) : Int)))
  by_cases e : x = y
  · rw [if_pos e, if_pos e]
  · rw [if_neg e, if_neg e]
def mFar (nodes : List Node) (pairs : List (Node × Node)) (goal : Node) : MP := ⟨fun G v => ∃ line d, Bfs nodes pairs goal line d ∧ (∀ x ∈ line, d x < line.length) ∧ line.length ≤ 1000 ∧ (mT (wN line d)).p G v, fun e ⟨l, d, a, b, c, h⟩ => ⟨l, d, a, b, c, (mT (wN l d)).mono e h⟩⟩
section
variable {P : Program} {w : World} {K : PySem.W.Frag} {mg : Str → Option Value} {base : Heap}
abbrev s_steps_to : Stmt := top 13
abbrev N_steps_to : List Str := ["goal", "ahead", "far", "line", "at", "node", "other"]
theorem sc_steps_to : FnScope N_steps_to ["goal", "ahead"] (defScope s_steps_to) := ⟨rfl, rfl, rfl, by decide +kernel, rfl, by decide +kernel, by decide +kernel⟩
abbrev sp_steps_to : Sp := mkSp (α := List Node × List (Node × Node) × Node) (fun y => [mD (pD y.2.2), mT (predL y.1 y.2.1)]) (fun y => y.1.Nodup ∧ y.1.length ≤ 1000 ∧ y.2.1.length ≤ 50000 ∧ (∀ p ∈ y.2.1, p.1 ∈ y.1 ∧ p.2 ∈ y.1) ∧ y.2.2 ∈ y.1) (fun y => mFar y.1 y.2.1 y.2.2)
theorem own_steps_to  (A : DefAt K mg "steps_to" s_steps_to []) (z_len : mg "len" = none) : Own P w K mg base "steps_to" 1 ["goal", "ahead"] [] sp_steps_to := by
  have sc := sc_steps_to
  refine own_mk A sc (fun _ _ _ _ _ _ us hl => match us, hl with | [_, _], _ => rfl) (fun _ => rfl) fun f cdv Ar outer s H E y G vs Q hr hok hGH hv k => ?_
  match vs, hv with
  | [v1, v2], ⟨h1, h2, _⟩ =>
  refine ⟨_, (pss_cons (ps_set (i := 2) sc.nd rfl (Or.inl rfl) (pe_disp1T hr.units (pv 0) pe_int))
 (pss_cons (ps_set (i := 3) sc.nd rfl (Or.inl rfl) (pe_lst (pa_cons (pv 0) pa_nil)))
 (pss_cons (ps_set (i := 4) sc.nd rfl (Or.inl rfl) pe_int)
 (pss_cons (ps_while PassesOwn.never (pt_cmpR op_lt (pv 4) (pe_callB call_len_seq (by rfl) z_len PySem.boot_len (pa_cons (pv 3) pa_nil)) (nomark _)) (pss_cons (ps_set (i := 5) sc.nd rfl (Or.inl rfl) (pe_ix ix_list (pv 3) (pv 4) (fun _ _ => rfl)))
 (pss_cons (ps_aug (i := 4) sc.nd rfl (Or.inl rfl) pe_int ip_add)
 (pss_one (ps_for PassesOwn.never rfl (pi_list (pe_dget (hu_of hr) (pv 1) (pv 5) (fun _ _ => rfl))) (pg_name (i := 6) sc.nd rfl (Or.inl rfl)) (pss_one (ps_if (pt_cmp (pc_dnotin (hu_of hr) (pv 6) (pv 2)) rfl) (pss_cons (ps_dput (hu_of hr) (pv 2) (pv 6) (pe_op op_add (pe_dget (hu_of hr) (pv 2) (pv 5) (fun _ _ => rfl)) pe_int) rfl)
 (pss_one (ps_expr (pe_bm PySem.F.plainAttrs_list PySem.F.slot_list_append PySem.F.type_list_append mt_append (pv 3) (pa_cons (pv 6) pa_nil))))) pss_nil)))))))
 (pss_one (ps_ret (pv 2))))))), ?_⟩
  obtain ⟨nodes, pairs, goal⟩ := y
  obtain ⟨nd, nz, pz, he, hg⟩ := hok
  have nd : nodes.Nodup := nd
  have nz : nodes.length ≤ 1000 := nz
  have he : ∀ p ∈ pairs, p.1 ∈ nodes ∧ p.2 ∈ nodes := he
  have hg : goal ∈ nodes := hg
  refine q_disp1 (ks := nk goal) (m := mD (.int 0)) (ev_var rfl h1) ev_int hGH fun pf G1 H1 g1 hpf mf => ?_
  refine q_lst1 (ev_var rfl (Dt.mono g1.gg h1)) g1.gh fun pl G2 H2 g2 hpl' ml => ?_
  have g12 := g1.trans g2
  have hpl : H pl = none := g1.hh.non hpl'
  have mf2 := mf.grow g2
  have nfl : pf ≠ pl := mf.ne hpl'
  refine q_asg (m := mV (.int 0)) (Ev.imp ev_int fun G v hv => Dt.int_iff.mp hv) g12.gh fun v0 G3 H3 g3 hv0 => ?_
  obtain rfl := hv0
  have g13 := g12.trans g3
  have b0 : Bf nodes pairs goal [goal] (fun _ => 0) := ⟨List.mem_cons_self, by simp, fun x hx => by rw [List.mem_singleton.mp hx]; exact hg, fun x hx hn => absurd (List.mem_singleton.mp hx) hn, fun x hx => Nat.zero_lt_one⟩
  refine q_while (fun n σ' H' => ∃ (G' : Hp) (k : Nat) (u5 u6 : Option V) (line : List Node) (d : Node → Nat), Grow G H G' H' ∧ σ' = [some v1, some v2, some (.ref pf), some (.ref pl), some (.int (k : Int)), u5, u6] ∧ MT G' H' pf (wN line d) ∧ ML G' H' pl (line.map pD) ∧ Bf nodes pairs goal line d ∧ k ≤ line.length ∧ (∀ x ∈ line.take k, ∀ y, (y, x) ∈ pairs → y ∈ line) ∧ k + n = nodes.length) nodes.length ?_ ?_
  · exact ⟨G3, 0, none, none, [goal], fun _ => 0, g13, rfl, mf2.grow g3, ml.grow g3, b0, Nat.zero_le _, fun x hx => by simp at hx, Nat.zero_add _⟩
  · rintro n σ' H' ⟨G', k', u5, u6, line, d, g', rfl, mf, ml, bf, hk, cl, hn⟩
    have ll := nodup_sub_len bf.nd bf.sub
    refine ⟨decide ((k' : Int) < ((line.map pD).length : Int)), G', g'.gh, et_test (ev_op (ev_var rfl (Dt.int _)) (Ev.now (ev_len (ev_var rfl (ml.dtH g'.gh))) (flat_int _) g'.gh) rv_B0), fun hb G4 H4 g4 => ?_, fun hb G4 H4 g4 => ?_⟩
    · have hlt : (k' : Int) < ((line.map pD).length : Int) := of_decide_eq_true hb
      rw [List.length_map] at hlt
      have hkl : k' < line.length := by omega
      have hx : line[k']? = some line[k'] := List.getElem?_eq_getElem hkl
      generalize line[k'] = x at hx
      have hxl := List.mem_of_getElem? hx
      have hxn := bf.sub x hxl
      refine ⟨fun σ2 H2 => ∃ G' u5 u6 line' d', Grow G H G' H2 ∧ σ2 = [some v1, some v2, some (.ref pf), some (.ref pl), some (.int ((k' + 1 : Nat) : Int)), u5, u6] ∧ MT G' H2 pf (wN line' d') ∧ ML G' H2 pl (line'.map pD) ∧ Bf nodes pairs goal line' d' ∧ (∃ ext, line' = line ++ ext) ∧ (∀ y ∈ preds pairs x, y ∈ line'), ?_, ?_⟩
      · rintro σ2 H2 ⟨G2, u5, u6, line', d', a1, a2, a3, a4, a5, ⟨ext, rfl⟩, a7⟩
        refine ⟨n - 1, by omega, G2, k' + 1, u5, u6, _, d', a1, a2, a3, a4, a5, by rw [List.length_append]; omega, fun z hz y hy => ?_, by omega⟩
        rw [List.take_append_of_le_length (by omega), take_snoc hx] at hz
        rcases List.mem_append.mp hz with hz | hz
        · exact List.mem_append.mpr (.inl (cl z hz y hy))
        · rw [List.mem_singleton.mp hz] at hy
          exact a7 y (mem_preds.mpr hy)
      · have ga := g'.trans g4
        have ml4 := ml.grow g4
        refine q_asg (ev_ixML (d := pD x) ml4 (ev_varV rfl) (ev_var rfl (Dt.int _)) (at_nat (by rw [List.getElem?_map, hx]; rfl))) g4.gh fun v5 G5 H5 g5 c5 => ?_
        refine q_aug (f := fun i j => i + j) (a := (k' : Int)) (c := 1) rfl ev_int g5.gh fun G6 H6 g6 => ?_
        have gb := (ga.trans g5).trans g6
        have c6 := Dt.mono g6.gg c5
        refine s_forDn (ds := (preds pairs x).map pD) (ev_dgetT (ks := nk x) (l := predL nodes pairs) (ev_var rfl ((mT (predL nodes pairs)).mono gb.gg h2)) (ev_var rfl c6) (look_nk hxn)) gb.gh
          (fun i σ' G' H' => ∃ u6 line' d', σ' = [some v1, some v2, some (.ref pf), some (.ref pl), some (.int ((k' : Int) + 1)), some v5, u6] ∧ Grow G H G' H' ∧ MT G' H' pf (wN line' d') ∧ ML G' H' pl (line'.map pD) ∧ Bf nodes pairs goal line' d' ∧ (∃ ext, line' = line ++ ext) ∧ (∀ y ∈ (preds pairs x).take i, y ∈ line') ∧ Dt G' v5 (pD x)) ?_ ?_ ?_
        · intro G7 H7 g7
          exact ⟨u6, line, d, rfl, gb.trans g7, ((mf.grow g4).grow (g5.trans g6)).grow g7, (ml4.grow (g5.trans g6)).grow g7, bf, ⟨[], by simp⟩, fun y hy => by simp at hy, Dt.mono g7.gg c6⟩
        · rintro Gs i dd w σ' G' H' hi hw x1 x2 ⟨u6, line', d', rfl, g', mf, ml, bf, ⟨ext, rfl⟩, al, c5⟩
          obtain ⟨o, ho, rfl⟩ := map_some hi
          have hop : (o, x) ∈ pairs := mem_preds.mp (List.mem_of_getElem? ho)
          have hon := (he _ hop).1
          have ll := nodup_sub_len bf.nd bf.sub
          refine s_when (b := !(decide (o ∈ line ++ ext))) (et_test (Ev.now (Ev.is (ev_dnotinT (ks := nk o) (ev_var rfl (Dt.mono x2 hw)) (ev_var rfl (mf.now x2))) (by rw [look_nk_some])) (flat_bl _) x2)) x2 (fun hb G8 H8 g8 => ?_) fun hb G8 H8 g8 => ?_
          · have hno : o ∉ line ++ ext := by
              rw [Bool.not_eq_true'] at hb
              exact of_decide_eq_false hb
            have mf8 := mf.grow g8
            have g'' := g'.trans g8
            refine q_putT (ks := nk o) (m := mD (.int ((d' x + 1 : Nat) : Int))) mf8 g8.gh (Ev.is (ev_op (Ev.now (ev_dgetT (ks := nk x) (l := wN (line ++ ext) d') (ev_var rfl (mf8.now g8.gh)) (ev_var rfl (Dt.mono g8.gh (Dt.mono g8.gg c5))) (look_nk (List.mem_append.mpr (.inl hxl)))) (flat_int _) g8.gh) ev_int rv_I0) rfl) (ev_varV rfl) (ev_var rfl (Dt.mono g8.gg hw)) (by rw [List.length_map]; omega) fun G9 H9 b9 mf9 => ?_
            rw [put_wN_new hno] at mf9
            have g9 := g''.thenB hpf b9
            refine s_app ((ml.grow g8).growB (Ne.symm nfl) b9) g9.gh (ev_varV rfl) (ev_var rfl (Dt.mono (g8.gg.trans b9.gg) hw)) (by rw [List.length_map]; omega) fun G10 H10 b10 ml10 => ?_
            have e10 := (g8.gg.trans b9.gg).trans b10.gg
            have hmap : ((line ++ ext) ++ [o]).map pD = (line ++ ext).map pD ++ [pD o] := by rw [List.map_append]; rfl
            rw [← hmap] at ml10
            refine ⟨G10, x1.trans e10, b10.gh, some w, _, _, rfl, g9.thenB hpl b10, mf9.growB nfl b10, ml10, bf.add (List.mem_append.mpr (.inl hxl)) hno hon hop, ⟨ext ++ [o], by rw [List.append_assoc]⟩, fun y hy => ?_, Dt.mono e10 c5⟩
            rw [take_snoc ho] at hy
            rcases List.mem_append.mp hy with hy | hy
            · exact List.mem_append.mpr (.inl (al y hy))
            · exact List.mem_append.mpr (.inr hy)
          · have hin : o ∈ line ++ ext := by
              rw [Bool.not_eq_false'] at hb
              exact of_decide_eq_true hb
            refine ⟨G8, x1.trans g8.gg, g8.gh, some w, _, _, rfl, g'.trans g8, mf.grow g8, ml.grow g8, bf, ⟨ext, rfl⟩, fun y hy => ?_, Dt.mono g8.gg c5⟩
            rw [take_snoc ho] at hy
            rcases List.mem_append.mp hy with hy | hy
            · exact al y hy
            · rw [List.mem_singleton.mp hy]
              exact hin
        · rintro σ' G' H' x2 ⟨u6, line', d', rfl, g', mf, ml, bf, ex, al, _⟩
          rw [List.length_map, List.take_length] at al
          exact ⟨G', some v5, u6, line', d', g', rfl, mf, ml, bf, ex, al⟩
    · have hlt : ¬ (k' : Int) < ((line.map pD).length : Int) := of_decide_eq_false hb
      rw [List.length_map] at hlt
      have hkl : k' = line.length := by omega
      subst hkl
      rw [List.take_length] at cl
      obtain ⟨G5, g5, e5, _, r5⟩ := (mf.grow g4).ret (g'.trans g4) hpf
      exact s_ret (m := mT (wN line d)) (ev_var rfl r5) g5.gh fun v G6 H6 g6 hv => k v G6 H6 (g5.trans g6) ⟨line, d, ⟨bf.has, bf.nd, bf.sub, cl, bf.down⟩, bf.lt, by omega, hv⟩
end
end Sk
/-! Sk_nearest -/
namespace Sk
open PySem PySem.Spec PyProof.Rows L2
open Evl (pss_cut tCut)
theorem lt_first {a b : Int} {e f : PyData} (hne : a ≠ b) : PySem.W.dataLt (.tuple [.int a, e]) (.tuple [.int b, f]) = decide (a < b) := by
  unfold PySem.W.dataLt
  have h1 : ∀ (i : Int) (x : PyData), PySem.W.keyToks (.tuple [.int i, x]) = .inl 1 :: .inl i :: PySem.W.keyToksAll [x] := fun i x => by
    simp [PySem.W.keyToks, PySem.W.keyToksAll]
  rw [h1, h1, PyProof.Rows.lex_self (O := PyProof.Rows.itemOrd), PyProof.Rows.lex_diff (O := PyProof.Rows.itemOrd) (fun z => hne (Sum.inl.inj z))]
  rfl
theorem lt_true {a b : Int} {e f : PyData} (h : PySem.W.dataLt (.tuple [.int a, e]) (.tuple [.int b, f]) = true) : a ≤ b := by
  by_cases q : a = b
  · omega
  · rw [lt_first q] at h
    have := of_decide_eq_true h
    omega
theorem lt_false {a b : Int} {e f : PyData} (h : PySem.W.dataLt (.tuple [.int a, e]) (.tuple [.int b, f]) = false) : b ≤ a := by
  by_cases q : a = b
  · omega
  · rw [lt_first q] at h
    have := of_decide_eq_false h
    omega
def Near (cands line : List Node) (d : Node → Nat) (v : PyData) : Prop := (v = .none ∧ ∀ x ∈ cands, x ∉ line) ∨ ∃ x, x ∈ cands ∧ x ∈ line ∧ v = pD x ∧ ∀ y ∈ cands, y ∈ line → d x ≤ d y
theorem isNon_node (x : Node) : isNon (pD x) = false := rfl
section
variable {P : Program} {w : World} {K : PySem.W.Frag} {mg : Str → Option Value} {base : Heap}
abbrev s_nearest : Stmt := top 14
abbrev N_nearest : List Str := ["nodes", "far", "found", "node"]
theorem sc_nearest : FnScope N_nearest ["nodes", "far"] (defScope s_nearest) := ⟨rfl, rfl, rfl, by decide +kernel, rfl, by decide +kernel, by decide +kernel⟩
abbrev sp_nearest : Sp := mkSp (α := List Node × List Node × (Node → Nat)) (fun y => [mD (.list (y.1.map pD)), mT (wN y.2.1 y.2.2)]) (fun _ => True) (fun y => mDs (Near y.1 y.2.1 y.2.2))
theorem own_nearest  (A : DefAt K mg "nearest" s_nearest [])  : Own P w K mg base "nearest" 1 ["nodes", "far"] [] sp_nearest := by
  have sc := sc_nearest
  refine own_mk A sc (fun _ _ _ _ _ _ us hl => match us, hl with | [_, _], _ => rfl) (fun _ => rfl) fun f cdv Ar outer s H E y G vs Q hr hok hGH hv k => ?_
  match vs, hv with
  | [v1, v2], ⟨h1, h2, _⟩ =>
  refine ⟨_, (pss_cons (ps_set (i := 2) sc.nd rfl (Or.inl rfl) pe_non)
 (pss_cons (ps_for PassesOwn.never rfl (pi_list (pv 0)) (pg_name (i := 3) sc.nd rfl (Or.inl rfl)) (pss_cons (ps_if (pt_cmp (pc_dnotin (hu_of hr) (pv 3) (pv 1)) rfl) (pss_one ps_continue) pss_nil)
 (pss_one (ps_if (PW.pt (pw_or (pt_cmpR op_isN1 (pv 2) pe_non (nomark _)) (pw_or1 (pt_cmpR (op_ltD hr.units) (pe_tup (pa_cons (pe_dget (hu_of hr) (pv 1) (pv 3) (fun _ _ => rfl)) (pa_cons (pv 3) pa_nil))) (pe_tup (pa_cons (pe_dget (hu_of hr) (pv 1) (pv 2) (fun _ _ => rfl)) (pa_cons (pv 2) pa_nil))) (nomark _))))) (pss_one (ps_set (i := 2) sc.nd rfl (Or.inl rfl) (pv 3))) pss_nil))))
 (pss_one (ps_ret (pv 2))))), ?_⟩
  obtain ⟨cands, line, d⟩ := y
  have h2 : (mT (wN line d)).p G v2 := h2
  refine q_asg ev_non hGH fun v3 G1 H1 g1 c3 => ?_
  refine q_forDn (ev_var rfl (Dt.mono g1.gg h1)) g1.gh (fun i σ' G' H' => ∃ v3 u4 e, σ' = [some v1, some v2, some v3, u4] ∧ Grow G H G' H' ∧ Dt G' v3 e ∧ Near (cands.take i) line d e) ?_ ?_ ?_
  · intro G2 H2 g2
    exact ⟨v3, none, .none, rfl, g1.trans g2, Dt.mono g2.gg c3, .inl ⟨rfl, fun x hx => by simp at hx⟩⟩
  · rintro Gs i dd w σ' G' H' hi hw x1 x2 ⟨v3, u4, e, rfl, g', c3, nr⟩
    obtain ⟨n, hn, rfl⟩ := map_some hi
    have d2 := (mT (wN line d)).mono g'.gg h2
    refine q_when (b := !(decide (n ∈ line))) (et_test (Ev.is (ev_dnotinT (ks := nk n) (ev_var rfl hw) (ev_var rfl d2)) (by rw [look_nk_some]))) x2 (fun hb G8 H8 g8 => ?_) fun hb G8 H8 g8 => ?_
    · have hno : n ∉ line := by simpa using hb
      refine ⟨G8, x1.trans g8.gg, g8.gh, v3, some w, e, rfl, g'.trans g8, Dt.mono g8.gg c3, ?_⟩
      rw [take_snoc hn]
      rcases nr with ⟨e1, e2⟩ | ⟨x, a1, a2, a3, a4⟩
      · refine .inl ⟨e1, fun x hx => ?_⟩
        rcases List.mem_append.mp hx with hx | hx
        · exact e2 x hx
        · rw [List.mem_singleton.mp hx]
          exact hno
      · refine .inr ⟨x, List.mem_append.mpr (.inl a1), a2, a3, fun y hy hyl => ?_⟩
        rcases List.mem_append.mp hy with hy | hy
        · exact a4 y hy hyl
        · rw [List.mem_singleton.mp hy] at hyl
          exact absurd hyl hno
    · have hin : n ∈ line := by simpa using hb
      have d8 := (mT (wN line d)).mono g8.gg d2
      have w8 := Dt.mono g8.gg hw
      have c8 := Dt.mono g8.gg c3
      rcases nr with ⟨e1, e2⟩ | ⟨x, a1, a2, a3, a4⟩
      · subst e1
        refine s_when (b := true) (ET.is (et_or (c := true) (et_test (ev_op (ev_var rfl c8) ev_non rv_isN)) fun hb => (by cases hb)) rfl) g8.gh (fun _ G9 H9 g9 => ?_) fun hb => (nomatch hb)
        refine s_asg (m := mD (pD n)) (ev_var rfl (Dt.mono g9.gg w8)) g9.gh fun v G10 H10 g10 hv => ⟨G10, (x1.trans g8.gg).trans (g9.gg.trans g10.gg), g10.gh, v, some w, pD n, rfl, (g'.trans g8).trans (g9.trans g10), hv, ?_⟩
        rw [take_snoc hn]
        refine .inr ⟨n, List.mem_append.mpr (.inr List.mem_cons_self), hin, rfl, fun y hy hyl => ?_⟩
        rcases List.mem_append.mp hy with hy | hy
        · exact absurd hyl (e2 y hy)
        · rw [List.mem_singleton.mp hy]
          exact Nat.le_refl _
      · subst a3
        refine s_when (et_or (et_test (ev_op (ev_var rfl c8) ev_non rv_isN)) fun _ => et_test (ev_op (ev_tup (ed_cons (ev_dgetT (ks := nk n) (l := wN line d) (ev_var rfl d8) (ev_var rfl w8) (look_nk hin)) (ed_cons (ev_var rfl w8) ed_nil))) (ev_tup (ed_cons (ev_dgetT (ks := nk x) (l := wN line d) (ev_var rfl d8) (ev_var rfl c8) (look_nk a2)) (ed_cons (ev_var rfl c8) ed_nil))) (rv_ltD (by simp [PySem.W.alike, PySem.W.alikeAll]) (fun h => nomatch h) (by show PyData.depth (.tuple [.int _, .tuple [.int _, .int _]]) ≤ 30; simp [PyData.depth, PyData.depthAll])))) g8.gh (fun hb G9 H9 g9 => ?_) fun hb G9 H9 g9 => ?_
        · have hb : PySem.W.dataLt (.tuple [.int (d n : Int), pD n]) (.tuple [.int (d x : Int), pD x]) = true := hb
          have hle := lt_true hb
          refine s_asg (m := mD (pD n)) (ev_var rfl (Dt.mono g9.gg w8)) g9.gh fun v G10 H10 g10 hv => ⟨G10, (x1.trans g8.gg).trans (g9.gg.trans g10.gg), g10.gh, v, some w, pD n, rfl, (g'.trans g8).trans (g9.trans g10), hv, ?_⟩
          rw [take_snoc hn]
          refine .inr ⟨n, List.mem_append.mpr (.inr List.mem_cons_self), hin, rfl, fun y hy hyl => ?_⟩
          rcases List.mem_append.mp hy with hy | hy
          · have := a4 y hy hyl
            omega
          · rw [List.mem_singleton.mp hy]
            exact Nat.le_refl _
        · have hb : PySem.W.dataLt (.tuple [.int (d n : Int), pD n]) (.tuple [.int (d x : Int), pD x]) = false := hb
          have hle := lt_false hb
          refine ⟨G9, (x1.trans g8.gg).trans g9.gg, g9.gh, v3, some w, pD x, rfl, (g'.trans g8).trans g9, Dt.mono g9.gg c8, ?_⟩
          rw [take_snoc hn]
          refine .inr ⟨x, List.mem_append.mpr (.inl a1), a2, rfl, fun y hy hyl => ?_⟩
          rcases List.mem_append.mp hy with hy | hy
          · exact a4 y hy hyl
          · rw [List.mem_singleton.mp hy]
            omega
  · rintro σ' G' H' x2 ⟨v3, u4, e, rfl, g', c3, nr⟩
    rw [List.length_map, List.take_length] at nr
    exact s_ret (m := mD e) (ev_var rfl c3) x2 fun v G2 H2 g2 hv => k v G2 H2 (g'.trans g2) ⟨e, nr, hv⟩
end
end Sk
/-! Sk_ring_through -/
namespace Sk
open PySem PySem.Spec PyProof.Rows L2
open Evl (pss_cut tCut)
theorem shaped_node (x : Node) : SeqAt.shaped (pD x) = true := by
  unfold SeqAt.shaped
  simp [PyData.canLay0, PyData.canLayAll0, PyData.depth, PyData.depthAll]
def NoRing (pairs : List (Node × Node)) (s : Node) : Prop := ∀ x, (s, x) ∈ pairs → ¬ Reach pairs x s
def mRing (pairs : List (Node × Node)) (s : Node) : MP := mDs fun v => (v = .none ∧ NoRing pairs s) ∨ ∃ l : List Node, v = .list (l.map pD) ∧ l.length ≤ 2000
section
variable {P : Program} {w : World} {K : PySem.W.Frag} {mg : Str → Option Value} {base : Heap}
abbrev s_ring_through : Stmt := top 15
abbrev N_ring_through : List Str := ["start", "behind", "far", "node", "found"]
theorem sc_ring_through : FnScope N_ring_through ["start", "behind", "far"] (defScope s_ring_through) := ⟨rfl, rfl, rfl, by decide +kernel, rfl, by decide +kernel, by decide +kernel⟩
abbrev sp_ring_through : Sp := mkSp (α := List Node × List (Node × Node) × Node) (fun y => [mD (pD y.2.2), mT (sucL y.1 y.2.1), mFar y.1 y.2.1 y.2.2]) (fun y => y.2.2 ∈ y.1) (fun y => mRing y.2.1 y.2.2)
theorem own_ring_through  (A : DefAt K mg "ring_through" s_ring_through []) (O_nearest : Own P w K mg base "nearest" 1 ["nodes", "far"] [] sp_nearest) : Own P w K mg base "ring_through" 2 ["start", "behind", "far"] [] sp_ring_through := by
  have sc := sc_ring_through
  refine own_mk A sc (fun _ _ _ _ _ _ us hl => match us, hl with | [_, _, _], _ => rfl) (fun _ => rfl) fun f cdv Ar outer s H E y G vs Q hr hok hGH hv k => ?_
  match vs, hv with
  | [v1, v2, v3], ⟨h1, h2, h3, _⟩ =>
  refine ⟨_, (pss_cons (ps_set (i := 3) sc.nd rfl (Or.inl rfl) (pe_own O_nearest (hr.mono (by decide)) (by rfl) (pa_cons (pe_dget (hu_of hr) (pv 1) (pv 0) (fun _ _ => rfl)) (pa_cons (pv 2) pa_nil))))
 (pss_cons (ps_if (pt_cmpR op_isN1 (pv 3) pe_non (nomark _)) (pss_one (ps_ret pe_non)) pss_nil)
 (pss_cons (ps_set (i := 4) sc.nd rfl (Or.inl rfl) (pe_lst (pa_cons (pv 0) pa_nil)))
 (pss_cons (ps_while PassesOwn.never (pt_cmpR (op_neD hr.units) (pv 3) (pv 0) (nomark _)) (pss_cons (ps_expr (pe_bm PySem.F.plainAttrs_list PySem.F.slot_list_append PySem.F.type_list_append mt_append (pv 4) (pa_cons (pv 3) pa_nil)))
 (pss_one (ps_set (i := 3) sc.nd rfl (Or.inl rfl) (pe_own O_nearest (hr.mono (by decide)) (by rfl) (pa_cons (pe_dget (hu_of hr) (pv 1) (pv 3) (fun _ _ => rfl)) (pa_cons (pv 2) pa_nil)))))))
 (pss_one (ps_ret (pv 4))))))), ?_⟩
  obtain ⟨nodes, pairs, start⟩ := y
  have hs : start ∈ nodes := hok
  obtain ⟨line, d, bfs, hlt, hl, h3⟩ := h3
  refine q_asg (ev_call (succs pairs start, line, d) trivial (ea_cons (ev_dgetT (ks := nk start) (l := sucL nodes pairs) (ev_var rfl h2) (ev_var rfl h1) (look_nk hs)) (ea_cons (ev_var rfl h3) ea_nil))) hGH fun v4 G1 H1 g1 ⟨e, ne, c4⟩ => ?_
  refine q_when (et_test (ev_op (ev_var rfl c4) ev_non rv_isN)) g1.gh (fun hb G2 H2 g2 => ?_) fun hb G2 H2 g2 => ?_
  · rcases ne with ⟨e1, e2⟩ | ⟨x, a1, a2, a3, a4⟩
    · exact s_ret ev_non g2.gh fun v G3 H3 g3 hv => k v G3 H3 ((g1.trans g2).trans g3) ⟨_, .inl ⟨rfl, fun x hx hr => e2 x (mem_succs.mpr hx) (bfs.reach hr)⟩, hv⟩
    · subst a3
      cases hb
  · rcases ne with ⟨e1, e2⟩ | ⟨x, a1, a2, a3, a4⟩
    · subst e1
      cases hb
    · subst a3
      have g12 := g1.trans g2
      refine q_lst1 (ev_var rfl (Dt.mono g12.gg h1)) g2.gh fun pf G3 H3 g3 hpf' ml => ?_
      have g13 := g12.trans g3
      have hpf : H pf = none := g12.hh.non hpf'
      refine q_while (fun n σ' H' => ∃ (G' : Hp) (v4 : V) (x : Node) (l : List Node), Grow G H G' H' ∧ σ' = [some v1, some v2, some v3, some v4, some (.ref pf)] ∧ Dt G' v4 (pD x) ∧ x ∈ line ∧ d x = n ∧ l.length + n ≤ 1500 ∧ ML G' H' pf (l.map pD)) (d x) ?_ ?_
      · have := hlt x a2
        exact ⟨G3, v4, x, [start], g13, rfl, Dt.mono (g2.gg.trans g3.gg) c4, a2, rfl, by rw [List.length_singleton]; omega, ml⟩
      · rintro n σ' H' ⟨G', v4, x, l, g', rfl, c4, hx, hd, hle, ml⟩
        have s1 := Dt.mono g'.gg h1
        refine ⟨!PyData.eqv (pD x) (pD start), G', g'.gh, et_test (ev_op (ev_var rfl c4) (ev_var rfl s1) (rv_neD (shaped_node x) (shaped_node start))), fun hb G4 H4 g4 => ?_, fun hb G4 H4 g4 => ?_⟩
        · rw [eqv_node] at hb
          have hne : x ≠ start := fun e => by rw [decide_eq_true e] at hb; cases hb
          obtain ⟨y, y1, y2, y3⟩ := bfs.down x hx hne
          have g14 := g'.trans g4
          refine ⟨fun σ2 H2 => ∃ (G' : Hp) (v4 : V) (x' : Node) (l : List Node), Grow G H G' H2 ∧ σ2 = [some v1, some v2, some v3, some v4, some (.ref pf)] ∧ Dt G' v4 (pD x') ∧ x' ∈ line ∧ d x' < n ∧ l.length + d x' ≤ 1500 ∧ ML G' H2 pf (l.map pD), ?_, ?_⟩
          · rintro σ2 H2 ⟨G2, v, x', l, b1, b2, b3, b4, b5, b6, b7⟩
            exact ⟨d x', b5, G2, v, x', l, b1, b2, b3, b4, rfl, b6, b7⟩
          · refine q_app (ml.grow g4) g4.gh (ev_varV rfl) (ev_var rfl (Dt.mono g4.gg c4)) (by rw [List.length_map]; omega) fun G5 H5 b5 ml5 => ?_
            have g15 := g14.thenB hpf b5
            have hmap : (l ++ [x]).map pD = l.map pD ++ [pD x] := by rw [List.map_append]; rfl
            rw [← hmap] at ml5
            refine s_asg (ev_call (succs pairs x, line, d) trivial (ea_cons (ev_dgetT (ks := nk x) (l := sucL nodes pairs) (ev_var rfl ((mT (sucL nodes pairs)).mono g15.gg h2)) (ev_var rfl (Dt.mono (g4.gg.trans b5.gg) c4)) (look_nk (bfs.sub x hx))) (ea_cons (ev_var rfl ((mT (wN line d)).mono g15.gg h3)) ea_nil))) g15.gh fun v G6 H6 g6 ⟨e, ne, cv⟩ => ?_
            rcases ne with ⟨e1, e2⟩ | ⟨x', b1, b2, b3, b4⟩
            · exact absurd y1 (e2 y (mem_succs.mpr y2))
            · subst b3
              have b5' : d x' ≤ d y := b4 y (mem_succs.mpr y2) y1
              exact ⟨G6, v, x', l ++ [x], g15.trans g6, rfl, cv, b2, by omega, by rw [List.length_append, List.length_singleton]; omega, ml5.grow g6⟩
        · obtain ⟨G5, g5, r5⟩ := (ml.grow g4).ret (g'.trans g4) hpf
          exact s_ret (m := mD (.list (l.map pD))) (ev_var rfl r5) g5.gh fun v G6 H6 g6 hv => k v G6 H6 (g5.trans g6) ⟨_, .inr ⟨l, rfl, by omega⟩, hv⟩
end
end Sk
/-! Sk__law_alone -/
namespace Sk
open PySem PySem.Spec PyProof.Rows L2
open Evl (pss_cut tCut)
section
variable {P : Program} {w : World} {K : PySem.W.Frag} {mg : Str → Option Value} {base : Heap}
abbrev s__law_alone : Stmt := top 52
abbrev N__law_alone : List Str := ["_law_looker", "_law_looks", "_law_makes", "_law_due", "_law_pairs_here", "_law_key", "_law_source", "_law_makers", "_law_right_here", "_law_others", "_law_pair"]
theorem sc__law_alone : FnScope N__law_alone ["_law_looker", "_law_looks", "_law_makes"] (defScope s__law_alone) := ⟨rfl, rfl, rfl, by decide +kernel, rfl, by decide +kernel, by decide +kernel⟩
abbrev sp__law_alone : Sp := mkSp (α := Hist × Deal) (fun y => [mD (.int y.2.num), mD (looksD y.2.looks), mD (.list (y.1.makes.map makeD))]) (fun y => y.1.Ok ∧ y.1.Small ∧ y.2 ∈ y.1.deals) (fun y => mIlls y.1 1000)
def AI (h : Hist) (G H : Hp) (pf : Addr) (n : Nat) (G' H' : Hp) : Prop := Grow G H G' H' ∧ ∃ es : List Ill, MT G' H' pf (illL es) ∧ (∀ i ∈ es, IsIll h i) ∧ es.length ≤ n
theorem AI.more {h : Hist} {G H : Hp} {pf : Addr} {n n' : Nat} {G' H' : Hp} (o : AI h G H pf n G' H') (hn : n ≤ n') : AI h G H pf n' G' H' := by
  obtain ⟨a, es, c1, c3, c5⟩ := o
  exact ⟨a, es, c1, c3, by omega⟩
theorem AI.grow {h : Hist} {G H : Hp} {pf : Addr} {n : Nat} {G' H' G2 H2 : Hp} (o : AI h G H pf n G' H') (g : Grow G' H' G2 H2) : AI h G H pf n G2 H2 := by
  obtain ⟨a, es, c1, c3, c5⟩ := o
  exact ⟨a.trans g, es, c1.grow g, c3, c5⟩
theorem put_illA {h : Hist} {G H : Hp} {pf : Addr} {n : Nat} {G' H' : Hp} {D : Ends} {σ : L2.St} {tk : TE} {i : Ill} (o : AI h G H pf n G' H') (hpf : H pf = none) (hd : σ[3]? = some (some (.ref pf))) (hk : Ev tk σ G' H' (mD (illD i))) (hi : IsIll h i) (hn : n ≤ 10000)
    (c : ∀ G1 H1, Ex G' G1 → Ex G1 H1 → AI h G H pf (n + 1) G1 H1 → D.nx σ H1) : sDPut (tVar 3) tk (tC (.bl true)) D σ H' := by
  obtain ⟨a, es, c1, c3, c5⟩ := o
  have z : (illL es).length ≤ 100000 := by rw [illL, List.length_map]; omega
  rw [illD_eq] at hk
  refine s_putT c1 a.gh ev_bl (ev_varV hd) hk z fun G1 H1 g1 m1 => ?_
  obtain ⟨es', e1, e2, e3⟩ := put_illL es i
  rw [e1] at m1
  refine c G1 H1 g1.gg g1.gh ⟨a.thenB hpf g1, es', m1, fun j hj => ?_, by omega⟩
  rcases e2 j hj with q | q
  · exact c3 j q
  · rw [q]
    exact hi
theorem two_pairs {ps : List Node} {key : Int} (nd : ps.Nodup) (h : 1 < (ps.filter fun p => decide (p.1 = key)).length) : ∃ s1 s2, (key, s1) ∈ ps ∧ (key, s2) ∈ ps ∧ s1 ≠ s2 := by
  have nf := nd.filter (fun p : Node => decide (p.1 = key))
  have hm : ∀ p ∈ ps.filter (fun p => decide (p.1 = key)), p ∈ ps ∧ p.1 = key := fun p hp => ⟨(List.mem_filter.mp hp).1, of_decide_eq_true (List.mem_filter.mp hp).2⟩
  generalize ps.filter (fun p => decide (p.1 = key)) = fs at h nf hm
  match fs, h, nf, hm with
  | [], h, _, _ => exact absurd h (by simp)
  | [_], h, _, _ => exact absurd h (by simp)
  | a :: b :: r, _, nf, hm =>
    obtain ⟨a1, a2⟩ := hm a List.mem_cons_self
    obtain ⟨b1, b2⟩ := hm b (List.mem_cons_of_mem _ List.mem_cons_self)
    refine ⟨a.2, b.2, by rw [← a2]; exact a1, by rw [← b2]; exact b1, fun e => ?_⟩
    have : a = b := Prod.ext (a2.trans b2.symm) e
    rw [this] at nf
    exact (List.nodup_cons.mp nf).1 List.mem_cons_self
theorem own__law_alone  (A : DefAt K mg "_law_alone" s__law_alone []) (O__law_pairs : Own P w K mg base "_law_pairs" 1 ["_law_looks"] [] sp__law_pairs) (O__law_right : Own P w K mg base "_law_right" 1 ["_law_makers", "_law_looker"] [] sp__law_right) (z_len : mg "len" = none) (z_list : mg "list" = none) : Own P w K mg base "_law_alone" 2 ["_law_looker", "_law_looks", "_law_makes"] [] sp__law_alone := by
  have sc := sc__law_alone
  refine own_mk A sc (fun _ _ _ _ _ _ us hl => match us, hl with | [_, _, _], _ => rfl) (fun _ => rfl) fun f cdv Ar outer s H E y G vs Q hr hok hGH hv k => ?_
  obtain ⟨v1, v2, v3, ev, h1, h2, h3⟩ := AllP.inv3 hv
  subst ev
  refine ⟨_, (pss_cons (ps_set (i := 3) sc.nd rfl (Or.inl rfl) pe_dnewT)
 (pss_cons (ps_set (i := 4) sc.nd rfl (Or.inl rfl) (pe_own O__law_pairs (hr.mono (by decide)) (by rfl) (pa_cons (pv 1) pa_nil)))
 (pss_cons (ps_for PassesOwn.never rfl (pi_list (pv 4)) (pg_tup rfl (pgs_cons (pg_name (i := 5) sc.nd rfl (Or.inr rfl)) (pgs_cons (pg_name (i := 6) sc.nd rfl (Or.inl rfl)) pgs_nil))) (pss_cut (ps_if (pt_cmpR op_eq (pv 6) (pe_un un_neg pe_int) (nomark _)) (pss_one (ps_dput (hu_of hr) (pv 3) (pe_tup (pa_cons pe_str (pa_cons (pv 0) (pa_cons (pv 5) pa_nil)))) pe_bl rfl)) pss_nil)
 (pss_one (ps_if (pt_cmpR op_gt (pe_callB call_len_seq (by rfl) z_len PySem.boot_len (pa_cons (pe_lc (own := [("_law_pair", 10)]) (g := gName 10) rfl sc.nd (pi_list (pv 4)) (blkOk_by (own := [("_law_pair", 10)]) (N := N__law_alone) (sc := defScope s__law_alone) (by decide +kernel)) (fun _ _ _ _ _ => (pg_name (i := 10) sc.nd rfl (Or.inl rfl))) (fun _ _ _ _ _ => (pts_one (pt_cmpR op_eq (pe_ix (show IxR _ (rIxT K) from ix_tup) (pv 10) pe_int (fun _ _ => rfl)) (pv 5) (nomark _)))) (fun _ _ _ _ _ => (pv 10))) pa_nil)) pe_int (nomark _)) (pss_one (ps_dput (hu_of hr) (pv 3) (pe_tup (pa_cons pe_str (pa_cons (pv 0) (pa_cons (pv 5) pa_nil)))) pe_bl rfl)) pss_nil))))
 (pss_cons (ps_for PassesOwn.never rfl (pi_list (pv 2)) (pg_tup rfl (pgs_cons (pg_name (i := 5) sc.nd rfl (Or.inr rfl)) (pgs_cons (pg_name (i := 7) sc.nd rfl (Or.inl rfl)) pgs_nil))) (pss_cons (ps_set (i := 8) sc.nd rfl (Or.inr rfl) (pe_own O__law_right (hr.mono (by decide)) (by rfl) (pa_cons (pv 7) (pa_cons (pv 0) pa_nil))))
 (pss_cons (ps_setLc (i := 9) (own := [("_law_pair", 10)]) (g := gName 10) rfl sc.nd rfl rfl (sw_true rfl rfl rfl (by decide +kernel)) (pi_list (pv 4)) (blkOk_by (own := [("_law_pair", 10)]) (N := N__law_alone) (sc := defScope s__law_alone) (by decide +kernel)) (fun _ _ _ _ _ => (pg_name (i := 10) sc.nd rfl (Or.inl rfl))) (fun _ _ _ _ _ => (pts_one (PW.pt (pw_and (pt_cmpR op_eq (pe_ix (show IxR _ (rIxT K) from ix_tup) (pv 10) pe_int (fun _ _ => rfl)) (pv 5) (nomark _)) (pw_and1 (pt_cmpR op_ne (pe_ix (show IxR _ (rIxT K) from ix_tup) (pv 10) pe_int (fun _ _ => rfl)) (pv 8) (nomark _))))))) (fun _ _ _ _ _ => (pv 10)))
 (pss_one (ps_if (PW.pt (pw_and (pt_cmpR op_ge (pv 8) pe_int (nomark _)) (pw_and1 (pt_cmpR (op_neD hr.units) (pv 9) (pe_lst pa_nil) (nomark _))))) (pss_one (ps_dput (hu_of hr) (pv 3) (pe_tup (pa_cons pe_str (pa_cons (pv 0) (pa_cons (pv 8) (pa_cons (pv 5) pa_nil))))) pe_bl rfl)) pss_nil)))))
 (pss_one (ps_ret (pe_callTy (cr_listT rfl) (by rfl) z_list (by decide +kernel) (pa_cons (pv 3) pa_nil)))))))), ?_⟩
  obtain ⟨h, d⟩ := y
  obtain ⟨ok, sm, hd⟩ := hok
  have ok : h.Ok := ok
  have sm : h.Small := sm
  have hd : d ∈ h.deals := hd
  have hpl : (pairsOf d).length ≤ 200 := sm.pairs d hd
  have smk := sm.makes
  have h1 : Dt G v1 (.int d.num) := h1
  have h2 : Dt G v2 (looksD d.looks) := h2
  have h3 : Dt G v3 (.list (h.makes.map makeD)) := h3
  refine q_newT hGH fun pf hpf hpf0 => ?_
  have g1 : Grow G H G (upd H pf (.dT [])) := (Grow.refl hGH).mut hpf hpf0
  refine q_asg (ev_call d.looks (by show (pairsOf d).length ≤ 10000; omega) (ea_cons (ev_var rfl h2) ea_nil)) g1.gh fun v5 G2 H2 g2 ⟨x5, ⟨ps, ex5, nd, hps, hpsl⟩, c5⟩ => ?_
  subst ex5
  have hps : ∀ p ∈ ps, p ∈ pairsOf d := hps
  have hpsl : ps.length ≤ 200 := Nat.le_trans hpsl hpl
  have g12 := g1.trans g2
  have st0 : AI h G H pf 0 G2 H2 := ⟨g12, [], (MT.new hpf0).grow g2, fun i hi => (nomatch hi), Nat.le_refl _⟩
  refine q_forD (ev_var rfl c5) g12.gh (fun i σ' G' H' => ∃ u6 u7, σ' = [some v1, some v2, some v3, some (.ref pf), some v5, u6, u7, none, none, none, none] ∧ Ex G2 G' ∧ AI h G H pf (2 * i) G' H') ?_ ?_ ?_
  · intro G3 H3 g3
    exact ⟨none, none, rfl, g3.gg, st0.grow g3⟩
  · rintro Gs i dd x σ' G' H' hi hx x1 x2 ⟨u6, u7, rfl, ex, ai⟩
    obtain ⟨⟨key, src⟩, hp, rfl⟩ := map_some hi
    have hil := (List.getElem?_eq_some_iff.mp hp).1
    have hpm := hps _ (List.mem_of_getElem? hp)
    refine g_2 hx x2 fun w6 w7 c6 c7 => ?_
    have c6 : Dt G' w6 (.int key) := c6
    have c7 : Dt G' w7 (.int src) := c7
    refine ⟨fun σ3 H3 => ∃ G3, σ3 = [some v1, some v2, some v3, some (.ref pf), some v5, some w6, some w7, none, none, none, none] ∧ Ex Gs G3 ∧ Ex G' G3 ∧ AI h G H pf (2 * i + 1) G3 H3, ?_, ?_⟩
    · refine s_when (et_test (ev_op (ev_var rfl c7) (ev_neg ev_int) rv_eqI)) x2 (fun hb G3 H3 g3 => ?_) fun hb G3 H3 g3 => ⟨G3, rfl, x1.trans g3.gg, g3.gg, (ai.grow g3).more (by omega)⟩
      have hb : src = -1 := of_decide_eq_true hb
      have ai3 := ai.grow g3
      exact put_illA (i := .unkept d.num key) ai3 hpf rfl (ev_tup (ed_cons ev_str (ed_cons (ev_var rfl (Dt.mono ai3.1.gg h1)) (ed_cons (ev_var rfl (Dt.mono g3.gg c6)) ed_nil)))) (.unkept hd (by rw [← hb]; exact hpm)) (by omega) fun G4 H4 e4 y4 ai4 => ⟨G4, rfl, (x1.trans g3.gg).trans e4, g3.gg.trans e4, ai4⟩
    · rintro σ3 H3 ⟨G3, rfl, y1, y2, ai3⟩
      have c63 := Dt.mono y2 c6
      have c53 := Dt.mono (ex.trans y2) c5
      have gh3 := ai3.1.gh
      refine s_when (et_test (ev_op (ev_len (ev_det (es := (ps.filter fun p => decide (p.1 = key)).map pD) (ev_lcD (K := K) (ds := ps.map pD) (ev_var rfl c53) (fun j es => es = ((ps.take j).filter fun p => decide (p.1 = key)).map pD) rfl (fun j acc e => ?_) ?_) ?_)) ev_int rv_B0)) gh3 (fun hb G4 H4 g4 => ?_) fun hb G4 H4 g4 => ⟨G4, y1.trans g4.gg, g4.gh, some w6, some w7, rfl, (ex.trans y2).trans g4.gg, (ai3.grow g4).more (by omega)⟩
      · rw [e, List.length_map]
        have h1 := List.length_filter_le (fun p : Node => decide (p.1 = key)) (ps.take j)
        have h2 : (ps.take j).length ≤ ps.length := by rw [List.length_take]; omega
        omega
      · intro j dd x G9 H9 Q9 hj g9 hx kk
        obtain ⟨p, hp, rfl⟩ := map_some hj
        refine kk _ rfl ⟨decide (p.1 = key), et_test (ev_op (ev_op (ev_var rfl hx) ev_int (rv_ixT (d := .int p.1) rfl)) (ev_var rfl (Dt.mono g9.gg c63)) rv_eqI), fun hb => ⟨fun d => d = pD p, Ev.imp (ev_var (m := mD (pD p)) rfl hx) fun G v hv => ⟨_, rfl, hv⟩, fun acc d ea ed => ?_⟩, fun hb acc ea => ?_⟩
        · rw [ea, ed, take_snoc hp, List.filter_append, List.map_append]
          congr 1
          rw [List.filter_cons, if_pos hb]
          rfl
        · rw [ea, take_snoc hp, List.filter_append, List.map_append]
          have : [p].filter (fun p : Node => decide (p.1 = key)) = [] := by
            rw [List.filter_cons, if_neg (by rw [hb]; exact Bool.false_ne_true)]
            rfl
          rw [this]
          simp
      · intro ds e
        rw [e, List.length_map, List.take_length]
      · have hb : (1 : Int) < (((ps.filter fun p => decide (p.1 = key)).map pD).length : Int) := of_decide_eq_true hb
        rw [List.length_map] at hb
        obtain ⟨s1, s2, q1, q2, q3⟩ := two_pairs (key := key) nd (by omega)
        have ai4 := ai3.grow g4
        exact put_illA (i := .midway d.num key) ai4 hpf rfl (ev_tup (ed_cons ev_str (ed_cons (ev_var rfl (Dt.mono ai4.1.gg h1)) (ed_cons (ev_var rfl (Dt.mono g4.gg c63)) ed_nil)))) (.midway hd (hps _ q1) (hps _ q2) q3) (by omega) fun G5 H5 e5 y5 ai5 => ⟨G5, (y1.trans g4.gg).trans e5, y5, some w6, some w7, rfl, ((ex.trans y2).trans g4.gg).trans e5, ai5.more (by omega)⟩
  rintro σ' G3 H3 x3 ⟨u6, u7, rfl, ex3, ai3⟩
  rw [List.length_map] at ai3
  have ai3 := ai3.more (n' := 400) (by omega)
  refine q_forD (ev_var rfl (Dt.mono ai3.1.gg h3)) x3 (fun i σ' G' H' => ∃ u6 u8 u9 u10, σ' = [some v1, some v2, some v3, some (.ref pf), some v5, u6, u7, u8, u9, u10, none] ∧ Ex G2 G' ∧ AI h G H pf (400 + i) G' H') ?_ ?_ ?_
  · intro G4 H4 g4
    exact ⟨u6, none, none, none, rfl, ex3.trans g4.gg, (ai3.grow g4).more (Nat.le_refl _)⟩
  · rintro Gs i dd x σ' G' H' hi hx x1 x2 ⟨u6, u8, u9, u10, rfl, ex, ai⟩
    obtain ⟨⟨key, ms⟩, hkm, rfl⟩ := map_some hi
    have hil := (List.getElem?_eq_some_iff.mp hkm).1
    have hmk : makersOf h key = ms := makersOf_of ok (List.mem_of_getElem? hkm)
    refine g_2 hx x2 fun w6 w8 c6 c8 => ?_
    have c6 : Dt G' w6 (.int key) := c6
    have c8 : Dt G' w8 (.list (dI ms)) := c8
    have g' := ai.1
    refine q_asg (ev_call (ms, d.num) trivial (ea_cons (ev_var rfl c8) (ea_cons (ev_var rfl (Dt.mono g'.gg h1)) ea_nil))) x2 fun w9 G4 H4 g4 c9 => ?_
    obtain ⟨r, rfl, hr⟩ := mInt_inv c9
    have hr : (d.num ∈ ms ∧ r = rightOf 0 ms d.num) ∨ r = -2 := hr
    have ai4 := ai.grow g4
    have c64 := Dt.mono g4.gg c6
    refine q_asg (ev_det (es := (ps.filter fun p => decide (p.1 = key) && !decide (p.2 = r)).map pD) (ev_lcD (K := K) (ds := ps.map pD) (ev_var rfl (Dt.mono (ex.trans g4.gg) c5)) (fun j es => es = ((ps.take j).filter fun p => decide (p.1 = key) && !decide (p.2 = r)).map pD) rfl (fun j acc e => ?_) ?_) ?_) g4.gh fun w10 G5 H5 g5 c10 => ?_
    · rw [e, List.length_map]
      have h1 := List.length_filter_le (fun p : Node => decide (p.1 = key) && !decide (p.2 = r)) (ps.take j)
      have h2 : (ps.take j).length ≤ ps.length := by rw [List.length_take]; omega
      omega
    · intro j dd x G9 H9 Q9 hj g9 hx kk
      obtain ⟨p, hp, rfl⟩ := map_some hj
      refine kk _ rfl ⟨decide (p.1 = key) && !decide (p.2 = r), et_and (et_test (ev_op (ev_op (ev_var rfl hx) ev_int (rv_ixT (d := .int p.1) rfl)) (ev_var rfl (Dt.mono g9.gg c64)) rv_eqI)) (fun _ => et_test (ev_op (ev_op (ev_var rfl hx) ev_int (rv_ixT (d := .int p.2) rfl)) (ev_var rfl (Dt.int r)) rv_neI)), fun hb => ⟨fun d => d = pD p, Ev.imp (ev_var (m := mD (pD p)) rfl hx) fun G v hv => ⟨_, rfl, hv⟩, fun acc d ea ed => ?_⟩, fun hb acc ea => ?_⟩
      · rw [ea, ed, take_snoc hp, List.filter_append, List.map_append]
        congr 1
        rw [List.filter_cons, if_pos hb]
        rfl
      · rw [ea, take_snoc hp, List.filter_append, List.map_append]
        have : [p].filter (fun p : Node => decide (p.1 = key) && !decide (p.2 = r)) = [] := by
          rw [List.filter_cons, if_neg (by rw [hb]; exact Bool.false_ne_true)]
          rfl
        rw [this]
        simp
    · intro ds e
      rw [e, List.length_map, List.take_length]
    have ai5 := ai4.grow g5
    refine s_when (et_and (et_test (ev_op (ev_var rfl (Dt.int r)) ev_int rv_B0)) fun _ => et_test (ev_op (ev_var rfl c10) (ev_lst ed_nil) (rv_neD (shaped_nodes _) (shaped_nodes [])))) g5.gh (fun hb G6 H6 g6 => ?_) fun hb G6 H6 g6 => ⟨G6, ((x1.trans g4.gg).trans g5.gg).trans g6.gg, g6.gh, some w6, some w8, _, some w10, rfl, ((ex.trans g4.gg).trans g5.gg).trans g6.gg, (ai5.grow g6).more (by omega)⟩
    rw [Bool.and_eq_true, decide_eq_true_eq] at hb
    obtain ⟨hb1, hb2⟩ := hb
    obtain ⟨hb3, hb4⟩ : d.num ∈ ms ∧ r = rightOf 0 ms d.num := by
      rcases hr with q | q
      · exact q
      · omega
    rw [eqv_nilL] at hb2
    obtain ⟨p, hp⟩ : ∃ p, p ∈ ps.filter fun p => decide (p.1 = key) && !decide (p.2 = r) := by
      cases hf : ps.filter fun p => decide (p.1 = key) && !decide (p.2 = r) with
      | nil =>
        rw [hf] at hb2
        cases hb2
      | cons p l => exact ⟨p, List.mem_cons_self⟩
    obtain ⟨p1, p2⟩ := List.mem_filter.mp hp
    rw [Bool.and_eq_true, decide_eq_true_eq] at p2
    obtain ⟨p2, p3⟩ := p2
    have p3 : p.2 ≠ r := by simpa using p3
    have ai6 := ai5.grow g6
    have hpp : (key, p.2) ∈ pairsOf d := by
      rw [← p2]
      exact hps p p1
    rw [hb4] at p3
    refine put_illA (i := .lost d.num r key) ai6 hpf rfl (ev_tup (ed_cons ev_str (ed_cons (ev_var rfl (Dt.mono ai6.1.gg h1)) (ed_cons (ev_var rfl (Dt.int r)) (ed_cons (ev_var rfl (Dt.mono (g5.gg.trans g6.gg) c64)) ed_nil))))) ?_ (by omega) fun G7 H7 e7 y7 ai7 => ⟨G7, (((x1.trans g4.gg).trans g5.gg).trans g6.gg).trans e7, y7, some w6, some w8, _, some w10, rfl, (((ex.trans g4.gg).trans g5.gg).trans g6.gg).trans e7, ai7.more (by omega)⟩
    rw [hb4, ← hmk]
    rw [← hmk] at hb3 p3
    exact .lost hd hpp hb3 p3
  · rintro σ' G' H' x2 ⟨u6, u8, u9, u10, rfl, ex, g', es, mt, hes, hel⟩
    rw [List.length_map] at hel
    obtain ⟨G4, g4, _, _, r4⟩ := mt.ret g' hpf
    refine s_ret (ev_listT (ev_var rfl r4)) g4.gh fun v G5 H5 g5 hv => k v G5 H5 (g4.trans g5) ⟨_, ⟨es, ?_, hes, by omega⟩, hv⟩
    rw [illL, List.map_map]
    congr 1
    refine List.map_congr_left fun i _ => ?_
    exact (illD_eq i).symm
end
end Sk
/-! Sk_is_ahead -/
namespace Sk
open PySem PySem.Spec PyProof.Rows L2
open Evl (pss_cut tCut)
def aheadB (is : List Int) (s n : Int) : Bool := decide (n ∈ is) && (decide (s = 0) || (decide (s ∈ is) && decide (is.idxOf s < is.idxOf n)))
theorem before_split {s n : Int} : ∀ {is : List Int}, n ∈ is → is.idxOf s < is.idxOf n → ∃ l1 l2, is = l1 ++ n :: l2 ∧ s ∈ l1
  | a :: is, hn, h => by
    by_cases e : a = n
    · subst e
      simp at h
    · have hn' : n ∈ is := by
        rcases List.mem_cons.mp hn with z | z
        · exact absurd z.symm e
        · exact z
      by_cases e2 : a = s
      · obtain ⟨l1, l2, z⟩ := List.append_of_mem hn'
        exact ⟨a :: l1, l2, by rw [z]; rfl, by rw [e2]; exact List.mem_cons_self⟩
      · have b1 : (a == n) = false := by simpa using e
        have b2 : (a == s) = false := by simpa using e2
        rw [List.idxOf_cons, List.idxOf_cons, b1, b2] at h
        obtain ⟨l1, l2, z, q⟩ := before_split hn' (by simpa using h)
        exact ⟨a :: l1, l2, by rw [z]; rfl, List.mem_cons_of_mem _ q⟩
theorem aheadB_ok {is : List Int} {s n : Int} (h : aheadB is s n = true) : Ahead is s n := by
  unfold aheadB at h
  rw [Bool.and_eq_true, Bool.or_eq_true, Bool.and_eq_true, decide_eq_true_eq, decide_eq_true_eq, decide_eq_true_eq, decide_eq_true_eq] at h
  obtain ⟨h1, h2 | ⟨h2, h3⟩⟩ := h
  · exact ⟨h1, .inl h2⟩
  · exact ⟨h1, .inr (before_split h1 h3)⟩
section
variable {P : Program} {w : World} {K : PySem.W.Frag} {mg : Str → Option Value} {base : Heap}
abbrev s_is_ahead : Stmt := top 4
abbrev N_is_ahead : List Str := ["numbers", "source", "number"]
theorem sc_is_ahead : FnScope N_is_ahead ["numbers", "source", "number"] (defScope s_is_ahead) := ⟨rfl, rfl, rfl, by decide +kernel, rfl, by decide +kernel, by decide +kernel⟩
abbrev sp_is_ahead : Sp := mkSp (α := List Int × Int × Int) (fun y => [mD (.list (dI y.1)), mD (.int y.2.1), mD (.int y.2.2)]) (fun _ => True) (fun y => mD (.bool (aheadB y.1 y.2.1 y.2.2)))
theorem own_is_ahead  (A : DefAt K mg "is_ahead" s_is_ahead [])  : Own P w K mg base "is_ahead" 1 ["numbers", "source", "number"] [] sp_is_ahead := by
  have sc := sc_is_ahead
  refine own_mk A sc (fun _ _ _ _ _ _ us hl => match us, hl with | [_, _, _], _ => rfl) (fun _ => rfl) fun f cdv Ar outer s H E y G vs Q hr hok hGH hv k => ?_
  match vs, hv with
  | [v1, v2, v3], ⟨h1, h2, h3, _⟩ =>
  refine ⟨_, (pss_cons (ps_if (pt_cmpR op_notIn_seq (pv 2) (pv 0) rfl) (pss_one (ps_ret pe_bl)) pss_nil)
 (pss_cons (ps_if (pt_cmpR op_eq (pv 1) pe_int (nomark _)) (pss_one (ps_ret pe_bl)) pss_nil)
 (pss_one (ps_ret (pe_and (pe_cmpR op_in_seq (pv 1) (pv 0) rfl) (pe_one (pe_cmpR op_lt (pe_bm PySem.F.plainAttrs_list PySem.F.slot_list_index PySem.F.type_list_index mt_index (pv 0) (pa_cons (pv 1) pa_nil)) (pe_bm PySem.F.plainAttrs_list PySem.F.slot_list_index PySem.F.type_list_index mt_index (pv 0) (pa_cons (pv 2) pa_nil)) (nomark _)))))))), ?_⟩
  obtain ⟨is, s, n⟩ := y
  refine q_when (et_test (ev_op (ev_var rfl h3) (ev_var rfl h1) rv_niI)) hGH (fun hb G1 H1 g1 => ?_) fun hb G1 H1 g1 => ?_
  · refine s_ret ev_bl g1.gh fun v G2 H2 g2 hv => k v G2 H2 (g1.trans g2) ?_
    have z : aheadB is s n = false := by
      unfold aheadB
      have : decide (n ∈ is) = false := by simpa using hb
      rw [this]
      rfl
    rw [z]
    exact hv
  · have hn : decide (n ∈ is) = true := by simpa using hb
    refine q_when (et_test (ev_op (ev_var rfl (Dt.mono g1.gg h2)) ev_int rv_eqI)) g1.gh (fun hb2 G2 H2 g2 => ?_) fun hb2 G2 H2 g2 => ?_
    · refine s_ret ev_bl g2.gh fun v G3 H3 g3 hv => k v G3 H3 ((g1.trans g2).trans g3) ?_
      have z : aheadB is s n = true := by
        unfold aheadB
        rw [hn, hb2]
        rfl
      rw [z]
      exact hv
    · have i1 := Dt.mono (g1.gg.trans g2.gg) h1
      have i2 := Dt.mono (g1.gg.trans g2.gg) h2
      have i3 := Dt.mono (g1.gg.trans g2.gg) h3
      refine s_ret (m := mD (.bool (aheadB is s n))) (Ev.is (ev_andV (ev_op (ev_var rfl i2) (ev_var rfl i1) rv_inI) fun hs => ev_op (ev_index (ev_var rfl i1) (ev_var rfl i2) (of_decide_eq_true hs)) (ev_index (ev_var rfl i1) (ev_var rfl i3) (of_decide_eq_true hn)) rv_B0) ?_) g2.gh fun v G3 H3 g3 hv => k v G3 H3 ((g1.trans g2).trans g3) hv
      unfold aheadB
      rw [hn, hb2]
      simp
end
end Sk
/-! Sk__law_behind -/
namespace Sk
open PySem PySem.Spec PyProof.Rows L2
open Evl (pss_cut tCut)
section
variable {P : Program} {w : World} {K : PySem.W.Frag} {mg : Str → Option Value} {base : Heap}
abbrev s__law_behind : Stmt := top 53
abbrev N__law_behind : List Str := ["_law_looks", "_law_makes", "_law_maker", "_law_found", "_law_key", "_law_source", "_law_other", "_law_makers", "_law_ahead_here"]
theorem sc__law_behind : FnScope N__law_behind ["_law_looks", "_law_makes", "_law_maker"] (defScope s__law_behind) := ⟨rfl, rfl, rfl, by decide +kernel, rfl, by decide +kernel, by decide +kernel⟩
abbrev sp__law_behind : Sp := mkSp (α := Hist × Deal × Int) (fun y => [mD (looksD y.2.1.looks), mD (.list (y.1.makes.map makeD)), mD (.int y.2.2)]) (fun y => y.1.Ok ∧ y.1.Small ∧ y.2.1 ∈ y.1.deals) (fun y => mInts fun ks => ks.length ≤ 200 ∧ ∀ k ∈ ks, ∃ s, (k, s) ∈ pairsOf y.2.1 ∧ Ahead (makersOf y.1 k) s y.2.2)
theorem idx_split {x : Int} {is : List Int} (h : x ∈ is) : is = is.take (is.idxOf x) ++ x :: is.drop (is.idxOf x + 1) := by
  obtain ⟨hi, e⟩ := List.getElem?_eq_some_iff.mp (idx_at h)
  have h2 : is.drop (is.idxOf x) = x :: is.drop (is.idxOf x + 1) := by rw [List.drop_eq_getElem_cons hi, e]
  rw [← h2, List.take_append_drop]
theorem own__law_behind  (A : DefAt K mg "_law_behind" s__law_behind []) (O__law_pairs : Own P w K mg base "_law_pairs" 1 ["_law_looks"] [] sp__law_pairs) : Own P w K mg base "_law_behind" 2 ["_law_looks", "_law_makes", "_law_maker"] [] sp__law_behind := by
  have sc := sc__law_behind
  refine own_mk A sc (fun _ _ _ _ _ _ us hl => match us, hl with | [_, _, _], _ => rfl) (fun _ => rfl) fun f cdv Ar outer s H E y G vs Q hr hok hGH hv k => ?_
  obtain ⟨v1, v2, v3, ev, h1, h2, h3⟩ := AllP.inv3 hv
  subst ev
  refine ⟨_, (pss_cons (ps_set (i := 3) sc.nd rfl (Or.inl rfl) (pe_lst pa_nil))
 (pss_cons (ps_for PassesOwn.never rfl (pi_list (pe_own O__law_pairs (hr.mono (by decide)) (by rfl) (pa_cons (pv 0) pa_nil))) (pg_tup rfl (pgs_cons (pg_name (i := 4) sc.nd rfl (Or.inl rfl)) (pgs_cons (pg_name (i := 5) sc.nd rfl (Or.inl rfl)) pgs_nil))) (pss_one (ps_for PassesOwn.never rfl (pi_list (pv 1)) (pg_tup rfl (pgs_cons (pg_name (i := 6) sc.nd rfl (Or.inl rfl)) (pgs_cons (pg_name (i := 7) sc.nd rfl (Or.inl rfl)) pgs_nil))) (pss_one (ps_if (PW.pt (pw_and (pt_cmpR op_eq (pv 6) (pv 4) (nomark _)) (pw_and1 (pt_cmpR op_in_seq (pv 2) (pv 7) rfl)))) (pss_cons (ps_set (i := 8) sc.nd rfl (Or.inl rfl) (pe_op op_cat (pe_lst (pa_cons pe_int pa_nil)) (pe_slice sl_list (pv 7) po_none (po_some (pe_bm PySem.F.plainAttrs_list PySem.F.slot_list_index PySem.F.type_list_index mt_index (pv 7) (pa_cons (pv 2) pa_nil))))))
 (pss_one (ps_if (pt_cmpR op_in_seq (pv 5) (pv 8) rfl) (pss_one (ps_expr (pe_bm PySem.F.plainAttrs_list PySem.F.slot_list_append PySem.F.type_list_append mt_append (pv 3) (pa_cons (pv 4) pa_nil)))) pss_nil))) pss_nil)))))
 (pss_one (ps_ret (pv 3))))), ?_⟩
  obtain ⟨h, d, m⟩ := y
  obtain ⟨ok, sm, hd⟩ := hok
  have ok : h.Ok := ok
  have sm : h.Small := sm
  have hd : d ∈ h.deals := hd
  have hpl : (pairsOf d).length ≤ 200 := sm.pairs d hd
  have h1 : Dt G v1 (looksD d.looks) := h1
  have h2 : Dt G v2 (.list (h.makes.map makeD)) := h2
  have h3 : Dt G v3 (.int m) := h3
  refine q_newL hGH fun pf hpf hpf0 => ?_
  have g1 : Grow G H G (upd H pf (.lst [])) := (Grow.refl hGH).mut hpf hpf0
  refine q_forM (P := fun ds => ∃ ps : List Node, ds = ps.map pD ∧ (∀ p ∈ ps, p ∈ pairsOf d) ∧ ps.length ≤ 200) (Ev.imp (ev_call d.looks (by show (pairsOf d).length ≤ 10000; omega) (ea_cons (ev_var rfl h1) ea_nil)) fun G v ⟨x, ⟨ps, ex, _, e2, e3⟩, hx⟩ => ⟨x, ⟨_, ex, ps, rfl, e2, Nat.le_trans e3 hpl⟩, hx⟩) g1.gh
    (fun ds i σ' G' H' => ∃ (u5 u6 u7 u8 u9 : Option V) (ks : List Int), σ' = [some v1, some v2, some v3, some (.ref pf), u5, u6, u7, u8, u9] ∧ Grow G H G' H' ∧ ML G' H' pf (dI ks) ∧ ks.length ≤ i ∧ ∀ k ∈ ks, ∃ s, (k, s) ∈ pairsOf d ∧ Ahead (makersOf h k) s m) ?_ ?_ ?_
  · intro ds G2 H2 _ g2
    exact ⟨none, none, none, none, none, [], rfl, g1.trans g2, (ML.new hpf0).grow g2, Nat.le_refl _, fun k hk => (nomatch hk)⟩
  · rintro Gs ds i dd x σ' G' H' ⟨ps, rfl, hps, hpsl⟩ hi hx x1 x2 ⟨u5, u6, u7, u8, u9, ks, rfl, g', ml, hkl, hks⟩
    obtain ⟨⟨key, src⟩, hp, rfl⟩ := map_some hi
    have hil := (List.getElem?_eq_some_iff.mp hp).1
    have hpm := hps _ (List.mem_of_getElem? hp)
    refine g_2 hx x2 fun w5 w6 c5 c6 => ?_
    have c5 : Dt G' w5 (.int key) := c5
    have c6 : Dt G' w6 (.int src) := c6
    refine s_forD (ev_var rfl (Dt.mono g'.gg h2)) x2 (fun j σ'' G'' H'' => ∃ (u7 u8 u9 : Option V) (ks : List Int), σ'' = [some v1, some v2, some v3, some (.ref pf), some w5, some w6, u7, u8, u9] ∧ Grow G H G'' H'' ∧ Ex G' G'' ∧ ML G'' H'' pf (dI ks) ∧ ks.length ≤ i + (if key ∈ (h.makes.take j).map (·.1) then 1 else 0) ∧ ∀ k ∈ ks, ∃ s, (k, s) ∈ pairsOf d ∧ Ahead (makersOf h k) s m) ?_ ?_ ?_
    · intro G2 H2 g2
      exact ⟨u7, u8, u9, ks, rfl, g'.trans g2, g2.gg, ml.grow g2, by omega, hks⟩
    · rintro Gt j dd y σ'' G'' H'' hj hy y1 y2 ⟨u7, u8, u9, ks, rfl, g'', ex, ml, hkl, hks⟩
      obtain ⟨⟨oth, ms⟩, hkm, rfl⟩ := map_some hj
      have hkmm := List.mem_of_getElem? hkm
      have hms := sm.makers _ hkmm
      have hms : ms.length ≤ 4 := hms
      have hmk : makersOf h oth = ms := makersOf_of ok hkmm
      have lim : ∀ n : Nat, n ≤ i + (if key ∈ (h.makes.take j).map (·.1) then 1 else 0) → n ≤ i + (if key ∈ (h.makes.take (j + 1)).map (·.1) then 1 else 0) := fun n hn => by
        rw [take_snoc hkm, List.map_append]
        by_cases q : key ∈ (h.makes.take j).map (·.1)
        · rw [if_pos (List.mem_append.mpr (.inl q))]
          rw [if_pos q] at hn
          exact hn
        · rw [if_neg q] at hn
          omega
      refine g_2 hy y2 fun w7 w8 c7 c8 => ?_
      have c7 : Dt G'' w7 (.int oth) := c7
      have c8 : Dt G'' w8 (.list (dI ms)) := c8
      have g3'' := Dt.mono g''.gg h3
      refine s_when (et_and (et_test (ev_op (ev_var rfl c7) (ev_var rfl (Dt.mono ex c5)) rv_eqI)) fun _ => et_test (ev_op (ev_var rfl g3'') (ev_var rfl c8) rv_inI)) y2 (fun hb G3 H3 g3 => ?_) fun hb G3 H3 g3 => ⟨G3, y1.trans g3.gg, g3.gh, some w7, some w8, u9, ks, rfl, g''.trans g3, ex.trans g3.gg, ml.grow g3, lim _ hkl, hks⟩
      rw [Bool.and_eq_true, decide_eq_true_eq, decide_eq_true_eq] at hb
      obtain ⟨hb1, hb2⟩ := hb
      subst hb1
      have c83 := Dt.mono g3.gg c8
      have m3 := Dt.mono g3.gg g3''
      refine q_asg (m := mD (.list (dI (0 :: ms.take (ms.idxOf m))))) (Ev.is (ev_op (ev_lst (ds := dI [0]) (ed_cons ev_int ed_nil)) (ev_sl (ev_var rfl c83) eo_none (eo_some (ev_index (ev_var rfl c83) (ev_var rfl m3) hb2))) (rv_cat (by rw [cut_to, List.length_take, List.length_map, List.length_map]; show 1 + _ ≤ _; omega))) (by rw [cut_to, ← List.map_take]; rfl)) g3.gh fun w9 G4 H4 g4 c9 => ?_
      have g34 := g3.trans g4
      refine s_when (et_test (ev_op (ev_var rfl (Dt.mono (ex.trans g34.gg) c6)) (ev_var rfl c9) rv_inI)) g4.gh (fun hb3 G5 H5 g5 => ?_) fun hb3 G5 H5 g5 => ⟨G5, (y1.trans g34.gg).trans g5.gg, g5.gh, some w7, some w8, some w9, ks, rfl, (g''.trans g34).trans g5, (ex.trans g34.gg).trans g5.gg, (ml.grow g34).grow g5, lim _ hkl, hks⟩
      have hin : src ∈ 0 :: ms.take (ms.idxOf m) := of_decide_eq_true hb3
      have hnk : oth ∉ (h.makes.take j).map (·.1) := by
        have hk2 : (h.makes.map (·.1))[j]? = some oth := by rw [List.getElem?_map, hkm]; rfl
        have := not_take ok.knd hk2
        rw [← List.map_take] at this
        exact this
      rw [if_neg hnk] at hkl
      refine s_app (d := .int oth) ((ml.grow g34).grow g5) g5.gh (ev_varV rfl) (ev_var rfl (Dt.mono ((ex.trans g34.gg).trans g5.gg) c5)) (by rw [List.length_map]; omega) fun G6 H6 b6 ml6 => ?_
      refine ⟨G6, ((y1.trans g34.gg).trans g5.gg).trans b6.gg, b6.gh, some w7, some w8, some w9, ks ++ [oth], rfl, ((g''.trans g34).trans g5).thenB hpf b6, ((ex.trans g34.gg).trans g5.gg).trans b6.gg, by rw [dI, List.map_append]; exact ml6, ?_, fun k hk => ?_⟩
      · rw [List.length_append, if_pos]
        · show ks.length + 1 ≤ _
          omega
        · rw [take_snoc hkm, List.map_append]
          exact List.mem_append.mpr (.inr List.mem_cons_self)
      · rcases List.mem_append.mp hk with hk | hk
        · exact hks k hk
        · rw [List.mem_singleton.mp hk]
          refine ⟨src, hpm, ?_⟩
          rw [hmk]
          refine ⟨hb2, ?_⟩
          rcases List.mem_cons.mp hin with e | hin
          · exact .inl e
          · exact .inr ⟨_, _, idx_split hb2, hin⟩
    · rintro σ'' G'' H'' y2 ⟨u7, u8, u9, ks, rfl, g'', ex, ml, hkl, hks⟩
      refine ⟨G'', x1.trans ex, y2, some w5, some w6, u7, u8, u9, ks, rfl, g'', ml, ?_, hks⟩
      have : (if key ∈ (h.makes.take (h.makes.map makeD).length).map (·.1) then 1 else 0) ≤ 1 := by split <;> omega
      omega
  · rintro ds σ' G' H' ⟨ps, rfl, hps, hpsl⟩ x2 ⟨u5, u6, u7, u8, u9, ks, rfl, g', ml, hkl, hks⟩
    rw [List.length_map] at hkl
    obtain ⟨G2, g2, r2⟩ := ml.ret g' hpf
    exact s_ret (m := mD (.list (dI ks))) (ev_var rfl r2) g2.gh fun v G3 H3 g3 hv => k v G3 H3 (g2.trans g3) ⟨_, ⟨ks, rfl, by omega, hks⟩, hv⟩
end
end Sk
/-! Sk__law_cell -/
namespace Sk
open PySem PySem.Spec PyProof.Rows L2
open Evl (pss_cut tCut)
section
variable {P : Program} {w : World} {K : PySem.W.Frag} {mg : Str → Option Value} {base : Heap}
abbrev s__law_cell : Stmt := top 43
abbrev N__law_cell : List Str := ["_law_script", "_law_k"]
theorem sc__law_cell : FnScope N__law_cell ["_law_script", "_law_k"] (defScope s__law_cell) := ⟨rfl, rfl, rfl, by decide +kernel, rfl, by decide +kernel, by decide +kernel⟩
abbrev sp__law_cell (K : PySem.W.Frag) : Sp := mkSp (α := List Int × Nat) (fun y => [mScript K y.1, mD (.int (y.2 : Int))]) (fun y => y.1.length ≤ 63 ∧ y.2 ≤ 1000) (fun _ => mInt fun _ => True)
theorem own__law_cell  (A : DefAt K mg "_law_cell" s__law_cell []) (z_len : mg "len" = none) : Own P w K mg base "_law_cell" 1 ["_law_script", "_law_k"] [] (sp__law_cell K) := by
  have sc := sc__law_cell
  refine own_mk A sc (fun _ _ _ _ _ _ us hl => match us, hl with | [_, _], _ => rfl) (fun _ => rfl) fun f cdv Ar outer s H E y G vs Q hr hok hGH hv k => ?_
  obtain ⟨v1, v2, ev, h1, h2⟩ := AllP.inv2 hv
  subst ev
  refine ⟨_, (pss_cons (ps_if (pt_cmpR op_lt (pv 1) (pe_callB call_len_seq (by rfl) z_len PySem.boot_len (pa_cons (pv 0) pa_nil)) (nomark _)) (pss_one (ps_ret (pe_ix ix_list (pv 0) (pv 1) (fun _ _ => rfl)))) pss_nil)
 (pss_one (ps_ret (pe_op op_mod (pe_op op_mul (pe_op op_add (pv 1) pe_int) pe_int) pe_int)))), ?_⟩
  obtain ⟨ns, n⟩ := y
  have h1 : (mScript K ns).p G v1 := h1
  refine q_when (et_test (ev_op (ev_var rfl h2) (ev_lenS (ev_var rfl h1)) rv_B0)) hGH (fun hb G1 H1 g1 => ?_) fun hb G1 H1 g1 => ?_
  · have hb : (n : Int) < (ns.length : Int) := of_decide_eq_true hb
    have hlt : n < ns.length := by omega
    exact s_ret (ev_ixS (ev_var rfl ((mScript K ns).mono g1.gg h1)) (List.getElem?_eq_getElem hlt) (ev_var rfl (Dt.mono g1.gg h2))) g1.gh fun v G2 H2 g2 hv => k v G2 H2 (g1.trans g2) ⟨_, ⟨_, rfl, trivial⟩, hv⟩
  · exact s_ret (ev_op (ev_op (ev_op (ev_var rfl (Dt.mono g1.gg h2)) ev_int rv_I0) ev_int (rv_I (.inr ⟨by decide +kernel, by decide +kernel⟩))) ev_int (rv_I (show (0 : Int) < 65537 by decide +kernel))) g1.gh fun v G2 H2 g2 hv => k v G2 H2 (g1.trans g2) ⟨_, ⟨_, rfl, trivial⟩, hv⟩
end
end Sk
/-! Sk__law_numbers -/
namespace Sk
open PySem PySem.Spec PyProof.Rows L2
open Evl (pss_cut tCut)
section
variable {P : Program} {w : World} {K : PySem.W.Frag} {mg : Str → Option Value} {base : Heap}
abbrev s__law_numbers : Stmt := top 45
abbrev N__law_numbers : List Str := ["_law_script", "_law_cell_here", "_law_k"]
theorem sc__law_numbers : FnScope N__law_numbers ["_law_script"] (defScope s__law_numbers) := ⟨rfl, rfl, rfl, by decide +kernel, rfl, by decide +kernel, by decide +kernel⟩
def NumsOk (is : List Int) : Prop := is.Nodup ∧ (∀ i ∈ is, 0 < i) ∧ 2 ≤ is.length ∧ is.length ≤ 4
abbrev sp__law_numbers (K : PySem.W.Frag) : Sp := mkSp (α := List Int) (fun y => [mScript K y]) (fun y => y.length ≤ 63) (fun _ => mInts NumsOk)
theorem nums_ok {a b : Int} (ha : 0 ≤ a) (hb : 0 ≤ b) {n : Nat} (h1 : 2 ≤ n) (h2 : n ≤ 4) : NumsOk ((List.range n).map fun (k : Nat) => 1 + a + (k : Int) * (1 + b)) := by
  refine ⟨map_range_nodup _ (fun i j h => ?_) n, fun i hi => ?_, by rw [List.length_map, List.length_range]; exact h1, by rw [List.length_map, List.length_range]; exact h2⟩
  · have h : 1 + a + (i : Int) * (1 + b) = 1 + a + (j : Int) * (1 + b) := h
    have h3 : (i : Int) * (1 + b) = (j : Int) * (1 + b) := by omega
    have h4 := Int.eq_of_mul_eq_mul_right (by omega : (1 + b) ≠ 0) h3
    omega
  · obtain ⟨k, _, rfl⟩ := List.mem_map.mp hi
    have : 0 ≤ (k : Int) * (1 + b) := Int.mul_nonneg (by omega) (by omega)
    show 0 < 1 + a + (k : Int) * (1 + b)
    omega
theorem own__law_numbers  (A : DefAt K mg "_law_numbers" s__law_numbers []) (O__law_cell : Own P w K mg base "_law_cell" 1 ["_law_script", "_law_k"] [] (sp__law_cell K)) (z_range : mg "range" = none) : Own P w K mg base "_law_numbers" 2 ["_law_script"] [] (sp__law_numbers K) := by
  have sc := sc__law_numbers
  refine own_mk A sc (fun _ _ _ _ _ _ us hl => match us, hl with | [_], _ => rfl) (fun _ => rfl) fun f cdv Ar outer s H E y G vs Q hr hok hGH hv k => ?_
  obtain ⟨v1, ev, h1⟩ := AllP.inv1 hv
  subst ev
  refine ⟨_, (pss_cons (ps_set (i := 1) sc.nd rfl (Or.inr rfl) (pe_own O__law_cell (hr.mono (by decide)) (by rfl) (pa_cons (pv 0) (pa_cons pe_int pa_nil))))
 (pss_one (ps_ret (pe_lc (own := [("_law_k", 2)]) (g := gName 2) rfl sc.nd (pi_range1 (by rfl) z_range (pa_cons (pe_op op_add pe_int (pe_op op_mod (pv 1) pe_int)) pa_nil)) (blkOk_by (own := [("_law_k", 2)]) (N := N__law_numbers) (sc := defScope s__law_numbers) (by decide +kernel)) (fun _ _ _ _ _ => (pg_name (i := 2) sc.nd rfl (Or.inl rfl))) (fun _ _ _ _ _ => pts_nil) (fun _ _ _ _ _ => (pe_op op_add (pe_op op_add pe_int (pe_op op_mod (pe_op op_fdiv (pv 1) pe_int) pe_int)) (pe_op op_mul (pv 2) (pe_op op_add pe_int (pe_op op_mod (pe_op op_fdiv (pv 1) pe_int) pe_int))))))))), ?_⟩
  refine q_asg (ev_call (y, 0) ⟨hok, by show (0 : Nat) ≤ 1000; omega⟩ (ea_cons (ev_var rfl h1) (ea_cons ev_int ea_nil))) hGH fun v2 G1 H1 g1 h2 => ?_
  obtain ⟨c, rfl, _⟩ := mInt_inv h2
  have hc1 : 0 ≤ c % 3 := Int.emod_nonneg _ (by decide)
  have hc2 : c % 3 < 3 := Int.emod_lt_of_pos _ (by decide)
  have ha : 0 ≤ c / 3 % 2 := Int.emod_nonneg _ (by decide)
  have hb : 0 ≤ c / 6 % 2 := Int.emod_nonneg _ (by decide)
  refine s_ret (ev_lcR (K := K) (n := 2 + c % 3) (ed_cons (ev_op ev_int (ev_op (ev_var rfl (Dt.int c)) ev_int (rv_mod (by decide))) rv_add) ed_nil) (by omega) (fun i es => es = ((List.range i).map fun (k : Nat) => 1 + c / 3 % 2 + (k : Int) * (1 + c / 6 % 2)).map .int ∧ (i : Int) ≤ 2 + c % 3) ⟨rfl, by omega⟩ (fun i acc e => by rw [e.1, List.length_map, List.length_map, List.length_range]; omega) ?_) g1.gh fun v G2 H2 g2 ⟨x, ⟨es, ex, ees, _⟩, hv⟩ => k v G2 H2 (g1.trans g2) ⟨x, ⟨_, ex.trans (congrArg PyData.list ees), nums_ok ha hb (by omega) (by omega)⟩, hv⟩
  intro i G' H' Q' hi g' kk
  refine kk _ rfl ⟨true, et_yes, fun _ => ⟨fun d => d = .int (1 + c / 3 % 2 + (i : Int) * (1 + c / 6 % 2)), Ev.imp (ev_op (ev_op ev_int (ev_op (ev_op (ev_var rfl (Dt.int c)) ev_int (rv_fdiv (cd c (by decide) (by decide)))) ev_int (rv_mod (by decide))) rv_add) (ev_op (ev_var rfl (Dt.int _)) (ev_op ev_int (ev_op (ev_op (ev_var rfl (Dt.int c)) ev_int (rv_fdiv (cd c (by decide) (by decide)))) ev_int (rv_mod (by decide))) rv_add) (rv_mul (.inl ⟨by omega, by omega⟩))) rv_add) fun G v hv => ⟨_, rfl, hv⟩, fun acc d ea ed => ?_⟩, fun hb => by cases hb⟩
  refine ⟨?_, by omega⟩
  rw [ea.1, ed, List.range_succ, List.map_append, List.map_append]
  rfl
end
end Sk
/-! Sk__law_mixed -/
namespace Sk
open PySem PySem.Spec PyProof.Rows L2
open Evl (pss_cut tCut)
section
variable {P : Program} {w : World} {K : PySem.W.Frag} {mg : Str → Option Value} {base : Heap}
abbrev s__law_mixed : Stmt := top 44
abbrev N__law_mixed : List Str := ["_law_cell_here", "_law_k"]
theorem sc__law_mixed : FnScope N__law_mixed ["_law_cell_here", "_law_k"] (defScope s__law_mixed) := ⟨rfl, rfl, rfl, by decide +kernel, rfl, by decide +kernel, by decide +kernel⟩
abbrev sp__law_mixed : Sp := mkSp (α := Int × Nat) (fun y => [mD (.int y.1), mD (.int (y.2 : Int))]) (fun y => y.2 ≤ 1000) (fun _ => mInt fun x => 0 ≤ x)
theorem own__law_mixed  (A : DefAt K mg "_law_mixed" s__law_mixed [])  : Own P w K mg base "_law_mixed" 1 ["_law_cell_here", "_law_k"] [] sp__law_mixed := by
  have sc := sc__law_mixed
  refine own_mk A sc (fun _ _ _ _ _ _ us hl => match us, hl with | [_, _], _ => rfl) (fun _ => rfl) fun f cdv Ar outer s H E y G vs Q hr hok hGH hv k => ?_
  obtain ⟨v1, v2, ev, h1, h2⟩ := AllP.inv2 hv
  subst ev
  refine ⟨_, (pss_one (ps_ret (pe_op op_mod (pe_op op_add (pe_op op_add (pe_op op_mul (pe_op op_mod (pv 0) pe_int) pe_int) (pe_op op_mul pe_int (pv 1))) pe_int) pe_int))), ?_⟩
  exact s_ret (ev_op (ev_op (ev_op (ev_op (ev_op (ev_var rfl h1) ev_int (rv_I (show (0 : Int) < 2147483647 by decide +kernel))) ev_int (rv_I (.inr ⟨by decide +kernel, by decide +kernel⟩))) (ev_op ev_int (ev_var rfl h2) (rv_I (.inl ⟨by decide +kernel, by decide +kernel⟩))) rv_I0) ev_int rv_I0) ev_int (rv_I (show (0 : Int) < 2147483629 by decide +kernel))) hGH fun v G2 H2 g2 hv => k v G2 H2 g2 ⟨_, ⟨_, rfl, Int.emod_nonneg _ (by decide +kernel)⟩, hv⟩
end
end Sk
/-! Sk__law_keys -/
namespace Sk
open PySem PySem.Spec PyProof.Rows L2
open Evl (pss_cut tCut)
section
variable {P : Program} {w : World} {K : PySem.W.Frag} {mg : Str → Option Value} {base : Heap}
abbrev s__law_keys : Stmt := top 46
abbrev N__law_keys : List Str := ["_law_script", "_law_numbers_here", "_law_shift", "_law_at", "_law_order", "_law_rows", "_law_j", "_law_number", "_law_makers", "_law_k"]
theorem sc__law_keys : FnScope N__law_keys ["_law_script", "_law_numbers_here"] (defScope s__law_keys) := ⟨rfl, rfl, rfl, by decide +kernel, rfl, by decide +kernel, by decide +kernel⟩
structure KeysOk (nums order : List Int) (rows : List (Int × List Int)) : Prop where
  perm : order.Perm nums
  len : rows.length = 4
  keys : (rows.map (·.1)).Nodup
  subs : ∀ r ∈ rows, r.2.Sublist order
abbrev sp__law_keys (K : PySem.W.Frag) : Sp := mkSp (α := List Int × List Int) (fun y => [mScript K y.1, mD (.list (dI y.2))]) (fun y => y.1.length ≤ 63 ∧ NumsOk y.2) (fun y => mDs fun x => ∃ order rows, x = .tuple [.list (dI order), .list (rows.map makeD)] ∧ KeysOk y.2 order rows)
theorem own__law_keys  (A : DefAt K mg "_law_keys" s__law_keys []) (O__law_cell : Own P w K mg base "_law_cell" 1 ["_law_script", "_law_k"] [] (sp__law_cell K)) (O__law_mixed : Own P w K mg base "_law_mixed" 1 ["_law_cell_here", "_law_k"] [] sp__law_mixed) (z_range : mg "range" = none) (z_len : mg "len" = none) (z_list : mg "list" = none) (z_reversed : mg "reversed" = none) : Own P w K mg base "_law_keys" 2 ["_law_script", "_law_numbers_here"] [] (sp__law_keys K) := by
  have sc := sc__law_keys
  refine own_mk A sc (fun _ _ _ _ _ _ us hl => match us, hl with | [_, _], _ => rfl) (fun _ => rfl) fun f cdv Ar outer s H E y G vs Q hr hok hGH hv k => ?_
  obtain ⟨v1, v2, ev, h1, h2⟩ := AllP.inv2 hv
  subst ev
  refine ⟨_, (pss_cons (ps_set (i := 2) sc.nd rfl (Or.inl rfl) (pe_op op_sub (pe_op op_mod (pe_own O__law_cell (hr.mono (by decide)) (by rfl) (pa_cons (pv 0) (pa_cons pe_int pa_nil))) (pe_op op_add (pe_op op_mul pe_int (pe_op op_pow pe_int pe_int)) pe_int)) (pe_op op_pow pe_int pe_int)))
 (pss_cons (ps_set (i := 3) sc.nd rfl (Or.inl rfl) (pe_op op_mod (pe_op op_fdiv (pe_own O__law_cell (hr.mono (by decide)) (by rfl) (pa_cons (pv 0) (pa_cons pe_int pa_nil))) pe_int) (pe_callB call_len_seq (by rfl) z_len PySem.boot_len (pa_cons (pv 1) pa_nil))))
 (pss_cons (ps_set (i := 4) sc.nd rfl (Or.inr rfl) (pe_op op_cat (pe_slice sl_list (pv 1) (po_some (pv 3)) po_none) (pe_slice sl_list (pv 1) po_none (po_some (pv 3)))))
 (pss_cut (ps_if (pt_cmpR op_eq (pe_op op_mod (pe_op op_fdiv (pe_own O__law_cell (hr.mono (by decide)) (by rfl) (pa_cons (pv 0) (pa_cons pe_int pa_nil))) pe_int) pe_int) pe_int (nomark _)) (pss_one (ps_set (i := 4) sc.nd rfl (Or.inr rfl) (pe_listRev rfl (by rfl) z_list (by rfl) z_reversed (pv 4)))) pss_nil)
 (pss_cons (ps_set (i := 5) sc.nd rfl (Or.inl rfl) (pe_lst pa_nil))
 (pss_cons (ps_for PassesOwn.never rfl (pi_range1 (by rfl) z_range (pa_cons pe_int pa_nil)) (pg_name (i := 6) sc.nd rfl (Or.inl rfl)) (pss_cons (ps_set (i := 7) sc.nd rfl (Or.inr rfl) (pe_own O__law_mixed (hr.mono (by decide)) (by rfl) (pa_cons (pe_own O__law_cell (hr.mono (by decide)) (by rfl) (pa_cons (pv 0) (pa_cons pe_int pa_nil))) (pa_cons (pv 6) pa_nil))))
 (pss_cons (ps_setLc (i := 8) (own := [("_law_k", 9)]) (g := gName 9) rfl sc.nd rfl rfl (sw_true rfl rfl rfl (by decide +kernel)) (pi_range1 (by rfl) z_range (pa_cons (pe_callB call_len_seq (by rfl) z_len PySem.boot_len (pa_cons (pv 4) pa_nil)) pa_nil)) (blkOk_by (own := [("_law_k", 9)]) (N := N__law_keys) (sc := defScope s__law_keys) (by decide +kernel)) (fun _ _ _ _ _ => (pg_name (i := 9) sc.nd rfl (Or.inl rfl))) (fun _ _ _ _ _ => (pts_one (pt_cmpR op_eq (pe_op op_and (pe_op op_shr (pe_op op_fdiv (pv 7) pe_int) (pv 9)) pe_int) pe_int (nomark _)))) (fun _ _ _ _ _ => (pe_ix (show IxR _ (rIxL K) from ix_list) (pv 4) (pv 9) (fun _ _ => rfl))))
 (pss_one (ps_expr (pe_bm PySem.F.plainAttrs_list PySem.F.slot_list_append PySem.F.type_list_append mt_append (pv 5) (pa_cons (pe_tup (pa_cons (pe_op op_add (pv 2) (pv 6)) (pa_cons (pv 8) pa_nil))) pa_nil)))))))
 (pss_one (ps_ret (pe_tup (pa_cons (pv 4) (pa_cons (pv 5) pa_nil))))))))))), ?_⟩
  obtain ⟨ns, nums⟩ := y
  obtain ⟨hns, hnd, hpos, hn2, hn4⟩ := hok
  have hns : ns.length ≤ 63 := hns
  have hn2 : 2 ≤ nums.length := hn2
  have hn4 : nums.length ≤ 4 := hn4
  have h1 : (mScript K ns).p G v1 := h1
  have h2 : Dt G v2 (.list (dI nums)) := h2
  have elen : ∀ l : List Int, ((dI l).length : Int) = (l.length : Int) := fun l => by rw [List.length_map]
  have cell : ∀ {σ : L2.St} {G' H' : Hp} {i : Nat} {E : XK} {te : TE}, Ex G G' → σ[0]? = some (some v1) → i ≤ 1000 → Ev te σ G' H' (mD (.int (i : Int))) → Ev (tCall (sp__law_cell K) [] E (tCons (tVar 0) (tCons te tNil))) σ G' H' (mInt fun _ => True) := fun e e0 hi ht => ev_call (ns, _) ⟨hns, hi⟩ (ea_cons (ev_var e0 ((mScript K ns).mono e h1)) (ea_cons ht ea_nil))
  refine q_asg (m := mInt fun _ => True) (ev_op (ev_op (cell (i := 1) (Ex.refl _) rfl (by omega) ev_int) (ev_op (ev_op ev_int (ev_op ev_int ev_int (rv_pow ⟨by decide, by decide, by decide⟩)) (rv_mul (.inl ⟨by decide, by decide⟩))) ev_int rv_add) (rv_MI (R := fun _ => True) (C := fun _ j => 0 < j) fun i _ => ⟨by decide +kernel, trivial⟩)) (ev_op ev_int ev_int (rv_pow ⟨by decide, by decide, by decide⟩)) (rv_MI0 (f := fun i j => i - j) fun i _ => trivial)) hGH fun v3 G1 H1 g1 h3 => ?_
  obtain ⟨sh, rfl, _⟩ := mInt_inv h3
  refine q_asg (m := mInt fun x => 0 ≤ x ∧ x < nums.length) (ev_op (ev_op (cell (i := 2) g1.gg rfl (by omega) ev_int) ev_int (rv_MI (R := fun _ => True) (C := CDiv) fun i _ => ⟨cd i (by decide) (by decide), trivial⟩)) (Ev.is (ev_len (ev_var rfl (Dt.mono g1.gg h2))) (by rw [elen])) (rv_MI (C := fun _ j => 0 < j) fun i _ => ⟨by omega, Int.emod_nonneg _ (by omega), Int.emod_lt_of_pos _ (by omega)⟩)) g1.gh fun v4 G2 H2 g2 h4 => ?_
  obtain ⟨at_, rfl, ha0, hal⟩ := mInt_inv h4
  obtain ⟨a, rfl⟩ := Int.eq_ofNat_of_zero_le ha0
  have g12 := g1.trans g2
  have h22 := Dt.mono g12.gg h2
  refine q_asg (m := mD (.list (dI (nums.drop a ++ nums.take a)))) (Ev.is (ev_op (ev_sl (ev_var rfl h22) (eo_some (ev_var rfl (Dt.int _))) eo_none) (ev_sl (ev_var rfl h22) eo_none (eo_some (ev_var rfl (Dt.int _)))) (rv_cat (by rw [cut_from, cut_to, List.length_drop, List.length_take, List.length_map]; omega))) (by rw [cut_from, cut_to, ← List.map_drop, ← List.map_take, ← List.map_append])) g2.gh fun v5 G3 H3 g3 h5 => ?_
  have g13 := g12.trans g3
  have hp0 : (nums.drop a ++ nums.take a).Perm nums := by
    have := List.perm_append_comm (l₁ := nums.drop a) (l₂ := nums.take a)
    rw [List.take_append_drop] at this
    exact this
  refine ⟨fun σ3 H4 => ∃ G4 w5 o, σ3 = [some v1, some v2, some (.int sh), some (.int (a : Int)), some w5, none, none, none, none, none] ∧ Grow G H G4 H4 ∧ Dt G4 w5 (.list (dI o)) ∧ o.Perm nums, ?_, ?_⟩
  · refine s_whenE (et_testE (ev_op (ev_op (ev_op (cell (i := 2) g13.gg rfl (by omega) ev_int) ev_int (rv_MI (R := fun _ => True) (C := CDiv) fun i _ => ⟨cd i (by decide) (by decide), trivial⟩)) ev_int (rv_MI (R := fun _ => True) (C := fun _ j => 0 < j) fun i _ => ⟨by decide, trivial⟩)) ev_int rv_eqMI)) g3.gh (fun G4 H4 g4 => ?_) fun G4 H4 g4 => ⟨G4, v5, _, rfl, g13.trans g4, Dt.mono g4.gg h5, hp0⟩
    refine s_asg (ev_listRev (ev_var rfl (Dt.mono g4.gg h5))) g4.gh fun v G5 H5 g5 hv => ⟨G5, v, (nums.drop a ++ nums.take a).reverse, rfl, (g13.trans g4).trans g5, ?_, (List.reverse_perm _).trans hp0⟩
    rw [dI, List.map_reverse]
    exact hv
  rintro σ3 H4 ⟨G4, w5, o, rfl, g4, d5, hp⟩
  have hol : o.length = nums.length := hp.length_eq
  refine q_newL g4.gh fun pr hpr' hpr0 => ?_
  have hpr : H pr = none := g4.hh.non hpr'
  have g5 : Grow G H G4 (upd H4 pr (.lst [])) := g4.mut hpr hpr0
  refine q_forR1 (n := 4) (ed_cons ev_int ed_nil) g5.gh (by omega) (fun i σ' G' H' => ∃ (u6 u7 u8 u9 : Option V) (rows : List (Int × List Int)), σ' = [some v1, some v2, some (.int sh), some (.int (a : Int)), some w5, some (.ref pr), u6, u7, u8, u9] ∧ Grow G H G' H' ∧ Ex G4 G' ∧ ML G' H' pr (rows.map makeD) ∧ rows.map (·.1) = (List.range i).map (fun (j : Nat) => sh + (j : Int)) ∧ ∀ r ∈ rows, r.2.Sublist o) ?_ ?_ ?_
  · intro G6 H6 g6
    exact ⟨none, none, none, none, [], rfl, g5.trans g6, g6.gg, (ML.new hpr0).grow g6, rfl, fun r hr' => (nomatch hr')⟩
  · rintro i σ' G' H' hi x2 ⟨u6, u7, u8, u9, rows, rfl, g', ex, ml, hk, hsub⟩
    have hi4 : i < 4 := by omega
    have hrl : rows.length = i := by
      have := congrArg List.length hk
      rw [List.length_map, List.length_map, List.length_range] at this
      exact this
    refine q_asg (m := mInt fun x => 0 ≤ x) (ev_callE (ms := [mInt fun _ => True, mD (.int (i : Int))]) (ea_cons (cell (i := 3) g'.gg rfl (by omega) ev_int) (ea_cons (ev_var rfl (Dt.int _)) ea_nil)) fun G9 vs hvs => ?_) x2 fun v7 G6 H6 g6 h7 => ?_
    · obtain ⟨x1, x3, ev, hx1, hx2⟩ := AllP.inv2 hvs
      subst ev
      obtain ⟨c, rfl, _⟩ := mInt_inv hx1
      exact ⟨(c, i), by show i ≤ 1000; omega, ⟨.int c, hx2, trivial⟩, fun G v h => h⟩
    obtain ⟨num, rfl, hnum⟩ := mInt_inv h7
    have g66 := g'.trans g6
    have ex6 := ex.trans g6.gg
    refine q_asg (ev_lcR (K := K) (n := (o.length : Int)) (ed_cons (Ev.is (ev_len (ev_var rfl (Dt.mono ex6 d5))) (by rw [elen])) ed_nil) (by omega) (fun j es => ∃ ms : List Int, es = ms.map .int ∧ ms.Sublist (o.take j) ∧ j ≤ o.length) ⟨[], rfl, by simp, Nat.zero_le _⟩ (fun j acc e => by
      obtain ⟨ms, e1, e2, e3⟩ := e
      have := e2.length_le
      rw [List.length_take] at this
      rw [e1, List.length_map]
      omega) ?_) g6.gh fun v8 G7 H7 g7 ⟨x8, ⟨es, ex8, ms, ems, hms, _⟩, h8⟩ => ?_
    · intro j G9 H9 Q9 hj g9 kk
      have hjl : j < o.length := by omega
      have eo : o[j]? = some o[j] := List.getElem?_eq_getElem hjl
      have ets : o.take (j + 1) = o.take j ++ [o[j]] := take_snoc eo
      refine kk _ rfl ⟨_, et_test (ev_op (ev_op (ev_op (ev_op (ev_var rfl (Dt.int num)) ev_int (rv_fdiv (cd num (by decide) (by decide)))) (ev_var rfl (Dt.int (j : Int))) (rv_shr (by omega))) ev_int rv_and) ev_int rv_eqI), fun _ => ⟨fun d => d = .int o[j], Ev.imp (ev_op (ev_var rfl (Dt.mono (ex6.trans g9.gg) d5)) (ev_var rfl (Dt.int _)) (rv_ixL (d := .int o[j]) (at_nat (by rw [List.getElem?_map, eo]; rfl)))) fun G v hv => ⟨_, rfl, hv⟩, fun acc d ea ed => ?_⟩, fun _ acc ea => ?_⟩
      · obtain ⟨ms, e1, e2, e3⟩ := ea
        refine ⟨ms ++ [o[j]], by rw [e1, ed, List.map_append]; rfl, ?_, hjl⟩
        rw [ets]
        exact e2.append (List.Sublist.refl _)
      · obtain ⟨ms, e1, e2, e3⟩ := ea
        refine ⟨ms, e1, ?_, hjl⟩
        rw [ets]
        exact e2.trans (List.sublist_append_left _ _)
    subst ex8 ems
    have hms : ms.Sublist o := by
      have h9 : ms.Sublist (o.take o.length) := hms
      rw [List.take_length] at h9
      exact h9
    refine s_app (d := makeD (sh + (i : Int), ms)) ((ml.grow g6).grow g7) g7.gh (ev_varV rfl) (ev_tup (ed_cons (ev_op (ev_var rfl (Dt.int _)) (ev_var rfl (Dt.int _)) rv_add) (ed_cons (ev_var rfl h8) ed_nil))) (by rw [List.length_map]; omega) fun G8 H8 b8 ml8 => ?_
    refine ⟨G8, b8.gh, _, _, _, _, rows ++ [(sh + (i : Int), ms)], rfl, (g66.trans g7).thenB hpr b8, (ex6.trans g7.gg).trans b8.gg, by rw [List.map_append]; exact ml8, ?_, fun r hr' => ?_⟩
    · rw [List.map_append, hk, List.range_succ, List.map_append]
      rfl
    · rcases List.mem_append.mp hr' with hr' | hr'
      · exact hsub r hr'
      · rw [List.mem_singleton.mp hr']
        exact hms
  · rintro σ' G6 H6 x6 ⟨u6, u7, u8, u9, rows, rfl, g6, ex, ml, hk, hsub⟩
    obtain ⟨G7, g7, e67, _, r7⟩ := ml.retE g6 hpr
    refine s_ret (ev_tup (ed_cons (ev_var rfl (Dt.mono (ex.trans e67) d5)) (ed_cons (ev_var rfl r7) ed_nil))) g7.gh fun v G8 H8 g8 hv => k v G8 H8 (g7.trans g8) ⟨_, ⟨o, rows, rfl, hp, ?_, ?_, hsub⟩, hv⟩
    · have := congrArg List.length hk
      rw [List.length_map, List.length_map, List.length_range] at this
      exact this
    · rw [hk]
      exact map_range_nodup _ (fun i j h => by
        have h : sh + (i : Int) = sh + (j : Int) := h
        omega) _
end
end Sk
/-! Sk__law_look -/
namespace Sk
open PySem PySem.Spec PyProof.Rows L2
open Evl (pss_cut tCut)
section
variable {P : Program} {w : World} {K : PySem.W.Frag} {mg : Str → Option Value} {base : Heap}
abbrev s__law_look : Stmt := top 48
abbrev N__law_look : List Str := ["_law_number", "_law_looker", "_law_order", "_law_rows", "_law_look_here", "_law_wrong", "_law_j", "_law_key", "_law_makers", "_law_source", "_law_some", "_law_maker"]
theorem sc__law_look : FnScope N__law_look ["_law_number", "_law_looker", "_law_order", "_law_rows"] (defScope s__law_look) := ⟨rfl, rfl, rfl, by decide +kernel, rfl, by decide +kernel, by decide +kernel⟩
def SrcOk (rows : List (Int × List Int)) (lk : Int) (p : Int × Int) : Prop := ∃ r ∈ rows, r.1 = p.1 ∧ (p.2 = -1 ∨ p.2 = 0 ∨ (p.2 ∈ r.2 ∧ p.2 ≠ lk))
def LookOk (rows : List (Int × List Int)) (lk : Int) (l : Look) : Prop := l.length ≤ 4 ∧ ∀ p ∈ l, SrcOk rows lk p
abbrev sp__law_look : Sp := mkSp (α := Int × Int × List Int × List Int × List (Int × List Int)) (fun y => [mD (.int y.1), mD (.int y.2.1), mD (.list (dI y.2.2.2.1)), mD (.list (y.2.2.2.2.map makeD))]) (fun y => KeysOk y.2.2.1 y.2.2.2.1 y.2.2.2.2 ∧ y.2.2.1.length ≤ 4) (fun y => mDs fun x => ∃ l : Look, x = lookD l ∧ LookOk y.2.2.2.2 y.2.1 l)
theorem own__law_look  (A : DefAt K mg "_law_look" s__law_look []) (O__law_ahead : Own P w K mg base "_law_ahead" 1 ["_law_order", "_law_makers", "_law_looker"] [] sp__law_ahead) (z_range : mg "range" = none) (z_len : mg "len" = none) : Own P w K mg base "_law_look" 2 ["_law_number", "_law_looker", "_law_order", "_law_rows"] [] sp__law_look := by
  have sc := sc__law_look
  refine own_mk A sc (fun _ _ _ _ _ _ us hl => match us, hl with | [_, _, _, _], _ => rfl) (fun _ => rfl) fun f cdv Ar outer s H E y G vs Q hr hok hGH hv k => ?_
  obtain ⟨v1, v2, v3, v4, ev, h1, h2, h3, h4⟩ := AllP.inv4 hv
  subst ev
  refine ⟨_, (pss_cons (ps_set (i := 4) sc.nd rfl (Or.inl rfl) (pe_lst pa_nil))
 (pss_cons (ps_set (i := 5) sc.nd rfl (Or.inl rfl) (pe_op op_mod (pe_op op_fdiv (pv 0) pe_int) pe_int))
 (pss_cons (ps_for PassesOwn.never rfl (pi_range1 (by rfl) z_range (pa_cons pe_int pa_nil)) (pg_name (i := 6) sc.nd rfl (Or.inl rfl)) (pss_cons (ps_asg (pe_ix ix_list (pv 3) (pv 6) (fun _ _ => rfl)) (pg_tup rfl (pgs_cons (pg_name (i := 7) sc.nd rfl (Or.inl rfl)) (pgs_cons (pg_name (i := 8) sc.nd rfl (Or.inl rfl)) pgs_nil))))
 (pss_one (ps_if (pt_cmpR op_eq (pe_op op_and (pe_op op_shr (pe_op op_fdiv (pv 0) pe_int) (pv 6)) pe_int) pe_int (nomark _)) (pss_cons (ps_set (i := 9) sc.nd rfl (Or.inl rfl) (pe_own O__law_ahead (hr.mono (by decide)) (by rfl) (pa_cons (pv 2) (pa_cons (pv 8) (pa_cons (pv 1) pa_nil)))))
 (pss_cut (ps_if (pt_cmpR op_eq (pv 5) (pv 6) (nomark _)) (pss_cons (ps_set (i := 10) sc.nd rfl (Or.inl rfl) (pe_op op_cat (pe_op op_cat (pe_lst (pa_cons pe_int pa_nil)) (pe_lc (own := [("_law_maker", 11)]) (g := gName 11) rfl sc.nd (pi_list (pv 8)) (blkOk_by (own := [("_law_maker", 11)]) (N := N__law_look) (sc := defScope s__law_look) (by decide +kernel)) (fun _ _ _ _ _ => (pg_name (i := 11) sc.nd rfl (Or.inl rfl))) (fun _ _ _ _ _ => (pts_one (pt_cmpR op_ne (pv 11) (pv 1) (nomark _)))) (fun _ _ _ _ _ => (pv 11)))) (pe_lst (pa_cons (pe_un un_neg pe_int) pa_nil))))
 (pss_one (ps_set (i := 9) sc.nd rfl (Or.inl rfl) (pe_ix ix_list (pv 10) (pe_op op_mod (pe_op op_fdiv (pv 0) pe_int) (pe_callB call_len_seq (by rfl) z_len PySem.boot_len (pa_cons (pv 10) pa_nil))) (fun _ _ => rfl))))) pss_nil)
 (pss_one (ps_expr (pe_bm PySem.F.plainAttrs_list PySem.F.slot_list_append PySem.F.type_list_append mt_append (pv 4) (pa_cons (pe_tup (pa_cons (pv 7) (pa_cons (pv 9) pa_nil))) pa_nil)))))) pss_nil))))
 (pss_one (ps_ret (pv 4)))))), ?_⟩
  obtain ⟨num, lk, nums, o, rows⟩ := y
  obtain ⟨kok, hn4⟩ := hok
  have kok : KeysOk nums o rows := kok
  have hn4 : nums.length ≤ 4 := hn4
  have hol : o.length = nums.length := kok.perm.length_eq
  have h1 : Dt G v1 (.int num) := h1
  have h2 : Dt G v2 (.int lk) := h2
  have h3 : Dt G v3 (.list (dI o)) := h3
  have h4 : Dt G v4 (.list (rows.map makeD)) := h4
  have hrl := kok.len
  refine q_newL hGH fun pl hpl hpl0 => ?_
  have g1 : Grow G H G (upd H pl (.lst [])) := (Grow.refl hGH).mut hpl hpl0
  refine q_asg (ev_op (ev_op (ev_var rfl h1) ev_int (rv_fdiv (cd num (by decide) (by decide)))) ev_int (rv_mod (by decide))) g1.gh fun v6 G2 H2 g2 h6 => ?_
  obtain rfl := Dt.int_iff.mp h6
  have g12 := g1.trans g2
  refine q_forR1 (n := 4) (ed_cons ev_int ed_nil) g12.gh (by omega) (fun i σ' G' H' => ∃ (u7 u8 u9 u10 u11 u12 : Option V) (l : Look), σ' = [some v1, some v2, some v3, some v4, some (.ref pl), some (.int (num / 64 % 24)), u7, u8, u9, u10, u11, u12] ∧ Grow G H G' H' ∧ ML G' H' pl (l.map pD) ∧ l.length ≤ i ∧ ∀ p ∈ l, SrcOk rows lk p) ?_ ?_ ?_
  · intro G3 H3 g3
    exact ⟨none, none, none, none, none, none, [], rfl, g12.trans g3, ((ML.new hpl0).grow g2).grow g3, Nat.le_refl _, fun p hp => (nomatch hp)⟩
  · rintro i σ' G' H' hi x2 ⟨u7, u8, u9, u10, u11, u12, l, rfl, g', ml, hll, hsrc⟩
    have hi4 : i < rows.length := by omega
    have er : rows[i]? = some rows[i] := List.getElem?_eq_getElem hi4
    have hrm : rows[i] ∈ rows := List.getElem_mem hi4
    generalize rows[i] = r at er hrm
    have hrs := (kok.subs r hrm).length_le
    refine q_2 (d1 := .int r.1) (d2 := .list (dI r.2)) (ev_op (ev_var rfl (Dt.mono g'.gg h4)) (ev_var rfl (Dt.int _)) (rv_ixL (at_nat (by rw [List.getElem?_map, er]; rfl)))) x2 fun w8 w9 G3 H3 g3 c8 c9 => ?_
    have g33 := g'.trans g3
    refine s_when (et_test (ev_op (ev_op (ev_op (ev_op (ev_var rfl (Dt.mono g33.gg h1)) ev_int (rv_fdiv (cd num (by decide) (by decide)))) (ev_var rfl (Dt.int (i : Int))) (rv_shr (by omega))) ev_int rv_and) ev_int rv_eqI)) g3.gh (fun hb G4 H4 g4 => ?_) fun hb G4 H4 g4 => ⟨G4, g4.gh, _, _, _, _, _, _, l, rfl, g33.trans g4, (ml.grow g3).grow g4, by omega, hsrc⟩
    have g34 := g33.trans g4
    refine q_asg (ev_call (o, r.2, lk) trivial (ea_cons (ev_var rfl (Dt.mono g34.gg h3)) (ea_cons (ev_var rfl (Dt.mono g4.gg c9)) (ea_cons (ev_var rfl (Dt.mono g34.gg h2)) ea_nil)))) g4.gh fun v10 G5 H5 g5 h10 => ?_
    obtain ⟨s0, rfl, hs0⟩ := mInt_inv h10
    have hs0 : s0 = 0 ∨ (s0 ∈ r.2 ∧ s0 ≠ lk) := hs0
    have g35 := g34.trans g5
    have e35 := g4.gg.trans g5.gg
    refine ⟨fun σ3 H6 => ∃ (G6 : Hp) (u11 u12 : Option V) (s1 : Int), σ3 = [some v1, some v2, some v3, some v4, some (.ref pl), some (.int (num / 64 % 24)), some (.int (i : Int)), some w8, some w9, some (.int s1), u11, u12] ∧ Ex G5 G6 ∧ Grow G H G6 H6 ∧ ML G6 H6 pl (l.map pD) ∧ (s1 = -1 ∨ s1 = 0 ∨ (s1 ∈ r.2 ∧ s1 ≠ lk)), ?_, ?_⟩
    · have ml5 := ((ml.grow g3).grow g4).grow g5
      refine s_when (et_test (ev_op (ev_var rfl (Dt.int _)) (ev_var rfl (Dt.int _)) rv_eqI)) g5.gh (fun hb2 G6 H6 g6 => ?_) fun hb2 G6 H6 g6 => ⟨G6, u11, u12, s0, rfl, g6.gg, g35.trans g6, ml5.grow g6, .inr hs0⟩
      have c96 := Dt.mono (e35.trans g6.gg) c9
      refine q_asg (m := mL fun ds => ∃ is : List Int, ds = dI is ∧ is ≠ [] ∧ is.length ≤ 100 ∧ ∀ s ∈ is, s = -1 ∨ s = 0 ∨ (s ∈ r.2 ∧ s ≠ lk)) (ev_op (ev_op (ev_mL (P := fun ds => ds = dI [0]) (ev_lst (ed_cons ev_int ed_nil)) rfl) (Ev.imp (m1 := mL fun ds => ∃ is : List Int, ds = dI is ∧ is.length ≤ 50 ∧ ∀ s ∈ is, s ∈ r.2 ∧ s ≠ lk) (ev_lcD (K := K) (ds := dI r.2) (ev_var rfl c96) (fun j es => ∃ is : List Int, es = dI is ∧ is.length ≤ j ∧ j ≤ r.2.length ∧ ∀ s ∈ is, s ∈ r.2 ∧ s ≠ lk) ⟨[], rfl, Nat.le_refl _, Nat.zero_le _, fun s hs => (nomatch hs)⟩ (fun j acc e => by
          obtain ⟨is, e1, e2, e3, _⟩ := e
          rw [e1, List.length_map]
          omega) ?_) fun G v ⟨x, ⟨es, ex, is, e1, e2, _, e3⟩, hv⟩ => ⟨x, ⟨es, ex, is, e1, by rw [List.length_map] at e2; omega, e3⟩, hv⟩) (rv_catM (S := fun ds => ∃ is : List Int, ds = dI is ∧ is ≠ [] ∧ is.length ≤ 60 ∧ ∀ s ∈ is, s = 0 ∨ (s ∈ r.2 ∧ s ≠ lk)) fun a b ea eb => by
          obtain ⟨is, e1, e2, e3⟩ := eb
          subst ea e1
          refine ⟨⟨0 :: is, rfl, (fun e => by cases e), by rw [List.length_cons]; omega, fun s hs => ?_⟩, by rw [List.length_map, List.length_map]; show 1 + is.length ≤ _; omega⟩
          rcases List.mem_cons.mp hs with e | hs
          · exact .inl e
          · exact .inr (e3 s hs))) (ev_mL (P := fun ds => ds = dI [-1]) (ev_lst (ed_cons (ev_neg ev_int) ed_nil)) rfl) (rv_catM fun a b ea eb => by
          obtain ⟨is, e1, e2, e3, e4⟩ := ea
          subst e1 eb
          refine ⟨⟨is ++ [-1], List.map_append.symm, (fun e => by cases is <;> cases e), by rw [List.length_append]; show is.length + 1 ≤ _; omega, fun s hs => ?_⟩, by rw [List.length_map, List.length_map]; show is.length + 1 ≤ _; omega⟩
          rcases List.mem_append.mp hs with hs | hs
          · exact .inr (e4 s hs)
          · exact .inl (List.mem_singleton.mp hs))) g6.gh fun v11 G7 H7 g7 ⟨x11, ⟨ds, ex11, is, eis, hne, hisl, his⟩, h11⟩ => ?_
      · intro j d x G9 H9 Q9 hj g9 hx kk
        obtain ⟨m, hm, rfl⟩ := map_some hj
        obtain rfl := Dt.int_iff.mp hx
        have hjl := (List.getElem?_eq_some_iff.mp hm).1
        refine kk _ rfl ⟨_, et_test (ev_op (ev_var rfl hx) (ev_var rfl (Dt.mono ((g35.trans g6).gg.trans g9.gg) h2)) rv_neI), fun hb3 => ⟨fun d => d = .int m, Ev.imp (ev_var (m := mD (.int m)) rfl hx) fun G v hv => ⟨_, rfl, hv⟩, fun acc d ea ed => ?_⟩, fun _ acc ea => ?_⟩
        · obtain ⟨is, e1, e2, e3, e4⟩ := ea
          have hne : m ≠ lk := by simpa using hb3
          refine ⟨is ++ [m], by rw [e1, ed]; exact (List.map_append (f := PyData.int) (l₁ := is) (l₂ := [m])).symm, by rw [List.length_append]; show is.length + 1 ≤ _; omega, hjl, fun s hs => ?_⟩
          rcases List.mem_append.mp hs with hs | hs
          · exact e4 s hs
          · rw [List.mem_singleton.mp hs]
            exact ⟨List.mem_of_getElem? hm, hne⟩
        · obtain ⟨is, e1, e2, e3, e4⟩ := ea
          exact ⟨is, e1, by omega, hjl, e4⟩
      subst ex11 eis
      have hpos : 0 < is.length := List.length_pos_iff.mpr hne
      have elen : ((dI is).length : Int) = (is.length : Int) := by rw [List.length_map]
      have hm0 : 0 ≤ num / 1536 % (is.length : Int) := Int.emod_nonneg _ (by omega)
      have hm1 : num / 1536 % (is.length : Int) < is.length := Int.emod_lt_of_pos _ (by omega)
      obtain ⟨q, eq_⟩ := Int.eq_ofNat_of_zero_le hm0
      have hq : q < is.length := by omega
      have eg : is[q]? = some is[q] := List.getElem?_eq_getElem hq
      have g37 := (g35.trans g6).trans g7
      refine s_asg (ev_op (ev_var rfl h11) (ev_op (ev_op (ev_var rfl (Dt.mono g37.gg h1)) ev_int (rv_fdiv (cd num (by decide) (by decide)))) (Ev.is (ev_len (ev_var rfl h11)) (by rw [elen])) (rv_mod (by omega))) (rv_ixL (d := .int is[q]) (by rw [eq_]; exact at_nat (by rw [List.getElem?_map, eg]; rfl)))) g7.gh fun v G8 H8 g8 hv => ?_
      obtain rfl := Dt.int_iff.mp hv
      exact ⟨G8, _, _, is[q], rfl, (g6.gg.trans g7.gg).trans g8.gg, g37.trans g8, ((ml5.grow g6).grow g7).grow g8, his _ (List.getElem_mem hq)⟩
    · rintro σ3 H6 ⟨G6, u11, u12, s1, rfl, e6, g6, ml6, hs1⟩
      refine s_app (d := pD (r.1, s1)) ml6 g6.gh (ev_varV rfl) (ev_tup (ed_cons (ev_var rfl (Dt.mono (e35.trans e6) c8)) (ed_cons (ev_var rfl (Dt.int _)) ed_nil))) (by rw [List.length_map]; omega) fun G7 H7 b7 ml7 => ?_
      refine ⟨G7, b7.gh, _, _, _, _, _, _, l ++ [(r.1, s1)], rfl, g6.thenB hpl b7, by rw [List.map_append]; exact ml7, by rw [List.length_append]; show l.length + 1 ≤ _; omega, fun p hp => ?_⟩
      rcases List.mem_append.mp hp with hp | hp
      · exact hsrc p hp
      · rw [List.mem_singleton.mp hp]
        exact ⟨r, hrm, rfl, hs1⟩
  · rintro σ' G3 H3 x3 ⟨u7, u8, u9, u10, u11, u12, l, rfl, g3, ml, hll, hsrc⟩
    obtain ⟨G4, g4, r4⟩ := ml.ret g3 hpl
    exact s_ret (m := mD (.list (l.map pD))) (ev_var rfl r4) g4.gh fun v G5 H5 g5 hv => k v G5 H5 (g4.trans g5) ⟨_, ⟨l, rfl, hll, hsrc⟩, hv⟩
end
end Sk
/-! Sk__law_deals -/
namespace Sk
open PySem PySem.Spec PyProof.Rows L2
open Evl (pss_cut tCut)
section
variable {P : Program} {w : World} {K : PySem.W.Frag} {mg : Str → Option Value} {base : Heap}
abbrev s__law_deals : Stmt := top 49
abbrev N__law_deals : List Str := ["_law_script", "_law_numbers_here", "_law_order", "_law_rows", "_law_looks", "_law_number", "_law_k", "_law_looker", "_law_deals_here", "_law_cell_here"]
theorem sc__law_deals : FnScope N__law_deals ["_law_script", "_law_numbers_here", "_law_order", "_law_rows"] (defScope s__law_deals) := ⟨rfl, rfl, rfl, by decide +kernel, rfl, by decide +kernel, by decide +kernel⟩
structure DealsOk (nums : List Int) (rows : List (Int × List Int)) (ds : List Deal) : Prop where
  nums : ds.map (·.num) = nums
  looks : ∀ d ∈ ds, d.looks.length ≤ 24 ∧ ∀ l ∈ d.looks, LookOk rows d.num l
abbrev sp__law_deals (K : PySem.W.Frag) : Sp := mkSp (α := List Int × List Int × List Int × List (Int × List Int)) (fun y => [mScript K y.1, mD (.list (dI y.2.1)), mD (.list (dI y.2.2.1)), mD (.list (y.2.2.2.map makeD))]) (fun y => y.1.length ≤ 63 ∧ NumsOk y.2.1 ∧ KeysOk y.2.1 y.2.2.1 y.2.2.2) (fun y => mDs fun x => ∃ ds : List Deal, x = .list (ds.map dealD) ∧ DealsOk y.2.1 y.2.2.2 ds)
theorem word_at {j : Nat} (h : j < 5) : ∃ lv : Lev, (dS ["loose", "kept", "make", "watch", "hold"])[j]? = some (.str (levW lv)) := by
  match j, h with
  | 0, _ => exact ⟨.loose, rfl⟩
  | 1, _ => exact ⟨.kept, rfl⟩
  | 2, _ => exact ⟨.make, rfl⟩
  | 3, _ => exact ⟨.watch, rfl⟩
  | 4, _ => exact ⟨.hold, rfl⟩
theorem own__law_deals  (A : DefAt K mg "_law_deals" s__law_deals []) (O__law_cell : Own P w K mg base "_law_cell" 1 ["_law_script", "_law_k"] [] (sp__law_cell K)) (O__law_mixed : Own P w K mg base "_law_mixed" 1 ["_law_cell_here", "_law_k"] [] sp__law_mixed) (O__law_look : Own P w K mg base "_law_look" 2 ["_law_number", "_law_looker", "_law_order", "_law_rows"] [] sp__law_look) (z_range : mg "range" = none) (z_len : mg "len" = none) (z_max : mg "max" = none) (z_min : mg "min" = none) : Own P w K mg base "_law_deals" 3 ["_law_script", "_law_numbers_here", "_law_order", "_law_rows"] [] (sp__law_deals K) := by
  have sc := sc__law_deals
  refine own_mk A sc (fun _ _ _ _ _ _ us hl => match us, hl with | [_, _, _, _], _ => rfl) (fun _ => rfl) fun f cdv Ar outer s H E y G vs Q hr hok hGH hv k => ?_
  obtain ⟨v1, v2, v3, v4, ev, h1, h2, h3, h4⟩ := AllP.inv4 hv
  subst ev
  refine ⟨_, (pss_cons (ps_set (i := 4) sc.nd rfl (Or.inl rfl) pe_dnewK)
 (pss_cons (ps_for PassesOwn.never rfl (pi_list (pv 1)) (pg_name (i := 5) sc.nd rfl (Or.inl rfl)) (pss_one (ps_dput (hu_of hr) (pv 4) (pv 5) (pe_lst pa_nil) rfl)))
 (pss_cons (ps_for PassesOwn.never rfl (pi_range1 (by rfl) z_range (pa_cons (pe_callB (call_max2 rfl) (by rfl) z_max (by decide +kernel) (pa_cons pe_int (pa_cons (pe_callB (call_min2 rfl) (by rfl) z_min (by decide +kernel) (pa_cons pe_int (pa_cons (pe_op op_sub (pe_callB call_len_seq (by rfl) z_len PySem.boot_len (pa_cons (pv 0) pa_nil)) pe_int) pa_nil))) pa_nil))) pa_nil)) (pg_name (i := 6) sc.nd rfl (Or.inl rfl)) (pss_cons (ps_set (i := 5) sc.nd rfl (Or.inl rfl) (pe_own O__law_mixed (hr.mono (by decide)) (by rfl) (pa_cons (pe_own O__law_cell (hr.mono (by decide)) (by rfl) (pa_cons (pv 0) (pa_cons (pe_op op_add pe_int (pv 6)) pa_nil))) (pa_cons (pv 6) pa_nil))))
 (pss_cons (ps_set (i := 7) sc.nd rfl (Or.inl rfl) (pe_ix ix_list (pv 1) (pe_op op_mod (pv 5) (pe_callB call_len_seq (by rfl) z_len PySem.boot_len (pa_cons (pv 1) pa_nil))) (fun _ _ => rfl)))
 (pss_one (ps_expr (pe_bm PySem.F.plainAttrs_list PySem.F.slot_list_append PySem.F.type_list_append mt_append (pe_dget (hu_of hr) (pv 4) (pv 7) (fun _ _ => rfl)) (pa_cons (pe_own O__law_look (hr.mono (by decide)) (by rfl) (pa_cons (pv 5) (pa_cons (pv 7) (pa_cons (pv 2) (pa_cons (pv 3) pa_nil))))) pa_nil)))))))
 (pss_cons (ps_set (i := 8) sc.nd rfl (Or.inl rfl) (pe_lst pa_nil))
 (pss_cons (ps_set (i := 9) sc.nd rfl (Or.inl rfl) (pe_own O__law_cell (hr.mono (by decide)) (by rfl) (pa_cons (pv 0) (pa_cons pe_int pa_nil))))
 (pss_cons (ps_for PassesOwn.never rfl (pi_list (pv 1)) (pg_name (i := 5) sc.nd rfl (Or.inl rfl)) (pss_cons (ps_expr (pe_bm PySem.F.plainAttrs_list PySem.F.slot_list_append PySem.F.type_list_append mt_append (pv 8) (pa_cons (pe_tup (pa_cons (pv 5) (pa_cons (pe_ix ix_list (pe_lst (pa_cons pe_str (pa_cons pe_str (pa_cons pe_str (pa_cons pe_str (pa_cons pe_str pa_nil)))))) (pe_op op_mod (pv 9) pe_int) (fun _ _ => rfl)) (pa_cons (pe_dget (hu_of hr) (pv 4) (pv 5) (fun _ _ => rfl)) pa_nil)))) pa_nil)))
 (pss_one (ps_set (i := 9) sc.nd rfl (Or.inl rfl) (pe_op op_fdiv (pv 9) pe_int)))))
 (pss_one (ps_ret (pv 8))))))))), ?_⟩
  obtain ⟨ns, nums, o, rows⟩ := y
  obtain ⟨hns, ⟨hnd, hpos, hn2, hn4⟩, kok⟩ := hok
  have hns : ns.length ≤ 63 := hns
  have hnd : nums.Nodup := hnd
  have hn2 : 2 ≤ nums.length := hn2
  have hn4 : nums.length ≤ 4 := hn4
  have kok : KeysOk nums o rows := kok
  have h1 : (mScript K ns).p G v1 := h1
  have h2 : Dt G v2 (.list (dI nums)) := h2
  have h3 : Dt G v3 (.list (dI o)) := h3
  have h4 : Dt G v4 (.list (rows.map makeD)) := h4
  have elen : ∀ l : List Int, ((dI l).length : Int) = (l.length : Int) := fun l => by rw [List.length_map]
  have cell : ∀ {σ : L2.St} {G' H' : Hp} {i : Nat} {E : XK} {te : TE}, Ex G G' → σ[0]? = some (some v1) → i ≤ 1000 → Ev te σ G' H' (mD (.int (i : Int))) → Ev (tCall (sp__law_cell K) [] E (tCons (tVar 0) (tCons te tNil))) σ G' H' (mInt fun _ => True) := fun e e0 hi ht => ev_call (ns, _) ⟨hns, hi⟩ (ea_cons (ev_var e0 ((mScript K ns).mono e h1)) (ea_cons ht ea_nil))
  refine q_newK hGH fun pl hpl hpl0 => ?_
  have g1 : Grow G H G (upd H pl (.dK [])) := (Grow.refl hGH).mut hpl hpl0
  refine q_forDn (ev_var rfl h2) g1.gh (fun i σ' G' H' => ∃ (u5 : Option V) (ad : Int → Addr), σ' = [some v1, some v2, some v3, some v4, some (.ref pl), u5, none, none, none, none] ∧ Grow G H G' H' ∧ MKL G' H' pl ad (nums.take i) (fun _ => []) ∧ ∀ x ∈ nums.take i, H (ad x) = none) ?_ ?_ ?_
  · intro G2 H2 g2
    exact ⟨none, fun _ => pl, rfl, g1.trans g2, (MKL.new hpl0).grow g2, fun x hx => by simp at hx⟩
  · rintro Gs i d x σ' G' H' hi hx x1 x2 ⟨u5, ad, rfl, g', ml, fr⟩
    obtain ⟨n, hn, rfl⟩ := map_some hi
    have nt := not_take hnd hn
    refine s_putNewK ml x2 (ev_varV rfl) (ev_var rfl hx) nt (by rw [List.length_take]; omega) fun p G3 H3 hp b3 ml3 => ?_
    rw [← take_snoc hn] at ml3
    have e0 : setAt (fun _ : Int => ([] : List PyData)) n [] = fun _ => [] := by
      funext z
      unfold setAt
      split <;> rfl
    rw [e0] at ml3
    refine ⟨G3, x1.trans b3.gg, b3.gh, some x, _, rfl, g'.thenB hpl b3, ml3, fun y hy => ?_⟩
    by_cases e : y = n
    · rw [e, setAt_same]
      exact g'.hh.non hp
    · rw [setAt_ne e]
      rw [take_snoc hn] at hy
      rcases List.mem_append.mp hy with hy | hy
      · exact fr y hy
      · exact absurd (List.mem_singleton.mp hy) e
  rintro σ' G2 H2 x2 ⟨u5, ad, rfl, g2, ml, fr⟩
  rw [List.length_map, List.take_length] at ml fr
  obtain ⟨M, hM1, hM2, hM3⟩ : ∃ M : Nat, (M : Int) = (if (if (ns.length : Int) - 4 < 24 then (ns.length : Int) - 4 else 24) > 4 then (if (ns.length : Int) - 4 < 24 then (ns.length : Int) - 4 else 24) else 4) ∧ 4 ≤ M ∧ M ≤ 24 := by
    by_cases q1 : (ns.length : Int) - 4 < 24
    · by_cases q2 : (ns.length : Int) - 4 > 4
      · exact ⟨ns.length - 4, by rw [if_pos q1, if_pos q2]; omega, by omega, by omega⟩
      · exact ⟨4, by rw [if_pos q1, if_neg q2]; rfl, by omega, by omega⟩
    · exact ⟨24, by rw [if_neg q1, if_pos (by omega)]; rfl, by omega, by omega⟩
  refine q_forR1 (n := (M : Int)) (ed_cons (Ev.is (ev_max2 ev_int (ev_min2 ev_int (ev_op (ev_lenS (ev_var rfl ((mScript K ns).mono g2.gg h1))) ev_int rv_sub))) (by rw [hM1])) ed_nil) x2 (by omega) (fun i σ' G' H' => ∃ (u5 u6 u7 : Option V) (f : Int → List Look), σ' = [some v1, some v2, some v3, some v4, some (.ref pl), u5, u6, u7, none, none] ∧ Grow G H G' H' ∧ MKL G' H' pl ad nums (fun x => (f x).map lookD) ∧ ∀ x ∈ nums, (f x).length ≤ i ∧ ∀ l ∈ f x, LookOk rows x l) ?_ ?_ ?_
  · intro G3 H3 g3
    exact ⟨u5, none, none, fun _ => [], rfl, g2.trans g3, ml.grow g3, fun x hx => ⟨Nat.le_refl _, fun l hl => (nomatch hl)⟩⟩
  · rintro i σ' G' H' hi y2 ⟨u5, u6, u7, f, rfl, g', mk, hf⟩
    have him : i < M := by omega
    refine q_asg (m := mInt fun x => 0 ≤ x) (ev_callE (ms := [mInt fun _ => True, mD (.int (i : Int))]) (ea_cons (cell (i := 4 + i) g'.gg rfl (by omega) (Ev.is (ev_op ev_int (ev_var rfl (Dt.int _)) rv_add) (congrArg PyData.int (show (4 : Int) + (i : Int) = ((4 + i : Nat) : Int) by omega)))) (ea_cons (ev_var rfl (Dt.int _)) ea_nil)) fun G9 vs hvs => ?_) y2 fun w5 G3 H3 g3 d5 => ?_
    · obtain ⟨z1, z2, ev, hz1, hz2⟩ := AllP.inv2 hvs
      subst ev
      obtain ⟨c, rfl, _⟩ := mInt_inv hz1
      exact ⟨(c, i), by show i ≤ 1000; omega, ⟨.int c, hz2, trivial⟩, fun G v h => h⟩
    obtain ⟨num, rfl, hnum⟩ := mInt_inv d5
    have g33 := g'.trans g3
    have hm0 : 0 ≤ num % (nums.length : Int) := Int.emod_nonneg _ (by omega)
    have hm1 : num % (nums.length : Int) < nums.length := Int.emod_lt_of_pos _ (by omega)
    obtain ⟨q, eq_⟩ := Int.eq_ofNat_of_zero_le hm0
    have hq : q < nums.length := by omega
    have eg : nums[q]? = some nums[q] := List.getElem?_eq_getElem hq
    have hlm : nums[q] ∈ nums := List.getElem_mem hq
    generalize nums[q] = lk at eg hlm
    have h23 := Dt.mono g33.gg h2
    refine q_asg (ev_op (ev_var rfl h23) (ev_op (ev_var rfl (Dt.int num)) (Ev.is (ev_len (ev_var rfl h23)) (by rw [elen])) (rv_mod (by omega))) (rv_ixL (d := .int lk) (by rw [eq_]; exact at_nat (by rw [List.getElem?_map, eg]; rfl)))) g3.gh fun w7 G4 H4 g4 d7 => ?_
    obtain rfl := Dt.int_iff.mp d7
    have g34 := g33.trans g4
    have mk4 := (mk.grow g3).grow g4
    have hfl := (hf lk hlm).1
    refine s_appM (P := fun x => ∃ l : Look, x = lookD l ∧ LookOk rows lk l) (mk4.ls lk hlm) g4.gh (ev_getK mk4 g4.gh (ev_varV rfl) (ev_var rfl (Dt.int lk)) hlm) (ev_call (num, lk, nums, o, rows) ⟨kok, hn4⟩ (ea_cons (ev_var rfl (Dt.int num)) (ea_cons (ev_var rfl (Dt.int lk)) (ea_cons (ev_var rfl (Dt.mono g34.gg h3)) (ea_cons (ev_var rfl (Dt.mono g34.gg h4)) ea_nil))))) (by rw [List.length_map]; omega) fun d G5 H5 ⟨l, ed, hl⟩ b5 ml5 => ?_
    subst ed
    have mk5 := mk4.app hlm b5 ml5
    refine ⟨G5, b5.gh, some (.int num), some (.int (i : Int)), some (.int lk), setAt f lk (f lk ++ [l]), rfl, g34.thenB (fr lk hlm) b5, mk5.congr fun x hx => ?_, fun x hx => ?_⟩
    · by_cases e : x = lk
      · subst e
        rw [setAt_same, setAt_same, List.map_append]
        rfl
      · rw [setAt_ne e, setAt_ne e]
    · by_cases e : x = lk
      · subst e
        rw [setAt_same]
        refine ⟨by rw [List.length_append]; show (f x).length + 1 ≤ _; omega, fun l' hl' => ?_⟩
        rcases List.mem_append.mp hl' with hl' | hl'
        · exact (hf x hx).2 l' hl'
        · rw [List.mem_singleton.mp hl']
          exact hl
      · rw [setAt_ne e]
        exact ⟨by have := (hf x hx).1; omega, (hf x hx).2⟩
  clear ml
  rintro σ' G3 H3 x3 ⟨u5, u6, u7, f, rfl, g3, mk, hf⟩
  have hf : ∀ x ∈ nums, (f x).length ≤ 24 ∧ ∀ l ∈ f x, LookOk rows x l := fun x hx => ⟨by have := (hf x hx).1; omega, (hf x hx).2⟩
  obtain ⟨G4, g4, e4, _, dk⟩ := mk.seal g3 hpl fr
  refine q_newL g4.gh fun pd hpd' hpd0 => ?_
  have hpd : H pd = none := g4.hh.non hpd'
  have g5 : Grow G H G4 (upd H3 pd (.lst [])) := g4.mut hpd hpd0
  refine q_asg (cell (i := 2) g5.gg rfl (by omega) ev_int) g5.gh fun w9 G6 H6 g6 d9 => ?_
  obtain ⟨c0, rfl, _⟩ := mInt_inv d9
  have g56 := g5.trans g6
  refine q_forDn (ev_var rfl (Dt.mono g56.gg h2)) g56.gh (fun i σ' G' H' => ∃ (u5 : Option V) (c : Int) (ds : List Deal), σ' = [some v1, some v2, some v3, some v4, some (.ref pl), u5, u6, u7, some (.ref pd), some (.int c)] ∧ Grow G H G' H' ∧ Ex G4 G' ∧ ML G' H' pd (ds.map dealD) ∧ ds.map (·.num) = nums.take i ∧ ∀ d ∈ ds, d.looks = f d.num ∧ d.num ∈ nums) ?_ ?_ ?_
  · intro G7 H7 g7
    exact ⟨u5, c0, [], rfl, g56.trans g7, g6.gg.trans g7.gg, ((ML.new hpd0).grow g6).grow g7, rfl, fun d hd => (nomatch hd)⟩
  · rintro Gs i d x σ' G' H' hi hx x1 x2 ⟨u5, c, ds, rfl, g', ex, ml, hnm, hds⟩
    obtain ⟨n, hn, rfl⟩ := map_some hi
    have hnm' := List.mem_of_getElem? hn
    have hil := (List.getElem?_eq_some_iff.mp hn).1
    have hdl : ds.length ≤ 4 := by
      have := congrArg List.length hnm
      rw [List.length_map, List.length_take] at this
      omega
    have hm0 : 0 ≤ c % 5 := Int.emod_nonneg _ (by decide)
    have hm1 : c % 5 < 5 := Int.emod_lt_of_pos _ (by decide)
    obtain ⟨q, eq_⟩ := Int.eq_ofNat_of_zero_le hm0
    obtain ⟨lv, hlv⟩ := word_at (j := q) (by omega)
    refine q_app (d := dealD ⟨n, lv, f n⟩) ml x2 (ev_varV rfl) (ev_tup (ed_cons (ev_var rfl hx) (ed_cons (ev_op (ev_lst (ds := dS ["loose", "kept", "make", "watch", "hold"]) (ed_cons ev_str (ed_cons ev_str (ed_cons ev_str (ed_cons ev_str (ed_cons ev_str ed_nil)))))) (ev_op (ev_var rfl (Dt.int c)) ev_int (rv_mod (by decide))) (rv_ixL (by rw [eq_]; exact at_nat hlv))) (ed_cons (ev_dgetK (k := kI n) (l := nums.map fun x => (kI x, mD (.list ((f x).map lookD)))) (ev_var rfl ((mK (nums.map fun x => (kI x, mD (.list ((f x).map lookD))))).mono ex dk)) (ev_var rfl hx) (look_kI hnm')) ed_nil)))) (by rw [List.length_map]; omega) fun G7 H7 b7 ml7 => ?_
    have g7 := g'.thenB hpd b7
    refine s_asg (ev_op (ev_var rfl (Dt.int c)) ev_int (rv_fdiv (cd c (by decide) (by decide)))) g7.gh fun v G8 H8 g8 hv => ?_
    obtain rfl := Dt.int_iff.mp hv
    refine ⟨G8, (x1.trans b7.gg).trans g8.gg, g8.gh, some x, _, ds ++ [⟨n, lv, f n⟩], rfl, g7.trans g8, (ex.trans b7.gg).trans g8.gg, ?_, ?_, fun d hd => ?_⟩
    · rw [List.map_append]
      exact ml7.grow g8
    · rw [List.map_append, hnm, take_snoc hn]
      rfl
    · rcases List.mem_append.mp hd with hd | hd
      · exact hds d hd
      · rw [List.mem_singleton.mp hd]
        exact ⟨rfl, hnm'⟩
  · rintro σ' G7 H7 x7 ⟨u5, c, ds, rfl, g7, _, ml, hnm, hds⟩
    rw [List.length_map, List.take_length] at hnm
    obtain ⟨G8, g8, r8⟩ := ml.ret g7 hpd
    refine s_ret (m := mD (.list (ds.map dealD))) (ev_var rfl r8) g8.gh fun v G9 H9 g9 hv => k v G9 H9 (g8.trans g9) ⟨_, ⟨ds, rfl, hnm, fun d hd => ?_⟩, hv⟩
    obtain ⟨e1, e2⟩ := hds d hd
    rw [e1]
    exact hf d.num e2
end
end Sk
/-! Sk_unseen_keys -/
namespace Sk
open PySem PySem.Spec PyProof.Rows L2
open Evl (pss_cut tCut)
theorem put_keys (is : List Int) (k : Int) : ∃ js : List Int, putM (is.map fun i => ((.inl i : Key), mD (.bool true))) (.inl k) (mD (.bool true)) = (js.map fun i => ((.inl i : Key), mD (.bool true))) ∧ (∀ j ∈ js, j ∈ is ∨ j = k) ∧ js.length ≤ is.length + 1 := by
  unfold putM
  split
  · refine ⟨is, ?_, fun j hj => .inl hj, Nat.le_succ _⟩
    rw [List.map_map]
    refine List.map_congr_left fun j _ => ?_
    show (if (Sum.inl j : Key) = .inl k then ((.inl j : Key), mD (.bool true)) else ((.inl j : Key), mD (.bool true))) = _
    split <;> rfl
  · refine ⟨is ++ [k], by rw [List.map_append]; rfl, fun j hj => ?_, by rw [List.length_append]; exact Nat.le_refl _⟩
    rcases List.mem_append.mp hj with h | h
    · exact .inl h
    · exact .inr (List.mem_singleton.mp h)
section
variable {P : Program} {w : World} {K : PySem.W.Frag} {mg : Str → Option Value} {base : Heap}
abbrev s_unseen_keys : Stmt := top 6
abbrev N_unseen_keys : List Str := ["looks", "makers", "number", "found", "key", "source"]
theorem sc_unseen_keys : FnScope N_unseen_keys ["looks", "makers", "number"] (defScope s_unseen_keys) := ⟨rfl, rfl, rfl, by decide +kernel, rfl, by decide +kernel, by decide +kernel⟩
abbrev mUnseen (h : Hist) (d : Deal) (n : Int) : MP := mInts fun ks => (∀ k ∈ ks, ∃ s, (k, s) ∈ pairsOf d ∧ Ahead (makersOf h k) s n) ∧ ks.length ≤ 1000
abbrev sp_unseen_keys : Sp := mkSp (α := Hist × Deal × Int) (fun y => [mD (looksD y.2.1.looks), mK (mksL y.1), mD (.int y.2.2)]) (fun y => y.1.Ok ∧ y.1.Small ∧ y.2.1 ∈ y.1.deals) (fun y => mUnseen y.1 y.2.1 y.2.2)
theorem own_unseen_keys  (A : DefAt K mg "unseen_keys" s_unseen_keys []) (O_pairs_of : Own P w K mg base "pairs_of" 1 ["looks"] [] sp_pairs_of) (O_is_ahead : Own P w K mg base "is_ahead" 1 ["numbers", "source", "number"] [] sp_is_ahead) (z_sorted : mg "sorted" = none) : Own P w K mg base "unseen_keys" 2 ["looks", "makers", "number"] [] sp_unseen_keys := by
  have sc := sc_unseen_keys
  refine own_mk A sc (fun _ _ _ _ _ _ us hl => match us, hl with | [_, _, _], _ => rfl) (fun _ => rfl) fun f cdv Ar outer s H E y G vs Q hr hok hGH hv k => ?_
  match vs, hv with
  | [v1, v2, v3], ⟨h1, h2, h3, _⟩ =>
  refine ⟨_, (pss_cons (ps_set (i := 3) sc.nd rfl (Or.inl rfl) pe_dnewK)
 (pss_cons (ps_for PassesOwn.never rfl (pi_list (pe_own O_pairs_of (hr.mono (by decide)) (by rfl) (pa_cons (pv 0) pa_nil))) (pg_tup rfl (pgs_cons (pg_name (i := 4) sc.nd rfl (Or.inl rfl)) (pgs_cons (pg_name (i := 5) sc.nd rfl (Or.inl rfl)) pgs_nil))) (pss_one (ps_if (pt_val (pe_own O_is_ahead (hr.mono (by decide)) (by rfl) (pa_cons (pe_dget2 (hu_of hr) (pv 1) (pv 4) (pe_lst pa_nil) ⟨rfl, rfl, rfl, rfl⟩) (pa_cons (pv 5) (pa_cons (pv 2) pa_nil))))) (pss_one (ps_dput (hu_of hr) (pv 3) (pv 4) pe_bl rfl)) pss_nil)))
 (pss_one (ps_ret (pe_callB (cr_sortedK rfl hr.units) (by rfl) z_sorted (by decide +kernel) (pa_cons (pv 3) pa_nil)))))), ?_⟩
  obtain ⟨h, d, n⟩ := y
  obtain ⟨ok, sm, hd⟩ := hok
  have hpl : (pairsOf d).length ≤ 200 := sm.pairs d hd
  refine q_newK hGH fun pf hpf hgpf => ?_
  have e1 : Ex G (upd H pf (.dK [])) := hGH.mut hgpf
  refine q_forD (ev_call d.looks (by show d.looks.flatten.length ≤ 1000; exact Nat.le_trans hpl (by decide)) (ea_cons (ev_var rfl h1) ea_nil)) e1
    (fun i σ' G' H' => ∃ (u5 u6 : Option V) (is : List Int), σ' = [some v1, some v2, some v3, some (.ref pf), u5, u6] ∧ Grow G H G' H' ∧ MK G' H' pf (is.map fun i => ((.inl i : Key), mD (.bool true))) ∧ (∀ k ∈ is, ∃ s, (k, s) ∈ pairsOf d ∧ Ahead (makersOf h k) s n) ∧ is.length ≤ i) ?_ ?_ ?_
  · intro G1 H1 g1
    exact ⟨none, none, [], rfl, ((Grow.refl hGH).mut hpf hgpf).trans g1, (MK.new hgpf).grow g1, fun i hi => (nomatch hi), Nat.le_refl _⟩
  · rintro Gs i dd x σ' G' H' hi hx x1 x2 ⟨u5, u6, is, rfl, g', m1, a1, a2⟩
    rw [List.getElem?_map] at hi
    cases q : d.looks.flatten[i]? with
    | none =>
      rw [q] at hi
      cases hi
    | some p =>
    rw [q] at hi
    cases hi
    have hpm : p ∈ pairsOf d := List.mem_of_getElem? q
    have hil : i < 200 := by
      have := (List.getElem?_eq_some_iff.mp q).1
      unfold pairsOf at hpl
      omega
    obtain ⟨key, src⟩ := p
    refine g_2 hx x2 fun w1 w2 c1 c2 => ?_
    refine s_when (et_B (ev_call (makersOf h key, src, n) trivial (ea_cons (ev_getMks (ev_var rfl ((mK (mksL h)).mono g'.gg h2)) (ev_var rfl c1)) (ea_cons (ev_var rfl c2) (ea_cons (ev_var rfl (Dt.mono g'.gg h3)) ea_nil))))) x2 (fun hb G1 H1 g1 => ?_) fun hb G1 H1 g1 => ⟨G1, x1.trans g1.gg, g1.gh, some w1, some w2, is, rfl, g'.trans g1, m1.grow g1, a1, by omega⟩
    refine s_putK (k := .inl key) (m1.grow g1) g1.gh ev_bl (ev_varV rfl) (ev_var rfl (Dt.mono g1.gg c1)) (by rw [List.length_map]; omega) fun G2 H2 g2 m2 => ?_
    obtain ⟨js, j1, j2, j3⟩ := put_keys is key
    rw [j1] at m2
    refine ⟨G2, (x1.trans g1.gg).trans g2.gg, g2.gh, some w1, some w2, js, rfl, (g'.trans g1).thenB hpf g2, m2, fun k hk => ?_, by omega⟩
    rcases j2 k hk with r | r
    · exact a1 k r
    · rw [r]
      exact ⟨src, hpm, aheadB_ok hb⟩
  · rintro σ' G' H' x2 ⟨u5, u6, is, rfl, g', m1, a1, a2⟩
    obtain ⟨G2, g2, _, _, r2⟩ := m1.ret g' hpf
    refine s_ret (ev_sortedK (is := is) (ev_var rfl r2) (by rw [List.map_map]; rfl)) g2.gh fun v G3 H3 g3 hv => k v G3 H3 (g2.trans g3) ?_
    obtain ⟨x, ⟨js, rfl, hj⟩, hx⟩ := hv
    refine ⟨_, ⟨js, rfl, fun k hk => a1 k (hj.mem_iff.mp hk), ?_⟩, hx⟩
    have : ((d.looks.flatten.map pD).length) = (pairsOf d).length := List.length_map _
    rw [hj.length_eq]
    omega
end
end Sk
/-! Sk_skewed -/
namespace Sk
open PySem PySem.Spec PyProof.Rows L2
open Evl (pss_cut tCut)
section
variable {P : Program} {w : World} {K : PySem.W.Frag} {mg : Str → Option Value} {base : Heap}
abbrev s_skewed : Stmt := top 7
abbrev N_skewed : List Str := ["one", "other", "makers", "key", "other_key"]
theorem sc_skewed : FnScope N_skewed ["one", "other", "makers"] (defScope s_skewed) := ⟨rfl, rfl, rfl, by decide +kernel, rfl, by decide +kernel, by decide +kernel⟩
abbrev sp_skewed : Sp := mkSp (α := Hist × Deal × Deal) (fun y => [mD (dealD y.2.1), mD (dealD y.2.2), mK (mksL y.1)]) (fun y => y.1.Ok ∧ y.1.Small ∧ y.2.1 ∈ y.1.deals ∧ y.2.2 ∈ y.1.deals ∧ y.2.1.num ≠ y.2.2.num) (fun y => mIlls y.1 1)
theorem own_skewed  (A : DefAt K mg "skewed" s_skewed []) (O_unseen_keys : Own P w K mg base "unseen_keys" 2 ["looks", "makers", "number"] [] sp_unseen_keys) : Own P w K mg base "skewed" 3 ["one", "other", "makers"] [] sp_skewed := by
  have sc := sc_skewed
  refine own_mk A sc (fun _ _ _ _ _ _ us hl => match us, hl with | [_, _, _], _ => rfl) (fun _ => rfl) fun f cdv Ar outer s H E y G vs Q hr hok hGH hv k => ?_
  match vs, hv with
  | [v1, v2, v3], ⟨h1, h2, h3, _⟩ =>
  refine ⟨_, (pss_cons (ps_for PassesOwn.never rfl (pi_list (pe_own O_unseen_keys (hr.mono (by decide)) (by rfl) (pa_cons (pe_ix ix_tup (pv 0) pe_int (fun _ _ => rfl)) (pa_cons (pv 2) (pa_cons (pe_ix ix_tup (pv 1) pe_int (fun _ _ => rfl)) pa_nil))))) (pg_name (i := 3) sc.nd rfl (Or.inl rfl)) (pss_one (ps_for PassesOwn.never rfl (pi_list (pe_own O_unseen_keys (hr.mono (by decide)) (by rfl) (pa_cons (pe_ix ix_tup (pv 1) pe_int (fun _ _ => rfl)) (pa_cons (pv 2) (pa_cons (pe_ix ix_tup (pv 0) pe_int (fun _ _ => rfl)) pa_nil))))) (pg_name (i := 4) sc.nd rfl (Or.inl rfl)) (pss_one (ps_if (pt_cmpR op_ne (pv 3) (pv 4) (nomark _)) (pss_one (ps_ret (pe_lst (pa_cons (pe_tup (pa_cons pe_str (pa_cons (pe_ix ix_tup (pv 0) pe_int (fun _ _ => rfl)) (pa_cons (pe_ix ix_tup (pv 1) pe_int (fun _ _ => rfl)) (pa_cons (pv 3) (pa_cons (pv 4) pa_nil)))))) pa_nil)))) pss_nil)))))
 (pss_one (ps_ret (pe_lst pa_nil)))), ?_⟩
  obtain ⟨h, a, b⟩ := y
  obtain ⟨ok, sm, ha, hb, hne⟩ := hok
  have mk := h3
  refine q_forMs (P := fun x => ∃ ks : List Int, x = dI ks ∧ (∀ k ∈ ks, ∃ s, (k, s) ∈ pairsOf a ∧ Ahead (makersOf h k) s b.num)) (Ev.imp (ev_call (h, a, b.num) ⟨ok, sm, ha⟩ (ea_cons (ev_op (ev_var rfl h1) ev_int (rv_ixT (d := looksD a.looks) rfl)) (ea_cons (ev_var rfl mk) (ea_cons (ev_op (ev_var rfl h2) ev_int (rv_ixT (d := .int b.num) rfl)) ea_nil)))) fun G v ⟨x, ⟨ks, e, q, _⟩, hx⟩ => ⟨dI ks, ⟨ks, rfl, q⟩, by rw [e] at hx; exact hx⟩) hGH
    (fun ds i σ' G' H' => ∃ u4 u5, σ' = [some v1, some v2, some v3, u4, u5] ∧ Grow G H G' H') ?_ ?_ ?_
  · intro ds G1 H1 _ g1
    exact ⟨none, none, rfl, g1⟩
  · rintro Gs ds i d x σ' G' H' ⟨ks, rfl, q⟩ hi hx x1 x2 ⟨u4, u5, rfl, g'⟩
    rw [List.getElem?_map] at hi
    cases z : ks[i]? with
    | none =>
      rw [z] at hi
      cases hi
    | some key =>
    rw [z] at hi
    cases hi
    obtain ⟨s, hs, has⟩ := q key (List.mem_of_getElem? z)
    refine s_forMs (P := fun x => ∃ ks : List Int, x = dI ks ∧ (∀ k ∈ ks, ∃ s, (k, s) ∈ pairsOf b ∧ Ahead (makersOf h k) s a.num)) (Ev.imp (ev_call (h, b, a.num) ⟨ok, sm, hb⟩ (ea_cons (ev_op (ev_var rfl (Dt.mono g'.gg h2)) ev_int (rv_ixT (d := looksD b.looks) rfl)) (ea_cons (ev_var rfl ((mK (mksL h)).mono g'.gg mk)) (ea_cons (ev_op (ev_var rfl (Dt.mono g'.gg h1)) ev_int (rv_ixT (d := .int a.num) rfl)) ea_nil)))) fun G v ⟨x, ⟨ks, e, q, _⟩, hx⟩ => ⟨dI ks, ⟨ks, rfl, q⟩, by rw [e] at hx; exact hx⟩) x2
      (fun ds j σ' G'' H' => ∃ u5, σ' = [some v1, some v2, some v3, some x, u5] ∧ Grow G H G'' H' ∧ Ex G' G'') ?_ ?_ ?_
    · intro ds G1 H1 _ g1
      exact ⟨_, rfl, g'.trans g1, g1.gg⟩
    · rintro Gt ds j d y σ' G'' H'' ⟨ks2, rfl, q2⟩ hi2 hy y1 y2 ⟨u5, rfl, g'', y3⟩
      rw [List.getElem?_map] at hi2
      cases z2 : ks2[j]? with
      | none =>
        rw [z2] at hi2
        cases hi2
      | some key2 =>
      rw [z2] at hi2
      cases hi2
      obtain ⟨t, ht, hat⟩ := q2 key2 (List.mem_of_getElem? z2)
      refine s_when (et_test (ev_op (ev_var rfl (Dt.mono y3 hx)) (ev_var rfl hy) rv_neI)) y2 (fun hb' G1 H1 g1 => ?_) fun hb' G1 H1 g1 => ⟨G1, y1.trans g1.gg, g1.gh, some y, rfl, g''.trans g1, y3.trans g1.gg⟩
      refine s_ret (ev_lst (ed_cons (ev_tup (ed_cons ev_str (ed_cons (ev_op (ev_var rfl (Dt.mono (g''.gg.trans g1.gg) h1)) ev_int (rv_ixT (d := .int a.num) rfl)) (ed_cons (ev_op (ev_var rfl (Dt.mono (g''.gg.trans g1.gg) h2)) ev_int (rv_ixT (d := .int b.num) rfl)) (ed_cons (ev_var rfl (Dt.mono (y3.trans g1.gg) hx)) (ed_cons (ev_var rfl (Dt.mono g1.gg hy)) ed_nil)))))) ed_nil)) g1.gh fun v G2 H2 g2 hv => k v G2 H2 ((g''.trans g1).trans g2) ⟨_, ⟨[.skewed a.num b.num key key2], rfl, fun i hi => ?_, Nat.le_refl _⟩, hv⟩
      rw [List.mem_singleton.mp hi]
      exact .skewed ha hb hne hs has ht hat
    · rintro ds σ' G'' H'' _ y2 ⟨u5, rfl, g'', y3⟩
      exact ⟨G'', x1.trans y3, y2, some x, u5, rfl, g''⟩
  · rintro ds σ' G' H' _ x2 ⟨u4, u5, rfl, g'⟩
    exact s_ret (ev_lst ed_nil) x2 fun v G2 H2 g2 hv => k v G2 H2 (g'.trans g2) ⟨_, ⟨[], rfl, fun i hi => (nomatch hi), Nat.zero_le _⟩, hv⟩
end
end Sk
/-! Sk_ills -/
namespace Sk
open PySem PySem.Spec PyProof.Rows L2
open Evl (pss_cut tCut)
theorem alike_ills (es : List Ill) : PySem.W.AllAlike (es.map illD) := by
  intro d hd d' hd'
  obtain ⟨i, _, rfl⟩ := List.mem_map.mp hd
  obtain ⟨j, _, rfl⟩ := List.mem_map.mp hd'
  cases i <;> cases j <;> rfl
theorem sortable_ills (es : List Ill) : PySem.W.Sortable (es.map illD) := by
  refine .inl fun d hd => ?_
  obtain ⟨i, _, rfl⟩ := List.mem_map.mp hd
  cases i <;> exact ⟨_, _, rfl⟩
theorem flat_ills (es : List Ill) : ∀ d ∈ es.map illD, Flat3 d := by
  intro d hd
  obtain ⟨i, _, rfl⟩ := List.mem_map.mp hd
  unfold Flat3
  cases i <;> simp [illD, PyData.depth, PyData.depthAll]
theorem perm_ills {es : List Ill} {ds : List PyData} (h : ds.Perm (es.map illD)) : ∃ es' : List Ill, es'.Perm es ∧ es'.map illD = ds := perm_map_inv illD h
/-- a dict filled with a list's pairs, one key after another -/
theorem put_next {A : Type} (f : A → Key) (g : A → MP) {l : List A} (hn : (l.map f).Nodup) {i : Nat} {a : A} (h : l[i]? = some a) : putM ((l.take i).map fun a => (f a, g a)) (f a) (g a) = (l.take (i + 1)).map fun a => (f a, g a) := by
  rw [putM_new, List.take_add_one, h, List.map_append]
  · rfl
  · rw [List.map_map]
    intro hm
    obtain ⟨b, hb, e⟩ := List.mem_map.mp hm
    have e : f b = f a := e
    obtain ⟨j, hj, ej⟩ := List.mem_iff_getElem.mp hb
    have hj' : j < i := by
      rw [List.length_take] at hj
      omega
    have hi := (List.getElem?_eq_some_iff.mp h).1
    have h1 : (l.map f)[j]? = some (f a) := by
      rw [List.getElem?_map]
      rw [List.getElem_take] at ej
      rw [List.getElem?_eq_getElem (by omega), ej]
      show some (f b) = _
      rw [e]
    have h2 : (l.map f)[i]? = some (f a) := by
      rw [List.getElem?_map, h]
      rfl
    have := nd_ix hn h1 h2
    omega
theorem inl_nodup {l : List Int} (h : l.Nodup) : (l.map (Sum.inl : Int → Key)).Nodup := by
  unfold List.Nodup at h ⊢
  rw [List.pairwise_map]
  exact h.imp fun ne e => ne (Sum.inl.inj e)
section
variable {P : Program} {w : World} {K : PySem.W.Frag} {mg : Str → Option Value} {base : Heap}
abbrev s_ills : Stmt := top 8
abbrev N_ills : List Str := ["past", "deals", "makes", "makers", "key", "numbers", "found", "deal", "other"]
theorem sc_ills : FnScope N_ills ["past"] (defScope s_ills) := ⟨rfl, rfl, rfl, by decide +kernel, rfl, by decide +kernel, by decide +kernel⟩
abbrev sp_ills : Sp := mkSp (α := Hist) (fun y => [mD (histD y)]) (fun y => y.Ok ∧ y.Small) (fun y => mIlls y 10000)
theorem own_ills  (A : DefAt K mg "ills" s_ills []) (O_own_ills : Own P w K mg base "own_ills" 2 ["number", "looks", "makers"] [] sp_own_ills) (O_skewed : Own P w K mg base "skewed" 3 ["one", "other", "makers"] [] sp_skewed) (z_sorted : mg "sorted" = none) : Own P w K mg base "ills" 4 ["past"] [] sp_ills := by
  have sc := sc_ills
  refine own_mk A sc (fun _ _ _ _ _ _ us hl => match us, hl with | [_], _ => rfl) (fun _ => rfl) fun f cdv Ar outer s H E y G vs Q hr hok hGH hv k => ?_
  match vs, hv with
  | [v1], ⟨h1, _⟩ =>
  refine ⟨_, (pss_cons (ps_asg (pv 0) (pg_tup rfl (pgs_cons (pg_name (i := 1) sc.nd rfl (Or.inl rfl)) (pgs_cons (pg_name (i := 2) sc.nd rfl (Or.inl rfl)) pgs_nil))))
 (pss_cons (ps_set (i := 3) sc.nd rfl (Or.inl rfl) pe_dnewK)
 (pss_cons (ps_for PassesOwn.never rfl (pi_list (pv 2)) (pg_tup rfl (pgs_cons (pg_name (i := 4) sc.nd rfl (Or.inl rfl)) (pgs_cons (pg_name (i := 5) sc.nd rfl (Or.inl rfl)) pgs_nil))) (pss_one (ps_dput (hu_of hr) (pv 3) (pv 4) (pv 5) rfl)))
 (pss_cons (ps_set (i := 6) sc.nd rfl (Or.inl rfl) (pe_lst pa_nil))
 (pss_cons (ps_for PassesOwn.never rfl (pi_list (pv 1)) (pg_name (i := 7) sc.nd rfl (Or.inl rfl)) (pss_cons (ps_expr (pe_bm PySem.F.plainAttrs_list PySem.F.slot_list_extend PySem.F.type_list_extend mt_extend (pv 6) (pa_cons (pe_own O_own_ills (hr.mono (by decide)) (by rfl) (pa_cons (pe_ix ix_tup (pv 7) pe_int (fun _ _ => rfl)) (pa_cons (pe_ix ix_tup (pv 7) pe_int (fun _ _ => rfl)) (pa_cons (pv 3) pa_nil)))) pa_nil)))
 (pss_one (ps_for PassesOwn.never rfl (pi_list (pv 1)) (pg_name (i := 8) sc.nd rfl (Or.inl rfl)) (pss_one (ps_if (pt_cmpR op_lt (pe_ix ix_tup (pv 7) pe_int (fun _ _ => rfl)) (pe_ix ix_tup (pv 8) pe_int (fun _ _ => rfl)) (nomark _)) (pss_one (ps_expr (pe_bm PySem.F.plainAttrs_list PySem.F.slot_list_extend PySem.F.type_list_extend mt_extend (pv 6) (pa_cons (pe_own O_skewed (hr.mono (by decide)) (by rfl) (pa_cons (pv 7) (pa_cons (pv 8) (pa_cons (pv 3) pa_nil)))) pa_nil)))) pss_nil))))))
 (pss_one (ps_ret (pe_callB (cr_sortedL hr.units) (by rfl) z_sorted (by decide +kernel) (pa_cons (pv 6) pa_nil))))))))), ?_⟩
  rename_i _
  have h := y
  obtain ⟨ok, sm⟩ := hok
  refine q_2 (ev_var rfl h1) hGH fun w1 w2 G1 H1 g1 c1 c2 => ?_
  refine q_newK g1.gh fun pm hpm hgpm => ?_
  have hpm0 : H pm = none := (show Ex H H1 from g1.hh).non hpm
  refine q_forD (ev_var rfl c2) (g1.gh.mut hgpm) (fun i σ' G' H' => ∃ u4 u5, σ' = [some v1, some w1, some w2, some (.ref pm), u4, u5, none, none, none] ∧ Grow G H G' H' ∧ Ex G1 G' ∧ MK G' H' pm ((y.makes.take i).map fun km => ((.inl km.1 : Key), mD (.list (dI km.2))))) ?_ ?_ ?_
  · intro G2 H2 g2
    exact ⟨none, none, rfl, (g1.mut hpm0 hgpm).trans g2, g2.gg, (MK.new hgpm).grow g2⟩
  · rintro Gs i dd x σ' G' H' hi hx x1 x2 ⟨u4, u5, rfl, g', y1, m1⟩
    rw [List.getElem?_map] at hi
    cases q : y.makes[i]? with
    | none =>
      rw [q] at hi
      cases hi
    | some km =>
    rw [q] at hi
    cases hi
    have hil := (List.getElem?_eq_some_iff.mp q).1
    have sml := sm.makes
    refine g_2 hx x2 fun w4 w5 d1 d2 => ?_
    refine s_putK (k := .inl km.1) (m := mD (.list (dI km.2))) m1 x2 (ev_var rfl d2) (ev_varV rfl) (ev_var rfl d1) (by rw [List.length_map, List.length_take]; omega) fun G2 H2 g2 m2 => ?_
    rw [put_next (fun km : Int × List Int => (.inl km.1 : Key)) (fun km => mD (.list (dI km.2))) (by have := inl_nodup ok.knd; rw [List.map_map] at this; exact this) q] at m2
    exact ⟨G2, x1.trans g2.gg, g2.gh, some w4, some w5, rfl, g'.thenB hpm0 g2, y1.trans g2.gg, m2⟩
  · rintro σ' G2 H2 x2 ⟨u4, u5, rfl, g2, y1, m1⟩
    have e1 : (y.makes.map makeD).length = y.makes.length := List.length_map _
    rw [e1, List.take_length] at m1
    obtain ⟨G3, g3, y3, y4, mk⟩ := m1.ret g2 hpm0
    refine q_newL g3.gh fun pf hpf hgpf => ?_
    have hpf0 : H pf = none := g3.hh.non hpf
    have c1' : Dt G3 w1 (.list (y.deals.map dealD)) := c1.mono (y1.trans y3)
    have pair : ∀ i j : Nat, ∀ a b : Deal, y.deals[i]? = some a → y.deals[j]? = some b → a.num < b.num → a.num ≠ b.num := fun i j a b _ _ h => by omega
    have hbig : y.deals.length ≤ 4 := sm.deals
    refine q_forDn (ev_var rfl c1') (g3.gh.mut hgpf) (fun i σ' G' H' => ∃ u7 u8, ∃ es : List Ill, σ' = [some v1, some w1, some w2, some (.ref pm), u4, u5, some (.ref pf), u7, u8] ∧ Grow G H G' H' ∧ Ex G3 G' ∧ ML G' H' pf (es.map illD) ∧ (∀ x ∈ es, IsIll y x) ∧ es.length ≤ 1100 * i) ?_ ?_ ?_
    · intro G4 H4 g4
      exact ⟨none, none, [], rfl, (g3.mut hpf0 hgpf).trans g4, g4.gg, (ML.new hgpf).grow g4, fun i hi => (nomatch hi), Nat.zero_le _⟩
    · rintro Gs i dd x σ' G' H' hi hx x1 x2 ⟨u7, u8, es, rfl, g', z1, m1, a1, a2⟩
      rw [List.getElem?_map] at hi
      cases q : y.deals[i]? with
      | none =>
        rw [q] at hi
        cases hi
      | some a =>
      rw [q] at hi
      cases hi
      have hil := (List.getElem?_eq_some_iff.mp q).1
      have ha : a ∈ y.deals := List.mem_of_getElem? q
      -- found.extend(own_ills(..))
      refine q_extM (P := fun ds => ∃ xs : List Ill, ds = xs.map illD ∧ (∀ x ∈ xs, IsIll y x) ∧ xs.length ≤ 1000) m1 x2 (ev_varV rfl) (Ev.imp (ev_call (y, a) ⟨ok, sm, ha⟩ (ea_cons (ev_op (ev_var rfl hx) ev_int (rv_ixT (d := .int a.num) rfl)) (ea_cons (ev_op (ev_var rfl hx) ev_int (rv_ixT (d := looksD a.looks) rfl)) (ea_cons (ev_var rfl ((mK (mksL y)).mono z1 mk)) ea_nil)))) fun G v ⟨x, ⟨xs, e, q1, q2⟩, hx⟩ => ⟨_, ⟨xs, rfl, q1, q2⟩, by rw [e] at hx; exact hx⟩) (fun ds ⟨xs, e, _, q2⟩ => by rw [e, List.length_map, List.length_map]; omega) fun ds G4 H4 ⟨xs, e, q1, q2⟩ g4 m4 => ?_
      subst e
      rw [← List.map_append] at m4
      have g04 := g'.thenB hpf0 g4
      refine s_forDn (ev_var rfl (c1'.mono (z1.trans g4.gg))) g4.gh (fun j σ' G'' H'' => ∃ u8, ∃ fs : List Ill, σ' = [some v1, some w1, some w2, some (.ref pm), u4, u5, some (.ref pf), some x, u8] ∧ Grow G H G'' H'' ∧ Ex G4 G'' ∧ ML G'' H'' pf (fs.map illD) ∧ (∀ x ∈ fs, IsIll y x) ∧ fs.length ≤ 1100 * i + 1000 + j) ?_ ?_ ?_
      · intro G5 H5 g5
        refine ⟨_, es ++ xs, rfl, g04.trans g5, g5.gg, m4.grow g5, fun z hz => ?_, by rw [List.length_append]; omega⟩
        rcases List.mem_append.mp hz with r | r
        · exact a1 z r
        · exact q1 z r
      · rintro Gt j dd2 x2' σ' G'' H'' hj hx2 y1' y2' ⟨u8, fs, rfl, g'', w1', m5, b1, b2⟩
        rw [List.getElem?_map] at hj
        cases q' : y.deals[j]? with
        | none =>
          rw [q'] at hj
          cases hj
        | some b =>
        rw [q'] at hj
        cases hj
        have hb : b ∈ y.deals := List.mem_of_getElem? q'
        have hjl := (List.getElem?_eq_some_iff.mp q').1
        have hxx := Dt.mono (g4.gg.trans w1') hx
        refine s_when (et_test (ev_op (ev_op (ev_var rfl hxx) ev_int (rv_ixT (d := .int a.num) rfl)) (ev_op (ev_var rfl hx2) ev_int (rv_ixT (d := .int b.num) rfl)) rv_B0)) y2' (fun hlt G6 H6 g6 => ?_) fun hlt G6 H6 g6 => ⟨G6, y1'.trans g6.gg, g6.gh, some x2', fs, rfl, g''.trans g6, w1'.trans g6.gg, m5.grow g6, b1, by omega⟩
        have hlt : a.num < b.num := of_decide_eq_true hlt
        refine s_extM (P := fun ds => ∃ xs : List Ill, ds = xs.map illD ∧ (∀ x ∈ xs, IsIll y x) ∧ xs.length ≤ 1) (m5.grow g6) g6.gh (ev_varV rfl) (Ev.imp (ev_call (y, a, b) ⟨ok, sm, ha, hb, show a.num ≠ b.num by omega⟩ (ea_cons (ev_var rfl (Dt.mono g6.gg hxx)) (ea_cons (ev_var rfl (Dt.mono g6.gg hx2)) (ea_cons (ev_var rfl ((mK (mksL y)).mono (((z1.trans g4.gg).trans w1').trans g6.gg) mk)) ea_nil)))) fun G v ⟨x, ⟨xs, e, q1, q2⟩, hx⟩ => ⟨_, ⟨xs, rfl, q1, q2⟩, by rw [e] at hx; exact hx⟩) (fun ds ⟨xs, e, _, q2⟩ => by rw [e, List.length_map, List.length_map]; omega) fun ds G7 H7 ⟨xs2, e, p1, p2⟩ g7 m7 => ?_
        subst e
        rw [← List.map_append] at m7
        refine ⟨G7, (y1'.trans g6.gg).trans g7.gg, g7.gh, some x2', fs ++ xs2, rfl, (g''.trans g6).thenB hpf0 g7, (w1'.trans g6.gg).trans g7.gg, m7, fun z hz => ?_, by rw [List.length_append]; omega⟩
        rcases List.mem_append.mp hz with r | r
        · exact b1 z r
        · exact p1 z r
      · rintro σ' G'' H'' y2' ⟨u8, fs, rfl, g'', w1', m5, b1, b2⟩
        rw [List.length_map] at b2
        exact ⟨G'', (x1.trans g4.gg).trans w1', y2', some x, u8, fs, rfl, g'', (z1.trans g4.gg).trans w1', m5, b1, by omega⟩
    · rintro σ' G' H' x2 ⟨u7, u8, es, rfl, g', z1, m1, a1, a2⟩
      obtain ⟨G4, g4, d4⟩ := m1.ret g' hpf0
      refine s_ret (ev_sortedL (ev_var rfl d4) (alike_ills es) (sortable_ills es) (flat_ills es)) g4.gh fun v G5 H5 g5 hv => k v G5 H5 (g4.trans g5) ?_
      obtain ⟨x, ⟨ds, rfl, hp⟩, hx⟩ := hv
      obtain ⟨es', p1, p2⟩ := perm_ills hp
      rw [List.length_map] at a2
      exact ⟨_, ⟨es', by rw [p2], fun z hz => a1 z (p1.mem_iff.mp hz), by rw [p1.length_eq]; omega⟩, hx⟩
end
end Sk
/-! Sk__law_skewed -/
namespace Sk
open PySem PySem.Spec PyProof.Rows L2
open Evl (pss_cut tCut)
section
variable {P : Program} {w : World} {K : PySem.W.Frag} {mg : Str → Option Value} {base : Heap}
abbrev s__law_skewed : Stmt := top 54
abbrev N__law_skewed : List Str := ["_law_one", "_law_other", "_law_makes", "_law_found", "_law_key", "_law_second"]
theorem sc__law_skewed : FnScope N__law_skewed ["_law_one", "_law_other", "_law_makes"] (defScope s__law_skewed) := ⟨rfl, rfl, rfl, by decide +kernel, rfl, by decide +kernel, by decide +kernel⟩
abbrev sp__law_skewed : Sp := mkSp (α := Hist × Deal × Deal) (fun y => [mD (dealD y.2.1), mD (dealD y.2.2), mD (.list (y.1.makes.map makeD))]) (fun y => y.1.Ok ∧ y.1.Small ∧ y.2.1 ∈ y.1.deals ∧ y.2.2 ∈ y.1.deals ∧ y.2.1.num ≠ y.2.2.num) (fun y => mIlls y.1 1)
theorem own__law_skewed  (A : DefAt K mg "_law_skewed" s__law_skewed []) (O__law_behind : Own P w K mg base "_law_behind" 2 ["_law_looks", "_law_makes", "_law_maker"] [] sp__law_behind) (z_sorted : mg "sorted" = none) : Own P w K mg base "_law_skewed" 3 ["_law_one", "_law_other", "_law_makes"] [] sp__law_skewed := by
  have sc := sc__law_skewed
  refine own_mk A sc (fun _ _ _ _ _ _ us hl => match us, hl with | [_, _, _], _ => rfl) (fun _ => rfl) fun f cdv Ar outer s H E y G vs Q hr hok hGH hv k => ?_
  obtain ⟨v1, v2, v3, ev, h1, h2, h3⟩ := AllP.inv3 hv
  subst ev
  refine ⟨_, (pss_cons (ps_set (i := 3) sc.nd rfl (Or.inl rfl) (pe_lst pa_nil))
 (pss_cons (ps_for PassesOwn.never rfl (pi_list (pe_own O__law_behind (hr.mono (by decide)) (by rfl) (pa_cons (pe_ix ix_tup (pv 0) pe_int (fun _ _ => rfl)) (pa_cons (pv 2) (pa_cons (pe_ix ix_tup (pv 1) pe_int (fun _ _ => rfl)) pa_nil))))) (pg_name (i := 4) sc.nd rfl (Or.inl rfl)) (pss_one (ps_for PassesOwn.never rfl (pi_list (pe_own O__law_behind (hr.mono (by decide)) (by rfl) (pa_cons (pe_ix ix_tup (pv 1) pe_int (fun _ _ => rfl)) (pa_cons (pv 2) (pa_cons (pe_ix ix_tup (pv 0) pe_int (fun _ _ => rfl)) pa_nil))))) (pg_name (i := 5) sc.nd rfl (Or.inl rfl)) (pss_one (ps_if (pt_cmpR op_ne (pv 4) (pv 5) (nomark _)) (pss_one (ps_expr (pe_bm PySem.F.plainAttrs_list PySem.F.slot_list_append PySem.F.type_list_append mt_append (pv 3) (pa_cons (pe_tup (pa_cons pe_str (pa_cons (pe_ix ix_tup (pv 0) pe_int (fun _ _ => rfl)) (pa_cons (pe_ix ix_tup (pv 1) pe_int (fun _ _ => rfl)) (pa_cons (pv 4) (pa_cons (pv 5) pa_nil)))))) pa_nil)))) pss_nil)))))
 (pss_one (ps_ret (pe_slice sl_list (pe_callB (cr_sortedL hr.units) (by rfl) z_sorted (by decide +kernel) (pa_cons (pv 3) pa_nil)) po_none (po_some pe_int)))))), ?_⟩
  obtain ⟨h, a, b⟩ := y
  obtain ⟨ok, sm, ha, hb, hne⟩ := hok
  have ok : h.Ok := ok
  have sm : h.Small := sm
  have ha : a ∈ h.deals := ha
  have hb : b ∈ h.deals := hb
  have hne : a.num ≠ b.num := hne
  have h1 : Dt G v1 (dealD a) := h1
  have h2 : Dt G v2 (dealD b) := h2
  have h3 : Dt G v3 (.list (h.makes.map makeD)) := h3
  refine q_newL hGH fun pf hpf hpf0 => ?_
  have g1 : Grow G H G (upd H pf (.lst [])) := (Grow.refl hGH).mut hpf hpf0
  refine q_forMs (P := fun x => ∃ ks : List Int, x = dI ks ∧ ks.length ≤ 200 ∧ ∀ k ∈ ks, ∃ s, (k, s) ∈ pairsOf a ∧ Ahead (makersOf h k) s b.num) (Ev.imp (ev_call (h, a, b.num) ⟨ok, sm, ha⟩ (ea_cons (ev_op (ev_var rfl h1) ev_int (rv_ixT (d := looksD a.looks) rfl)) (ea_cons (ev_var rfl h3) (ea_cons (ev_op (ev_var rfl h2) ev_int (rv_ixT (d := .int b.num) rfl)) ea_nil)))) fun G v ⟨x, ⟨ks, e, q1, q2⟩, hx⟩ => ⟨dI ks, ⟨ks, rfl, q1, q2⟩, by rw [e] at hx; exact hx⟩) g1.gh
    (fun ds i σ' G' H' => ∃ (u5 u6 : Option V) (es : List Ill), σ' = [some v1, some v2, some v3, some (.ref pf), u5, u6] ∧ Grow G H G' H' ∧ ML G' H' pf (es.map illD) ∧ es.length ≤ i * 200 ∧ ∀ i ∈ es, IsIll h i) ?_ ?_ ?_
  · intro ds G2 H2 _ g2
    exact ⟨none, none, [], rfl, g1.trans g2, (ML.new hpf0).grow g2, Nat.zero_le _, fun i hi => (nomatch hi)⟩
  · rintro Gs ds i d x σ' G' H' ⟨ks, rfl, hkl, hks⟩ hi hx x1 x2 ⟨u5, u6, es, rfl, g', ml, hel, hes⟩
    obtain ⟨key, hk, rfl⟩ := map_some hi
    have hil := (List.getElem?_eq_some_iff.mp hk).1
    obtain ⟨s, hs, has⟩ := hks key (List.mem_of_getElem? hk)
    refine s_forMs (P := fun x => ∃ ks : List Int, x = dI ks ∧ ks.length ≤ 200 ∧ ∀ k ∈ ks, ∃ s, (k, s) ∈ pairsOf b ∧ Ahead (makersOf h k) s a.num) (Ev.imp (ev_call (h, b, a.num) ⟨ok, sm, hb⟩ (ea_cons (ev_op (ev_var rfl (Dt.mono g'.gg h2)) ev_int (rv_ixT (d := looksD b.looks) rfl)) (ea_cons (ev_var rfl (Dt.mono g'.gg h3)) (ea_cons (ev_op (ev_var rfl (Dt.mono g'.gg h1)) ev_int (rv_ixT (d := .int a.num) rfl)) ea_nil)))) fun G v ⟨x, ⟨ks, e, q1, q2⟩, hx⟩ => ⟨dI ks, ⟨ks, rfl, q1, q2⟩, by rw [e] at hx; exact hx⟩) x2
      (fun ds j σ' G'' H' => ∃ (u6 : Option V) (es : List Ill), σ' = [some v1, some v2, some v3, some (.ref pf), some x, u6] ∧ Grow G H G'' H' ∧ Ex G' G'' ∧ ML G'' H' pf (es.map illD) ∧ es.length ≤ i * 200 + j ∧ ∀ i ∈ es, IsIll h i) ?_ ?_ ?_
    · intro ds G2 H2 _ g2
      exact ⟨_, es, rfl, g'.trans g2, g2.gg, ml.grow g2, hel, hes⟩
    · rintro Gt ds j d y σ' G'' H'' ⟨ks2, rfl, hkl2, hks2⟩ hj hy y1 y2 ⟨u6, es, rfl, g'', ex, ml, hel, hes⟩
      obtain ⟨key2, hk2, rfl⟩ := map_some hj
      have hjl := (List.getElem?_eq_some_iff.mp hk2).1
      obtain ⟨t, ht, hat⟩ := hks2 key2 (List.mem_of_getElem? hk2)
      refine s_when (et_test (ev_op (ev_var rfl (Dt.mono ex hx)) (ev_var rfl hy) rv_neI)) y2 (fun hb' G2 H2 g2 => ?_) fun hb' G2 H2 g2 => ⟨G2, y1.trans g2.gg, g2.gh, some y, es, rfl, g''.trans g2, ex.trans g2.gg, ml.grow g2, by omega, hes⟩
      have gg2 := g''.gg.trans g2.gg
      have hb2 : i * 200 ≤ 200 * 200 := Nat.mul_le_mul_right 200 (by omega)
      refine s_app (d := illD (.skewed a.num b.num key key2)) (ml.grow g2) g2.gh (ev_varV rfl) (ev_tup (ed_cons ev_str (ed_cons (ev_op (ev_var rfl (Dt.mono gg2 h1)) ev_int (rv_ixT (d := .int a.num) rfl)) (ed_cons (ev_op (ev_var rfl (Dt.mono gg2 h2)) ev_int (rv_ixT (d := .int b.num) rfl)) (ed_cons (ev_var rfl (Dt.mono (ex.trans g2.gg) hx)) (ed_cons (ev_var rfl (Dt.mono g2.gg hy)) ed_nil)))))) (by rw [List.length_map]; omega) fun G3 H3 b3 ml3 => ?_
      refine ⟨G3, (y1.trans g2.gg).trans b3.gg, b3.gh, some y, es ++ [.skewed a.num b.num key key2], rfl, (g''.trans g2).thenB hpf b3, (ex.trans g2.gg).trans b3.gg, by rw [List.map_append]; exact ml3, by rw [List.length_append]; show es.length + 1 ≤ _; omega, fun il hil => ?_⟩
      rcases List.mem_append.mp hil with hil | hil
      · exact hes il hil
      · rw [List.mem_singleton.mp hil]
        exact .skewed ha hb hne hs has ht hat
    · rintro ds σ' G'' H'' ⟨ks2, rfl, hkl2, _⟩ y2 ⟨u6, es, rfl, g'', ex, ml, hel, hes⟩
      rw [List.length_map] at hel
      exact ⟨G'', x1.trans ex, y2, some x, u6, es, rfl, g'', ml, by rw [Nat.succ_mul]; omega, hes⟩
  · rintro ds σ' G' H' _ x2 ⟨u5, u6, es, rfl, g', ml, _, hes⟩
    obtain ⟨G2, g2, r2⟩ := ml.ret g' hpf
    refine s_ret (ev_slM (P := fun ds => ds.Perm (es.map illD)) (lo := none) (hi := some ((1 : Nat) : Int)) (ev_sortedL (ev_var rfl r2) (alike_ills es) (sortable_ills es) (flat_ills es)) eo_none (eo_some ev_int)) g2.gh fun v G3 H3 g3 ⟨x, ⟨ds, ex, fs, hp, ed⟩, hv⟩ => k v G3 H3 (g2.trans g3) ?_
    obtain ⟨es', p1, p2⟩ := perm_ills hp
    subst p2
    rw [cut_to, ← List.map_take] at ed
    refine ⟨x, ⟨es'.take 1, by rw [ex, ed], fun i hi => hes i (p1.mem_iff.mp (List.mem_of_mem_take hi)), by rw [List.length_take]; omega⟩, hv⟩
end
end Sk
/-! Sk__law_ills -/
namespace Sk
open PySem PySem.Spec PyProof.Rows L2
open Evl (pss_cut tCut)
section
variable {P : Program} {w : World} {K : PySem.W.Frag} {mg : Str → Option Value} {base : Heap}
abbrev s__law_ills : Stmt := top 55
abbrev N__law_ills : List Str := ["_law_deals_here", "_law_makes", "_law_due", "_law_k", "_law_other"]
theorem sc__law_ills : FnScope N__law_ills ["_law_deals_here", "_law_makes"] (defScope s__law_ills) := ⟨rfl, rfl, rfl, by decide +kernel, rfl, by decide +kernel, by decide +kernel⟩
abbrev sp__law_ills : Sp := mkSp (α := Hist) (fun y => [mD (.list (y.deals.map dealD)), mD (.list (y.makes.map makeD))]) (fun y => y.Ok ∧ y.Small) (fun y => mIlls y 10000)
theorem nums_ne {h : Hist} (ok : h.Ok) {i j : Nat} {a b : Deal} (ha : h.deals[i]? = some a) (hb : h.deals[j]? = some b) (hij : i ≠ j) : a.num ≠ b.num := fun e => by
  have h1 : (h.deals.map (·.num))[i]? = some a.num := by rw [List.getElem?_map, ha]; rfl
  have h2 : (h.deals.map (·.num))[j]? = some a.num := by rw [List.getElem?_map, hb, e]; rfl
  exact hij (nd_ix ok.nums h1 h2)
theorem own__law_ills  (A : DefAt K mg "_law_ills" s__law_ills []) (O__law_alone : Own P w K mg base "_law_alone" 2 ["_law_looker", "_law_looks", "_law_makes"] [] sp__law_alone) (O__law_skewed : Own P w K mg base "_law_skewed" 3 ["_law_one", "_law_other", "_law_makes"] [] sp__law_skewed) (z_range : mg "range" = none) (z_len : mg "len" = none) (z_sorted : mg "sorted" = none) : Own P w K mg base "_law_ills" 4 ["_law_deals_here", "_law_makes"] [] sp__law_ills := by
  have sc := sc__law_ills
  refine own_mk A sc (fun _ _ _ _ _ _ us hl => match us, hl with | [_, _], _ => rfl) (fun _ => rfl) fun f cdv Ar outer s H E y G vs Q hr hok hGH hv k => ?_
  obtain ⟨v1, v2, ev, h1, h2⟩ := AllP.inv2 hv
  subst ev
  refine ⟨_, (pss_cons (ps_set (i := 2) sc.nd rfl (Or.inl rfl) (pe_lst pa_nil))
 (pss_cons (ps_for PassesOwn.never rfl (pi_range1 (by rfl) z_range (pa_cons (pe_callB call_len_seq (by rfl) z_len PySem.boot_len (pa_cons (pv 0) pa_nil)) pa_nil)) (pg_name (i := 3) sc.nd rfl (Or.inl rfl)) (pss_cons (ps_set (i := 2) sc.nd rfl (Or.inl rfl) (pe_op op_cat (pv 2) (pe_own O__law_alone (hr.mono (by decide)) (by rfl) (pa_cons (pe_ix ix_tup (pe_ix ix_list (pv 0) (pv 3) (fun _ _ => rfl)) pe_int (fun _ _ => rfl)) (pa_cons (pe_ix ix_tup (pe_ix ix_list (pv 0) (pv 3) (fun _ _ => rfl)) pe_int (fun _ _ => rfl)) (pa_cons (pv 1) pa_nil))))))
 (pss_one (ps_for PassesOwn.never rfl (pi_list (pe_slice sl_list (pv 0) (po_some (pe_op op_add (pv 3) pe_int)) po_none)) (pg_name (i := 4) sc.nd rfl (Or.inl rfl)) (pss_one (ps_set (i := 2) sc.nd rfl (Or.inl rfl) (pe_op op_cat (pv 2) (pe_own O__law_skewed (hr.mono (by decide)) (by rfl) (pa_cons (pe_ix ix_list (pv 0) (pv 3) (fun _ _ => rfl)) (pa_cons (pv 4) (pa_cons (pv 1) pa_nil)))))))))))
 (pss_one (ps_ret (pe_callB (cr_sortedL hr.units) (by rfl) z_sorted (by decide +kernel) (pa_cons (pv 2) pa_nil)))))), ?_⟩
  rename_i _
  have h := y
  obtain ⟨ok, sm⟩ := hok
  have sml := sm.deals
  have h1 : Dt G v1 (.list (y.deals.map dealD)) := h1
  have h2 : Dt G v2 (.list (y.makes.map makeD)) := h2
  have elen : ((y.deals.map dealD).length : Int) = (y.deals.length : Int) := by rw [List.length_map]
  have cat : ∀ {G H : Hp} {es : List Ill} {n m : Nat}, es.length ≤ n → n ≤ 9000 → m ≤ 1000 → (∀ i ∈ es, IsIll y i) → RV rCat G H (mD (.list (es.map illD))) (mIlls y m) (mIlls y (n + m)) := fun hel hn hm hes => by
    intro a b G1 H1 g1 ha hb Q kk
    obtain ⟨x, ⟨fs, ex, hfs, hfl⟩, hb⟩ := hb
    subst ex
    refine rv_cat (by rw [List.length_map, List.length_map]; omega) a b G1 H1 g1 ha hb Q fun v G2 H2 g2 hv => kk v G2 H2 g2 ⟨_, ⟨_ ++ fs, by rw [List.map_append], fun i hi => ?_, by rw [List.length_append]; omega⟩, hv⟩
    rcases List.mem_append.mp hi with hi | hi
    · exact hes i hi
    · exact hfs i hi
  refine q_asg (ev_lst ed_nil) hGH fun v3 G1 H1 g1 c3 => ?_
  refine q_forR1 (n := (y.deals.length : Int)) (ed_cons (Ev.is (ev_len (ev_var rfl (Dt.mono g1.gg h1))) (by rw [elen])) ed_nil) g1.gh (by omega) (fun i σ' G' H' => ∃ (v3 : V) (u4 u5 : Option V) (es : List Ill), σ' = [some v1, some v2, some v3, u4, u5] ∧ Grow G H G' H' ∧ Dt G' v3 (.list (es.map illD)) ∧ es.length ≤ i * 1010 ∧ ∀ i ∈ es, IsIll y i) ?_ ?_ ?_
  · intro G2 H2 g2
    exact ⟨v3, none, none, [], rfl, g1.trans g2, Dt.mono g2.gg c3, Nat.zero_le _, fun i hi => (nomatch hi)⟩
  · rintro i σ' G' H' hi x2 ⟨v3, u4, u5, es, rfl, g', c3, hel, hes⟩
    have hil : i < y.deals.length := by omega
    have ea : y.deals[i]? = some y.deals[i] := List.getElem?_eq_getElem hil
    generalize y.deals[i] = a at ea
    have ham := List.mem_of_getElem? ea
    have dk : ∀ {σ : L2.St} {G' H' : Hp}, Ex G G' → σ[0]? = some (some v1) → σ[3]? = some (some (.int (i : Int))) → Ev (tOp (rIxL K) (tVar 0) (tVar 3)) σ G' H' (mD (dealD a)) := fun e e0 e3 => ev_op (ev_var e0 (Dt.mono e h1)) (ev_var e3 (Dt.int _)) (rv_ixL (at_nat (by rw [List.getElem?_map, ea]; rfl)))
    have hb3 : i * 1010 ≤ 4 * 1010 := Nat.mul_le_mul_right 1010 (by omega)
    refine q_asg (ev_op (ev_var rfl c3) (ev_call (y, a) ⟨ok, sm, ham⟩ (ea_cons (ev_op (dk g'.gg rfl rfl) ev_int (rv_ixT (d := .int a.num) rfl)) (ea_cons (ev_op (dk g'.gg rfl rfl) ev_int (rv_ixT (d := looksD a.looks) rfl)) (ea_cons (ev_var rfl (Dt.mono g'.gg h2)) ea_nil)))) (cat hel (by omega) (Nat.le_refl _) hes)) x2 fun w3 G2 H2 g2 ⟨x3, ⟨fs, e3, hfs, hfl⟩, d3⟩ => ?_
    subst e3
    have g22 := g'.trans g2
    refine s_forDn (ds := (y.deals.drop (i + 1)).map dealD) (Ev.is (ev_sl (ev_var rfl (Dt.mono g22.gg h1)) (lo := some ((i + 1 : Nat) : Int)) (eo_some (Ev.is (ev_op (ev_var rfl (Dt.int _)) ev_int rv_add) (congrArg PyData.int (show (i : Int) + 1 = ((i + 1 : Nat) : Int) by omega)))) eo_none) (by rw [cut_from, List.map_drop])) g2.gh
      (fun j σ'' G'' H'' => ∃ (v3 : V) (u5 : Option V) (es : List Ill), σ'' = [some v1, some v2, some v3, some (.int (i : Int)), u5] ∧ Grow G H G'' H'' ∧ Ex G2 G'' ∧ Dt G'' v3 (.list (es.map illD)) ∧ es.length ≤ i * 1010 + 1000 + j ∧ ∀ i ∈ es, IsIll y i) ?_ ?_ ?_
    · intro G3 H3 g3
      exact ⟨w3, u5, fs, rfl, g22.trans g3, g3.gg, Dt.mono g3.gg d3, hfl, hfs⟩
    · rintro Gs j dd x σ'' G'' H'' hj hx y1 y2 ⟨v3, u5, es, rfl, g'', ex, c3, hel, hes⟩
      obtain ⟨b, hb, rfl⟩ := map_some hj
      rw [List.getElem?_drop] at hb
      have hbm := List.mem_of_getElem? hb
      have hjl := (List.getElem?_eq_some_iff.mp hb).1
      refine s_asg (ev_op (ev_var rfl c3) (ev_call (y, a, b) ⟨ok, sm, ham, hbm, nums_ne ok ea hb (by omega)⟩ (ea_cons (dk g''.gg rfl rfl) (ea_cons (ev_var rfl hx) (ea_cons (ev_var rfl (Dt.mono g''.gg h2)) ea_nil)))) (cat hel (by omega) (by omega) hes)) y2 fun w G3 H3 g3 ⟨x3, ⟨fs, e3, hfs, hfl⟩, d3⟩ => ?_
      subst e3
      exact ⟨G3, y1.trans g3.gg, g3.gh, w, some x, fs, rfl, g''.trans g3, ex.trans g3.gg, d3, hfl, hfs⟩
    · rintro σ'' G'' H'' y2 ⟨v3, u5, es, rfl, g'', ex, c3, hel, hes⟩
      rw [List.length_map, List.length_drop] at hel
      exact ⟨G'', y2, v3, _, u5, es, rfl, g'', c3, by rw [Nat.succ_mul]; omega, hes⟩
  · rintro σ' G' H' x2 ⟨v3, u4, u5, es, rfl, g', c3, hel, hes⟩
    have hel : es.length ≤ y.deals.length * 1010 := hel
    have hb3 : y.deals.length * 1010 ≤ 4 * 1010 := Nat.mul_le_mul_right 1010 sml
    refine s_ret (ev_sortedL (ev_var rfl c3) (alike_ills es) (sortable_ills es) (flat_ills es)) x2 fun v G3 H3 g3 ⟨x, ⟨ds, ex, hp⟩, hv⟩ => k v G3 H3 (g'.trans g3) ?_
    obtain ⟨es', p1, p2⟩ := perm_ills hp
    exact ⟨x, ⟨es', by rw [ex, p2], fun i hi => hes i (p1.mem_iff.mp hi), by rw [p1.length_eq]; omega⟩, hv⟩
end
end Sk
/-! Sk_is_let -/
namespace Sk
open PySem PySem.Spec PyProof.Rows L2
open Evl (pss_cut tCut)
/-- the dict of the words -/
abbrev wdsL (h : Hist) : List (Key × MP) := h.deals.map fun d => ((.inl d.num : Key), mD (.str (levW d.lev)))
theorem look_deal (h : Hist) (f : Deal → MP) (k : Int) : lookM (h.deals.map fun d => ((.inl d.num : Key), f d)) (.inl k) = (dealAt h k).map f := by
  have e := lookM_map (fun d : Deal => (Sum.inl d.num : Key)) f (Sum.inl k : Key) h.deals
  refine e.trans ?_
  unfold dealAt
  congr 1
  congr 1
  funext d
  by_cases z : d.num = k
  · rw [decide_eq_true z, decide_eq_true (by rw [z])]
  · rw [decide_eq_false z, decide_eq_false (fun q => z (Sum.inl.inj q))]
theorem dealAt_num {h : Hist} {k : Int} (hk : k ∈ h.deals.map (·.num)) : ∃ d, dealAt h k = some d := by
  obtain ⟨d, hd, e⟩ := List.mem_map.mp hk
  cases q : dealAt h k with
  | some d => exact ⟨d, rfl⟩
  | none =>
    unfold dealAt at q
    have := List.find?_eq_none.mp q d hd
    simp [e] at this
theorem look_word {h : Hist} {k : Int} (hk : k ∈ h.deals.map (·.num)) : lookM (wdsL h) (.inl k) = some (mD (.str (levW (levAt h k)))) := by
  obtain ⟨d, hd⟩ := dealAt_num hk
  rw [look_deal h (fun d => mD (.str (levW d.lev))) k]
  unfold levAt
  rw [hd]
  rfl
theorem levW_low (l : Lev) : decide (levW l ∈ (["loose", "kept"] : List Str)) = l.low := by cases l <;> decide +kernel
theorem levW_alone (l : Lev) : decide (levW l ∈ (["watch", "hold"] : List Str)) = l.alone := by cases l <;> decide +kernel
theorem levW_loose (l : Lev) : decide (levW l = ("loose" : Str)) = decide (l = .loose) := by cases l <;> decide +kernel
def Ill.isSk : Ill → Bool
  | .skewed .. => true
  | _ => false
def Ill.isUn : Ill → Bool
  | .unkept .. => true
  | _ => false
theorem ill_0 (i : Ill) : ∃ k r, illD i = .tuple (.str k :: r) ∧ (decide (k = ("skewed" : Str)) = i.isSk) ∧ (decide (k = ("unkept" : Str)) = i.isUn) := by
  cases i
  · exact ⟨_, _, rfl, by show decide (("lost" : Str) = "skewed") = false; decide +kernel, by show decide (("lost" : Str) = "unkept") = false; decide +kernel⟩
  · exact ⟨_, _, rfl, by show decide (("midway" : Str) = "skewed") = false; decide +kernel, by show decide (("midway" : Str) = "unkept") = false; decide +kernel⟩
  · exact ⟨_, _, rfl, by show decide (("skewed" : Str) = "skewed") = true; decide +kernel, by show decide (("skewed" : Str) = "unkept") = false; decide +kernel⟩
  · exact ⟨_, _, rfl, by show decide (("unkept" : Str) = "skewed") = false; decide +kernel, by show decide (("unkept" : Str) = "unkept") = true; decide +kernel⟩
/-- an ill's first number -/
def Ill.one : Ill → Int
  | .lost d _ _ => d
  | .midway d _ => d
  | .skewed a _ _ _ => a
  | .unkept d _ => d
theorem ill_1 (i : Ill) : ∃ k r, illD i = .tuple (k :: .int i.one :: r) := by cases i <;> exact ⟨_, _, rfl⟩
theorem one_num (i : Ill) : i.one ∈ i.nums := by cases i <;> exact List.mem_cons_self
section
variable {P : Program} {w : World} {K : PySem.W.Frag} {mg : Str → Option Value} {base : Heap}
abbrev s_is_let : Stmt := top 9
abbrev N_is_let : List Str := ["ill", "words"]
theorem sc_is_let : FnScope N_is_let ["ill", "words"] (defScope s_is_let) := ⟨rfl, rfl, rfl, by decide +kernel, rfl, by decide +kernel, by decide +kernel⟩
abbrev sp_is_let : Sp := mkSp (α := Hist × Ill) (fun y => [mD (illD y.2), mK (wdsL y.1)]) (fun y => ∀ m ∈ y.2.nums, m ∈ y.1.deals.map (·.num)) (fun y => mD (.bool (isLet y.1 y.2)))
theorem own_is_let  (A : DefAt K mg "is_let" s_is_let [])  : Own P w K mg base "is_let" 1 ["ill", "words"] [] sp_is_let := by
  have sc := sc_is_let
  refine own_mk A sc (fun _ _ _ _ _ _ us hl => match us, hl with | [_, _], _ => rfl) (fun _ => rfl) fun f cdv Ar outer s H E y G vs Q hr hok hGH hv k => ?_
  match vs, hv with
  | [v1, v2], ⟨h1, h2, _⟩ =>
  refine ⟨_, (pss_cons (ps_if (pt_cmpR op_eq (pe_ix ix_tup (pv 0) pe_int (fun _ _ => rfl)) pe_str (nomark _)) (pss_one (ps_ret (pe_or (pe_cmpR op_notIn_seq (pe_dget (hu_of hr) (pv 1) (pe_ix ix_tup (pv 0) pe_int (fun _ _ => rfl)) (fun _ _ => rfl)) (pe_tup (pa_cons pe_str (pa_cons pe_str pa_nil))) rfl) (pe_one (pe_cmpR op_notIn_seq (pe_dget (hu_of hr) (pv 1) (pe_ix ix_tup (pv 0) pe_int (fun _ _ => rfl)) (fun _ _ => rfl)) (pe_tup (pa_cons pe_str (pa_cons pe_str pa_nil))) rfl))))) pss_nil)
 (pss_cons (ps_if (pt_cmpR op_eq (pe_ix ix_tup (pv 0) pe_int (fun _ _ => rfl)) pe_str (nomark _)) (pss_one (ps_ret (pe_cmpR op_eq (pe_dget (hu_of hr) (pv 1) (pe_ix ix_tup (pv 0) pe_int (fun _ _ => rfl)) (fun _ _ => rfl)) pe_str (nomark _)))) pss_nil)
 (pss_one (ps_ret (pe_cmpR op_in_seq (pe_dget (hu_of hr) (pv 1) (pe_ix ix_tup (pv 0) pe_int (fun _ _ => rfl)) (fun _ _ => rfl)) (pe_tup (pa_cons pe_str (pa_cons pe_str pa_nil))) rfl))))), ?_⟩
  obtain ⟨h, i⟩ := y
  obtain ⟨k0, r0, e0, es, eu⟩ := ill_0 i
  have h1' := h1
  rw [show illD (h, i).2 = illD i from rfl, e0] at h1'
  have at1 : ∀ {G' H' : Hp}, Ex G G' → Ev (tDGet (tVar 1) (tOp (rIxT K) (tVar 0) (tC (.int 1)))) (start N_is_let [v1, v2]) G' H' (mD (.str (levW (levAt h i.one)))) := fun e => by
    obtain ⟨k1, r1, e1⟩ := ill_1 i
    have h1'' := h1
    rw [show illD (h, i).2 = illD i from rfl, e1] at h1''
    exact ev_dgetK (k := .inl i.one) (ev_var rfl ((mK (wdsL h)).mono e h2)) (ev_op (ev_var rfl (Dt.mono e h1'')) ev_int (rv_ixT (d := .int i.one) (at_nat (j := 1) rfl))) (look_word (hok _ (one_num i)))
  refine q_when (et_test (ev_op (ev_op (ev_var rfl h1') ev_int (rv_ixT (d := .str k0) (at_nat (j := 0) rfl))) ev_str rv_eqS)) hGH (fun hb G1 H1 g1 => ?_) fun hb G1 H1 g1 => ?_
  · rw [es] at hb
    cases i with
    | skewed a b k1 k2 =>
      have at2 : Ev (tDGet (tVar 1) (tOp (rIxT K) (tVar 0) (tC (.int 2)))) (start N_is_let [v1, v2]) G1 H1 (mD (.str (levW (levAt h b)))) :=
        ev_dgetK (k := .inl b) (ev_var rfl ((mK (wdsL h)).mono g1.gg h2)) (ev_op (ev_var (m := mD (illD (.skewed a b k1 k2))) rfl (Dt.mono g1.gg h1)) ev_int (rv_ixT (d := .int b) rfl)) (look_word (hok _ (List.mem_cons_of_mem _ List.mem_cons_self)))
      have wh : ∀ {σ : L2.St} {G' H' : Hp}, Ev (tTup (tCons (tC (.str "watch")) (tCons (tC (.str "hold")) tNil))) σ G' H' (mD (.tuple (dS ["watch", "hold"]))) := ev_tup (ed_cons ev_str (ed_cons ev_str ed_nil))
      refine s_ret (m := mD (.bool (isLet h (.skewed a b k1 k2)))) (Ev.is (ev_orV (ev_op (at1 g1.gg) wh rv_niS) fun _ => ev_op at2 wh rv_niS) ?_) g1.gh fun v G2 H2 g2 hv => k v G2 H2 (g1.trans g2) hv
      rw [levW_alone, levW_alone]
      rfl
    | _ => cases hb
  · rw [es] at hb
    refine q_when (et_test (ev_op (ev_op (ev_var rfl (Dt.mono g1.gg h1')) ev_int (rv_ixT (d := .str k0) (at_nat (j := 0) rfl))) ev_str rv_eqS)) g1.gh (fun hb2 G2 H2 g2 => ?_) fun hb2 G2 H2 g2 => ?_
    · rw [eu] at hb2
      cases i with
      | unkept d k1 =>
        refine s_ret (m := mD (.bool (isLet h (.unkept d k1)))) (Ev.is (ev_op (at1 (g1.gg.trans g2.gg)) ev_str rv_eqS) ?_) g2.gh fun v G3 H3 g3 hv => k v G3 H3 ((g1.trans g2).trans g3) hv
        rw [levW_loose]
        rfl
      | _ => cases hb2
    · rw [eu] at hb2
      have lo : ∀ {σ : L2.St} {G' H' : Hp}, Ev (tTup (tCons (tC (.str "loose")) (tCons (tC (.str "kept")) tNil))) σ G' H' (mD (.tuple (dS ["loose", "kept"]))) := ev_tup (ed_cons ev_str (ed_cons ev_str ed_nil))
      refine s_ret (m := mD (.bool (isLet h i))) (Ev.is (ev_op (at1 (g1.gg.trans g2.gg)) lo rv_inS) ?_) g2.gh fun v G3 H3 g3 hv => k v G3 H3 ((g1.trans g2).trans g3) hv
      rw [levW_low]
      cases i with
      | lost d r k1 => rfl
      | midway d k1 => rfl
      | skewed a b k1 k2 => cases hb
      | unkept d k1 => cases hb2
end
end Sk
/-! Sk__law_let -/
namespace Sk
open PySem PySem.Spec PyProof.Rows L2
open Evl (pss_cut tCut)
theorem levW_three (l : Lev) : decide (levW l ∈ (["loose", "kept", "make"] : List Str)) = !l.alone := by cases l <;> decide +kernel
section
variable {P : Program} {w : World} {K : PySem.W.Frag} {mg : Str → Option Value} {base : Heap}
abbrev s__law_let : Stmt := top 56
abbrev N__law_let : List Str := ["_law_ill", "_law_words"]
theorem sc__law_let : FnScope N__law_let ["_law_ill", "_law_words"] (defScope s__law_let) := ⟨rfl, rfl, rfl, by decide +kernel, rfl, by decide +kernel, by decide +kernel⟩
abbrev sp__law_let : Sp := mkSp (α := Hist × Ill) (fun y => [mD (illD y.2), mK (wdsL y.1)]) (fun y => ∀ m ∈ y.2.nums, m ∈ y.1.deals.map (·.num)) (fun y => mD (.bool (isLet y.1 y.2)))
theorem own__law_let  (A : DefAt K mg "_law_let" s__law_let [])  : Own P w K mg base "_law_let" 1 ["_law_ill", "_law_words"] [] sp__law_let := by
  have sc := sc__law_let
  refine own_mk A sc (fun _ _ _ _ _ _ us hl => match us, hl with | [_, _], _ => rfl) (fun _ => rfl) fun f cdv Ar outer s H E y G vs Q hr hok hGH hv k => ?_
  match vs, hv with
  | [v1, v2], ⟨h1, h2, _⟩ =>
  refine ⟨_, (pss_cons (ps_if (pt_cmpR op_eq (pe_ix ix_tup (pv 0) pe_int (fun _ _ => rfl)) pe_str (nomark _)) (pss_one (ps_ret (pe_or (pe_cmpR op_in_seq (pe_dget (hu_of hr) (pv 1) (pe_ix ix_tup (pv 0) pe_int (fun _ _ => rfl)) (fun _ _ => rfl)) (pe_tup (pa_cons pe_str (pa_cons pe_str (pa_cons pe_str pa_nil)))) rfl) (pe_one (pe_cmpR op_in_seq (pe_dget (hu_of hr) (pv 1) (pe_ix ix_tup (pv 0) pe_int (fun _ _ => rfl)) (fun _ _ => rfl)) (pe_tup (pa_cons pe_str (pa_cons pe_str (pa_cons pe_str pa_nil)))) rfl))))) pss_nil)
 (pss_cons (ps_if (pt_cmpR op_eq (pe_ix ix_tup (pv 0) pe_int (fun _ _ => rfl)) pe_str (nomark _)) (pss_one (ps_ret (pe_cmpR op_eq (pe_dget (hu_of hr) (pv 1) (pe_ix ix_tup (pv 0) pe_int (fun _ _ => rfl)) (fun _ _ => rfl)) pe_str (nomark _)))) pss_nil)
 (pss_one (ps_ret (pe_cmpR op_in_seq (pe_dget (hu_of hr) (pv 1) (pe_ix ix_tup (pv 0) pe_int (fun _ _ => rfl)) (fun _ _ => rfl)) (pe_tup (pa_cons pe_str (pa_cons pe_str pa_nil))) rfl))))), ?_⟩
  obtain ⟨h, i⟩ := y
  obtain ⟨k0, r0, e0, es, eu⟩ := ill_0 i
  have h1' := h1
  rw [show illD (h, i).2 = illD i from rfl, e0] at h1'
  have at1 : ∀ {G' H' : Hp}, Ex G G' → Ev (tDGet (tVar 1) (tOp (rIxT K) (tVar 0) (tC (.int 1)))) (start N__law_let [v1, v2]) G' H' (mD (.str (levW (levAt h i.one)))) := fun e => by
    obtain ⟨k1, r1, e1⟩ := ill_1 i
    have h1'' := h1
    rw [show illD (h, i).2 = illD i from rfl, e1] at h1''
    exact ev_dgetK (k := .inl i.one) (ev_var rfl ((mK (wdsL h)).mono e h2)) (ev_op (ev_var rfl (Dt.mono e h1'')) ev_int (rv_ixT (d := .int i.one) (at_nat (j := 1) rfl))) (look_word (hok _ (one_num i)))
  refine q_when (et_test (ev_op (ev_op (ev_var rfl h1') ev_int (rv_ixT (d := .str k0) (at_nat (j := 0) rfl))) ev_str rv_eqS)) hGH (fun hb G1 H1 g1 => ?_) fun hb G1 H1 g1 => ?_
  · rw [es] at hb
    cases i with
    | skewed a b k1 k2 =>
      have at2 : Ev (tDGet (tVar 1) (tOp (rIxT K) (tVar 0) (tC (.int 2)))) (start N__law_let [v1, v2]) G1 H1 (mD (.str (levW (levAt h b)))) :=
        ev_dgetK (k := .inl b) (ev_var rfl ((mK (wdsL h)).mono g1.gg h2)) (ev_op (ev_var (m := mD (illD (.skewed a b k1 k2))) rfl (Dt.mono g1.gg h1)) ev_int (rv_ixT (d := .int b) rfl)) (look_word (hok _ (List.mem_cons_of_mem _ List.mem_cons_self)))
      have wh : ∀ {σ : L2.St} {G' H' : Hp}, Ev (tTup (tCons (tC (.str "loose")) (tCons (tC (.str "kept")) (tCons (tC (.str "make")) tNil)))) σ G' H' (mD (.tuple (dS ["loose", "kept", "make"]))) := ev_tup (ed_cons ev_str (ed_cons ev_str (ed_cons ev_str ed_nil)))
      refine s_ret (m := mD (.bool (isLet h (.skewed a b k1 k2)))) (Ev.is (ev_orV (ev_op (at1 g1.gg) wh rv_inS) fun _ => ev_op at2 wh rv_inS) ?_) g1.gh fun v G2 H2 g2 hv => k v G2 H2 (g1.trans g2) hv
      rw [levW_three, levW_three]
      rfl
    | _ => cases hb
  · rw [es] at hb
    refine q_when (et_test (ev_op (ev_op (ev_var rfl (Dt.mono g1.gg h1')) ev_int (rv_ixT (d := .str k0) (at_nat (j := 0) rfl))) ev_str rv_eqS)) g1.gh (fun hb2 G2 H2 g2 => ?_) fun hb2 G2 H2 g2 => ?_
    · rw [eu] at hb2
      cases i with
      | unkept d k1 =>
        refine s_ret (m := mD (.bool (isLet h (.unkept d k1)))) (Ev.is (ev_op (at1 (g1.gg.trans g2.gg)) ev_str rv_eqS) ?_) g2.gh fun v G3 H3 g3 hv => k v G3 H3 ((g1.trans g2).trans g3) hv
        rw [levW_loose]
        rfl
      | _ => cases hb2
    · rw [eu] at hb2
      have lo : ∀ {σ : L2.St} {G' H' : Hp}, Ev (tTup (tCons (tC (.str "loose")) (tCons (tC (.str "kept")) tNil))) σ G' H' (mD (.tuple (dS ["loose", "kept"]))) := ev_tup (ed_cons ev_str (ed_cons ev_str ed_nil))
      refine s_ret (m := mD (.bool (isLet h i))) (Ev.is (ev_op (at1 (g1.gg.trans g2.gg)) lo rv_inS) ?_) g2.gh fun v G3 H3 g3 hv => k v G3 H3 ((g1.trans g2).trans g3) hv
      rw [levW_low]
      cases i with
      | lost d r k1 => rfl
      | midway d k1 => rfl
      | skewed a b k1 k2 => cases hb
      | unkept d k1 => cases hb2
end
end Sk
/-! Sk_unlet -/
namespace Sk
open PySem PySem.Spec PyProof.Rows L2
open Evl (pss_cut tCut)
section
variable {P : Program} {w : World} {K : PySem.W.Frag} {mg : Str → Option Value} {base : Heap}
abbrev s_unlet : Stmt := top 10
abbrev N_unlet : List Str := ["past", "words", "number", "word", "looks", "ill"]
theorem sc_unlet : FnScope N_unlet ["past"] (defScope s_unlet) := ⟨rfl, rfl, rfl, by decide +kernel, rfl, by decide +kernel, by decide +kernel⟩
abbrev sp_unlet : Sp := mkSp (α := Hist) (fun y => [mD (histD y)]) (fun y => y.Ok ∧ y.Small ∧ ∀ i, IsIll y i → isLet y i = true) (fun y => mD (.list []))
theorem own_unlet  (A : DefAt K mg "unlet" s_unlet []) (O_ills : Own P w K mg base "ills" 4 ["past"] [] sp_ills) (O_is_let : Own P w K mg base "is_let" 1 ["ill", "words"] [] sp_is_let) : Own P w K mg base "unlet" 5 ["past"] [] sp_unlet := by
  have sc := sc_unlet
  refine own_mk A sc (fun _ _ _ _ _ _ us hl => match us, hl with | [_], _ => rfl) (fun _ => rfl) fun f cdv Ar outer s H E y G vs Q hr hok hGH hv k => ?_
  match vs, hv with
  | [v1], ⟨h1, _⟩ =>
  refine ⟨_, (pss_cons (ps_set (i := 1) sc.nd rfl (Or.inr rfl) pe_dnewK)
 (pss_cons (ps_for PassesOwn.never rfl (pi_list (pe_ix ix_tup (pv 0) pe_int (fun _ _ => rfl))) (pg_tup rfl (pgs_cons (pg_name (i := 2) sc.nd rfl (Or.inl rfl)) (pgs_cons (pg_name (i := 3) sc.nd rfl (Or.inl rfl)) (pgs_cons (pg_name (i := 4) sc.nd rfl (Or.inl rfl)) pgs_nil)))) (pss_one (ps_dput (hu_of hr) (pv 1) (pv 2) (pv 3) rfl)))
 (pss_one (ps_ret (pe_lc (own := [("ill", 5)]) (g := gName 5) rfl sc.nd (pi_list (pe_own O_ills (hr.mono (by decide)) (by rfl) (pa_cons (pv 0) pa_nil))) (blkOk_by (own := [("ill", 5)]) (N := N_unlet) (sc := defScope s_unlet) (by decide +kernel)) (fun _ _ _ _ _ => (pg_name (i := 5) sc.nd rfl (Or.inl rfl))) (fun _ _ _ _ _ => (pts_one (pt_not (pt_val (pe_own O_is_let (hr.mono (by decide)) (by rfl) (pa_cons (pv 5) (pa_cons (pv 1) pa_nil))))))) (fun _ _ _ _ _ => (pv 5))))))), ?_⟩
  obtain ⟨ok, sm, hlet⟩ := hok
  refine q_newK hGH fun pm hpm hgpm => ?_
  refine q_forD (ev_op (ev_var rfl h1) ev_int (rv_ixT (d := .list (y.deals.map dealD)) rfl)) (hGH.mut hgpm) (fun i σ' G' H' => ∃ u2 u3 u4, σ' = [some v1, some (.ref pm), u2, u3, u4, none] ∧ Grow G H G' H' ∧ MK G' H' pm ((y.deals.take i).map fun d => ((.inl d.num : Key), mD (.str (levW d.lev))))) ?_ ?_ ?_
  · intro G2 H2 g2
    exact ⟨none, none, none, rfl, ((Grow.refl hGH).mut hpm hgpm).trans g2, (MK.new hgpm).grow g2⟩
  · rintro Gs i dd x σ' G' H' hi hx x1 x2 ⟨u2, u3, u4, rfl, g', m1⟩
    rw [List.getElem?_map] at hi
    cases q : y.deals[i]? with
    | none =>
      rw [q] at hi
      cases hi
    | some a =>
    rw [q] at hi
    cases hi
    have sml := sm.deals
    have hil := (List.getElem?_eq_some_iff.mp q).1
    refine g_3 hx x2 fun w2 w3 w4 d2 d3 d4 => ?_
    refine s_putK (k := .inl a.num) (m := mD (.str (levW a.lev))) m1 x2 (ev_var rfl d3) (ev_varV rfl) (ev_var rfl d2) (by rw [List.length_map, List.length_take]; omega) fun G2 H2 g2 m2 => ?_
    rw [put_next (fun d : Deal => (.inl d.num : Key)) (fun d => mD (.str (levW d.lev))) (by have := inl_nodup ok.nums; rw [List.map_map] at this; exact this) q] at m2
    exact ⟨G2, x1.trans g2.gg, g2.gh, some w2, some w3, some w4, rfl, g'.thenB hpm g2, m2⟩
  · rintro σ' G2 H2 x2 ⟨u2, u3, u4, rfl, g2, m1⟩
    have e1 : (y.deals.map dealD).length = y.deals.length := List.length_map _
    rw [e1, List.take_length] at m1
    obtain ⟨G3, g3, y3, y4, mw⟩ := m1.ret g2 hpm
    refine s_ret (m := mDs fun x => ∃ ds es, x = .list es ∧ (∃ fs : List Ill, ds = fs.map illD ∧ ∀ i ∈ fs, IsIll y i) ∧ es = []) (ev_lcM (P0 := fun ds => ∃ fs : List Ill, ds = fs.map illD ∧ ∀ i ∈ fs, IsIll y i) (Ev.imp (m := mIlls y 10000) (ev_call y ⟨ok, sm⟩ (ea_cons (ev_var rfl (Dt.mono g3.gg h1)) ea_nil)) fun G v ⟨x, ⟨fs, e, q, _⟩, hx⟩ => ⟨x, ⟨_, e, fs, rfl, q⟩, hx⟩) (fun ds i es => es = []) (fun _ _ => rfl) (fun _ _ acc _ h => by rw [h]; exact Nat.zero_le _) ?_) g3.gh fun v G4 H4 g4 hv => k v G4 H4 (g3.trans g4) ?_
    · rintro ds i d x G' H' Q' ⟨fs, rfl, hfs⟩ hi g' hx kk
      rw [List.getElem?_map] at hi
      cases q : fs[i]? with
      | none =>
        rw [q] at hi
        cases hi
      | some il =>
      rw [q] at hi
      cases hi
      have hil := hfs il (List.mem_of_getElem? q)
      refine kk _ rfl ⟨!isLet y il, et_not (et_B (ev_call (y, il) hil.nums (ea_cons (ev_var rfl hx) (ea_cons (ev_var rfl ((mK (wdsL y)).mono g'.gg mw)) ea_nil)))), fun hb => ?_, fun _ acc h => h⟩
      have : isLet y il = true := hlet il hil
      rw [this] at hb
      cases hb
    · obtain ⟨x, ⟨ds, es, e1, _, e2⟩, hx⟩ := hv
      subst e2
      subst e1
      exact hx
end
end Sk
/-! Sk_level_of -/
namespace Sk
open PySem PySem.Spec PyProof.Rows L2
open Evl (pss_cut tCut)
section
variable {P : Program} {w : World} {K : PySem.W.Frag} {mg : Str → Option Value} {base : Heap}
abbrev s_level_of : Stmt := top 26
abbrev N_level_of : List Str := ["word"]
theorem sc_level_of : FnScope N_level_of ["word"] (defScope s_level_of) := ⟨rfl, rfl, rfl, by decide +kernel, rfl, by decide +kernel, by decide +kernel⟩
abbrev sp_level_of (CL : Lev → Addr) : Sp := mkSp (α := Lev) (fun y => [mD (.str (levW y))]) (fun _ => True) (fun y => mLev CL y)
theorem own_level_of {CL : Lev → Addr} (A : DefAt K mg "level_of" s_level_of []) (L : LevK K mg CL) : Own P w K mg base "level_of" 1 ["word"] [] (sp_level_of CL) := by
  have sc := sc_level_of
  refine own_mk A sc (fun _ _ _ _ _ _ us hl => match us, hl with | [_], _ => rfl) (fun _ => rfl) fun f cdv Ar outer s H E y G vs Q hr hok hGH hv k => ?_
  match vs, hv with
  | [v1], ⟨h1, _⟩ =>
  refine ⟨_, (pss_cons (ps_if (pt_cmpR op_eq (pv 0) pe_str (nomark _)) (pss_one (ps_ret (pe_new00 (L.new .loose) (by rfl) (L.glob .loose)))) pss_nil)
 (pss_cons (ps_if (pt_cmpR op_eq (pv 0) pe_str (nomark _)) (pss_one (ps_ret (pe_new00 (L.new .kept) (by rfl) (L.glob .kept)))) pss_nil)
 (pss_cons (ps_if (pt_cmpR op_eq (pv 0) pe_str (nomark _)) (pss_one (ps_ret (pe_new00 (L.new .make) (by rfl) (L.glob .make)))) pss_nil)
 (pss_cons (ps_if (pt_cmpR op_eq (pv 0) pe_str (nomark _)) (pss_one (ps_ret (pe_new00 (L.new .watch) (by rfl) (L.glob .watch)))) pss_nil)
 (pss_cons (ps_if (pt_cmpR op_eq (pv 0) pe_str (nomark _)) (pss_one (ps_ret (pe_new00 (L.new .hold) (by rfl) (L.glob .hold)))) pss_nil)
 (pss_one ps_never)))))), ?_⟩
  cases y with
  | loose =>
    exact q_when (b := true) (ET.is (et_test (ev_op (ev_var (m := mD (.str (levW .loose))) rfl h1) ev_str rv_eqS)) (by decide +kernel)) hGH (fun _ G1 H1 g1 => s_ret (ev_new0 (CL := CL) (lv := .loose)) g1.gh fun v G9 H9 g9 hv => k v G9 H9 (((Grow.refl hGH).trans g1).trans g9) hv) fun hb => nomatch hb
  | kept =>
    refine q_when (b := false) (ET.is (et_test (ev_op (ev_var (m := mD (.str (levW .kept))) rfl h1) ev_str rv_eqS)) (by decide +kernel)) hGH (fun hb => nomatch hb) fun _ G1 H1 g1 => ?_
    exact q_when (b := true) (ET.is (et_test (ev_op (ev_var (m := mD (.str (levW .kept))) rfl (Dt.mono g1.gg h1)) ev_str rv_eqS)) (by decide +kernel)) g1.gh (fun _ G2 H2 g2 => s_ret (ev_new0 (CL := CL) (lv := .kept)) g2.gh fun v G9 H9 g9 hv => k v G9 H9 ((((Grow.refl hGH).trans g1).trans g2).trans g9) hv) fun hb => nomatch hb
  | make =>
    refine q_when (b := false) (ET.is (et_test (ev_op (ev_var (m := mD (.str (levW .make))) rfl h1) ev_str rv_eqS)) (by decide +kernel)) hGH (fun hb => nomatch hb) fun _ G1 H1 g1 => ?_
    refine q_when (b := false) (ET.is (et_test (ev_op (ev_var (m := mD (.str (levW .make))) rfl (Dt.mono g1.gg h1)) ev_str rv_eqS)) (by decide +kernel)) g1.gh (fun hb => nomatch hb) fun _ G2 H2 g2 => ?_
    exact q_when (b := true) (ET.is (et_test (ev_op (ev_var (m := mD (.str (levW .make))) rfl (Dt.mono g2.gg (Dt.mono g1.gg h1))) ev_str rv_eqS)) (by decide +kernel)) g2.gh (fun _ G3 H3 g3 => s_ret (ev_new0 (CL := CL) (lv := .make)) g3.gh fun v G9 H9 g9 hv => k v G9 H9 (((((Grow.refl hGH).trans g1).trans g2).trans g3).trans g9) hv) fun hb => nomatch hb
  | watch =>
    refine q_when (b := false) (ET.is (et_test (ev_op (ev_var (m := mD (.str (levW .watch))) rfl h1) ev_str rv_eqS)) (by decide +kernel)) hGH (fun hb => nomatch hb) fun _ G1 H1 g1 => ?_
    refine q_when (b := false) (ET.is (et_test (ev_op (ev_var (m := mD (.str (levW .watch))) rfl (Dt.mono g1.gg h1)) ev_str rv_eqS)) (by decide +kernel)) g1.gh (fun hb => nomatch hb) fun _ G2 H2 g2 => ?_
    refine q_when (b := false) (ET.is (et_test (ev_op (ev_var (m := mD (.str (levW .watch))) rfl (Dt.mono g2.gg (Dt.mono g1.gg h1))) ev_str rv_eqS)) (by decide +kernel)) g2.gh (fun hb => nomatch hb) fun _ G3 H3 g3 => ?_
    exact q_when (b := true) (ET.is (et_test (ev_op (ev_var (m := mD (.str (levW .watch))) rfl (Dt.mono g3.gg (Dt.mono g2.gg (Dt.mono g1.gg h1)))) ev_str rv_eqS)) (by decide +kernel)) g3.gh (fun _ G4 H4 g4 => s_ret (ev_new0 (CL := CL) (lv := .watch)) g4.gh fun v G9 H9 g9 hv => k v G9 H9 ((((((Grow.refl hGH).trans g1).trans g2).trans g3).trans g4).trans g9) hv) fun hb => nomatch hb
  | hold =>
    refine q_when (b := false) (ET.is (et_test (ev_op (ev_var (m := mD (.str (levW .hold))) rfl h1) ev_str rv_eqS)) (by decide +kernel)) hGH (fun hb => nomatch hb) fun _ G1 H1 g1 => ?_
    refine q_when (b := false) (ET.is (et_test (ev_op (ev_var (m := mD (.str (levW .hold))) rfl (Dt.mono g1.gg h1)) ev_str rv_eqS)) (by decide +kernel)) g1.gh (fun hb => nomatch hb) fun _ G2 H2 g2 => ?_
    refine q_when (b := false) (ET.is (et_test (ev_op (ev_var (m := mD (.str (levW .hold))) rfl (Dt.mono g2.gg (Dt.mono g1.gg h1))) ev_str rv_eqS)) (by decide +kernel)) g2.gh (fun hb => nomatch hb) fun _ G3 H3 g3 => ?_
    refine q_when (b := false) (ET.is (et_test (ev_op (ev_var (m := mD (.str (levW .hold))) rfl (Dt.mono g3.gg (Dt.mono g2.gg (Dt.mono g1.gg h1)))) ev_str rv_eqS)) (by decide +kernel)) g3.gh (fun hb => nomatch hb) fun _ G4 H4 g4 => ?_
    exact q_when (b := true) (ET.is (et_test (ev_op (ev_var (m := mD (.str (levW .hold))) rfl (Dt.mono g4.gg (Dt.mono g3.gg (Dt.mono g2.gg (Dt.mono g1.gg h1))))) ev_str rv_eqS)) (by decide +kernel)) g4.gh (fun _ G5 H5 g5 => s_ret (ev_new0 (CL := CL) (lv := .hold)) g5.gh fun v G9 H9 g9 hv => k v G9 H9 (((((((Grow.refl hGH).trans g1).trans g2).trans g3).trans g4).trans g5).trans g9) hv) fun hb => nomatch hb
end
end Sk
/-! Sk_levels_for -/
namespace Sk
open PySem PySem.Spec PyProof.Rows L2
open Evl (pss_cut tCut)
theorem look_lev {CL : Lev → Addr} {h : Hist} {w : Option Lev} {d : Deal} (ok : h.Ok) (hd : d ∈ h.deals) : lookM (levL CL h w) (.inl d.num) = some (mLev CL (lvOf w d)) := by
  rw [look_deal h (fun d => mLev CL (lvOf w d)) d.num, dealAt_of ok hd]
  rfl
theorem look_keep {h : Hist} {w : Option Lev} {m : Int} (hm : m ∈ h.deals.map (·.num)) : lookM (keepL h w) (.inl m) = some (mD (pD (keepAt h w m))) := by
  obtain ⟨d, hd⟩ := dealAt_num hm
  rw [look_deal h (fun d => mD (pD (keepOf w d))) m]
  unfold keepAt
  rw [hd]
  rfl
theorem look_first {h : Hist} {w : Option Lev} {m : Int} (hm : m ∈ h.deals.map (·.num)) : lookM (firstL h w) (.inl m) = some (mD (pD (firstAt h w m))) := by
  obtain ⟨d, hd⟩ := dealAt_num hm
  rw [look_deal h (fun d => mD (pD (firstOf w d))) m]
  unfold firstAt
  rw [hd]
  rfl
theorem nums_inl {h : Hist} (ok : h.Ok) : (h.deals.map fun d => (Sum.inl d.num : Key)).Nodup := by
  have := inl_nodup ok.nums
  rw [List.map_map] at this
  exact this
theorem spots_le (l : Lev) (n : Nat) : l.nSpots n ≤ n + 2 := by
  cases l <;> simp [Lev.nSpots]
theorem looks_len {h : Hist} (sm : h.Small) {d : Deal} (hd : d ∈ h.deals) : d.looks.length ≤ 30 := sm.looks d hd
section
variable {P : Program} {w : World} {K : PySem.W.Frag} {mg : Str → Option Value} {base : Heap}
abbrev s_levels_for : Stmt := top 29
abbrev N_levels_for : List Str := ["history", "word", "found", "number", "own", "looks"]
theorem sc_levels_for : FnScope N_levels_for ["history", "word"] (defScope s_levels_for) := ⟨rfl, rfl, rfl, by decide +kernel, rfl, by decide +kernel, by decide +kernel⟩
abbrev sp_levels_for (CL : Lev → Addr) : Sp := mkSp (α := Hist × Option Lev) (fun y => [mD (histD y.1), mD (wD y.2)]) (fun y => y.1.Ok ∧ y.1.Small) (fun y => mK (levL CL y.1 y.2))
theorem own_levels_for {CL : Lev → Addr} (A : DefAt K mg "levels_for" s_levels_for []) (O_level_of : Own P w K mg base "level_of" 1 ["word"] [] (sp_level_of CL)) : Own P w K mg base "levels_for" 2 ["history", "word"] [] (sp_levels_for CL) := by
  have sc := sc_levels_for
  refine own_mk A sc (fun _ _ _ _ _ _ us hl => match us, hl with | [_, _], _ => rfl) (fun _ => rfl) fun f cdv Ar outer s H E y G vs Q hr hok hGH hv k => ?_
  match vs, hv with
  | [v1, v2], ⟨h1, h2, _⟩ =>
  refine ⟨_, (pss_cons (ps_if (pt_cmpR op_notN1 (pv 1) pe_non (nomark _)) (pss_one (ps_expr (pe_own O_level_of (hr.mono (by decide)) (by rfl) (pa_cons (pv 1) pa_nil)))) pss_nil)
 (pss_cons (ps_set (i := 2) sc.nd rfl (Or.inl rfl) pe_dnewK)
 (pss_cons (ps_for PassesOwn.never rfl (pi_list (pe_ix ix_tup (pv 0) pe_int (fun _ _ => rfl))) (pg_tup rfl (pgs_cons (pg_name (i := 3) sc.nd rfl (Or.inl rfl)) (pgs_cons (pg_name (i := 4) sc.nd rfl (Or.inl rfl)) (pgs_cons (pg_name (i := 5) sc.nd rfl (Or.inl rfl)) pgs_nil)))) (pss_one (ps_if (pt_cmpR op_isN1 (pv 1) pe_non (nomark _)) (pss_one (ps_dput (hu_of hr) (pv 2) (pv 3) (pe_own O_level_of (hr.mono (by decide)) (by rfl) (pa_cons (pv 4) pa_nil)) rfl)) (pss_one (ps_dput (hu_of hr) (pv 2) (pv 3) (pe_own O_level_of (hr.mono (by decide)) (by rfl) (pa_cons (pv 1) pa_nil)) rfl)))))
 (pss_one (ps_ret (pv 2)))))), ?_⟩
  obtain ⟨h, wd⟩ := y
  obtain ⟨ok, sm⟩ := hok
  have ok : h.Ok := ok
  have sm : h.Small := sm
  have h1 : Dt G v1 (histD h) := h1
  have h2 : Dt G v2 (wD wd) := h2
  refine q_whenJ (b := !isNon (wD wd)) (et_test (ev_op (ev_var rfl h2) ev_non rv_notN)) hGH (fun hb G1 H1 g1 N hN => ?_) fun G1 H1 g1 => ?_
  · cases wd with
    | none => cases hb
    | some lv => exact s_drop (ev_call lv trivial (ea_cons (ev_var rfl (Dt.mono g1.gg h2)) ea_nil)) g1.gh fun v G2 H2 g2 _ => hN G2 H2 g2
  refine q_newK g1.gh fun pm hpm' hgpm => ?_
  have hpm : H pm = none := g1.hh.non hpm'
  have g1' : Grow G H G1 (upd H1 pm (.dK [])) := g1.mut hpm hgpm
  refine q_forD (ev_op (ev_var rfl (Dt.mono g1.gg h1)) ev_int (rv_ixT (d := .list (h.deals.map dealD)) rfl)) g1'.gh (fun i σ' G' H' => ∃ u2 u3 u4, σ' = [some v1, some v2, some (.ref pm), u2, u3, u4] ∧ Grow G H G' H' ∧ MK G' H' pm ((h.deals.take i).map fun d => ((.inl d.num : Key), mLev CL (lvOf wd d)))) ?_ ?_ ?_
  · intro G2 H2 g2
    exact ⟨none, none, none, rfl, g1'.trans g2, (MK.new hgpm).grow g2⟩
  · rintro Gs i dd x σ' G' H' hi hx x1 x2 ⟨u2, u3, u4, rfl, g', m1⟩
    obtain ⟨a, q, rfl⟩ := map_some hi
    have hil := (List.getElem?_eq_some_iff.mp q).1
    have sml := sm.deals
    have put : ∀ {G2 H2 G3 H3 : Hp} {w2 w3 w4 : V}, Ex Gs G3 → Grow G H G3 H3 → MK G3 H3 pm (putM ((h.deals.take i).map fun d => ((.inl d.num : Key), mLev CL (lvOf wd d))) (.inl a.num) (mLev CL (lvOf wd a))) → PvE Gs (fun i σ' G' H' => ∃ u2 u3 u4, σ' = [some v1, some v2, some (.ref pm), u2, u3, u4] ∧ Grow G H G' H' ∧ MK G' H' pm ((h.deals.take i).map fun d => ((.inl d.num : Key), mLev CL (lvOf wd d)))) (i + 1) [some v1, some v2, some (.ref pm), some w2, some w3, some w4] H3 :=
      fun e g m => ⟨_, e, g.gh, _, _, _, rfl, g, by rw [put_next (fun d : Deal => (.inl d.num : Key)) (fun d => mLev CL (lvOf wd d)) (nums_inl ok) q] at m; exact m⟩
    refine g_3 hx x2 fun w2 w3 w4 d2 d3 d4 => ?_
    refine s_if (b := isNon (wD wd)) (et_test (ev_op (ev_var rfl (Dt.mono g'.gg h2)) ev_non rv_isN)) x2 (fun hb G2 H2 g2 => ?_) fun hb G2 H2 g2 => ?_
    · cases wd with
      | some lv => cases hb
      | none =>
        exact s_putK (k := .inl a.num) (m := mLev CL a.lev) (m1.grow g2) g2.gh (ev_call a.lev trivial (ea_cons (ev_var rfl (Dt.mono g2.gg d3)) ea_nil)) (ev_varV rfl) (ev_var rfl (Dt.mono g2.gg d2)) (by rw [List.length_map, List.length_take]; omega) fun G3 H3 b3 m3 => put (G2 := G2) (H2 := H2) ((x1.trans g2.gg).trans b3.gg) ((g'.trans g2).thenB hpm b3) m3
    · cases wd with
      | none => cases hb
      | some lv =>
        exact s_putK (k := .inl a.num) (m := mLev CL lv) (m1.grow g2) g2.gh (ev_call lv trivial (ea_cons (ev_var rfl (Dt.mono (g'.gg.trans g2.gg) h2)) ea_nil)) (ev_varV rfl) (ev_var rfl (Dt.mono g2.gg d2)) (by rw [List.length_map, List.length_take]; omega) fun G3 H3 b3 m3 => put (G2 := G2) (H2 := H2) ((x1.trans g2.gg).trans b3.gg) ((g'.trans g2).thenB hpm b3) m3
  · rintro σ' G2 H2 x2 ⟨u2, u3, u4, rfl, g2, m1⟩
    rw [List.length_map, List.take_length] at m1
    obtain ⟨G3, g3, _, _, mw⟩ := m1.ret g2 hpm
    exact s_ret (m := mK (levL CL h wd)) (ev_var rfl mw) g3.gh fun v G4 H4 g4 hv => k v G4 H4 (g3.trans g4) hv
end
end Sk
/-! Sk__law_fine -/
namespace Sk
open PySem PySem.Spec PyProof.Rows L2
open Evl (pss_cut tCut)
section
variable {P : Program} {w : World} {K : PySem.W.Frag} {mg : Str → Option Value} {base : Heap}
abbrev s__law_fine : Stmt := top 57
abbrev N__law_fine : List Str := ["_law_answer", "_law_deals_here", "_law_makes", "_law_words", "_law_number", "_law_word", "_law_looks", "_law_ill"]
theorem sc__law_fine : FnScope N__law_fine ["_law_answer", "_law_deals_here", "_law_makes"] (defScope s__law_fine) := ⟨rfl, rfl, rfl, by decide +kernel, rfl, by decide +kernel, by decide +kernel⟩
abbrev sp__law_fine : Sp := mkSp (α := Hist) (fun y => [mDs fun x => ∃ (s : Str) (a : PyData) (r : List PyData), x = .tuple (.str s :: a :: r) ∧ (s = ("order" : Str) → ∀ i, IsIll y i → isLet y i = true), mD (.list (y.deals.map dealD)), mD (.list (y.makes.map makeD))]) (fun y => y.Ok ∧ y.Small) (fun _ => mD (.bool true))
theorem own__law_fine  (A : DefAt K mg "_law_fine" s__law_fine []) (O__law_ills : Own P w K mg base "_law_ills" 4 ["_law_deals_here", "_law_makes"] [] sp__law_ills) (O__law_let : Own P w K mg base "_law_let" 1 ["_law_ill", "_law_words"] [] sp__law_let) (O_unlet : Own P w K mg base "unlet" 5 ["past"] [] sp_unlet) (z_len : mg "len" = none) (z_isinstance : mg "isinstance" = none) (z_tuple : mg "tuple" = none) : Own P w K mg base "_law_fine" 6 ["_law_answer", "_law_deals_here", "_law_makes"] [] sp__law_fine := by
  have sc := sc__law_fine
  refine own_mk A sc (fun _ _ _ _ _ _ us hl => match us, hl with | [_, _, _], _ => rfl) (fun _ => rfl) fun f cdv Ar outer s H E y G vs Q hr hok hGH hv k => ?_
  obtain ⟨v1, v2, v3, ev, h1, h2, h3⟩ := AllP.inv3 hv
  subst ev
  refine ⟨_, (pss_cons (ps_if (PW.pt (pw_or (pt_not (pt_val (pe_callB call_isi (by rfl) z_isinstance (by decide +kernel) (pa_cons (pv 0) (pa_cons (pe_bltn (v := .ty "tuple") (by rfl) z_tuple (by decide +kernel) rfl) pa_nil))))) (pw_or1 (pt_cmpR op_lt (pe_callB call_len_seq (by rfl) z_len PySem.boot_len (pa_cons (pv 0) pa_nil)) pe_int (nomark _))))) (pss_one (ps_ret pe_bl)) pss_nil)
 (pss_cons (ps_if (pt_cmpR op_ne (pe_ix ix_tup (pv 0) pe_int (fun _ _ => rfl)) pe_str (nomark _)) (pss_one (ps_ret pe_bl)) pss_nil)
 (pss_cons (ps_set (i := 3) sc.nd rfl (Or.inl rfl) pe_dnewK)
 (pss_cons (ps_for PassesOwn.never rfl (pi_list (pv 1)) (pg_tup rfl (pgs_cons (pg_name (i := 4) sc.nd rfl (Or.inl rfl)) (pgs_cons (pg_name (i := 5) sc.nd rfl (Or.inl rfl)) (pgs_cons (pg_name (i := 6) sc.nd rfl (Or.inl rfl)) pgs_nil)))) (pss_one (ps_dput (hu_of hr) (pv 3) (pv 4) (pv 5) rfl)))
 (pss_cons (ps_for PassesOwn.never rfl (pi_list (pe_own O__law_ills (hr.mono (by decide)) (by rfl) (pa_cons (pv 1) (pa_cons (pv 2) pa_nil)))) (pg_name (i := 7) sc.nd rfl (Or.inl rfl)) (pss_one (ps_if (pt_not (pt_val (pe_own O__law_let (hr.mono (by decide)) (by rfl) (pa_cons (pv 7) (pa_cons (pv 3) pa_nil))))) (pss_one (ps_ret pe_bl)) pss_nil)))
 (pss_one (ps_ret (pe_cmpR (op_eqD hr.units) (pe_own O_unlet (hr.mono (by decide)) (by rfl) (pa_cons (pe_tup (pa_cons (pv 1) (pa_cons (pv 2) pa_nil))) pa_nil)) (pe_lst pa_nil) (nomark _))))))))), ?_⟩
  obtain ⟨ok, sm⟩ := hok
  have sml := sm.deals
  obtain ⟨x1, ⟨s, a, r, ex1, hord⟩, h1⟩ := h1
  subst ex1
  have h2 : Dt G v2 (.list (y.deals.map dealD)) := h2
  have h3 : Dt G v3 (.list (y.makes.map makeD)) := h3
  refine q_when (b := false) (ET.is (et_or (c := false) (et_not (et_test (ev_isT (ev_var rfl h1)))) fun _ => ET.is (et_test (ev_op (ev_lenT (ev_var rfl h1)) ev_int rv_B0)) (by
    rw [decide_eq_false_iff_not]
    show ¬ (((PyData.str s :: a :: r).length : Int) < 2)
    rw [List.length_cons, List.length_cons]
    omega)) rfl) hGH (fun hb => nomatch hb) fun _ G1 H1 g1 => ?_
  refine q_when (et_test (ev_op (ev_op (ev_var rfl (Dt.mono g1.gg h1)) ev_int (rv_ixT (d := .str s) (at_nat (j := 0) rfl))) ev_str rv_neS)) g1.gh (fun _ G2 H2 g2 => s_ret ev_bl g2.gh fun v G3 H3 g3 hv => k v G3 H3 ((g1.trans g2).trans g3) hv) fun hb G2 H2 g2 => ?_
  have hs : s = ("order" : Str) := by
    rw [Bool.not_eq_false'] at hb
    exact of_decide_eq_true hb
  have hlet := hord hs
  have g12 := g1.trans g2
  refine q_newK g2.gh fun pm hpm' hpm0 => ?_
  have hpm : H pm = none := g12.hh.non hpm'
  have g3 : Grow G H G2 (upd H2 pm (.dK [])) := g12.mut hpm hpm0
  refine q_forD (ev_var rfl (Dt.mono g12.gg h2)) g3.gh (fun i σ' G' H' => ∃ u5 u6 u7, σ' = [some v1, some v2, some v3, some (.ref pm), u5, u6, u7, none] ∧ Grow G H G' H' ∧ MK G' H' pm ((y.deals.take i).map fun d => ((.inl d.num : Key), mD (.str (levW d.lev))))) ?_ ?_ ?_
  · intro G4 H4 g4
    exact ⟨none, none, none, rfl, g3.trans g4, (MK.new hpm0).grow g4⟩
  · rintro Gs i dd x σ' G' H' hi hx x1 x2 ⟨u5, u6, u7, rfl, g', m1⟩
    obtain ⟨d, q, rfl⟩ := map_some hi
    have hil := (List.getElem?_eq_some_iff.mp q).1
    refine g_3 hx x2 fun w5 w6 w7 d5 d6 d7 => ?_
    refine s_putK (k := .inl d.num) (m := mD (.str (levW d.lev))) m1 x2 (ev_var rfl d6) (ev_varV rfl) (ev_var rfl d5) (by rw [List.length_map, List.length_take]; omega) fun G5 H5 b5 m5 => ?_
    rw [put_next (fun d : Deal => (.inl d.num : Key)) (fun d => mD (.str (levW d.lev))) (nums_inl ok) q] at m5
    exact ⟨G5, x1.trans b5.gg, b5.gh, some w5, some w6, some w7, rfl, g'.thenB hpm b5, m5⟩
  rintro σ' G4 H4 x4 ⟨u5, u6, u7, rfl, g4, m1⟩
  rw [List.length_map, List.take_length] at m1
  obtain ⟨G5, g5, e5, _, mw⟩ := m1.ret g4 hpm
  have mw : (mK (wdsL y)).p G5 (.ref pm) := mw
  refine q_forMs (P := fun ds => ∃ fs : List Ill, ds = fs.map illD ∧ ∀ i ∈ fs, IsIll y i) (Ev.imp (m := mIlls y 10000) (ev_call y ⟨ok, sm⟩ (ea_cons (ev_var rfl (Dt.mono g5.gg h2)) (ea_cons (ev_var rfl (Dt.mono g5.gg h3)) ea_nil))) fun G v ⟨x, ⟨fs, e, q, _⟩, hx⟩ => ⟨fs.map illD, ⟨fs, rfl, q⟩, by rw [e] at hx; exact hx⟩) g5.gh
    (fun ds i σ' G' H' => ∃ u8, σ' = [some v1, some v2, some v3, some (.ref pm), u5, u6, u7, u8] ∧ Grow G H G' H' ∧ Ex G5 G') ?_ ?_ ?_
  · intro ds G6 H6 _ g6
    exact ⟨none, rfl, g5.trans g6, g6.gg⟩
  · rintro Gs ds i d x σ' G' H' ⟨fs, rfl, hfs⟩ hi hx x1 x2 ⟨u8, rfl, g', ex⟩
    obtain ⟨il, q, rfl⟩ := map_some hi
    have hil := hfs il (List.mem_of_getElem? q)
    have hl : isLet y il = true := hlet il hil
    refine s_when (b := false) (ET.is (et_not (et_test (ev_call (y, il) hil.nums (ea_cons (ev_var rfl hx) (ea_cons (ev_var rfl ((mK (wdsL y)).mono ex mw)) ea_nil))))) (by show (!isLet y il) = false; rw [hl]; rfl)) x2 (fun hb => nomatch hb) fun _ G6 H6 g6 => ⟨G6, x1.trans g6.gg, g6.gh, some x, rfl, g'.trans g6, ex.trans g6.gg⟩
  · rintro ds σ' G' H' _ x2 ⟨u8, rfl, g', ex⟩
    refine s_ret (m := mD (.bool true)) (Ev.is (ev_op (ev_call y ⟨ok, sm, hlet⟩ (ea_cons (ev_tup (ed_cons (ev_var rfl (Dt.mono g'.gg h2)) (ed_cons (ev_var rfl (Dt.mono g'.gg h3)) ed_nil))) ea_nil)) (ev_lst ed_nil) (rv_eqD (shaped_nodes []) (shaped_nodes []))) (by rw [eqv_nilL]; rfl)) x2 fun v G3 H3 g3 hv => k v G3 H3 (g'.trans g3) hv
end
end Sk
/-! Sk_pair_edges -/
namespace Sk
open PySem PySem.Spec PyProof.Rows L2
open Evl (pss_cut tCut)
section
variable {P : Program} {w : World} {K : PySem.W.Frag} {mg : Str → Option Value} {base : Heap}
abbrev s_pair_edges : Stmt := top 32
abbrev N_pair_edges : List Str := ["spot", "key", "source", "makers", "keeps", "found", "ahead", "maker"]
theorem sc_pair_edges : FnScope N_pair_edges ["spot", "key", "source", "makers", "keeps"] (defScope s_pair_edges) := ⟨rfl, rfl, rfl, by decide +kernel, rfl, by decide +kernel, by decide +kernel⟩
abbrev sp_pair_edges : Sp := mkSp (α := Hist × Option Lev × Node × Int × Int) (fun y => [mD (pD y.2.2.1), mD (.int y.2.2.2.1), mD (.int y.2.2.2.2), mD (.list (dI (makersOf y.1 y.2.2.2.1))), mK (keepL y.1 y.2.1)]) (fun y => y.1.Ok ∧ y.1.Small) (fun y => mD (.list ((pairE (keepAt y.1 y.2.1) y.2.2.1 y.2.2.2.1 y.2.2.2.2 (decide (0 < y.2.2.2.2)) (makersOf y.1 y.2.2.2.1)).map edgeD)))
theorem own_pair_edges  (A : DefAt K mg "pair_edges" s_pair_edges [])  : Own P w K mg base "pair_edges" 1 ["spot", "key", "source", "makers", "keeps"] [] sp_pair_edges := by
  have sc := sc_pair_edges
  refine own_mk A sc (fun _ _ _ _ _ _ us hl => match us, hl with | [_, _, _, _, _], _ => rfl) (fun _ => rfl) fun f cdv Ar outer s H E y G vs Q hr hok hGH hv k => ?_
  match vs, hv with
  | [v1, v2, v3, v4, v5], ⟨h1, h2, h3, h4, h5, _⟩ =>
  refine ⟨_, (pss_cons (ps_set (i := 5) sc.nd rfl (Or.inl rfl) (pe_lst pa_nil))
 (pss_cons (ps_set (i := 6) sc.nd rfl (Or.inl rfl) (pe_cmpR op_gt (pv 2) pe_int (nomark _)))
 (pss_cons (ps_for PassesOwn.never rfl (pi_list (pv 3)) (pg_name (i := 7) sc.nd rfl (Or.inl rfl)) (pss_cut (ps_if (pt_cmpR op_ne (pv 7) (pe_ix ix_tup (pv 0) pe_int (fun _ _ => rfl)) (nomark _)) (pss_one (ps_if (pt_val (pv 6)) (pss_one (ps_expr (pe_bm PySem.F.plainAttrs_list PySem.F.slot_list_append PySem.F.type_list_append mt_append (pv 5) (pa_cons (pe_tup (pa_cons (pe_dget (hu_of hr) (pv 4) (pv 7) (fun _ _ => rfl)) (pa_cons (pv 0) (pa_cons pe_str (pa_cons (pv 1) pa_nil))))) pa_nil)))) (pss_one (ps_expr (pe_bm PySem.F.plainAttrs_list PySem.F.slot_list_append PySem.F.type_list_append mt_append (pv 5) (pa_cons (pe_tup (pa_cons (pv 0) (pa_cons (pe_dget (hu_of hr) (pv 4) (pv 7) (fun _ _ => rfl)) (pa_cons pe_str (pa_cons (pv 1) pa_nil))))) pa_nil)))))) pss_nil)
 (pss_one (ps_if (pt_cmpR op_eq (pv 7) (pv 2) (nomark _)) (pss_one (ps_set (i := 6) sc.nd rfl (Or.inl rfl) pe_bl)) pss_nil))))
 (pss_one (ps_ret (pv 5)))))), ?_⟩
  obtain ⟨h, wd, spot, key, src⟩ := y
  obtain ⟨ok, sm⟩ := hok
  have ok : h.Ok := ok
  have sm : h.Small := sm
  have hm4 : (makersOf h key).length ≤ 4 := sm.makersOf key
  have hmn : ∀ m ∈ makersOf h key, m ∈ h.deals.map (·.num) := fun m hm => makers_num ok hm
  have h5 : (mK (keepL h wd)).p G v5 := h5
  have h1 : Dt G v1 (pD spot) := h1
  have h4 : Dt G v4 (.list (dI (makersOf h key))) := h4
  generalize makersOf h key = ms at hm4 hmn h4 k
  refine q_newL hGH fun pf hpf hpf0 => ?_
  have g1 : Grow G H G (upd H pf (.lst [])) := (Grow.refl hGH).mut hpf hpf0
  refine q_asg (ev_op (ev_var rfl h3) ev_int rv_B0) g1.gh fun v7 G2 H2 g2 c7 => ?_
  obtain rfl := Dt.bl_iff.mp c7
  have g12 := g1.trans g2
  refine q_forDn (ev_var rfl (Dt.mono g12.gg h4)) g12.gh (fun i σ' G' H' => ∃ b u7 es, σ' = [some v1, some v2, some v3, some v4, some v5, some (.ref pf), some (.bl b), u7] ∧ Grow G H G' H' ∧ ML G' H' pf (es.map edgeD) ∧ es.length ≤ i ∧ pairE (keepAt h wd) spot key src (decide (0 < src)) ms = es ++ pairE (keepAt h wd) spot key src b (ms.drop i)) ?_ ?_ ?_
  · intro G3 H3 g3
    exact ⟨_, none, [], rfl, g12.trans g3, ((ML.new hpf0).grow g2).grow g3, Nat.le_refl _, by simp⟩
  · rintro Gs i d x σ' G' H' hi hx x1 x2 ⟨b, u7, es, rfl, g', ml, hle, heq⟩
    obtain ⟨m, hm, rfl⟩ := map_some hi
    obtain ⟨hil, em⟩ := List.getElem?_eq_some_iff.mp hm
    have hmm := List.mem_of_getElem? hm
    have ed : ms.drop i = m :: ms.drop (i + 1) := by rw [List.drop_eq_getElem_cons hil, em]
    rw [ed] at heq
    refine ⟨fun σ3 H3 => ∃ G3 es', σ3 = [some v1, some v2, some v3, some v4, some v5, some (.ref pf), some (.bl b), some x] ∧ Ex Gs G3 ∧ Ex G' G3 ∧ Grow G H G3 H3 ∧ ML G3 H3 pf (es'.map edgeD) ∧ es'.length ≤ i + 1 ∧ es' = es ++ (if m = spot.1 then [] else [if b then ⟨keepAt h wd m, spot, .saw, some key⟩ else ⟨spot, keepAt h wd m, .unseen, some key⟩]), ?_, ?_⟩
    · have keepv : ∀ {σ : L2.St} {G3 H3 : Hp} {i : Nat}, Ex G' G3 → σ[i]? = some (some x) → σ[4]? = some (some v5) → Ev (tDGet (tVar 4) (tVar i)) σ G3 H3 (mD (pD (keepAt h wd m))) := fun e e1 e2 => ev_dgetK (k := .inl m) (l := keepL h wd) (ev_var e2 ((mK (keepL h wd)).mono (g'.gg.trans e) h5)) (ev_var e1 (Dt.mono e hx)) (look_keep (hmn m hmm))
      refine s_when (et_test (ev_op (ev_var rfl hx) (ev_op (ev_var rfl (Dt.mono g'.gg h1)) ev_int (rv_ixT (d := .int spot.1) rfl)) rv_neI)) x2 (fun hb G3 H3 g3 => ?_) fun hb G3 H3 g3 => ?_
      · have hne : ¬ m = spot.1 := by simpa using hb
        refine s_if (b := b) (et_test (ev_var rfl (Dt.bl b))) g3.gh (fun hb2 G4 H4 g4 => ?_) fun hb2 G4 H4 g4 => ?_
        · refine s_app ((ml.grow g3).grow g4) g4.gh (ev_varV rfl) (ev_tup (ed_cons (keepv (g3.gg.trans g4.gg) rfl rfl) (ed_cons (ev_var rfl (Dt.mono (g'.gg.trans (g3.gg.trans g4.gg)) h1)) (ed_cons ev_str (ed_cons (ev_var rfl (Dt.mono (g'.gg.trans (g3.gg.trans g4.gg)) h2)) ed_nil))))) (by rw [List.length_map]; omega) fun G5 H5 b5 ml5 => ?_
          refine ⟨G5, es ++ [⟨keepAt h wd m, spot, .saw, some key⟩], rfl, (x1.trans (g3.gg.trans g4.gg)).trans b5.gg, (g3.gg.trans g4.gg).trans b5.gg, ((g'.trans g3).trans g4).thenB hpf b5, ?_, by rw [List.length_append, List.length_singleton]; omega, ?_⟩
          · rw [List.map_append]
            exact ml5
          · rw [if_neg hne, if_pos hb2]
        · refine s_app ((ml.grow g3).grow g4) g4.gh (ev_varV rfl) (ev_tup (ed_cons (ev_var rfl (Dt.mono (g'.gg.trans (g3.gg.trans g4.gg)) h1)) (ed_cons (keepv (g3.gg.trans g4.gg) rfl rfl) (ed_cons ev_str (ed_cons (ev_var rfl (Dt.mono (g'.gg.trans (g3.gg.trans g4.gg)) h2)) ed_nil))))) (by rw [List.length_map]; omega) fun G5 H5 b5 ml5 => ?_
          refine ⟨G5, es ++ [⟨spot, keepAt h wd m, .unseen, some key⟩], rfl, (x1.trans (g3.gg.trans g4.gg)).trans b5.gg, (g3.gg.trans g4.gg).trans b5.gg, ((g'.trans g3).trans g4).thenB hpf b5, ?_, by rw [List.length_append, List.length_singleton]; omega, ?_⟩
          · rw [List.map_append]
            exact ml5
          · rw [if_neg hne, if_neg (by rw [hb2]; exact Bool.false_ne_true)]
      · have he : m = spot.1 := by simpa using hb
        exact ⟨G3, es, rfl, x1.trans g3.gg, g3.gg, g'.trans g3, ml.grow g3, by omega, by rw [if_pos he, List.append_nil]⟩
    · rintro σ3 H3 ⟨G3, es', rfl, y1, y2, g3, ml3, hle3, he3⟩
      have heq' : pairE (keepAt h wd) spot key src (decide (0 < src)) ms = es' ++ pairE (keepAt h wd) spot key src (if m = src then false else b) (ms.drop (i + 1)) := by
        rw [heq, he3, List.append_assoc]
        rfl
      refine s_when (et_test (ev_op (ev_var rfl (Dt.mono y2 hx)) (ev_var rfl (Dt.mono g3.gg h3)) rv_eqI)) g3.gh (fun hb G4 H4 g4 => ?_) fun hb G4 H4 g4 => ?_
      · refine s_asg ev_bl g4.gh fun v G5 H5 g5 hv => ?_
        obtain rfl := Dt.bl_iff.mp hv
        rw [if_pos (of_decide_eq_true hb)] at heq'
        exact ⟨G5, (y1.trans g4.gg).trans g5.gg, g5.gh, false, some x, es', rfl, (g3.trans g4).trans g5, (ml3.grow g4).grow g5, hle3, heq'⟩
      · rw [if_neg (of_decide_eq_false hb)] at heq'
        exact ⟨G4, y1.trans g4.gg, g4.gh, b, some x, es', rfl, g3.trans g4, ml3.grow g4, hle3, heq'⟩
  · rintro σ' G3 H3 x3 ⟨b, u7, es, rfl, g3, ml, hle, heq⟩
    rw [List.length_map, List.drop_length] at heq
    have heq : pairE (keepAt h wd) spot key src (decide (0 < src)) ms = es ++ [] := heq
    rw [List.append_nil] at heq
    obtain ⟨G4, g4, r4⟩ := ml.ret g3 hpf
    refine s_ret (m := mD (.list (es.map edgeD))) (ev_var rfl r4) g4.gh fun v G5 H5 g5 hv => k v G5 H5 (g4.trans g5) ?_
    rw [← heq] at hv
    exact hv
end
end Sk
/-! Sk_look_edges -/
namespace Sk
open PySem PySem.Spec PyProof.Rows L2
open Evl (pss_cut tCut)
theorem flatMap_le {A B : Type} (f : A → List B) (c : Nat) : ∀ l : List A, (∀ x ∈ l, (f x).length ≤ c) → (l.flatMap f).length ≤ l.length * c
  | [], _ => Nat.zero_le _
  | a :: l, h => by
    have h1 := flatMap_le f c l fun x hx => h x (List.mem_cons_of_mem _ hx)
    have h2 := h a List.mem_cons_self
    rw [List.flatMap_cons, List.length_append, List.length_cons, Nat.succ_mul]
    omega
theorem pairE_len {keep : Int → Node} {spot : Node} {key s : Int} : ∀ {ms : List Int} {b : Bool}, (pairE keep spot key s b ms).length ≤ ms.length
  | [], _ => Nat.le_refl _
  | m :: ms, b => by
    have ih := pairE_len (keep := keep) (spot := spot) (key := key) (s := s) (ms := ms) (b := if m = s then false else b)
    show ((if m = spot.1 then [] else _) ++ pairE keep spot key s (if m = s then false else b) ms).length ≤ _
    rw [List.length_append, List.length_cons]
    split
    · rw [List.length_nil]
      omega
    · rw [List.length_singleton]
      omega
theorem lookE1_len {h : Hist} (sm : h.Small) (wd : Option Lev) (num : Int) (a : Nat) (p : Int × Int) : (lookE1 h wd num a p).length ≤ 4 := by
  unfold lookE1
  split
  · exact Nat.le_trans pairE_len (sm.makersOf _)
  · exact Nat.zero_le _
theorem lookE_len {h : Hist} (sm : h.Small) (wd : Option Lev) {d : Deal} (hd : d ∈ h.deals) (lv : Lev) (p : Nat) : (lookE h wd lv d.num d.looks p).length ≤ 800 := by
  unfold lookE
  split
  · exact Nat.zero_le _
  · rename_i a _
    have h1 := flatMap_le (lookE1 h wd d.num a) 4 (d.looks.getD p []) fun x _ => lookE1_len sm wd _ a x
    have h2 : (d.looks.getD p []).length ≤ 200 := by
      rw [List.getD_eq_getElem?_getD]
      cases q : d.looks[p]? with
      | none => exact Nat.zero_le _
      | some l => exact look_le (sm.pairs d hd) l (List.mem_of_getElem? q)
    omega
theorem looksE_take {h : Hist} (sm : h.Small) (wd : Option Lev) {d : Deal} (hd : d ∈ h.deals) (lv : Lev) (i : Nat) (hi : i ≤ 30) : ((List.range i).flatMap (lookE h wd lv d.num d.looks)).length ≤ 24000 := by
  have h1 := flatMap_le (lookE h wd lv d.num d.looks) 800 (List.range i) fun x _ => lookE_len sm wd hd lv x
  rw [List.length_range] at h1
  omega
section
variable {P : Program} {w : World} {K : PySem.W.Frag} {mg : Str → Option Value} {base : Heap}
abbrev s_look_edges : Stmt := top 33
abbrev N_look_edges : List Str := ["number", "looks", "level", "makes", "keeps", "found", "place", "at", "key", "source"]
theorem sc_look_edges : FnScope N_look_edges ["number", "looks", "level", "makes", "keeps"] (defScope s_look_edges) := ⟨rfl, rfl, rfl, by decide +kernel, rfl, by decide +kernel, by decide +kernel⟩
abbrev sp_look_edges (CL : Lev → Addr) : Sp := mkSp (α := Hist × Option Lev × Deal) (fun y => [mD (.int y.2.2.num), mD (looksD y.2.2.looks), mLev CL (lvOf y.2.1 y.2.2), mK (mksL y.1), mK (keepL y.1 y.2.1)]) (fun y => y.1.Ok ∧ y.1.Small ∧ y.2.2 ∈ y.1.deals) (fun y => mD (.list ((looksE y.1 y.2.1 y.2.2).map edgeD)))
theorem own_look_edges {CL : Lev → Addr} (A : DefAt K mg "look_edges" s_look_edges []) (L : LevK K mg CL) (O_pair_edges : Own P w K mg base "pair_edges" 1 ["spot", "key", "source", "makers", "keeps"] [] sp_pair_edges) (O_m_look_spot : OwnM P w K mg base CL "look_spot" 1 spM_look_spot) (z_len : mg "len" = none) (z_range : mg "range" = none) : Own P w K mg base "look_edges" 2 ["number", "looks", "level", "makes", "keeps"] [] (sp_look_edges CL) := by
  have sc := sc_look_edges
  refine own_mk A sc (fun _ _ _ _ _ _ us hl => match us, hl with | [_, _, _, _, _], _ => rfl) (fun _ => rfl) fun f cdv Ar outer s H E y G vs Q hr hok hGH hv k => ?_
  match vs, hv with
  | [v1, v2, v3, v4, v5], ⟨h1, h2, h3, h4, h5, _⟩ =>
  refine ⟨_, (pss_cons (ps_set (i := 5) sc.nd rfl (Or.inl rfl) (pe_lst pa_nil))
 (pss_cons (ps_for PassesOwn.never rfl (pi_range1 (by rfl) z_range (pa_cons (pe_callB call_len_seq (by rfl) z_len PySem.boot_len (pa_cons (pv 1) pa_nil)) pa_nil)) (pg_name (i := 6) sc.nd rfl (Or.inl rfl)) (pss_cons (ps_set (i := 7) sc.nd rfl (Or.inl rfl) (pe_lm O_m_look_spot L (hr.mono (by decide)) (pv 2) (pa_cons (pv 6) pa_nil)))
 (pss_one (ps_if (pt_cmpR op_notN1 (pv 7) pe_non (nomark _)) (pss_one (ps_for PassesOwn.never rfl (pi_list (pe_ix ix_list (pv 1) (pv 6) (fun _ _ => rfl))) (pg_tup rfl (pgs_cons (pg_name (i := 8) sc.nd rfl (Or.inl rfl)) (pgs_cons (pg_name (i := 9) sc.nd rfl (Or.inl rfl)) pgs_nil))) (pss_one (ps_if (pt_cmpR op_ge (pv 9) pe_int (nomark _)) (pss_one (ps_expr (pe_bm PySem.F.plainAttrs_list PySem.F.slot_list_extend PySem.F.type_list_extend mt_extend (pv 5) (pa_cons (pe_own O_pair_edges (hr.mono (by decide)) (by rfl) (pa_cons (pe_tup (pa_cons (pv 0) (pa_cons (pv 7) pa_nil))) (pa_cons (pv 8) (pa_cons (pv 9) (pa_cons (pe_dget2 (hu_of hr) (pv 3) (pv 8) (pe_lst pa_nil) ⟨rfl, rfl, rfl, rfl⟩) (pa_cons (pv 4) pa_nil)))))) pa_nil)))) pss_nil)))) pss_nil))))
 (pss_one (ps_ret (pv 5))))), ?_⟩
  obtain ⟨h, wd, d⟩ := y
  obtain ⟨ok, sm, hd⟩ := hok
  have ok : h.Ok := ok
  have sm : h.Small := sm
  have hd : d ∈ h.deals := hd
  have hlk := sm.looks d hd
  have h2 : Dt G v2 (looksD d.looks) := h2
  have h3 : (mLev CL (lvOf wd d)).p G v3 := h3
  have h4 : (mK (mksL h)).p G v4 := h4
  have h5 : (mK (keepL h wd)).p G v5 := h5
  refine q_newL hGH fun pf hpf hpf0 => ?_
  have g1 : Grow G H G (upd H pf (.lst [])) := (Grow.refl hGH).mut hpf hpf0
  have elen : ((d.looks.map lookD).length : Int) = (d.looks.length : Int) := by rw [List.length_map]
  refine q_forR1 (n := (d.looks.length : Int)) (ed_cons (Ev.is (ev_len (ev_var rfl h2)) (by rw [elen])) ed_nil) g1.gh (by omega) (fun i σ' G' H' => ∃ u6 u7 u8 u9, σ' = [some v1, some v2, some v3, some v4, some v5, some (.ref pf), u6, u7, u8, u9] ∧ Grow G H G' H' ∧ ML G' H' pf (((List.range i).flatMap (lookE h wd (lvOf wd d) d.num d.looks)).map edgeD)) ?_ ?_ ?_
  · intro G3 H3 g3
    exact ⟨none, none, none, none, rfl, g1.trans g3, (ML.new hpf0).grow g3⟩
  · rintro i σ' G' H' hi x2 ⟨u6, u7, u8, u9, rfl, g', ml⟩
    have hil : i < d.looks.length := by omega
    have hbd := looksE_take sm wd hd (lvOf wd d) i (by omega)
    refine q_asg (ev_look_spot (lv := lvOf wd d) (n := i) (ev_var rfl ((mLev CL (lvOf wd d)).mono g'.gg h3)) (by omega) (ev_var rfl (Dt.int _))) x2 fun v7 G3 H3 g3 c7 => ?_
    have er : (List.range (i + 1)).flatMap (lookE h wd (lvOf wd d) d.num d.looks) = (List.range i).flatMap (lookE h wd (lvOf wd d) d.num d.looks) ++ lookE h wd (lvOf wd d) d.num d.looks i := by
      rw [List.range_succ, List.flatMap_append]
      simp
    have g33 := g'.trans g3
    cases ea : (lvOf wd d).lookSpot i with
    | none =>
      have el : lookE h wd (lvOf wd d) d.num d.looks i = [] := by
        unfold lookE
        rw [ea]
      rw [ea] at c7
      refine s_when (et_test (ev_op (ev_var rfl c7) ev_non rv_notN)) g3.gh (fun hb => by cases hb) fun _ G4 H4 g4 => ⟨G4, g4.gh, some (.int (i : Int)), some v7, u8, u9, rfl, g33.trans g4, ?_⟩
      rw [er, el, List.append_nil]
      exact (ml.grow g3).grow g4
    | some a =>
      have el : lookE h wd (lvOf wd d) d.num d.looks i = (d.looks[i]).flatMap (lookE1 h wd d.num a) := by
        unfold lookE
        rw [ea]
        show (d.looks.getD i []).flatMap _ = _
        rw [List.getD_eq_getElem?_getD, List.getElem?_eq_getElem hil]
        rfl
      have hlm : d.looks[i] ∈ d.looks := List.getElem_mem hil
      have hll := look_le (sm.pairs d hd) _ hlm
      have eat : d.looks[i]? = some d.looks[i] := List.getElem?_eq_getElem hil
      rw [ea] at c7
      generalize d.looks[i] = lk at el hlm hll eat
      refine s_when (et_test (ev_op (ev_var rfl c7) ev_non rv_notN)) g3.gh (fun _ G4 H4 g4 => ?_) fun hb => by cases hb
      have c74 := Dt.mono g4.gg c7
      refine s_forD (ds := lk.map pD) (ev_op (ev_var rfl (Dt.mono (g33.gg.trans g4.gg) h2)) (ev_var rfl (Dt.int _)) (rv_ixL (at_nat (by rw [List.getElem?_map, eat]; rfl)))) g4.gh
        (fun j σ'' G'' H'' => ∃ u8 u9, σ'' = [some v1, some v2, some v3, some v4, some v5, some (.ref pf), some (.int (i : Int)), some v7, u8, u9] ∧ Grow G H G'' H'' ∧ Dt G'' v7 (.int (a : Int)) ∧ ML G'' H'' pf (((List.range i).flatMap (lookE h wd (lvOf wd d) d.num d.looks) ++ (lk.take j).flatMap (lookE1 h wd d.num a)).map edgeD)) ?_ ?_ ?_
      · intro G5 H5 g5
        exact ⟨u8, u9, rfl, (g33.trans g4).trans g5, Dt.mono g5.gg c74, by simpa using ((ml.grow g3).grow g4).grow g5⟩
      · rintro Gs j dd x σ'' G'' H'' hj hx y1 y2 ⟨u8, u9, rfl, g'', c7, ml2⟩
        obtain ⟨⟨key, src⟩, hp, rfl⟩ := map_some hj
        have hjl := (List.getElem?_eq_some_iff.mp hp).1
        have et : (lk.take (j + 1)).flatMap (lookE1 h wd d.num a) = (lk.take j).flatMap (lookE1 h wd d.num a) ++ lookE1 h wd d.num a (key, src) := by
          rw [take_snoc hp, List.flatMap_append]
          simp
        have hb2 := flatMap_le (lookE1 h wd d.num a) 4 (lk.take j) fun x _ => lookE1_len sm wd _ a x
        have hb3 : (lk.take j).length ≤ lk.length := by rw [List.length_take]; omega
        refine g_2 hx y2 fun w8 w9 c8 c9 => ?_
        refine s_when (et_test (ev_op (ev_var rfl c9) ev_int rv_B0)) y2 (fun hb G5 H5 g5 => ?_) fun hb G5 H5 g5 => ?_
        · have hs : 0 ≤ src := of_decide_eq_true hb
          have e1 : lookE1 h wd d.num a (key, src) = pairE (keepAt h wd) (d.num, (a : Int)) key src (decide (0 < src)) (makersOf h key) := by
            unfold lookE1
            rw [if_pos hs]
          have hb4 := lookE1_len sm wd d.num a (key, src)
          have gg5 := g''.gg.trans g5.gg
          refine s_ext (ml2.grow g5) g5.gh (ev_varV rfl) (Ev.is (ev_call (h, wd, (d.num, (a : Int)), key, src) ⟨ok, sm⟩ (ea_cons (ev_tup (ed_cons (ev_var rfl (Dt.mono gg5 h1)) (ed_cons (ev_var rfl (Dt.mono g5.gg c7)) ed_nil))) (ea_cons (ev_var rfl (Dt.mono g5.gg c8)) (ea_cons (ev_var rfl (Dt.mono g5.gg c9)) (ea_cons (ev_getMks (ev_var rfl ((mK (mksL h)).mono gg5 h4)) (ev_var rfl (Dt.mono g5.gg c8))) (ea_cons (ev_var rfl ((mK (keepL h wd)).mono gg5 h5)) ea_nil)))))) (congrArg (fun l => PyData.list (l.map edgeD)) e1.symm)) (by rw [List.length_map, List.length_map, List.length_append]; omega) fun G6 H6 b6 ml6 => ?_
          refine ⟨G6, (y1.trans g5.gg).trans b6.gg, b6.gh, some w8, some w9, rfl, (g''.trans g5).thenB hpf b6, Dt.mono (g5.gg.trans b6.gg) c7, ?_⟩
          rw [et, ← List.append_assoc, List.map_append]
          exact ml6
        · have hs : ¬ 0 ≤ src := of_decide_eq_false hb
          have e1 : lookE1 h wd d.num a (key, src) = [] := by
            unfold lookE1
            rw [if_neg hs]
          refine ⟨G5, y1.trans g5.gg, g5.gh, some w8, some w9, rfl, g''.trans g5, Dt.mono g5.gg c7, ?_⟩
          rw [et, e1, List.append_nil]
          exact ml2.grow g5
      · rintro σ'' G'' H'' y2 ⟨u8, u9, rfl, g'', c7, ml2⟩
        rw [List.length_map, List.take_length] at ml2
        refine ⟨G'', y2, some (.int (i : Int)), some v7, u8, u9, rfl, g'', ?_⟩
        rw [er, el]
        exact ml2
  · rintro σ' G3 H3 x3 ⟨u6, u7, u8, u9, rfl, g3, ml⟩
    obtain ⟨G4, g4, r4⟩ := ml.ret g3 hpf
    exact s_ret (m := mD (.list ((looksE h wd d).map edgeD))) (ev_var rfl r4) g4.gh fun v G5 H5 g5 hv => k v G5 H5 (g4.trans g5) hv
end
end Sk
/-! Sk_over_edges -/
namespace Sk
open PySem PySem.Spec PyProof.Rows L2
open Evl (pss_cut tCut)
theorem overE1_len (h : Hist) (wd : Option Lev) (key : Int) (ms : List Int) (k : Nat) : (overE1 h wd key ms k).length ≤ ms.length := by
  unfold overE1
  rw [List.length_map, List.length_range]
  omega
section
variable {P : Program} {w : World} {K : PySem.W.Frag} {mg : Str → Option Value} {base : Heap}
abbrev s_over_edges : Stmt := top 34
abbrev N_over_edges : List Str := ["key", "makers", "keeps", "firsts", "found", "k", "j"]
theorem sc_over_edges : FnScope N_over_edges ["key", "makers", "keeps", "firsts"] (defScope s_over_edges) := ⟨rfl, rfl, rfl, by decide +kernel, rfl, by decide +kernel, by decide +kernel⟩
abbrev sp_over_edges : Sp := mkSp (α := Hist × Option Lev × (Int × List Int)) (fun y => [mD (.int y.2.2.1), mD (.list (dI y.2.2.2)), mK (keepL y.1 y.2.1), mK (firstL y.1 y.2.1)]) (fun y => y.1.Ok ∧ y.1.Small ∧ y.2.2 ∈ y.1.makes) (fun y => mD (.list ((overE y.1 y.2.1 y.2.2).map edgeD)))
theorem own_over_edges  (A : DefAt K mg "over_edges" s_over_edges []) (z_len : mg "len" = none) (z_range : mg "range" = none) : Own P w K mg base "over_edges" 1 ["key", "makers", "keeps", "firsts"] [] sp_over_edges := by
  have sc := sc_over_edges
  refine own_mk A sc (fun _ _ _ _ _ _ us hl => match us, hl with | [_, _, _, _], _ => rfl) (fun _ => rfl) fun f cdv Ar outer s H E y G vs Q hr hok hGH hv k => ?_
  match vs, hv with
  | [v1, v2, v3, v4], ⟨h1, h2, h3, h4, _⟩ =>
  refine ⟨_, (pss_cons (ps_set (i := 4) sc.nd rfl (Or.inl rfl) (pe_lst pa_nil))
 (pss_cons (ps_for PassesOwn.never rfl (pi_range1 (by rfl) z_range (pa_cons (pe_callB call_len_seq (by rfl) z_len PySem.boot_len (pa_cons (pv 1) pa_nil)) pa_nil)) (pg_name (i := 5) sc.nd rfl (Or.inl rfl)) (pss_one (ps_for PassesOwn.never rfl (pi_range2 (by rfl) z_range (pa_cons (pe_op op_add (pv 5) pe_int) (pa_cons (pe_callB call_len_seq (by rfl) z_len PySem.boot_len (pa_cons (pv 1) pa_nil)) pa_nil))) (pg_name (i := 6) sc.nd rfl (Or.inl rfl)) (pss_one (ps_expr (pe_bm PySem.F.plainAttrs_list PySem.F.slot_list_append PySem.F.type_list_append mt_append (pv 4) (pa_cons (pe_tup (pa_cons (pe_dget (hu_of hr) (pv 2) (pe_ix ix_list (pv 1) (pv 5) (fun _ _ => rfl)) (fun _ _ => rfl)) (pa_cons (pe_dget (hu_of hr) (pv 3) (pe_ix ix_list (pv 1) (pv 6) (fun _ _ => rfl)) (fun _ _ => rfl)) (pa_cons pe_str (pa_cons (pv 0) pa_nil))))) pa_nil)))))))
 (pss_one (ps_ret (pv 4))))), ?_⟩
  obtain ⟨h, wd, key, ms⟩ := y
  obtain ⟨ok, sm, hkm⟩ := hok
  have ok : h.Ok := ok
  have sm : h.Small := sm
  have hkm : (key, ms) ∈ h.makes := hkm
  have hm4 : ms.length ≤ 4 := sm.makers _ hkm
  have hmn : ∀ m ∈ ms, m ∈ h.deals.map (·.num) := ok.mkr _ hkm
  have h2 : Dt G v2 (.list (dI ms)) := h2
  have h3 : (mK (keepL h wd)).p G v3 := h3
  have h4 : (mK (firstL h wd)).p G v4 := h4
  refine q_newL hGH fun pf hpf hpf0 => ?_
  have g1 : Grow G H G (upd H pf (.lst [])) := (Grow.refl hGH).mut hpf hpf0
  have elen : ((dI ms).length : Int) = (ms.length : Int) := by rw [List.length_map]
  refine q_forR1 (n := (ms.length : Int)) (ed_cons (Ev.is (ev_len (ev_var rfl h2)) (by rw [elen])) ed_nil) g1.gh (by omega) (fun i σ' G' H' => ∃ u5 u6, σ' = [some v1, some v2, some v3, some v4, some (.ref pf), u5, u6] ∧ Grow G H G' H' ∧ ML G' H' pf (((List.range i).flatMap (overE1 h wd key ms)).map edgeD)) ?_ ?_ ?_
  · intro G3 H3 g3
    exact ⟨none, none, rfl, g1.trans g3, (ML.new hpf0).grow g3⟩
  · rintro i σ' G' H' hi x2 ⟨u5, u6, rfl, g', ml⟩
    have hil : i < ms.length := by omega
    have hbd := flatMap_le (overE1 h wd key ms) ms.length (List.range i) fun x _ => overE1_len h wd key ms x
    rw [List.length_range] at hbd
    have hbd2 : i * ms.length ≤ 4 * 4 := Nat.mul_le_mul (by omega) hm4
    have er : (List.range (i + 1)).flatMap (overE1 h wd key ms) = (List.range i).flatMap (overE1 h wd key ms) ++ overE1 h wd key ms i := by
      rw [List.range_succ, List.flatMap_append]
      simp
    refine s_forR (lo := (i : Int) + 1) (n := (ms.length : Int)) (ed_cons (ev_op (ev_var rfl (Dt.int _)) ev_int rv_I0) (ed_cons (Ev.is (ev_len (ev_var rfl (Dt.mono g'.gg h2))) (by rw [elen])) ed_nil)) x2 (by omega)
      (fun j σ'' G'' H'' => ∃ u6, σ'' = [some v1, some v2, some v3, some v4, some (.ref pf), some (.int (i : Int)), u6] ∧ Grow G H G'' H'' ∧ ML G'' H'' pf (((List.range i).flatMap (overE1 h wd key ms) ++ (List.range j).map fun j => (⟨keepAt h wd (ms.getD i 0), firstAt h wd (ms.getD (i + 1 + j) 0), .over, some key⟩ : Edge)).map edgeD)) ?_ ?_ ?_
    · intro G3 H3 g3
      exact ⟨u6, rfl, g'.trans g3, by simpa using ml.grow g3⟩
    · rintro j σ'' G'' H'' hj y2 ⟨u6, rfl, g'', ml2⟩
      have hjl : i + 1 + j < ms.length := by omega
      have ei : ms[i]? = some (ms.getD i 0) := by rw [List.getD_eq_getElem?_getD, List.getElem?_eq_getElem hil]; rfl
      have ej : ms[i + 1 + j]? = some (ms.getD (i + 1 + j) 0) := by rw [List.getD_eq_getElem?_getD, List.getElem?_eq_getElem hjl]; rfl
      have hmi := hmn _ (List.mem_of_getElem? ei)
      have hmj := hmn _ (List.mem_of_getElem? ej)
      have e2 : ((i : Int) + 1 + (j : Int)) = ((i + 1 + j : Nat) : Int) := by omega
      have d2 := Dt.mono g''.gg h2
      refine s_app ml2 y2 (ev_varV rfl) (ev_tup (ed_cons (ev_dgetK (k := .inl (ms.getD i 0)) (l := keepL h wd) (ev_var rfl ((mK (keepL h wd)).mono g''.gg h3)) (ev_op (ev_var rfl d2) (ev_var rfl (Dt.int _)) (rv_ixL (d := .int (ms.getD i 0)) (at_nat (by rw [List.getElem?_map, ei]; rfl)))) (look_keep hmi)) (ed_cons (ev_dgetK (k := .inl (ms.getD (i + 1 + j) 0)) (l := firstL h wd) (ev_var rfl ((mK (firstL h wd)).mono g''.gg h4)) (ev_op (ev_var rfl d2) (ev_var rfl (Dt.int _)) (rv_ixL (d := .int (ms.getD (i + 1 + j) 0)) (by rw [e2]; exact at_nat (by rw [List.getElem?_map, ej]; rfl)))) (look_first hmj)) (ed_cons ev_str (ed_cons (ev_var rfl (Dt.mono g''.gg h1)) ed_nil))))) (by rw [List.length_map, List.length_append, List.length_map, List.length_range]; omega) fun G4 H4 b4 ml4 => ?_
      refine ⟨G4, b4.gh, some (.int ((i : Int) + 1 + (j : Int))), rfl, g''.thenB hpf b4, ?_⟩
      have e : ((List.range i).flatMap (overE1 h wd key ms) ++ (List.range (j + 1)).map fun j => (⟨keepAt h wd (ms.getD i 0), firstAt h wd (ms.getD (i + 1 + j) 0), .over, some key⟩ : Edge)).map edgeD = ((List.range i).flatMap (overE1 h wd key ms) ++ (List.range j).map fun j => (⟨keepAt h wd (ms.getD i 0), firstAt h wd (ms.getD (i + 1 + j) 0), .over, some key⟩ : Edge)).map edgeD ++ [edgeD ⟨keepAt h wd (ms.getD i 0), firstAt h wd (ms.getD (i + 1 + j) 0), .over, some key⟩] := by
        simp only [List.range_succ, List.map_append, List.append_assoc]
        rfl
      rw [e]
      exact ml4
    · rintro σ'' G'' H'' y2 ⟨u6, rfl, g'', ml2⟩
      refine ⟨G'', y2, some (.int (i : Int)), u6, rfl, g'', ?_⟩
      have e : ((ms.length : Int) - ((i : Int) + 1)).toNat = ms.length - (i + 1) := by omega
      rw [e] at ml2
      rw [er]
      exact ml2
  · rintro σ' G3 H3 x3 ⟨u5, u6, rfl, g3, ml⟩
    obtain ⟨G4, g4, r4⟩ := ml.ret g3 hpf
    exact s_ret (m := mD (.list ((overE h wd (key, ms)).map edgeD))) (ev_var rfl r4) g4.gh fun v G5 H5 g5 hv => k v G5 H5 (g4.trans g5) hv
end
end Sk
/-! Sk_ends_of -/
namespace Sk
open PySem PySem.Spec PyProof.Rows L2
open Evl (pss_cut tCut)
section
variable {P : Program} {w : World} {K : PySem.W.Frag} {mg : Str → Option Value} {base : Heap}
abbrev s_ends_of : Stmt := top 31
abbrev N_ends_of : List Str := ["history", "levels", "keeps", "firsts", "number", "own", "looks"]
theorem sc_ends_of : FnScope N_ends_of ["history", "levels"] (defScope s_ends_of) := ⟨rfl, rfl, rfl, by decide +kernel, rfl, by decide +kernel, by decide +kernel⟩
abbrev sp_ends_of (CL : Lev → Addr) : Sp := mkSp (α := Hist × Option Lev) (fun y => [mD (histD y.1), mK (levL CL y.1 y.2)]) (fun y => y.1.Ok ∧ y.1.Small) (fun y => mPair (mK (keepL y.1 y.2)) (mK (firstL y.1 y.2)))
theorem own_ends_of {CL : Lev → Addr} (A : DefAt K mg "ends_of" s_ends_of []) (L : LevK K mg CL) (O_m_spots : OwnM P w K mg base CL "spots" 1 spM_spots) (O_m_first_spot : OwnM P w K mg base CL "first_spot" 1 spM_first_spot) (z_len : mg "len" = none) : Own P w K mg base "ends_of" 2 ["history", "levels"] [] (sp_ends_of CL) := by
  have sc := sc_ends_of
  refine own_mk A sc (fun _ _ _ _ _ _ us hl => match us, hl with | [_, _], _ => rfl) (fun _ => rfl) fun f cdv Ar outer s H E y G vs Q hr hok hGH hv k => ?_
  match vs, hv with
  | [v1, v2], ⟨h1, h2, _⟩ =>
  refine ⟨_, (pss_cons (ps_set (i := 2) sc.nd rfl (Or.inl rfl) pe_dnewK)
 (pss_cons (ps_set (i := 3) sc.nd rfl (Or.inl rfl) pe_dnewK)
 (pss_cons (ps_for PassesOwn.never rfl (pi_list (pe_ix ix_tup (pv 0) pe_int (fun _ _ => rfl))) (pg_tup rfl (pgs_cons (pg_name (i := 4) sc.nd rfl (Or.inl rfl)) (pgs_cons (pg_name (i := 5) sc.nd rfl (Or.inl rfl)) (pgs_cons (pg_name (i := 6) sc.nd rfl (Or.inl rfl)) pgs_nil)))) (pss_cons (ps_dput (hu_of hr) (pv 2) (pv 4) (pe_tup (pa_cons (pv 4) (pa_cons (pe_op op_sub (pe_lm O_m_spots L (hr.mono (by decide)) (pe_dget (hu_of hr) (pv 1) (pv 4) (fun _ _ => rfl)) (pa_cons (pe_callB call_len_seq (by rfl) z_len PySem.boot_len (pa_cons (pv 6) pa_nil)) pa_nil)) pe_int) pa_nil))) rfl)
 (pss_one (ps_dput (hu_of hr) (pv 3) (pv 4) (pe_tup (pa_cons (pv 4) (pa_cons (pe_lm O_m_first_spot L (hr.mono (by decide)) (pe_dget (hu_of hr) (pv 1) (pv 4) (fun _ _ => rfl)) (pa_cons (pe_callB call_len_seq (by rfl) z_len PySem.boot_len (pa_cons (pv 6) pa_nil)) pa_nil)) pa_nil))) rfl))))
 (pss_one (ps_ret (pe_tup (pa_cons (pv 2) (pa_cons (pv 3) pa_nil)))))))), ?_⟩
  obtain ⟨h, wd⟩ := y
  obtain ⟨ok, sm⟩ := hok
  have ok : h.Ok := ok
  have sm : h.Small := sm
  have h1 : Dt G v1 (histD h) := h1
  have h2 : (mK (levL CL h wd)).p G v2 := h2
  refine q_newK hGH fun pk hpk hpk0 => ?_
  have g1 : Grow G H G (upd H pk (.dK [])) := (Grow.refl hGH).mut hpk hpk0
  refine q_newK g1.gh fun pf hpf' hpf0 => ?_
  have hpf : H pf = none := g1.hh.non hpf'
  have nkf : pk ≠ pf := ne_of_none (upd_same (H := H) (o := .dK [])) hpf'
  have g2 : Grow G H G (upd (upd H pk (.dK [])) pf (.dK [])) := g1.mut hpf hpf0
  refine q_forD (ev_op (ev_var rfl h1) ev_int (rv_ixT (d := .list (h.deals.map dealD)) rfl)) g2.gh (fun i σ' G' H' => ∃ u4 u5 u6, σ' = [some v1, some v2, some (.ref pk), some (.ref pf), u4, u5, u6] ∧ Grow G H G' H' ∧ MK G' H' pk ((h.deals.take i).map fun d => ((.inl d.num : Key), mD (pD (keepOf wd d)))) ∧ MK G' H' pf ((h.deals.take i).map fun d => ((.inl d.num : Key), mD (pD (firstOf wd d))))) ?_ ?_ ?_
  · intro G3 H3 g3
    exact ⟨none, none, none, rfl, g2.trans g3, ((MK.new hpk0).other nkf).grow g3, (MK.new hpf0).grow g3⟩
  · rintro Gs i dd x σ' G' H' hi hx x1 x2 ⟨u4, u5, u6, rfl, g', mk, mf⟩
    obtain ⟨a, q, rfl⟩ := map_some hi
    have ham := List.mem_of_getElem? q
    have hil := (List.getElem?_eq_some_iff.mp q).1
    have sml := sm.deals
    have hlk := sm.looks a ham
    refine g_3 hx x2 fun w2 w3 w4 d2 d3 d4 => ?_
    have elen : ((a.looks.map lookD).length : Int) = (a.looks.length : Int) := by rw [List.length_map]
    have lev := (mK (levL CL h wd)).mono g'.gg h2
    refine q_putK (k := .inl a.num) (m := mD (pD (keepOf wd a))) mk x2 (ev_tup (ed_cons (ev_var rfl d2) (ed_cons (ev_op (ev_spots (lv := lvOf wd a) (n := a.looks.length) (ev_dgetK (k := .inl a.num) (l := levL CL h wd) (ev_var rfl lev) (ev_var rfl d2) (look_lev ok ham)) (by omega) (Ev.is (ev_len (ev_var rfl d4)) (by rw [elen]))) ev_int rv_I0) ed_nil))) (ev_varV rfl) (ev_var rfl d2) (by rw [List.length_map, List.length_take]; omega) fun G3 H3 b3 mk3 => ?_
    rw [put_next (fun d : Deal => (.inl d.num : Key)) (fun d => mD (pD (keepOf wd d))) (nums_inl ok) q] at mk3
    have g3 := g'.thenB hpk b3
    have mf3 := mf.growB (Ne.symm nkf) b3
    refine s_putK (k := .inl a.num) (m := mD (pD (firstOf wd a))) mf3 g3.gh (ev_tup (ed_cons (ev_var rfl (Dt.mono b3.gg d2)) (ed_cons (ev_first_spot (lv := lvOf wd a) (n := a.looks.length) (ev_dgetK (k := .inl a.num) (l := levL CL h wd) (ev_var rfl ((mK (levL CL h wd)).mono b3.gg lev)) (ev_var rfl (Dt.mono b3.gg d2)) (look_lev ok ham)) (by omega) (Ev.is (ev_len (ev_var rfl (Dt.mono b3.gg d4))) (by rw [elen]))) ed_nil))) (ev_varV rfl) (ev_var rfl (Dt.mono b3.gg d2)) (by rw [List.length_map, List.length_take]; omega) fun G4 H4 b4 mf4 => ?_
    rw [put_next (fun d : Deal => (.inl d.num : Key)) (fun d => mD (pD (firstOf wd d))) (nums_inl ok) q] at mf4
    exact ⟨G4, (x1.trans b3.gg).trans b4.gg, b4.gh, some w2, some w3, some w4, rfl, g3.thenB hpf b4, mk3.growB nkf b4, mf4⟩
  · rintro σ' G3 H3 x2 ⟨u4, u5, u6, rfl, g3, mk, mf⟩
    rw [List.length_map, List.take_length] at mk mf
    obtain ⟨G4, g4, e4, n4, rk⟩ := mk.ret g3 hpk
    obtain ⟨G5, g5, e5, n5, rf⟩ := (mf.over e4 (by rw [n4 pf (Ne.symm nkf)]; exact mf.1)).ret g4 hpf
    exact s_ret (ev_pair (ev_var (m := mK (keepL h wd)) rfl ((mK (keepL h wd)).mono e5 rk)) (ev_var (m := mK (firstL h wd)) rfl rf)) g5.gh fun v G6 H6 g6 hv => k v G6 H6 (g5.trans g6) hv
end
end Sk
/-! Sk_rank -/
namespace Sk
open PySem PySem.Spec PyProof.Rows L2
open Evl (pss_cut tCut)
abbrev whys : List Str := ["own", "saw", "unseen", "over"]
theorem ev_whys {K : PySem.W.Frag} {σ : L2.St} {G H : Hp} {tx : TE} {W : Addr} {wy : Why} (hW : ∀ H, SqL K H W (whys.map V.str)) (hx : Ev tx σ G H (mD (.str (whyW wy)))) : Ev (tBM K "list" (rIndex K) (tC (.ref W)) (tCons tx tNil)) σ G H (mD (.int (whyI wy))) := fun G1 H1 g Q k => by
  refine ⟨.inl ⟨rfl, _, hW _⟩, hx G1 H1 g _ fun v G2 H2 g2 hv => ?_⟩
  obtain rfl := Dt.str_iff.mp hv
  cases wy with
  | own => exact ⟨W, _, _, 0, _, rfl, rfl, hW _, rfl, by decide +kernel, rfl, by decide +kernel, fun m z hm => absurd hm (Nat.not_lt_zero _), k _ G2 H2 g2 (.int _)⟩
  | saw =>
    refine ⟨W, _, _, 1, _, rfl, rfl, hW _, rfl, by decide +kernel, rfl, by decide +kernel, fun m z hm hz => ?_, k _ G2 H2 g2 (.int _)⟩
    match m, hm, hz with
    | 0, _, hz => cases hz; decide +kernel
  | unseen =>
    refine ⟨W, _, _, 2, _, rfl, rfl, hW _, rfl, by decide +kernel, rfl, by decide +kernel, fun m z hm hz => ?_, k _ G2 H2 g2 (.int _)⟩
    match m, hm, hz with
    | 0, _, hz => cases hz; decide +kernel
    | 1, _, hz => cases hz; decide +kernel
  | over =>
    refine ⟨W, _, _, 3, _, rfl, rfl, hW _, rfl, by decide +kernel, rfl, by decide +kernel, fun m z hm hz => ?_, k _ G2 H2 g2 (.int _)⟩
    match m, hm, hz with
    | 0, _, hz => cases hz; decide +kernel
    | 1, _, hz => cases hz; decide +kernel
    | 2, _, hz => cases hz; decide +kernel
section
variable {P : Program} {w : World} {K : PySem.W.Frag} {mg : Str → Option Value} {base : Heap}
abbrev s_rank : Stmt := top 35
abbrev N_rank : List Str := ["edge", "key"]
theorem sc_rank : FnScope N_rank ["edge"] (defScope s_rank) := ⟨rfl, rfl, rfl, by decide +kernel, rfl, by decide +kernel, by decide +kernel⟩

theorem own_rank {W : Addr} (A : DefAt K mg "rank" s_rank []) (gWHYS : mg "WHYS" = some (.ref W)) (hW : ∀ H, SqL K H W (whys.map V.str)) : Own P w K mg base "rank" 1 ["edge"] [] sp_rank := by
  have sc := sc_rank
  refine own_mk A sc (fun _ _ _ _ _ _ us hl => match us, hl with | [_], _ => rfl) (fun _ => rfl) fun f cdv Ar outer s H E y G vs Q hr hok hGH hv k => ?_
  match vs, hv with
  | [v1], ⟨h1, _⟩ =>
  refine ⟨_, (pss_cons (ps_set (i := 1) sc.nd rfl (Or.inl rfl) (pe_ix ix_tup (pv 0) pe_int (fun _ _ => rfl)))
 (pss_cons (ps_if (pt_cmpR op_isN1 (pv 1) pe_non (nomark _)) (pss_one (ps_set (i := 1) sc.nd rfl (Or.inl rfl) pe_int)) pss_nil)
 (pss_one (ps_ret (pe_tup (pa_cons (pe_ix ix_tup (pv 0) pe_int (fun _ _ => rfl)) (pa_cons (pe_ix ix_tup (pv 0) pe_int (fun _ _ => rfl)) (pa_cons (pe_bm PySem.F.plainAttrs_list PySem.F.slot_list_index PySem.F.type_list_index mt_index (pe_glob (v := .ref W) rfl gWHYS rfl) (pa_cons (pe_ix ix_tup (pv 0) pe_int (fun _ _ => rfl)) pa_nil)) (pa_cons (pv 1) pa_nil))))))))), ?_⟩
  obtain ⟨one, other, wy, key⟩ := y
  have h1 : Dt G v1 (edgeD ⟨one, other, wy, key⟩) := h1
  refine q_asg (ev_op (ev_var rfl h1) ev_int (rv_ixT (d := keyO key) rfl)) hGH fun v2 G1 H1 g1 c2 => ?_
  have fin : ∀ {w2 : V} {G3 H3 : Hp} {i : Int}, Grow G H G3 H3 → Dt G3 w2 (.int i) → i = key.getD 0 → Ev (tTup (tCons (tOp (rIxT K) (tVar 0) (tC (.int 0))) (tCons (tOp (rIxT K) (tVar 0) (tC (.int 1))) (tCons (tBM K "list" (rIndex K) (tC (.ref W)) (tCons (tOp (rIxT K) (tVar 0) (tC (.int 2))) tNil)) (tCons (tVar 1) tNil))))) [some v1, some w2] G3 H3 (mD (rankD ⟨one, other, wy, key⟩)) := fun g3 c e => by
    have d1 := Dt.mono g3.gg h1
    rw [e] at c
    exact ev_tup (ed_cons (ev_op (ev_var rfl d1) ev_int (rv_ixT (d := pD one) rfl)) (ed_cons (ev_op (ev_var rfl d1) ev_int (rv_ixT (d := pD other) rfl)) (ed_cons (ev_whys hW (ev_op (ev_var rfl d1) ev_int (rv_ixT (d := .str (whyW wy)) rfl))) (ed_cons (ev_var rfl c) ed_nil))))
  cases key with
  | none =>
    refine q_when (et_test (ev_op (ev_var rfl c2) ev_non rv_isN)) g1.gh (fun _ G2 H2 g2 => ?_) fun hb => by cases hb
    exact s_asg ev_int g2.gh fun v G3 H3 g3 hv => s_ret (fin ((g1.trans g2).trans g3) hv rfl) g3.gh fun u G4 H4 g4 hu => k u G4 H4 (((g1.trans g2).trans g3).trans g4) hu
  | some i =>
    refine q_when (et_test (ev_op (ev_var rfl c2) ev_non rv_isN)) g1.gh (fun hb => by cases hb) fun _ G2 H2 g2 => ?_
    exact s_ret (fin (g1.trans g2) (Dt.mono g2.gg c2) rfl) g2.gh fun u G4 H4 g4 hu => k u G4 H4 ((g1.trans g2).trans g4) hu
end
end Sk
/-! Sk_edges -/
namespace Sk
open PySem PySem.Spec PyProof.Rows L2
open Evl (pss_cut tCut)
theorem looksE_take2 {h : Hist} (sm : h.Small) (wd : Option Lev) {d : Deal} (hd : d ∈ h.deals) (lv : Lev) : ∀ i, i ≤ d.looks.length → ((List.range i).flatMap (lookE h wd lv d.num d.looks)).length ≤ 4 * ((d.looks.take i).flatten).length
  | 0, _ => Nat.zero_le _
  | i + 1, hi => by
    have ih := looksE_take2 sm wd hd lv i (by omega)
    have hx : d.looks[i]? = some d.looks[i] := List.getElem?_eq_getElem hi
    rw [List.range_succ, List.flatMap_append, List.length_append, take_snoc hx, List.flatten_append, List.length_append]
    have h1 : ([i].flatMap (lookE h wd lv d.num d.looks)).length ≤ 4 * ([d.looks[i]].flatten).length := by
      rw [List.flatMap_cons, List.flatMap_nil, List.append_nil, List.flatten_cons, List.flatten_nil, List.append_nil]
      unfold lookE
      split
      · exact Nat.zero_le _
      · rename_i a _
        have h2 := flatMap_le (lookE1 h wd d.num a) 4 (d.looks.getD i []) fun x _ => lookE1_len sm wd _ a x
        have h3 : d.looks.getD i [] = d.looks[i] := by
          rw [List.getD_eq_getElem?_getD, hx]
          rfl
        rw [h3] at h2 ⊢
        omega
    omega
theorem looksE_len {h : Hist} (sm : h.Small) (wd : Option Lev) {d : Deal} (hd : d ∈ h.deals) : (looksE h wd d).length ≤ 800 := by
  have h1 := looksE_take2 sm wd hd (lvOf wd d) d.looks.length (Nat.le_refl _)
  have h2 := sm.pairs d hd
  rw [List.take_length] at h1
  unfold pairsOf at h2
  unfold looksE
  omega
theorem ownE1_len (num : Int) (n p : Nat) : (ownE1 num n p).length ≤ n := by
  unfold ownE1
  rw [List.length_map, List.length_range]
  omega
theorem own_take (num : Int) (n p : Nat) (hn : n ≤ 32) (hp : p ≤ n) : ((List.range p).flatMap (ownE1 num n)).length ≤ 1024 := by
  have h1 := flatMap_le (ownE1 num n) n (List.range p) fun x _ => ownE1_len num n x
  rw [List.length_range] at h1
  have : p * n ≤ 32 * 32 := Nat.mul_le_mul (by omega) hn
  omega
abbrev dealE (h : Hist) (wd : Option Lev) (d : Deal) : List Edge := ownE wd d ++ looksE h wd d
theorem dealE_len {h : Hist} (sm : h.Small) (wd : Option Lev) {d : Deal} (hd : d ∈ h.deals) : (dealE h wd d).length ≤ 2000 := by
  have h1 := looksE_len sm wd hd
  have h2 := spots_le (lvOf wd d) d.looks.length
  have h3 := sm.looks d hd
  have h4 := own_take d.num ((lvOf wd d).nSpots d.looks.length) _ (by omega) (Nat.le_refl _)
  rw [List.length_append]
  unfold ownE
  omega
theorem makesE_take {h : Hist} (sm : h.Small) (wd : Option Lev) (i : Nat) : ((h.makes.take i).flatMap (overE h wd)).length ≤ 64 := by
  have h1 := flatMap_le (overE h wd) 16 (h.makes.take i) fun km hkm => by
    have hk := sm.makers km (List.mem_of_mem_take hkm)
    have h2 := flatMap_le (overE1 h wd km.1 km.2) km.2.length (List.range km.2.length) fun x _ => overE1_len h wd km.1 km.2 x
    rw [List.length_range] at h2
    have : km.2.length * km.2.length ≤ 4 * 4 := Nat.mul_le_mul hk hk
    unfold overE
    omega
  have h2 := sm.makes
  rw [List.length_take] at h1
  have : min i h.makes.length ≤ 4 := by omega
  have := Nat.mul_le_mul_right 16 this
  omega
theorem dealsE_take {h : Hist} (sm : h.Small) (wd : Option Lev) (i : Nat) : ((h.deals.take i).flatMap (dealE h wd)).length ≤ 8000 := by
  have h1 := flatMap_le (dealE h wd) 2000 (h.deals.take i) fun d hd => dealE_len sm wd (List.mem_of_mem_take hd)
  have h2 := sm.deals
  rw [List.length_take] at h1
  have : min i h.deals.length ≤ 4 := by omega
  have := Nat.mul_le_mul_right 2000 this
  omega
theorem makes_inl {h : Hist} (ok : h.Ok) : (h.makes.map fun km => (Sum.inl km.1 : Key)).Nodup := by
  have := inl_nodup ok.knd
  rw [List.map_map] at this
  exact this
section
variable {P : Program} {w : World} {K : PySem.W.Frag} {mg : Str → Option Value} {base : Heap}
abbrev s_edges : Stmt := top 36
abbrev N_edges : List Str := ["history", "word", "levels", "keeps", "firsts", "makes", "found", "key", "makers", "number", "own", "looks", "many", "place", "later", "once", "edge"]
theorem sc_edges : FnScope N_edges ["history", "word"] (defScope s_edges) := ⟨rfl, rfl, rfl, by decide +kernel, rfl, by decide +kernel, by decide +kernel⟩
def mWays (h : Hist) (w : Option Lev) : MP := mDs fun x => ∃ fs : List Edge, x = .list (fs.map edgeD) ∧ fs.length ≤ 10000 ∧ ∀ e, e ∈ fs ↔ e ∈ edgesL h w
abbrev sp_edges : Sp := mkSp (α := Hist × Option Lev) (fun y => [mD (histD y.1), mD (wD y.2)]) (fun y => y.1.Ok ∧ y.1.Small) (fun y => mWays y.1 y.2)
theorem ok_edges {CL : Lev → Addr} {f : Addr} {fd : FuncData} (F : FunD K "edges" "edges" (defArgs s_edges) (defBody s_edges) (defScope s_edges) [.non] [] f fd) (L : LevK K mg CL) (O_levels_for : Own P w K mg base "levels_for" 2 ["history", "word"] [] (sp_levels_for CL)) (O_ends_of : Own P w K mg base "ends_of" 2 ["history", "levels"] [] (sp_ends_of CL)) (O_over_edges : Own P w K mg base "over_edges" 1 ["key", "makers", "keeps", "firsts"] [] sp_over_edges) (O_look_edges : Own P w K mg base "look_edges" 2 ["number", "looks", "level", "makes", "keeps"] [] (sp_look_edges CL)) (O_rank : Own P w K mg base "rank" 1 ["edge"] [] sp_rank) (z_range : mg "range" = none) (z_sorted : mg "sorted" = none) : FnOk P w K mg base CX0 4 f fd ["history", "word"] sp_edges := by
  have sc := sc_edges
  refine ok_mk F sc (fun _ => rfl) fun f cdv Ar outer s H E y G vs Q hr hok hGH hv k => ?_
  match vs, hv with
  | [v1, v2], ⟨h1, h2, _⟩ =>
  refine ⟨_, (pss_cons (ps_set (i := 2) sc.nd rfl (Or.inl rfl) (pe_own O_levels_for (hr.mono (by decide)) (by rfl) (pa_cons (pv 0) (pa_cons (pv 1) pa_nil))))
 (pss_cons (ps_asg (pe_own O_ends_of (hr.mono (by decide)) (by rfl) (pa_cons (pv 0) (pa_cons (pv 2) pa_nil))) (pg_tup rfl (pgs_cons (pg_name (i := 3) sc.nd rfl (Or.inl rfl)) (pgs_cons (pg_name (i := 4) sc.nd rfl (Or.inl rfl)) pgs_nil))))
 (pss_cons (ps_set (i := 5) sc.nd rfl (Or.inl rfl) pe_dnewK)
 (pss_cons (ps_set (i := 6) sc.nd rfl (Or.inl rfl) (pe_lst pa_nil))
 (pss_cons (ps_for PassesOwn.never rfl (pi_list (pe_ix ix_tup (pv 0) pe_int (fun _ _ => rfl))) (pg_tup rfl (pgs_cons (pg_name (i := 7) sc.nd rfl (Or.inl rfl)) (pgs_cons (pg_name (i := 8) sc.nd rfl (Or.inl rfl)) pgs_nil))) (pss_cons (ps_dput (hu_of hr) (pv 5) (pv 7) (pv 8) rfl)
 (pss_one (ps_expr (pe_bm PySem.F.plainAttrs_list PySem.F.slot_list_extend PySem.F.type_list_extend mt_extend (pv 6) (pa_cons (pe_own O_over_edges (hr.mono (by decide)) (by rfl) (pa_cons (pv 7) (pa_cons (pv 8) (pa_cons (pv 3) (pa_cons (pv 4) pa_nil))))) pa_nil))))))
 (pss_cons (ps_for PassesOwn.never rfl (pi_list (pe_ix ix_tup (pv 0) pe_int (fun _ _ => rfl))) (pg_tup rfl (pgs_cons (pg_name (i := 9) sc.nd rfl (Or.inl rfl)) (pgs_cons (pg_name (i := 10) sc.nd rfl (Or.inl rfl)) (pgs_cons (pg_name (i := 11) sc.nd rfl (Or.inl rfl)) pgs_nil)))) (pss_cons (ps_set (i := 12) sc.nd rfl (Or.inl rfl) (pe_op op_add (pe_ix ix_tup (pe_dget (hu_of hr) (pv 3) (pv 9) (fun _ _ => rfl)) pe_int (fun _ _ => rfl)) pe_int))
 (pss_cons (ps_for PassesOwn.never rfl (pi_range1 (by rfl) z_range (pa_cons (pv 12) pa_nil)) (pg_name (i := 13) sc.nd rfl (Or.inl rfl)) (pss_one (ps_for PassesOwn.never rfl (pi_range2 (by rfl) z_range (pa_cons (pe_op op_add (pv 13) pe_int) (pa_cons (pv 12) pa_nil))) (pg_name (i := 14) sc.nd rfl (Or.inl rfl)) (pss_one (ps_expr (pe_bm PySem.F.plainAttrs_list PySem.F.slot_list_append PySem.F.type_list_append mt_append (pv 6) (pa_cons (pe_tup (pa_cons (pe_tup (pa_cons (pv 9) (pa_cons (pv 13) pa_nil))) (pa_cons (pe_tup (pa_cons (pv 9) (pa_cons (pv 14) pa_nil))) (pa_cons pe_str (pa_cons pe_non pa_nil))))) pa_nil)))))))
 (pss_one (ps_expr (pe_bm PySem.F.plainAttrs_list PySem.F.slot_list_extend PySem.F.type_list_extend mt_extend (pv 6) (pa_cons (pe_own O_look_edges (hr.mono (by decide)) (by rfl) (pa_cons (pv 9) (pa_cons (pv 11) (pa_cons (pe_dget (hu_of hr) (pv 2) (pv 9) (fun _ _ => rfl)) (pa_cons (pv 5) (pa_cons (pv 3) pa_nil)))))) pa_nil)))))))
 (pss_cons (ps_set (i := 15) sc.nd rfl (Or.inl rfl) pe_dnewN)
 (pss_cons (ps_for PassesOwn.never rfl (pi_list (pv 6)) (pg_name (i := 16) sc.nd rfl (Or.inl rfl)) (pss_one (ps_nput hr.units (pv 15) (pv 16) pe_bl rfl)))
 (pss_one (ps_ret (pe_sortedRank rfl O_rank (hr.mono (by decide)) (by rfl) z_sorted (by rfl) (by decide +kernel) (pv 15)))))))))))), ?_⟩
  obtain ⟨h, wd⟩ := y
  obtain ⟨ok, sm⟩ := hok
  have ok : h.Ok := ok
  have sm : h.Small := sm
  have h1 : Dt G v1 (histD h) := h1
  have h2 : Dt G v2 (wD wd) := h2
  have sml := sm.deals
  have smk := sm.makes
  refine q_asg (ev_call (h, wd) ⟨ok, sm⟩ (ea_cons (ev_var rfl h1) (ea_cons (ev_var rfl h2) ea_nil))) hGH fun v3 G1 H1 g1 h3 => ?_
  have h3 : (mK (levL CL h wd)).p G1 v3 := h3
  refine q_2P (ev_call (h, wd) ⟨ok, sm⟩ (ea_cons (ev_var rfl (Dt.mono g1.gg h1)) (ea_cons (ev_var rfl h3) ea_nil))) g1.gh fun v4 v5 G2 H2 g2 h4 h5 => ?_
  have h4 : (mK (keepL h wd)).p G2 v4 := h4
  have h5 : (mK (firstL h wd)).p G2 v5 := h5
  have g12 := g1.trans g2
  refine q_newK g12.gh fun pm hpm' hpm0 => ?_
  have hpm : H pm = none := g12.hh.non hpm'
  have g3 : Grow G H G2 (upd H2 pm (.dK [])) := g12.mut hpm hpm0
  refine q_newL g3.gh fun pf hpf' hpf0 => ?_
  have hpf : H pf = none := g3.hh.non hpf'
  have nmf : pm ≠ pf := ne_of_none (upd_same (H := H2) (o := .dK [])) hpf'
  have g4 : Grow G H G2 (upd (upd H2 pm (.dK [])) pf (.lst [])) := g3.mut hpf hpf0
  refine q_forD (ev_op (ev_var rfl (Dt.mono g12.gg h1)) ev_int (rv_ixT (d := .list (h.makes.map makeD)) rfl)) g4.gh (fun i σ' G' H' => ∃ u7 u8, σ' = [some v1, some v2, some v3, some v4, some v5, some (.ref pm), some (.ref pf), u7, u8, none, none, none, none, none, none, none, none] ∧ Grow G H G' H' ∧ Ex G2 G' ∧ MK G' H' pm ((h.makes.take i).map fun km => ((.inl km.1 : Key), mD (.list (dI km.2)))) ∧ ML G' H' pf (((h.makes.take i).flatMap (overE h wd)).map edgeD)) ?_ ?_ ?_
  · intro G5 H5 g5
    exact ⟨none, none, rfl, g4.trans g5, g5.gg, ((MK.new hpm0).other nmf).grow g5, (ML.new hpf0).grow g5⟩
  · rintro Gs i dd x σ' G' H' hi hx x1 x2 ⟨u7, u8, rfl, g', ex, mm, mf⟩
    obtain ⟨km, q, rfl⟩ := map_some hi
    have hkm := List.mem_of_getElem? q
    have hil := (List.getElem?_eq_some_iff.mp q).1
    have hb1 := makesE_take sm wd i
    have hb2 := makesE_take sm wd (i + 1)
    refine g_2 hx x2 fun w7 w8 c7 c8 => ?_
    refine q_putK (k := .inl km.1) (m := mD (.list (dI km.2))) mm x2 (ev_var rfl c8) (ev_varV rfl) (ev_var rfl c7) (by rw [List.length_map, List.length_take]; omega) fun G5 H5 b5 mm5 => ?_
    rw [put_next (fun km : Int × List Int => (.inl km.1 : Key)) (fun km => mD (.list (dI km.2))) (makes_inl ok) q] at mm5
    have g5 := g'.thenB hpm b5
    have mf5 := mf.growB (Ne.symm nmf) b5
    have e5 := ex.trans b5.gg
    have et : (h.makes.take (i + 1)).flatMap (overE h wd) = (h.makes.take i).flatMap (overE h wd) ++ overE h wd km := by
      rw [take_snoc q, List.flatMap_append]
      simp
    rw [et, List.length_append] at hb2
    refine s_ext mf5 g5.gh (ev_varV rfl) (ev_call (h, wd, km) ⟨ok, sm, hkm⟩ (ea_cons (ev_var rfl (Dt.mono b5.gg c7)) (ea_cons (ev_var rfl (Dt.mono b5.gg c8)) (ea_cons (ev_var rfl ((mK (keepL h wd)).mono e5 h4)) (ea_cons (ev_var rfl ((mK (firstL h wd)).mono e5 h5)) ea_nil))))) (by rw [List.length_map, List.length_map]; show _ + (overE h wd km).length ≤ _; omega) fun G6 H6 b6 mf6 => ?_
    refine ⟨G6, (x1.trans b5.gg).trans b6.gg, b6.gh, some w7, some w8, rfl, g5.thenB hpf b6, e5.trans b6.gg, mm5.growB nmf b6, ?_⟩
    rw [et, List.map_append]
    exact mf6
  rintro σ' G5 H5 x5 ⟨u7, u8, rfl, g5, e5, mm, mf⟩
  rw [List.length_map, List.take_length] at mm mf
  obtain ⟨G6, g6, e6, n6, hmk⟩ := mm.ret g5 hpm
  have hmk : (mK (mksL h)).p G6 (.ref pm) := hmk
  have mf6 := mf.over e6 (by rw [n6 pf (Ne.symm nmf)]; exact mf.1)
  have e26 := e5.trans e6
  have hM := makesE_take sm wd h.makes.length
  rw [List.take_length] at hM
  clear mm mf
  refine q_forD (ev_op (ev_var rfl (Dt.mono g6.gg h1)) ev_int (rv_ixT (d := .list (h.deals.map dealD)) rfl)) g6.gh (fun i σ' G' H' => ∃ u9 u10 u11 u12 u13 u14, σ' = [some v1, some v2, some v3, some v4, some v5, some (.ref pm), some (.ref pf), u7, u8, u9, u10, u11, u12, u13, u14, none, none] ∧ Grow G H G' H' ∧ Ex G6 G' ∧ ML G' H' pf ((h.makes.flatMap (overE h wd) ++ (h.deals.take i).flatMap (dealE h wd)).map edgeD)) ?_ ?_ ?_
  · intro G7 H7 g7
    exact ⟨none, none, none, none, none, none, rfl, g6.trans g7, g7.gg, by simpa using mf6.grow g7⟩
  · rintro Gs i dd x σ' G' H' hi hx x1 x2 ⟨u9, u10, u11, u12, u13, u14, rfl, g', ex, mf⟩
    obtain ⟨a, q, rfl⟩ := map_some hi
    have ham := List.mem_of_getElem? q
    have hD := dealsE_take sm wd i
    have hlk := sm.looks a ham
    have hns := spots_le (lvOf wd a) a.looks.length
    have hLL := looksE_len sm wd ham
    generalize hA : h.makes.flatMap (overE h wd) ++ (h.deals.take i).flatMap (dealE h wd) = A at mf
    have hAl : A.length ≤ 9000 := by
      rw [← hA, List.length_append]
      omega
    generalize hN : (lvOf wd a).nSpots a.looks.length = n at hns
    refine g_3 hx x2 fun w9 w10 w11 d9 d10 d11 => ?_
    have d9 : Dt G' w9 (.int a.num) := d9
    refine q_asg (m := mD (.int (n : Int))) (Ev.is (ev_op (ev_op (ev_dgetK (k := .inl a.num) (l := keepL h wd) (ev_var rfl ((mK (keepL h wd)).mono (e26.trans ex) h4)) (ev_var rfl d9) (look_keep (List.mem_map.mpr ⟨a, ham, rfl⟩))) ev_int (rv_ixT (d := .int ((n : Int) - 1)) (by rw [keepAt_of ok ham]; unfold keepOf; rw [hN]; rfl))) ev_int rv_I0) (by show PyData.int ((n : Int) - 1 + 1) = .int (n : Int); congr 1; omega)) x2 fun v12 G7 H7 g7 c12 => ?_
    obtain rfl := Dt.int_iff.mp c12
    refine q_forR1 (n := (n : Int)) (ed_cons (ev_var rfl (Dt.int _)) ed_nil) g7.gh (by omega) (fun p σ'' G'' H'' => ∃ u13 u14, σ'' = [some v1, some v2, some v3, some v4, some v5, some (.ref pm), some (.ref pf), u7, u8, some w9, some w10, some w11, some (.int (n : Int)), u13, u14, none, none] ∧ Grow G H G'' H'' ∧ Ex G7 G'' ∧ ML G'' H'' pf ((A ++ (List.range p).flatMap (ownE1 a.num n)).map edgeD)) ?_ ?_ ?_
    · intro G8 H8 g8
      exact ⟨u13, u14, rfl, (g'.trans g7).trans g8, g8.gg, by simpa using (mf.grow g7).grow g8⟩
    · rintro p σ'' G'' H'' hp y2 ⟨u13, u14, rfl, g'', ey, ml⟩
      have hpl : p < n := by omega
      have hO := own_take a.num n p (by omega) (by omega)
      have dn := Dt.mono (g7.gg.trans ey) d9
      have er : (List.range (p + 1)).flatMap (ownE1 a.num n) = (List.range p).flatMap (ownE1 a.num n) ++ ownE1 a.num n p := by
        rw [List.range_succ, List.flatMap_append]
        simp
      refine s_forR (lo := (p : Int) + 1) (n := (n : Int)) (ed_cons (ev_op (ev_var rfl (Dt.int _)) ev_int rv_I0) (ed_cons (ev_var rfl (Dt.int _)) ed_nil)) y2 (by omega)
        (fun j σ3 G3 H3 => ∃ u14, σ3 = [some v1, some v2, some v3, some v4, some v5, some (.ref pm), some (.ref pf), u7, u8, some w9, some w10, some w11, some (.int (n : Int)), some (.int (p : Int)), u14, none, none] ∧ Grow G H G3 H3 ∧ Ex G'' G3 ∧ ML G3 H3 pf (((A ++ (List.range p).flatMap (ownE1 a.num n)) ++ (List.range j).map fun (j : Nat) => (⟨(a.num, (p : Int)), (a.num, ((p + 1 + j : Nat) : Int)), .own, none⟩ : Edge)).map edgeD)) ?_ ?_ ?_
      · intro G8 H8 g8
        exact ⟨u14, rfl, g''.trans g8, g8.gg, by simpa using ml.grow g8⟩
      · rintro j σ3 G3 H3 hj z2 ⟨u14, rfl, g3, ez, ml3⟩
        have hjl : p + 1 + j < n := by omega
        have e2 : ((p : Int) + 1 + (j : Int)) = ((p + 1 + j : Nat) : Int) := by omega
        have dn3 := Dt.mono ez dn
        refine s_app (d := edgeD ⟨(a.num, (p : Int)), (a.num, ((p + 1 + j : Nat) : Int)), .own, none⟩) ml3 z2 (ev_varV rfl) (ev_tup (ed_cons (ev_tup (ed_cons (ev_var rfl dn3) (ed_cons (ev_var rfl (Dt.int _)) ed_nil))) (ed_cons (ev_tup (ed_cons (ev_var rfl dn3) (ed_cons (ev_var rfl (by rw [e2]; exact Dt.int _)) ed_nil))) (ed_cons ev_str (ed_cons ev_non ed_nil))))) (by rw [List.length_map, List.length_append, List.length_append, List.length_map, List.length_range]; omega) fun G8 H8 b8 ml8 => ?_
        refine ⟨G8, b8.gh, some (.int ((p : Int) + 1 + (j : Int))), rfl, g3.thenB hpf b8, ez.trans b8.gg, ?_⟩
        have e : ((A ++ (List.range p).flatMap (ownE1 a.num n)) ++ (List.range (j + 1)).map fun (j : Nat) => (⟨(a.num, (p : Int)), (a.num, ((p + 1 + j : Nat) : Int)), .own, none⟩ : Edge)).map edgeD = ((A ++ (List.range p).flatMap (ownE1 a.num n)) ++ (List.range j).map fun (j : Nat) => (⟨(a.num, (p : Int)), (a.num, ((p + 1 + j : Nat) : Int)), .own, none⟩ : Edge)).map edgeD ++ [edgeD ⟨(a.num, (p : Int)), (a.num, ((p + 1 + j : Nat) : Int)), .own, none⟩] := by
          simp only [List.range_succ, List.map_append, List.append_assoc]
          rfl
        rw [e]
        exact ml8
      · rintro σ3 G3 H3 z2 ⟨u14, rfl, g3, ez, ml3⟩
        refine ⟨G3, z2, some (.int (p : Int)), u14, rfl, g3, ey.trans ez, ?_⟩
        have e : ((n : Int) - ((p : Int) + 1)).toNat = n - (p + 1) := by omega
        rw [e] at ml3
        rw [er, ← List.append_assoc]
        exact ml3
    · rintro σ'' G'' H'' y2 ⟨u13, u14, rfl, g'', ey, ml⟩
      have ml : ML G'' H'' pf ((A ++ (List.range n).flatMap (ownE1 a.num n)).map edgeD) := ml
      have hO := own_take a.num n n (by omega) (Nat.le_refl _)
      have eg := g7.gg.trans ey
      refine s_ext ml y2 (ev_varV rfl) (ev_call (h, wd, a) ⟨ok, sm, ham⟩ (ea_cons (ev_var rfl (Dt.mono eg d9)) (ea_cons (ev_var rfl (Dt.mono eg d11)) (ea_cons (ev_dgetK (k := .inl a.num) (l := levL CL h wd) (ev_var rfl ((mK (levL CL h wd)).mono (g2.gg.trans (e26.trans (ex.trans eg))) h3)) (ev_var rfl (Dt.mono eg d9)) (look_lev ok ham)) (ea_cons (ev_var rfl ((mK (mksL h)).mono (ex.trans eg) hmk)) (ea_cons (ev_var rfl ((mK (keepL h wd)).mono (e26.trans (ex.trans eg)) h4)) ea_nil)))))) (by rw [List.length_map, List.length_map, List.length_append]; show _ + (looksE h wd a).length ≤ _; omega) fun G8 H8 b8 ml8 => ?_
      refine ⟨G8, (x1.trans eg).trans b8.gg, b8.gh, some w9, some w10, some w11, some (.int (n : Int)), u13, u14, rfl, g''.thenB hpf b8, (ex.trans eg).trans b8.gg, ?_⟩
      have et : (h.deals.take (i + 1)).flatMap (dealE h wd) = (h.deals.take i).flatMap (dealE h wd) ++ (ownE wd a ++ looksE h wd a) := by
        rw [take_snoc q, List.flatMap_append]
        simp
      have eo : ownE wd a = (List.range n).flatMap (ownE1 a.num n) := by
        unfold ownE
        rw [hN]
      rw [et, ← List.append_assoc, hA, eo, ← List.append_assoc, List.map_append]
      exact ml8
  rintro σ' G7 H7 x7 ⟨u9, u10, u11, u12, u13, u14, rfl, g7, _, mf⟩
  rw [List.length_map, List.take_length] at mf
  have hD := dealsE_take sm wd h.deals.length
  rw [List.take_length] at hD
  have hE : (edgesL h wd).length ≤ 10000 := by
    unfold edgesL
    rw [List.length_append]
    have : (h.deals.flatMap fun d => ownE wd d ++ looksE h wd d).length ≤ 8000 := hD
    omega
  obtain ⟨G8, g8, rf⟩ := mf.ret g7 hpf
  have rf : Dt G8 (.ref pf) (.list ((edgesL h wd).map edgeD)) := rf
  generalize he : edgesL h wd = es at rf hE
  refine q_newN (P := P) (w := w) g8.gh fun po hpo' hpo0 => ?_
  have hpo : H po = none := g8.hh.non hpo'
  have g9 : Grow G H G8 (upd H7 po (.ext (PhiN P w po []))) := g8.mut hpo hpo0
  refine q_forDn (ev_var rfl rf) g9.gh (fun i σ' G' H' => ∃ u16, σ' = [some v1, some v2, some v3, some v4, some v5, some (.ref pm), some (.ref pf), u7, u8, u9, u10, u11, u12, u13, u14, some (.ref po), u16] ∧ Grow G H G' H' ∧ MN P w G' H' po (es.take i)) ?_ ?_ ?_
  · intro G10 H10 g10
    exact ⟨none, rfl, g9.trans g10, (MN.new hpo0).grow g10⟩
  · rintro Gs i dd x σ' G' H' hi hx x1 x2 ⟨u16, rfl, g', mn⟩
    obtain ⟨e, q, rfl⟩ := map_some hi
    have hil := (List.getElem?_eq_some_iff.mp q).1
    refine s_nput (m := mD (.bool true)) mn x2 ev_bl (ev_varV rfl) (ev_var rfl hx) (by rw [List.length_take]; omega) fun G10 H10 b10 mn10 => ⟨G10, x1.trans b10.gg, b10.gh, some x, rfl, g'.thenB hpo b10, by rw [take_snoc q]; exact mn10⟩
  · rintro σ' G' H' x2 ⟨u16, rfl, g', mn⟩
    rw [List.length_map, List.take_length] at mn
    exact s_ret (ev_sortF mn (ev_varV rfl)) x2 fun v G10 H10 g10 ⟨d, ⟨fs, f1, f2, f3⟩, hd⟩ => k v G10 H10 (g'.trans g10) ⟨d, ⟨fs, f1, by omega, fun e => (f3 e).trans (by rw [← he])⟩, hd⟩
theorem own_edges {CL : Lev → Addr} (A : DefAt K mg "edges" s_edges [.non]) (L : LevK K mg CL) (O_levels_for : Own P w K mg base "levels_for" 2 ["history", "word"] [] (sp_levels_for CL)) (O_ends_of : Own P w K mg base "ends_of" 2 ["history", "levels"] [] (sp_ends_of CL)) (O_over_edges : Own P w K mg base "over_edges" 1 ["key", "makers", "keeps", "firsts"] [] sp_over_edges) (O_look_edges : Own P w K mg base "look_edges" 2 ["number", "looks", "level", "makes", "keeps"] [] (sp_look_edges CL)) (O_rank : Own P w K mg base "rank" 1 ["edge"] [] sp_rank) (z_range : mg "range" = none) (z_sorted : mg "sorted" = none) : Own P w K mg base "edges" 4 ["history", "word"] [] sp_edges :=
  own_D A (fun f fd F => F.binds1 2 1 (fun h => nomatch h) rfl fun T kV doc pm an cdv ct us its h1 h2 => match us, its, h1, h2 with | [_, _], [_], _, _ => ⟨_, rfl, rfl⟩) fun f fd F => ok_edges F L O_levels_for O_ends_of O_over_edges O_look_edges O_rank z_range z_sorted
theorem ownD_edges {CL : Lev → Addr} (A : DefAt K mg "edges" s_edges [.non]) (L : LevK K mg CL) (O_levels_for : Own P w K mg base "levels_for" 2 ["history", "word"] [] (sp_levels_for CL)) (O_ends_of : Own P w K mg base "ends_of" 2 ["history", "levels"] [] (sp_ends_of CL)) (O_over_edges : Own P w K mg base "over_edges" 1 ["key", "makers", "keeps", "firsts"] [] sp_over_edges) (O_look_edges : Own P w K mg base "look_edges" 2 ["number", "looks", "level", "makes", "keeps"] [] (sp_look_edges CL)) (O_rank : Own P w K mg base "rank" 1 ["edge"] [] sp_rank) (z_range : mg "range" = none) (z_sorted : mg "sorted" = none) : Own P w K mg base "edges" 4 ["history", "word"] [.non] sp_edges :=
  own_D A (fun f fd F => F.binds1 1 0 (fun h => nomatch h) rfl fun T kV doc pm an cdv ct us its h1 h2 => match us, its, h1, h2 with | [_], [_], _, _ => ⟨_, rfl, rfl⟩) fun f fd F => ok_edges F L O_levels_for O_ends_of O_over_edges O_look_edges O_rank z_range z_sorted
end
end Sk
/-! Sk_first_edge -/
namespace Sk
open PySem PySem.Spec PyProof.Rows L2
open Evl (pss_cut tCut)
section
variable {P : Program} {w : World} {K : PySem.W.Frag} {mg : Str → Option Value} {base : Heap}
abbrev s_first_edge : Stmt := top 39
abbrev N_first_edge : List Str := ["ways", "one", "other", "edge"]
theorem sc_first_edge : FnScope N_first_edge ["ways", "one", "other"] (defScope s_first_edge) := ⟨rfl, rfl, rfl, by decide +kernel, rfl, by decide +kernel, by decide +kernel⟩
abbrev sp_first_edge : Sp := mkSp (α := List Edge × Node × Node) (fun y => [mD (.list (y.1.map edgeD)), mD (pD y.2.1), mD (pD y.2.2)]) (fun _ => True) (fun _ => mDs fun _ => True)
theorem own_first_edge  (A : DefAt K mg "first_edge" s_first_edge [])  : Own P w K mg base "first_edge" 1 ["ways", "one", "other"] [] sp_first_edge := by
  have sc := sc_first_edge
  refine own_mk A sc (fun _ _ _ _ _ _ us hl => match us, hl with | [_, _, _], _ => rfl) (fun _ => rfl) fun f cdv Ar outer s H E y G vs Q hr hok hGH hv k => ?_
  match vs, hv with
  | [v1, v2, v3], ⟨h1, h2, h3, _⟩ =>
  refine ⟨_, (pss_cons (ps_for PassesOwn.never rfl (pi_list (pv 0)) (pg_name (i := 3) sc.nd rfl (Or.inl rfl)) (pss_one (ps_if (PW.pt (pw_and (pt_cmpR (op_eqD hr.units) (pe_ix ix_tup (pv 3) pe_int (fun _ _ => rfl)) (pv 1) (nomark _)) (pw_and1 (pt_cmpR (op_eqD hr.units) (pe_ix ix_tup (pv 3) pe_int (fun _ _ => rfl)) (pv 2) (nomark _))))) (pss_one (ps_ret (pv 3))) pss_nil)))
 (pss_one (ps_ret pe_non))), ?_⟩
  obtain ⟨es, one, other⟩ := y
  have h2 : Dt G v2 (pD one) := h2
  have h3 : Dt G v3 (pD other) := h3
  refine q_forDn (ev_var rfl h1) hGH (fun i σ' G' H' => ∃ u4, σ' = [some v1, some v2, some v3, u4] ∧ Grow G H G' H') ?_ ?_ ?_
  · intro G2 H2 g2
    exact ⟨none, rfl, g2⟩
  · rintro Gs i dd x σ' G' H' hi hx x1 x2 ⟨u4, rfl, g'⟩
    obtain ⟨e, q, rfl⟩ := map_some hi
    refine s_when (et_and (et_test (ev_op (ev_op (ev_var rfl hx) ev_int (rv_ixT (d := pD e.one) rfl)) (ev_var rfl (Dt.mono g'.gg h2)) (rv_eqD (shaped_node e.one) (shaped_node one)))) fun _ => et_test (ev_op (ev_op (ev_var rfl hx) ev_int (rv_ixT (d := pD e.other) rfl)) (ev_var rfl (Dt.mono g'.gg h3)) (rv_eqD (shaped_node e.other) (shaped_node other)))) x2 (fun hb G2 H2 g2 => ?_) fun hb G2 H2 g2 => ⟨G2, x1.trans g2.gg, g2.gh, some x, rfl, g'.trans g2⟩
    exact s_ret (ev_var (m := mD (edgeD e)) rfl (Dt.mono g2.gg hx)) g2.gh fun v G3 H3 g3 hv => k v G3 H3 ((g'.trans g2).trans g3) ⟨_, trivial, hv⟩
  · rintro σ' G' H' x2 ⟨u4, rfl, g'⟩
    exact s_ret ev_non x2 fun v G2 H2 g2 hv => k v G2 H2 (g'.trans g2) ⟨_, trivial, hv⟩
end
end Sk
/-! Sk_first_spot_Hold -/
namespace Sk
open PySem PySem.Spec PyProof.Rows L2
open Evl (pss_cut tCut)
section
variable {P : Program} {w : World} {K : PySem.W.Frag} {mg : Str → Option Value} {base : Heap}
abbrev s_first_spot_Hold : Stmt := inClass (top 25) 4
abbrev N_first_spot_Hold : List Str := ["self", "looks"]
theorem sc_first_spot_Hold : FnScope N_first_spot_Hold ["self", "looks"] (defScope s_first_spot_Hold) := ⟨rfl, rfl, rfl, by decide +kernel, rfl, by decide +kernel, by decide +kernel⟩
abbrev sp_first_spot_Hold : Sp := spM_first_spot .hold
theorem ok_first_spot_Hold {f : Addr} {fd : FuncData} (F : FunD K "first_spot" "Hold.first_spot" (defArgs s_first_spot_Hold) (defBody s_first_spot_Hold) (defScope s_first_spot_Hold) [] [] f fd)  : FnOk P w K mg base CX0 1 f fd ["self", "looks"] sp_first_spot_Hold := by
  have sc := sc_first_spot_Hold
  refine ok_mkM F sc (fun _ => rfl) fun f cdv Ar outer s H E y G vs Q hr hok hGH hv k => ?_
  match vs, hv with
  | [v1, v2], ⟨_, h2, _⟩ =>
  refine ⟨_, (pss_one (ps_ret pe_int)), ?_⟩
  exact s_ret (m := mD (.int 0)) ev_int hGH fun v G1 H1 g1 hv => k v G1 H1 g1 hv
end
end Sk
/-! Sk_first_spot_Kept -/
namespace Sk
open PySem PySem.Spec PyProof.Rows L2
open Evl (pss_cut tCut)
section
variable {P : Program} {w : World} {K : PySem.W.Frag} {mg : Str → Option Value} {base : Heap}
abbrev s_first_spot_Kept : Stmt := inClass (top 22) 4
abbrev N_first_spot_Kept : List Str := ["self", "looks"]
theorem sc_first_spot_Kept : FnScope N_first_spot_Kept ["self", "looks"] (defScope s_first_spot_Kept) := ⟨rfl, rfl, rfl, by decide +kernel, rfl, by decide +kernel, by decide +kernel⟩
abbrev sp_first_spot_Kept : Sp := spM_first_spot .kept
theorem ok_first_spot_Kept {f : Addr} {fd : FuncData} (F : FunD K "first_spot" "Kept.first_spot" (defArgs s_first_spot_Kept) (defBody s_first_spot_Kept) (defScope s_first_spot_Kept) [] [] f fd)  : FnOk P w K mg base CX0 1 f fd ["self", "looks"] sp_first_spot_Kept := by
  have sc := sc_first_spot_Kept
  refine ok_mkM F sc (fun _ => rfl) fun f cdv Ar outer s H E y G vs Q hr hok hGH hv k => ?_
  match vs, hv with
  | [v1, v2], ⟨_, h2, _⟩ =>
  refine ⟨_, (pss_one (ps_ret (pv 1))), ?_⟩
  exact s_ret (m := mD (.int (y : Int))) (ev_var rfl h2) hGH fun v G1 H1 g1 hv => k v G1 H1 g1 hv
end
end Sk
/-! Sk_first_spot_Loose -/
namespace Sk
open PySem PySem.Spec PyProof.Rows L2
open Evl (pss_cut tCut)
section
variable {P : Program} {w : World} {K : PySem.W.Frag} {mg : Str → Option Value} {base : Heap}
abbrev s_first_spot_Loose : Stmt := inClass (top 21) 8
abbrev N_first_spot_Loose : List Str := ["self", "looks"]
theorem sc_first_spot_Loose : FnScope N_first_spot_Loose ["self", "looks"] (defScope s_first_spot_Loose) := ⟨rfl, rfl, rfl, by decide +kernel, rfl, by decide +kernel, by decide +kernel⟩
abbrev sp_first_spot_Loose : Sp := spM_first_spot .loose
theorem ok_first_spot_Loose {f : Addr} {fd : FuncData} (F : FunD K "first_spot" "Loose.first_spot" (defArgs s_first_spot_Loose) (defBody s_first_spot_Loose) (defScope s_first_spot_Loose) [] [] f fd)  : FnOk P w K mg base CX0 1 f fd ["self", "looks"] sp_first_spot_Loose := by
  have sc := sc_first_spot_Loose
  refine ok_mkM F sc (fun _ => rfl) fun f cdv Ar outer s H E y G vs Q hr hok hGH hv k => ?_
  match vs, hv with
  | [v1, v2], ⟨_, h2, _⟩ =>
  refine ⟨_, (pss_one (ps_ret pe_int)), ?_⟩
  exact s_ret (m := mD (.int 0)) ev_int hGH fun v G1 H1 g1 hv => k v G1 H1 g1 hv
end
end Sk
/-! Sk_first_spot_Make -/
namespace Sk
open PySem PySem.Spec PyProof.Rows L2
open Evl (pss_cut tCut)
section
variable {P : Program} {w : World} {K : PySem.W.Frag} {mg : Str → Option Value} {base : Heap}
abbrev s_first_spot_Make : Stmt := inClass (top 23) 5
abbrev N_first_spot_Make : List Str := ["self", "looks"]
theorem sc_first_spot_Make : FnScope N_first_spot_Make ["self", "looks"] (defScope s_first_spot_Make) := ⟨rfl, rfl, rfl, by decide +kernel, rfl, by decide +kernel, by decide +kernel⟩
abbrev sp_first_spot_Make : Sp := spM_first_spot .make
theorem ok_first_spot_Make {f : Addr} {fd : FuncData} (F : FunD K "first_spot" "Make.first_spot" (defArgs s_first_spot_Make) (defBody s_first_spot_Make) (defScope s_first_spot_Make) [] [] f fd)  : FnOk P w K mg base CX0 1 f fd ["self", "looks"] sp_first_spot_Make := by
  have sc := sc_first_spot_Make
  refine ok_mkM F sc (fun _ => rfl) fun f cdv Ar outer s H E y G vs Q hr hok hGH hv k => ?_
  match vs, hv with
  | [v1, v2], ⟨_, h2, _⟩ =>
  refine ⟨_, (pss_one (ps_ret pe_int)), ?_⟩
  exact s_ret (m := mD (.int 0)) ev_int hGH fun v G1 H1 g1 hv => k v G1 H1 g1 hv
end
end Sk
/-! Sk_unkept -/
namespace Sk
open PySem PySem.Spec PyProof.Rows L2
open Evl (pss_cut tCut)
section
variable {P : Program} {w : World} {K : PySem.W.Frag} {mg : Str → Option Value} {base : Heap}
abbrev s_unkept : Stmt := top 38
abbrev N_unkept : List Str := ["history", "word", "levels", "number", "own", "looks", "place", "key", "source"]
theorem sc_unkept : FnScope N_unkept ["history", "word"] (defScope s_unkept) := ⟨rfl, rfl, rfl, by decide +kernel, rfl, by decide +kernel, by decide +kernel⟩
def KeptBy (w : Option Lev) (d : Deal) : Prop := lvOf w d ≠ .loose → ∀ p ∈ pairsOf d, p.2 ≠ -1
abbrev sp_unkept : Sp := mkSp (α := Hist × Option Lev) (fun y => [mD (histD y.1), mD (wD y.2)]) (fun y => y.1.Ok ∧ y.1.Small) (fun y => mDs fun x => (x = .none ∧ ∀ d ∈ y.1.deals, KeptBy y.2 d) ∨ ∃ a b c : Int, x = .tuple [.int a, .int b, .int c])
theorem ok_unkept {CL : Lev → Addr} {f : Addr} {fd : FuncData} (F : FunD K "unkept" "unkept" (defArgs s_unkept) (defBody s_unkept) (defScope s_unkept) [.non] [] f fd) (L : LevK K mg CL) (O_levels_for : Own P w K mg base "levels_for" 2 ["history", "word"] [] (sp_levels_for CL)) (O_m_unkept : OwnM P w K mg base CL "unkept" 1 spM_unkept) (z_len : mg "len" = none) (z_range : mg "range" = none) : FnOk P w K mg base CX0 3 f fd ["history", "word"] sp_unkept := by
  have sc := sc_unkept
  refine ok_mk F sc (fun _ => rfl) fun f cdv Ar outer s H E y G vs Q hr hok hGH hv k => ?_
  match vs, hv with
  | [v1, v2], ⟨h1, h2, _⟩ =>
  refine ⟨_, (pss_cons (ps_set (i := 2) sc.nd rfl (Or.inl rfl) (pe_own O_levels_for (hr.mono (by decide)) (by rfl) (pa_cons (pv 0) (pa_cons (pv 1) pa_nil))))
 (pss_cons (ps_for PassesOwn.never rfl (pi_list (pe_ix ix_tup (pv 0) pe_int (fun _ _ => rfl))) (pg_tup rfl (pgs_cons (pg_name (i := 3) sc.nd rfl (Or.inl rfl)) (pgs_cons (pg_name (i := 4) sc.nd rfl (Or.inl rfl)) (pgs_cons (pg_name (i := 5) sc.nd rfl (Or.inl rfl)) pgs_nil)))) (pss_cons (ps_if (pt_val (pe_lm0 O_m_unkept L (hr.mono (by decide)) (pe_dget (hu_of hr) (pv 2) (pv 3) (fun _ _ => rfl)))) (pss_one ps_continue) pss_nil)
 (pss_one (ps_for PassesOwn.never rfl (pi_range1 (by rfl) z_range (pa_cons (pe_callB call_len_seq (by rfl) z_len PySem.boot_len (pa_cons (pv 5) pa_nil)) pa_nil)) (pg_name (i := 6) sc.nd rfl (Or.inl rfl)) (pss_one (ps_for PassesOwn.never rfl (pi_list (pe_ix ix_list (pv 5) (pv 6) (fun _ _ => rfl))) (pg_tup rfl (pgs_cons (pg_name (i := 7) sc.nd rfl (Or.inl rfl)) (pgs_cons (pg_name (i := 8) sc.nd rfl (Or.inl rfl)) pgs_nil))) (pss_one (ps_if (pt_cmpR op_eq (pv 8) (pe_un un_neg pe_int) (nomark _)) (pss_one (ps_ret (pe_tup (pa_cons (pv 3) (pa_cons (pv 6) (pa_cons (pv 7) pa_nil)))))) pss_nil))))))))
 (pss_one (ps_ret pe_non)))), ?_⟩
  obtain ⟨h, wd⟩ := y
  obtain ⟨ok, sm⟩ := hok
  have ok : h.Ok := ok
  have sm : h.Small := sm
  have h1 : Dt G v1 (histD h) := h1
  have h2 : Dt G v2 (wD wd) := h2
  refine q_asg (ev_call (h, wd) ⟨ok, sm⟩ (ea_cons (ev_var rfl h1) (ea_cons (ev_var rfl h2) ea_nil))) hGH fun v3 G1 H1 g1 h3 => ?_
  have h3 : (mK (levL CL h wd)).p G1 v3 := h3
  refine q_forD (ev_op (ev_var rfl (Dt.mono g1.gg h1)) ev_int (rv_ixT (d := .list (h.deals.map dealD)) rfl)) g1.gh (fun i σ' G' H' => ∃ u4 u5 u6 u7 u8 u9, σ' = [some v1, some v2, some v3, u4, u5, u6, u7, u8, u9] ∧ Grow G H G' H' ∧ Ex G1 G' ∧ ∀ d ∈ h.deals.take i, KeptBy wd d) ?_ ?_ ?_
  · intro G2 H2 g2
    exact ⟨none, none, none, none, none, none, rfl, g1.trans g2, g2.gg, fun d hd => by simp at hd⟩
  · rintro Gs i dd x σ' G' H' hi hx x1 x2 ⟨u4, u5, u6, u7, u8, u9, rfl, g', ex, al⟩
    obtain ⟨a, q, rfl⟩ := map_some hi
    have ham := List.mem_of_getElem? q
    have hlk := sm.looks a ham
    have step : KeptBy wd a → ∀ d ∈ h.deals.take (i + 1), KeptBy wd d := fun ka d hd => by
      rw [take_snoc q] at hd
      rcases List.mem_append.mp hd with hd | hd
      · exact al d hd
      · rw [List.mem_singleton.mp hd]
        exact ka
    refine g_3 hx x2 fun w4 w5 w6 d4 d5 d6 => ?_
    have elen : ((a.looks.map lookD).length : Int) = (a.looks.length : Int) := by rw [List.length_map]
    refine q_when (et_test (ev_unkept (lv := lvOf wd a) (ev_dgetK (k := .inl a.num) (l := levL CL h wd) (ev_var rfl ((mK (levL CL h wd)).mono ex h3)) (ev_var rfl d4) (look_lev ok ham)))) x2 (fun hb G2 H2 g2 => ?_) fun hb G2 H2 g2 => ?_
    · have hl : lvOf wd a = .loose := of_decide_eq_true hb
      exact ⟨G2, x1.trans g2.gg, g2.gh, some w4, some w5, some w6, u7, u8, u9, rfl, g'.trans g2, ex.trans g2.gg, step fun hn => absurd hl hn⟩
    · have g22 := g'.trans g2
      have d4 := Dt.mono g2.gg d4
      have d6 := Dt.mono g2.gg d6
      refine s_forR1 (n := (a.looks.length : Int)) (ed_cons (Ev.is (ev_len (ev_var rfl d6)) (by rw [elen])) ed_nil) g2.gh (by omega) (fun p σ'' G'' H'' => ∃ u7 u8 u9, σ'' = [some v1, some v2, some v3, some w4, some w5, some w6, u7, u8, u9] ∧ Grow G H G'' H'' ∧ Ex G2 G'' ∧ ∀ l ∈ a.looks.take p, ∀ pr ∈ l, pr.2 ≠ -1) ?_ ?_ ?_
      · intro G3 H3 g3
        exact ⟨u7, u8, u9, rfl, g22.trans g3, g3.gg, fun l hl => by simp at hl⟩
      · rintro p σ'' G'' H'' hp y2 ⟨u7, u8, u9, rfl, g'', ey, al2⟩
        have hpl : p < a.looks.length := by omega
        have eat : a.looks[p]? = some a.looks[p] := List.getElem?_eq_getElem hpl
        generalize a.looks[p] = lk at eat
        have d4' := Dt.mono ey d4
        refine s_forD (ds := lk.map pD) (ev_op (ev_var rfl (Dt.mono ey d6)) (ev_var rfl (Dt.int _)) (rv_ixL (at_nat (by rw [List.getElem?_map, eat]; rfl)))) y2
          (fun j σ3 G3 H3 => ∃ u8 u9, σ3 = [some v1, some v2, some v3, some w4, some w5, some w6, some (.int (p : Int)), u8, u9] ∧ Grow G H G3 H3 ∧ Ex G'' G3 ∧ ∀ pr ∈ lk.take j, pr.2 ≠ -1) ?_ ?_ ?_
        · intro G3 H3 g3
          exact ⟨u8, u9, rfl, g''.trans g3, g3.gg, fun pr hpr => by simp at hpr⟩
        · rintro Gt j dd x3 σ3 G3 H3 hj hx3 z1 z2 ⟨u8, u9, rfl, g3, ez, al3⟩
          obtain ⟨⟨key, src⟩, hpr, rfl⟩ := map_some hj
          refine g_2 hx3 z2 fun w8 w9 c8 c9 => ?_
          refine s_when (et_test (ev_op (ev_var rfl c9) (ev_neg ev_int) rv_eqI)) z2 (fun hb2 G4 H4 g4 => ?_) fun hb2 G4 H4 g4 => ?_
          · exact s_ret (ev_tup (ed_cons (ev_var rfl (Dt.mono (ez.trans g4.gg) d4')) (ed_cons (ev_var rfl (Dt.int _)) (ed_cons (ev_var rfl (Dt.mono g4.gg c8)) ed_nil)))) g4.gh fun v G5 H5 g5 hv => k v G5 H5 ((g3.trans g4).trans g5) ⟨_, .inr ⟨_, _, _, rfl⟩, hv⟩
          · refine ⟨G4, z1.trans g4.gg, g4.gh, some w8, some w9, rfl, g3.trans g4, ez.trans g4.gg, fun pr hm => ?_⟩
            rw [take_snoc hpr] at hm
            rcases List.mem_append.mp hm with hm | hm
            · exact al3 pr hm
            · rw [List.mem_singleton.mp hm]
              exact of_decide_eq_false hb2
        · rintro σ3 G3 H3 z2 ⟨u8, u9, rfl, g3, ez, al3⟩
          rw [List.length_map, List.take_length] at al3
          refine ⟨G3, z2, some (.int (p : Int)), u8, u9, rfl, g3, ey.trans ez, fun l hl => ?_⟩
          rw [take_snoc eat] at hl
          rcases List.mem_append.mp hl with hl | hl
          · exact al2 l hl
          · rw [List.mem_singleton.mp hl]
            exact al3
      · rintro σ'' G'' H'' y2 ⟨u7, u8, u9, rfl, g'', ey, al2⟩
        have al2 : ∀ l ∈ a.looks.take a.looks.length, ∀ pr ∈ l, pr.2 ≠ -1 := al2
        rw [List.take_length] at al2
        refine ⟨G'', (x1.trans g2.gg).trans ey, y2, some w4, some w5, some w6, u7, u8, u9, rfl, g'', (ex.trans g2.gg).trans ey, step fun _ pr hpr => ?_⟩
        obtain ⟨l, l1, l2⟩ := List.mem_flatten.mp hpr
        exact al2 l l1 pr l2
  · rintro σ' G' H' x2 ⟨u4, u5, u6, u7, u8, u9, rfl, g', ex, al⟩
    rw [List.length_map, List.take_length] at al
    exact s_ret ev_non x2 fun v G2 H2 g2 hv => k v G2 H2 (g'.trans g2) ⟨_, .inl ⟨rfl, al⟩, hv⟩
theorem own_unkept {CL : Lev → Addr} (A : DefAt K mg "unkept" s_unkept [.non]) (L : LevK K mg CL) (O_levels_for : Own P w K mg base "levels_for" 2 ["history", "word"] [] (sp_levels_for CL)) (O_m_unkept : OwnM P w K mg base CL "unkept" 1 spM_unkept) (z_len : mg "len" = none) (z_range : mg "range" = none) : Own P w K mg base "unkept" 3 ["history", "word"] [] sp_unkept :=
  own_D A (fun f fd F => F.binds1 2 1 (fun h => nomatch h) rfl fun T kV doc pm an cdv ct us its h1 h2 => match us, its, h1, h2 with | [_, _], [_], _, _ => ⟨_, rfl, rfl⟩) fun f fd F => ok_unkept F L O_levels_for O_m_unkept z_len z_range
theorem ownD_unkept {CL : Lev → Addr} (A : DefAt K mg "unkept" s_unkept [.non]) (L : LevK K mg CL) (O_levels_for : Own P w K mg base "levels_for" 2 ["history", "word"] [] (sp_levels_for CL)) (O_m_unkept : OwnM P w K mg base CL "unkept" 1 spM_unkept) (z_len : mg "len" = none) (z_range : mg "range" = none) : Own P w K mg base "unkept" 3 ["history", "word"] [.non] sp_unkept :=
  own_D A (fun f fd F => F.binds1 1 0 (fun h => nomatch h) rfl fun T kV doc pm an cdv ct us its h1 h2 => match us, its, h1, h2 with | [_], [_], _, _ => ⟨_, rfl, rfl⟩) fun f fd F => ok_unkept F L O_levels_for O_m_unkept z_len z_range
end
end Sk
/-! Sk_spots -/
namespace Sk
open PySem PySem.Spec PyProof.Rows L2
open Evl (pss_cut tCut)
section
variable {P : Program} {w : World} {K : PySem.W.Frag} {mg : Str → Option Value} {base : Heap}
abbrev s_spots : Stmt := top 30
abbrev N_spots : List Str := ["history", "word", "levels", "found", "number", "own", "looks", "place"]
theorem sc_spots : FnScope N_spots ["history", "word"] (defScope s_spots) := ⟨rfl, rfl, rfl, by decide +kernel, rfl, by decide +kernel, by decide +kernel⟩
abbrev sp_spots : Sp := mkSp (α := Hist × Option Lev) (fun y => [mD (histD y.1), mD (wD y.2)]) (fun y => y.1.Ok ∧ y.1.Small) (fun y => mD (.list ((spotsL y.1 y.2).map pD)))
theorem spots_take {h : Hist} (sm : h.Small) (wd : Option Lev) (i : Nat) : ((h.deals.take i).flatMap (spotsOf wd)).length ≤ 200 := by
  have h1 : ∀ l : List Deal, (∀ d ∈ l, d ∈ h.deals) → (l.flatMap (spotsOf wd)).length ≤ l.length * 32 := by
    intro l
    induction l with
    | nil => intro _; exact Nat.le_refl _
    | cons d l ih =>
      intro hl
      have e1 := ih fun x hx => hl x (List.mem_cons_of_mem _ hx)
      have e2 := sm.looks d (hl d List.mem_cons_self)
      have e3 := spots_le (lvOf wd d) d.looks.length
      have e4 : (spotsOf wd d).length = (lvOf wd d).nSpots d.looks.length := by
        unfold spotsOf
        rw [List.length_map, List.length_range]
      rw [List.flatMap_cons, List.length_append, List.length_cons]
      omega
  have h2 := h1 (h.deals.take i) fun d hd => List.mem_of_mem_take hd
  have h3 := sm.deals
  rw [List.length_take] at h2
  omega
theorem ok_spots {CL : Lev → Addr} {f : Addr} {fd : FuncData} (F : FunD K "spots" "spots" (defArgs s_spots) (defBody s_spots) (defScope s_spots) [.non] [] f fd) (L : LevK K mg CL) (O_levels_for : Own P w K mg base "levels_for" 2 ["history", "word"] [] (sp_levels_for CL)) (O_m_spots : OwnM P w K mg base CL "spots" 1 spM_spots) (z_len : mg "len" = none) (z_range : mg "range" = none) : FnOk P w K mg base CX0 3 f fd ["history", "word"] sp_spots := by
  have sc := sc_spots
  refine ok_mk F sc (fun _ => rfl) fun f cdv Ar outer s H E y G vs Q hr hok hGH hv k => ?_
  match vs, hv with
  | [v1, v2], ⟨h1, h2, _⟩ =>
  refine ⟨_, (pss_cons (ps_set (i := 2) sc.nd rfl (Or.inl rfl) (pe_own O_levels_for (hr.mono (by decide)) (by rfl) (pa_cons (pv 0) (pa_cons (pv 1) pa_nil))))
 (pss_cons (ps_set (i := 3) sc.nd rfl (Or.inl rfl) (pe_lst pa_nil))
 (pss_cons (ps_for PassesOwn.never rfl (pi_list (pe_ix ix_tup (pv 0) pe_int (fun _ _ => rfl))) (pg_tup rfl (pgs_cons (pg_name (i := 4) sc.nd rfl (Or.inl rfl)) (pgs_cons (pg_name (i := 5) sc.nd rfl (Or.inl rfl)) (pgs_cons (pg_name (i := 6) sc.nd rfl (Or.inl rfl)) pgs_nil)))) (pss_one (ps_for PassesOwn.never rfl (pi_range1 (by rfl) z_range (pa_cons (pe_lm O_m_spots L (hr.mono (by decide)) (pe_dget (hu_of hr) (pv 2) (pv 4) (fun _ _ => rfl)) (pa_cons (pe_callB call_len_seq (by rfl) z_len PySem.boot_len (pa_cons (pv 6) pa_nil)) pa_nil)) pa_nil)) (pg_name (i := 7) sc.nd rfl (Or.inl rfl)) (pss_one (ps_expr (pe_bm PySem.F.plainAttrs_list PySem.F.slot_list_append PySem.F.type_list_append mt_append (pv 3) (pa_cons (pe_tup (pa_cons (pv 4) (pa_cons (pv 7) pa_nil))) pa_nil)))))))
 (pss_one (ps_ret (pv 3)))))), ?_⟩
  obtain ⟨h, wd⟩ := y
  obtain ⟨ok, sm⟩ := hok
  have ok : h.Ok := ok
  have sm : h.Small := sm
  have h1 : Dt G v1 (histD h) := h1
  have h2 : Dt G v2 (wD wd) := h2
  refine q_asg (ev_call (h, wd) ⟨ok, sm⟩ (ea_cons (ev_var rfl h1) (ea_cons (ev_var rfl h2) ea_nil))) hGH fun v3 G1 H1 g1 h3 => ?_
  have h3 : (mK (levL CL h wd)).p G1 v3 := h3
  refine q_newL g1.gh fun pf hpf' hgpf => ?_
  have hpf : H pf = none := g1.hh.non hpf'
  have g1' : Grow G H G1 (upd H1 pf (.lst [])) := g1.mut hpf hgpf
  have g11 : Grow G1 H1 G1 (upd H1 pf (.lst [])) := (Grow.refl g1.gh).mut hpf' hgpf
  refine q_forD (ev_op (ev_var rfl (Dt.mono g1.gg h1)) ev_int (rv_ixT (d := .list (h.deals.map dealD)) rfl)) g1'.gh (fun i σ' G' H' => ∃ u4 u5 u6 u7, σ' = [some v1, some v2, some v3, some (.ref pf), u4, u5, u6, u7] ∧ Grow G H G' H' ∧ Ex G1 G' ∧ ML G' H' pf (((h.deals.take i).flatMap (spotsOf wd)).map pD)) ?_ ?_ ?_
  · intro G2 H2 g2
    exact ⟨none, none, none, none, rfl, g1'.trans g2, g2.gg, (ML.new hgpf).grow g2⟩
  · rintro Gs i dd x σ' G' H' hi hx x1 x2 ⟨u4, u5, u6, u7, rfl, g', ex, ml⟩
    obtain ⟨a, q, rfl⟩ := map_some hi
    have ham := List.mem_of_getElem? q
    have hlk := sm.looks a ham
    have hns := spots_le (lvOf wd a) a.looks.length
    have hst := spots_take sm wd i
    refine g_3 hx x2 fun w2 w3 w4 d2 d3 d4 => ?_
    have elen : ((a.looks.map lookD).length : Int) = (a.looks.length : Int) := by rw [List.length_map]
    refine s_forR1 (ed_cons (ev_spots (lv := lvOf wd a) (n := a.looks.length) (ev_dgetK (k := .inl a.num) (l := levL CL h wd) (ev_var rfl ((mK (levL CL h wd)).mono ex h3)) (ev_var rfl d2) (look_lev ok ham)) (by omega) (Ev.is (ev_len (ev_var rfl d4)) (by rw [elen]))) ed_nil) x2 (by omega)
      (fun j σ'' G'' H'' => ∃ u7, σ'' = [some v1, some v2, some v3, some (.ref pf), some w2, some w3, some w4, u7] ∧ Grow G H G'' H'' ∧ Ex G' G'' ∧ ML G'' H'' pf ((((h.deals.take i).flatMap (spotsOf wd)) ++ (List.range j).map fun (p : Nat) => (a.num, (p : Int))).map pD)) ?_ ?_ ?_
    · intro G3 H3 g3
      exact ⟨u7, rfl, g'.trans g3, g3.gg, by simpa using ml.grow g3⟩
    · rintro j σ'' G'' H'' hj y2 ⟨u7, rfl, g'', ex2, ml2⟩
      refine s_app ml2 y2 (ev_varV rfl) (ev_tup (ed_cons (ev_var rfl (Dt.mono ex2 d2)) (ed_cons (ev_var rfl (Dt.int _)) ed_nil))) (by rw [List.length_map, List.length_append, List.length_map, List.length_range]; omega) fun G4 H4 b4 ml4 => ?_
      refine ⟨G4, b4.gh, some (.int (j : Int)), rfl, g''.thenB hpf b4, ex2.trans b4.gg, ?_⟩
      have e : (((h.deals.take i).flatMap (spotsOf wd)) ++ (List.range (j + 1)).map fun (p : Nat) => ((a.num, (p : Int)) : Node)).map pD = ((((h.deals.take i).flatMap (spotsOf wd)) ++ (List.range j).map fun (p : Nat) => ((a.num, (p : Int)) : Node)).map pD) ++ [pD (a.num, (j : Int))] := by
        simp only [List.range_succ, List.map_append, List.append_assoc]
        rfl
      rw [e]
      exact ml4
    · rintro σ'' G'' H'' y2 ⟨u7, rfl, g'', ex2, ml2⟩
      refine ⟨G'', x1.trans ex2, y2, some w2, some w3, some w4, u7, rfl, g'', ex.trans ex2, ?_⟩
      rw [take_snoc q, List.flatMap_append]
      have e : [a].flatMap (spotsOf wd) = (List.range ((lvOf wd a).nSpots a.looks.length)).map fun (p : Nat) => ((a.num, (p : Int)) : Node) := by
        rw [List.flatMap_cons, List.flatMap_nil, List.append_nil]
        rfl
      rw [e]
      exact ml2
  · rintro σ' G' H' x2 ⟨u4, u5, u6, u7, rfl, g', ex, ml⟩
    rw [List.length_map, List.take_length] at ml
    obtain ⟨G2, g2, r2⟩ := ml.ret g' hpf
    exact s_ret (m := mD (.list ((spotsL h wd).map pD))) (ev_var rfl r2) g2.gh fun v G3 H3 g3 hv => k v G3 H3 (g2.trans g3) hv
theorem own_spots {CL : Lev → Addr} (A : DefAt K mg "spots" s_spots [.non]) (L : LevK K mg CL) (O_levels_for : Own P w K mg base "levels_for" 2 ["history", "word"] [] (sp_levels_for CL)) (O_m_spots : OwnM P w K mg base CL "spots" 1 spM_spots) (z_len : mg "len" = none) (z_range : mg "range" = none) : Own P w K mg base "spots" 3 ["history", "word"] [] sp_spots :=
  own_D A (fun f fd F => F.binds1 2 1 (fun h => nomatch h) rfl fun T kV doc pm an cdv ct us its h1 h2 => match us, its, h1, h2 with | [_, _], [_], _, _ => ⟨_, rfl, rfl⟩) fun f fd F => ok_spots F L O_levels_for O_m_spots z_len z_range
theorem ownD_spots {CL : Lev → Addr} (A : DefAt K mg "spots" s_spots [.non]) (L : LevK K mg CL) (O_levels_for : Own P w K mg base "levels_for" 2 ["history", "word"] [] (sp_levels_for CL)) (O_m_spots : OwnM P w K mg base CL "spots" 1 spM_spots) (z_len : mg "len" = none) (z_range : mg "range" = none) : Own P w K mg base "spots" 3 ["history", "word"] [.non] sp_spots :=
  own_D A (fun f fd F => F.binds1 1 0 (fun h => nomatch h) rfl fun T kV doc pm an cdv ct us its h1 h2 => match us, its, h1, h2 with | [_], [_], _, _ => ⟨_, rfl, rfl⟩) fun f fd F => ok_spots F L O_levels_for O_m_spots z_len z_range
end
end Sk
/-! Sk_ring_edges -/
namespace Sk
open PySem PySem.Spec PyProof.Rows L2
open Evl (pss_cut tCut)
section
variable {P : Program} {w : World} {K : PySem.W.Frag} {mg : Str → Option Value} {base : Heap}
abbrev s_ring_edges : Stmt := top 40
abbrev N_ring_edges : List Str := ["ways", "chain", "found", "k"]
theorem sc_ring_edges : FnScope N_ring_edges ["ways", "chain"] (defScope s_ring_edges) := ⟨rfl, rfl, rfl, by decide +kernel, rfl, by decide +kernel, by decide +kernel⟩
abbrev sp_ring_edges : Sp := mkSp (α := List Edge × List Node) (fun y => [mD (.list (y.1.map edgeD)), mD (.list (y.2.map pD))]) (fun y => y.2.length ≤ 2000) (fun _ => mDs fun _ => True)
theorem own_ring_edges  (A : DefAt K mg "ring_edges" s_ring_edges []) (O_first_edge : Own P w K mg base "first_edge" 1 ["ways", "one", "other"] [] sp_first_edge) (z_len : mg "len" = none) (z_range : mg "range" = none) : Own P w K mg base "ring_edges" 2 ["ways", "chain"] [] sp_ring_edges := by
  have sc := sc_ring_edges
  refine own_mk A sc (fun _ _ _ _ _ _ us hl => match us, hl with | [_, _], _ => rfl) (fun _ => rfl) fun f cdv Ar outer s H E y G vs Q hr hok hGH hv k => ?_
  match vs, hv with
  | [v1, v2], ⟨h1, h2, _⟩ =>
  refine ⟨_, (pss_cons (ps_set (i := 2) sc.nd rfl (Or.inl rfl) (pe_lst pa_nil))
 (pss_cons (ps_for PassesOwn.never rfl (pi_range1 (by rfl) z_range (pa_cons (pe_callB call_len_seq (by rfl) z_len PySem.boot_len (pa_cons (pv 1) pa_nil)) pa_nil)) (pg_name (i := 3) sc.nd rfl (Or.inl rfl)) (pss_one (ps_expr (pe_bm PySem.F.plainAttrs_list PySem.F.slot_list_append PySem.F.type_list_append mt_append (pv 2) (pa_cons (pe_own O_first_edge (hr.mono (by decide)) (by rfl) (pa_cons (pv 0) (pa_cons (pe_ix ix_list (pv 1) (pv 3) (fun _ _ => rfl)) (pa_cons (pe_ix ix_list (pv 1) (pe_op op_mod (pe_op op_add (pv 3) pe_int) (pe_callB call_len_seq (by rfl) z_len PySem.boot_len (pa_cons (pv 1) pa_nil))) (fun _ _ => rfl)) pa_nil)))) pa_nil)))))
 (pss_one (ps_ret (pv 2))))), ?_⟩
  obtain ⟨es, ch⟩ := y
  have hl : ch.length ≤ 2000 := hok
  have h2 : Dt G v2 (.list (ch.map pD)) := h2
  refine q_newL hGH fun pf hpf hpf0 => ?_
  have g1 : Grow G H G (upd H pf (.lst [])) := (Grow.refl hGH).mut hpf hpf0
  have elen : ((ch.map pD).length : Int) = (ch.length : Int) := by rw [List.length_map]
  refine q_forR1 (n := (ch.length : Int)) (ed_cons (Ev.is (ev_len (ev_var rfl h2)) (by rw [elen])) ed_nil) g1.gh (by omega) (fun i σ' G' H' => ∃ u3 ds, σ' = [some v1, some v2, some (.ref pf), u3] ∧ Grow G H G' H' ∧ ML G' H' pf ds ∧ ds.length = i) ?_ ?_ ?_
  · intro G3 H3 g3
    exact ⟨none, [], rfl, g1.trans g3, (ML.new hpf0).grow g3, rfl⟩
  · rintro i σ' G' H' hi x2 ⟨u3, ds, rfl, g', ml, hds⟩
    have hil : i < ch.length := by omega
    have hj : (i + 1) % ch.length < ch.length := Nat.mod_lt _ (by omega)
    have e1 : ch[i]? = some ch[i] := List.getElem?_eq_getElem hil
    have e2 : ch[(i + 1) % ch.length]? = some ch[(i + 1) % ch.length] := List.getElem?_eq_getElem hj
    generalize ch[i] = n1 at e1
    generalize ch[(i + 1) % ch.length] = n2 at e2
    have d2 := Dt.mono g'.gg h2
    refine s_appM (P := fun _ => True) ml x2 (ev_varV rfl) (ev_call (es, n1, n2) trivial (ea_cons (ev_var rfl (Dt.mono g'.gg h1)) (ea_cons (ev_op (ev_var rfl d2) (ev_var rfl (Dt.int _)) (rv_ixL (d := pD n1) (at_nat (by rw [List.getElem?_map, e1]; rfl)))) (ea_cons (ev_op (ev_var rfl d2) (ev_op (ev_op (ev_var rfl (Dt.int _)) ev_int rv_I0) (Ev.is (ev_len (ev_var rfl d2)) (by rw [elen])) (rv_I (show (0 : Int) < (ch.length : Int) by omega))) (rv_ixL (d := pD n2) ?_)) ea_nil)))) (by omega) fun d G4 H4 _ b4 ml4 => ⟨G4, b4.gh, some (.int (i : Int)), ds ++ [d], rfl, g'.thenB hpf b4, ml4, by rw [List.length_append, hds]; rfl⟩
    have e3 : ((i : Int) + 1) % (ch.length : Int) = (((i + 1) % ch.length : Nat) : Int) := by
      rw [Int.natCast_emod]
      congr 1
    rw [e3]
    exact at_nat (by rw [List.getElem?_map, e2]; rfl)
  · rintro σ' G3 H3 x3 ⟨u3, ds, rfl, g3, ml, _⟩
    obtain ⟨G4, g4, r4⟩ := ml.ret g3 hpf
    exact s_ret (m := mD (.list ds)) (ev_var rfl r4) g4.gh fun v G5 H5 g5 hv => k v G5 H5 (g4.trans g5) ⟨_, trivial, hv⟩
end
end Sk
/-! Sk_least_ring -/
namespace Sk
open PySem PySem.Spec PyProof.Rows L2
open Evl (pss_cut tCut)
theorem MTL.over {G G2 H : Hp} {a : Addr} {ad : Node → Addr} {l : List Node} {f : Node → List PyData} (h : MTL G H a ad l f) (e : Ex G G2) (n : G2 a = none) (m : ∀ x ∈ l, G2 (ad x) = none) : MTL G2 H a ad l f :=
  ⟨n, h.at_, fun x hx => by
    obtain ⟨_, xs, h2, h3⟩ := h.ls x hx
    exact ⟨m x hx, xs, h2, h3.mono e⟩, h.inj⟩
theorem MTL.neK {G H : Hp} {a b : Addr} {ad ad' : Node → Addr} {l l' : List Node} {f f' : Node → List PyData} (h : MTL G H a ad l f) (h' : MTL G H b ad' l' f') : ∀ x ∈ l', a ≠ ad' x := fun x hx e => by
  obtain ⟨_, xs, q, _⟩ := h'.ls x hx
  have q2 := h.at_
  rw [e, q] at q2
  cases q2
theorem q_putNewL {σ : L2.St} {G H : Hp} {td tk : TE} {D : Ends} {tz : TS} {a : Addr} {ad : Node → Addr} {l : List Node} {f : Node → List PyData} {y : Node} (hl : MTL G H a ad l f) (e : Ex G H) (hd : Ev td σ G H (mV (.ref a))) (hk : Ev tk σ G H (mD (pD y))) (hy : y ∉ l) (hz : l.length ≤ 100000)
    (k : ∀ p G1 H1, H p = none → GrowB a G H G1 H1 → MTL G1 H1 a (setAt ad y p) (l ++ [y]) (setAt f y []) → tz D σ H1) : tSeq (sDPut td tk (tLst tNil)) tz D σ H := s_putNewL (D := { D with nx := tz D }) hl e hd hk hy hz k
theorem setAt_nil (n : Node) : setAt (fun _ : Node => ([] : List PyData)) n [] = fun _ => [] := by
  funext z
  unfold setAt
  split <;> rfl
theorem setAt_take {nodes : List Node} {i : Nat} {n : Node} {ad : Node → Addr} {p : Addr} (hn : nodes[i]? = some n) (P : Addr → Prop) (h1 : ∀ x ∈ nodes.take i, P (ad x)) (h2 : P p) : ∀ x ∈ nodes.take (i + 1), P (setAt ad n p x) := fun x hx => by
  by_cases e : x = n
  · rw [e, setAt_same]
    exact h2
  · rw [setAt_ne e]
    rw [take_snoc hn] at hx
    rcases List.mem_append.mp hx with hx | hx
    · exact h1 x hx
    · exact absurd (List.mem_singleton.mp hx) e
section
variable {P : Program} {w : World} {K : PySem.W.Frag} {mg : Str → Option Value} {base : Heap}
abbrev s_least_ring : Stmt := top 16
abbrev N_least_ring : List Str := ["nodes", "pairs", "ahead", "behind", "node", "one", "other", "best", "start", "found"]
theorem sc_least_ring : FnScope N_least_ring ["nodes", "pairs"] (defScope s_least_ring) := ⟨rfl, rfl, rfl, by decide +kernel, rfl, by decide +kernel, by decide +kernel⟩
abbrev sp_least_ring : Sp := mkSp (α := List Node × List (Node × Node)) (fun y => [mD (.list (y.1.map pD)), mD (.list (y.2.map ppD))]) (fun y => y.1.Nodup ∧ y.1.length ≤ 1000 ∧ y.2.length ≤ 50000 ∧ (∀ p ∈ y.2, p.1 ∈ y.1 ∧ p.2 ∈ y.1) ∧ Stuck y.1 y.2) (fun y => mDs fun v => ∃ l : List Node, v = .list (l.map pD) ∧ l.length ≤ 2000)
theorem own_least_ring  (A : DefAt K mg "least_ring" s_least_ring []) (O_ring_through : Own P w K mg base "ring_through" 2 ["start", "behind", "far"] [] sp_ring_through) (O_steps_to : Own P w K mg base "steps_to" 1 ["goal", "ahead"] [] sp_steps_to) (z_len : mg "len" = none) (z_sorted : mg "sorted" = none) : Own P w K mg base "least_ring" 3 ["nodes", "pairs"] [] sp_least_ring := by
  have sc := sc_least_ring
  refine own_mk A sc (fun _ _ _ _ _ _ us hl => match us, hl with | [_, _], _ => rfl) (fun _ => rfl) fun f cdv Ar outer s H E y G vs Q hr hok hGH hv k => ?_
  match vs, hv with
  | [v1, v2], ⟨h1, h2, _⟩ =>
  refine ⟨_, (pss_cons (ps_set (i := 2) sc.nd rfl (Or.inl rfl) pe_dnewT)
 (pss_cons (ps_set (i := 3) sc.nd rfl (Or.inl rfl) pe_dnewT)
 (pss_cons (ps_for PassesOwn.never rfl (pi_list (pv 0)) (pg_name (i := 4) sc.nd rfl (Or.inl rfl)) (pss_cons (ps_dput (hu_of hr) (pv 2) (pv 4) (pe_lst pa_nil) rfl)
 (pss_one (ps_dput (hu_of hr) (pv 3) (pv 4) (pe_lst pa_nil) rfl))))
 (pss_cons (ps_for PassesOwn.never rfl (pi_list (pv 1)) (pg_tup rfl (pgs_cons (pg_name (i := 5) sc.nd rfl (Or.inl rfl)) (pgs_cons (pg_name (i := 6) sc.nd rfl (Or.inl rfl)) pgs_nil))) (pss_cons (ps_expr (pe_bm PySem.F.plainAttrs_list PySem.F.slot_list_append PySem.F.type_list_append mt_append (pe_dget (hu_of hr) (pv 3) (pv 5) (fun _ _ => rfl)) (pa_cons (pv 6) pa_nil)))
 (pss_one (ps_expr (pe_bm PySem.F.plainAttrs_list PySem.F.slot_list_append PySem.F.type_list_append mt_append (pe_dget (hu_of hr) (pv 2) (pv 6) (fun _ _ => rfl)) (pa_cons (pv 5) pa_nil))))))
 (pss_cons (ps_set (i := 7) sc.nd rfl (Or.inl rfl) pe_non)
 (pss_cons (ps_for PassesOwn.never rfl (pi_list (pe_callB (cr_sortedL hr.units) (by rfl) z_sorted (by decide +kernel) (pa_cons (pv 0) pa_nil))) (pg_name (i := 8) sc.nd rfl (Or.inl rfl)) (pss_cons (ps_set (i := 9) sc.nd rfl (Or.inl rfl) (pe_own O_ring_through (hr.mono (by decide)) (by rfl) (pa_cons (pv 8) (pa_cons (pv 3) (pa_cons (pe_own O_steps_to (hr.mono (by decide)) (by rfl) (pa_cons (pv 8) (pa_cons (pv 2) pa_nil))) pa_nil)))))
 (pss_one (ps_if (PW.pt (pw_and (pt_cmpR op_notN1 (pv 9) pe_non (nomark _)) (pw_and1 (PW.pt (pw_or (pt_cmpR op_isN1 (pv 7) pe_non (nomark _)) (pw_or1 (pt_cmpR op_lt (pe_callB call_len_seq (by rfl) z_len PySem.boot_len (pa_cons (pv 9) pa_nil)) (pe_callB call_len_seq (by rfl) z_len PySem.boot_len (pa_cons (pv 7) pa_nil)) (nomark _)))))))) (pss_one (ps_set (i := 7) sc.nd rfl (Or.inl rfl) (pv 9))) pss_nil))))
 (pss_one (ps_ret (pv 7))))))))), ?_⟩
  obtain ⟨nodes, pairs⟩ := y
  obtain ⟨nd, nz, pz, he, stk⟩ := hok
  have nd : nodes.Nodup := nd
  have nz : nodes.length ≤ 1000 := nz
  have pz : pairs.length ≤ 50000 := pz
  have he : ∀ p ∈ pairs, p.1 ∈ nodes ∧ p.2 ∈ nodes := he
  refine q_newT hGH fun pa hpa hpa0 => ?_
  have g1 : Grow G H G (upd H pa (.dT [])) := (Grow.refl hGH).mut hpa hpa0
  refine q_newT g1.gh fun pb hpb' hpb0 => ?_
  have hpb : H pb = none := g1.hh.non hpb'
  have nab : pa ≠ pb := ne_of_none (upd_same (H := H) (o := .dT [])) hpb'
  have g2 : Grow G H G (upd (upd H pa (.dT [])) pb (.dT [])) := g1.mut hpb hpb0
  refine q_forDn (ev_var rfl h1) g2.gh (fun i σ' G' H' => ∃ u4 ad bd, σ' = [some v1, some v2, some (.ref pa), some (.ref pb), u4, none, none, none, none, none] ∧ Grow G H G' H' ∧ MTL G' H' pa ad (nodes.take i) (fun _ => []) ∧ MTL G' H' pb bd (nodes.take i) (fun _ => []) ∧ (∀ x ∈ nodes.take i, H (ad x) = none) ∧ (∀ x ∈ nodes.take i, H (bd x) = none) ∧ ∀ x ∈ nodes.take i, ∀ y ∈ nodes.take i, ad x ≠ bd y) ?_ ?_ ?_
  · intro G3 H3 g3
    exact ⟨none, fun _ => pa, fun _ => pb, rfl, g2.trans g3, ((MTL.new hpa0).other nab fun x hx => by simp at hx).grow g3, (MTL.new hpb0).grow g3, fun x hx => by simp at hx, fun x hx => by simp at hx, fun x hx => by simp at hx⟩
  · rintro Gs i d x σ' G' H' hi hx x1 x2 ⟨u4, ad, bd, rfl, g', ma, mb, fa, fb, dis⟩
    obtain ⟨n, hn, rfl⟩ := map_some hi
    have nt := not_take nd hn
    have hil := (List.getElem?_eq_some_iff.mp hn).1
    refine q_putNewL ma x2 (ev_varV rfl) (ev_var rfl hx) nt (by rw [List.length_take]; omega) fun p1 G3 H3 hp1 b3 ma3 => ?_
    rw [← take_snoc hn, setAt_nil] at ma3
    have ga := g'.thenB hpa b3
    obtain ⟨q1, q2⟩ := mb.ne hp1
    have mb3 := mb.growB (Ne.symm nab) (fun y hy => Ne.symm (ma.neK mb y hy)) b3
    refine s_putNewL mb3 ga.gh (ev_varV rfl) (ev_var rfl (Dt.mono b3.gg hx)) nt (by rw [List.length_take]; omega) fun p2 G4 H4 hp2 b4 mb4 => ?_
    rw [← take_snoc hn, setAt_nil] at mb4
    obtain ⟨q3, q4⟩ := ma3.ne hp2
    refine ⟨G4, (x1.trans b3.gg).trans b4.gg, b4.gh, some x, _, _, rfl, ga.thenB hpb b4, ma3.growB nab (fun y hy => Ne.symm (mb3.neK ma3 y hy)) b4, mb4, setAt_take hn (fun a => H a = none) fa (g'.hh.non hp1), setAt_take hn (fun a => H a = none) fb (ga.hh.non hp2), fun y hy => setAt_take hn (fun b => setAt ad n p1 y ≠ b) (fun z hz => ?_) (q4 y hy)⟩
    by_cases e : y = n
    · rw [e, setAt_same]
      exact Ne.symm (q2 z hz)
    · rw [setAt_ne e]
      rw [take_snoc hn] at hy
      rcases List.mem_append.mp hy with hy | hy
      · exact dis y hy z hz
      · exact absurd (List.mem_singleton.mp hy) e
  rintro σ' G3 H3 x3 ⟨u4, ad, bd, rfl, g3, ma, mb, fa, fb, dis⟩
  rw [List.length_map, List.take_length] at ma mb fa fb dis
  refine q_forD (ev_var rfl (Dt.mono g3.gg h2)) x3 (fun i σ' G' H' => ∃ u4 u5 u6, σ' = [some v1, some v2, some (.ref pa), some (.ref pb), u4, u5, u6, none, none, none] ∧ Grow G H G' H' ∧ MTL G' H' pa ad nodes (fun x => (preds (pairs.take i) x).map pD) ∧ MTL G' H' pb bd nodes (fun x => (succs (pairs.take i) x).map pD)) ?_ ?_ ?_
  · intro G4 H4 g4
    exact ⟨u4, none, none, rfl, g3.trans g4, ma.grow g4, mb.grow g4⟩
  · rintro Gs i d x σ' G' H' hi hx x1 x2 ⟨u4, u5, u6, rfl, g', ma, mb⟩
    obtain ⟨⟨n, o⟩, hn, rfl⟩ := map_some hi
    obtain ⟨hen, heo⟩ := he _ (List.mem_of_getElem? hn)
    refine g_2 hx x2 fun w5 w6 c5 c6 => ?_
    have lt : (pairs.take i).length ≤ pairs.length := by rw [List.length_take]; omega
    have ln := length_succs (pairs.take i) n
    have lo := length_preds (pairs.take i) o
    refine q_app (mb.ls n hen) x2 (ev_getL mb x2 (ev_varV rfl) (ev_var rfl (Dt.mono x2 c5)) hen) (ev_var rfl c6) (by rw [List.length_map]; omega) fun G4 H4 b4 ml4 => ?_
    have mb4 := mb.app hen b4 ml4
    have ma4 := ma.growB (ma.neK mb n hen) (fun y hy => dis y hy n hen) b4
    have gb := g'.thenB (fb n hen) b4
    refine s_app (ma4.ls o heo) gb.gh (ev_getL ma4 gb.gh (ev_varV rfl) (ev_var rfl (Dt.mono gb.gh (Dt.mono b4.gg c6))) heo) (ev_var rfl (Dt.mono b4.gg c5)) (by rw [List.length_map]; omega) fun G5 H5 b5 ml5 => ?_
    have ma5 := ma4.app heo b5 ml5
    have mb5 := mb4.growB (mb4.neK ma4 o heo) (fun y hy => Ne.symm (dis o heo y hy)) b5
    refine ⟨G5, (x1.trans b4.gg).trans b5.gg, b5.gh, u4, some w5, some w6, rfl, gb.thenB (fa o heo) b5, ma5.congr fun z hz => ?_, mb5.congr fun z hz => ?_⟩
    · rw [take_snoc hn, preds_snoc]
      unfold setAt
      by_cases ez : z = o
      · subst ez
        rw [if_pos rfl, if_pos rfl, List.map_append]
        rfl
      · rw [if_neg ez, if_neg (Ne.symm ez)]
    · rw [take_snoc hn, succs_snoc]
      unfold setAt
      by_cases ez : z = n
      · subst ez
        rw [if_pos rfl, if_pos rfl, List.map_append]
        rfl
      · rw [if_neg ez, if_neg (Ne.symm ez)]
  clear ma mb
  rintro σ' G4 H4 x4 ⟨u4, u5, u6, rfl, g4, ma, mb⟩
  rw [List.length_map, List.take_length] at ma mb
  have kb := ma.neK mb
  have ka := mb.neK ma
  obtain ⟨G5, g5, e5, n5, da⟩ := ma.seal g4 hpa fa
  have mb5 := mb.over e5 (by rw [n5 pb (Ne.symm nab) ka]; exact mb.non) fun x hx => by
    rw [n5 (bd x) (Ne.symm (kb x hx)) fun y hy => Ne.symm (dis y hy x hx)]
    exact (mb.ls x hx).1
  obtain ⟨G6, g6, e6, n6, db⟩ := mb5.seal g5 hpb fb
  have da : (mT (predL nodes pairs)).p G6 (.ref pa) := (mT (predL nodes pairs)).mono e6 da
  refine q_asg ev_non g6.gh fun v7 G7 H7 g7 c7 => ?_
  have g07 := g6.trans g7
  have da7 := (mT (predL nodes pairs)).mono g7.gg da
  have db7 := (mT (sucL nodes pairs)).mono g7.gg db
  refine q_forM (P := fun ds => ds.Perm (nodes.map pD)) (ev_sortedL (ev_var rfl (Dt.mono g07.gg h1)) (alike_nodes nodes) (sortable_nodes nodes) (flat_nodes nodes)) g7.gh
    (fun ds i σ' G' H' => ∃ v7 u8 u9 e, σ' = [some v1, some v2, some (.ref pa), some (.ref pb), u4, u5, u6, some v7, u8, u9] ∧ Grow G H G' H' ∧ Ex G7 G' ∧ Dt G' v7 e ∧ ((e = .none ∧ ∀ j, j < i → ∀ s : Node, ds[j]? = some (pD s) → NoRing pairs s) ∨ ∃ l : List Node, e = .list (l.map pD) ∧ l.length ≤ 2000)) ?_ ?_ ?_
  · intro ds G8 H8 _ g8
    exact ⟨v7, none, none, .none, rfl, g07.trans g8, g8.gg, Dt.mono g8.gg c7, .inl ⟨rfl, fun j hj => absurd hj (Nat.not_lt_zero _)⟩⟩
  · rintro Gs ds i d x σ' G' H' hp hi hx x1 x2 ⟨v7, u8, u9, e, rfl, g', ex, c7, st⟩
    obtain ⟨s, hs, rfl⟩ : ∃ s ∈ nodes, d = pD s := by
      have := hp.mem_iff.mp (List.mem_of_getElem? hi)
      obtain ⟨s, a, b⟩ := List.mem_map.mp this
      exact ⟨s, a, b.symm⟩
    have da' := (mT (predL nodes pairs)).mono ex da7
    have db' := (mT (sucL nodes pairs)).mono ex db7
    refine q_asg (ev_call (nodes, pairs, s) hs (ea_cons (ev_var rfl hx) (ea_cons (ev_var rfl db') (ea_cons (ev_call (nodes, pairs, s) ⟨nd, nz, pz, he, hs⟩ (ea_cons (ev_var rfl hx) (ea_cons (ev_var rfl da') ea_nil))) ea_nil)))) x2 fun v9 G8 H8 g8 ⟨e9, st9, c9⟩ => ?_
    have c78 := Dt.mono g8.gg c7
    have fin : ∀ (G9 H9 : Hp), Grow G8 H8 G9 H9 → st9 = st9 → ∀ (w : V) (e' : PyData), Dt G9 w e' → ((e' = .none ∧ ∀ j, j < i + 1 → ∀ s : Node, ds[j]? = some (pD s) → NoRing pairs s) ∨ ∃ l : List Node, e' = .list (l.map pD) ∧ l.length ≤ 2000) → PvE Gs (fun i σ' G' H' => ∃ v7 u8 u9 e, σ' = [some v1, some v2, some (.ref pa), some (.ref pb), u4, u5, u6, some v7, u8, u9] ∧ Grow G H G' H' ∧ Ex G7 G' ∧ Dt G' v7 e ∧ ((e = .none ∧ ∀ j, j < i → ∀ s : Node, ds[j]? = some (pD s) → NoRing pairs s) ∨ ∃ l : List Node, e = .list (l.map pD) ∧ l.length ≤ 2000)) (i + 1) [some v1, some v2, some (.ref pa), some (.ref pb), u4, u5, u6, some w, some x, some v9] H9 :=
      fun G9 H9 g9 _ w e' hw ho => ⟨G9, (x1.trans g8.gg).trans g9.gg, g9.gh, w, some x, some v9, e', rfl, (g'.trans g8).trans g9, (ex.trans g8.gg).trans g9.gg, hw, ho⟩
    rcases st9 with ⟨z1, z2⟩ | ⟨l9, z1, z2⟩
    · subst z1
      refine s_when (b := false) (ET.is (et_and (c := true) (et_test (ev_op (ev_var rfl c9) ev_non rv_notN)) fun hb => (by cases hb)) rfl) g8.gh (fun hb => (nomatch hb)) fun _ G9 H9 g9 => fin G9 H9 g9 rfl v7 e (Dt.mono g9.gg c78) ?_
      rcases st with ⟨z3, z4⟩ | z3
      · refine .inl ⟨z3, fun j hj s' hs' => ?_⟩
        by_cases ej : j = i
        · subst ej
          rw [hi] at hs'
          have : s = s' := by
            have h := Option.some.inj hs'
            injection h with h
            injection h with h1 h2
            injection h2 with h2 _
            injection h1 with h1
            injection h2 with h2
            exact Prod.ext h1 h2
          rw [← this]
          exact z2
        · exact z4 j (by omega) s' hs'
      · exact .inr z3
    · subst z1
      rcases st with ⟨z3, z4⟩ | ⟨l, z3, z4⟩
      · subst z3
        exact s_when (b := true) (ET.is (et_and (et_test (ev_op (ev_var rfl c9) ev_non rv_notN)) fun _ => et_or (c := true) (et_test (ev_op (ev_var rfl c78) ev_non rv_isN)) fun hb => (by cases hb)) rfl) g8.gh (fun _ G9 H9 g9 => s_asg (m := mD (.list (l9.map pD))) (ev_var rfl (Dt.mono g9.gg c9)) g9.gh fun v G10 H10 g10 hv => fin G10 H10 (g9.trans g10) rfl v _ hv (.inr ⟨l9, rfl, z2⟩)) fun hb => (nomatch hb)
      · subst z3
        exact s_when (et_and (et_test (ev_op (ev_var rfl c9) ev_non rv_notN)) fun _ => et_or (et_test (ev_op (ev_var rfl c78) ev_non rv_isN)) fun _ => et_test (ev_op (ev_len (ev_var rfl c9)) (ev_len (ev_var rfl c78)) rv_B0)) g8.gh (fun _ G9 H9 g9 => s_asg (m := mD (.list (l9.map pD))) (ev_var rfl (Dt.mono g9.gg c9)) g9.gh fun v G10 H10 g10 hv => fin G10 H10 (g9.trans g10) rfl v _ hv (.inr ⟨l9, rfl, z2⟩)) fun _ G9 H9 g9 => fin G9 H9 g9 rfl v7 _ (Dt.mono g9.gg c78) (.inr ⟨l, rfl, z4⟩)
  · rintro ds σ' G' H' hp x2 ⟨v7, u8, u9, e, rfl, g', ex, c7, st⟩
    rcases st with ⟨z3, z4⟩ | z3
    · obtain ⟨s, hs, z, hz, hr'⟩ := stk.ring
      have hm : pD s ∈ ds := hp.mem_iff.mpr (List.mem_map.mpr ⟨s, hs, rfl⟩)
      obtain ⟨j, hj, ej⟩ := List.mem_iff_getElem.mp hm
      exact absurd hr' (z4 j hj s (by rw [List.getElem?_eq_getElem hj, ej]) z hz)
    · exact s_ret (m := mD e) (ev_var rfl c7) x2 fun v G2 H2 g2 hv => k v G2 H2 (g'.trans g2) ⟨e, z3, hv⟩
end
end Sk
/-! Sk_judge -/
namespace Sk
open PySem PySem.Spec PyProof.Rows L2
open Evl (pss_cut tCut)
section
variable {P : Program} {w : World} {K : PySem.W.Frag} {mg : Str → Option Value} {base : Heap}
abbrev s_judge : Stmt := top 41
abbrev N_judge : List Str := ["history", "word", "lapse", "nodes", "ways", "pairs", "order", "edge"]
theorem sc_judge : FnScope N_judge ["history", "word"] (defScope s_judge) := ⟨rfl, rfl, rfl, by decide +kernel, rfl, by decide +kernel, by decide +kernel⟩
abbrev ends (e : Edge) : Node × Node := (e.one, e.other)
def Said (h : Hist) (w : Option Lev) (x : PyData) : Prop := ∃ (s : Str) (a : PyData) (r : List PyData), x = .tuple (.str s :: a :: r) ∧ (s = ("order" : Str) → Order h w)
abbrev sp_judge : Sp := mkSp (α := Hist × Option Lev) (fun y => [mD (histD y.1), mD (wD y.2)]) (fun y => y.1.Ok ∧ y.1.Small) (fun y => mDs (Said y.1 y.2))
theorem ok_judge  {f : Addr} {fd : FuncData} (F : FunD K "judge" "judge" (defArgs s_judge) (defBody s_judge) (defScope s_judge) [.non] [] f fd) (O_unkept : Own P w K mg base "unkept" 3 ["history", "word"] [] sp_unkept) (O_spots : Own P w K mg base "spots" 3 ["history", "word"] [] sp_spots) (O_edges : Own P w K mg base "edges" 4 ["history", "word"] [] sp_edges) (O_order_of : Own P w K mg base "order_of" 1 ["nodes", "pairs"] [] sp_order_of) (O_least_ring : Own P w K mg base "least_ring" 3 ["nodes", "pairs"] [] sp_least_ring) (O_ring_edges : Own P w K mg base "ring_edges" 2 ["ways", "chain"] [] sp_ring_edges) : FnOk P w K mg base CX0 5 f fd ["history", "word"] sp_judge := by
  have sc := sc_judge
  refine ok_mk F sc (fun _ => rfl) fun f cdv Ar outer s H E y G vs Q hr hok hGH hv k => ?_
  match vs, hv with
  | [v1, v2], ⟨h1, h2, _⟩ =>
  refine ⟨_, (pss_cons (ps_set (i := 2) sc.nd rfl (Or.inl rfl) (pe_own O_unkept (hr.mono (by decide)) (by rfl) (pa_cons (pv 0) (pa_cons (pv 1) pa_nil))))
 (pss_cons (ps_if (pt_cmpR op_notN1 (pv 2) pe_non (nomark _)) (pss_one (ps_ret (pe_tup (pa_cons pe_str (pa_cons (pe_ix ix_tup (pv 2) pe_int (fun _ _ => rfl)) (pa_cons (pe_ix ix_tup (pv 2) pe_int (fun _ _ => rfl)) (pa_cons (pe_ix ix_tup (pv 2) pe_int (fun _ _ => rfl)) pa_nil))))))) pss_nil)
 (pss_cons (ps_set (i := 3) sc.nd rfl (Or.inl rfl) (pe_own O_spots (hr.mono (by decide)) (by rfl) (pa_cons (pv 0) (pa_cons (pv 1) pa_nil))))
 (pss_cons (ps_set (i := 4) sc.nd rfl (Or.inl rfl) (pe_own O_edges (hr.mono (by decide)) (by rfl) (pa_cons (pv 0) (pa_cons (pv 1) pa_nil))))
 (pss_cons (ps_setLc (i := 5) (own := [("edge", 7)]) (g := gName 7) rfl sc.nd rfl rfl (sw_true rfl rfl rfl (by decide +kernel)) (pi_list (pv 4)) (blkOk_by (own := [("edge", 7)]) (N := N_judge) (sc := defScope s_judge) (by decide +kernel)) (fun _ _ _ _ _ => (pg_name (i := 7) sc.nd rfl (Or.inl rfl))) (fun _ _ _ _ _ => pts_nil) (fun _ _ _ _ _ => (pe_tup (pa_cons (pe_ix (show IxR _ (rIxT K) from ix_tup) (pv 7) pe_int (fun _ _ => rfl)) (pa_cons (pe_ix (show IxR _ (rIxT K) from ix_tup) (pv 7) pe_int (fun _ _ => rfl)) pa_nil)))))
 (pss_cons (ps_set (i := 6) sc.nd rfl (Or.inl rfl) (pe_own O_order_of (hr.mono (by decide)) (by rfl) (pa_cons (pv 3) (pa_cons (pv 5) pa_nil))))
 (pss_cons (ps_if (pt_cmpR op_notN1 (pv 6) pe_non (nomark _)) (pss_one (ps_ret (pe_tup (pa_cons pe_str (pa_cons (pv 6) pa_nil))))) pss_nil)
 (pss_one (ps_ret (pe_tup (pa_cons pe_str (pa_cons (pe_own O_ring_edges (hr.mono (by decide)) (by rfl) (pa_cons (pv 4) (pa_cons (pe_own O_least_ring (hr.mono (by decide)) (by rfl) (pa_cons (pv 3) (pa_cons (pv 5) pa_nil))) pa_nil))) pa_nil)))))))))))), ?_⟩
  obtain ⟨h, wd⟩ := y
  obtain ⟨ok, sm⟩ := hok
  have ok : h.Ok := ok
  have sm : h.Small := sm
  have h1 : Dt G v1 (histD h) := h1
  have h2 : Dt G v2 (wD wd) := h2
  have args : ∀ {σ : L2.St} {G' H' : Hp}, Ex G G' → σ[0]? = some (some v1) → σ[1]? = some (some v2) → EvA (tCons (tVar 0) (tCons (tVar 1) tNil)) σ G' H' [mD (histD h), mD (wD wd)] := fun e e1 e2 => ea_cons (ev_var e1 (Dt.mono e h1)) (ea_cons (ev_var e2 (Dt.mono e h2)) ea_nil)
  refine q_asg (ev_call (h, wd) ⟨ok, sm⟩ (args (Ex.refl _) rfl rfl)) hGH fun v3 G1 H1 g1 ⟨x3, p3, c3⟩ => ?_
  refine q_when (et_test (ev_op (ev_var rfl c3) ev_non rv_notN)) g1.gh (fun hb G2 H2 g2 => ?_) fun hb G2 H2 g2 => ?_
  · rcases p3 with ⟨e3, _⟩ | ⟨a, b, c, e3⟩
    · subst e3
      cases hb
    · subst e3
      have c3 := Dt.mono g2.gg c3
      exact s_ret (ev_tup (ed_cons ev_str (ed_cons (ev_op (ev_var rfl c3) ev_int (rv_ixT (d := .int a) rfl)) (ed_cons (ev_op (ev_var rfl c3) ev_int (rv_ixT (d := .int b) rfl)) (ed_cons (ev_op (ev_var rfl c3) ev_int (rv_ixT (d := .int c) rfl)) ed_nil))))) g2.gh fun v G3 H3 g3 hv => k v G3 H3 ((g1.trans g2).trans g3) ⟨_, ⟨_, _, _, rfl, fun e => absurd e (by decide +kernel)⟩, hv⟩
  · rcases p3 with ⟨e3, kept⟩ | ⟨a, b, c, e3⟩
    · have g12 := g1.trans g2
      refine q_asg (ev_call (h, wd) ⟨ok, sm⟩ (args g12.gg rfl rfl)) g2.gh fun v4 G3 H3 g3 c4 => ?_
      have c4 : Dt G3 v4 (.list ((spotsL h wd).map pD)) := c4
      have g13 := g12.trans g3
      refine q_asg (ev_call (h, wd) ⟨ok, sm⟩ (args g13.gg rfl rfl)) g3.gh fun v5 G4 H4 g4 ⟨x5, ⟨fs, e5, l5, m5⟩, c5⟩ => ?_
      have m5 : ∀ e, e ∈ fs ↔ e ∈ edgesL h wd := m5
      subst e5
      have g14 := g13.trans g4
      refine q_asg (ev_lcD (ev_var rfl c5) (fun i es => es = (fs.take i).map fun e => ppD (e.one, e.other)) rfl (fun i acc e => by rw [e, List.length_map, List.length_take]; omega) ?_) g4.gh fun v6 G5 H5 g5 ⟨x6, ⟨es, e6, es6⟩, c6⟩ => ?_
      · intro i d x G' H' Q' hi g' hx kk
        obtain ⟨e, q, rfl⟩ := map_some hi
        refine kk _ rfl ⟨true, et_yes, fun _ => ⟨fun d => d = ppD (e.one, e.other), Ev.imp (ev_tup (ed_cons (ev_op (ev_var rfl hx) ev_int (rv_ixT (d := pD e.one) rfl)) (ed_cons (ev_op (ev_var rfl hx) ev_int (rv_ixT (d := pD e.other) rfl)) ed_nil))) fun G v hv => ⟨_, rfl, hv⟩, fun acc d ea ed => ?_⟩, fun hb => by cases hb⟩
        rw [ea, ed, take_snoc q, List.map_append]
        rfl
      rw [List.length_map, List.take_length] at es6
      subst es6 e6
      have em : (fs.map fun e => ppD (e.one, e.other)) = (fs.map ends).map ppD := by
        rw [List.map_map]
        rfl
      rw [em] at c6
      have g15 := g14.trans g5
      have c45 := Dt.mono (g4.gg.trans g5.gg) c4
      have hends : ∀ p ∈ fs.map ends, p.1 ∈ spotsL h wd ∧ p.2 ∈ spotsL h wd := fun p hp => by
        obtain ⟨e, he, rfl⟩ := List.mem_map.mp hp
        exact edges_ends ok e ((m5 e).mp he)
      have hsl : (spotsL h wd).length ≤ 1000 := by
        have := spots_take sm wd h.deals.length
        rw [List.take_length] at this
        unfold spotsL
        omega
      have hpl : (fs.map ends).length ≤ 50000 := by
        rw [List.length_map]
        omega
      refine q_asg (ev_call (spotsL h wd, fs.map ends) ⟨spotsL_nodup ok, hsl, hpl, hends⟩ (ea_cons (ev_var rfl c45) (ea_cons (ev_var rfl c6) ea_nil))) g5.gh fun v7 G6 H6 g6 ⟨x7, p7, c7⟩ => ?_
      have g16 := g15.trans g6
      refine q_when (et_test (ev_op (ev_var rfl c7) ev_non rv_notN)) g6.gh (fun hb G7 H7 g7 => ?_) fun hb G7 H7 g7 => ?_
      · rcases p7 with ⟨e7, _⟩ | ⟨⟨r, hr'⟩, l, e7⟩
        · subst e7
          cases hb
        · exact s_ret (ev_tup (ed_cons ev_str (ed_cons (ev_var rfl (Dt.mono g7.gg c7)) ed_nil))) g7.gh fun v G8 H8 g8 hv => k v G8 H8 ((g16.trans g7).trans g8) ⟨_, ⟨_, _, _, rfl, fun _ => ⟨⟨r, fun e he => hr' (e.one, e.other) (List.mem_map.mpr ⟨e, (m5 e).mpr he, rfl⟩)⟩, kept⟩⟩, hv⟩
      · rcases p7 with ⟨e7, stk⟩ | ⟨_, l, e7⟩
        · have e67 := g6.gg.trans g7.gg
          refine s_ret (ev_pairD (P := fun _ => True) ev_str (ev_callE (ms := [mD (.list (fs.map edgeD)), mDs fun v => ∃ l : List Node, v = .list (l.map pD) ∧ l.length ≤ 2000]) (ea_cons (ev_var rfl (Dt.mono (g5.gg.trans e67) c5)) (ea_cons (ev_call (spotsL h wd, fs.map ends) ⟨spotsL_nodup ok, hsl, hpl, hends, stk⟩ (ea_cons (ev_var rfl (Dt.mono e67 c45)) (ea_cons (ev_var rfl (Dt.mono e67 c6)) ea_nil))) ea_nil)) fun G vs hv => ?_)) g7.gh fun v G8 H8 g8 ⟨d, ⟨d', ed, _⟩, hv⟩ => k v G8 H8 ((g16.trans g7).trans g8) ⟨d, ⟨_, _, _, ed, fun e => absurd e (by decide +kernel)⟩, hv⟩
          match vs, hv with
          | [x, y], ⟨hx, ⟨dy, ⟨l, el, hl⟩, hy⟩, _⟩ =>
          subst el
          exact ⟨(fs, l), hl, ⟨hx, hy, trivial⟩, fun G v h => h⟩
        · subst e7
          cases hb
    · subst e3
      cases hb
theorem own_judge  (A : DefAt K mg "judge" s_judge [.non]) (O_unkept : Own P w K mg base "unkept" 3 ["history", "word"] [] sp_unkept) (O_spots : Own P w K mg base "spots" 3 ["history", "word"] [] sp_spots) (O_edges : Own P w K mg base "edges" 4 ["history", "word"] [] sp_edges) (O_order_of : Own P w K mg base "order_of" 1 ["nodes", "pairs"] [] sp_order_of) (O_least_ring : Own P w K mg base "least_ring" 3 ["nodes", "pairs"] [] sp_least_ring) (O_ring_edges : Own P w K mg base "ring_edges" 2 ["ways", "chain"] [] sp_ring_edges) : Own P w K mg base "judge" 5 ["history", "word"] [] sp_judge :=
  own_D A (fun f fd F => F.binds1 2 1 (fun h => nomatch h) rfl fun T kV doc pm an cdv ct us its h1 h2 => match us, its, h1, h2 with | [_, _], [_], _, _ => ⟨_, rfl, rfl⟩) fun f fd F => ok_judge F O_unkept O_spots O_edges O_order_of O_least_ring O_ring_edges
theorem ownD_judge  (A : DefAt K mg "judge" s_judge [.non]) (O_unkept : Own P w K mg base "unkept" 3 ["history", "word"] [] sp_unkept) (O_spots : Own P w K mg base "spots" 3 ["history", "word"] [] sp_spots) (O_edges : Own P w K mg base "edges" 4 ["history", "word"] [] sp_edges) (O_order_of : Own P w K mg base "order_of" 1 ["nodes", "pairs"] [] sp_order_of) (O_least_ring : Own P w K mg base "least_ring" 3 ["nodes", "pairs"] [] sp_least_ring) (O_ring_edges : Own P w K mg base "ring_edges" 2 ["ways", "chain"] [] sp_ring_edges) : Own P w K mg base "judge" 5 ["history", "word"] [.non] sp_judge :=
  own_D A (fun f fd F => F.binds1 1 0 (fun h => nomatch h) rfl fun T kV doc pm an cdv ct us its h1 h2 => match us, its, h1, h2 with | [_], [_], _, _ => ⟨_, rfl, rfl⟩) fun f fd F => ok_judge F O_unkept O_spots O_edges O_order_of O_least_ring O_ring_edges
end
end Sk
/-! Sk_law -/
namespace Sk
open PySem PySem.Spec PyProof.Rows L2
open Evl (pss_cut tCut)
def makesF (rows : List (Int × List Int)) : List (Int × List Int) := rows.filter fun r => !(r.2.isEmpty)
theorem flatten_le : ∀ ls : List Look, (∀ l ∈ ls, l.length ≤ 4) → ls.flatten.length ≤ ls.length * 4
  | [], _ => Nat.zero_le _
  | l :: ls, h => by
    have h1 := flatten_le ls fun x hx => h x (List.mem_cons_of_mem _ hx)
    have h2 := h l List.mem_cons_self
    rw [List.flatten_cons, List.length_append, List.length_cons, Nat.succ_mul]
    omega
theorem hist_ok {nums order : List Int} {rows : List (Int × List Int)} {ds : List Deal} (hn : NumsOk nums) (hk : KeysOk nums order rows) (hd : DealsOk nums rows ds) : (⟨ds, makesF rows⟩ : Hist).Ok ∧ (⟨ds, makesF rows⟩ : Hist).Small := by
  obtain ⟨n1, n2, n3, n4⟩ := hn
  have ond : order.Nodup := hk.perm.nodup_iff.mpr n1
  have olen : order.length ≤ 4 := by rw [hk.perm.length_eq]; exact n4
  have hmem : ∀ km ∈ makesF rows, km ∈ rows := fun km h => (List.mem_filter.mp h).1
  have dnum : ∀ d ∈ ds, d.num ∈ nums := fun d h => by rw [← hd.nums]; exact List.mem_map.mpr ⟨d, h, rfl⟩
  have knd : ((makesF rows).map (·.1)).Nodup := (List.filter_sublist.map _).nodup hk.keys
  have dlen : ds.length ≤ 4 := by
    have := congrArg List.length hd.nums
    rw [List.length_map] at this
    omega
  refine ⟨⟨?_, fun d h => n2 _ (dnum d h), fun km h m hm => ?_, fun km h => (hk.subs km (hmem km h)).nodup ond, knd, fun d h l hl p hp => ?_⟩, ⟨dlen, fun d h => ?_, fun d h => ?_, ?_, fun km h => ?_⟩⟩
  · show (ds.map (·.num)).Nodup
    rw [hd.nums]
    exact n1
  · show m ∈ ds.map (·.num)
    rw [hd.nums]
    exact hk.perm.mem_iff.mp ((hk.subs km (hmem km h)).subset hm)
  · obtain ⟨r, r1, r2, r3⟩ := ((hd.looks d h).2 l hl).2 p hp
    rcases r3 with q | q | ⟨q1, q2⟩
    · exact .inl q
    · exact .inr (.inl q)
    · refine .inr (.inr ⟨?_, q2⟩)
      have hr : r ∈ makesF rows := List.mem_filter.mpr ⟨r1, by
        cases hz : r.2 with
        | nil =>
          rw [hz] at q1
          cases q1
        | cons a b => rfl⟩
      have hf := find_nodup (fun km : Int × List Int => km.1) knd hr
      unfold makersOf
      rw [← r2]
      show p.2 ∈ (((makesF rows).find? fun km => decide (km.1 = r.1)).map (·.2)).getD []
      rw [hf]
      exact q1
  · have := (hd.looks d h).1
    omega
  · have h1 := (hd.looks d h).1
    have h2 := flatten_le d.looks fun l hl => ((hd.looks d h).2 l hl).1
    unfold pairsOf
    omega
  · have h1 : (makesF rows).length ≤ rows.length := List.length_filter_le _ _
    have h2 := hk.len
    show (makesF rows).length ≤ 4
    omega
  · have := (hk.subs km (hmem km h)).length_le
    omega
abbrev atAll (l : Lev) (d : Deal) : Deal := { d with lev := l }
theorem atW_ok {h : Hist} (ok : h.Ok) (sm : h.Small) (w : Option Lev) : (atW h w).Ok ∧ (atW h w).Small := by
  cases w with
  | none => exact ⟨ok, sm⟩
  | some l =>
    have e : (h.deals.map (atAll l)).map (·.num) = h.deals.map (·.num) := by rw [List.map_map]; rfl
    refine ⟨⟨by show ((h.deals.map (atAll l)).map (·.num)).Nodup; rw [e]; exact ok.nums, fun d hd => ?_, fun km hk m hm => by show m ∈ (h.deals.map (atAll l)).map (·.num); rw [e]; exact ok.mkr km hk m hm, ok.mnd, ok.knd, fun d hd => ?_⟩, ⟨?_, fun d hd => ?_, fun d hd => ?_, sm.makes, sm.makers⟩⟩
    · obtain ⟨d', h1, rfl⟩ := List.mem_map.mp hd
      exact ok.pos d' h1
    · obtain ⟨d', h1, rfl⟩ := List.mem_map.mp hd
      exact ok.src d' h1
    · show (h.deals.map (atAll l)).length ≤ 4
      rw [List.length_map]
      exact sm.deals
    · obtain ⟨d', h1, rfl⟩ := List.mem_map.mp hd
      exact sm.looks d' h1
    · obtain ⟨d', h1, rfl⟩ := List.mem_map.mp hd
      exact sm.pairs d' h1
theorem isIll_at {h : Hist} {w : Option Lev} {i : Ill} (x : IsIll (atW h w) i) : IsIll h i := by
  cases w with
  | none => exact x
  | some l =>
    cases x with
    | lost a b c e =>
      obtain ⟨d', h1, rfl⟩ := List.mem_map.mp a
      exact IsIll.lost (d := d') h1 b c e
    | midway a b c e =>
      obtain ⟨d', h1, rfl⟩ := List.mem_map.mp a
      exact IsIll.midway (d := d') h1 b c e
    | skewed a b c e f g j =>
      obtain ⟨d1, h1, rfl⟩ := List.mem_map.mp a
      obtain ⟨d2, h2, rfl⟩ := List.mem_map.mp b
      exact IsIll.skewed (a := d1) (b := d2) h1 h2 c e f g j
    | unkept a b =>
      obtain ⟨d', h1, rfl⟩ := List.mem_map.mp a
      exact IsIll.unkept (d := d') h1 b
theorem said_fine {h : Hist} {w : Option Lev} (ok : h.Ok) {x : PyData} (hs : Said h w x) : ∃ (s : Str) (a : PyData) (r : List PyData), x = .tuple (.str s :: a :: r) ∧ (s = ("order" : Str) → ∀ i, IsIll (atW h w) i → isLet (atW h w) i = true) := by
  obtain ⟨s, a, r, e, q⟩ := hs
  exact ⟨s, a, r, e, fun es i hi => order_lets ok (q es) i (isIll_at hi)⟩
theorem shaped_ints (l : List Int) : SeqAt.shaped (.list (dI l)) = true := by
  have h1 : PyData.canLayAll0 (dI l) = true := by
    induction l with
    | nil => rfl
    | cons a l ih =>
      have ih' : PyData.canLayAll0 (l.map PyData.int) = true := ih
      simp [PyData.canLayAll0, PyData.canLay0] at ih' ⊢
      exact ih'
  have h2 : PyData.depthAll (dI l) ≤ 30 := depthAll_le (flat_ints l)
  unfold SeqAt.shaped
  simp [PyData.canLay0, h1, PyData.depth]
  omega
section
variable {P : Program} {w : World} {K : PySem.W.Frag} {mg : Str → Option Value} {base : Heap}
abbrev s_law : Stmt := top 58
abbrev N_law : List Str := ["_law_script", "_law_numbers_here", "_law_order", "_law_rows", "_law_makes", "_law_deals_here", "_law_word", "_law_alike", "_law_row", "_law_number", "_law_own", "_law_looks"]
theorem sc_law : FnScope N_law ["_law_script"] (defScope s_law) := ⟨rfl, rfl, rfl, by decide +kernel, rfl, by decide +kernel, by decide +kernel⟩
abbrev sp_law (K : PySem.W.Frag) : Sp := mkSp (α := List Int) (fun y => [mScript K y]) (fun y => y.length ≤ 63) (fun _ => mD (.bool true))
theorem ok_law  {f : Addr} {fd : FuncData} (F : FunD K "law" "law" (defArgs s_law) (defBody s_law) (defScope s_law) [] [] f fd) (O__law_numbers : Own P w K mg base "_law_numbers" 2 ["_law_script"] [] (sp__law_numbers K)) (O__law_keys : Own P w K mg base "_law_keys" 2 ["_law_script", "_law_numbers_here"] [] (sp__law_keys K)) (O__law_deals : Own P w K mg base "_law_deals" 3 ["_law_script", "_law_numbers_here", "_law_order", "_law_rows"] [] (sp__law_deals K)) (O__law_fine : Own P w K mg base "_law_fine" 6 ["_law_answer", "_law_deals_here", "_law_makes"] [] sp__law_fine) (O_judge : Own P w K mg base "judge" 5 ["history", "word"] [] sp_judge) (O_judgeD : Own P w K mg base "judge" 5 ["history", "word"] [.non] sp_judge) : FnOk P w K mg base CX0 7 f fd ["_law_script"] (sp_law K) := by
  have sc := sc_law
  refine ok_mk F sc (fun _ => rfl) fun f cdv Ar outer s H E y G vs Q hr hok hGH hv k => ?_
  obtain ⟨v1, ev, h1⟩ := AllP.inv1 hv
  subst ev
  refine ⟨_, (pss_cons (ps_set (i := 1) sc.nd rfl (Or.inl rfl) (pe_own O__law_numbers (hr.mono (by decide)) (by rfl) (pa_cons (pv 0) pa_nil)))
 (pss_cons (ps_asg (pe_own O__law_keys (hr.mono (by decide)) (by rfl) (pa_cons (pv 0) (pa_cons (pv 1) pa_nil))) (pg_tup rfl (pgs_cons (pg_name (i := 2) sc.nd rfl (Or.inl rfl)) (pgs_cons (pg_name (i := 3) sc.nd rfl (Or.inl rfl)) pgs_nil))))
 (pss_cons (ps_setLc (i := 4) (own := [("_law_row", 8)]) (g := gName 8) rfl sc.nd rfl rfl (sw_true rfl rfl rfl (by decide +kernel)) (pi_list (pv 3)) (blkOk_by (own := [("_law_row", 8)]) (N := N_law) (sc := defScope s_law) (by decide +kernel)) (fun _ _ _ _ _ => (pg_name (i := 8) sc.nd rfl (Or.inl rfl))) (fun _ _ _ _ _ => (pts_one (pt_cmpR (show OpR _ _ (rNeD K) from (op_neD hr.units)) (pe_ix (show IxR _ (rIxT K) from ix_tup) (pv 8) pe_int (fun _ _ => rfl)) (pe_lst pa_nil) (nomark _)))) (fun _ _ _ _ _ => (pv 8)))
 (pss_cons (ps_set (i := 5) sc.nd rfl (Or.inl rfl) (pe_own O__law_deals (hr.mono (by decide)) (by rfl) (pa_cons (pv 0) (pa_cons (pv 1) (pa_cons (pv 2) (pa_cons (pv 3) pa_nil))))))
 (pss_cons (ps_if (pt_not (pt_val (pe_own O__law_fine (hr.mono (by decide)) (by rfl) (pa_cons (pe_own O_judgeD (hr.mono (by decide)) (by rfl) (pa_cons (pe_tup (pa_cons (pv 5) (pa_cons (pv 4) pa_nil))) pa_nil)) (pa_cons (pv 5) (pa_cons (pv 4) pa_nil)))))) (pss_one (ps_ret pe_bl)) pss_nil)
 (pss_cons (ps_for PassesOwn.never rfl (pi_list (pe_lst (pa_cons pe_str (pa_cons pe_str (pa_cons pe_str (pa_cons pe_str (pa_cons pe_str pa_nil))))))) (pg_name (i := 6) sc.nd rfl (Or.inr rfl)) (pss_cons (ps_setLc (i := 7) (own := [("_law_number", 9), ("_law_own", 10), ("_law_looks", 11)]) (g := gTup K 3 (gCons (gName 9) (gCons (gName 10) (gCons (gName 11) gNil)))) rfl sc.nd rfl rfl (sw_true rfl rfl rfl (by decide +kernel)) (pi_list (pv 5)) (blkOk_by (own := [("_law_number", 9), ("_law_own", 10), ("_law_looks", 11)]) (N := N_law) (sc := defScope s_law) (by decide +kernel)) (fun _ _ _ _ _ => (pg_tup rfl (pgs_cons (pg_name (i := 9) sc.nd rfl (Or.inl rfl)) (pgs_cons (pg_name (i := 10) sc.nd rfl (Or.inl rfl)) (pgs_cons (pg_name (i := 11) sc.nd rfl (Or.inl rfl)) pgs_nil))))) (fun _ _ _ _ _ => pts_nil) (fun _ _ _ _ _ => (pe_tup (pa_cons (pv 9) (pa_cons (pv 6) (pa_cons (pv 11) pa_nil))))))
 (pss_one (ps_if (pt_not (pt_val (pe_own O__law_fine (hr.mono (by decide)) (by rfl) (pa_cons (pe_own O_judge (hr.mono (by decide)) (by rfl) (pa_cons (pe_tup (pa_cons (pv 5) (pa_cons (pv 4) pa_nil))) (pa_cons (pv 6) pa_nil))) (pa_cons (pv 7) (pa_cons (pv 4) pa_nil)))))) (pss_one (ps_ret pe_bl)) pss_nil))))
 (pss_one (ps_ret pe_bl)))))))), ?_⟩
  have hns : y.length ≤ 63 := hok
  have h1 : (mScript K y).p G v1 := h1
  refine q_asg (ev_call y hns (ea_cons (ev_var rfl h1) ea_nil)) hGH fun v2 G1 H1 g1 ⟨x2, ⟨nums, e2, hn⟩, h2⟩ => ?_
  subst e2
  refine (ev_call (y, nums) ⟨hns, hn⟩ (ea_cons (ev_var rfl ((mScript K y).mono g1.gg h1)) (ea_cons (ev_var rfl h2) ea_nil))) G1 H1 (Grow.refl g1.gh) _ fun v G2 H2 g2 ⟨x3, ⟨order, rows, e3, hk⟩, hv⟩ => ?_
  subst e3
  have hk : KeysOk nums order rows := hk
  refine g_2 hv g2.gh fun v3 v4 h3 h4 => ?_
  have g12 := g1.trans g2
  refine q_asg (ev_det (es := (makesF rows).map makeD) (ev_lcD (K := K) (ds := rows.map makeD) (ev_var rfl h4) (fun j es => es = (makesF (rows.take j)).map makeD) rfl (fun j acc e => ?_) ?_) ?_) g2.gh fun v5 G3 H3 g3 h5 => ?_
  · rw [e, List.length_map]
    have h1 : (makesF (rows.take j)).length ≤ (rows.take j).length := List.length_filter_le _ _
    have h2 : (rows.take j).length ≤ rows.length := by rw [List.length_take]; omega
    have := hk.len
    omega
  · intro j dd x G9 H9 Q9 hj g9 hx kk
    obtain ⟨r, hr', rfl⟩ := map_some hj
    refine kk _ rfl ⟨!PyData.eqv (.list (dI r.2)) (.list []), et_test (ev_op (ev_op (ev_var rfl hx) ev_int (rv_ixT (d := .list (dI r.2)) rfl)) (ev_lst ed_nil) (rv_neD (shaped_ints r.2) (shaped_ints []))), fun hb => ⟨fun d => d = makeD r, Ev.imp (ev_var (m := mD (makeD r)) rfl hx) fun G v hv => ⟨_, rfl, hv⟩, fun acc d ea ed => ?_⟩, fun hb acc ea => ?_⟩
    · rw [eqv_nilL] at hb
      have hb : (!r.2.isEmpty) = true := by
        cases hz : r.2 with
        | nil =>
          rw [hz] at hb
          cases hb
        | cons a b => rfl
      rw [ea, ed, take_snoc hr']
      unfold makesF
      rw [List.filter_append, List.map_append]
      congr 1
      rw [List.filter_cons, if_pos hb]
      rfl
    · rw [eqv_nilL] at hb
      have hb : (!r.2.isEmpty) = false := by
        cases hz : r.2 with
        | nil => rfl
        | cons a b =>
          rw [hz] at hb
          cases hb
      rw [ea, take_snoc hr']
      unfold makesF
      rw [List.filter_append, List.map_append]
      have : [r].filter (fun r : Int × List Int => !r.2.isEmpty) = [] := by
        rw [List.filter_cons, if_neg (by rw [hb]; exact Bool.false_ne_true)]
        rfl
      rw [this]
      simp
  · intro ds e
    rw [e, List.length_map, List.take_length]
  have g13 := g12.trans g3
  refine q_asg (ev_call (y, nums, order, rows) ⟨hns, hn, hk⟩ (ea_cons (ev_var rfl ((mScript K y).mono g13.gg h1)) (ea_cons (ev_var rfl (Dt.mono (g2.gg.trans g3.gg) h2)) (ea_cons (ev_var rfl (Dt.mono g3.gg h3)) (ea_cons (ev_var rfl (Dt.mono g3.gg h4)) ea_nil))))) g3.gh fun v6 G4 H4 g4 ⟨x6, ⟨ds, e6, hd⟩, h6⟩ => ?_
  subst e6
  have hd : DealsOk nums rows ds := hd
  obtain ⟨ok, sm⟩ := hist_ok hn hk hd
  have h5 := Dt.mono g4.gg h5
  have g14 := g13.trans g4
  generalize hh : (⟨ds, makesF rows⟩ : Hist) = h at ok sm
  have e1 : ds = h.deals := by rw [← hh]
  have e2 : makesF rows = h.makes := by rw [← hh]
  rw [e1] at h6
  rw [e2] at h5
  have hist : ∀ {σ : L2.St} {G' H' : Hp}, Ex G4 G' → σ[5]? = some (some v6) → σ[4]? = some (some v5) → Ev (tTup (tCons (tVar 5) (tCons (tVar 4) tNil))) σ G' H' (mD (histD h)) := fun e a b => ev_tup (ed_cons (ev_var a (Dt.mono e h6)) (ed_cons (ev_var b (Dt.mono e h5)) ed_nil))
  refine q_when (b := false) (ET.is (et_not (et_test (ev_call h ⟨ok, sm⟩ (ea_cons (Ev.imp (ev_callD (ms := [mD (histD h)]) (ns := [mD .none]) (h, none) ⟨ok, sm⟩ (ea_cons (hist (Ex.refl _) rfl rfl) ea_nil) rfl (fun G => ⟨.non, trivial⟩)) fun G v ⟨x, hs, hx⟩ => ⟨x, said_fine ok hs, hx⟩) (ea_cons (ev_var rfl h6) (ea_cons (ev_var rfl h5) ea_nil)))))) rfl) g4.gh (fun hb => nomatch hb) fun _ G5 H5 g5 => ?_
  have g15 := g14.trans g5
  refine q_forDn (ds := dS ["loose", "kept", "make", "watch", "hold"]) (ev_lst (ed_cons ev_str (ed_cons ev_str (ed_cons ev_str (ed_cons ev_str (ed_cons ev_str ed_nil)))))) g5.gh (fun i σ' G' H' => ∃ u7 u8, σ' = [some v1, some v2, some v3, some v4, some v5, some v6, u7, u8, none, none, none, none] ∧ Grow G H G' H' ∧ Ex G4 G') ?_ ?_ ?_
  · intro G6 H6 g6
    exact ⟨none, none, rfl, g15.trans g6, g5.gg.trans g6.gg⟩
  · rintro Gs i d x σ' G' H' hi hx x1 x2 ⟨u7, u8, rfl, g', ex⟩
    obtain ⟨lv, hlv⟩ := word_at (j := i) (by
      have := (List.getElem?_eq_some_iff.mp hi).1
      exact this)
    rw [hlv] at hi
    cases hi
    obtain ⟨ok2, sm2⟩ := atW_ok ok sm (some lv)
    refine q_asg (ev_det (es := (h.deals.map (atAll lv)).map dealD) (ev_lcD (K := K) (ds := h.deals.map dealD) (ev_var rfl (Dt.mono ex h6)) (fun j es => es = ((h.deals.take j).map (atAll lv)).map dealD) rfl (fun j acc e => ?_) ?_) ?_) x2 fun v8 G6 H6 g6 h8 => ?_
    · rw [e, List.length_map, List.length_map, List.length_take]
      have := sm.deals
      omega
    · intro j dd w G9 H9 Q9 hj g9 hw kk
      obtain ⟨d, hdj, rfl⟩ := map_some hj
      refine g_3 hw g9.gh fun w1 w2 w3 c1 c2 c3 => ?_
      refine kk _ rfl ⟨true, et_yes, fun _ => ⟨fun z => z = dealD (atAll lv d), Ev.imp (ev_tup (ed_cons (ev_var rfl c1) (ed_cons (ev_var rfl (Dt.mono g9.gg hx)) (ed_cons (ev_var rfl c3) ed_nil)))) fun G v hv => ⟨_, rfl, hv⟩, fun acc z ea ez => ?_⟩, fun hb => by cases hb⟩
      rw [ea, ez, take_snoc hdj, List.map_append, List.map_append]
      rfl
    · intro es e
      rw [e, List.length_map, List.take_length]
    have ex6 := ex.trans g6.gg
    refine s_when (b := false) (ET.is (et_not (et_test (ev_call (atW h (some lv)) ⟨ok2, sm2⟩ (ea_cons (Ev.imp (ev_call (h, some lv) ⟨ok, sm⟩ (ea_cons (hist ex6 rfl rfl) (ea_cons (ev_var rfl (Dt.mono g6.gg hx)) ea_nil))) fun G v ⟨x, hs, hx⟩ => ⟨x, said_fine ok hs, hx⟩) (ea_cons (ev_var rfl h8) (ea_cons (ev_var rfl (Dt.mono ex6 h5)) ea_nil)))))) rfl) g6.gh (fun hb => nomatch hb) fun _ G7 H7 g7 => ⟨G7, (x1.trans g6.gg).trans g7.gg, g7.gh, some x, some v8, rfl, (g'.trans g6).trans g7, ex6.trans g7.gg⟩
  · rintro σ' G' H' x2 ⟨u7, u8, rfl, g', ex⟩
    exact s_ret ev_bl x2 fun v G6 H6 g6 hv => k v G6 H6 (g'.trans g6) hv
end
end Sk
/-! Sk_look_spot_Hold -/
namespace Sk
open PySem PySem.Spec PyProof.Rows L2
open Evl (pss_cut tCut)
section
variable {P : Program} {w : World} {K : PySem.W.Frag} {mg : Str → Option Value} {base : Heap}
abbrev s_look_spot_Hold : Stmt := inClass (top 25) 3
abbrev N_look_spot_Hold : List Str := ["self", "place"]
theorem sc_look_spot_Hold : FnScope N_look_spot_Hold ["self", "place"] (defScope s_look_spot_Hold) := ⟨rfl, rfl, rfl, by decide +kernel, rfl, by decide +kernel, by decide +kernel⟩
abbrev sp_look_spot_Hold : Sp := spM_look_spot .hold
theorem ok_look_spot_Hold {f : Addr} {fd : FuncData} (F : FunD K "look_spot" "Hold.look_spot" (defArgs s_look_spot_Hold) (defBody s_look_spot_Hold) (defScope s_look_spot_Hold) [] [] f fd)  : FnOk P w K mg base CX0 1 f fd ["self", "place"] sp_look_spot_Hold := by
  have sc := sc_look_spot_Hold
  refine ok_mkM F sc (fun _ => rfl) fun f cdv Ar outer s H E y G vs Q hr hok hGH hv k => ?_
  match vs, hv with
  | [v1, v2], ⟨_, h2, _⟩ =>
  refine ⟨_, (pss_one (ps_ret pe_int)), ?_⟩
  exact s_ret (m := mD (.int 0)) ev_int hGH fun v G1 H1 g1 hv => k v G1 H1 g1 hv
end
end Sk
/-! Sk_look_spot_Kept -/
namespace Sk
open PySem PySem.Spec PyProof.Rows L2
open Evl (pss_cut tCut)
section
variable {P : Program} {w : World} {K : PySem.W.Frag} {mg : Str → Option Value} {base : Heap}
abbrev s_look_spot_Kept : Stmt := inClass (top 22) 3
abbrev N_look_spot_Kept : List Str := ["self", "place"]
theorem sc_look_spot_Kept : FnScope N_look_spot_Kept ["self", "place"] (defScope s_look_spot_Kept) := ⟨rfl, rfl, rfl, by decide +kernel, rfl, by decide +kernel, by decide +kernel⟩
abbrev sp_look_spot_Kept : Sp := spM_look_spot .kept
theorem ok_look_spot_Kept {f : Addr} {fd : FuncData} (F : FunD K "look_spot" "Kept.look_spot" (defArgs s_look_spot_Kept) (defBody s_look_spot_Kept) (defScope s_look_spot_Kept) [] [] f fd)  : FnOk P w K mg base CX0 1 f fd ["self", "place"] sp_look_spot_Kept := by
  have sc := sc_look_spot_Kept
  refine ok_mkM F sc (fun _ => rfl) fun f cdv Ar outer s H E y G vs Q hr hok hGH hv k => ?_
  match vs, hv with
  | [v1, v2], ⟨_, h2, _⟩ =>
  refine ⟨_, (pss_one (ps_ret (pv 1))), ?_⟩
  exact s_ret (m := mD (.int (y : Int))) (ev_var rfl h2) hGH fun v G1 H1 g1 hv => k v G1 H1 g1 hv
end
end Sk
/-! Sk_look_spot_Loose -/
namespace Sk
open PySem PySem.Spec PyProof.Rows L2
open Evl (pss_cut tCut)
section
variable {P : Program} {w : World} {K : PySem.W.Frag} {mg : Str → Option Value} {base : Heap}
abbrev s_look_spot_Loose : Stmt := inClass (top 21) 7
abbrev N_look_spot_Loose : List Str := ["self", "place"]
theorem sc_look_spot_Loose : FnScope N_look_spot_Loose ["self", "place"] (defScope s_look_spot_Loose) := ⟨rfl, rfl, rfl, by decide +kernel, rfl, by decide +kernel, by decide +kernel⟩
abbrev sp_look_spot_Loose : Sp := spM_look_spot .loose
theorem ok_look_spot_Loose {f : Addr} {fd : FuncData} (F : FunD K "look_spot" "Loose.look_spot" (defArgs s_look_spot_Loose) (defBody s_look_spot_Loose) (defScope s_look_spot_Loose) [] [] f fd)  : FnOk P w K mg base CX0 1 f fd ["self", "place"] sp_look_spot_Loose := by
  have sc := sc_look_spot_Loose
  refine ok_mkM F sc (fun _ => rfl) fun f cdv Ar outer s H E y G vs Q hr hok hGH hv k => ?_
  match vs, hv with
  | [v1, v2], ⟨_, h2, _⟩ =>
  refine ⟨_, (pss_one (ps_ret pe_non)), ?_⟩
  exact s_ret (m := mD .none) ev_non hGH fun v G1 H1 g1 hv => k v G1 H1 g1 hv
end
end Sk
/-! Sk_look_spot_Make -/
namespace Sk
open PySem PySem.Spec PyProof.Rows L2
open Evl (pss_cut tCut)
section
variable {P : Program} {w : World} {K : PySem.W.Frag} {mg : Str → Option Value} {base : Heap}
abbrev s_look_spot_Make : Stmt := inClass (top 23) 4
abbrev N_look_spot_Make : List Str := ["self", "place"]
theorem sc_look_spot_Make : FnScope N_look_spot_Make ["self", "place"] (defScope s_look_spot_Make) := ⟨rfl, rfl, rfl, by decide +kernel, rfl, by decide +kernel, by decide +kernel⟩
abbrev sp_look_spot_Make : Sp := spM_look_spot .make
theorem ok_look_spot_Make {f : Addr} {fd : FuncData} (F : FunD K "look_spot" "Make.look_spot" (defArgs s_look_spot_Make) (defBody s_look_spot_Make) (defScope s_look_spot_Make) [] [] f fd)  : FnOk P w K mg base CX0 1 f fd ["self", "place"] sp_look_spot_Make := by
  have sc := sc_look_spot_Make
  refine ok_mkM F sc (fun _ => rfl) fun f cdv Ar outer s H E y G vs Q hr hok hGH hv k => ?_
  match vs, hv with
  | [v1, v2], ⟨_, h2, _⟩ =>
  refine ⟨_, (pss_one (ps_ret pe_int)), ?_⟩
  exact s_ret (m := mD (.int 0)) ev_int hGH fun v G1 H1 g1 hv => k v G1 H1 g1 hv
end
end Sk
/-! Sk_spots_Hold -/
namespace Sk
open PySem PySem.Spec PyProof.Rows L2
open Evl (pss_cut tCut)
section
variable {P : Program} {w : World} {K : PySem.W.Frag} {mg : Str → Option Value} {base : Heap}
abbrev s_spots_Hold : Stmt := inClass (top 25) 2
abbrev N_spots_Hold : List Str := ["self", "looks"]
theorem sc_spots_Hold : FnScope N_spots_Hold ["self", "looks"] (defScope s_spots_Hold) := ⟨rfl, rfl, rfl, by decide +kernel, rfl, by decide +kernel, by decide +kernel⟩
abbrev sp_spots_Hold : Sp := spM_spots .hold
theorem ok_spots_Hold {f : Addr} {fd : FuncData} (F : FunD K "spots" "Hold.spots" (defArgs s_spots_Hold) (defBody s_spots_Hold) (defScope s_spots_Hold) [] [] f fd)  : FnOk P w K mg base CX0 1 f fd ["self", "looks"] sp_spots_Hold := by
  have sc := sc_spots_Hold
  refine ok_mkM F sc (fun _ => rfl) fun f cdv Ar outer s H E y G vs Q hr hok hGH hv k => ?_
  match vs, hv with
  | [v1, v2], ⟨_, h2, _⟩ =>
  refine ⟨_, (pss_one (ps_ret pe_int)), ?_⟩
  exact s_ret (m := mD (.int 1)) ev_int hGH fun v G1 H1 g1 hv => k v G1 H1 g1 hv
end
end Sk
/-! Sk_spots_Kept -/
namespace Sk
open PySem PySem.Spec PyProof.Rows L2
open Evl (pss_cut tCut)
section
variable {P : Program} {w : World} {K : PySem.W.Frag} {mg : Str → Option Value} {base : Heap}
abbrev s_spots_Kept : Stmt := inClass (top 22) 2
abbrev N_spots_Kept : List Str := ["self", "looks"]
theorem sc_spots_Kept : FnScope N_spots_Kept ["self", "looks"] (defScope s_spots_Kept) := ⟨rfl, rfl, rfl, by decide +kernel, rfl, by decide +kernel, by decide +kernel⟩
abbrev sp_spots_Kept : Sp := spM_spots .kept
theorem ok_spots_Kept {f : Addr} {fd : FuncData} (F : FunD K "spots" "Kept.spots" (defArgs s_spots_Kept) (defBody s_spots_Kept) (defScope s_spots_Kept) [] [] f fd)  : FnOk P w K mg base CX0 1 f fd ["self", "looks"] sp_spots_Kept := by
  have sc := sc_spots_Kept
  refine ok_mkM F sc (fun _ => rfl) fun f cdv Ar outer s H E y G vs Q hr hok hGH hv k => ?_
  match vs, hv with
  | [v1, v2], ⟨_, h2, _⟩ =>
  refine ⟨_, (pss_one (ps_ret (pe_op op_add (pv 1) pe_int))), ?_⟩
  exact s_ret (m := mD (.int ((y : Int) + 1))) (ev_op (ev_var rfl h2) ev_int rv_I0) hGH fun v G1 H1 g1 hv => k v G1 H1 g1 hv
end
end Sk
/-! Sk_spots_Loose -/
namespace Sk
open PySem PySem.Spec PyProof.Rows L2
open Evl (pss_cut tCut)
section
variable {P : Program} {w : World} {K : PySem.W.Frag} {mg : Str → Option Value} {base : Heap}
abbrev s_spots_Loose : Stmt := inClass (top 21) 6
abbrev N_spots_Loose : List Str := ["self", "looks"]
theorem sc_spots_Loose : FnScope N_spots_Loose ["self", "looks"] (defScope s_spots_Loose) := ⟨rfl, rfl, rfl, by decide +kernel, rfl, by decide +kernel, by decide +kernel⟩
abbrev sp_spots_Loose : Sp := spM_spots .loose
theorem ok_spots_Loose {f : Addr} {fd : FuncData} (F : FunD K "spots" "Loose.spots" (defArgs s_spots_Loose) (defBody s_spots_Loose) (defScope s_spots_Loose) [] [] f fd)  : FnOk P w K mg base CX0 1 f fd ["self", "looks"] sp_spots_Loose := by
  have sc := sc_spots_Loose
  refine ok_mkM F sc (fun _ => rfl) fun f cdv Ar outer s H E y G vs Q hr hok hGH hv k => ?_
  match vs, hv with
  | [v1, v2], ⟨_, h2, _⟩ =>
  refine ⟨_, (pss_one (ps_ret pe_int)), ?_⟩
  exact s_ret (m := mD (.int 1)) ev_int hGH fun v G1 H1 g1 hv => k v G1 H1 g1 hv
end
end Sk
/-! Sk_spots_Make -/
namespace Sk
open PySem PySem.Spec PyProof.Rows L2
open Evl (pss_cut tCut)
section
variable {P : Program} {w : World} {K : PySem.W.Frag} {mg : Str → Option Value} {base : Heap}
abbrev s_spots_Make : Stmt := inClass (top 23) 3
abbrev N_spots_Make : List Str := ["self", "looks"]
theorem sc_spots_Make : FnScope N_spots_Make ["self", "looks"] (defScope s_spots_Make) := ⟨rfl, rfl, rfl, by decide +kernel, rfl, by decide +kernel, by decide +kernel⟩
abbrev sp_spots_Make : Sp := spM_spots .make
theorem ok_spots_Make {f : Addr} {fd : FuncData} (F : FunD K "spots" "Make.spots" (defArgs s_spots_Make) (defBody s_spots_Make) (defScope s_spots_Make) [] [] f fd)  : FnOk P w K mg base CX0 1 f fd ["self", "looks"] sp_spots_Make := by
  have sc := sc_spots_Make
  refine ok_mkM F sc (fun _ => rfl) fun f cdv Ar outer s H E y G vs Q hr hok hGH hv k => ?_
  match vs, hv with
  | [v1, v2], ⟨_, h2, _⟩ =>
  refine ⟨_, (pss_one (ps_ret pe_int)), ?_⟩
  exact s_ret (m := mD (.int 2)) ev_int hGH fun v G1 H1 g1 hv => k v G1 H1 g1 hv
end
end Sk
/-! Sk_spots_Watch -/
namespace Sk
open PySem PySem.Spec PyProof.Rows L2
open Evl (pss_cut tCut)
section
variable {P : Program} {w : World} {K : PySem.W.Frag} {mg : Str → Option Value} {base : Heap}
abbrev s_spots_Watch : Stmt := inClass (top 24) 2
abbrev N_spots_Watch : List Str := ["self", "looks"]
theorem sc_spots_Watch : FnScope N_spots_Watch ["self", "looks"] (defScope s_spots_Watch) := ⟨rfl, rfl, rfl, by decide +kernel, rfl, by decide +kernel, by decide +kernel⟩
abbrev sp_spots_Watch : Sp := spM_spots .watch
theorem ok_spots_Watch {f : Addr} {fd : FuncData} (F : FunD K "spots" "Watch.spots" (defArgs s_spots_Watch) (defBody s_spots_Watch) (defScope s_spots_Watch) [] [] f fd)  : FnOk P w K mg base CX0 1 f fd ["self", "looks"] sp_spots_Watch := by
  have sc := sc_spots_Watch
  refine ok_mkM F sc (fun _ => rfl) fun f cdv Ar outer s H E y G vs Q hr hok hGH hv k => ?_
  match vs, hv with
  | [v1, v2], ⟨_, h2, _⟩ =>
  refine ⟨_, (pss_one (ps_ret pe_int)), ?_⟩
  exact s_ret (m := mD (.int 1)) ev_int hGH fun v G1 H1 g1 hv => k v G1 H1 g1 hv
end
end Sk
/-! Sk_unkept_Kept -/
namespace Sk
open PySem PySem.Spec PyProof.Rows L2
open Evl (pss_cut tCut)
section
variable {P : Program} {w : World} {K : PySem.W.Frag} {mg : Str → Option Value} {base : Heap}
abbrev s_unkept_Kept : Stmt := inClass (top 22) 1
abbrev N_unkept_Kept : List Str := ["self"]
theorem sc_unkept_Kept : FnScope N_unkept_Kept ["self"] (defScope s_unkept_Kept) := ⟨rfl, rfl, rfl, by decide +kernel, rfl, by decide +kernel, by decide +kernel⟩
abbrev sp_unkept_Kept : Sp := spM_unkept .kept
theorem ok_unkept_Kept {f : Addr} {fd : FuncData} (F : FunD K "unkept" "Kept.unkept" (defArgs s_unkept_Kept) (defBody s_unkept_Kept) (defScope s_unkept_Kept) [] [] f fd)  : FnOk P w K mg base CX0 1 f fd ["self"] sp_unkept_Kept := by
  have sc := sc_unkept_Kept
  refine ok_mkM F sc (fun _ => rfl) fun f cdv Ar outer s H E y G vs Q hr hok hGH hv k => ?_
  match vs, hv with
  | [v1], _ =>
  refine ⟨_, (pss_one (ps_ret pe_bl)), ?_⟩
  exact s_ret (m := mD (.bool false)) ev_bl hGH fun v G1 H1 g1 hv => k v G1 H1 g1 hv
end
end Sk
/-! Sk_unkept_Loose -/
namespace Sk
open PySem PySem.Spec PyProof.Rows L2
open Evl (pss_cut tCut)
section
variable {P : Program} {w : World} {K : PySem.W.Frag} {mg : Str → Option Value} {base : Heap}
abbrev s_unkept_Loose : Stmt := inClass (top 21) 3
abbrev N_unkept_Loose : List Str := ["self"]
theorem sc_unkept_Loose : FnScope N_unkept_Loose ["self"] (defScope s_unkept_Loose) := ⟨rfl, rfl, rfl, by decide +kernel, rfl, by decide +kernel, by decide +kernel⟩
abbrev sp_unkept_Loose : Sp := spM_unkept .loose
theorem ok_unkept_Loose {f : Addr} {fd : FuncData} (F : FunD K "unkept" "Loose.unkept" (defArgs s_unkept_Loose) (defBody s_unkept_Loose) (defScope s_unkept_Loose) [] [] f fd)  : FnOk P w K mg base CX0 1 f fd ["self"] sp_unkept_Loose := by
  have sc := sc_unkept_Loose
  refine ok_mkM F sc (fun _ => rfl) fun f cdv Ar outer s H E y G vs Q hr hok hGH hv k => ?_
  match vs, hv with
  | [v1], _ =>
  refine ⟨_, (pss_one (ps_ret pe_bl)), ?_⟩
  exact s_ret (m := mD (.bool true)) ev_bl hGH fun v G1 H1 g1 hv => k v G1 H1 g1 hv
end
end Sk
/-! SkZ -/
/-! The head, the facts, the theorem. -/
namespace Sk
open PySem PySem.Spec PyProof.Rows L2
def z__law_cell : He.DefD := ⟨("_law_cell", none), "_law_cell", "_law_cell", defArgs s__law_cell, defBody s__law_cell, defScope s__law_cell, [], []⟩
def z__law_numbers : He.DefD := ⟨("_law_numbers", none), "_law_numbers", "_law_numbers", defArgs s__law_numbers, defBody s__law_numbers, defScope s__law_numbers, [], []⟩
def z__law_mixed : He.DefD := ⟨("_law_mixed", none), "_law_mixed", "_law_mixed", defArgs s__law_mixed, defBody s__law_mixed, defScope s__law_mixed, [], []⟩
def z__law_keys : He.DefD := ⟨("_law_keys", none), "_law_keys", "_law_keys", defArgs s__law_keys, defBody s__law_keys, defScope s__law_keys, [], []⟩
def z__law_ahead : He.DefD := ⟨("_law_ahead", none), "_law_ahead", "_law_ahead", defArgs s__law_ahead, defBody s__law_ahead, defScope s__law_ahead, [], []⟩
def z__law_look : He.DefD := ⟨("_law_look", none), "_law_look", "_law_look", defArgs s__law_look, defBody s__law_look, defScope s__law_look, [], []⟩
def z__law_deals : He.DefD := ⟨("_law_deals", none), "_law_deals", "_law_deals", defArgs s__law_deals, defBody s__law_deals, defScope s__law_deals, [], []⟩
def z__law_pairs : He.DefD := ⟨("_law_pairs", none), "_law_pairs", "_law_pairs", defArgs s__law_pairs, defBody s__law_pairs, defScope s__law_pairs, [], []⟩
def z__law_right : He.DefD := ⟨("_law_right", none), "_law_right", "_law_right", defArgs s__law_right, defBody s__law_right, defScope s__law_right, [], []⟩
def z__law_alone : He.DefD := ⟨("_law_alone", none), "_law_alone", "_law_alone", defArgs s__law_alone, defBody s__law_alone, defScope s__law_alone, [], []⟩
def z__law_behind : He.DefD := ⟨("_law_behind", none), "_law_behind", "_law_behind", defArgs s__law_behind, defBody s__law_behind, defScope s__law_behind, [], []⟩
def z__law_skewed : He.DefD := ⟨("_law_skewed", none), "_law_skewed", "_law_skewed", defArgs s__law_skewed, defBody s__law_skewed, defScope s__law_skewed, [], []⟩
def z__law_ills : He.DefD := ⟨("_law_ills", none), "_law_ills", "_law_ills", defArgs s__law_ills, defBody s__law_ills, defScope s__law_ills, [], []⟩
def z__law_let : He.DefD := ⟨("_law_let", none), "_law_let", "_law_let", defArgs s__law_let, defBody s__law_let, defScope s__law_let, [], []⟩
def z_pairs_of : He.DefD := ⟨("pairs_of", none), "pairs_of", "pairs_of", defArgs s_pairs_of, defBody s_pairs_of, defScope s_pairs_of, [], []⟩
def z_right_ahead : He.DefD := ⟨("right_ahead", none), "right_ahead", "right_ahead", defArgs s_right_ahead, defBody s_right_ahead, defScope s_right_ahead, [], []⟩
def z_own_ills : He.DefD := ⟨("own_ills", none), "own_ills", "own_ills", defArgs s_own_ills, defBody s_own_ills, defScope s_own_ills, [], []⟩
def z_is_ahead : He.DefD := ⟨("is_ahead", none), "is_ahead", "is_ahead", defArgs s_is_ahead, defBody s_is_ahead, defScope s_is_ahead, [], []⟩
def z_unseen_keys : He.DefD := ⟨("unseen_keys", none), "unseen_keys", "unseen_keys", defArgs s_unseen_keys, defBody s_unseen_keys, defScope s_unseen_keys, [], []⟩
def z_skewed : He.DefD := ⟨("skewed", none), "skewed", "skewed", defArgs s_skewed, defBody s_skewed, defScope s_skewed, [], []⟩
def z_ills : He.DefD := ⟨("ills", none), "ills", "ills", defArgs s_ills, defBody s_ills, defScope s_ills, [], []⟩
def z_is_let : He.DefD := ⟨("is_let", none), "is_let", "is_let", defArgs s_is_let, defBody s_is_let, defScope s_is_let, [], []⟩
def z_unlet : He.DefD := ⟨("unlet", none), "unlet", "unlet", defArgs s_unlet, defBody s_unlet, defScope s_unlet, [], []⟩
def z__law_fine : He.DefD := ⟨("_law_fine", none), "_law_fine", "_law_fine", defArgs s__law_fine, defBody s__law_fine, defScope s__law_fine, [], []⟩
def z_level_of : He.DefD := ⟨("level_of", none), "level_of", "level_of", defArgs s_level_of, defBody s_level_of, defScope s_level_of, [], []⟩
def z_levels_for : He.DefD := ⟨("levels_for", none), "levels_for", "levels_for", defArgs s_levels_for, defBody s_levels_for, defScope s_levels_for, [], []⟩
def z_unkept : He.DefD := ⟨("unkept", none), "unkept", "unkept", defArgs s_unkept, defBody s_unkept, defScope s_unkept, [.non], []⟩
def z_spots : He.DefD := ⟨("spots", none), "spots", "spots", defArgs s_spots, defBody s_spots, defScope s_spots, [.non], []⟩
def z_ends_of : He.DefD := ⟨("ends_of", none), "ends_of", "ends_of", defArgs s_ends_of, defBody s_ends_of, defScope s_ends_of, [], []⟩
def z_over_edges : He.DefD := ⟨("over_edges", none), "over_edges", "over_edges", defArgs s_over_edges, defBody s_over_edges, defScope s_over_edges, [], []⟩
def z_pair_edges : He.DefD := ⟨("pair_edges", none), "pair_edges", "pair_edges", defArgs s_pair_edges, defBody s_pair_edges, defScope s_pair_edges, [], []⟩
def z_look_edges : He.DefD := ⟨("look_edges", none), "look_edges", "look_edges", defArgs s_look_edges, defBody s_look_edges, defScope s_look_edges, [], []⟩
def z_rank : He.DefD := ⟨("rank", none), "rank", "rank", defArgs s_rank, defBody s_rank, defScope s_rank, [], []⟩
def z_edges : He.DefD := ⟨("edges", none), "edges", "edges", defArgs s_edges, defBody s_edges, defScope s_edges, [.non], []⟩
def z_order_of : He.DefD := ⟨("order_of", none), "order_of", "order_of", defArgs s_order_of, defBody s_order_of, defScope s_order_of, [], []⟩
def z_nearest : He.DefD := ⟨("nearest", none), "nearest", "nearest", defArgs s_nearest, defBody s_nearest, defScope s_nearest, [], []⟩
def z_ring_through : He.DefD := ⟨("ring_through", none), "ring_through", "ring_through", defArgs s_ring_through, defBody s_ring_through, defScope s_ring_through, [], []⟩
def z_steps_to : He.DefD := ⟨("steps_to", none), "steps_to", "steps_to", defArgs s_steps_to, defBody s_steps_to, defScope s_steps_to, [], []⟩
def z_least_ring : He.DefD := ⟨("least_ring", none), "least_ring", "least_ring", defArgs s_least_ring, defBody s_least_ring, defScope s_least_ring, [], []⟩
def z_first_edge : He.DefD := ⟨("first_edge", none), "first_edge", "first_edge", defArgs s_first_edge, defBody s_first_edge, defScope s_first_edge, [], []⟩
def z_ring_edges : He.DefD := ⟨("ring_edges", none), "ring_edges", "ring_edges", defArgs s_ring_edges, defBody s_ring_edges, defScope s_ring_edges, [], []⟩
def z_judge : He.DefD := ⟨("judge", none), "judge", "judge", defArgs s_judge, defBody s_judge, defScope s_judge, [.non], []⟩
def z_law : He.DefD := ⟨("law", none), "law", "law", defArgs s_law, defBody s_law, defScope s_law, [], []⟩
def z_unkept_Loose : He.DefD := ⟨("Loose", some "unkept"), "unkept", "Loose.unkept", defArgs s_unkept_Loose, defBody s_unkept_Loose, defScope s_unkept_Loose, [], []⟩
def z_unkept_Kept : He.DefD := ⟨("Kept", some "unkept"), "unkept", "Kept.unkept", defArgs s_unkept_Kept, defBody s_unkept_Kept, defScope s_unkept_Kept, [], []⟩
def z_unkept_Make : He.DefD := ⟨("Make", some "unkept"), "unkept", "Kept.unkept", defArgs s_unkept_Kept, defBody s_unkept_Kept, defScope s_unkept_Kept, [], []⟩
def z_unkept_Watch : He.DefD := ⟨("Watch", some "unkept"), "unkept", "Kept.unkept", defArgs s_unkept_Kept, defBody s_unkept_Kept, defScope s_unkept_Kept, [], []⟩
def z_unkept_Hold : He.DefD := ⟨("Hold", some "unkept"), "unkept", "Kept.unkept", defArgs s_unkept_Kept, defBody s_unkept_Kept, defScope s_unkept_Kept, [], []⟩
def z_spots_Loose : He.DefD := ⟨("Loose", some "spots"), "spots", "Loose.spots", defArgs s_spots_Loose, defBody s_spots_Loose, defScope s_spots_Loose, [], []⟩
def z_spots_Kept : He.DefD := ⟨("Kept", some "spots"), "spots", "Kept.spots", defArgs s_spots_Kept, defBody s_spots_Kept, defScope s_spots_Kept, [], []⟩
def z_spots_Make : He.DefD := ⟨("Make", some "spots"), "spots", "Make.spots", defArgs s_spots_Make, defBody s_spots_Make, defScope s_spots_Make, [], []⟩
def z_spots_Watch : He.DefD := ⟨("Watch", some "spots"), "spots", "Watch.spots", defArgs s_spots_Watch, defBody s_spots_Watch, defScope s_spots_Watch, [], []⟩
def z_spots_Hold : He.DefD := ⟨("Hold", some "spots"), "spots", "Hold.spots", defArgs s_spots_Hold, defBody s_spots_Hold, defScope s_spots_Hold, [], []⟩
def z_look_spot_Loose : He.DefD := ⟨("Loose", some "look_spot"), "look_spot", "Loose.look_spot", defArgs s_look_spot_Loose, defBody s_look_spot_Loose, defScope s_look_spot_Loose, [], []⟩
def z_look_spot_Kept : He.DefD := ⟨("Kept", some "look_spot"), "look_spot", "Kept.look_spot", defArgs s_look_spot_Kept, defBody s_look_spot_Kept, defScope s_look_spot_Kept, [], []⟩
def z_look_spot_Make : He.DefD := ⟨("Make", some "look_spot"), "look_spot", "Make.look_spot", defArgs s_look_spot_Make, defBody s_look_spot_Make, defScope s_look_spot_Make, [], []⟩
def z_look_spot_Watch : He.DefD := ⟨("Watch", some "look_spot"), "look_spot", "Make.look_spot", defArgs s_look_spot_Make, defBody s_look_spot_Make, defScope s_look_spot_Make, [], []⟩
def z_look_spot_Hold : He.DefD := ⟨("Hold", some "look_spot"), "look_spot", "Hold.look_spot", defArgs s_look_spot_Hold, defBody s_look_spot_Hold, defScope s_look_spot_Hold, [], []⟩
def z_first_spot_Loose : He.DefD := ⟨("Loose", some "first_spot"), "first_spot", "Loose.first_spot", defArgs s_first_spot_Loose, defBody s_first_spot_Loose, defScope s_first_spot_Loose, [], []⟩
def z_first_spot_Kept : He.DefD := ⟨("Kept", some "first_spot"), "first_spot", "Kept.first_spot", defArgs s_first_spot_Kept, defBody s_first_spot_Kept, defScope s_first_spot_Kept, [], []⟩
def z_first_spot_Make : He.DefD := ⟨("Make", some "first_spot"), "first_spot", "Make.first_spot", defArgs s_first_spot_Make, defBody s_first_spot_Make, defScope s_first_spot_Make, [], []⟩
def z_first_spot_Watch : He.DefD := ⟨("Watch", some "first_spot"), "first_spot", "Make.first_spot", defArgs s_first_spot_Make, defBody s_first_spot_Make, defScope s_first_spot_Make, [], []⟩
def z_first_spot_Hold : He.DefD := ⟨("Hold", some "first_spot"), "first_spot", "Hold.first_spot", defArgs s_first_spot_Hold, defBody s_first_spot_Hold, defScope s_first_spot_Hold, [], []⟩
def zfn : List He.DefD := [z__law_cell, z__law_numbers, z__law_mixed, z__law_keys, z__law_ahead, z__law_look, z__law_deals, z__law_pairs, z__law_right, z__law_alone, z__law_behind, z__law_skewed, z__law_ills, z__law_let, z_pairs_of, z_right_ahead, z_own_ills, z_is_ahead, z_unseen_keys, z_skewed, z_ills, z_is_let, z_unlet, z__law_fine, z_level_of, z_levels_for, z_unkept, z_spots, z_ends_of, z_over_edges, z_pair_edges, z_look_edges, z_rank, z_edges, z_order_of, z_nearest, z_ring_through, z_steps_to, z_least_ring, z_first_edge, z_ring_edges, z_judge, z_law, z_unkept_Loose, z_unkept_Kept, z_unkept_Make, z_unkept_Watch, z_unkept_Hold, z_spots_Loose, z_spots_Kept, z_spots_Make, z_spots_Watch, z_spots_Hold, z_look_spot_Loose, z_look_spot_Kept, z_look_spot_Make, z_look_spot_Watch, z_look_spot_Hold, z_first_spot_Loose, z_first_spot_Kept, z_first_spot_Make, z_first_spot_Watch, z_first_spot_Hold]
def zfa : List He.Fa := [.glo "_law_cell", .glo "_law_numbers", .glo "_law_mixed", .glo "_law_keys", .glo "_law_ahead", .glo "_law_look", .glo "_law_deals", .glo "_law_pairs", .glo "_law_right", .glo "_law_alone", .glo "_law_behind", .glo "_law_skewed", .glo "_law_ills", .glo "_law_let", .glo "pairs_of", .glo "right_ahead", .glo "own_ills", .glo "is_ahead", .glo "unseen_keys", .glo "skewed", .glo "ills", .glo "is_let", .glo "unlet", .glo "_law_fine", .glo "level_of", .glo "levels_for", .glo "unkept", .glo "spots", .glo "ends_of", .glo "over_edges", .glo "pair_edges", .glo "look_edges", .glo "rank", .glo "edges", .glo "order_of", .glo "nearest", .glo "ring_through", .glo "steps_to", .glo "least_ring", .glo "first_edge", .glo "ring_edges", .glo "judge", .glo "law", .glo "Loose", .cls "Loose", .glo "Kept", .cls "Kept", .glo "Make", .cls "Make", .glo "Watch", .cls "Watch", .glo "Hold", .cls "Hold", .glo "WHYS", .meth "Loose" "unkept", .meth "Kept" "unkept", .meth "Make" "unkept", .meth "Watch" "unkept", .meth "Hold" "unkept", .meth "Loose" "spots", .meth "Kept" "spots", .meth "Make" "spots", .meth "Watch" "spots", .meth "Hold" "spots", .meth "Loose" "look_spot", .meth "Kept" "look_spot", .meth "Make" "look_spot", .meth "Watch" "look_spot", .meth "Hold" "look_spot", .meth "Loose" "first_spot", .meth "Kept" "first_spot", .meth "Make" "first_spot", .meth "Watch" "first_spot", .meth "Hold" "first_spot", .free "isinstance", .free "len", .free "list", .free "max", .free "min", .free "range", .free "reversed", .free "sorted", .free "tuple"]
def mk0B (K : PySem.W.Frag) (x : Str) : Bool := PySem.W.makesIn K (He.ga K x) && (He.eqO (PySem.W.findIn K (.ref (He.ga K x)) "__init__") (some (some (.builtin "object.__init__"))) && (PySem.W.keepIn K (.ref (He.ga K x)) && decide (PySem.W.mroIn K (He.ga K x) (.type "object") = some true)))
theorem mk0B_ok {K : PySem.W.Frag} {x : Str} (h : mk0B K x = true) : Mk0 K (He.ga K x) := by
  obtain ⟨h1, h2⟩ := He.ba h
  obtain ⟨h2, h3⟩ := He.ba h2
  obtain ⟨h3, h4⟩ := He.ba h3
  exact ⟨h1, He.eqO_ok h2, h3, of_decide_eq_true h4⟩
def zex (K : PySem.W.Frag) : Bool := (mk0B K "Loose" && (mk0B K "Kept" && (mk0B K "Make" && (mk0B K "Watch" && mk0B K "Hold")))) && He.lstB K "WHYS" [.str "own", .str "saw", .str "unseen", .str "over"]
abbrev zR : PySem.W.OpenRow := PySem.W.OpenLaw.row PySem.Challenge.rw_skewhouse_k77_whole_yes_has_no_ill
abbrev zk : PySem.W.Hook := He.hookX 5 zfa zfn [] [] zex
def zob (s : PySem.W.SharedT) : He.AlX := He.obsX 5 zfa zfn [] [] zex (HandSHeadRun.getT s)
theorem zob_eq (s : PySem.W.SharedT) : zob s = zk.obs s.abs := He.obsX_eq (HandSHeadRun.getT_eq s)
def zloose : List Str := [Str.ofString "_wall", Str.ofString "pairs_of", Str.ofString "right_ahead", Str.ofString "is_ahead", Str.ofString "own_ills", Str.ofString "unseen_keys", Str.ofString "skewed", Str.ofString "ills", Str.ofString "is_let", Str.ofString "unlet", Str.ofString "order_of", Str.ofString "steps_to", Str.ofString "nearest", Str.ofString "ring_through", Str.ofString "least_ring", Str.ofString "SkewError", Str.ofString "NoLevel", Str.ofString "Loose", Str.ofString "Kept", Str.ofString "Make", Str.ofString "Watch", Str.ofString "Hold", Str.ofString "level_of", Str.ofString "WHYS", Str.ofString "levels_for", Str.ofString "spots", Str.ofString "ends_of", Str.ofString "pair_edges", Str.ofString "look_edges", Str.ofString "over_edges", Str.ofString "rank", Str.ofString "edges", Str.ofString "unkept", Str.ofString "first_edge", Str.ofString "ring_edges", Str.ofString "judge", Str.ofString "_law_cell", Str.ofString "_law_mixed", Str.ofString "_law_numbers", Str.ofString "_law_keys"] ++ [Str.ofString "_law_ahead", Str.ofString "_law_look", Str.ofString "_law_deals", Str.ofString "_law_pairs", Str.ofString "_law_right", Str.ofString "_law_alone", Str.ofString "_law_behind", Str.ofString "_law_skewed", Str.ofString "_law_ills", Str.ofString "_law_let", Str.ofString "_law_fine"]
section
variable {P : Program} {w : World} {K : PySem.W.Frag} {h : Heap} {mg : Str → Option Value} {f : Addr}
abbrev zCL (K : PySem.W.Frag) (lv : Lev) : Addr := He.ga K (clsW lv)
theorem z_levK (X : K.In h) (G : h.Ns mainGlobals mg) (c : He.SaysD zfa zfn K) (m : zex K = true) : LevK K mg (zCL K) := by
  obtain ⟨m1, _⟩ := He.ba m
  obtain ⟨a1, m1⟩ := He.ba m1
  obtain ⟨a2, m1⟩ := He.ba m1
  obtain ⟨a3, m1⟩ := He.ba m1
  obtain ⟨a4, a5⟩ := He.ba m1
  refine ⟨fun lv => ?_, fun lv => ?_, fun lv => ?_⟩
  · cases lv with
    | loose => exact He.cls_ok (c.fact 44 (f := .cls "Loose") rfl)
    | kept => exact He.cls_ok (c.fact 46 (f := .cls "Kept") rfl)
    | make => exact He.cls_ok (c.fact 48 (f := .cls "Make") rfl)
    | watch => exact He.cls_ok (c.fact 50 (f := .cls "Watch") rfl)
    | hold => exact He.cls_ok (c.fact 52 (f := .cls "Hold") rfl)
  · cases lv with
    | loose => exact mk0B_ok a1
    | kept => exact mk0B_ok a2
    | make => exact mk0B_ok a3
    | watch => exact mk0B_ok a4
    | hold => exact mk0B_ok a5
  · cases lv with
    | loose => exact He.glo_ok X G (c.fact 43 (f := .glo "Loose") rfl)
    | kept => exact He.glo_ok X G (c.fact 45 (f := .glo "Kept") rfl)
    | make => exact He.glo_ok X G (c.fact 47 (f := .glo "Make") rfl)
    | watch => exact He.glo_ok X G (c.fact 49 (f := .glo "Watch") rfl)
    | hold => exact He.glo_ok X G (c.fact 51 (f := .glo "Hold") rfl)
theorem z_m_unkept {base : Heap} (c : He.SaysD zfa zfn K) : OwnM P w K mg base (zCL K) "unkept" 1 spM_unkept := by
  refine ⟨fun lv => ?_⟩
  cases lv with
  | loose =>
    obtain ⟨fd, F⟩ := c.def_ 43 (d := z_unkept_Loose) rfl
    exact ⟨_, fd, ["self"], He.meth_ok (c.fact 54 (f := .meth "Loose" "unkept") rfl), FunD.bindsN F (fun _ _ _ _ _ _ us hl => match us, hl with | [_], _ => rfl), ok_unkept_Loose F⟩
  | kept =>
    obtain ⟨fd, F⟩ := c.def_ 44 (d := z_unkept_Kept) rfl
    exact ⟨_, fd, ["self"], He.meth_ok (c.fact 55 (f := .meth "Kept" "unkept") rfl), FunD.bindsN F (fun _ _ _ _ _ _ us hl => match us, hl with | [_], _ => rfl), ok_unkept_Kept F⟩
  | make =>
    obtain ⟨fd, F⟩ := c.def_ 45 (d := z_unkept_Make) rfl
    exact ⟨_, fd, ["self"], He.meth_ok (c.fact 56 (f := .meth "Make" "unkept") rfl), FunD.bindsN F (fun _ _ _ _ _ _ us hl => match us, hl with | [_], _ => rfl), ok_unkept_Kept F⟩
  | watch =>
    obtain ⟨fd, F⟩ := c.def_ 46 (d := z_unkept_Watch) rfl
    exact ⟨_, fd, ["self"], He.meth_ok (c.fact 57 (f := .meth "Watch" "unkept") rfl), FunD.bindsN F (fun _ _ _ _ _ _ us hl => match us, hl with | [_], _ => rfl), ok_unkept_Kept F⟩
  | hold =>
    obtain ⟨fd, F⟩ := c.def_ 47 (d := z_unkept_Hold) rfl
    exact ⟨_, fd, ["self"], He.meth_ok (c.fact 58 (f := .meth "Hold" "unkept") rfl), FunD.bindsN F (fun _ _ _ _ _ _ us hl => match us, hl with | [_], _ => rfl), ok_unkept_Kept F⟩
theorem z_m_spots {base : Heap} (c : He.SaysD zfa zfn K) : OwnM P w K mg base (zCL K) "spots" 1 spM_spots := by
  refine ⟨fun lv => ?_⟩
  cases lv with
  | loose =>
    obtain ⟨fd, F⟩ := c.def_ 48 (d := z_spots_Loose) rfl
    exact ⟨_, fd, ["self", "looks"], He.meth_ok (c.fact 59 (f := .meth "Loose" "spots") rfl), FunD.bindsN F (fun _ _ _ _ _ _ us hl => match us, hl with | [_, _], _ => rfl), ok_spots_Loose F⟩
  | kept =>
    obtain ⟨fd, F⟩ := c.def_ 49 (d := z_spots_Kept) rfl
    exact ⟨_, fd, ["self", "looks"], He.meth_ok (c.fact 60 (f := .meth "Kept" "spots") rfl), FunD.bindsN F (fun _ _ _ _ _ _ us hl => match us, hl with | [_, _], _ => rfl), ok_spots_Kept F⟩
  | make =>
    obtain ⟨fd, F⟩ := c.def_ 50 (d := z_spots_Make) rfl
    exact ⟨_, fd, ["self", "looks"], He.meth_ok (c.fact 61 (f := .meth "Make" "spots") rfl), FunD.bindsN F (fun _ _ _ _ _ _ us hl => match us, hl with | [_, _], _ => rfl), ok_spots_Make F⟩
  | watch =>
    obtain ⟨fd, F⟩ := c.def_ 51 (d := z_spots_Watch) rfl
    exact ⟨_, fd, ["self", "looks"], He.meth_ok (c.fact 62 (f := .meth "Watch" "spots") rfl), FunD.bindsN F (fun _ _ _ _ _ _ us hl => match us, hl with | [_, _], _ => rfl), ok_spots_Watch F⟩
  | hold =>
    obtain ⟨fd, F⟩ := c.def_ 52 (d := z_spots_Hold) rfl
    exact ⟨_, fd, ["self", "looks"], He.meth_ok (c.fact 63 (f := .meth "Hold" "spots") rfl), FunD.bindsN F (fun _ _ _ _ _ _ us hl => match us, hl with | [_, _], _ => rfl), ok_spots_Hold F⟩
theorem z_m_look_spot {base : Heap} (c : He.SaysD zfa zfn K) : OwnM P w K mg base (zCL K) "look_spot" 1 spM_look_spot := by
  refine ⟨fun lv => ?_⟩
  cases lv with
  | loose =>
    obtain ⟨fd, F⟩ := c.def_ 53 (d := z_look_spot_Loose) rfl
    exact ⟨_, fd, ["self", "place"], He.meth_ok (c.fact 64 (f := .meth "Loose" "look_spot") rfl), FunD.bindsN F (fun _ _ _ _ _ _ us hl => match us, hl with | [_, _], _ => rfl), ok_look_spot_Loose F⟩
  | kept =>
    obtain ⟨fd, F⟩ := c.def_ 54 (d := z_look_spot_Kept) rfl
    exact ⟨_, fd, ["self", "place"], He.meth_ok (c.fact 65 (f := .meth "Kept" "look_spot") rfl), FunD.bindsN F (fun _ _ _ _ _ _ us hl => match us, hl with | [_, _], _ => rfl), ok_look_spot_Kept F⟩
  | make =>
    obtain ⟨fd, F⟩ := c.def_ 55 (d := z_look_spot_Make) rfl
    exact ⟨_, fd, ["self", "place"], He.meth_ok (c.fact 66 (f := .meth "Make" "look_spot") rfl), FunD.bindsN F (fun _ _ _ _ _ _ us hl => match us, hl with | [_, _], _ => rfl), ok_look_spot_Make F⟩
  | watch =>
    obtain ⟨fd, F⟩ := c.def_ 56 (d := z_look_spot_Watch) rfl
    exact ⟨_, fd, ["self", "place"], He.meth_ok (c.fact 67 (f := .meth "Watch" "look_spot") rfl), FunD.bindsN F (fun _ _ _ _ _ _ us hl => match us, hl with | [_, _], _ => rfl), ok_look_spot_Make F⟩
  | hold =>
    obtain ⟨fd, F⟩ := c.def_ 57 (d := z_look_spot_Hold) rfl
    exact ⟨_, fd, ["self", "place"], He.meth_ok (c.fact 68 (f := .meth "Hold" "look_spot") rfl), FunD.bindsN F (fun _ _ _ _ _ _ us hl => match us, hl with | [_, _], _ => rfl), ok_look_spot_Hold F⟩
theorem z_m_first_spot {base : Heap} (c : He.SaysD zfa zfn K) : OwnM P w K mg base (zCL K) "first_spot" 1 spM_first_spot := by
  refine ⟨fun lv => ?_⟩
  cases lv with
  | loose =>
    obtain ⟨fd, F⟩ := c.def_ 58 (d := z_first_spot_Loose) rfl
    exact ⟨_, fd, ["self", "looks"], He.meth_ok (c.fact 69 (f := .meth "Loose" "first_spot") rfl), FunD.bindsN F (fun _ _ _ _ _ _ us hl => match us, hl with | [_, _], _ => rfl), ok_first_spot_Loose F⟩
  | kept =>
    obtain ⟨fd, F⟩ := c.def_ 59 (d := z_first_spot_Kept) rfl
    exact ⟨_, fd, ["self", "looks"], He.meth_ok (c.fact 70 (f := .meth "Kept" "first_spot") rfl), FunD.bindsN F (fun _ _ _ _ _ _ us hl => match us, hl with | [_, _], _ => rfl), ok_first_spot_Kept F⟩
  | make =>
    obtain ⟨fd, F⟩ := c.def_ 60 (d := z_first_spot_Make) rfl
    exact ⟨_, fd, ["self", "looks"], He.meth_ok (c.fact 71 (f := .meth "Make" "first_spot") rfl), FunD.bindsN F (fun _ _ _ _ _ _ us hl => match us, hl with | [_, _], _ => rfl), ok_first_spot_Make F⟩
  | watch =>
    obtain ⟨fd, F⟩ := c.def_ 61 (d := z_first_spot_Watch) rfl
    exact ⟨_, fd, ["self", "looks"], He.meth_ok (c.fact 72 (f := .meth "Watch" "first_spot") rfl), FunD.bindsN F (fun _ _ _ _ _ _ us hl => match us, hl with | [_, _], _ => rfl), ok_first_spot_Make F⟩
  | hold =>
    obtain ⟨fd, F⟩ := c.def_ 62 (d := z_first_spot_Hold) rfl
    exact ⟨_, fd, ["self", "looks"], He.meth_ok (c.fact 73 (f := .meth "Hold" "first_spot") rfl), FunD.bindsN F (fun _ _ _ _ _ _ us hl => match us, hl with | [_, _], _ => rfl), ok_first_spot_Hold F⟩
theorem z_facts (X : K.In h) (G : h.Ns mainGlobals mg) (hfa : mg ("law" : Str) = some (.ref f)) (c : He.SaysD zfa zfn K) (m : zex K = true) :
    ∃ fd : FuncData, (∀ (s : Shared) (v : Value), BindsTo s fd ⟨[v], []⟩ [("_law_script", v)]) ∧ ∀ base : Heap, K.In base → base.Ns mainGlobals mg → FnOk P w K mg base CX0 7 f fd ["_law_script"] (sp_law K) := by
  have L := z_levK X G c m
  have z_isinstance : mg ("isinstance" : Str) = none := He.free_ok X G (c.fact 74 (f := .free "isinstance") rfl)
  have z_len : mg ("len" : Str) = none := He.free_ok X G (c.fact 75 (f := .free "len") rfl)
  have z_list : mg ("list" : Str) = none := He.free_ok X G (c.fact 76 (f := .free "list") rfl)
  have z_max : mg ("max" : Str) = none := He.free_ok X G (c.fact 77 (f := .free "max") rfl)
  have z_min : mg ("min" : Str) = none := He.free_ok X G (c.fact 78 (f := .free "min") rfl)
  have z_range : mg ("range" : Str) = none := He.free_ok X G (c.fact 79 (f := .free "range") rfl)
  have z_reversed : mg ("reversed" : Str) = none := He.free_ok X G (c.fact 80 (f := .free "reversed") rfl)
  have z_sorted : mg ("sorted" : Str) = none := He.free_ok X G (c.fact 81 (f := .free "sorted") rfl)
  have z_tuple : mg ("tuple" : Str) = none := He.free_ok X G (c.fact 82 (f := .free "tuple") rfl)
  have gWHYS : mg ("WHYS" : Str) = some (.ref (He.ga K "WHYS")) := He.glo_ok X G (c.fact 53 (f := .glo "WHYS") rfl)
  have hW : ∀ H, SqL K H (He.ga K "WHYS") (whys.map V.str) := fun H => He.lstB_ok (He.ba m).2 H
  obtain ⟨fd__law_cell, F__law_cell⟩ := c.def_ 0 (d := z__law_cell) rfl
  obtain ⟨fd__law_numbers, F__law_numbers⟩ := c.def_ 1 (d := z__law_numbers) rfl
  obtain ⟨fd__law_mixed, F__law_mixed⟩ := c.def_ 2 (d := z__law_mixed) rfl
  obtain ⟨fd__law_keys, F__law_keys⟩ := c.def_ 3 (d := z__law_keys) rfl
  obtain ⟨fd__law_ahead, F__law_ahead⟩ := c.def_ 4 (d := z__law_ahead) rfl
  obtain ⟨fd__law_look, F__law_look⟩ := c.def_ 5 (d := z__law_look) rfl
  obtain ⟨fd__law_deals, F__law_deals⟩ := c.def_ 6 (d := z__law_deals) rfl
  obtain ⟨fd__law_pairs, F__law_pairs⟩ := c.def_ 7 (d := z__law_pairs) rfl
  obtain ⟨fd__law_right, F__law_right⟩ := c.def_ 8 (d := z__law_right) rfl
  obtain ⟨fd__law_alone, F__law_alone⟩ := c.def_ 9 (d := z__law_alone) rfl
  obtain ⟨fd__law_behind, F__law_behind⟩ := c.def_ 10 (d := z__law_behind) rfl
  obtain ⟨fd__law_skewed, F__law_skewed⟩ := c.def_ 11 (d := z__law_skewed) rfl
  obtain ⟨fd__law_ills, F__law_ills⟩ := c.def_ 12 (d := z__law_ills) rfl
  obtain ⟨fd__law_let, F__law_let⟩ := c.def_ 13 (d := z__law_let) rfl
  obtain ⟨fd_pairs_of, F_pairs_of⟩ := c.def_ 14 (d := z_pairs_of) rfl
  obtain ⟨fd_right_ahead, F_right_ahead⟩ := c.def_ 15 (d := z_right_ahead) rfl
  obtain ⟨fd_own_ills, F_own_ills⟩ := c.def_ 16 (d := z_own_ills) rfl
  obtain ⟨fd_is_ahead, F_is_ahead⟩ := c.def_ 17 (d := z_is_ahead) rfl
  obtain ⟨fd_unseen_keys, F_unseen_keys⟩ := c.def_ 18 (d := z_unseen_keys) rfl
  obtain ⟨fd_skewed, F_skewed⟩ := c.def_ 19 (d := z_skewed) rfl
  obtain ⟨fd_ills, F_ills⟩ := c.def_ 20 (d := z_ills) rfl
  obtain ⟨fd_is_let, F_is_let⟩ := c.def_ 21 (d := z_is_let) rfl
  obtain ⟨fd_unlet, F_unlet⟩ := c.def_ 22 (d := z_unlet) rfl
  obtain ⟨fd__law_fine, F__law_fine⟩ := c.def_ 23 (d := z__law_fine) rfl
  obtain ⟨fd_level_of, F_level_of⟩ := c.def_ 24 (d := z_level_of) rfl
  obtain ⟨fd_levels_for, F_levels_for⟩ := c.def_ 25 (d := z_levels_for) rfl
  obtain ⟨fd_unkept, F_unkept⟩ := c.def_ 26 (d := z_unkept) rfl
  obtain ⟨fd_spots, F_spots⟩ := c.def_ 27 (d := z_spots) rfl
  obtain ⟨fd_ends_of, F_ends_of⟩ := c.def_ 28 (d := z_ends_of) rfl
  obtain ⟨fd_over_edges, F_over_edges⟩ := c.def_ 29 (d := z_over_edges) rfl
  obtain ⟨fd_pair_edges, F_pair_edges⟩ := c.def_ 30 (d := z_pair_edges) rfl
  obtain ⟨fd_look_edges, F_look_edges⟩ := c.def_ 31 (d := z_look_edges) rfl
  obtain ⟨fd_rank, F_rank⟩ := c.def_ 32 (d := z_rank) rfl
  obtain ⟨fd_edges, F_edges⟩ := c.def_ 33 (d := z_edges) rfl
  obtain ⟨fd_order_of, F_order_of⟩ := c.def_ 34 (d := z_order_of) rfl
  obtain ⟨fd_nearest, F_nearest⟩ := c.def_ 35 (d := z_nearest) rfl
  obtain ⟨fd_ring_through, F_ring_through⟩ := c.def_ 36 (d := z_ring_through) rfl
  obtain ⟨fd_steps_to, F_steps_to⟩ := c.def_ 37 (d := z_steps_to) rfl
  obtain ⟨fd_least_ring, F_least_ring⟩ := c.def_ 38 (d := z_least_ring) rfl
  obtain ⟨fd_first_edge, F_first_edge⟩ := c.def_ 39 (d := z_first_edge) rfl
  obtain ⟨fd_ring_edges, F_ring_edges⟩ := c.def_ 40 (d := z_ring_edges) rfl
  obtain ⟨fd_judge, F_judge⟩ := c.def_ 41 (d := z_judge) rfl
  obtain ⟨fd_law, F_law⟩ := c.def_ 42 (d := z_law) rfl
  have e := hfa.symm.trans (He.glo_ok X G (c.fact 42 (f := .glo "law") rfl))
  cases e
  have b := FunD.bindsA (ps := ["_law_script"]) F_law fun _ _ _ _ _ _ us hl => match us, hl with | [_], _ => rfl
  refine ⟨fd_law, fun s v => b s [v] rfl, fun base _ _ => ?_⟩
  have O_m_unkept : OwnM P w K mg base (zCL K) "unkept" 1 spM_unkept := z_m_unkept c
  have O_m_spots : OwnM P w K mg base (zCL K) "spots" 1 spM_spots := z_m_spots c
  have O_m_look_spot : OwnM P w K mg base (zCL K) "look_spot" 1 spM_look_spot := z_m_look_spot c
  have O_m_first_spot : OwnM P w K mg base (zCL K) "first_spot" 1 spM_first_spot := z_m_first_spot c
  have O__law_cell := own__law_cell (P := P) (w := w) (K := K) (mg := mg) (base := base) ⟨He.ga K "_law_cell", fd__law_cell, He.glo_ok X G (c.fact 0 (f := .glo "_law_cell") rfl), F__law_cell⟩ z_len
  have O__law_numbers := own__law_numbers (P := P) (w := w) (K := K) (mg := mg) (base := base) ⟨He.ga K "_law_numbers", fd__law_numbers, He.glo_ok X G (c.fact 1 (f := .glo "_law_numbers") rfl), F__law_numbers⟩ O__law_cell z_range
  have O__law_mixed := own__law_mixed (P := P) (w := w) (K := K) (mg := mg) (base := base) ⟨He.ga K "_law_mixed", fd__law_mixed, He.glo_ok X G (c.fact 2 (f := .glo "_law_mixed") rfl), F__law_mixed⟩ 
  have O__law_keys := own__law_keys (P := P) (w := w) (K := K) (mg := mg) (base := base) ⟨He.ga K "_law_keys", fd__law_keys, He.glo_ok X G (c.fact 3 (f := .glo "_law_keys") rfl), F__law_keys⟩ O__law_cell O__law_mixed z_range z_len z_list z_reversed
  have O__law_ahead := own__law_ahead (P := P) (w := w) (K := K) (mg := mg) (base := base) ⟨He.ga K "_law_ahead", fd__law_ahead, He.glo_ok X G (c.fact 4 (f := .glo "_law_ahead") rfl), F__law_ahead⟩ 
  have O__law_look := own__law_look (P := P) (w := w) (K := K) (mg := mg) (base := base) ⟨He.ga K "_law_look", fd__law_look, He.glo_ok X G (c.fact 5 (f := .glo "_law_look") rfl), F__law_look⟩ O__law_ahead z_range z_len
  have O__law_deals := own__law_deals (P := P) (w := w) (K := K) (mg := mg) (base := base) ⟨He.ga K "_law_deals", fd__law_deals, He.glo_ok X G (c.fact 6 (f := .glo "_law_deals") rfl), F__law_deals⟩ O__law_cell O__law_mixed O__law_look z_range z_len z_max z_min
  have O__law_pairs := own__law_pairs (P := P) (w := w) (K := K) (mg := mg) (base := base) ⟨He.ga K "_law_pairs", fd__law_pairs, He.glo_ok X G (c.fact 7 (f := .glo "_law_pairs") rfl), F__law_pairs⟩ z_sorted
  have O__law_right := own__law_right (P := P) (w := w) (K := K) (mg := mg) (base := base) ⟨He.ga K "_law_right", fd__law_right, He.glo_ok X G (c.fact 8 (f := .glo "_law_right") rfl), F__law_right⟩ 
  have O__law_alone := own__law_alone (P := P) (w := w) (K := K) (mg := mg) (base := base) ⟨He.ga K "_law_alone", fd__law_alone, He.glo_ok X G (c.fact 9 (f := .glo "_law_alone") rfl), F__law_alone⟩ O__law_pairs O__law_right z_len z_list
  have O__law_behind := own__law_behind (P := P) (w := w) (K := K) (mg := mg) (base := base) ⟨He.ga K "_law_behind", fd__law_behind, He.glo_ok X G (c.fact 10 (f := .glo "_law_behind") rfl), F__law_behind⟩ O__law_pairs
  have O__law_skewed := own__law_skewed (P := P) (w := w) (K := K) (mg := mg) (base := base) ⟨He.ga K "_law_skewed", fd__law_skewed, He.glo_ok X G (c.fact 11 (f := .glo "_law_skewed") rfl), F__law_skewed⟩ O__law_behind z_sorted
  have O__law_ills := own__law_ills (P := P) (w := w) (K := K) (mg := mg) (base := base) ⟨He.ga K "_law_ills", fd__law_ills, He.glo_ok X G (c.fact 12 (f := .glo "_law_ills") rfl), F__law_ills⟩ O__law_alone O__law_skewed z_range z_len z_sorted
  have O__law_let := own__law_let (P := P) (w := w) (K := K) (mg := mg) (base := base) ⟨He.ga K "_law_let", fd__law_let, He.glo_ok X G (c.fact 13 (f := .glo "_law_let") rfl), F__law_let⟩ 
  have O_pairs_of := own_pairs_of (P := P) (w := w) (K := K) (mg := mg) (base := base) ⟨He.ga K "pairs_of", fd_pairs_of, He.glo_ok X G (c.fact 14 (f := .glo "pairs_of") rfl), F_pairs_of⟩ 
  have O_right_ahead := own_right_ahead (P := P) (w := w) (K := K) (mg := mg) (base := base) ⟨He.ga K "right_ahead", fd_right_ahead, He.glo_ok X G (c.fact 15 (f := .glo "right_ahead") rfl), F_right_ahead⟩ 
  have O_own_ills := own_own_ills (P := P) (w := w) (K := K) (mg := mg) (base := base) ⟨He.ga K "own_ills", fd_own_ills, He.glo_ok X G (c.fact 16 (f := .glo "own_ills") rfl), F_own_ills⟩ O_pairs_of O_right_ahead z_list
  have O_is_ahead := own_is_ahead (P := P) (w := w) (K := K) (mg := mg) (base := base) ⟨He.ga K "is_ahead", fd_is_ahead, He.glo_ok X G (c.fact 17 (f := .glo "is_ahead") rfl), F_is_ahead⟩ 
  have O_unseen_keys := own_unseen_keys (P := P) (w := w) (K := K) (mg := mg) (base := base) ⟨He.ga K "unseen_keys", fd_unseen_keys, He.glo_ok X G (c.fact 18 (f := .glo "unseen_keys") rfl), F_unseen_keys⟩ O_pairs_of O_is_ahead z_sorted
  have O_skewed := own_skewed (P := P) (w := w) (K := K) (mg := mg) (base := base) ⟨He.ga K "skewed", fd_skewed, He.glo_ok X G (c.fact 19 (f := .glo "skewed") rfl), F_skewed⟩ O_unseen_keys
  have O_ills := own_ills (P := P) (w := w) (K := K) (mg := mg) (base := base) ⟨He.ga K "ills", fd_ills, He.glo_ok X G (c.fact 20 (f := .glo "ills") rfl), F_ills⟩ O_own_ills O_skewed z_sorted
  have O_is_let := own_is_let (P := P) (w := w) (K := K) (mg := mg) (base := base) ⟨He.ga K "is_let", fd_is_let, He.glo_ok X G (c.fact 21 (f := .glo "is_let") rfl), F_is_let⟩ 
  have O_unlet := own_unlet (P := P) (w := w) (K := K) (mg := mg) (base := base) ⟨He.ga K "unlet", fd_unlet, He.glo_ok X G (c.fact 22 (f := .glo "unlet") rfl), F_unlet⟩ O_ills O_is_let
  have O__law_fine := own__law_fine (P := P) (w := w) (K := K) (mg := mg) (base := base) ⟨He.ga K "_law_fine", fd__law_fine, He.glo_ok X G (c.fact 23 (f := .glo "_law_fine") rfl), F__law_fine⟩ O__law_ills O__law_let O_unlet z_len z_isinstance z_tuple
  have O_level_of := own_level_of (P := P) (w := w) (K := K) (mg := mg) (base := base) ⟨He.ga K "level_of", fd_level_of, He.glo_ok X G (c.fact 24 (f := .glo "level_of") rfl), F_level_of⟩ L
  have O_levels_for := own_levels_for (P := P) (w := w) (K := K) (mg := mg) (base := base) ⟨He.ga K "levels_for", fd_levels_for, He.glo_ok X G (c.fact 25 (f := .glo "levels_for") rfl), F_levels_for⟩ O_level_of
  have O_unkept := own_unkept (P := P) (w := w) (K := K) (mg := mg) (base := base) ⟨He.ga K "unkept", fd_unkept, He.glo_ok X G (c.fact 26 (f := .glo "unkept") rfl), F_unkept⟩ L O_levels_for O_m_unkept z_len z_range
  have O_spots := own_spots (P := P) (w := w) (K := K) (mg := mg) (base := base) ⟨He.ga K "spots", fd_spots, He.glo_ok X G (c.fact 27 (f := .glo "spots") rfl), F_spots⟩ L O_levels_for O_m_spots z_len z_range
  have O_ends_of := own_ends_of (P := P) (w := w) (K := K) (mg := mg) (base := base) ⟨He.ga K "ends_of", fd_ends_of, He.glo_ok X G (c.fact 28 (f := .glo "ends_of") rfl), F_ends_of⟩ L O_m_spots O_m_first_spot z_len
  have O_over_edges := own_over_edges (P := P) (w := w) (K := K) (mg := mg) (base := base) ⟨He.ga K "over_edges", fd_over_edges, He.glo_ok X G (c.fact 29 (f := .glo "over_edges") rfl), F_over_edges⟩ z_len z_range
  have O_pair_edges := own_pair_edges (P := P) (w := w) (K := K) (mg := mg) (base := base) ⟨He.ga K "pair_edges", fd_pair_edges, He.glo_ok X G (c.fact 30 (f := .glo "pair_edges") rfl), F_pair_edges⟩ 
  have O_look_edges := own_look_edges (P := P) (w := w) (K := K) (mg := mg) (base := base) ⟨He.ga K "look_edges", fd_look_edges, He.glo_ok X G (c.fact 31 (f := .glo "look_edges") rfl), F_look_edges⟩ L O_pair_edges O_m_look_spot z_len z_range
  have O_rank := own_rank (P := P) (w := w) (K := K) (mg := mg) (base := base) ⟨He.ga K "rank", fd_rank, He.glo_ok X G (c.fact 32 (f := .glo "rank") rfl), F_rank⟩ gWHYS hW
  have O_edges := own_edges (P := P) (w := w) (K := K) (mg := mg) (base := base) ⟨He.ga K "edges", fd_edges, He.glo_ok X G (c.fact 33 (f := .glo "edges") rfl), F_edges⟩ L O_levels_for O_ends_of O_over_edges O_look_edges O_rank z_range z_sorted
  have O_order_of := own_order_of (P := P) (w := w) (K := K) (mg := mg) (base := base) ⟨He.ga K "order_of", fd_order_of, He.glo_ok X G (c.fact 34 (f := .glo "order_of") rfl), F_order_of⟩ z_min z_len
  have O_nearest := own_nearest (P := P) (w := w) (K := K) (mg := mg) (base := base) ⟨He.ga K "nearest", fd_nearest, He.glo_ok X G (c.fact 35 (f := .glo "nearest") rfl), F_nearest⟩ 
  have O_ring_through := own_ring_through (P := P) (w := w) (K := K) (mg := mg) (base := base) ⟨He.ga K "ring_through", fd_ring_through, He.glo_ok X G (c.fact 36 (f := .glo "ring_through") rfl), F_ring_through⟩ O_nearest
  have O_steps_to := own_steps_to (P := P) (w := w) (K := K) (mg := mg) (base := base) ⟨He.ga K "steps_to", fd_steps_to, He.glo_ok X G (c.fact 37 (f := .glo "steps_to") rfl), F_steps_to⟩ z_len
  have O_least_ring := own_least_ring (P := P) (w := w) (K := K) (mg := mg) (base := base) ⟨He.ga K "least_ring", fd_least_ring, He.glo_ok X G (c.fact 38 (f := .glo "least_ring") rfl), F_least_ring⟩ O_ring_through O_steps_to z_len z_sorted
  have O_first_edge := own_first_edge (P := P) (w := w) (K := K) (mg := mg) (base := base) ⟨He.ga K "first_edge", fd_first_edge, He.glo_ok X G (c.fact 39 (f := .glo "first_edge") rfl), F_first_edge⟩ 
  have O_ring_edges := own_ring_edges (P := P) (w := w) (K := K) (mg := mg) (base := base) ⟨He.ga K "ring_edges", fd_ring_edges, He.glo_ok X G (c.fact 40 (f := .glo "ring_edges") rfl), F_ring_edges⟩ O_first_edge z_len z_range
  have O_judge := own_judge (P := P) (w := w) (K := K) (mg := mg) (base := base) ⟨He.ga K "judge", fd_judge, He.glo_ok X G (c.fact 41 (f := .glo "judge") rfl), F_judge⟩ O_unkept O_spots O_edges O_order_of O_least_ring O_ring_edges
  have O_judgeD := ownD_judge (P := P) (w := w) (K := K) (mg := mg) (base := base) ⟨He.ga K "judge", fd_judge, He.glo_ok X G (c.fact 41 (f := .glo "judge") rfl), F_judge⟩ O_unkept O_spots O_edges O_order_of O_least_ring O_ring_edges
  exact ok_law F_law O__law_numbers O__law_keys O__law_deals O__law_fine O_judge O_judgeD
end
theorem z_run (w : World) : HandSHeadRun.RunEq zR (PySem.W.view zR.prog [58]) zk zob 20000 zloose w := by
  intro os
  kernel_rfl
end Sk
open PySem PySem.W PySem.Calls PyProof.Rows
theorem PySem.Challenge.cw_skewhouse_k77_whole_yes_has_no_ill_holds : PySem.Challenge.rw_skewhouse_k77_whole_yes_has_no_ill.Holds := by
  w_on; o_law
  refine HandSHeadRun.head_any (r := OpenLaw.row PySem.Challenge.rw_skewhouse_k77_whole_yes_has_no_ill) (q := view (OpenLaw.row PySem.Challenge.rw_skewhouse_k77_whole_yes_has_no_ill).prog [58]) (H := Sk.zk) (ob := Sk.zob) (M := 20000) (loose := Sk.zloose) (d := HandSHeadRun.topDef (OpenLaw.row PySem.Challenge.rw_skewhouse_k77_whole_yes_has_no_ill).prog 58) (kwd := []) Sk.zob_eq
    (by kernel_rfl) (fun s => by kernel_rfl) Sk.z_run (by kernel_rfl) (by kernel_rfl) (by kernel_rfl) (by rfl) (by first | assumption | decide +kernel) (by decide +kernel) ⟨rfl, rfl, rfl, rfl, rfl, by decide +kernel⟩ ?hw ?hc
  case hw => w_witness2
  case hc =>
    refine L2.walk_ofE (l := PySem.Challenge.rw_skewhouse_k77_whole_yes_has_no_ill) (n := 63) (k := 7) (x := "_law_script") (CX := L2.CX0) rfl (by decide) (by kernel_rfl) ⟨rfl, by decide, by decide⟩ ?F (fun _ _ _ _ z => z)
    intro w mg fa h Y G hmg0
    obtain ⟨K, KX, c⟩ := Y
    have hmg : mg ("law" : PySem.Str) = some (.ref fa) := by
      have e : (HandSHeadRun.topDef (OpenLaw.row PySem.Challenge.rw_skewhouse_k77_whole_yes_has_no_ill).prog 58).name = ("law" : PySem.Str) := by kernel_rfl
      rw [← e]
      exact hmg0
    obtain ⟨fd, hb, hF⟩ := Sk.z_facts (P := (PySem.Challenge.rw_skewhouse_k77_whole_yes_has_no_ill).prog) (w := w) KX G hmg c.t.d c.more
    exact ⟨K, fd, Sk.sp_law K, KX, hb, fun H a ns hl _ hS => ⟨ns, H, hl, Sk.Ex.refl H, ⟨.mk hS, trivial⟩, fun v G2 H2 _ hv => Sk.Dt.bl_iff.mp hv⟩, hF⟩
