import PyProof.Rows.All
import Wide.All
import OpenK.AllK
import Wide.FinOn
import HandS.ForMost
import HandS.More
import HandS.Flow
import HandS.Deep
import HandS.Zip
import HandS.IsInst
import HandS.Wide
import HandS.Sort
import HandS.SortRule
import HandS.SetFor
import HandS.TupAny
import HandS.EndBits
import PyProof.P3In
import KE.KDictPairs
import HandS.Codes
import HandS.Walk
import PySem.Challenge.RW_tiedcut_k08_whole_one_sort_of_papers
set_option Elab.async false
set_option linter.all false
set_option maxRecDepth 100000
set_option maxHeartbeats 16000000
/-! Plain law, part A: forests, paths, unique paths. Core Lean alone. -/
namespace FM

abbrev Ties := List (Nat × Nat)
/-- two points are a tied pair -/
def Adj (ts : Ties) (x y : Nat) : Prop := (min x y, max x y) ∈ ts
instance (ts : Ties) (x y : Nat) : Decidable (Adj ts x y) := by unfold Adj; infer_instance

theorem Adj.symm {ts : Ties} {x y : Nat} (h : Adj ts x y) : Adj ts y x := by
  unfold Adj at *
  rw [Nat.min_comm, Nat.max_comm]; exact h

structure Forest (n : Nat) (ts : Ties) : Prop where
  lt : ∀ t ∈ ts, t.1 < t.2 ∧ t.2 < n
  nd : ts.Nodup
  acyc : ∃ pos : Nat → Nat, (∀ x y, Adj ts x y → pos x ≠ pos y) ∧
    ∀ x y z, Adj ts x y → Adj ts x z → pos y < pos x → pos z < pos x → y = z

theorem Forest.adj_lt {n : Nat} {ts : Ties} (F : Forest n ts) {x y : Nat} (h : Adj ts x y) : x < n ∧ y < n := by
  have := F.lt _ h
  simp only at this
  omega
theorem Forest.adj_ne {n : Nat} {ts : Ties} (F : Forest n ts) {x y : Nat} (h : Adj ts x y) : x ≠ y := by
  have := F.lt _ h
  simp only at this
  omega
theorem adj_of_tie {n : Nat} {ts : Ties} (F : Forest n ts) {u v : Nat} (h : (u, v) ∈ ts) : Adj ts u v := by
  have := F.lt _ h
  simp only at this
  unfold Adj
  rw [Nat.min_eq_left (by omega), Nat.max_eq_right (by omega)]; exact h
theorem tie_of_adj {ts : Ties} {u v : Nat} (h : Adj ts u v) : (u, v) ∈ ts ∨ (v, u) ∈ ts := by
  unfold Adj at h
  rcases Nat.le_total u v with e | e
  · rw [Nat.min_eq_left e, Nat.max_eq_right e] at h; exact .inl h
  · rw [Nat.min_eq_right e, Nat.max_eq_left e] at h; exact .inr h

/-- each two neighbours a tied pair -/
def Walk (ts : Ties) : List Nat → Prop
  | [] => True
  | [_] => True
  | x :: y :: r => Adj ts x y ∧ Walk ts (y :: r)

theorem Walk.tail {ts : Ties} {x : Nat} {r : List Nat} (h : Walk ts (x :: r)) : Walk ts r := by
  cases r with
  | nil => trivial
  | cons y r => exact h.2
theorem Walk.snoc {ts : Ties} {x : Nat} : ∀ {l : List Nat}, Walk ts l → (∀ y, l.getLast? = some y → Adj ts y x) → Walk ts (l ++ [x])
  | [], _, _ => trivial
  | [y], _, h => ⟨h y rfl, trivial⟩
  | y :: z :: r, w, h => ⟨w.1, Walk.snoc (l := z :: r) w.2 fun u e => h u (by rw [List.getLast?_cons_cons]; exact e)⟩
theorem Walk.of_snoc {ts : Ties} {x : Nat} : ∀ {l : List Nat}, Walk ts (l ++ [x]) → Walk ts l ∧ ∀ y, l.getLast? = some y → Adj ts y x
  | [], _ => ⟨trivial, fun _ e => by simp at e⟩
  | [y], h => ⟨trivial, fun u e => by simp at e; subst e; exact h.1⟩
  | y :: z :: r, h => by
    obtain ⟨h1, h2⟩ := Walk.of_snoc (l := z :: r) h.2
    exact ⟨⟨h.1, h1⟩, fun u e => h2 u (by rw [List.getLast?_cons_cons] at e; exact e)⟩
theorem Walk.rev {ts : Ties} : ∀ {l : List Nat}, Walk ts l → Walk ts l.reverse
  | [], _ => trivial
  | [_], _ => trivial
  | x :: y :: r, h => by
    rw [List.reverse_cons]
    refine Walk.snoc (Walk.rev h.2) fun u e => ?_
    rw [List.getLast?_reverse] at e
    simp at e; subst e
    exact h.1.symm
theorem Walk.get {ts : Ties} : ∀ {l : List Nat} {i : Nat} {x y : Nat}, Walk ts l → l[i]? = some x → l[i + 1]? = some y → Adj ts x y
  | [], _, _, _, _, h, _ => by simp at h
  | [_], 0, _, _, _, _, h => by simp at h
  | [_], _ + 1, _, _, _, h, _ => by simp at h
  | a :: b :: r, 0, x, y, w, h, h' => by
    simp at h h'; subst h; subst h'; exact w.1
  | a :: b :: r, i + 1, x, y, w, h, h' => Walk.get (l := b :: r) (i := i) w.2 (by simpa using h) (by simpa using h')
theorem Walk.of_get {ts : Ties} : ∀ {l : List Nat}, (∀ (i : Nat) (x y : Nat), l[i]? = some x → l[i + 1]? = some y → Adj ts x y) → Walk ts l
  | [], _ => trivial
  | [_], _ => trivial
  | a :: b :: r, h => ⟨h 0 a b rfl rfl, Walk.of_get (l := b :: r) fun i x y e e' => h (i + 1) x y (by simpa using e) (by simpa using e')⟩

structure Path (ts : Ties) (a b : Nat) (p : List Nat) : Prop where
  head : p.head? = some a
  last : p.getLast? = some b
  walk : Walk ts p
  nd : p.Nodup

theorem Path.rev {ts : Ties} {a b : Nat} {p : List Nat} (h : Path ts a b p) : Path ts b a p.reverse :=
  ⟨by rw [List.head?_reverse]; exact h.last, by rw [List.getLast?_reverse]; exact h.head, h.walk.rev, ((List.reverse_perm p).nodup_iff).mpr h.nd⟩
theorem Path.one {ts : Ties} (a : Nat) : Path ts a a [a] := ⟨rfl, rfl, trivial, by simp⟩
theorem Path.self {ts : Ties} {a : Nat} {p : List Nat} (h : Path ts a a p) : p = [a] := by
  obtain ⟨h1, h2, _, h4⟩ := h
  cases p with
  | nil => simp at h1
  | cons x r =>
    simp at h1; subst h1
    cases r with
    | nil => rfl
    | cons y r =>
      rw [List.getLast?_cons_cons] at h2
      exact absurd (List.mem_of_getLast? h2) (List.nodup_cons.mp h4).1
theorem Path.snoc {ts : Ties} {a b c : Nat} {p : List Nat} (h : Path ts a b p) (hc : Adj ts b c) (hn : c ∉ p) : Path ts a c (p ++ [c]) := by
  refine ⟨?_, by simp, h.walk.snoc fun y e => ?_, ?_⟩
  · cases p with
    | nil => have := h.head; simp at this
    | cons x r => have := h.head; simpa using this
  · rw [h.last] at e; cases e; exact hc
  · refine List.nodup_append.mpr ⟨h.nd, by simp, fun x hx y hy e => ?_⟩
    simp at hy; subst hy; subst e; exact hn hx
theorem Path.cons {ts : Ties} {a b c : Nat} {p : List Nat} (h : Path ts a b p) (hc : Adj ts c a) (hn : c ∉ p) : Path ts c b (c :: p) := by
  refine ⟨rfl, ?_, ?_, List.nodup_cons.mpr ⟨hn, h.nd⟩⟩
  · have := h.head
    cases p with
    | nil => simp at this
    | cons x r => rw [List.getLast?_cons_cons]; exact h.last
  · have := h.head
    cases p with
    | nil => simp at this
    | cons x r => simp at this; subst this; exact ⟨hc, h.walk⟩
theorem Path.ne_nil {ts : Ties} {a b : Nat} {p : List Nat} (h : Path ts a b p) : p ≠ [] := fun e => by
  have := h.head; rw [e] at this; simp at this

/-- once down, always down -/
theorem downs {ts : Ties} {pos : Nat → Nat} (h1 : ∀ x y, Adj ts x y → pos x ≠ pos y)
    (h2 : ∀ x y z, Adj ts x y → Adj ts x z → pos y < pos x → pos z < pos x → y = z) :
    ∀ (r : List Nat) (x y b : Nat), Walk ts (x :: y :: r) → (x :: y :: r).Nodup → pos x < pos y → (x :: y :: r).getLast? = some b → pos x < pos b
  | [], x, y, b, _, _, hl, e => by simp at e; subst e; exact hl
  | z :: r, x, y, b, w, nd, hl, e => by
    have hxz : x ≠ z := fun q => by
      subst q
      exact (List.nodup_cons.mp nd).1 (by simp)
    have hyz : pos y < pos z := by
      have a1 : Adj ts y z := w.2.1
      have := h1 y z a1
      rcases Nat.lt_or_gt_of_ne this with q | q
      · exact q
      · exact absurd (h2 y x z w.1.symm a1 hl q) hxz
    have := downs h1 h2 r y z b w.2 (List.nodup_cons.mp nd).2 hyz (by rw [List.getLast?_cons_cons] at e; exact e)
    omega

theorem uniq_aux {ts : Ties} {pos : Nat → Nat} (h1 : ∀ x y, Adj ts x y → pos x ≠ pos y)
    (h2 : ∀ x y z, Adj ts x y → Adj ts x z → pos y < pos x → pos z < pos x → y = z) :
    ∀ (N : Nat) (a b : Nat) (p q : List Nat), pos a + pos b < N → Path ts a b p → Path ts a b q → p = q
  | 0, _, _, _, _, h, _, _ => absurd h (Nat.not_lt_zero _)
  | N + 1, a, b, p, q, hN, hp, hq => by
    have ih := uniq_aux h1 h2 N
    have key : ∀ (a b : Nat) (p q : List Nat), pos a + pos b < N + 1 → pos b ≤ pos a → Path ts a b p → Path ts a b q → p = q := by
      intro a b p q hN hle hp hq
      by_cases hab : a = b
      · subst hab; rw [hp.self, hq.self]
      · have step : ∀ p, Path ts a b p → ∃ y r, p = a :: y :: r ∧ Adj ts a y ∧ pos y < pos a ∧ Path ts y b (y :: r) := by
          intro p hp
          obtain ⟨e1, e2, e3, e4⟩ := hp
          match p, e1, e2, e3, e4 with
          | [x], e1, e2, _, _ => simp at e1 e2; exact absurd (e1.symm.trans e2) hab
          | x :: y :: r, e1, e2, e3, e4 =>
            simp at e1; subst e1
            have hadj : Adj ts x y := e3.1
            have hlt : pos y < pos x := by
              rcases Nat.lt_or_gt_of_ne (h1 x y hadj) with z | z
              · have := downs h1 h2 r x y b e3 e4 z e2
                omega
              · exact z
            exact ⟨y, r, rfl, hadj, hlt, rfl, by rw [List.getLast?_cons_cons] at e2; exact e2, e3.2, (List.nodup_cons.mp e4).2⟩
        obtain ⟨y, r, rfl, ay, ly, py⟩ := step p hp
        obtain ⟨z, s, rfl, az, lz, pz⟩ := step q hq
        have e := h2 a y z ay az ly lz
        subst e
        rw [ih y b _ _ (by omega) py pz]
    rcases Nat.le_total (pos b) (pos a) with hle | hle
    · exact key a b p q hN hle hp hq
    · have := key b a p.reverse q.reverse (by omega) hle hp.rev hq.rev
      exact List.reverse_inj.mp this

theorem Path.unique {n : Nat} {ts : Ties} (F : Forest n ts) {a b : Nat} {p q : List Nat} (hp : Path ts a b p) (hq : Path ts a b q) : p = q := by
  obtain ⟨pos, h1, h2⟩ := F.acyc
  exact uniq_aux h1 h2 _ a b p q (Nat.lt_succ_self _) hp hq

/-! joined -/
inductive Reach (ts : Ties) (a : Nat) : Nat → Prop
  | refl : Reach ts a a
  | step {x y : Nat} : Reach ts a x → Adj ts x y → Reach ts a y

theorem Reach.trans {ts : Ties} {a b c : Nat} (h : Reach ts a b) (h' : Reach ts b c) : Reach ts a c := by
  induction h' with
  | refl => exact h
  | step _ e ih => exact .step ih e
theorem Reach.symm {ts : Ties} {a b : Nat} (h : Reach ts a b) : Reach ts b a := by
  induction h with
  | refl => exact .refl
  | step _ e ih => exact (Reach.step .refl e.symm).trans ih
theorem Reach.lt {n : Nat} {ts : Ties} (F : Forest n ts) {a b : Nat} (h : Reach ts a b) (ha : a < n) : b < n := by
  cases h with
  | refl => exact ha
  | step _ e => exact (F.adj_lt e).2

theorem prefix_to {ts : Ties} {c : Nat} : ∀ {p : List Nat}, Walk ts p → p.Nodup → c ∈ p → ∃ q, q.head? = p.head? ∧ q.getLast? = some c ∧ Walk ts q ∧ q.Nodup ∧ (∀ z ∈ q, z ∈ p)
  | [], _, _, h => by simp at h
  | x :: r, w, nd, h => by
    by_cases e : c = x
    · subst e
      exact ⟨[c], rfl, rfl, trivial, by simp, fun z hz => by simp at hz; subst hz; simp⟩
    · have hr : c ∈ r := by simpa [e] using h
      obtain ⟨q, q1, q2, q3, q4, q5⟩ := prefix_to w.tail (List.nodup_cons.mp nd).2 hr
      cases q with
      | nil => simp at q2
      | cons z s =>
        cases r with
        | nil => simp at hr
        | cons y r =>
          simp at q1; subst q1
          refine ⟨x :: z :: s, rfl, by rw [List.getLast?_cons_cons]; exact q2, ⟨w.1, q3⟩, List.nodup_cons.mpr ⟨fun m => ?_, q4⟩, fun u hu => ?_⟩
          · exact (List.nodup_cons.mp nd).1 (q5 _ m)
          · rcases List.mem_cons.mp hu with h | h
            · subst h; simp
            · exact List.mem_cons_of_mem _ (q5 _ h)

theorem Reach.path {ts : Ties} {a b : Nat} (h : Reach ts a b) : ∃ p, Path ts a b p := by
  induction h with
  | refl => exact ⟨[a], .one a⟩
  | @step x y _ e ih =>
    obtain ⟨p, hp⟩ := ih
    by_cases m : y ∈ p
    · obtain ⟨q, q1, q2, q3, q4, _⟩ := prefix_to hp.walk hp.nd m
      exact ⟨q, q1.trans hp.head, q2, q3, q4⟩
    · exact ⟨p ++ [y], hp.snoc e m⟩
theorem reach_of_walk {ts : Ties} : ∀ {p : List Nat} {a : Nat}, Walk ts (a :: p) → ∀ x ∈ a :: p, Reach ts a x
  | [], a, _, x, hx => by simp at hx; subst hx; exact .refl
  | y :: r, a, w, x, hx => by
    rcases List.mem_cons.mp hx with h | h
    · subst h; exact .refl
    · exact (Reach.step .refl w.1).trans (reach_of_walk w.2 x h)
theorem Path.reach_mem {ts : Ties} {a b : Nat} {p : List Nat} (h : Path ts a b p) {x : Nat} (hx : x ∈ p) : Reach ts a x := by
  have h1 := h.head
  cases p with
  | nil => simp at h1
  | cons y r => simp at h1; subst h1; exact reach_of_walk h.walk x hx
theorem Path.reach {ts : Ties} {a b : Nat} {p : List Nat} (h : Path ts a b p) : Reach ts a b := h.reach_mem (List.mem_of_getLast? h.last)
theorem reach_iff {ts : Ties} {a b : Nat} : Reach ts a b ↔ ∃ p, Path ts a b p := ⟨Reach.path, fun ⟨_, h⟩ => h.reach⟩

theorem Path.lt {n : Nat} {ts : Ties} (F : Forest n ts) {a b : Nat} (ha : a < n) {p : List Nat} (h : Path ts a b p) : ∀ x ∈ p, x < n := fun _ hx => (h.reach_mem hx).lt F ha

/-- numbers below n, none twice: at most n -/
theorem len_le {n : Nat} {l : List Nat} (nd : l.Nodup) (h : ∀ x ∈ l, x < n) : l.length ≤ n := by
  have e : ((List.range n).filter fun x => decide (x ∈ l)).Perm l := by
    refine (List.perm_ext_iff_of_nodup (List.nodup_range.sublist List.filter_sublist) nd).mpr fun x => ?_
    simp only [List.mem_filter, List.mem_range, decide_eq_true_eq]
    exact ⟨fun q => q.2, fun q => ⟨h x q, q⟩⟩
  rw [← e.length_eq]
  refine Nat.le_trans (List.length_filter_le _ _) ?_
  simp

/-! the part of a point, rising -/
noncomputable instance (ts : Ties) (a x : Nat) : Decidable (Reach ts a x) := Classical.propDecidable _
noncomputable def comp (n : Nat) (ts : Ties) (a : Nat) : List Nat := (List.range n).filter fun x => decide (Reach ts a x)
theorem mem_comp {n : Nat} {ts : Ties} {a x : Nat} : x ∈ comp n ts a ↔ x < n ∧ Reach ts a x := by
  unfold comp; simp [List.mem_filter, List.mem_range]
theorem comp_nodup {n : Nat} {ts : Ties} {a : Nat} : (comp n ts a).Nodup := List.nodup_range.sublist List.filter_sublist
theorem comp_up {n : Nat} {ts : Ties} {a : Nat} : (comp n ts a).Pairwise (· < ·) := List.pairwise_lt_range.sublist List.filter_sublist
theorem comp_congr {n : Nat} {ts : Ties} {a b : Nat} (h : Reach ts a b) : comp n ts a = comp n ts b := by
  unfold comp
  refine List.filter_congr fun x _ => ?_
  by_cases e : Reach ts a x
  · rw [decide_eq_true e, decide_eq_true (h.symm.trans e)]
  · rw [decide_eq_false e, decide_eq_false fun q => e (h.trans q)]
theorem comp_eq_iff {n : Nat} {ts : Ties} {a b : Nat} (hb : b < n) : comp n ts a = comp n ts b ↔ Reach ts a b := by
  refine ⟨fun e => ?_, comp_congr⟩
  have : b ∈ comp n ts b := mem_comp.mpr ⟨hb, .refl⟩
  rw [← e] at this
  exact (mem_comp.mp this).2
/-- a rising list of what is joined is the part -/
theorem comp_of {n : Nat} {ts : Ties} {a : Nat} {l : List Nat} (h : l.Pairwise (· < ·)) (m : ∀ x, x ∈ l ↔ x < n ∧ Reach ts a x) : l = comp n ts a := by
  have nd : l.Nodup := h.imp fun q => Nat.ne_of_lt q
  have p : l.Perm (comp n ts a) := (List.perm_ext_iff_of_nodup nd comp_nodup).mpr fun x => (m x).trans mem_comp.symm
  exact p.eq_of_pairwise (le := (· < ·)) (fun a b _ _ h1 h2 => absurd h1 (Nat.lt_asymm h2)) h comp_up
/-- from a closed set -/
theorem reach_closed {ts : Ties} {a : Nat} {S : Nat → Prop} (ha : S a) (hc : ∀ x y, S x → Adj ts x y → S y) {x : Nat} (h : Reach ts a x) : S x := by
  induction h with
  | refl => exact ha
  | step _ e ih => exact hc _ _ ih e
end FM
/-! Plain law, part B: all rising tuples, those into which no tie leads, their number. -/
namespace FM

/-- all rising tuples below n, as the law makes them -/
def AT : Nat → List (List Nat)
  | 0 => [[]]
  | n + 1 => AT n ++ (AT n).map fun S => S ++ [n]

theorem AT_lt : ∀ {n : Nat} {S : List Nat}, S ∈ AT n → ∀ x ∈ S, x < n
  | 0, S, h, x, hx => by simp [AT] at h; subst h; simp at hx
  | n + 1, S, h, x, hx => by
    rcases List.mem_append.mp h with h | h
    · have := AT_lt h x hx; omega
    · obtain ⟨T, hT, rfl⟩ := List.mem_map.mp h
      rcases List.mem_append.mp hx with q | q
      · have := AT_lt hT x q; omega
      · simp at q; omega
theorem AT_up : ∀ {n : Nat} {S : List Nat}, S ∈ AT n → S.Pairwise (· < ·)
  | 0, S, h => by simp [AT] at h; subst h; exact .nil
  | n + 1, S, h => by
    rcases List.mem_append.mp h with h | h
    · exact AT_up h
    · obtain ⟨T, hT, rfl⟩ := List.mem_map.mp h
      refine List.pairwise_append.mpr ⟨AT_up hT, by simp, fun x hx y hy => ?_⟩
      simp at hy; subst hy; exact AT_lt hT x hx
theorem up_ext {l m : List Nat} (hl : l.Pairwise (· < ·)) (hm : m.Pairwise (· < ·)) (h : ∀ x, x ∈ l ↔ x ∈ m) : l = m := by
  have nl : l.Nodup := hl.imp fun q => Nat.ne_of_lt q
  have nm : m.Nodup := hm.imp fun q => Nat.ne_of_lt q
  exact ((List.perm_ext_iff_of_nodup nl nm).mpr h).eq_of_pairwise (le := (· < ·)) (fun a b _ _ h1 h2 => absurd h1 (Nat.lt_asymm h2)) hl hm
theorem mem_AT : ∀ {n : Nat} {S : List Nat}, S.Pairwise (· < ·) → (∀ x ∈ S, x < n) → S ∈ AT n
  | 0, S, _, h => by
    cases S with
    | nil => simp [AT]
    | cons x r => exact absurd (h x (by simp)) (Nat.not_lt_zero _)
  | n + 1, S, hu, h => by
    by_cases e : n ∈ S
    · have e1 : S = (S.filter fun x => decide (x < n)) ++ [n] := by
        refine up_ext hu ?_ fun x => ?_
        · refine List.pairwise_append.mpr ⟨hu.sublist List.filter_sublist, by simp, fun x hx y hy => ?_⟩
          simp at hy; subst hy
          exact of_decide_eq_true (List.mem_filter.mp hx).2
        · simp only [List.mem_append, List.mem_filter, decide_eq_true_eq, List.mem_singleton]
          constructor
          · intro q
            have := h x q
            by_cases z : x = n
            · exact .inr z
            · exact .inl ⟨q, by omega⟩
          · rintro (q | q)
            · exact q.1
            · subst q; exact e
      rw [e1]
      refine List.mem_append.mpr (.inr (List.mem_map.mpr ⟨_, mem_AT (hu.sublist List.filter_sublist) fun x hx => ?_, rfl⟩))
      exact of_decide_eq_true (List.mem_filter.mp hx).2
    · refine List.mem_append.mpr (.inl (mem_AT hu fun x hx => ?_))
      have := h x hx
      have : x ≠ n := fun z => e (z ▸ hx)
      omega
theorem AT_nodup : ∀ n, (AT n).Nodup
  | 0 => by simp [AT]
  | n + 1 => by
    refine List.nodup_append.mpr ⟨AT_nodup n, ?_, fun S hS T hT e => ?_⟩
    · refine List.Pairwise.map _ (fun S T h => ?_) (AT_nodup n)
      intro e
      exact h (List.append_cancel_right e)
    · subst e
      obtain ⟨T, _, rfl⟩ := List.mem_map.mp hT
      have := AT_lt hS n (by simp)
      omega

/-- the wishes c are met -/
def fits (c : Nat → Option Bool) (n : Nat) (S : List Nat) : Bool := (List.range n).all fun k => match c k with | some β => decide (k ∈ S) == β | none => true
theorem fits_iff {c : Nat → Option Bool} {n : Nat} {S : List Nat} : fits c n S = true ↔ ∀ k, k < n → ∀ β, c k = some β → decide (k ∈ S) = β := by
  unfold fits
  rw [List.all_eq_true]
  constructor
  · intro h k hk β e
    have := h k (List.mem_range.mpr hk)
    rw [e] at this
    simpa using this
  · intro h k hk
    cases e : c k with
    | none => rfl
    | some β => simpa using h k (List.mem_range.mp hk) β e
def wgt (c : Nat → Option Bool) (k : Nat) : Nat := if (c k).isSome then 1 else 2
theorem fits_succ {c : Nat → Option Bool} {n : Nat} {S : List Nat} : fits c (n + 1) S = (fits c n S && (match c n with | some β => decide (n ∈ S) == β | none => true)) := by
  unfold fits
  rw [List.range_succ, List.all_append]
  simp
theorem fits_snoc {c : Nat → Option Bool} {n : Nat} {S : List Nat} : fits c n (S ++ [n]) = fits c n S := by
  unfold fits
  have e : ∀ k, k ∈ List.range n → decide (k ∈ S ++ [n]) = decide (k ∈ S) := fun k hk => by
    have hk' : k < n := List.mem_range.mp hk
    have : k ≠ n := by omega
    simp [this]
  rw [Bool.eq_iff_iff, List.all_eq_true, List.all_eq_true]
  constructor
  · intro h k hk
    have := h k hk
    rw [e k hk] at this
    exact this
  · intro h k hk
    rw [e k hk]
    exact h k hk
theorem count_fits (c : Nat → Option Bool) : ∀ n, ((AT n).filter (fits c n)).length = (List.range n).foldl (fun d k => d * wgt c k) 1
  | 0 => by simp [AT, fits]
  | n + 1 => by
    have ih := count_fits c n
    rw [List.range_succ, List.foldl_append, ← ih]
    show ((AT n ++ (AT n).map fun S => S ++ [n]).filter (fits c (n + 1))).length = ((AT n).filter (fits c n)).length * wgt c n
    rw [List.filter_append, List.length_append, List.filter_map, List.length_map]
    have e1 : ∀ S ∈ AT n, decide (n ∈ S) = false := fun S hS => decide_eq_false fun m => Nat.lt_irrefl _ (AT_lt hS n m)
    have a1 : (AT n).filter (fits c (n + 1)) = (AT n).filter (fun S => fits c n S && (match c n with | some β => false == β | none => true)) := by
      refine List.filter_congr fun S hS => ?_
      rw [fits_succ, e1 S hS]
    have a2 : (AT n).filter ((fits c (n + 1)) ∘ fun S => S ++ [n]) = (AT n).filter (fun S => fits c n S && (match c n with | some β => true == β | none => true)) := by
      refine List.filter_congr fun S hS => ?_
      show fits c (n + 1) (S ++ [n]) = _
      rw [fits_succ, fits_snoc, show decide (n ∈ S ++ [n]) = true by simp]
    rw [a1, a2]
    unfold wgt
    have b1 : (fun S => fits c n S && true) = fits c n := funext fun S => Bool.and_true _
    have b2 : (fun S => fits c n S && false) = fun _ => false := funext fun S => Bool.and_false _
    have b3 : (AT n).filter (fun _ => false) = [] := List.filter_eq_nil_iff.mpr fun _ _ h => by cases h
    cases e : c n with
    | none =>
      show ((AT n).filter (fun S => fits c n S && true)).length + ((AT n).filter (fun S => fits c n S && true)).length = ((AT n).filter (fits c n)).length * 2
      rw [b1]; omega
    | some β => cases β with
      | true =>
        show ((AT n).filter (fun S => fits c n S && false)).length + ((AT n).filter (fun S => fits c n S && true)).length = ((AT n).filter (fits c n)).length * 1
        rw [b1, b2, b3, List.length_nil]; omega
      | false =>
        show ((AT n).filter (fun S => fits c n S && true)).length + ((AT n).filter (fun S => fits c n S && false)).length = ((AT n).filter (fits c n)).length * 1
        rw [b1, b2, b3, List.length_nil]; omega

/-- rising, a in it, b not, no tie leads in -/
def okA (a b : Nat) (ts : Ties) (S : List Nat) : Bool := decide (a ∈ S) && !decide (b ∈ S) && ts.all fun t => decide (t.1 ∈ S) == decide (t.2 ∈ S)
theorem okA_iff {a b : Nat} {ts : Ties} {S : List Nat} : okA a b ts S = true ↔ a ∈ S ∧ b ∉ S ∧ ∀ t ∈ ts, (t.1 ∈ S ↔ t.2 ∈ S) := by
  unfold okA
  simp only [Bool.and_eq_true, decide_eq_true_eq, Bool.not_eq_true', decide_eq_false_iff_not, List.all_eq_true, beq_iff_eq, decide_eq_decide, and_assoc]
theorem closed_of {ts : Ties} {S : List Nat} (h : ∀ t ∈ ts, (t.1 ∈ S ↔ t.2 ∈ S)) {x y : Nat} (hx : x ∈ S) (e : Adj ts x y) : y ∈ S := by
  rcases tie_of_adj e with q | q
  · exact (h _ q).mp hx
  · exact (h _ q).mpr hx
theorem okA_reach {a b : Nat} {ts : Ties} {S : List Nat} (h : okA a b ts S = true) : ¬ Reach ts a b := fun r => by
  obtain ⟨h1, h2, h3⟩ := okA_iff.mp h
  exact h2 (reach_closed (S := fun x => x ∈ S) h1 (fun x y hx e => closed_of h3 hx e) r)
theorem aparts_nil {n a b : Nat} {ts : Ties} (r : Reach ts a b) : (AT n).filter (okA a b ts) = [] :=
  List.filter_eq_nil_iff.mpr fun _ _ h => okA_reach h r
theorem comp_okA {n a b : Nat} {ts : Ties} (F : Forest n ts) (ha : a < n) (r : ¬ Reach ts a b) : comp n ts a ∈ (AT n).filter (okA a b ts) := by
  refine List.mem_filter.mpr ⟨mem_AT comp_up fun x hx => (mem_comp.mp hx).1, okA_iff.mpr ⟨mem_comp.mpr ⟨ha, .refl⟩, fun m => r (mem_comp.mp m).2, fun t ht => ?_⟩⟩
  have hl := F.lt t ht
  have e : Adj ts t.1 t.2 := adj_of_tie F (u := t.1) (v := t.2) ht
  simp only [mem_comp]
  exact ⟨fun q => ⟨hl.2, q.2.step e⟩, fun q => ⟨by omega, q.2.step e.symm⟩⟩

/-- the parts, each once -/
structure Parts (n : Nat) (ts : Ties) (Ps : List (List Nat)) : Prop where
  nd : Ps.Nodup
  all : ∀ p, p < n → comp n ts p ∈ Ps
  only : ∀ P ∈ Ps, ∃ p, p < n ∧ P = comp n ts p

def due (a b : Nat) (Ps : List (List Nat)) : Nat := Ps.foldl (fun d P => d * (if a ∈ P ∨ b ∈ P then 1 else 2)) 1

def cOf (a b : Nat) (Ps : List (List Nat)) (k : Nat) : Option Bool := if a ∈ Ps.getD k [] then some true else if b ∈ Ps.getD k [] then some false else none
theorem map_getD {α : Type} (d : α) : ∀ l : List α, (List.range l.length).map (fun k => l.getD k d) = l := fun l => by
  apply List.ext_getElem?
  intro i
  rw [List.getElem?_map]
  by_cases h : i < l.length
  · rw [List.getElem?_range h, Option.map_some, List.getElem?_eq_getElem h, List.getD_eq_getElem?_getD, List.getElem?_eq_getElem h]; rfl
  · rw [List.getElem?_eq_none (by simpa using h), List.getElem?_eq_none (by omega)]; rfl
theorem due_eq (a b : Nat) (Ps : List (List Nat)) : due a b Ps = (List.range Ps.length).foldl (fun d k => d * wgt (cOf a b Ps) k) 1 := by
  unfold due
  conv => lhs; rw [← map_getD [] Ps]
  rw [List.foldl_map]
  congr 1
  funext d k
  congr 1
  unfold wgt cOf
  by_cases h1 : a ∈ Ps.getD k []
  · rw [if_pos (.inl h1), if_pos h1]; rfl
  · rw [if_neg h1]
    by_cases h2 : b ∈ Ps.getD k []
    · rw [if_pos (.inr h2), if_pos h2]; rfl
    · rw [if_neg (fun q => q.elim h1 h2), if_neg h2]; rfl

theorem count_aparts {n a b : Nat} {ts : Ties} (F : Forest n ts) (ha : a < n) (hb : b < n) (r : ¬ Reach ts a b) {Ps : List (List Nat)} (hP : Parts n ts Ps) :
    ((AT n).filter (okA a b ts)).length = due a b Ps := by
  rw [due_eq, ← count_fits]
  let ix : Nat → Nat := fun x => Ps.idxOf (comp n ts x)
  have ix_lt : ∀ x, x < n → ix x < Ps.length := fun x hx => List.idxOf_lt_length_of_mem (hP.all x hx)
  have ix_get : ∀ x, x < n → Ps[ix x]? = some (comp n ts x) := fun x hx => by
    rw [List.getElem?_eq_getElem (ix_lt x hx)]
    exact congrArg some (List.getElem_idxOf _)
  have ix_getD : ∀ x, x < n → Ps.getD (ix x) [] = comp n ts x := fun x hx => by
    rw [List.getD_eq_getElem?_getD, ix_get x hx]; rfl
  have ix_eq : ∀ x y, x < n → y < n → (ix x = ix y ↔ Reach ts x y) := fun x y hx hy => by
    refine ⟨fun e => ?_, fun e => ?_⟩
    · have h1 := ix_get x hx
      rw [e, ix_get y hy] at h1
      exact (comp_eq_iff hy).mp (Option.some.inj h1).symm
    · show Ps.idxOf _ = Ps.idxOf _
      rw [comp_congr e]
  have mem_ix : ∀ x k, x < n → k < Ps.length → x ∈ Ps.getD k [] → k = ix x := fun x k hx hk m => by
    have e0 : Ps[k]? = some (Ps.getD k []) := by
      rw [List.getD_eq_getElem?_getD, List.getElem?_eq_getElem hk]; rfl
    obtain ⟨p, hp, e⟩ := hP.only _ (List.mem_of_getElem? e0)
    rw [e] at m e0
    have rp := (mem_comp.mp m).2
    rw [comp_congr rp, ← ix_get x hx] at e0
    exact (List.getElem?_inj hk hP.nd).mp e0
  let φ : List Nat → List Nat := fun U => (List.range n).filter fun x => decide (ix x ∈ U)
  have mem_φ : ∀ U x, x ∈ φ U ↔ x < n ∧ ix x ∈ U := fun U x => by simp [φ, List.mem_filter, List.mem_range]
  have rep : ∀ k, k < Ps.length → ∃ x, x < n ∧ ix x = k := fun k hk => by
    have e0 : Ps[k]? = some Ps[k] := List.getElem?_eq_getElem hk
    obtain ⟨p, hp, e⟩ := hP.only _ (List.mem_of_getElem? e0)
    refine ⟨p, hp, ?_⟩
    rw [e, ← ix_get p hp] at e0
    exact ((List.getElem?_inj hk hP.nd).mp e0).symm
  have nd1 : (((AT Ps.length).filter (fits (cOf a b Ps) Ps.length)).map φ).Nodup := by
    have inj : ∀ U V, U ∈ AT Ps.length → V ∈ AT Ps.length → φ U = φ V → U = V := fun U V hU hV e => by
      refine up_ext (AT_up hU) (AT_up hV) fun k => ?_
      have key : ∀ U V, U ∈ AT Ps.length → φ U = φ V → k ∈ U → k ∈ V := fun U V hU e m => by
        obtain ⟨x, hx, rfl⟩ := rep k (AT_lt hU k m)
        exact ((mem_φ V x).mp (e ▸ (mem_φ U x).mpr ⟨hx, m⟩)).2
      exact ⟨key U V hU e, key V U hV e.symm⟩
    refine List.pairwise_map.mpr (List.Pairwise.imp_of_mem (fun {U V} hU hV h e => ?_) ((AT_nodup Ps.length).sublist List.filter_sublist))
    exact h (inj U V (List.mem_filter.mp hU).1 (List.mem_filter.mp hV).1 e)
  have nd2 : ((AT n).filter (okA a b ts)).Nodup := (AT_nodup n).sublist List.filter_sublist
  rw [← List.length_map (f := φ) (as := (AT Ps.length).filter _)]
  refine ((List.perm_ext_iff_of_nodup nd2 nd1).mpr fun S => ?_).length_eq
  rw [List.mem_filter, List.mem_map]
  constructor
  · rintro ⟨hS, hok⟩
    obtain ⟨h1, h2, h3⟩ := okA_iff.mp hok
    have cl : ∀ x y, x ∈ S → Reach ts x y → y ∈ S := fun x y hx q => reach_closed (S := fun z => z ∈ S) hx (fun u v hu e => closed_of h3 hu e) q
    refine ⟨(List.range Ps.length).filter fun k => decide (∃ x ∈ S, ix x = k), List.mem_filter.mpr ⟨mem_AT (List.pairwise_lt_range.sublist List.filter_sublist) fun k hk => List.mem_range.mp (List.mem_filter.mp hk).1, fits_iff.mpr fun k hk β e => ?_⟩, ?_⟩
    · have mk : k ∈ ((List.range Ps.length).filter fun k => decide (∃ x ∈ S, ix x = k)) ↔ ∃ x ∈ S, ix x = k := by
        simp only [List.mem_filter, List.mem_range, decide_eq_true_eq]
        exact ⟨fun q => q.2, fun q => ⟨hk, q⟩⟩
      unfold cOf at e
      by_cases m1 : a ∈ Ps.getD k []
      · rw [if_pos m1] at e; cases e
        exact decide_eq_true (mk.mpr ⟨a, h1, (mem_ix a k ha hk m1).symm⟩)
      · rw [if_neg m1] at e
        by_cases m2 : b ∈ Ps.getD k []
        · rw [if_pos m2] at e; cases e
          refine decide_eq_false fun q => ?_
          obtain ⟨x, hx, e⟩ := mk.mp q
          have e2 := mem_ix b k hb hk m2
          exact h2 (cl x b hx ((ix_eq x b (AT_lt hS x hx) hb).mp (e.trans e2)))
        · rw [if_neg m2] at e; cases e
    · refine up_ext (List.pairwise_lt_range.sublist List.filter_sublist) (AT_up hS) fun x => ?_
      rw [mem_φ]
      simp only [List.mem_filter, List.mem_range, decide_eq_true_eq]
      constructor
      · rintro ⟨hx, _, y, hy, e⟩
        exact cl y x hy ((ix_eq y x (AT_lt hS y hy) hx).mp e)
      · intro hx
        have := AT_lt hS x hx
        exact ⟨this, ix_lt x this, x, hx, rfl⟩
  · rintro ⟨U, hU, rfl⟩
    obtain ⟨hU1, hU2⟩ := List.mem_filter.mp hU
    have hf := fits_iff.mp hU2
    refine ⟨mem_AT (List.pairwise_lt_range.sublist List.filter_sublist) fun x hx => ((mem_φ U x).mp hx).1, okA_iff.mpr ⟨?_, ?_, fun t ht => ?_⟩⟩
    · refine (mem_φ U a).mpr ⟨ha, of_decide_eq_true (hf _ (ix_lt a ha) true ?_)⟩
      unfold cOf
      rw [ix_getD a ha, if_pos (mem_comp.mpr ⟨ha, .refl⟩)]
    · intro m
      have m := ((mem_φ U b).mp m).2
      have := hf _ (ix_lt b hb) false (by
        unfold cOf
        rw [ix_getD b hb, if_neg fun q => r (mem_comp.mp q).2.symm, if_pos (mem_comp.mpr ⟨hb, .refl⟩)])
      exact of_decide_eq_false this m
    · have hl := F.lt t ht
      have e : Adj ts t.1 t.2 := adj_of_tie F (u := t.1) (v := t.2) ht
      have h1 : t.1 < n := by omega
      rw [mem_φ, mem_φ, (ix_eq t.1 t.2 h1 hl.2).mpr (Reach.refl.step e)]
      exact ⟨fun q => ⟨hl.2, q.2⟩, fun q => ⟨h1, q.2⟩⟩
end FM
/-! Plain law, part C: rows of points, the search, the parts, the forest that is drawn. -/
namespace FM

/-- the other end of a tie -/
def there (x : Nat) (t : Nat × Nat) : Option Nat := if x = t.1 then some t.2 else if x = t.2 then some t.1 else none
def nb (ts : Ties) (x : Nat) : List Nat := ts.filterMap (there x)
theorem there_some {x c : Nat} {t : Nat × Nat} (hl : t.1 < t.2) : there x t = some c ↔ t = (min x c, max x c) := by
  obtain ⟨u, v⟩ := t
  unfold there
  simp only at hl ⊢
  by_cases h1 : x = u
  · rw [if_pos h1]
    constructor
    · intro e
      have e : v = c := Option.some.inj e
      subst e; subst h1
      rw [Nat.min_eq_left (by omega), Nat.max_eq_right (by omega)]
    · intro e
      have e1 := congrArg Prod.fst e
      have e2 := congrArg Prod.snd e
      simp only at e1 e2
      exact congrArg some (by omega)
  · rw [if_neg h1]
    by_cases h2 : x = v
    · rw [if_pos h2]
      constructor
      · intro e
        have e : u = c := Option.some.inj e
        subst e; subst h2
        rw [Nat.min_eq_right (by omega), Nat.max_eq_left (by omega)]
      · intro e
        have e1 := congrArg Prod.fst e
        have e2 := congrArg Prod.snd e
        simp only at e1 e2
        exact congrArg some (by omega)
    · rw [if_neg h2]
      constructor
      · intro e; cases e
      · intro e
        have e1 := congrArg Prod.fst e
        have e2 := congrArg Prod.snd e
        simp only at e1 e2
        omega
theorem mem_nb {n : Nat} {ts : Ties} (F : Forest n ts) {x c : Nat} : c ∈ nb ts x ↔ Adj ts x c := by
  unfold nb Adj
  rw [List.mem_filterMap]
  constructor
  · rintro ⟨t, ht, e⟩
    rw [(there_some (F.lt t ht).1).mp e] at ht
    exact ht
  · intro h
    exact ⟨_, h, (there_some (F.lt _ h).1).mpr rfl⟩
theorem nb_nodup {n : Nat} {ts : Ties} (F : Forest n ts) (x : Nat) : (nb ts x).Nodup := by
  unfold nb
  refine List.pairwise_filterMap.mpr (List.Pairwise.imp_of_mem (fun {t u} ht hu h c e c' e' q => ?_) F.nd)
  subst q
  exact h (((there_some (F.lt t ht).1).mp e).trans ((there_some (F.lt u hu).1).mp e').symm)
theorem nb_le (ts : Ties) (x : Nat) : (nb ts x).length ≤ ts.length := List.length_filterMap_le _ _

/-! all rows of points -/
def lastN (r : List Nat) : Nat := r.getLastD 0
theorem lastN_of {r : List Nat} {b : Nat} (h : r.getLast? = some b) : lastN r = b := by
  unfold lastN; rw [List.getLastD_eq_getLast?, h]; rfl
theorem last_of_ne {r : List Nat} (h : r ≠ []) : r.getLast? = some (lastN r) := by
  unfold lastN; rw [List.getLastD_eq_getLast?, List.getLast?_eq_some_getLast h]; rfl
def ext1 (row : List Nat) (t : Nat × Nat) : List (List Nat) := match there (lastN row) t with
  | some c => if c ∈ row then [] else [row ++ [c]]
  | none => []
def ext (row : List Nat) (ts : Ties) : List (List Nat) := ts.flatMap (ext1 row)
theorem ext_nil (row : List Nat) : ext row [] = [] := rfl
theorem ext_snoc (row : List Nat) (ts : Ties) (t : Nat × Nat) : ext row (ts ++ [t]) = ext row ts ++ ext1 row t := by
  unfold ext; rw [List.flatMap_append]; simp
theorem ext_eq (row : List Nat) : ∀ ts : Ties, ext row ts = ((nb ts (lastN row)).filter fun c => !decide (c ∈ row)).map fun c => row ++ [c]
  | [] => rfl
  | t :: ts => by
    have ih := ext_eq row ts
    show ext1 row t ++ ext row ts = ((List.filterMap (there (lastN row)) (t :: ts)).filter _).map _
    rw [ih, List.filterMap_cons]
    unfold ext1
    cases e : there (lastN row) t with
    | none => rfl
    | some c =>
      simp only
      by_cases m : c ∈ row
      · rw [if_pos m, List.filter_cons, if_neg (by simp [m])]; rfl
      · rw [if_neg m, List.filter_cons, if_pos (by simp [m])]; rfl

structure Rows (ts : Ties) (a : Nat) (rows : List (List Nat)) (at_ : Nat) : Prop where
  le : at_ ≤ rows.length
  path : ∀ r ∈ rows, Path ts a (lastN r) r
  nd : rows.Nodup
  first : [a] ∈ rows
  done : ∀ (i : Nat) (r : List Nat), i < at_ → rows[i]? = some r → ∀ c, Adj ts (lastN r) c → c ∉ r → (r ++ [c]) ∈ rows
  come : ∀ r ∈ rows, r = [a] ∨ ∃ (i : Nat) (q : List Nat) (c : Nat), i < at_ ∧ rows[i]? = some q ∧ r = q ++ [c]

theorem Rows.start (ts : Ties) (a : Nat) : Rows ts a [[a]] 0 :=
  ⟨Nat.zero_le _, fun r hr => by simp at hr; subst hr; exact .one a, by simp, by simp, fun i r h => absurd h (Nat.not_lt_zero _), fun r hr => .inl (by simpa using hr)⟩
theorem Rows.turn {n : Nat} {ts : Ties} (F : Forest n ts) {a : Nat} {rows : List (List Nat)} {at_ : Nat} {row : List Nat} (R : Rows ts a rows at_) (h : rows[at_]? = some row) : Rows ts a (rows ++ ext row ts) (at_ + 1) := by
  have hrow : row ∈ rows := List.mem_of_getElem? h
  have hp := R.path row hrow
  have hlt : at_ < rows.length := (List.getElem?_eq_some_iff.mp h).1
  have mem_ext : ∀ r, r ∈ ext row ts ↔ ∃ c, Adj ts (lastN row) c ∧ c ∉ row ∧ r = row ++ [c] := fun r => by
    rw [ext_eq, List.mem_map]
    constructor
    · rintro ⟨c, hc, rfl⟩
      obtain ⟨h1, h2⟩ := List.mem_filter.mp hc
      exact ⟨c, (mem_nb F).mp h1, by simpa using h2, rfl⟩
    · rintro ⟨c, h1, h2, rfl⟩
      exact ⟨c, List.mem_filter.mpr ⟨(mem_nb F).mpr h1, by simpa using h2⟩, rfl⟩
  have old : ∀ (i : Nat) (q : List Nat), rows[i]? = some q → (rows ++ ext row ts)[i]? = some q := fun i q e => by
    rw [List.getElem?_append_left (List.getElem?_eq_some_iff.mp e).1]; exact e
  refine ⟨?_, fun r hr => ?_, ?_, List.mem_append_left _ R.first, fun i r hi hr c hc hn => ?_, fun r hr => ?_⟩
  · rw [List.length_append]; omega
  · rcases List.mem_append.mp hr with q | q
    · exact R.path r q
    · obtain ⟨c, h1, h2, rfl⟩ := (mem_ext r).mp q
      have := hp.snoc h1 h2
      rw [lastN_of this.last]
      exact this
  · refine List.nodup_append.mpr ⟨R.nd, ?_, fun r hr q hq e => ?_⟩
    · rw [ext_eq]
      refine List.pairwise_map.mpr (List.Pairwise.imp (fun {c d} h e => h ?_) ((nb_nodup F (lastN row)).sublist List.filter_sublist))
      have := List.append_cancel_left e
      simpa using this
    · subst e
      obtain ⟨c, h1, h2, rfl⟩ := (mem_ext r).mp hq
      rcases R.come _ hr with z | ⟨i, q, d, hi, hq, z⟩
      · have hl := congrArg List.length z
        have : row ≠ [] := hp.ne_nil
        have : 0 < row.length := List.length_pos_iff.mpr this
        rw [List.length_append] at hl
        simp only [List.length_cons, List.length_nil] at hl
        omega
      · have e1 : row = q := by
          have := congrArg List.dropLast z
          simpa using this
        subst e1
        have := (List.getElem?_inj (List.getElem?_eq_some_iff.mp hq).1 R.nd).mp (hq.trans h.symm)
        omega
  · by_cases e : i = at_
    · subst e
      have e1 : r = row := Option.some.inj (hr.symm.trans (old _ _ h))
      subst e1
      exact List.mem_append_right _ ((mem_ext _).mpr ⟨c, hc, hn, rfl⟩)
    · have hi' : i < at_ := by omega
      have e1 : rows[i]? = some r := by
        rw [List.getElem?_append_left (by omega)] at hr; exact hr
      exact List.mem_append_left _ (R.done i r hi' e1 c hc hn)
  · rcases List.mem_append.mp hr with q | q
    · rcases R.come r q with z | ⟨i, q, d, hi, hq, z⟩
      · exact .inl z
      · exact .inr ⟨i, q, d, by omega, old _ _ hq, z⟩
    · obtain ⟨c, h1, h2, rfl⟩ := (mem_ext r).mp q
      exact .inr ⟨at_, row, c, Nat.lt_succ_self _, old _ _ h, rfl⟩
theorem Rows.lasts {n : Nat} {ts : Ties} (F : Forest n ts) {a : Nat} {rows : List (List Nat)} {at_ : Nat} (R : Rows ts a rows at_) : (rows.map lastN).Nodup := by
  refine List.pairwise_map.mpr (List.Pairwise.imp_of_mem (fun {r q} hr hq h e => ?_) R.nd)
  have h1 := R.path r hr
  have h2 := R.path q hq
  rw [e] at h1
  exact h (h1.unique F h2)
theorem Rows.small {n : Nat} {ts : Ties} (F : Forest n ts) {a : Nat} (ha : a < n) {rows : List (List Nat)} {at_ : Nat} (R : Rows ts a rows at_) : rows.length ≤ n := by
  have := len_le (R.lasts F) (n := n) fun x hx => by
    obtain ⟨r, hr, rfl⟩ := List.mem_map.mp hx
    exact (R.path r hr).reach.lt F ha
  rwa [List.length_map] at this
theorem Rows.all {ts : Ties} {a : Nat} {rows : List (List Nat)} (R : Rows ts a rows rows.length) : ∀ (k : Nat) (b : Nat) (p : List Nat), p.length = k → Path ts a b p → p ∈ rows
  | 0, b, p, hk, h => absurd (List.length_eq_zero_iff.mp hk) h.ne_nil
  | k + 1, b, p, hk, h => by
    rcases List.eq_nil_or_concat p with e | ⟨q, c, e⟩
    · exact absurd e h.ne_nil
    · rw [List.concat_eq_append] at e
      subst e
      have ec : c = b := by
        have := h.last
        simpa using this
      subst ec
      have hd := h.head
      cases q with
      | nil =>
        simp at hd; subst hd
        exact R.first
      | cons x q =>
        simp at hd; subst hd
        obtain ⟨w1, w2⟩ := h.walk.of_snoc
        have hnd := List.nodup_append.mp h.nd
        have hq : Path ts x (lastN (x :: q)) (x :: q) := ⟨rfl, last_of_ne (by simp), w1, hnd.1⟩
        have hin := Rows.all R k _ (x :: q) (by simpa using hk) hq
        obtain ⟨i, hi, e⟩ := List.mem_iff_getElem.mp hin
        refine R.done i (x :: q) hi (by rw [List.getElem?_eq_getElem hi, e]) c (w2 _ hq.last) fun m => ?_
        exact hnd.2.2 c m c (by simp) rfl
/-- the rows that end at b -/
theorem ways_one {n : Nat} {ts : Ties} (F : Forest n ts) {a b : Nat} {rows : List (List Nat)} (R : Rows ts a rows rows.length) {p : List Nat} (hp : Path ts a b p) :
    rows.filter (fun r => decide (lastN r = b)) = [p] := by
  have hm : p ∈ rows.filter (fun r => decide (lastN r = b)) := List.mem_filter.mpr ⟨R.all _ b p rfl hp, decide_eq_true (lastN_of hp.last)⟩
  have hu : ∀ q ∈ rows.filter (fun r => decide (lastN r = b)), q = p := fun q hq => by
    obtain ⟨h1, h2⟩ := List.mem_filter.mp hq
    have h3 := R.path q h1
    rw [of_decide_eq_true h2] at h3
    exact h3.unique F hp
  have nd : (rows.filter (fun r => decide (lastN r = b))).Nodup := R.nd.sublist List.filter_sublist
  generalize rows.filter (fun r => decide (lastN r = b)) = l at *
  match l, hm, hu, nd with
  | [x], hm, hu, _ => rw [hu x (by simp)]
  | x :: y :: r, hm, hu, nd =>
    have e1 := hu x (by simp)
    have e2 := hu y (by simp)
    exact absurd (by rw [e1, e2]; simp) (List.nodup_cons.mp nd).1
theorem ways_nil {ts : Ties} {a b : Nat} {rows : List (List Nat)} {at_ : Nat} (R : Rows ts a rows at_) (hr : ¬ Reach ts a b) :
    rows.filter (fun r => decide (lastN r = b)) = [] :=
  List.filter_eq_nil_iff.mpr fun r h e => hr (by
    have := R.path r h
    rw [of_decide_eq_true e] at this
    exact this.reach)

/-! the search -/
abbrev Kvs := List (Nat × Option Nat)
def keys (l : Kvs) : List Nat := l.map (·.1)
inductive Came (ts : Ties) (b : Nat) : Kvs → Prop
  | start : Came ts b [(b, none)]
  | add {l : Kvs} {x y : Nat} : Came ts b l → y ∈ keys l → x ∉ keys l → Adj ts y x → Came ts b (l ++ [(x, some y)])
theorem keys_snoc (l : Kvs) (x : Nat) (o : Option Nat) : keys (l ++ [(x, o)]) = keys l ++ [x] := by unfold keys; rw [List.map_append]; rfl
theorem Came.nd {ts : Ties} {b : Nat} {l : Kvs} (h : Came ts b l) : (keys l).Nodup := by
  induction h with
  | start => simp [keys]
  | add h hy hx e ih =>
    rw [keys_snoc]
    exact List.nodup_append.mpr ⟨ih, by simp, fun u hu v hv q => by simp at hv; subst hv; subst q; exact hx hu⟩
theorem Came.reach {ts : Ties} {b : Nat} {l : Kvs} (h : Came ts b l) : ∀ x ∈ keys l, Reach ts b x := by
  induction h with
  | start => intro x hx; simp [keys] at hx; subst hx; exact .refl
  | add h hy hx e ih =>
    intro z hz
    rw [keys_snoc] at hz
    rcases List.mem_append.mp hz with q | q
    · exact ih z q
    · simp at q; subst q; exact (ih _ hy).step e
theorem Came.root {ts : Ties} {b : Nat} {l : Kvs} (h : Came ts b l) : b ∈ keys l := by
  induction h with
  | start => simp [keys]
  | add h hy hx e ih => rw [keys_snoc]; exact List.mem_append_left _ ih
theorem Came.small {n : Nat} {ts : Ties} (F : Forest n ts) {b : Nat} (hb : b < n) {l : Kvs} (h : Came ts b l) : l.length ≤ n := by
  have := len_le h.nd fun x hx => (h.reach x hx).lt F hb
  unfold keys at this
  rwa [List.length_map] at this
/-- gone along to the root -/
def Along (l : Kvs) (p : List Nat) : Prop := ∀ (i : Nat) (x y : Nat), p[i]? = some x → p[i + 1]? = some y → (x, some y) ∈ l
theorem Came.along {ts : Ties} {b : Nat} {l : Kvs} (h : Came ts b l) : ∀ x ∈ keys l, ∃ p, Path ts x b p ∧ Along l p ∧ ∀ z ∈ p, z ∈ keys l := by
  induction h with
  | start =>
    intro x hx
    simp [keys] at hx; subst hx
    exact ⟨[x], .one x, fun i x y _ e => by simp at e, fun z hz => by simpa [keys] using hz⟩
  | @add l x y h hy hx e ih =>
    intro z hz
    rw [keys_snoc] at hz
    by_cases q : z ∈ keys l
    · obtain ⟨p, h1, h2, h3⟩ := ih z q
      exact ⟨p, h1, fun i u v e e' => List.mem_append_left _ (h2 i u v e e'), fun u hu => by rw [keys_snoc]; exact List.mem_append_left _ (h3 u hu)⟩
    · have ez : z = x := by
        rcases List.mem_append.mp hz with w | w
        · exact absurd w q
        · simpa using w
      subst ez
      obtain ⟨p, h1, h2, h3⟩ := ih y hy
      refine ⟨z :: p, h1.cons e.symm fun m => hx (h3 z m), fun i u v e e' => ?_, fun u hu => ?_⟩
      · cases i with
        | zero =>
          simp at e; subst e
          have hd := h1.head
          cases p with
          | nil => simp at hd
          | cons w p =>
            simp at hd e'; subst hd; subst e'
            exact List.mem_append_right _ (by simp)
        | succ i => exact List.mem_append_left _ (h2 i u v (by simpa using e) (by simpa using e'))
      · rw [keys_snoc]
        rcases List.mem_cons.mp hu with w | w
        · subst w; simp
        · exact List.mem_append_left _ (h3 u w)
theorem Came.val {ts : Ties} {b : Nat} {l : Kvs} (h : Came ts b l) {x : Nat} {o o' : Option Nat} (h1 : (x, o) ∈ l) (h2 : (x, o') ∈ l) : o = o' := by
  have nd := h.nd
  unfold keys at nd
  obtain ⟨i, hi, ei⟩ := List.mem_iff_getElem.mp h1
  obtain ⟨j, hj, ej⟩ := List.mem_iff_getElem.mp h2
  have a1 : (l.map (·.1))[i]? = some x := by rw [List.getElem?_map, List.getElem?_eq_getElem hi, ei]; rfl
  have a2 : (l.map (·.1))[j]? = some x := by rw [List.getElem?_map, List.getElem?_eq_getElem hj, ej]; rfl
  have e := (List.getElem?_inj (by simpa using hi) nd).mp (a1.trans a2.symm)
  subst e
  have := ei.symm.trans ej
  exact congrArg Prod.snd this

structure Seek (ts : Ties) (a : Nat) (l : Kvs) (wt : List Nat) : Prop where
  came : Came ts a l
  sub : ∀ x ∈ wt, x ∈ keys l
  shut : ∀ x ∈ keys l, x ∈ wt ∨ ∀ y, Adj ts x y → y ∈ keys l
theorem Seek.start (ts : Ties) (a : Nat) : Seek ts a [(a, none)] [a] :=
  ⟨.start, fun x hx => by simpa [keys] using hx, fun x hx => .inl (by simpa [keys] using hx)⟩
/-- within a turn: here is looked at, some of its neighbours are through -/
structure Seek2 (ts : Ties) (a here : Nat) (don : List Nat) (l : Kvs) (wt : List Nat) : Prop where
  came : Came ts a l
  sub : ∀ x ∈ wt, x ∈ keys l
  shut : ∀ x ∈ keys l, x ∈ wt ∨ x = here ∨ ∀ y, Adj ts x y → y ∈ keys l
  here : here ∈ keys l
  don : ∀ y ∈ don, y ∈ keys l
theorem Seek.open_ {ts : Ties} {a : Nat} {l : Kvs} {wt : List Nat} (S : Seek ts a l wt) {here : Nat} (h : wt.getLast? = some here) : Seek2 ts a here [] l wt.dropLast := by
  have hin : here ∈ wt := List.mem_of_getLast? h
  refine ⟨S.came, fun x hx => S.sub x ((List.dropLast_sublist _).subset hx), fun x hx => ?_, S.sub _ hin, fun y hy => by simp at hy⟩
  rcases S.shut x hx with q | q
  · have e : wt = wt.dropLast ++ [here] := by
      have hne : wt ≠ [] := fun z => by subst z; simp at h
      rw [List.getLast?_eq_some_getLast hne] at h
      rw [← Option.some.inj h, List.dropLast_concat_getLast]
    rw [e] at q
    rcases List.mem_append.mp q with z | z
    · exact .inl z
    · exact .inr (.inl (by simpa using z))
  · exact .inr (.inr q)
theorem Seek2.old {ts : Ties} {a here : Nat} {don : List Nat} {l : Kvs} {wt : List Nat} (S : Seek2 ts a here don l wt) {c : Nat} (h : c ∈ keys l) : Seek2 ts a here (don ++ [c]) l wt :=
  ⟨S.came, S.sub, S.shut, S.here, fun y hy => by
    rcases List.mem_append.mp hy with q | q
    · exact S.don y q
    · simp at q; subst q; exact h⟩
theorem Seek2.new {ts : Ties} {a here : Nat} {don : List Nat} {l : Kvs} {wt : List Nat} (S : Seek2 ts a here don l wt) {c : Nat} (h : c ∉ keys l) (e : Adj ts here c) : Seek2 ts a here (don ++ [c]) (l ++ [(c, some here)]) (wt ++ [c]) := by
  have up : ∀ x, x ∈ keys l → x ∈ keys (l ++ [(c, some here)]) := fun x hx => by rw [keys_snoc]; exact List.mem_append_left _ hx
  have cin : c ∈ keys (l ++ [(c, some here)]) := by rw [keys_snoc]; simp
  refine ⟨.add S.came S.here h e, fun x hx => ?_, fun x hx => ?_, up _ S.here, fun y hy => ?_⟩
  · rcases List.mem_append.mp hx with q | q
    · exact up _ (S.sub x q)
    · simp at q; subst q; exact cin
  · rw [keys_snoc] at hx
    rcases List.mem_append.mp hx with q | q
    · rcases S.shut x q with z | z | z
      · exact .inl (List.mem_append_left _ z)
      · exact .inr (.inl z)
      · exact .inr (.inr fun y hy => up _ (z y hy))
    · simp at q; subst q; exact .inl (by simp)
  · rcases List.mem_append.mp hy with q | q
    · exact up _ (S.don y q)
    · simp at q; subst q; exact cin
theorem Seek2.close {n : Nat} {ts : Ties} (F : Forest n ts) {a here : Nat} {l : Kvs} {wt : List Nat} (S : Seek2 ts a here (nb ts here) l wt) : Seek ts a l wt := by
  refine ⟨S.came, S.sub, fun x hx => ?_⟩
  rcases S.shut x hx with q | q | q
  · exact .inl q
  · subst q; exact .inr fun y hy => S.don y ((mem_nb F).mpr hy)
  · exact .inr q
theorem Seek.end_ {ts : Ties} {a : Nat} {l : Kvs} (S : Seek ts a l []) (x : Nat) : x ∈ keys l ↔ Reach ts a x := by
  refine ⟨S.came.reach x, fun h => ?_⟩
  refine reach_closed (S := fun z => z ∈ keys l) S.came.root (fun u v hu e => ?_) h
  rcases S.shut u hu with q | q
  · simp at q
  · exact q v e

/-! the part, by going through the ties again and again -/
def addN (ks : List Nat) (x : Nat) : List Nat := if x ∈ ks then ks else ks ++ [x]
def growT (ks : List Nat) (t : Nat × Nat) : List Nat := if t.1 ∈ ks ∨ t.2 ∈ ks then addN (addN ks t.1) t.2 else ks
theorem addN_pre (ks : List Nat) (x : Nat) : ks <+: addN ks x := by
  unfold addN
  split
  · exact List.prefix_refl _
  · exact List.prefix_append _ _
theorem addN_mem {ks : List Nat} {x y : Nat} : y ∈ addN ks x ↔ y ∈ ks ∨ y = x := by
  unfold addN
  split
  · rename_i h
    exact ⟨.inl, fun q => q.elim id fun e => e ▸ h⟩
  · simp
theorem addN_nd {ks : List Nat} {x : Nat} (h : ks.Nodup) : (addN ks x).Nodup := by
  unfold addN
  split
  · exact h
  · rename_i hn
    exact List.nodup_append.mpr ⟨h, by simp, fun u hu v hv q => by simp at hv; subst hv; subst q; exact hn hu⟩
theorem growT_pre (ks : List Nat) (t : Nat × Nat) : ks <+: growT ks t := by
  unfold growT
  split
  · exact (addN_pre ks t.1).trans (addN_pre _ t.2)
  · exact List.prefix_refl _
theorem grow_pre : ∀ (ts : Ties) (ks : List Nat), ks <+: ts.foldl growT ks
  | [], _ => List.prefix_refl _
  | t :: ts, ks => (growT_pre ks t).trans (grow_pre ts _)
theorem grow_both : ∀ (ts : Ties) (ks : List Nat) (t : Nat × Nat), t ∈ ts → (t.1 ∈ ks ∨ t.2 ∈ ks) → t.1 ∈ ts.foldl growT ks ∧ t.2 ∈ ts.foldl growT ks
  | [], _, _, h, _ => by simp at h
  | u :: ts, ks, t, h, q => by
    rcases List.mem_cons.mp h with e | e
    · subst e
      have p := grow_pre ts (growT ks t)
      have m1 : t.1 ∈ growT ks t ∧ t.2 ∈ growT ks t := by
        unfold growT
        rw [if_pos q]
        exact ⟨addN_mem.mpr (.inl (addN_mem.mpr (.inr rfl))), addN_mem.mpr (.inr rfl)⟩
      exact ⟨p.subset m1.1, p.subset m1.2⟩
    · refine grow_both ts (growT ks u) t e ?_
      exact q.imp (fun z => (growT_pre ks u).subset z) (fun z => (growT_pre ks u).subset z)
structure PartI (ts : Ties) (a : Nat) (ks : List Nat) : Prop where
  nd : ks.Nodup
  root : a ∈ ks
  reach : ∀ x ∈ ks, Reach ts a x
theorem PartI.growT {n : Nat} {ts : Ties} (F : Forest n ts) {a : Nat} {ks : List Nat} (P : PartI ts a ks) {t : Nat × Nat} (ht : t ∈ ts) : PartI ts a (growT ks t) := by
  unfold FM.growT
  split
  · rename_i h
    have e : Adj ts t.1 t.2 := adj_of_tie F (u := t.1) (v := t.2) ht
    refine ⟨addN_nd (addN_nd P.nd), addN_mem.mpr (.inl (addN_mem.mpr (.inl P.root))), fun x hx => ?_⟩
    have r1 : Reach ts a t.1 := h.elim (P.reach _) fun q => (P.reach _ q).step e.symm
    rcases addN_mem.mp hx with q | q
    · rcases addN_mem.mp q with q | q
      · exact P.reach x q
      · subst q; exact r1
    · subst q; exact r1.step e
  · exact P
theorem PartI.small {n : Nat} {ts : Ties} (F : Forest n ts) {a : Nat} (ha : a < n) {ks : List Nat} (P : PartI ts a ks) : ks.length ≤ n := len_le P.nd fun x hx => (P.reach x hx).lt F ha
theorem PartI.end_ {ts : Ties} {a : Nat} {ks : List Nat} (P : PartI ts a ks) (h : (ts.foldl FM.growT ks).length ≤ ks.length) (x : Nat) : x ∈ ks ↔ Reach ts a x := by
  have e : ks = ts.foldl FM.growT ks := (grow_pre ts ks).eq_of_length_le h
  refine ⟨P.reach x, fun r => reach_closed (S := fun z => z ∈ ks) P.root (fun u v hu ad => ?_) r⟩
  rcases tie_of_adj ad with q | q
  · rw [e]; exact (grow_both ts ks _ q (.inl hu)).2
  · rw [e]; exact (grow_both ts ks _ q (.inr hu)).1

/-! the forest that is drawn -/
def nm (names : List Nat) (p : Nat × Nat) : Nat × Nat := (min (names.getD p.1 0) (names.getD p.2 0), max (names.getD p.1 0) (names.getD p.2 0))
structure Drawn (k : Nat) (l : List (Nat × Nat)) : Prop where
  up : l.Pairwise fun p q => p.2 < q.2
  lt : ∀ p ∈ l, p.1 < p.2 ∧ p.2 < k
theorem Drawn.start (k : Nat) : Drawn k [] := ⟨.nil, fun p h => by simp at h⟩
theorem Drawn.mono {k m : Nat} {l : List (Nat × Nat)} (D : Drawn k l) (h : k ≤ m) : Drawn m l := ⟨D.up, fun p hp => by have := D.lt p hp; omega⟩
theorem Drawn.add {k f : Nat} {l : List (Nat × Nat)} (D : Drawn k l) (h : f < k) : Drawn (k + 1) (l ++ [(f, k)]) := by
  refine ⟨List.pairwise_append.mpr ⟨D.up, by simp, fun p hp q hq => ?_⟩, fun p hp => ?_⟩
  · simp at hq; subst hq; exact (D.lt p hp).2
  · rcases List.mem_append.mp hp with q | q
    · have := D.lt p q; omega
    · simp at q; subst q; exact ⟨h, Nat.lt_succ_self _⟩
theorem forest_drawn {n : Nat} {names : List Nat} (hp : names.Perm (List.range n)) {l : List (Nat × Nat)} (D : Drawn n l) {ts : Ties} (ht : ts.Perm (l.map (nm names))) : Forest n ts := by
  have hlen : names.length = n := by rw [hp.length_eq]; simp
  have hnd : names.Nodup := hp.nodup_iff.mpr List.nodup_range
  have gt : ∀ i, i < n → names[i]? = some (names.getD i 0) := fun i hi => by
    rw [List.getD_eq_getElem?_getD, List.getElem?_eq_getElem (by omega)]; rfl
  have glt : ∀ i, i < n → names.getD i 0 < n := fun i hi => by
    have := hp.mem_iff.mp (List.mem_of_getElem? (gt i hi))
    simpa using this
  have inj : ∀ i j, i < n → j < n → names.getD i 0 = names.getD j 0 → i = j := fun i j hi hj e => by
    have h1 := gt i hi
    rw [e, ← gt j hj] at h1
    exact (List.getElem?_inj (by omega) hnd).mp h1
  have pos_at : ∀ i, i < n → names.idxOf (names.getD i 0) = i := fun i hi => by
    have hm : names.getD i 0 ∈ names := List.mem_of_getElem? (gt i hi)
    have h1 := List.idxOf_lt_length_of_mem hm
    have h2 : names[names.idxOf (names.getD i 0)]? = some (names.getD i 0) := by
      rw [List.getElem?_eq_getElem h1]; exact congrArg some (List.getElem_idxOf _)
    rw [← gt i hi] at h2
    exact (List.getElem?_inj h1 hnd).mp h2
  have mem_ts : ∀ t, t ∈ ts ↔ ∃ p ∈ l, nm names p = t := fun t => by rw [ht.mem_iff, List.mem_map]
  have adj_iff : ∀ x y, Adj ts x y → ∃ p ∈ l, (x = names.getD p.1 0 ∧ y = names.getD p.2 0) ∨ (x = names.getD p.2 0 ∧ y = names.getD p.1 0) := fun x y h => by
    obtain ⟨p, hp, e⟩ := (mem_ts _).mp h
    unfold nm at e
    have e1 := congrArg Prod.fst e
    have e2 := congrArg Prod.snd e
    simp only at e1 e2
    refine ⟨p, hp, ?_⟩
    omega
  refine ⟨fun t h => ?_, ?_, names.idxOf, fun x y h => ?_, fun x y z h1 h2 h3 h4 => ?_⟩
  · obtain ⟨p, hp, rfl⟩ := (mem_ts t).mp h
    have hl := D.lt p hp
    have h1 := glt p.1 (by omega)
    have h2 := glt p.2 hl.2
    have h3 : names.getD p.1 0 ≠ names.getD p.2 0 := fun e => by
      have := inj p.1 p.2 (by omega) hl.2 e
      omega
    unfold nm
    simp only
    omega
  · refine ht.nodup_iff.mpr (List.pairwise_map.mpr (List.Pairwise.imp_of_mem (fun {p q} hp hq h e => ?_) D.up))
    have h1 := D.lt p hp
    have h2 := D.lt q hq
    unfold nm at e
    have e1 := congrArg Prod.fst e
    have e2 := congrArg Prod.snd e
    simp only at e1 e2
    have : names.getD p.2 0 = names.getD q.2 0 ∨ (names.getD p.2 0 = names.getD q.1 0 ∧ names.getD p.1 0 = names.getD q.2 0) := by omega
    rcases this with z | ⟨z1, z2⟩
    · have := inj p.2 q.2 h1.2 h2.2 z; omega
    · have a1 := inj p.2 q.1 h1.2 (by omega) z1
      have a2 := inj p.1 q.2 (by omega) h2.2 z2
      omega
  · obtain ⟨p, hp, q⟩ := adj_iff x y h
    have hl := D.lt p hp
    have a1 := pos_at p.1 (by omega)
    have a2 := pos_at p.2 hl.2
    show names.idxOf x ≠ names.idxOf y
    rcases q with ⟨rfl, rfl⟩ | ⟨rfl, rfl⟩ <;> omega
  · have h3 : names.idxOf y < names.idxOf x := h3
    have h4 : names.idxOf z < names.idxOf x := h4
    obtain ⟨p, hp, q⟩ := adj_iff x y h1
    obtain ⟨p', hp', q'⟩ := adj_iff x z h2
    have hl := D.lt p hp
    have hl' := D.lt p' hp'
    have a1 := pos_at p.1 (by omega)
    have a2 := pos_at p.2 hl.2
    have b1 := pos_at p'.1 (by omega)
    have b2 := pos_at p'.2 hl'.2
    have x1 : x = names.getD p.2 0 ∧ y = names.getD p.1 0 := by
      rcases q with ⟨rfl, rfl⟩ | q
      · omega
      · exact q
    have x2 : x = names.getD p'.2 0 ∧ z = names.getD p'.1 0 := by
      rcases q' with ⟨rfl, rfl⟩ | q
      · omega
      · exact q
    have e2 : p.2 = p'.2 := inj p.2 p'.2 hl.2 hl'.2 (x1.1.symm.trans x2.1)
    have ep : p = p' := by
      obtain ⟨i, hi, ei⟩ := List.mem_iff_getElem.mp hp
      obtain ⟨j, hj, ej⟩ := List.mem_iff_getElem.mp hp'
      have up := List.pairwise_iff_getElem.mp D.up
      rcases Nat.lt_trichotomy i j with z | z | z
      · have := up i j hi hj z
        rw [ei, ej] at this; omega
      · subst z; exact ei.symm.trans ej
      · have := up j i hj hi z
        rw [ei, ej] at this; omega
    subst ep
    exact x1.2.trans x2.2.symm
/-- a new name put in -/
theorem names_ins {names : List Nat} {k i : Nat} (h : names.Perm (List.range k)) : (names.take i ++ [k] ++ names.drop i).Perm (List.range (k + 1)) := by
  rw [List.range_succ]
  refine List.Perm.trans ?_ (h.append_right [k])
  have e : names = names.take i ++ names.drop i := (List.take_append_drop i names).symm
  conv => rhs; rw [e]
  rw [List.append_assoc, List.append_assoc]
  exact List.Perm.append_left _ List.perm_append_comm
end FM
namespace FM
theorem nb_succ {ts : Ties} {i : Nat} {t : Nat × Nat} (h : ts[i]? = some t) (x : Nat) : nb (ts.take (i + 1)) x = nb (ts.take i) x ++ (there x t).toList := by
  unfold nb
  rw [List.take_add_one, h, List.filterMap_append]
  cases e : there x t <;> simp [e]
theorem nb_take_le (ts : Ties) (i x : Nat) : (nb (ts.take i) x).length ≤ ts.length := Nat.le_trans (nb_le _ _) (by rw [List.length_take]; exact Nat.min_le_right _ _)
theorem there_1 {t : Nat × Nat} : there t.1 t = some t.2 := if_pos rfl
theorem there_2 {t : Nat × Nat} (h : t.1 < t.2) : there t.2 t = some t.1 := by unfold there; rw [if_neg (by omega), if_pos rfl]
theorem there_0 {t : Nat × Nat} {x : Nat} (h1 : x ≠ t.1) (h2 : x ≠ t.2) : there x t = none := by unfold there; rw [if_neg h1, if_neg h2]
/-- a small forest -/
structure Small (n : Nat) (ts : Ties) : Prop where
  F : Forest n ts
  n0 : 0 < n
  n9 : n ≤ 9
  t9 : ts.length ≤ 9
theorem Small.drawn {n : Nat} {names : List Nat} (h0 : 0 < n) (h9 : n ≤ 9) (hp : names.Perm (List.range n)) {l : List (Nat × Nat)} (D : Drawn n l) {ts : Ties} (ht : ts.Perm (l.map (nm names))) : Small n ts := by
  refine ⟨forest_drawn hp D ht, h0, h9, ?_⟩
  rw [ht.length_eq, List.length_map]
  have := len_le (l := l.map (·.2)) (n := n) (List.pairwise_map.mpr (D.up.imp fun h => Nat.ne_of_lt h)) fun x hx => by
    obtain ⟨p, hp, rfl⟩ := List.mem_map.mp hx
    exact (D.lt p hp).2
  rw [List.length_map] at this
  omega
end FM
/-! W0: the text by places, rules that the layer lacks, heaps. -/
namespace FW
open PySem PySem.Spec PyProof.Rows L2

/-! ### the text -/
def topS (i : Nat) : Stmt := PySem.Challenge.pw_tiedcut_k08_whole_one_sort_of_papers.main.body.getD i (.Pass ⟨0, 0, 0, 0⟩)

/-! ### rules -/
section
variable {X : Cx}
/-- x in t, t a tuple of data -/
def rInTD (K : PySem.W.Frag) : R2 := fun x y H Q => ∃ d ds, Dp K H x d ∧ Dp K H y (.tuple ds) ∧ SeqAt.shaped d = true ∧ SeqAt.shaped (.tuple ds) = true ∧ Q (.bl (ds.any fun z => PyData.eqv z d)) H
theorem op_inTD (hu : X.A.units + 65 < cLine) : OpR X (compareOp .In) (rInTD X.K) := by
  intro pins s σ H x y v u Q I rx ry h
  obtain ⟨d, ds, hd, he, sd, se, q⟩ := h
  obtain ⟨as, r1⟩ := Dp.reads I d x v hd rx
  obtain ⟨bs, r2⟩ := Dp.reads I (.tuple ds) y u he ry
  exact SeqAt.in_tuple_reads r2 r1 (SeqAt.canLay_of_shaped se) (SeqAt.canLay_of_shaped sd) (room_in_shaped sd hu) ⟨.bl _, H, I, rfl, q⟩

/-- len(set(t)), t a tuple of ints, none twice -/
def tLenSetT (K : PySem.W.Frag) (ta : TE) : TE := fun σ H Q => ta σ H fun x H1 => ∃ (l : Addr) (ns : List Int), x = .ref l ∧ SqT K H1 l (ns.map V.int) ∧ ns.Nodup ∧ ns.length ≤ 4000 ∧ Q (.int (ns.length : Nat)) H1
theorem pe_lenSetT {a : Expr} {ta : TE} {p p2 q pos : Pos} (hg : Gl X "len") (hm : X.mg "len" = none) (hg2 : Gl X "set") (hm2 : X.mg "set" = none) (ha : PE X a ta) (hc : X.calm = true := by rfl)
    (na : starEach [a] X.env = (false, eval a X.env) :: starEach [] X.env := by rfl) : PE X (.Call (.Name "len" p) [.Call (.Name "set" p2) [a] [] q] [] pos) (tLenSetT X.K ta) := by
  refine ⟨fun pins s σ H Q I h => ?_⟩
  refine Call_ (ld_blt I hg hm boot_len ?_)
  refine PyProof.Rows.callWith_builtin1 (PyProof.Rows.args_cons ?_ rfl) rfl rfl
  refine Call_ (ld_blt I hg2 hm2 boot_set ?_)
  refine PyProof.Rows.callWith_type1 (PyProof.Rows.args_cons (thn (ha.run pins s σ H _ I h) fun v s1 ⟨x, H1, I1, r1, q1⟩ => PyProof.Rows.args_nil ?_) na) na rfl
  obtain ⟨l, ns, rfl, hq, hnd, hl, q1⟩ := q1
  cases r1
  obtain ⟨its, r, pl, hz⟩ := I1.tuple hq
  refine call_set_tupI ns (I1.ok.hd hc) (show s1.heap.IsTuple l its.toArray from pl) (by simpa using RZ.intsAre_vals r) (by unfold scanBound; omega) fun h' tk c hS hcl hk => ?_
  refine PyProof.Rows.args_nil ?_
  have ec : c = ns.length := by
    obtain ⟨o, es, ep, t, _, _, _, _, nd, hmem, _, _, hn, _⟩ := hS
    have pm : (es.toList.map keyOf).Perm ns := (List.perm_ext_iff_of_nodup nd hnd).mpr fun k => by
      rw [← hmem k]; exact decide_eq_true_iff
    have := pm.length_eq
    rw [List.length_map, Array.length_toList] at this
    omega
  subst ec
  obtain ⟨o, es, ep, t, ho, hex, hd, _, _, _, hf, hn⟩ := hS.setOf (P := X.prog)
  have I2 : Inv X pins σ H1 { s1 with heap := h', toks := tk } := I1.kept fun b o e => hk b o e
  exact call_len_set ho hex hd hf (by rw [hn]; unfold scanBound at *; omega) ⟨.int ns.length, H1, I2.tok _, ⟨_, by rw [hn]⟩, q1⟩
end
end FW
namespace FW
open PySem PySem.Spec PyProof.Rows L2
/-! ### dict(xs), the keys tuples -/
def mergeT (kvs more : List (List Key × V)) : List (List Key × V) := more.foldl (fun acc kv => putK acc kv.1 kv.2) kvs
theorem KT.merge {H : Hp} : ∀ {more : List (List Key × V)} {rs : List (List Key × Addr × Value)} {kvs : List (List Key × V)} {xs : List (List Key × Addr × Value)}, KT H more rs → KT H kvs xs → KT H (mergeT kvs more) (storedAllH xs rs) := by
  intro more rs kvs xs r
  induction r generalizing kvs xs with
  | nil => intro q; exact q
  | @cons p q ps qs h t ih =>
    intro r0
    obtain ⟨h1, h2, h3⟩ := h
    have e : KT H (putK kvs p.1 p.2) (storedH xs q.1 q.2.1 q.2.2) := by
      have := KT.put r0 p.1 h2 h3
      rw [← h1]; exact this
    exact ih e
theorem length_mergeT : ∀ (more kvs : List (List Key × V)), (mergeT kvs more).length ≤ kvs.length + more.length
  | [], kvs => by show kvs.length ≤ kvs.length + 0; omega
  | p :: r, kvs => by
    have h1 := length_mergeT r (putK kvs p.1 p.2)
    have h2 := length_putK kvs p.1 p.2
    show (mergeT (putK kvs p.1 p.2) r).length ≤ _
    rw [List.length_cons]; omega
section
variable {X : Cx}
theorem pairsT_of {pins : List (Addr × Obj)} {σ : L2.St} {H : Hp} {s : Shared} (I : Inv X pins σ H s) : ∀ {ps : List Addr} {kvs : List (List Key × V)}, Paired (fun p kv => ∃ kb, SqT X.K H p [V.ref kb, kv.2] ∧ H kb = some (.tup (kv.1.map kV))) ps kvs →
    ∃ prs : List (List Key × Addr × Value), KT H kvs prs ∧ prs.length = ps.length ∧ ∀ (j : Nat) (q : List Key × Addr × Value), prs[j]? = some q → ∃ b : Addr, ps[j]? = some b ∧ IsTup s.heap b #[.ref q.2.1, q.2.2]
  | _, _, .nil => ⟨[], .nil, rfl, fun j q e => by simp at e⟩
  | _, _, .cons (a := p) (b := kv) h t => by
    obtain ⟨prs, r, hl, hp⟩ := pairsT_of I t
    obtain ⟨kb, h1, h2⟩ := h
    obtain ⟨its, rv, ht, _⟩ := I.tuple h1
    obtain ⟨u, y, ei, ru, ry⟩ := vals2 rv
    subst ei
    cases (show u = Value.ref kb from ru)
    refine ⟨(kv.1, kb, y) :: prs, .cons ⟨rfl, h2, ry⟩ r, by rw [List.length_cons, List.length_cons, hl], fun j q e => ?_⟩
    cases j with
    | zero =>
      have e' : (kv.1, kb, y) = q := Option.some.inj e
      subst e'
      exact ⟨p, rfl, ht⟩
    | succ j =>
      obtain ⟨b, e1, e2⟩ := hp j q (by simpa using e)
      exact ⟨b, by simpa using e1, e2⟩
theorem KT.keyed {P : Program} {w : World} {H : Hp} {h : Heap} (ok : HOk P w H h) : ∀ {l : List (List Key × V)} {m : List (List Key × Addr × Value)}, KT H l m → ∀ x ∈ m, (tupleKind (mixKind P w)).is h x.1 x.2.1 := by
  intro l m q
  induction q with
  | nil => intro x hx; exact nomatch hx
  | @cons p q ps qs hq t ih =>
    intro x hx
    rcases List.mem_cons.mp hx with e | hx
    · subst e
      exact key_of ok (by rw [← hq.1]; exact hq.2.1)
    · exact ih x hx
theorem call_dictT (hcalm : X.calm = true) (hu : X.A.units + 64 < cLine) : CallR X (.type "dict") (fun xs H Q => ∃ (a : Addr) (ps : List Addr) (kvs : List (List Key × V)), xs = [.ref a] ∧ SqL X.K H a (ps.map V.ref) ∧
    Paired (fun p kv => ∃ kb, SqT X.K H p [V.ref kb, kv.2] ∧ H kb = some (.tup (kv.1.map kV))) ps kvs ∧ ∀ p, H p = none → Q (.ref p) (upd H p (.dT (mergeT [] kvs)))) := by
  intro pins s σ H xs us Q I r q
  obtain ⟨a, ps, kvs, ex, hq, hp, q⟩ := q
  subst ex
  obtain ⟨u, eu, rx⟩ := vals1 r
  subst eu
  cases rx
  obtain ⟨its, rv, pl, hz⟩ := I.list hq
  have ei := refs_at rv
  subst ei
  rw [List.length_map] at hz
  obtain ⟨prs, rel, hl, hpr⟩ := pairsT_of I hp
  obtain ⟨o, n, ho, hc, hd, hdat⟩ := pl
  have hu2 : (tupleKind (mixKind X.prog X.w)).room X.A.in1.in1 := tupleKind_room_in1 (A := X.A.in1) (by show X.A.units + 1 + 1 < cLine; omega)
  refine call_dict_pairsH (knd := tupleKind (mixKind X.prog X.w)) (ps := prs) (PairArg.list a (ps.map Value.ref).toArray (fun j => ps.getD j 0) (prs.map fun q => (Value.ref q.2.1, q.2.2))) (I.ok.hd hcalm) hu2
    ⟨⟨o, n, ho, hc, hd, hdat⟩, by simp [hl], fun j k v e => ?_⟩ ⟨by simp, fun i key v e => ?_⟩ (fun h' hk x hx => ?_) (by rw [List.length_map, hl]; exact hz) fun h' tk hd' k => ?_
  · rw [List.getElem?_map] at e
    obtain ⟨q, e1, e2⟩ := Option.map_eq_some_iff.mp e
    cases e2
    obtain ⟨b, b1, b2⟩ := hpr j q e1
    have eb : ps.getD j 0 = b := by rw [List.getD_eq_getElem?_getD, b1]; rfl
    show (List.map Value.ref ps).toArray[j]? = some (Value.ref (ps.getD j 0)) ∧ PairAt s.heap (ps.getD j 0) _ _
    rw [eb]
    exact ⟨by simp [b1], .inl b2⟩
  · have e : (prs.map fun q => (Value.ref q.2.1, q.2.2))[i]? = some (key, v) := e
    rw [List.getElem?_map] at e
    obtain ⟨q, e1, e2⟩ := Option.map_eq_some_iff.mp e
    cases e2
    exact ⟨q.1, q.2.1, e1, rfl⟩
  · exact KT.keyed (I.hok.kept fun b o e => hk b o (Nat.ne_of_lt (Heap.lt_size e)) (by simp) e) rel x hx
  · have hm : (s.heap.objs.size == sysModules) = false := beq_eq_false_iff_ne.mpr (Nat.ne_of_gt I.big)
    have hn := I.hok.fresh (Nat.le_refl s.heap.objs.size)
    have hlen : (mergeT [] kvs).length ≤ sizeLine := by
      refine Nat.le_trans (length_mergeT kvs []) ?_
      rw [List.length_nil, Nat.zero_add, Paired.length rel, hl]
      exact hz
    obtain ⟨q1, es, ep, hq1, h2, h3, h4, _, h5⟩ := hd'
    refine ⟨.ref s.heap.objs.size, upd H s.heap.objs.size (.dT (mergeT [] kvs)), I.laid (t' := tk) (fun b o e => k b o (by simp) e) (Nat.le_refl _) (show ObjOk X.prog X.w _ _ _ (.dT (mergeT [] kvs)) from ⟨hlen, hm, storedAllH [] prs, ?_, q1, es, ep, hq1, h2, h3, h4, h5⟩), rfl, q _ hn⟩
    exact (KT.merge rel .nil).keeps fun c ys ec => by rw [upd_ne (ne_of_none ec hn)]; exact ec
end
end FW
/-! W1: the data in the heap; is_whole, do_rise. -/
namespace FW
open PySem PySem.Spec PyProof.Rows L2 RZ

/-! ### the data -/
abbrev vn (i : Nat) : V := .int (i : Int)
abbrev vrow (r : List Nat) : List V := r.map vn
/-- tuples stay -/
def Tups (H H' : Hp) : Prop := ∀ b xs, H b = some (.tup xs) → H' b = some (.tup xs)
theorem Tups.of {H H' : Hp} (s : Same H H') : Tups H H' := fun b xs h => s b _ h
theorem Tups.trans {H H' H2 : Hp} (a : Tups H H') (b : Tups H' H2) : Tups H H2 := fun c xs h => b c xs (a c xs h)
/-- rows of points -/
abbrev RowsAt (H : Hp) : List Addr → List (List Nat) → Prop := Paired fun q r => H q = some (.tup (vrow r))
/-- ties -/
abbrev TiesAt (H : Hp) : List Addr → FM.Ties → Prop := Paired fun q t => H q = some (.tup [vn t.1, vn t.2])
/-- a forest -/
def ForAt (H : Hp) (fo : Addr) (n : Nat) (ts : FM.Ties) : Prop := ∃ (ps tt : Addr) (pv : List V) (tas : List Addr), H fo = some (.tup [.ref ps, .ref tt]) ∧ H ps = some (.tup pv) ∧ pv.length = n ∧ H tt = some (.tup (tas.map V.ref)) ∧ TiesAt H tas ts
theorem pair_imp {α β : Type} {F G : α → β → Prop} : ∀ {l : List α} {m : List β}, Paired F l m → (∀ a b, F a b → G a b) → Paired G l m
  | _, _, .nil, _ => .nil
  | _, _, .cons r t, f => .cons (f _ _ r) (pair_imp t f)
theorem RowsAt.keep {H H' : Hp} (t : Tups H H') {l : List Addr} {m : List (List Nat)} (h : RowsAt H l m) : RowsAt H' l m := pair_imp h fun _ _ q => t _ _ q
theorem TiesAt.keep {H H' : Hp} (t : Tups H H') {l : List Addr} {m : FM.Ties} (h : TiesAt H l m) : TiesAt H' l m := pair_imp h fun _ _ q => t _ _ q
theorem ForAt.keep {H H' : Hp} (t : Tups H H') {fo : Addr} {n : Nat} {ts : FM.Ties} (h : ForAt H fo n ts) : ForAt H' fo n ts := by
  obtain ⟨ps, tt, pv, tas, h1, h2, h3, h4, h5⟩ := h
  exact ⟨ps, tt, pv, tas, t _ _ h1, t _ _ h2, h3, t _ _ h4, TiesAt.keep t h5⟩
theorem ForAt.same {H H' : Hp} (t : Same H H') {fo : Addr} {n : Nat} {ts : FM.Ties} (h : ForAt H fo n ts) : ForAt H' fo n ts := h.keep (.of t)
theorem pair_get {α β : Type} {F : α → β → Prop} : ∀ {l : List α} {m : List β} {i : Nat} {a : α}, Paired F l m → l[i]? = some a → ∃ b, m[i]? = some b ∧ F a b
  | _, _, _, _, .nil, e => by simp at e
  | _, _, 0, _, .cons r _, e => by simp at e; subst e; exact ⟨_, rfl, r⟩
  | _, _, i + 1, a, .cons _ t, e => by
    obtain ⟨b, h1, h2⟩ := pair_get (i := i) (a := a) t (by simpa using e)
    exact ⟨b, by simpa using h1, h2⟩
theorem pair_get' {α β : Type} {F : α → β → Prop} : ∀ {l : List α} {m : List β} {i : Nat} {b : β}, Paired F l m → m[i]? = some b → ∃ a, l[i]? = some a ∧ F a b
  | _, _, _, _, .nil, e => by simp at e
  | _, _, 0, _, .cons r _, e => by simp at e; subst e; exact ⟨_, rfl, r⟩
  | _, _, i + 1, a, .cons _ t, e => by
    obtain ⟨b, h1, h2⟩ := pair_get' (i := i) (b := a) t (by simpa using e)
    exact ⟨b, by simpa using h1, h2⟩
theorem pair_snoc {α β : Type} {F : α → β → Prop} {l : List α} {m : List β} {a : α} {b : β} (h : Paired F l m) (r : F a b) : Paired F (l ++ [a]) (m ++ [b]) := Paired.snoc h r
theorem pair_append {α β : Type} {F : α → β → Prop} : ∀ {l : List α} {m : List β} {l' : List α} {m' : List β}, Paired F l m → Paired F l' m' → Paired F (l ++ l') (m ++ m')
  | _, _, _, _, .nil, h => h
  | _, _, _, _, .cons r t, h => .cons r (pair_append t h)
theorem vrow_get {r : List Nat} {i x : Nat} (h : r[i]? = some x) : (vrow r)[i]? = some (vn x) := by rw [List.getElem?_map, h]; rfl
theorem vrow_at {r : List Nat} {i : Nat} {x : V} (h : (vrow r)[i]? = some x) : ∃ u, r[i]? = some u ∧ x = vn u := by
  rw [List.getElem?_map] at h
  obtain ⟨a, h1, h2⟩ := Option.map_eq_some_iff.mp h
  exact ⟨a, h1, h2.symm⟩
theorem rep_snoc {α : Type} (i : Nat) (x : α) : List.replicate i x ++ [x] = List.replicate (i + 1) x := by
  rw [List.replicate_succ']
theorem vrow_ints (r : List Nat) : vrow r = (r.map fun (x : Nat) => (x : Int)).map V.int := by rw [List.map_map]; rfl
theorem refs_get {l : List Addr} {i : Nat} {x : V} (h : (l.map V.ref)[i]? = some x) : ∃ a, l[i]? = some a ∧ x = .ref a := by
  rw [List.getElem?_map] at h
  obtain ⟨a, h1, h2⟩ := Option.map_eq_some_iff.mp h
  exact ⟨a, h1, h2.symm⟩
theorem same_upd {H : Hp} {p : Addr} {o : HO} (h : H p = none) : Same H (upd H p o) := fun b x e => by
  rw [upd_ne (ne_of_none e h)]
  exact e
/-- what stood before stands, whatever is written at a new place -/
theorem same_put {H H' : Hp} {p : Addr} {o : HO} (s : Same H H') (h : H p = none) : Same H (upd H' p o) := fun b x e => by
  rw [upd_ne (ne_of_none e h)]
  exact s b x e
theorem vn_inj {i j : Nat} : (vn i = vn j) ↔ i = j := ⟨fun e => by have := V.int.inj e; omega, fun e => e ▸ rfl⟩
theorem dec_vn (i j : Nat) : decide (vn i = vn j) = decide (i = j) := decide_eq_decide.mpr vn_inj

/-! ### what the top holds -/
structure DefAt (K : PySem.W.Frag) (mg : Str → Option Value) (x : Str) (st : Stmt) (ps : List Str) (f : Addr) (fd : FuncData) : Prop where
  F : Fun K x x st f fd
  b : Binds K fd ps []
  g : mg x = some (.ref f)
structure Bi (mg : Str → Option Value) : Prop where
  isinstance : mg "isinstance" = none
  int : mg "int" = none
  bool : mg "bool" = none
  all : mg "all" = none
  zip : mg "zip" = none
  tuple : mg "tuple" = none
  sorted : mg "sorted" = none
  len : mg "len" = none
  min : mg "min" = none
  max : mg "max" = none
  set : mg "set" = none
  str : mg "str" = none
  list : mg "list" = none
  range : mg "range" = none
  dict : mg "dict" = none

/-! ### a comprehension over zip of two tuples -/
theorem lc_zipT {K : PySem.W.Frag} {a b : Addr} {xs ys : List V} {g : TG} {tt : TT} {te : TE} {vs : List Nat} {σ : L2.St} {H1 : Hp} {D : Addr} {Qd : Hp → Prop} (hl : ys.length ≤ xs.length) (Pv : Nat → Hp → Prop) (h0 : Pv 0 (upd H1 D (.lst [])))
    (hq : ∀ i H, Pv i H → SqT K H a xs ∧ SqT K H b ys)
    (hs : ∀ i x y T H, xs[i]? = some x → ys[i]? = some y → Pv i H → H T = none → g (.ref T) (wipe σ vs) (upd H T (.tup [x, y])) fun σ2 H2 => wipe σ2 vs = wipe σ vs ∧ tt σ2 H2 fun b H3 =>
      if b = true then te σ2 H3 fun y H4 => ∃ acc, H4 D = some (.lst acc) ∧ acc.length < sizeLine ∧ Pv (i + 1) (upd H4 D (.lst (acc ++ [y]))) else Pv (i + 1) H3) (hd : ∀ H, Pv ys.length H → Qd H) :
    ∃ W : Nat → Nat → Hp → Prop, (∃ m, W 0 m (upd H1 D (.lst []))) ∧ ∀ i m H, W i m H →
      ((ItzT K a b).stop i H ∧ Qd H) ∨ ((ItzT K a b).go i H ∧ ∃ Nx : Hp → Prop, (∀ H', Nx H' → ∃ m', m' < m ∧ W (i + 1) m' H') ∧ ∀ x H', (ItzT K a b).yld i H x H' → g x (wipe σ vs) H' fun σ2 H2 => wipe σ2 vs = wipe σ vs ∧ tt σ2 H2 fun b H3 =>
        if b = true then te σ2 H3 fun y H4 => ∃ acc, H4 D = some (.lst acc) ∧ acc.length < sizeLine ∧ Nx (upd H4 D (.lst (acc ++ [y]))) else Nx H3) := by
  refine ⟨fun i m H => m = ys.length - i ∧ i ≤ ys.length ∧ Pv i H, ⟨ys.length, by simp, Nat.zero_le _, h0⟩, ?_⟩
  rintro i m H ⟨rfl, hi, p⟩
  obtain ⟨qx, qy⟩ := hq i H p
  by_cases hlt : i < ys.length
  · have hx : xs[i]? = some xs[i] := List.getElem?_eq_getElem (by omega)
    have hy : ys[i]? = some ys[i] := List.getElem?_eq_getElem hlt
    refine .inr ⟨⟨xs, ys, _, _, qx, qy, hx, hy⟩, Pv (i + 1), fun H' p' => ⟨ys.length - (i + 1), by omega, rfl, hlt, p'⟩, fun v H' y => ?_⟩
    obtain ⟨T, x', y', rfl, hT, rfl, f1, f2⟩ := y
    exact hs i x' y' T H (f1 xs qx) (f2 ys qy) p hT
  · have e : i = ys.length := by omega
    subst e
    exact .inl ⟨⟨xs, ys, qx, qy, Or.inr (Nat.le_refl _)⟩, hd H p⟩
theorem cut1 (xs : List V) : cutV xs (some 1) none = xs.drop 1 := by
  unfold cutV
  rw [show HT.sIx xs.length 0 (some 1) = min 1 xs.length from HT.sIx_nat xs.length 0 1, HT.sIx_none]
  cases xs with
  | nil => rfl
  | cons x r =>
    rw [show min 1 (x :: r).length = 1 by
      rw [List.length_cons]
      omega]
    show (List.take ((x :: r).length - 1) r) = r
    rw [List.length_cons, Nat.add_sub_cancel]
    exact List.take_length
/-- t[1:] where it is the whole: t is empty -/
theorem cut1_all {xs : List V} (h : HT.sIx xs.length 0 (some 1) = 0 ∧ HT.sIx xs.length xs.length none = xs.length) : xs = [] := by
  have h1 : min 1 xs.length = 0 := (HT.sIx_nat xs.length 0 1).symm.trans h.1
  cases xs with
  | nil => rfl
  | cons x r => rw [List.length_cons] at h1; omega

/-- t[1:], the same object where t is empty -/
def rTail : V → Option Int → Option Int → Hp → VK → Prop := fun x lo hi H Q => ∃ (a : Addr) (xs : List V), x = .ref a ∧ lo = some 1 ∧ hi = none ∧ H a = some (.tup xs) ∧ ∀ (c : Addr) (H1 : Hp), Same H H1 → H1 c = some (.tup (xs.drop 1)) → Q (.ref c) H1
theorem sl_tail {X : Cx} : SlR X rTail := by
  intro pins s σ H x v vl vu lo hi sl Q I rx hs pl pu h
  obtain ⟨a, xs, rfl, rfl, rfl, ha, q⟩ := h
  refine sl_tupA pins s σ H (.ref a) v vl vu (some 1) none sl Q I rx hs pl pu ⟨a, xs, rfl, SqT.of ha, fun e => ?_, fun _ p hp => ?_⟩
  · have := cut1_all e
    subst this
    exact q a H (Same.refl H) ha
  · exact q p _ (same_upd hp) (by rw [upd_same, cut1])
section
variable {P : Program} {w : World} {K : PySem.W.Frag} {mg : Str → Option Value} {base : Heap}
/-! ### is_whole -/
abbrev sWhole : Stmt := topS 1
theorem scWhole : FnScope ["thing"] ["thing"] (defScope sWhole) := ⟨rfl, rfl, rfl, by decide +kernel, rfl, by decide +kernel, by decide +kernel⟩
def spWhole : Sp := fun vs H Q _ => ∃ i : Int, vs = [.int i] ∧ Q (.bl true) H
theorem ok_whole {f : Addr} {fd : FuncData} (F : Fun K "is_whole" "is_whole" sWhole f fd) (B : Bi mg) : FnOk P w K mg base CX0 1 f fd ["thing"] spWhole := by
  refine F.ok scWhole (fun vs H Q E h => ?_) (fun cdv A outer s H vs Q E hr h => ?_)
  · obtain ⟨i, rfl, _⟩ := h
    rfl
  · obtain ⟨i, rfl, q⟩ := h
    refine ⟨_, pss_one (ps_ret (pe_and (pe_callB call_isi (by rfl) B.isinstance (by decide +kernel) (pa_cons (pv 0) (pa_cons (pe_bltn (v := .ty "int") (by rfl) B.int (by decide +kernel) rfl) pa_nil)))
      (pe_one (pe_not (pe_callB call_isi (by rfl) B.isinstance (by decide +kernel) (pa_cons (pv 0) (pa_cons (pe_bltn (v := .ty "bool") (by rfl) B.bool (by decide +kernel) rfl) pa_nil))))))), ?_⟩
    refine ⟨_, rfl, .int i, .ty "int", .type "int", .type "int", true, rfl, .ty _, .base (.int i), kit_ty (by decide +kernel), true, rfl, ?_⟩
    refine iteT ?_
    exact ⟨_, rfl, .int i, .ty "bool", .type "int", .type "bool", false, rfl, .ty _, .base (.int i), kit_ty (by decide +kernel), false, rfl, q⟩

/-! ### do_rise -/
abbrev sRise : Stmt := topS 2
abbrev nRise : List Str := ["some", "one", "other"]
theorem scRise : FnScope nRise ["some"] (defScope sRise) := ⟨rfl, rfl, rfl, by decide +kernel, rfl, by decide +kernel, by decide +kernel⟩
def spRise (K : PySem.W.Frag) : Sp := fun vs H Q _ => ∃ (a : Addr) (r : List Nat), vs = [.ref a] ∧ H a = some (.tup (vrow r)) ∧ r.Pairwise (· < ·) ∧ r.length ≤ 1000 ∧ ∀ H', Same H H' → Q (.bl true) H'
theorem ok_rise {f : Addr} {fd : FuncData} (F : Fun K "do_rise" "do_rise" sRise f fd) (B : Bi mg) : FnOk P w K mg base CX0 1 f fd ["some"] (spRise K) := by
  refine F.ok scRise (fun vs H Q E h => ?_) (fun cdv A outer s H vs Q E hr h => ?_)
  · obtain ⟨a, r, rfl, _⟩ := h
    rfl
  · obtain ⟨a, r, rfl, ha, up, hlen, q⟩ := h
    refine ⟨_, pss_one (ps_ret (pe_callB (cr_all rfl) (by rfl) B.all (by decide +kernel) (pa_cons
      (pe_lc (own := [("one", 1), ("other", 2)]) (g := gTup K 2 (gCons (gName 1) (gCons (gName 2) gNil))) rfl scRise.nd (pi_zipA (by rfl) B.zip (pa_cons (pv 0) (pa_cons (pe_slice sl_tail (pv 0) (po_some pe_int) po_none) pa_nil)))
        (blkOk_by (N := nRise) (sc := defScope sRise) (by decide +kernel))
        (fun _ _ _ _ _ => pg_tup rfl (pgs_cons (pg_name (i := 1) scRise.nd rfl (Or.inl rfl)) (pgs_cons (pg_name (i := 2) scRise.nd rfl (Or.inl rfl)) pgs_nil)))
        (fun _ _ _ _ _ => pts_nil)
        (fun _ _ _ _ _ => pe_cmpR op_lt (pv 1) (pv 2) (nomark _))) pa_nil))), ?_⟩
    have e1 : vrow (r.drop 1) = (vrow r).drop 1 := List.map_drop
    refine ⟨_, rfl, _, rfl, 1, rfl, a, vrow r, rfl, rfl, rfl, ha, fun c H1 s1 hc => ?_⟩
    rw [← e1] at hc
    refine ⟨a, c, vrow r, _, rfl, .inr ⟨SqT.of (s1 _ _ ha), SqT.of hc, fun D hD => ?_⟩⟩
    refine lc_zipT (K := K) (a := a) (b := c) (xs := vrow r) (ys := vrow (r.drop 1)) (by simp) (fun i H' => Same H1 H' ∧ H' D = some (.lst (List.replicate i (V.bl true))))
        ⟨same_upd hD, upd_same⟩ (fun i H' ⟨h1, _⟩ => ⟨SqT.of (h1 _ _ (s1 _ _ ha)), SqT.of (h1 _ _ hc)⟩) ?_ ?_
    · rintro i x y T H2 hx hy ⟨h1, h2⟩ hT
      obtain ⟨u, hu, rfl⟩ := vrow_at hx
      obtain ⟨v, hv, rfl⟩ := vrow_at hy
      rw [List.getElem?_drop, Nat.add_comm] at hv
      have nD : D ≠ T := ne_of_none h2 hT
      have hlt : u < v := by
        obtain ⟨l1, g1⟩ := List.getElem?_eq_some_iff.mp hu
        obtain ⟨l2, g2⟩ := List.getElem?_eq_some_iff.mp hv
        have := List.pairwise_iff_getElem.mp up i (i + 1) l1 l2 (Nat.lt_succ_self _)
        rw [g1, g2] at this
        exact this
      have hi : i < 1000 := Nat.lt_of_lt_of_le (List.getElem?_eq_some_iff.mp hu).1 hlen
      refine ⟨T, [vn u, vn v], rfl, .inl (.inl upd_same), rfl, vn u, [vn v], rfl, vn v, [], rfl, rfl, rfl, ?_⟩
      refine ⟨_, rfl, _, rfl, _, _, rfl, rfl, List.replicate i (V.bl true), (by rw [upd_ne nD]; exact h2), ?_, ?_, ?_⟩
      · rw [List.length_replicate]; exact small1000 (by omega)
      · exact same_put (same_put h1 (h1.free hT)) hD
      · rw [upd_same]
        dsimp only
        rw [decide_eq_true (show ((u : Nat) : Int) < (v : Nat) by omega), rep_snoc]
    · rintro H2 ⟨h1, h2⟩
      refine ⟨D, List.replicate (vrow (r.drop 1)).length true, rfl, .inl (.inl (by rw [List.map_replicate]; exact h2)), ?_⟩
      rw [show (List.replicate (vrow (r.drop 1)).length true).all id = true by simp]
      exact q _ (s1.trans h1)
end
end FW
/-! W2: tied_points. -/
namespace FW
open PySem PySem.Spec PyProof.Rows L2 RZ
theorem vrow_append (a b : List Nat) : vrow (a ++ b) = vrow a ++ vrow b := List.map_append
theorem small9 {n : Nat} (h : n ≤ 9) : n < sizeLine := Nat.lt_of_le_of_lt h (by decide)
theorem small9' {n : Nat} (h : n ≤ 9) : n ≤ sizeLine := Nat.le_of_lt (small9 h)
section
variable {P : Program} {w : World} {K : PySem.W.Frag} {mg : Str → Option Value} {base : Heap}
abbrev sTied : Stmt := topS 4
abbrev nTied : List Str := ["forest", "found", "one", "other", "point"]
theorem scTied : FnScope nTied ["forest"] (defScope sTied) := ⟨rfl, rfl, rfl, by decide +kernel, rfl, by decide +kernel, by decide +kernel⟩
/-- for each point those that it is tied to -/
def TiedAt (H0 H : Hp) (f : Addr) (n : Nat) (ts : FM.Ties) : Prop := H0 f = none ∧ ∃ as : List Addr, H f = some (.lst (as.map V.ref)) ∧ as.length = n ∧ as.Nodup ∧ ∀ (j : Nat) (a : Addr), as[j]? = some a → H0 a = none ∧ a ≠ f ∧ H a = some (.lst (vrow (FM.nb ts j)))
def spTied : Sp := fun vs H Q _ => ∃ (fo : Addr) (n : Nat) (ts : FM.Ties), vs = [.ref fo] ∧ ForAt H fo n ts ∧ FM.Small n ts ∧ ∀ H' f, Same H H' → TiedAt H H' f n ts → Q (.ref f) H'
theorem ok_tied {f : Addr} {fd : FuncData} (F : Fun K "tied_points" "tied_points" sTied f fd) : FnOk P w K mg base CX0 1 f fd ["forest"] spTied := by
  refine F.ok scTied (fun vs H Q E h => ?_) (fun cdv A outer s H vs Q E hr h => ?_)
  · obtain ⟨fo, n, ts, rfl, _⟩ := h
    rfl
  · obtain ⟨fo, n, ts, rfl, hF, S, q⟩ := h
    obtain ⟨ps, tt, pvs, tas, h1, h2, h3, h4, h5⟩ := id hF
    refine ⟨_, pss_cons (ps_setLc (i := 1) (own := [("point", 4)]) (g := gName 4) rfl scTied.nd rfl rfl (sw_true rfl rfl rfl (by decide +kernel)) (pi_tup (pe_ix ix_tup (pv 0) pe_int (fun _ _ => rfl)))
          (blkOk_by (N := nTied) (sc := defScope sTied) (by decide +kernel)) (fun _ _ _ _ _ => pg_name (i := 4) scTied.nd rfl (Or.inl rfl)) (fun _ _ _ _ _ => pts_nil) (fun _ _ _ _ _ => pe_lst pa_nil))
      (pss_cons (ps_for PassesOwn.never rfl (pi_tup (pe_ix ix_tup (pv 0) pe_int (fun _ _ => rfl)))
          (pg_tup rfl (pgs_cons (pg_name (i := 2) scTied.nd rfl (.inl rfl)) (pgs_cons (pg_name (i := 3) scTied.nd rfl (.inl rfl)) pgs_nil)))
          (pss_cons (ps_expr (pe_bm PySem.F.plainAttrs_list PySem.F.slot_list_append PySem.F.type_list_append mt_append (pe_ix ix_list (pv 1) (pv 2) (fun _ _ => rfl)) (pa_cons (pv 3) pa_nil)))
          (pss_one (ps_expr (pe_bm PySem.F.plainAttrs_list PySem.F.slot_list_append PySem.F.type_list_append mt_append (pe_ix ix_list (pv 1) (pv 3) (fun _ _ => rfl)) (pa_cons (pv 2) pa_nil))))))
      (pss_one (ps_ret (pv 1)))), ?_⟩
    -- found = [[] for point in forest[0]]
    refine ⟨_, rfl, fo, _, 0, .ref ps, rfl, rfl, SqT.of h1, atI_nat (j := 0) rfl, ps, rfl, ⟨pvs, SqT.of h2⟩, fun D hD => ?_⟩
    refine lc_tup (K := K) (a := ps) (xs := pvs) (fun i H' => Same H H' ∧ ∃ as : List Addr, H' D = some (.lst (as.map V.ref)) ∧ as.length = i ∧ as.Nodup ∧ ∀ a ∈ as, H a = none ∧ a ≠ D ∧ H' a = some (.lst []))
      ⟨same_upd hD, [], upd_same, rfl, List.nodup_nil, fun a ha => by cases ha⟩ (fun i H' _ ⟨s1, _⟩ => SqT.of (s1 _ _ h2)) ?_ ?_
    · rintro i x H' hx ⟨s1, as, e1, e2, e3, e4⟩
      have hi : i < 9 := by
        have := (List.getElem?_eq_some_iff.mp hx).1
        have := S.n9
        omega
      refine ⟨rfl, Nat.zero_le _, fun l hl => ⟨as.map V.ref, (by rw [upd_ne (ne_of_none e1 hl)]; exact e1), (by rw [List.length_map, e2]; exact small9 (by omega)), ?_, as ++ [l], ?_, ?_, ?_, ?_⟩⟩
      · exact same_put (same_put s1 (s1.free hl)) hD
      · rw [upd_same, List.map_append]; rfl
      · rw [List.length_append, e2]; rfl
      · refine List.nodup_append.mpr ⟨e3, by simp, fun a ha b hb e => ?_⟩
        simp at hb; subst hb; subst e
        have := (e4 a ha).2.2
        rw [hl] at this; cases this
      · intro a ha
        have nlD : l ≠ D := fun e => by rw [e, e1] at hl; cases hl
        rcases List.mem_append.mp ha with z | z
        · obtain ⟨f1, f2, f3⟩ := e4 a z
          exact ⟨f1, f2, by rw [upd_ne f2, upd_ne (ne_of_none f3 hl)]; exact f3⟩
        · simp at z; subst z
          exact ⟨s1.free hl, nlD, by rw [upd_ne nlD, upd_same]⟩
    · rintro H1 ⟨s1, as, e1, e2, e3, e4⟩
      -- for one, other in forest[1]
      refine ⟨_, rfl, fo, _, 1, .ref tt, rfl, rfl, SqT.of (s1 _ _ h1), atI_nat (j := 1) rfl, tt, rfl, ⟨tas.map V.ref, SqT.of (s1 _ _ h4)⟩, ?_⟩
      refine for_tup (K := K) (a := tt) (xs := tas.map V.ref) (fun i σ H' => Same H H' ∧ (∃ y2 y3, σ = [some (.ref fo), some (.ref D), y2, y3, none]) ∧ H' D = some (.lst (as.map V.ref)) ∧ ∀ (j : Nat) (a : Addr), as[j]? = some a → H' a = some (.lst (vrow (FM.nb (ts.take i) j))))
        ⟨s1, ⟨none, none, rfl⟩, e1, fun j a ha => (e4 a (List.mem_of_getElem? ha)).2.2⟩ (fun i σ H' _ ⟨s2, _⟩ => SqT.of (s2 _ _ h4)) ?_ ?_
      · rintro i x σ H' hx ⟨s2, ⟨y2, y3, rfl⟩, g1, g2⟩
        obtain ⟨qa, hqa, rfl⟩ := refs_get hx
        obtain ⟨t, ht, hq⟩ := pair_get h5 hqa
        have hlt := S.F.lt t (List.mem_of_getElem? ht)
        have len : as.length = n := by rw [e2, h3]
        obtain ⟨a1, ha1⟩ : ∃ a1, as[t.1]? = some a1 := ⟨_, List.getElem?_eq_getElem (by omega)⟩
        obtain ⟨a2, ha2⟩ : ∃ a2, as[t.2]? = some a2 := ⟨_, List.getElem?_eq_getElem (by omega)⟩
        have n12 : a1 ≠ a2 := fun e => by
          subst e
          have := (List.getElem?_inj (List.getElem?_eq_some_iff.mp ha1).1 e3).mp (ha1.trans ha2.symm)
          omega
        obtain ⟨f1, f1', _⟩ := e4 a1 (List.mem_of_getElem? ha1)
        obtain ⟨f2, f2', _⟩ := e4 a2 (List.mem_of_getElem? ha2)
        have k1 := g2 _ _ ha1
        have k2 := g2 _ _ ha2
        have l1 := FM.nb_take_le ts i t.1
        have l2 := FM.nb_take_le ts i t.2
        have t9 := S.t9
        refine ⟨qa, [vn t.1, vn t.2], rfl, SqT.of (s2 _ _ hq), rfl, _, _, rfl, _, _, rfl, rfl, ?_⟩
        -- found[one].append(other)
        refine ⟨_, rfl, _, rfl, D, _, _, .ref a1, rfl, rfl, SqL.of g1, atI_nat (j := t.1) (by rw [List.getElem?_map, ha1]; rfl), .inl ⟨rfl, _, SqL.of k1⟩, _, rfl, a1, _, _, rfl, rfl, k1, (by rw [List.length_map]; exact small9 (by omega)), ?_⟩
        -- found[other].append(one)
        have g1' : upd H' a1 (.lst (vrow (FM.nb (ts.take i) t.1) ++ [vn t.2])) D = some (.lst (as.map V.ref)) := by rw [upd_ne f1'.symm]; exact g1
        have k2' : upd H' a1 (.lst (vrow (FM.nb (ts.take i) t.1) ++ [vn t.2])) a2 = some (.lst (vrow (FM.nb (ts.take i) t.2))) := by rw [upd_ne n12.symm]; exact k2
        refine ⟨_, rfl, _, rfl, D, _, _, .ref a2, rfl, rfl, SqL.of g1', atI_nat (j := t.2) (by rw [List.getElem?_map, ha2]; rfl), .inl ⟨rfl, _, SqL.of k2'⟩, _, rfl, a2, _, _, rfl, rfl, k2', (by rw [List.length_map]; exact small9 (by omega)), ?_⟩
        refine ⟨same_put (same_put s2 f1) f2, ⟨_, _, rfl⟩, by rw [upd_ne f2'.symm]; exact g1', fun j a ha => ?_⟩
        rw [FM.nb_succ ht j]
        by_cases j2 : j = t.2
        · subst j2
          have e : a = a2 := Option.some.inj (ha.symm.trans ha2)
          subst e
          rw [upd_same, FM.there_2 hlt.1, vrow_append] <;> rfl
        · have na2 : a ≠ a2 := fun e => by
            subst e
            exact j2 ((List.getElem?_inj (List.getElem?_eq_some_iff.mp ha).1 e3).mp (ha.trans ha2.symm))
          rw [upd_ne na2]
          by_cases j1 : j = t.1
          · subst j1
            have e : a = a1 := Option.some.inj (ha.symm.trans ha1)
            subst e
            rw [upd_same, FM.there_1, vrow_append] <;> rfl
          · have na1 : a ≠ a1 := fun e => by
              subst e
              exact j1 ((List.getElem?_inj (List.getElem?_eq_some_iff.mp ha).1 e3).mp (ha.trans ha1.symm))
            rw [upd_ne na1, FM.there_0 j1 j2, g2 j a ha]
            simp
      · rintro σ H' ⟨s2, ⟨y2, y3, rfl⟩, g1, g2⟩
        have el : (tas.map V.ref).length = ts.length := by rw [List.length_map]; exact Paired.length h5
        refine ⟨_, rfl, q H' D s2 ⟨hD, as, g1, by rw [e2, h3], e3, fun j a ha => ?_⟩⟩
        obtain ⟨f1, f1', _⟩ := e4 a (List.mem_of_getElem? ha)
        refine ⟨f1, f1', ?_⟩
        rw [g2 j a ha, el, List.take_length]
end
end FW
/-! W3: came_from. -/
namespace FW
open PySem PySem.Spec PyProof.Rows L2 RZ
/-! ### data as PyData -/
def intsD (r : List Nat) : List PyData := r.map fun (x : Nat) => PyData.int (x : Int)
theorem intsD_lay : ∀ r : List Nat, PyData.canLayAll0 (intsD r) = true
  | [] => by simp [intsD, PyData.canLayAll0]
  | x :: r => by
    have := intsD_lay r
    unfold intsD at *
    simp [PyData.canLayAll0, PyData.canLay0, this]
theorem intsD_depth : ∀ r : List Nat, PyData.depthAll (intsD r) = 0
  | [] => by simp [intsD, PyData.depthAll]
  | x :: r => by
    have := intsD_depth r
    unfold intsD at *
    simp [PyData.depthAll, PyData.depth, this]
theorem shaped_list {ds : List PyData} (h1 : PyData.canLayAll0 ds = true) (h2 : PyData.depthAll ds ≤ 10) : SeqAt.shaped (.list ds) = true := by
  show (PyData.canLay0 (.list ds) && decide (PyData.depth (.list ds) ≤ 64)) = true
  rw [Bool.and_eq_true]
  exact ⟨by simp only [PyData.canLay0]; exact h1, decide_eq_true (by simp only [PyData.depth]; omega)⟩
theorem shaped_tuple {ds : List PyData} (h1 : PyData.canLayAll0 ds = true) (h2 : PyData.depthAll ds ≤ 10) : SeqAt.shaped (.tuple ds) = true := by
  show (PyData.canLay0 (.tuple ds) && decide (PyData.depth (.tuple ds) ≤ 64)) = true
  rw [Bool.and_eq_true]
  exact ⟨by simp only [PyData.canLay0]; exact h1, decide_eq_true (by simp only [PyData.depth]; omega)⟩
theorem dp_ints {K : PySem.W.Frag} {H : Hp} : ∀ r : List Nat, DpAll K H (vrow r) (intsD r)
  | [] => .nil
  | x :: r => .cons (.int _) (dp_ints r)
theorem eqv_nil (ds : List PyData) : PyData.eqv (.list ds) (.list []) = ds.isEmpty := by
  cases ds <;> simp [PyData.eqv, PyData.eqvAll]
/-! ### the search's dict -/
def vo : Option Nat → V
  | none => .non
  | some y => vn y
def kvD (l : FM.Kvs) : List (Key × V) := l.map fun p => ((Sum.inl (p.1 : Int) : Key), vo p.2)
theorem kvD_len (l : FM.Kvs) : (kvD l).length = l.length := List.length_map ..
theorem key_inj {x y : Nat} : ((Sum.inl (x : Int) : Key) = Sum.inl (y : Int)) ↔ x = y := ⟨fun e => by have := Sum.inl.inj e; omega, fun e => e ▸ rfl⟩
theorem kvD_none : ∀ {l : FM.Kvs} {x : Nat}, x ∉ FM.keys l → valV (kvD l) (Sum.inl (x : Int)) = none
  | [], x, _ => rfl
  | p :: l, x, h => by
    have h : x ∉ p.1 :: FM.keys l := h
    rw [List.mem_cons, not_or] at h
    show valV (((Sum.inl (p.1 : Int) : Key), vo p.2) :: kvD l) _ = none
    rw [valV_neg (fun e => h.1 (key_inj.mp e).symm)]
    exact kvD_none h.2
theorem kvD_some : ∀ {l : FM.Kvs} {x : Nat}, x ∈ FM.keys l → (valV (kvD l) (Sum.inl (x : Int))).isSome = true
  | [], x, h => by cases h
  | p :: l, x, h => by
    show (valV (((Sum.inl (p.1 : Int) : Key), vo p.2) :: kvD l) _).isSome = true
    by_cases e : p.1 = x
    · rw [valV_pos (key_inj.mpr e)]; rfl
    · rw [valV_neg (p := ((Sum.inl (p.1 : Int) : Key), vo p.2)) (r := kvD l) (k := Sum.inl (x : Int)) (fun z => e (key_inj.mp z))]
      have h : x ∈ p.1 :: FM.keys l := h
      exact kvD_some ((List.mem_cons.mp h).resolve_left fun z => e z.symm)
theorem kvD_val : ∀ {l : FM.Kvs} {x : Nat} {o : Option Nat}, (FM.keys l).Nodup → (x, o) ∈ l → valV (kvD l) (Sum.inl (x : Int)) = some (vo o)
  | [], _, _, _, h => by cases h
  | p :: l, x, o, nd, h => by
    show valV (((Sum.inl (p.1 : Int) : Key), vo p.2) :: kvD l) _ = some (vo o)
    have nd : (p.1 :: FM.keys l).Nodup := nd
    obtain ⟨n1, n2⟩ := List.nodup_cons.mp nd
    rcases List.mem_cons.mp h with e | e
    · subst e
      rw [valV_pos rfl]
    · have hx : x ∈ FM.keys l := List.mem_map.mpr ⟨_, e, rfl⟩
      rw [valV_neg (p := ((Sum.inl (p.1 : Int) : Key), vo p.2)) (r := kvD l) (k := Sum.inl (x : Int)) (fun z => n1 ((key_inj.mp z) ▸ hx))]
      exact kvD_val n2 e
theorem kvD_put {l : FM.Kvs} {x y : Nat} (h : x ∉ FM.keys l) : putK (kvD l) (Sum.inl (x : Int)) (vn y) = kvD (l ++ [(x, some y)]) := by
  rw [putK_new _ (kvD_none h)]
  unfold kvD
  rw [List.map_append] <;> rfl
section
variable {P : Program} {w : World} {K : PySem.W.Frag} {mg : Str → Option Value} {base : Heap}
abbrev sCame : Stmt := topS 5
abbrev nCame : List Str := ["forest", "a", "tied", "came", "waiting", "here", "there"]
theorem scCame : FnScope nCame ["forest", "a"] (defScope sCame) := ⟨rfl, rfl, rfl, by decide +kernel, rfl, by decide +kernel, by decide +kernel⟩
def spCame : Sp := fun vs H Q _ => ∃ (fo : Addr) (n : Nat) (ts : FM.Ties) (a : Nat), vs = [.ref fo, vn a] ∧ ForAt H fo n ts ∧ FM.Small n ts ∧ a < n ∧
  ∀ H' d kvs, Same H H' → H d = none → H' d = some (.dK (kvD kvs)) → FM.Came ts a kvs → (∀ x, x ∈ FM.keys kvs ↔ FM.Reach ts a x) → Q (.ref d) H'
theorem ok_came {f fT : Addr} {fd fdT : FuncData} (F : Fun K "came_from" "came_from" sCame f fd) (DT : DefAt K mg "tied_points" sTied ["forest"] fT fdT) : FnOk P w K mg base CX0 2 f fd ["forest", "a"] spCame := by
  have GT : FnOk P w K mg base CX0 1 fT fdT ["forest"] spTied := ok_tied DT.F
  refine F.ok scCame (fun vs H Q E h => ?_) (fun cdv A outer s H vs Q E hr h => ?_)
  · obtain ⟨fo, n, ts, a, rfl, _⟩ := h
    rfl
  · obtain ⟨fo, n, ts, a, rfl, hF, S, ha, q⟩ := h
    refine ⟨_, pss_cons (ps_set (i := 2) scCame.nd rfl (.inl rfl) (pe_call GT hr (by rfl) DT.g DT.F.kp DT.b .nil pass0 (pa_cons (pv 0) pa_nil)))
      (pss_cons (ps_set (i := 3) scCame.nd rfl (.inl rfl) (pe_disp (pps_cons (pv 1) pe_non pps_nil) (by rfl) (by rfl) (fun z => by cases z) (by decide)))
      (pss_cons (ps_set (i := 4) scCame.nd rfl (.inl rfl) (pe_lst (pa_cons (pv 1) pa_nil)))
      (pss_cons (ps_while PassesOwn.never (pt_cmpR (op_neD hr.units) (pv 4) (pe_lst pa_nil) (nomark _))
        (pss_cons (ps_set (i := 5) scCame.nd rfl (.inl rfl) (pe_bm0 PySem.F.plainAttrs_list PySem.F.slot_list_pop PySem.F.type_list_pop mt_pop (pv 4)))
        (pss_one (ps_for PassesOwn.never rfl (pi_list (pe_ix ix_list (pv 2) (pv 5) (fun _ _ => rfl))) (pg_name (i := 6) scCame.nd rfl (.inl rfl))
          (pss_one (ps_if (pt_cmp (pc_dnotin (hu_of hr) (pv 6) (pv 3)))
            (pss_cons (ps_dput (hu_of hr) (pv 3) (pv 6) (pv 5) rfl) (pss_one (ps_expr (pe_bm PySem.F.plainAttrs_list PySem.F.slot_list_append PySem.F.type_list_append mt_append (pv 4) (pa_cons (pv 6) pa_nil))))) pss_nil))))))
      (pss_one (ps_ret (pv 3)))))), ?_⟩
    -- tied = tied_points(forest)
    refine ⟨_, rfl, fo, n, ts, rfl, hF, S, fun H1 ft s1 hT => ?_⟩
    -- came = {a: None}
    refine fun d hd => ⟨_, rfl, upd_same, [((Sum.inl (a : Int) : Key), V.non)], rfl, (by show 1 ≤ 15; decide), ?_⟩
    -- waiting = [a]
    refine ⟨_, rfl, (by show 1 ≤ sizeLine; decide), fun l hl => ?_⟩
    have ndl : d ≠ l := fun e => by rw [← e, upd_same] at hl; cases hl
    have hl1 : H1 l = none := by
      rw [upd_ne (Ne.symm ndl), upd_ne (Ne.symm ndl)] at hl; exact hl
    obtain ⟨hf0, as, as1, as2, as3, as4⟩ := id hT
    -- while waiting != []
    refine ⟨fun m σ H' => ∃ (kvs : FM.Kvs) (wt : List Nat) (y5 y6 : Option V), σ = [some (.ref fo), some (vn a), some (.ref ft), some (.ref d), some (.ref l), y5, y6] ∧ Same H1 H' ∧ H' d = some (.dK (kvD kvs)) ∧ H' l = some (.lst (vrow wt)) ∧
        FM.Seek ts a kvs wt ∧ m = 2 * (n - kvs.length) + wt.length ∧ m ≤ 18, ⟨_, [(a, none)], [a], none, none, rfl, ?_, ?_, upd_same, .start ts a, rfl, ?_⟩, ?_⟩
    · exact same_put (same_put (same_put (Same.refl H1) hd) hd) hl1
    · rw [upd_ne ndl, upd_same]; rfl
    · have := S.n9
      show 2 * (n - 1) + 1 ≤ 18
      omega
    rintro m σ H2 ⟨kvs, wt, y5, y6, rfl, s2, hd2, hl2, SK, rfl, m18⟩
    refine ⟨_, rfl, Nat.zero_le _, fun p hp => ?_⟩
    have nlp : l ≠ p := ne_of_none hl2 hp
    have ndp : d ≠ p := ne_of_none hd2 hp
    refine ⟨.list (intsD wt), .list [], .lst (SqL.of (by rw [upd_ne nlp]; exact hl2)) (dp_ints wt), .lst (SqL.of upd_same) .nil, shaped_list (intsD_lay wt) (by rw [intsD_depth]; omega), shaped_list (by simp [PyData.canLayAll0]) (by simp [PyData.depthAll]), _, rfl, ?_⟩
    rw [eqv_nil]
    have s2p : Same H1 (upd H2 p (.lst [])) := same_put s2 (s2.free hp)
    cases ew : wt.getLast? with
    | none =>
      have e0 : wt = [] := List.getLast?_eq_none_iff.mp ew
      subst e0
      exact ⟨_, rfl, q _ d kvs (s1.trans s2p) (s1.free hd) (by rw [upd_ne ndp]; exact hd2) SK.came SK.end_⟩
    | some here =>
      have hne : wt ≠ [] := fun e => by rw [e] at ew; simp at ew
      have e0 : (intsD wt).isEmpty = false := by
        cases wt with
        | nil => exact absurd rfl hne
        | cons x r => rfl
      rw [e0]
      refine ⟨fun σ' H' => ∃ m', m' < 2 * (n - kvs.length) + wt.length ∧ ∃ (kvs : FM.Kvs) (wt : List Nat) (y5 y6 : Option V), σ' = [some (.ref fo), some (vn a), some (.ref ft), some (.ref d), some (.ref l), y5, y6] ∧ Same H1 H' ∧ H' d = some (.dK (kvD kvs)) ∧ H' l = some (.lst (vrow wt)) ∧
        FM.Seek ts a kvs wt ∧ m' = 2 * (n - kvs.length) + wt.length ∧ m' ≤ 18, fun σ' H' h => h, ?_⟩
      -- here = waiting.pop()
      have hl3 : upd H2 p (.lst []) l = some (.lst (vrow wt)) := by rw [upd_ne nlp]; exact hl2
      refine ⟨_, rfl, .inl ⟨rfl, _, SqL.of hl3⟩, l, _, vn here, rfl, rfl, hl3, ?_, ?_⟩
      · rw [← List.getLast?_eq_getElem?, List.getLast?_map, ew]; rfl
      have S2 := SK.open_ ew
      have hh : here < n := (SK.came.reach _ S2.here).lt S.F ha
      obtain ⟨ah, hah⟩ : ∃ ah, as[here]? = some ah := ⟨_, List.getElem?_eq_getElem (by omega)⟩
      obtain ⟨b1, b2, b3⟩ := as4 _ _ hah
      have s3 : Same H1 (upd (upd H2 p (.lst [])) l (.lst (vrow wt).dropLast)) := same_put s2p hl1
      have hd3 : upd (upd H2 p (.lst [])) l (.lst (vrow wt).dropLast) d = some (.dK (kvD kvs)) := by rw [upd_ne ndl, upd_ne ndp]; exact hd2
      have hl4 : upd (upd H2 p (.lst [])) l (.lst (vrow wt).dropLast) l = some (.lst (vrow wt.dropLast)) := by
        have e : (vrow wt).dropLast = vrow wt.dropLast := by first | exact List.map_dropLast.symm | exact List.dropLast_map | simp [vrow]
        rw [upd_same, e]
      -- for there in tied[here]
      refine ⟨_, rfl, _, rfl, ft, _, _, .ref ah, rfl, rfl, SqL.of (s3 _ _ as1), atI_nat (j := here) (by rw [List.getElem?_map, hah]; rfl), ah, rfl, ⟨_, SqL.of (s3 _ _ b3)⟩, ?_⟩
      have wlen : wt.dropLast.length + 1 = wt.length := by
        rw [List.length_dropLast]
        have : 0 < wt.length := List.length_pos_iff.mpr hne
        omega
      refine for_list (K := K) (a := ah) (xs := vrow (FM.nb ts here)) (fun i σ H' => ∃ (kvs' : FM.Kvs) (wt' : List Nat) (y6 : Option V), σ = [some (.ref fo), some (vn a), some (.ref ft), some (.ref d), some (.ref l), some (vn here), y6] ∧ Same H1 H' ∧ H' d = some (.dK (kvD kvs')) ∧ H' l = some (.lst (vrow wt')) ∧
        FM.Seek2 ts a here ((FM.nb ts here).take i) kvs' wt' ∧ 2 * (n - kvs'.length) + wt'.length < 2 * (n - kvs.length) + wt.length)
        ⟨kvs, wt.dropLast, y6, rfl, s3, hd3, hl4, S2, by omega⟩ (fun i σ H' _ ⟨_, _, _, _, s4, _⟩ => SqL.of (s4 _ _ b3)) ?_ ?_
      · rintro i x σ H4 hx ⟨kvs', wt', z6, rfl, s4, hd4, hl4, S4, hm⟩
        obtain ⟨c, hc, rfl⟩ := vrow_at hx
        have hadj : FM.Adj ts here c := (FM.mem_nb S.F).mp (List.mem_of_getElem? hc)
        have hlen := S4.came.small S.F ha
        have n9 := S.n9
        have et : (FM.nb ts here).take (i + 1) = (FM.nb ts here).take i ++ [c] := by rw [List.take_add_one, hc]; rfl
        -- if there not in came
        refine ⟨_, rfl, _, rfl, d, _, rfl, DGet.k (k := Sum.inl (c : Int)) hd4, _, rfl, ?_⟩
        by_cases hin : c ∈ FM.keys kvs'
        · rw [kvD_some hin]
          exact ⟨kvs', wt', _, rfl, s4, hd4, hl4, et ▸ S4.old hin, hm⟩
        · rw [kvD_none hin]
          have S5 := S4.new hin hadj
          have hlen5 := S5.came.small S.F ha
          rw [List.length_append] at hlen5
          have hlen5 : kvs'.length + 1 ≤ n := hlen5
          refine ⟨_, rfl, _, rfl, _, rfl, d, _, rfl, DPut.k (k := Sum.inl (c : Int)) hd4 (by rw [kvD_len]; exact small9 (by omega)), ?_⟩
          rw [kvD_put hin]
          have hl5 : upd H4 d (.dK (kvD (kvs' ++ [(c, some here)]))) l = some (.lst (vrow wt')) := by rw [upd_ne ndl.symm]; exact hl4
          have wl : wt'.length ≤ 1000 := by omega
          refine ⟨_, rfl, .inl ⟨rfl, _, SqL.of hl5⟩, _, rfl, l, _, _, rfl, rfl, hl5, (by rw [List.length_map]; exact small1000 wl), ?_⟩
          refine ⟨kvs' ++ [(c, some here)], wt' ++ [c], _, rfl, same_put (same_put s4 hd) hl1, ?_, ?_, et ▸ S5, ?_⟩
          · rw [upd_ne ndl, upd_same]
          · rw [upd_same, vrow_append] <;> rfl
          · rw [List.length_append, List.length_append]
            show 2 * (n - (kvs'.length + 1)) + (wt'.length + 1) < _
            omega
      · rintro σ H4 ⟨kvs', wt', z6, rfl, s4, hd4, hl4, S4, hm⟩
        have el : (vrow (FM.nb ts here)).length = (FM.nb ts here).length := List.length_map ..
        rw [el, List.take_length] at S4
        exact ⟨_, hm, kvs', wt', _, _, rfl, s4, hd4, hl4, S4.close S.F, rfl, by omega⟩
end
end FW
/-! W4: way_of, part_of, tied_paper. -/
namespace FW
open PySem PySem.Spec PyProof.Rows L2 RZ
/-- a rising list of the same numbers -/
theorem sorted_comp {n a : Nat} {ts : FM.Ties} {ks : List Nat} (nd : ks.Nodup) (hm : ∀ x, x ∈ ks ↔ x < n ∧ FM.Reach ts a x) {ys : List Int} (hp : ys.Perm (ks.map fun (x : Nat) => (x : Int))) (hs : ys.Pairwise (· ≤ ·)) : ys.map V.int = vrow (FM.comp n ts a) := by
  have h1 : (FM.comp n ts a).Perm ks := (List.perm_ext_iff_of_nodup FM.comp_nodup nd).mpr fun x => FM.mem_comp.trans (hm x).symm
  have h2 : ys.Perm ((FM.comp n ts a).map fun (x : Nat) => (x : Int)) := hp.trans (h1.symm.map _)
  have h3 : ((FM.comp n ts a).map fun (x : Nat) => (x : Int)).Pairwise (· ≤ ·) := List.pairwise_map.mpr (FM.comp_up.imp fun h => by omega)
  have e : ys = (FM.comp n ts a).map fun (x : Nat) => (x : Int) := h2.eq_of_pairwise (le := (· ≤ ·)) (fun a b _ _ h1 h2 => Int.le_antisymm h1 h2) hs h3
  rw [e, vrow_ints]
section
variable {P : Program} {w : World} {K : PySem.W.Frag} {mg : Str → Option Value} {base : Heap}
/-! ### way_of -/
abbrev sWay : Stmt := topS 6
abbrev nWay : List Str := ["forest", "a", "b", "came", "way"]
theorem scWay : FnScope nWay ["forest", "a", "b"] (defScope sWay) := ⟨rfl, rfl, rfl, by decide +kernel, rfl, by decide +kernel, by decide +kernel⟩
def spWay : Sp := fun vs H Q _ => ∃ (fo : Addr) (n : Nat) (ts : FM.Ties) (a b : Nat), vs = [.ref fo, vn a, vn b] ∧ ForAt H fo n ts ∧ FM.Small n ts ∧ a < n ∧ b < n ∧
  (¬ FM.Reach ts a b → ∀ H', Same H H' → Q .non H') ∧ ∀ p, FM.Path ts a b p → ∀ H' r, Same H H' → H r = none → H' r = some (.tup (vrow p)) → Q (.ref r) H'
theorem ok_way {f fC fT : Addr} {fd fdC fdT : FuncData} (F : Fun K "way_of" "way_of" sWay f fd) (DC : DefAt K mg "came_from" sCame ["forest", "a"] fC fdC) (DT : DefAt K mg "tied_points" sTied ["forest"] fT fdT) (B : Bi mg) : FnOk P w K mg base CX0 3 f fd ["forest", "a", "b"] spWay := by
  have GC : FnOk P w K mg base CX0 2 fC fdC ["forest", "a"] spCame := ok_came DC.F DT
  refine F.ok scWay (fun vs H Q E h => ?_) (fun cdv A outer s H vs Q E hr h => ?_)
  · obtain ⟨fo, n, ts, a, b, rfl, _⟩ := h
    rfl
  · obtain ⟨fo, n, ts, a, b, rfl, hF, S, ha, hb, qN, qP⟩ := h
    refine ⟨_, pss_cons (ps_set (i := 3) scWay.nd rfl (.inl rfl) (pe_call GC hr (by rfl) DC.g DC.F.kp DC.b .nil pass0 (pa_cons (pv 0) (pa_cons (pv 2) pa_nil))))
      (pss_cons (ps_if (pt_cmp (pc_dnotin (hu_of hr) (pv 1) (pv 3))) (pss_one (ps_ret pe_non)) pss_nil)
      (pss_cons (ps_set (i := 4) scWay.nd rfl (.inl rfl) (pe_lst (pa_cons (pv 1) pa_nil)))
      (pss_cons (ps_while PassesOwn.never (pt_cmpR op_ne (pe_ix ix_list (pv 4) (pe_un un_neg pe_int) (fun _ _ => rfl)) (pv 2) (nomark _))
        (pss_one (ps_expr (pe_bm PySem.F.plainAttrs_list PySem.F.slot_list_append PySem.F.type_list_append mt_append (pv 4) (pa_cons (pe_dget (hu_of hr) (pv 3) (pe_ix ix_list (pv 4) (pe_un un_neg pe_int) (fun _ _ => rfl)) (fun _ _ => rfl)) pa_nil)))))
      (pss_one (ps_ret (pe_callTy call_tuple_of (by rfl) B.tuple (by decide +kernel) (pa_cons (pv 4) pa_nil))))))), ?_⟩
    refine ⟨_, rfl, _, rfl, fo, n, ts, b, rfl, hF, S, hb, fun H1 d kvs s1 hd0 hd hC hK => ?_⟩
    -- if a not in came
    refine ⟨_, rfl, _, rfl, d, _, rfl, DGet.k (k := Sum.inl (a : Int)) hd, _, rfl, ?_⟩
    by_cases hin : a ∈ FM.keys kvs
    · rw [kvD_some hin]
      obtain ⟨p, hp, hal, _⟩ := hC.along a hin
      -- way = [a]
      refine ⟨_, rfl, (by show 1 ≤ sizeLine; decide), fun l hl => ?_⟩
      have ndl : d ≠ l := ne_of_none hd hl
      have plen : p.length ≤ n := FM.len_le hp.nd (hp.lt S.F ha)
      have p0 : 0 < p.length := List.length_pos_iff.mpr hp.ne_nil
      have hhd : p[0]? = some a := by have := hp.head; rwa [List.head?_eq_getElem?] at this
      have n9 := S.n9
      refine ⟨fun m σ H' => ∃ i, 0 < i ∧ i ≤ p.length ∧ m = p.length - i ∧ σ = [some (.ref fo), some (vn a), some (vn b), some (.ref d), some (.ref l)] ∧ Same H1 H' ∧ H' l = some (.lst (vrow (p.take i))),
        ⟨_, 1, by omega, p0, rfl, rfl, same_upd hl, ?_⟩, ?_⟩
      · rw [upd_same]
        have : p.take 1 = [a] := by
          cases p with
          | nil => simp at p0
          | cons x r => simp at hhd; subst hhd; rfl
        rw [this] <;> rfl
      rintro m σ H2 ⟨i, i0, ip, rfl, rfl, s2, hl2⟩
      obtain ⟨x, hx⟩ : ∃ x, p[i - 1]? = some x := ⟨_, List.getElem?_eq_getElem (by omega)⟩
      have etk : p.take i = p.take (i - 1) ++ [x] := by
        have : i = (i - 1) + 1 := by omega
        conv => lhs; rw [this]
        rw [List.take_add_one, hx] <;> rfl
      have hat : atI (vrow (p.take i)) (-1) = some (vn x) := by
        rw [etk, vrow_append]
        exact atI_last _ _
      refine ⟨_, rfl, 1, rfl, l, _, -1, vn x, rfl, rfl, SqL.of hl2, hat, _, rfl, rfl, _, rfl, ?_⟩
      rw [dec_vn]
      by_cases hxb : x = b
      · rw [decide_eq_true hxb]
        have ei : i = p.length := by
          have h1 := hp.last
          rw [List.getLast?_eq_getElem?] at h1
          subst hxb
          have := (List.getElem?_inj (by omega) hp.nd).mp (hx.trans h1.symm)
          omega
        subst ei
        rw [List.take_length] at hl2
        exact ⟨_, rfl, l, _, rfl, .inl ⟨SqL.of hl2, fun r hr2 => qP p hp _ r (same_put (s1.trans s2) (s1.free (s2.free hr2))) (s1.free (s2.free hr2)) upd_same⟩⟩
      · rw [decide_eq_false hxb]
        have hi : i < p.length := by
          rcases Nat.lt_or_eq_of_le ip with z | z
          · exact z
          · have h1 := hp.last
            rw [List.getLast?_eq_getElem?, ← z, hx] at h1
            exact absurd (Option.some.inj h1) hxb
        obtain ⟨y, hy⟩ : ∃ y, p[i]? = some y := ⟨_, List.getElem?_eq_getElem hi⟩
        have hxy : (x, some y) ∈ kvs := hal (i - 1) x y hx (by rw [show i - 1 + 1 = i by omega]; exact hy)
        refine ⟨fun σ' H' => ∃ m', m' < p.length - i ∧ ∃ i, 0 < i ∧ i ≤ p.length ∧ m' = p.length - i ∧ σ' = [some (.ref fo), some (vn a), some (vn b), some (.ref d), some (.ref l)] ∧ Same H1 H' ∧ H' l = some (.lst (vrow (p.take i))), fun _ _ h => h, ?_⟩
        refine ⟨_, rfl, .inl ⟨rfl, _, SqL.of hl2⟩, _, rfl, _, rfl, 1, rfl, l, _, -1, vn x, rfl, rfl, SqL.of hl2, hat, d, vn y, rfl, ?_, l, _, _, rfl, rfl, hl2, (by rw [List.length_map, List.length_take]; exact small9 (by omega)), ?_⟩
        · have e := kvD_val hC.nd hxy
          have e2 : some (vn y) = valV (kvD kvs) (Sum.inl (x : Int)) := e.symm
          rw [e2]
          exact DGet.k (k := Sum.inl (x : Int)) (s2 _ _ hd)
        · refine ⟨p.length - (i + 1), by omega, i + 1, by omega, hi, rfl, rfl, same_put s2 hl, ?_⟩
          rw [upd_same, List.take_add_one, hy, vrow_append] <;> rfl
    · rw [kvD_none hin]
      exact qN (fun r => hin ((hK a).mpr r.symm)) H1 s1
/-! ### part_of -/
abbrev sPart : Stmt := topS 7
theorem scPart : FnScope ["forest", "a"] ["forest", "a"] (defScope sPart) := ⟨rfl, rfl, rfl, by decide +kernel, rfl, by decide +kernel, by decide +kernel⟩
def spPart : Sp := fun vs H Q _ => ∃ (fo : Addr) (n : Nat) (ts : FM.Ties) (a : Nat), vs = [.ref fo, vn a] ∧ ForAt H fo n ts ∧ FM.Small n ts ∧ a < n ∧
  ∀ H' r, Same H H' → H r = none → H' r = some (.tup (vrow (FM.comp n ts a))) → Q (.ref r) H'
theorem ok_part {f fC fT : Addr} {fd fdC fdT : FuncData} (F : Fun K "part_of" "part_of" sPart f fd) (DC : DefAt K mg "came_from" sCame ["forest", "a"] fC fdC) (DT : DefAt K mg "tied_points" sTied ["forest"] fT fdT) (B : Bi mg) : FnOk P w K mg base CX0 3 f fd ["forest", "a"] spPart := by
  have GC : FnOk P w K mg base CX0 2 fC fdC ["forest", "a"] spCame := ok_came DC.F DT
  refine F.ok scPart (fun vs H Q E h => ?_) (fun cdv A outer s H vs Q E hr h => ?_)
  · obtain ⟨fo, n, ts, a, rfl, _⟩ := h
    rfl
  · obtain ⟨fo, n, ts, a, rfl, hF, S, ha, q⟩ := h
    refine ⟨_, pss_one (ps_ret (pe_callTy call_tuple_of (by rfl) B.tuple (by decide +kernel) (pa_cons (pe_callB (call_sortedDI rfl) (by rfl) B.sorted (by decide +kernel) (pa_cons
      (pe_call GC hr (by rfl) DC.g DC.F.kp DC.b .nil pass0 (pa_cons (pv 0) (pa_cons (pv 1) pa_nil))) pa_nil)) pa_nil))), ?_⟩
    refine ⟨_, rfl, _, rfl, fo, n, ts, a, rfl, hF, S, ha, fun H1 d kvs s1 hd0 hd hC hK => ?_⟩
    have hlen := hC.small S.F ha
    have n9 := S.n9
    refine ⟨d, kvD kvs, (FM.keys kvs).map (fun (x : Nat) => (x : Int)), rfl, .inl hd, ?_, ?_, fun ys p hp hs hp0 => ?_⟩
    · unfold kvD FM.keys
      rw [List.map_map, List.map_map, List.map_map] <;> rfl
    · rw [List.length_map]
      unfold FM.keys
      rw [List.length_map]
      omega
    · have e := sorted_comp (n := n) hC.nd (fun x => (hK x).trans ⟨fun r => ⟨r.lt S.F ha, r⟩, fun r => r.2⟩) hp hs
      rw [e]
      refine ⟨p, _, rfl, .inl ⟨SqL.of upd_same, fun r hr2 => ?_⟩⟩
      have hr1 : H1 r = none := (same_upd hp0).free hr2
      exact q _ r (same_put (same_put s1 (s1.free hp0)) (s1.free hr1)) (s1.free hr1) upd_same
/-! ### tied_paper -/
abbrev sPaper : Stmt := topS 9
abbrev nPaper : List Str := ["forest", "a", "b", "way"]
theorem scPaper : FnScope nPaper ["forest", "a", "b"] (defScope sPaper) := ⟨rfl, rfl, rfl, by decide +kernel, rfl, by decide +kernel, by decide +kernel⟩
def spPaper : Sp := fun vs H Q _ => ∃ (fo : Addr) (n : Nat) (ts : FM.Ties) (a b : Nat), vs = [.ref fo, vn a, vn b] ∧ ForAt H fo n ts ∧ FM.Small n ts ∧ a < n ∧ b < n ∧
  (¬ FM.Reach ts a b → ∀ H' t r, Same H H' → H' r = some (.tup (vrow (FM.comp n ts a))) → H' t = some (.tup [.str "apart", .ref r]) → Q (.ref t) H') ∧
  ∀ p, FM.Path ts a b p → ∀ H' t r, Same H H' → H' r = some (.tup (vrow p)) → H' t = some (.tup [.str "way", .ref r]) → Q (.ref t) H'
theorem ok_paper {f fW fP fC fT : Addr} {fd fdW fdP fdC fdT : FuncData} (F : Fun K "tied_paper" "tied_paper" sPaper f fd) (DW : DefAt K mg "way_of" sWay ["forest", "a", "b"] fW fdW) (DP : DefAt K mg "part_of" sPart ["forest", "a"] fP fdP)
    (DC : DefAt K mg "came_from" sCame ["forest", "a"] fC fdC) (DT : DefAt K mg "tied_points" sTied ["forest"] fT fdT) (B : Bi mg) : FnOk P w K mg base CX0 4 f fd ["forest", "a", "b"] spPaper := by
  have GW : FnOk P w K mg base CX0 3 fW fdW ["forest", "a", "b"] spWay := ok_way DW.F DC DT B
  have GP : FnOk P w K mg base CX0 3 fP fdP ["forest", "a"] spPart := ok_part DP.F DC DT B
  refine F.ok scPaper (fun vs H Q E h => ?_) (fun cdv A outer s H vs Q E hr h => ?_)
  · obtain ⟨fo, n, ts, a, b, rfl, _⟩ := h
    rfl
  · obtain ⟨fo, n, ts, a, b, rfl, hF, S, ha, hb, qN, qP⟩ := h
    refine ⟨_, pss_cons (ps_set (i := 3) scPaper.nd rfl (.inl rfl) (pe_call GW hr (by rfl) DW.g DW.F.kp DW.b .nil pass0 (pa_cons (pv 0) (pa_cons (pv 1) (pa_cons (pv 2) pa_nil)))))
      (pss_cons (ps_if (pt_cmp (pc_notN (pv 3))) (pss_one (ps_ret (pe_tup (pa_cons pe_str (pa_cons (pv 3) pa_nil))))) pss_nil)
      (pss_one (ps_ret (pe_tup (pa_cons pe_str (pa_cons (pe_call GP hr (by rfl) DP.g DP.F.kp DP.b .nil pass0 (pa_cons (pv 0) (pa_cons (pv 1) pa_nil))) pa_nil)))))), ?_⟩
    refine ⟨_, rfl, _, rfl, _, rfl, fo, n, ts, a, b, rfl, hF, S, ha, hb, fun hN H1 s1 => ?_, fun p hp H1 r s1 hr0 hr1 => ?_⟩
    · refine ⟨_, rfl, _, rfl, ?_⟩
      refine ⟨_, rfl, _, rfl, fo, n, ts, a, rfl, hF.same s1, S, ha, fun H2 r s2 hr0 hr2 => ?_⟩
      refine ⟨(by show 2 ≤ sizeLine; decide), fun t ht => ?_⟩
      exact qN hN _ t r (same_put (s1.trans s2) (s1.free (s2.free ht))) (by rw [upd_ne (ne_of_none hr2 ht)]; exact hr2) upd_same
    · refine ⟨_, rfl, _, rfl, ?_⟩
      refine ⟨_, rfl, (by show 2 ≤ sizeLine; decide), fun t ht => ?_⟩
      exact qP p hp _ t r (same_put s1 (s1.free ht)) (by rw [upd_ne (ne_of_none hr1 ht)]; exact hr1) upd_same
end
end FW
/-! W5: are_points, are_tied, is_way, does_part, shows_tied. -/
namespace FW
open PySem PySem.Spec PyProof.Rows L2 RZ
theorem hu65 {k : Nat} {A : Around} (r : Room k A) : A.units + 65 < cLine := by have := r.un; omega
theorem inV_row {x : Nat} : ∀ S : List Nat, inV (vn x) (vrow S) = decide (x ∈ S)
  | [] => rfl
  | y :: S => by
    have ih := inV_row (x := x) S
    show (((y : Int) == (x : Int)) || inV (vn x) (vrow S)) = _
    rw [ih, Bool.eq_iff_iff]
    simp only [Bool.or_eq_true, beq_iff_eq, decide_eq_true_eq, List.mem_cons]
    constructor
    · rintro (h | h)
      · exact .inl (by omega)
      · exact .inr h
    · rintro (h | h)
      · exact .inl (by omega)
      · exact .inr h
theorem flat_row (S : List Nat) : (vrow S).all flatV = true := List.all_eq_true.mpr fun x hx => by
  obtain ⟨y, _, rfl⟩ := List.mem_map.mp hx
  rfl
theorem dec_bl (x y : Bool) : decide (V.bl x = V.bl y) = (x == y) := by cases x <;> cases y <;> rfl
/-! ties as data -/
def tieD (t : Nat × Nat) : PyData := .tuple [.int (t.1 : Int), .int (t.2 : Int)]
theorem tieD_shaped (t : Nat × Nat) : SeqAt.shaped (tieD t) = true := shaped_tuple (by simp [PyData.canLayAll0, PyData.canLay0]) (by simp [PyData.depthAll, PyData.depth])
theorem ties_lay : ∀ ts : FM.Ties, PyData.canLayAll0 (ts.map tieD) = true
  | [] => by simp [PyData.canLayAll0]
  | t :: ts => by simp [PyData.canLayAll0, PyData.canLay0, tieD, ties_lay ts]
theorem ties_depth : ∀ ts : FM.Ties, PyData.depthAll (ts.map tieD) ≤ 1
  | [] => by simp [PyData.depthAll]
  | t :: ts => by
    have h := ties_depth ts
    have h2 : PyData.depth (tieD t) ≤ 1 := by simp [tieD, PyData.depth, PyData.depthAll]
    simp only [List.map_cons, PyData.depthAll]
    omega
theorem ties_shaped (ts : FM.Ties) : SeqAt.shaped (.tuple (ts.map tieD)) = true := shaped_tuple (ties_lay ts) (by have := ties_depth ts; omega)
theorem dp_ties {K : PySem.W.Frag} {H : Hp} : ∀ {tas : List Addr} {ts : FM.Ties}, TiesAt H tas ts → DpAll K H (tas.map V.ref) (ts.map tieD)
  | _, _, .nil => .nil
  | _, _, .cons r t => .cons (.tup (SqT.of r) (.cons (.int _) (.cons (.int _) .nil))) (dp_ties t)
theorem ties_in {ts : FM.Ties} {t : Nat × Nat} (h : t ∈ ts) : ((ts.map tieD).any fun z => PyData.eqv z (tieD t)) = true := by
  have e : PyData.canLay0 (tieD t) = true := by simp [tieD, PyData.canLayAll0, PyData.canLay0]
  exact List.any_eq_true.mpr ⟨tieD t, List.mem_map.mpr ⟨t, h, rfl⟩, SeqAt.eqv_refl _ e⟩
/-! rules over the written part by its name (within a comprehension's block) -/
theorem ix_tupK {X : Cx} {K : PySem.W.Frag} (hK : X.K = K) : IxR X (rIxT K) := hK ▸ ix_tup
theorem ix_listK {X : Cx} {K : PySem.W.Frag} (hK : X.K = K) : IxR X (rIxL K) := hK ▸ ix_list
def rLenK (K : PySem.W.Frag) : List V → Hp → VK → Prop := fun xs H Q => ∃ p ys, xs = [.ref p] ∧ (SqL K H p ys ∨ SqT K H p ys) ∧ Q (.int (ys.length : Nat)) H
theorem call_lenK {X : Cx} {K : PySem.W.Frag} (hK : X.K = K) : CallR X (.builtin "len") (rLenK K) := by
  subst hK
  exact call_len_seq
theorem op_inK {X : Cx} {K : PySem.W.Frag} (hK : X.K = K) : OpR X (compareOp .In) (rIn K false) := hK ▸ op_in_seq
section
variable {P : Program} {w : World} {K : PySem.W.Frag} {mg : Str → Option Value} {base : Heap}
/-! ### are_points -/
abbrev sPts : Stmt := topS 10
abbrev nPts : List Str := ["forest", "thing", "one"]
theorem scPts : FnScope nPts ["forest", "thing"] (defScope sPts) := ⟨rfl, rfl, rfl, by decide +kernel, rfl, by decide +kernel, by decide +kernel⟩
def spPts : Sp := fun vs H Q _ => ∃ (fo : Addr) (n : Nat) (ts : FM.Ties) (t : Addr) (r : List Nat), vs = [.ref fo, .ref t] ∧ ForAt H fo n ts ∧ H t = some (.tup (vrow r)) ∧ (∀ x ∈ r, x < n) ∧ r.length ≤ 1000 ∧ ∀ H', Same H H' → Q (.bl true) H'
theorem ok_pts {f fW : Addr} {fd fdW : FuncData} (F : Fun K "are_points" "are_points" sPts f fd) (DW : DefAt K mg "is_whole" sWhole ["thing"] fW fdW) (B : Bi mg) : FnOk P w K mg base CX0 2 f fd ["forest", "thing"] spPts := by
  have GW : FnOk P w K mg base CX0 1 fW fdW ["thing"] spWhole := ok_whole DW.F B
  refine F.ok scPts (fun vs H Q E h => ?_) (fun cdv A outer s H vs Q E hr h => ?_)
  · obtain ⟨fo, n, ts, t, r, rfl, _⟩ := h
    rfl
  · obtain ⟨fo, n, ts, t, r, rfl, hF, ht, hlt, hlen, q⟩ := h
    obtain ⟨ps, tt, pvs, tas, h1, h2, h3, h4, h5⟩ := id hF
    refine ⟨_, pss_one (ps_ret (pe_and (pe_callB call_isi (by rfl) B.isinstance (by decide +kernel) (pa_cons (pv 1) (pa_cons (pe_bltn (v := .ty "tuple") (by rfl) B.tuple (by decide +kernel) rfl) pa_nil)))
      (pe_one (pe_callB (cr_all rfl) (by rfl) B.all (by decide +kernel) (pa_cons
        (pe_lc (own := [("one", 2)]) (g := gName 2) rfl scPts.nd (pi_tup (pv 1)) (blkOk_by (N := nPts) (sc := defScope sPts) (by decide +kernel)) (fun _ _ _ _ _ => pg_name (i := 2) scPts.nd rfl (Or.inl rfl)) (fun _ _ _ _ _ => pts_nil)
          (fun _ _ _ _ _ => pe_and (pe_call GW hr (by rfl) DW.g DW.F.kp DW.b .nil pass0 (pa_cons (pv 2) pa_nil))
            (pe_one (pe_chain op_le op_lt pe_int (pv 2) (pe_callB (call_lenK (K := K) (by rfl)) (by rfl) B.len PySem.boot_len (pa_cons (pe_ix (ix_tupK (K := K) (by rfl)) (pv 0) pe_int (fun _ _ => rfl)) pa_nil)))))) pa_nil))))), ?_⟩
    refine ⟨_, rfl, .ref t, .ty "tuple", .type "tuple", .type "tuple", true, rfl, .ty _, .base (.tup ht), kit_ty (by decide +kernel), true, rfl, ?_⟩
    refine ⟨_, rfl, t, rfl, ⟨_, SqT.of ht⟩, fun D hD => ?_⟩
    refine lc_tup (K := K) (a := t) (xs := vrow r) (fun i H' => Same H H' ∧ H' D = some (.lst (List.replicate i (V.bl true)))) ⟨same_upd hD, upd_same⟩ (fun i H' _ ⟨s1, _⟩ => SqT.of (s1 _ _ ht)) ?_ ?_
    · rintro i x H1 hx ⟨s1, e1⟩
      obtain ⟨u, hu, rfl⟩ := vrow_at hx
      have hun := hlt u (List.mem_of_getElem? hu)
      have hi : i < 1000 := Nat.lt_of_lt_of_le (List.getElem?_eq_some_iff.mp hu).1 hlen
      refine ⟨rfl, ?_⟩
      refine ⟨_, rfl, (u : Int), rfl, true, rfl, ?_⟩
      refine ⟨_, rfl, 0, (u : Int), rfl, rfl, true, ?_, ?_⟩
      · dsimp only
        rw [decide_eq_true (show (0 : Int) ≤ (u : Int) by omega)]
      refine ⟨_, rfl, fo, _, 0, .ref ps, rfl, rfl, SqT.of (s1 _ _ h1), atI_nat (j := 0) rfl, ps, pvs, rfl, .inr (SqT.of (s1 _ _ h2)), (u : Int), _, rfl, rfl, ?_⟩
      refine ⟨_, e1, (by rw [List.length_replicate]; exact small1000 (by omega)), same_put s1 hD, ?_⟩
      rw [upd_same]
      dsimp only
      rw [decide_eq_true (show ((u : Nat) : Int) < ((pvs.length : Nat) : Int) by omega), rep_snoc]
    · rintro H1 ⟨s1, e1⟩
      refine ⟨D, List.replicate (vrow r).length true, rfl, .inl (.inl (by rw [List.map_replicate]; exact e1)), ?_⟩
      rw [show (List.replicate (vrow r).length true).all id = true by simp]
      exact q _ s1
/-! ### are_tied -/
abbrev sAT : Stmt := topS 11
theorem scAT : FnScope ["forest", "one", "other"] ["forest", "one", "other"] (defScope sAT) := ⟨rfl, rfl, rfl, by decide +kernel, rfl, by decide +kernel, by decide +kernel⟩
def spAT : Sp := fun vs H Q _ => ∃ (fo : Addr) (n : Nat) (ts : FM.Ties) (x y : Nat), vs = [.ref fo, vn x, vn y] ∧ ForAt H fo n ts ∧ FM.Adj ts x y ∧ ∀ H', Same H H' → Q (.bl true) H'
theorem ok_at {f : Addr} {fd : FuncData} (F : Fun K "are_tied" "are_tied" sAT f fd) (B : Bi mg) : FnOk P w K mg base CX0 1 f fd ["forest", "one", "other"] spAT := by
  refine F.ok scAT (fun vs H Q E h => ?_) (fun cdv A outer s H vs Q E hr h => ?_)
  · obtain ⟨fo, n, ts, x, y, rfl, _⟩ := h
    rfl
  · obtain ⟨fo, n, ts, x, y, rfl, hF, had, q⟩ := h
    obtain ⟨ps, tt, pvs, tas, h1, h2, h3, h4, h5⟩ := id hF
    refine ⟨_, pss_one (ps_ret (pe_cmpR (op_inTD (hu65 hr)) (pe_tup (pa_cons (pe_callB (call_min2 rfl) (by rfl) B.min (by decide +kernel) (pa_cons (pv 1) (pa_cons (pv 2) pa_nil)))
      (pa_cons (pe_callB (call_max2 rfl) (by rfl) B.max (by decide +kernel) (pa_cons (pv 1) (pa_cons (pv 2) pa_nil))) pa_nil))) (pe_ix ix_tup (pv 0) pe_int (fun _ _ => rfl)) (by rfl))), ?_⟩
    refine ⟨_, rfl, _, rfl, _, _, rfl, _, rfl, _, rfl, _, _, rfl, (by show 2 ≤ sizeLine; decide), fun p hp => ?_⟩
    have e1 : (if ((y : Nat) : Int) < ((x : Nat) : Int) then ((y : Nat) : Int) else ((x : Nat) : Int)) = ((min x y : Nat) : Int) := by split <;> omega
    have e2 : (if ((y : Nat) : Int) > ((x : Nat) : Int) then ((y : Nat) : Int) else ((x : Nat) : Int)) = ((max x y : Nat) : Int) := by split <;> omega
    rw [e1, e2]
    have s1 : Same H (upd H p (.tup [vn (min x y), vn (max x y)])) := same_upd hp
    refine ⟨_, rfl, fo, _, 1, .ref tt, rfl, rfl, SqT.of (s1 _ _ h1), atI_nat (j := 1) rfl, tieD (min x y, max x y), ts.map tieD, .tup (SqT.of upd_same) (.cons (.int _) (.cons (.int _) .nil)), .tup (SqT.of (s1 _ _ h4)) (dp_ties (TiesAt.keep (.of s1) h5)), tieD_shaped _, ties_shaped _, ?_⟩
    rw [ties_in had]
    exact q _ s1
/-! ### is_way -/
abbrev sIsWay : Stmt := topS 12
abbrev nIsWay : List Str := ["forest", "a", "b", "way", "one", "other"]
theorem scIsWay : FnScope nIsWay ["forest", "a", "b", "way"] (defScope sIsWay) := ⟨rfl, rfl, rfl, by decide +kernel, rfl, by decide +kernel, by decide +kernel⟩
def spIsWay : Sp := fun vs H Q _ => ∃ (fo : Addr) (n : Nat) (ts : FM.Ties) (a b c : Nat) (t : Addr) (r : List Nat), vs = [.ref fo, vn a, vn b, .ref t] ∧ ForAt H fo n ts ∧ H t = some (.tup (vrow r)) ∧ FM.Path ts a c r ∧ r.length ≤ 1000 ∧ ∀ H', Same H H' → Q (.bl (decide (c = b))) H'
theorem ok_isway {f fA : Addr} {fd fdA : FuncData} (F : Fun K "is_way" "is_way" sIsWay f fd) (DA : DefAt K mg "are_tied" sAT ["forest", "one", "other"] fA fdA) (B : Bi mg) : FnOk P w K mg base CX0 2 f fd ["forest", "a", "b", "way"] spIsWay := by
  have GA : FnOk P w K mg base CX0 1 fA fdA ["forest", "one", "other"] spAT := ok_at DA.F B
  refine F.ok scIsWay (fun vs H Q E h => ?_) (fun cdv A outer s H vs Q E hr h => ?_)
  · obtain ⟨fo, n, ts, a, b, c, t, r, rfl, _⟩ := h
    rfl
  · obtain ⟨fo, n, ts, a, b, c, t, r, rfl, hF, ht, hp, hlen, q⟩ := h
    refine ⟨_, pss_cons (ps_if (PW.pt (pw_or (pt_cmpR op_eq (pe_callB call_len_seq (by rfl) B.len PySem.boot_len (pa_cons (pv 3) pa_nil)) pe_int (nomark _))
        (pw_or (pt_cmpR op_ne (pe_ix ix_tup (pv 3) pe_int (fun _ _ => rfl)) (pv 1) (nomark _))
        (pw_or (pt_cmpR op_ne (pe_ix ix_tup (pv 3) (pe_un un_neg pe_int) (fun _ _ => rfl)) (pv 2) (nomark _))
        (pw_or1 (pt_cmpR op_lt (pe_lenSetT (by rfl) B.len (by rfl) B.set (pv 3)) (pe_callB call_len_seq (by rfl) B.len PySem.boot_len (pa_cons (pv 3) pa_nil)) (nomark _)))))))
        (pss_one (ps_ret pe_bl)) pss_nil)
      (pss_one (ps_ret (pe_callB (cr_all rfl) (by rfl) B.all (by decide +kernel) (pa_cons
        (pe_lc (own := [("one", 4), ("other", 5)]) (g := gTup K 2 (gCons (gName 4) (gCons (gName 5) gNil))) rfl scIsWay.nd (pi_zipA (by rfl) B.zip (pa_cons (pv 3) (pa_cons (pe_slice sl_tail (pv 3) (po_some pe_int) po_none) pa_nil)))
          (blkOk_by (N := nIsWay) (sc := defScope sIsWay) (by decide +kernel))
          (fun _ _ _ _ _ => pg_tup rfl (pgs_cons (pg_name (i := 4) scIsWay.nd rfl (Or.inl rfl)) (pgs_cons (pg_name (i := 5) scIsWay.nd rfl (Or.inl rfl)) pgs_nil)))
          (fun _ _ _ _ _ => pts_nil)
          (fun _ _ _ _ _ => pe_call GA hr (by rfl) DA.g DA.F.kp DA.b .nil pass0 (pa_cons (pv 0) (pa_cons (pv 4) (pa_cons (pv 5) pa_nil))))) pa_nil)))), ?_⟩
    have r0 : 0 < r.length := List.length_pos_iff.mpr hp.ne_nil
    have hhd : r[0]? = some a := by have := hp.head; rwa [List.head?_eq_getElem?] at this
    have hlast : atI (vrow r) (-1) = some (vn c) := by
      have e : r = r.dropLast ++ [c] := by
        have h1 := hp.last
        rw [List.getLast?_eq_some_getLast hp.ne_nil] at h1
        rw [← Option.some.inj h1, List.dropLast_concat_getLast]
      rw [e, vrow_append]
      exact atI_last _ _
    have st : SqT K H t (vrow r) := SqT.of ht
    -- len(way) == 0
    refine ⟨_, rfl, t, _, rfl, .inr st, rfl, _, rfl, ?_⟩
    rw [show decide (V.int ((vrow r).length : Int) = V.int 0) = false from decide_eq_false fun e => by
      have := V.int.inj e
      rw [List.length_map] at this
      omega]
    -- way[0] != a
    refine ⟨_, rfl, t, _, 0, vn a, rfl, rfl, st, atI_nat (j := 0) (vrow_get hhd), _, rfl, rfl, _, rfl, ?_⟩
    rw [dec_vn, decide_eq_true rfl]
    -- way[-1] != b
    refine ⟨_, rfl, 1, rfl, t, _, -1, vn c, rfl, rfl, st, hlast, _, rfl, rfl, _, rfl, ?_⟩
    rw [dec_vn]
    by_cases hcb : c = b
    · rw [decide_eq_true hcb] at q ⊢
      -- len(set(way)) < len(way)
      refine ⟨_, rfl, t, r.map (fun (x : Nat) => (x : Int)), rfl, (by rw [← vrow_ints]; exact st), ?_, (by rw [List.length_map]; omega), _, rfl, t, _, rfl, .inr st, _, _, rfl, rfl, _, rfl, ?_⟩
      · exact List.pairwise_map.mpr (hp.nd.imp fun h e => h (by omega))
      rw [List.length_map, List.length_map, decide_eq_false (Int.lt_irrefl _)]
      -- all([..])
      have e1 : vrow (r.drop 1) = (vrow r).drop 1 := List.map_drop
      refine ⟨_, rfl, _, rfl, 1, rfl, t, vrow r, rfl, rfl, rfl, ht, fun c2 H1 s1 hc => ?_⟩
      rw [← e1] at hc
      refine ⟨t, c2, vrow r, _, rfl, .inr ⟨SqT.of (s1 _ _ ht), SqT.of hc, fun D hD => ?_⟩⟩
      refine lc_zipT (K := K) (a := t) (b := c2) (xs := vrow r) (ys := vrow (r.drop 1)) (by simp) (fun i H' => Same H1 H' ∧ H' D = some (.lst (List.replicate i (V.bl true))))
          ⟨same_upd hD, upd_same⟩ (fun i H' ⟨h1, _⟩ => ⟨SqT.of (h1 _ _ (s1 _ _ ht)), SqT.of (h1 _ _ hc)⟩) ?_ ?_
      · rintro i x y T H2 hx hy ⟨h1, h2⟩ hT
        obtain ⟨u, hu, rfl⟩ := vrow_at hx
        obtain ⟨v, hv, rfl⟩ := vrow_at hy
        rw [List.getElem?_drop, Nat.add_comm] at hv
        have nD : D ≠ T := ne_of_none h2 hT
        have had : FM.Adj ts u v := hp.walk.get hu hv
        have hi : i < 1000 := Nat.lt_of_lt_of_le (List.getElem?_eq_some_iff.mp hu).1 hlen
        have s2 : Same H1 (upd H2 T (.tup [vn u, vn v])) := same_put h1 (h1.free hT)
        refine ⟨T, [vn u, vn v], rfl, .inl (.inl upd_same), rfl, vn u, [vn v], rfl, vn v, [], rfl, rfl, rfl, ?_⟩
        refine ⟨_, rfl, _, rfl, _, rfl, fo, n, ts, u, v, rfl, hF.same (s1.trans s2), had, fun H3 s3 => ?_⟩
        refine ⟨List.replicate i (V.bl true), s3 _ _ (by rw [upd_ne nD]; exact h2), ?_, ?_, ?_⟩
        · rw [List.length_replicate]; exact small1000 (by omega)
        · exact same_put (s2.trans s3) hD
        · rw [upd_same, rep_snoc]
      · rintro H2 ⟨h1, h2⟩
        refine ⟨D, List.replicate (vrow (r.drop 1)).length true, rfl, .inl (.inl (by rw [List.map_replicate]; exact h2)), ?_⟩
        rw [show (List.replicate (vrow (r.drop 1)).length true).all id = true by simp]
        exact q _ (s1.trans h1)
    · rw [decide_eq_false hcb] at q ⊢
      exact q H (Same.refl H)
end
end FW
/-! W6: does_part, shows_tied. -/
namespace FW
open PySem PySem.Spec PyProof.Rows L2 RZ
section
variable {P : Program} {w : World} {K : PySem.W.Frag} {mg : Str → Option Value} {base : Heap}
/-! ### does_part -/
abbrev sDP : Stmt := topS 13
abbrev nDP : List Str := ["forest", "a", "b", "points", "one", "other"]
theorem scDP : FnScope nDP ["forest", "a", "b", "points"] (defScope sDP) := ⟨rfl, rfl, rfl, by decide +kernel, rfl, by decide +kernel, by decide +kernel⟩
def spDP : Sp := fun vs H Q _ => ∃ (fo : Addr) (n : Nat) (ts : FM.Ties) (a b : Nat) (t : Addr) (S : List Nat), vs = [.ref fo, vn a, vn b, .ref t] ∧ ForAt H fo n ts ∧ FM.Small n ts ∧ H t = some (.tup (vrow S)) ∧ S.Pairwise (· < ·) ∧ S.length ≤ 1000 ∧
  ∀ H', Same H H' → Q (.bl (FM.okA a b ts S)) H'
theorem ok_dp {f fR : Addr} {fd fdR : FuncData} (F : Fun K "does_part" "does_part" sDP f fd) (DR : DefAt K mg "do_rise" sRise ["some"] fR fdR) (B : Bi mg) : FnOk P w K mg base CX0 2 f fd ["forest", "a", "b", "points"] spDP := by
  have GR : FnOk P w K mg base CX0 1 fR fdR ["some"] (spRise K) := ok_rise DR.F B
  refine F.ok scDP (fun vs H Q E h => ?_) (fun cdv A outer s H vs Q E hr h => ?_)
  · obtain ⟨fo, n, ts, a, b, t, S, rfl, _⟩ := h
    rfl
  · obtain ⟨fo, n, ts, a, b, t, S, rfl, hF, SM, ht, up, hlen, q⟩ := h
    obtain ⟨ps, tt, pvs, tas, h1, h2, h3, h4, h5⟩ := id hF
    refine ⟨_, pss_cons (ps_if (PW.pt (pw_or (pt_not (pt_val (pe_call GR hr (by rfl) DR.g DR.F.kp DR.b .nil pass0 (pa_cons (pv 3) pa_nil))))
        (pw_or (pt_cmpR op_notIn_seq (pv 1) (pv 3) (by rfl)) (pw_or1 (pt_cmpR op_in_seq (pv 2) (pv 3) (by rfl)))))) (pss_one (ps_ret pe_bl)) pss_nil)
      (pss_one (ps_ret (pe_callB (cr_all rfl) (by rfl) B.all (by decide +kernel) (pa_cons
        (pe_lc (own := [("one", 4), ("other", 5)]) (g := gTup K 2 (gCons (gName 4) (gCons (gName 5) gNil))) rfl scDP.nd (pi_tup (pe_ix ix_tup (pv 0) pe_int (fun _ _ => rfl)))
          (blkOk_by (N := nDP) (sc := defScope sDP) (by decide +kernel))
          (fun _ _ _ _ _ => pg_tup rfl (pgs_cons (pg_name (i := 4) scDP.nd rfl (Or.inl rfl)) (pgs_cons (pg_name (i := 5) scDP.nd rfl (Or.inl rfl)) pgs_nil)))
          (fun _ _ _ _ _ => pts_nil)
          (fun _ _ _ _ _ => pe_cmpR op_eq (pe_cmpR (op_inK (K := K) (by rfl)) (pv 4) (pv 3) (by rfl)) (pe_cmpR (op_inK (K := K) (by rfl)) (pv 5) (pv 3) (by rfl)) (nomark _))) pa_nil)))), ?_⟩
    -- not do_rise(points)
    refine ⟨_, rfl, t, S, rfl, ht, up, hlen, fun H1 s1 => ⟨true, rfl, ?_⟩⟩
    have st1 : SqT K H1 t (vrow S) := SqT.of (s1 _ _ ht)
    -- a not in points
    refine ⟨_, rfl, _, rfl, t, _, rfl, .inr st1, rfl, flat_row S, _, rfl, ?_⟩
    show if (!inV (vn a) (vrow S)) = true then _ else _
    rw [inV_row]
    unfold FM.okA at q
    by_cases ha : a ∈ S
    · rw [decide_eq_true ha] at q ⊢
      -- b in points
      refine ⟨_, rfl, _, rfl, t, _, rfl, .inr st1, rfl, flat_row S, _, rfl, ?_⟩
      show if (inV (vn b) (vrow S)) = true then _ else _
      rw [inV_row]
      by_cases hb : b ∈ S
      · rw [decide_eq_true hb] at q ⊢
        exact q H1 s1
      · rw [decide_eq_false hb] at q ⊢
        refine ⟨_, rfl, fo, _, 1, .ref tt, rfl, rfl, SqT.of (s1 _ _ h1), atI_nat (j := 1) rfl, tt, rfl, ⟨_, SqT.of (s1 _ _ h4)⟩, fun D hD => ?_⟩
        refine lc_tup (K := K) (a := tt) (xs := tas.map V.ref) (fun i H' => Same H1 H' ∧ H' D = some (.lst (((ts.take i).map fun t => decide (t.1 ∈ S) == decide (t.2 ∈ S)).map V.bl)))
          ⟨same_upd hD, upd_same⟩ (fun i H' _ ⟨s2, _⟩ => SqT.of (s2 _ _ (s1 _ _ h4))) ?_ ?_
        · rintro i x H2 hx ⟨s2, e2⟩
          obtain ⟨qa, hqa, rfl⟩ := refs_get hx
          obtain ⟨u, hu, hq⟩ := pair_get h5 hqa
          have s12 : Same H H2 := s1.trans s2
          have st2 : SqT K H2 t (vrow S) := SqT.of (s12 _ _ ht)
          refine ⟨qa, [vn u.1, vn u.2], rfl, SqT.of (s12 _ _ hq), rfl, _, _, rfl, _, _, rfl, rfl, rfl, ?_⟩
          refine ⟨_, rfl, _, rfl, t, _, rfl, .inr st2, rfl, flat_row S, _, rfl, _, rfl, t, _, rfl, .inr st2, rfl, flat_row S, rfl, ?_⟩
          refine ⟨_, e2, ?_, same_put s2 hD, ?_⟩
          · rw [List.length_map, List.length_map, List.length_take]
            have := SM.t9
            exact small9 (by omega)
          · rw [upd_same, List.take_add_one, hu]
            show some (HO.lst (_ ++ [V.bl (decide (V.bl (inV (vn u.1) (vrow S)) = V.bl (inV (vn u.2) (vrow S))))])) = _
            rw [inV_row, inV_row, dec_bl]
            simp
        · rintro H2 ⟨s2, e2⟩
          have el : (tas.map V.ref).length = ts.length := by rw [List.length_map]; exact Paired.length h5
          rw [el, List.take_length] at e2
          refine ⟨D, _, rfl, .inl (.inl e2), ?_⟩
          have := q H2 (s1.trans s2)
          rw [List.all_map]
          simpa using this
    · rw [decide_eq_false ha] at q ⊢
      exact q H1 s1
/-! ### shows_tied -/
abbrev sShows : Stmt := topS 14
abbrev nShows : List Str := ["forest", "a", "b", "thing"]
theorem scShows : FnScope nShows nShows (defScope sShows) := ⟨rfl, rfl, rfl, by decide +kernel, rfl, by decide +kernel, by decide +kernel⟩
def spShows : Sp := fun vs H Q _ => ∃ (fo : Addr) (n : Nat) (ts : FM.Ties) (a b : Nat) (t : Addr), vs = [.ref fo, vn a, vn b, .ref t] ∧ ForAt H fo n ts ∧ FM.Small n ts ∧ a < n ∧ b < n ∧
  ((∃ (r : Addr) (p : List Nat) (c : Nat), H t = some (.tup [.str "way", .ref r]) ∧ H r = some (.tup (vrow p)) ∧ FM.Path ts a c p ∧ ∀ H', Same H H' → Q (.bl (decide (c = b))) H') ∨
   (∃ (r : Addr) (S : List Nat), H t = some (.tup [.str "apart", .ref r]) ∧ H r = some (.tup (vrow S)) ∧ S ∈ FM.AT n ∧ ∀ H', Same H H' → Q (.bl (FM.okA a b ts S)) H'))
theorem ok_shows {f fP fI fD fW fA fR : Addr} {fd fdP fdI fdD fdW fdA fdR : FuncData} (F : Fun K "shows_tied" "shows_tied" sShows f fd) (DP : DefAt K mg "are_points" sPts ["forest", "thing"] fP fdP) (DI : DefAt K mg "is_way" sIsWay ["forest", "a", "b", "way"] fI fdI)
    (DD : DefAt K mg "does_part" sDP ["forest", "a", "b", "points"] fD fdD) (DW : DefAt K mg "is_whole" sWhole ["thing"] fW fdW) (DA : DefAt K mg "are_tied" sAT ["forest", "one", "other"] fA fdA) (DR : DefAt K mg "do_rise" sRise ["some"] fR fdR) (B : Bi mg) : FnOk P w K mg base CX0 3 f fd nShows spShows := by
  have GP : FnOk P w K mg base CX0 2 fP fdP ["forest", "thing"] spPts := ok_pts DP.F DW B
  have GI : FnOk P w K mg base CX0 2 fI fdI ["forest", "a", "b", "way"] spIsWay := ok_isway DI.F DA B
  have GD : FnOk P w K mg base CX0 2 fD fdD ["forest", "a", "b", "points"] spDP := ok_dp DD.F DR B
  refine F.ok scShows (fun vs H Q E h => ?_) (fun cdv A outer s H vs Q E hr h => ?_)
  · obtain ⟨fo, n, ts, a, b, t, rfl, _⟩ := h
    rfl
  · obtain ⟨fo, n, ts, a, b, t, rfl, hF, S, ha, hb, q⟩ := h
    refine ⟨_, pss_cons (ps_if (PW.pt (pw_or (pt_not (pt_val (pe_callB call_isi (by rfl) B.isinstance (by decide +kernel) (pa_cons (pv 3) (pa_cons (pe_bltn (v := .ty "tuple") (by rfl) B.tuple (by decide +kernel) rfl) pa_nil)))))
        (pw_or (pt_cmpR op_ne (pe_callB call_len_seq (by rfl) B.len PySem.boot_len (pa_cons (pv 3) pa_nil)) pe_int (nomark _))
        (pw_or1 (pt_not (pt_val (pe_callB call_isi (by rfl) B.isinstance (by decide +kernel) (pa_cons (pe_ix ix_tup (pv 3) pe_int (fun _ _ => rfl)) (pa_cons (pe_bltn (v := .ty "str") (by rfl) B.str (by decide +kernel) rfl) pa_nil))))))))) (pss_one (ps_ret pe_bl)) pss_nil)
      (pss_cons (ps_if (pt_not (pt_val (pe_call GP hr (by rfl) DP.g DP.F.kp DP.b .nil pass0 (pa_cons (pv 0) (pa_cons (pe_ix ix_tup (pv 3) pe_int (fun _ _ => rfl)) pa_nil))))) (pss_one (ps_ret pe_bl)) pss_nil)
      (pss_cons (ps_if (pt_cmpR op_eq (pe_ix ix_tup (pv 3) pe_int (fun _ _ => rfl)) pe_str (nomark _))
        (pss_one (ps_ret (pe_call GI hr (by rfl) DI.g DI.F.kp DI.b .nil pass0 (pa_cons (pv 0) (pa_cons (pv 1) (pa_cons (pv 2) (pa_cons (pe_ix ix_tup (pv 3) pe_int (fun _ _ => rfl)) pa_nil))))))) pss_nil)
      (pss_one (ps_ret (pe_and (pe_cmpR op_eq (pe_ix ix_tup (pv 3) pe_int (fun _ _ => rfl)) pe_str (nomark _))
        (pe_one (pe_call GD hr (by rfl) DD.g DD.F.kp DD.b .nil pass0 (pa_cons (pv 0) (pa_cons (pv 1) (pa_cons (pv 2) (pa_cons (pe_ix ix_tup (pv 3) pe_int (fun _ _ => rfl)) pa_nil))))))))))), ?_⟩
    have e1 : decide (V.str "way" = V.str "way") = true := decide_eq_true rfl
    have e2 : decide (V.str "apart" = V.str "way") = false := decide_eq_false (by decide +kernel)
    have e3 : decide (V.str "apart" = V.str "apart") = true := decide_eq_true rfl
    rcases q with ⟨r, p, c, ht, hr1, hp, q⟩ | ⟨r, U, ht, hr1, hU, q⟩
    · have st : SqT K H t [.str "way", .ref r] := SqT.of ht
      have plen : p.length ≤ 1000 := by
        have := FM.len_le hp.nd (hp.lt S.F ha)
        have := S.n9
        omega
      refine ⟨_, rfl, .ref t, .ty "tuple", .type "tuple", .type "tuple", true, rfl, .ty _, .base (.tup ht), kit_ty (by decide +kernel), true, rfl, ?_⟩
      refine ⟨_, rfl, t, _, rfl, .inr st, rfl, _, rfl, ?_⟩
      refine ⟨_, rfl, t, _, 0, .str "way", rfl, rfl, st, atI_nat (j := 0) rfl, .str "way", .ty "str", .type "str", .type "str", true, rfl, .ty _, .base (.str _), kit_ty (by decide +kernel), true, rfl, ?_⟩
      refine ⟨_, rfl, _, rfl, t, _, 1, .ref r, rfl, rfl, st, atI_nat (j := 1) rfl, fo, n, ts, r, p, rfl, hF, hr1, hp.lt S.F ha, plen, fun H1 s1 => ⟨true, rfl, ?_⟩⟩
      have st1 : SqT K H1 t [.str "way", .ref r] := SqT.of (s1 _ _ ht)
      refine ⟨_, rfl, t, _, 0, .str "way", rfl, rfl, st1, atI_nat (j := 0) rfl, rfl, _, rfl, ?_⟩
      rw [e1]
      exact ⟨_, rfl, _, rfl, _, rfl, _, rfl, t, _, 1, .ref r, rfl, rfl, st1, atI_nat (j := 1) rfl, fo, n, ts, a, b, c, r, p, rfl, hF.same s1, s1 _ _ hr1, hp, plen, fun H2 s2 => q H2 (s1.trans s2)⟩
    · have st : SqT K H t [.str "apart", .ref r] := SqT.of ht
      have Unlt := FM.AT_lt hU
      have Uup := FM.AT_up hU
      have Ulen : U.length ≤ 1000 := by
        have := FM.len_le (Uup.imp fun h => Nat.ne_of_lt h) Unlt
        have := S.n9
        omega
      refine ⟨_, rfl, .ref t, .ty "tuple", .type "tuple", .type "tuple", true, rfl, .ty _, .base (.tup ht), kit_ty (by decide +kernel), true, rfl, ?_⟩
      refine ⟨_, rfl, t, _, rfl, .inr st, rfl, _, rfl, ?_⟩
      refine ⟨_, rfl, t, _, 0, .str "apart", rfl, rfl, st, atI_nat (j := 0) rfl, .str "apart", .ty "str", .type "str", .type "str", true, rfl, .ty _, .base (.str _), kit_ty (by decide +kernel), true, rfl, ?_⟩
      refine ⟨_, rfl, _, rfl, t, _, 1, .ref r, rfl, rfl, st, atI_nat (j := 1) rfl, fo, n, ts, r, U, rfl, hF, hr1, Unlt, Ulen, fun H1 s1 => ⟨true, rfl, ?_⟩⟩
      have st1 : SqT K H1 t [.str "apart", .ref r] := SqT.of (s1 _ _ ht)
      refine ⟨_, rfl, t, _, 0, .str "apart", rfl, rfl, st1, atI_nat (j := 0) rfl, rfl, _, rfl, ?_⟩
      rw [e2]
      refine ⟨_, rfl, t, _, 0, .str "apart", rfl, rfl, st1, atI_nat (j := 0) rfl, rfl, true, by rw [e3], ?_⟩
      exact ⟨_, rfl, _, rfl, _, rfl, _, rfl, t, _, 1, .ref r, rfl, rfl, st1, atI_nat (j := 1) rfl, fo, n, ts, a, b, r, U, rfl, hF.same s1, S, s1 _ _ hr1, Uup, Ulen, fun H2 s2 => q H2 (s1.trans s2)⟩
end
end FW
/-! W7: the law's draws: _law_begin, _law_next, _law_many, _law_worth. -/
namespace FW
open PySem PySem.Spec PyProof.Rows L2 RZ
/-! ### the dict of the draws -/
abbrev kC : Key := Sum.inr ("cells" : Str)
abbrev kA : Key := Sum.inr ("at" : Str)
abbrev kL : Key := Sum.inr ("left" : Str)
abbrev kS : Key := Sum.inr ("seed" : Str)
theorem nCA : ¬ kC = kA := by decide +kernel
theorem nCL : ¬ kC = kL := by decide +kernel
theorem nCS : ¬ kC = kS := by decide +kernel
theorem nAC : ¬ kA = kC := by decide +kernel
theorem nAL : ¬ kA = kL := by decide +kernel
theorem nAS : ¬ kA = kS := by decide +kernel
theorem nLC : ¬ kL = kC := by decide +kernel
theorem nLA : ¬ kL = kA := by decide +kernel
theorem nLS : ¬ kL = kS := by decide +kernel
theorem nSC : ¬ kS = kC := by decide +kernel
theorem nSA : ¬ kS = kA := by decide +kernel
theorem nSL : ¬ kS = kL := by decide +kernel
def drD (c : Addr) (a l s : Int) : List (Key × V) := [(kC, .ref c), (kA, .int a), (kL, .int l), (kS, .int s)]
section
variable {c : Addr} {a l s x : Int}
theorem dr_c : valV (drD c a l s) kC = some (.ref c) := valV_pos (p := (kC, V.ref c)) rfl
theorem dr_a : valV (drD c a l s) kA = some (.int a) := by
  unfold drD
  rw [valV_neg (p := (kC, V.ref c)) nCA, valV_pos (p := (kA, V.int a)) rfl]
theorem dr_l : valV (drD c a l s) kL = some (.int l) := by
  unfold drD
  rw [valV_neg (p := (kC, V.ref c)) nCL, valV_neg (p := (kA, V.int a)) nAL, valV_pos (p := (kL, V.int l)) rfl]
theorem dr_s : valV (drD c a l s) kS = some (.int s) := by
  unfold drD
  rw [valV_neg (p := (kC, V.ref c)) nCS, valV_neg (p := (kA, V.int a)) nAS, valV_neg (p := (kL, V.int l)) nLS, valV_pos (p := (kS, V.int s)) rfl]
theorem put_in {kvs : List (Key × V)} {k : Key} {v : V} {o : V} (h : valV kvs k = some o) : putK kvs k v = kvs.map fun kv => if kv.1 = k then (kv.1, v) else kv := by
  unfold putK
  rw [if_pos (by rw [valV_any, h] <;> rfl)]
theorem dr_pa : putK (drD c a l s) kA (.int x) = drD c x l s := by
  rw [put_in dr_a]
  show [if kC = kA then (kC, V.int x) else (kC, V.ref c), if kA = kA then (kA, V.int x) else (kA, V.int a), if kL = kA then (kL, V.int x) else (kL, V.int l), if kS = kA then (kS, V.int x) else (kS, V.int s)] = _
  rw [if_neg nCA, if_pos rfl, if_neg nLA, if_neg nSA] <;> rfl
theorem dr_pl : putK (drD c a l s) kL (.int x) = drD c a x s := by
  rw [put_in dr_l]
  show [if kC = kL then (kC, V.int x) else (kC, V.ref c), if kA = kL then (kA, V.int x) else (kA, V.int a), if kL = kL then (kL, V.int x) else (kL, V.int l), if kS = kL then (kS, V.int x) else (kS, V.int s)] = _
  rw [if_neg nCL, if_neg nAL, if_pos rfl, if_neg nSL] <;> rfl
theorem dr_ps : putK (drD c a l s) kS (.int x) = drD c a l x := by
  rw [put_in dr_s]
  show [if kC = kS then (kC, V.int x) else (kC, V.ref c), if kA = kS then (kA, V.int x) else (kA, V.int a), if kL = kS then (kL, V.int x) else (kL, V.int l), if kS = kS then (kS, V.int x) else (kS, V.int s)] = _
  rw [if_neg nCS, if_neg nAS, if_neg nLS, if_pos rfl] <;> rfl
theorem dr_new : mergeK [] (drD c a l s) = drD c a l s := by
  show putK (putK (putK (putK [] kC (.ref c)) kA (.int a)) kL (.int l)) kS (.int s) = _
  have h1 : putK ([] : List (Key × V)) kC (.ref c) = [(kC, .ref c)] := putK_new _ rfl
  have h2 : putK [(kC, V.ref c)] kA (.int a) = [(kC, .ref c), (kA, .int a)] := putK_new _ (by rw [valV_neg (p := (kC, V.ref c)) nCA]; rfl)
  have h3 : putK [(kC, V.ref c), (kA, .int a)] kL (.int l) = [(kC, .ref c), (kA, .int a), (kL, .int l)] := putK_new _ (by rw [valV_neg (p := (kC, V.ref c)) nCL, valV_neg (p := (kA, V.int a)) nAL]; rfl)
  have h4 : putK [(kC, V.ref c), (kA, .int a), (kL, .int l)] kS (.int s) = [(kC, .ref c), (kA, .int a), (kL, .int l), (kS, .int s)] := putK_new _ (by rw [valV_neg (p := (kC, V.ref c)) nCS, valV_neg (p := (kA, V.int a)) nAS, valV_neg (p := (kL, V.int l)) nLS]; rfl)
  rw [h1, h2, h3, h4] <;> rfl
end
theorem dget_of {H : Hp} {D : Addr} {kvs : List (Key × V)} {k : Key} {v : V} (h : H D = some (.dK kvs)) (e : valV kvs k = some v) : DGet H D (kV k) (some v) := e ▸ DGet.k h
theorem dput_of {H : Hp} {D : Addr} {kvs kvs' : List (Key × V)} {k : Key} {v : V} (h : H D = some (.dK kvs)) (hl : kvs.length < sizeLine) (e : putK kvs k v = kvs') : DPut H D (kV k) v (upd H D (.dK kvs')) := e ▸ DPut.k h hl
theorem dr_len {c : Addr} {a l s : Int} : (drD c a l s).length < sizeLine := by show 4 < sizeLine; decide
/-- the draws stand at D -/
def DrawsAt (c : Addr) (H : Hp) (D : Addr) : Prop := ∃ (cells : List Int) (a l s : Int), H D = some (.dK (drD c a l s)) ∧ H c = some (.lst (cells.map V.int)) ∧ 0 ≤ a ∧ 0 ≤ l ∧ 0 ≤ s ∧ s < 2305843009213693951
/-- all but D stands -/
def But (D : Addr) (H H' : Hp) : Prop := ∀ b o, b ≠ D → H b = some o → H' b = some o
theorem But.refl (D : Addr) (H : Hp) : But D H H := fun _ _ _ h => h
theorem But.trans {D : Addr} {H H1 H2 : Hp} (a : But D H H1) (b : But D H1 H2) : But D H H2 := fun c o n h => b c o n (a c o n h)
theorem But.of {D : Addr} {H H' : Hp} (s : Same H H') : But D H H' := fun b o _ h => s b o h
theorem But.upd {D : Addr} {H : Hp} {o : HO} : But D H (L2.upd H D o) := fun b x n e => by rw [upd_ne n]; exact e
theorem But.tups {D c : Addr} {H H' : Hp} (s : But D H H') (d : DrawsAt c H D) : Tups H H' := fun b xs h => s b _ (fun e => by
  obtain ⟨cells, a, l, z, h1, _⟩ := d
  subst e
  rw [h] at h1; cases h1) h
theorem But.lst {D c : Addr} {H H' : Hp} (s : But D H H') (d : DrawsAt c H D) {b : Addr} {xs : List V} (h : H b = some (.lst xs)) : H' b = some (.lst xs) := s b _ (fun e => by
  obtain ⟨cells, a, l, z, h1, _⟩ := d
  subst e
  rw [h] at h1; cases h1) h
theorem But.free {D c : Addr} {H H' : Hp} (s : But D H H') (d' : DrawsAt c H' D) {b : Addr} (h : H' b = none) : H b = none := by
  have n : b ≠ D := fun e => by
    obtain ⟨cells, a, l, z, h1, _⟩ := d'
    subst e
    rw [h] at h1; cases h1
  cases q : H b with
  | none => rfl
  | some o =>
    rw [s b o n q] at h
    cases h
theorem But.put {D : Addr} {H H' : Hp} {p : Addr} {o : HO} (s : But D H H') (h : H p = none) : But D H (L2.upd H' p o) := fun b x n e => by
  rw [upd_ne (ne_of_none e h)]
  exact s b x n e
theorem DrawsAt.same {H H' : Hp} {D c : Addr} (d : DrawsAt c H D) (s : Same H H') : DrawsAt c H' D := by
  obtain ⟨cells, a, l, z, h1, h2, h3⟩ := d
  exact ⟨cells, a, l, z, s _ _ h1, s _ _ h2, h3⟩
theorem DrawsAt.put {H : Hp} {D c p : Addr} {o : HO} (d : DrawsAt c H D) (h1 : p ≠ D) (h2 : p ≠ c) : DrawsAt c (L2.upd H p o) D := by
  obtain ⟨cells, a, l, z, e1, e2, e3⟩ := d
  exact ⟨cells, a, l, z, by rw [upd_ne h1.symm]; exact e1, by rw [upd_ne h2.symm]; exact e2, e3⟩
theorem DrawsAt.ne {H : Hp} {D c p : Addr} (d : DrawsAt c H D) (h : H p = none) : p ≠ D ∧ p ≠ c := by
  obtain ⟨cells, a, l, z, e1, e2, e3⟩ := d
  exact ⟨fun e => (by rw [e, e1] at h; cases h), fun e => (by rw [e, e2] at h; cases h)⟩
section
variable {P : Program} {w : World} {K : PySem.W.Frag} {mg : Str → Option Value} {base : Heap}
/-! ### _law_begin -/
abbrev sBeg : Stmt := topS 16
theorem scBeg : FnScope ["_law_script"] ["_law_script"] (defScope sBeg) := ⟨rfl, rfl, rfl, by decide +kernel, rfl, by decide +kernel, by decide +kernel⟩
def spBeg (K : PySem.W.Frag) : Sp := fun vs H Q _ => ∃ (s : Addr) (ns : List Int), vs = [.ref s] ∧ SqL K H s (ns.map V.int) ∧ ∀ H' D c, Same H H' → DrawsAt c H' D → Q (.ref D) H'
theorem cut_ints (ns : List Int) (lo hi : Option Int) : ∃ ms : List Int, cutV (ns.map V.int) lo hi = ms.map V.int := by
  unfold cutV
  exact ⟨(ns.drop _).take _, by rw [List.map_take, List.map_drop]⟩
theorem ok_beg {f : Addr} {fd : FuncData} (F : Fun K "_law_begin" "_law_begin" sBeg f fd) (B : Bi mg) : FnOk P w K mg base CX0 1 f fd ["_law_script"] (spBeg K) := by
  refine F.ok scBeg (fun vs H Q E h => ?_) (fun cdv A outer s H vs Q E hr h => ?_)
  · obtain ⟨a, ns, rfl, _⟩ := h
    rfl
  · obtain ⟨a, ns, rfl, hS, q⟩ := h
    refine ⟨_, pss_one (ps_ret (pe_disp (pps_cons pe_str (pe_callTy call_list_of (by rfl) B.list (by decide +kernel) (pa_cons (pe_slice sl_list (pv 0) po_none (po_some pe_int)) pa_nil))
      (pps_cons pe_str pe_int (pps_cons pe_str pe_int (pps_cons pe_str pe_int pps_nil)))) (by rfl) (by rfl) (fun z => by cases z) (by decide))), ?_⟩
    intro D hD
    have s1 : Same H (upd H D (.dK [])) := same_upd hD
    obtain ⟨ms, em⟩ := cut_ints ns none (some 63)
    refine ⟨_, rfl, 63, rfl, a, _, rfl, s1.seq hS, fun p hp => ?_⟩
    rw [em]
    refine ⟨p, _, rfl, .inl (SqL.of upd_same), fun c hc => ?_⟩
    have nDp : D ≠ p := fun e => by rw [← e, upd_same] at hp; cases hp
    have nDc : D ≠ c := fun e => by rw [← e, upd_ne nDp, upd_same] at hc; cases hc
    refine ⟨by rw [upd_ne nDc, upd_ne nDp, upd_same], drD c 0 0 1000003, rfl, (by show 4 ≤ 15; decide), ?_⟩
    rw [dr_new]
    have hc1 : upd H D (.dK []) c = none := (same_upd hp).free hc
    refine q _ D c ?_ ⟨ms, 0, 0, 1000003, upd_same, by rw [upd_ne nDc.symm, upd_same], by decide, by decide, by decide, by decide⟩
    exact same_put (same_put (same_put s1 (s1.free hp)) (s1.free hc1)) hD
/-! ### _law_next -/
abbrev sNext : Stmt := topS 17
abbrev nNext : List Str := ["_law_draws", "_law_many_here", "_law_cell", "_law_digit"]
theorem scNext : FnScope nNext ["_law_draws", "_law_many_here"] (defScope sNext) := ⟨rfl, rfl, rfl, by decide +kernel, rfl, by decide +kernel, by decide +kernel⟩
def spNext : Sp := fun vs H Q _ => ∃ (D c : Addr) (m : Int), vs = [.ref D, .int m] ∧ DrawsAt c H D ∧ 0 < m ∧ m ≤ 100000000000000000000 ∧ ∀ H' (r : Nat), But D H H' → DrawsAt c H' D → (r : Int) < m → Q (vn r) H'
theorem ok_next {f : Addr} {fd : FuncData} (F : Fun K "_law_next" "_law_next" sNext f fd) (B : Bi mg) : FnOk P w K mg base CX0 1 f fd ["_law_draws", "_law_many_here"] spNext := by
  refine F.ok scNext (fun vs H Q E h => ?_) (fun cdv A outer s H vs Q E hr h => ?_)
  · obtain ⟨D, c, m, rfl, _⟩ := h
    rfl
  · obtain ⟨D, c, m, rfl, hDr, m0, m1, q⟩ := h
    have hu := hu_of hr
    have p30 : (0 : Int) < 10 ^ Int.toNat 30 := by decide +kernel
    have pM : (0 : Int) < 2305843009213693951 := by decide
    have pM2 : (0 : Int) < 2305843009213693921 := by decide
    refine ⟨_, C8.pss_cut (ps_if (PW.pt (pw_and (pt_cmpR op_eq (pe_dget hu (pv 0) pe_str (fun _ _ => rfl)) pe_int (nomark _))
        (pw_and1 (pt_cmpR op_lt (pe_dget hu (pv 0) pe_str (fun _ _ => rfl)) (pe_callB call_len_seq (by rfl) B.len PySem.boot_len (pa_cons (pe_dget hu (pv 0) pe_str (fun _ _ => rfl)) pa_nil)) (nomark _)))))
        (pss_cons (ps_set (i := 2) scNext.nd rfl (.inl rfl) (pe_ix ix_list (pe_dget hu (pv 0) pe_str (fun _ _ => rfl)) (pe_dget hu (pv 0) pe_str (fun _ _ => rfl)) (fun _ _ => rfl)))
        (pss_cons (ps_dput hu (pv 0) pe_str (pe_op op_add (pe_dget hu (pv 0) pe_str (fun _ _ => rfl)) pe_int) rfl)
        (pss_cons (ps_dput hu (pv 0) pe_str (pe_op op_mod (pe_op op_add (pe_op op_add (pe_op op_mul (pe_dget hu (pv 0) pe_str (fun _ _ => rfl)) pe_int) (pe_op op_mod (pv 2) (pe_op op_pow pe_int pe_int))) pe_int) pe_int) rfl)
        (pss_one (ps_dput hu (pv 0) pe_str (pe_op op_mul (pv 2) (pe_callTy call_int1 (by rfl) B.int (by decide +kernel) (pa_cons (pe_cmpR op_ge (pv 2) (pe_op op_pow pe_int pe_int) (nomark _)) pa_nil))) rfl))))) pss_nil)
      (pss_cons (ps_if (pt_cmpR op_gt (pe_dget hu (pv 0) pe_str (fun _ _ => rfl)) pe_int (nomark _))
        (pss_cons (ps_set (i := 3) scNext.nd rfl (.inl rfl) (pe_op op_mod (pe_dget hu (pv 0) pe_str (fun _ _ => rfl)) (pv 1)))
        (pss_cons (ps_dput hu (pv 0) pe_str (pe_op op_fdivW (pe_dget hu (pv 0) pe_str (fun _ _ => rfl)) (pv 1)) rfl)
        (pss_one (ps_ret (pv 3))))) pss_nil)
      (pss_cons (ps_dput hu (pv 0) pe_str (pe_op op_mod (pe_op op_add (pe_op op_mul (pe_dget hu (pv 0) pe_str (fun _ _ => rfl)) pe_int) pe_int) pe_int) rfl)
      (pss_one (ps_ret (pe_op op_mod (pe_op op_fdiv (pe_op op_mod (pe_op op_mul (pe_dget hu (pv 0) pe_str (fun _ _ => rfl)) (pe_dget hu (pv 0) pe_str (fun _ _ => rfl))) pe_int) pe_int) (pv 1)))))), ?_⟩
    refine ⟨fun σ H' => ∃ y2, σ = [some (.ref D), some (.int m), y2, none] ∧ But D H H' ∧ DrawsAt c H' D, ?_, ?_⟩
    · obtain ⟨cells, a, l, z, hD, hc, a0, l0, z0, z1⟩ := id hDr
      have nc : c ≠ D := fun e => by rw [e, hD] at hc; cases hc
      refine ⟨_, rfl, D, _, rfl, dget_of hD dr_l, rfl, _, rfl, ?_⟩
      by_cases hl : l = 0
      · rw [show decide (V.int l = V.int 0) = true from decide_eq_true (by rw [hl])]
        refine ⟨_, rfl, D, _, rfl, dget_of hD dr_a, _, rfl, D, _, rfl, dget_of hD dr_c, c, _, rfl, .inl (SqL.of hc), _, _, rfl, rfl, _, rfl, ?_⟩
        by_cases ha : a < ((cells.map V.int).length : Int)
        · rw [decide_eq_true ha]
          rw [List.length_map] at ha
          obtain ⟨j, ej⟩ : ∃ j : Nat, a = (j : Int) := ⟨a.toNat, by omega⟩
          obtain ⟨cell, hcell⟩ : ∃ cell, cells[j]? = some cell := ⟨_, List.getElem?_eq_getElem (by omega)⟩
          -- cell = draws['cells'][draws['at']]
          refine ⟨_, rfl, D, _, rfl, dget_of hD dr_c, _, rfl, D, _, rfl, dget_of hD dr_a, c, _, a, .int cell, rfl, rfl, SqL.of hc, at_of ej (by rw [List.getElem?_map, hcell]; rfl), ?_⟩
          -- draws['at'] = draws['at'] + 1
          refine ⟨_, rfl, D, _, rfl, dget_of hD dr_a, _, _, rfl, rfl, _, rfl, D, _, rfl, dput_of hD dr_len dr_pa, ?_⟩
          have hD1 : upd H D (.dK (drD c (a + 1) l z)) D = some (.dK (drD c (a + 1) l z)) := upd_same
          -- draws['seed'] = ..
          refine ⟨_, rfl, D, _, rfl, dget_of hD1 dr_s, _, _, rfl, rfl, .inl ⟨by omega, by omega⟩, _, rfl, _, _, rfl, rfl, ⟨by decide, by decide, by decide⟩, _, _, rfl, rfl, p30, _, _, rfl, rfl, _, _, rfl, rfl, _, _, rfl, rfl, pM, _, rfl, D, _, rfl, dput_of hD1 dr_len dr_ps, ?_⟩
          have hs1 : 0 ≤ (z * 7368787 + cell % 10 ^ Int.toNat 30 + 11) % 2305843009213693951 := Int.emod_nonneg _ (by decide)
          have hs2 : (z * 7368787 + cell % 10 ^ Int.toNat 30 + 11) % 2305843009213693951 < 2305843009213693951 := Int.emod_lt_of_pos _ pM
          generalize (z * 7368787 + cell % 10 ^ Int.toNat 30 + 11) % 2305843009213693951 = z2 at hs1 hs2 ⊢
          have hD2 : upd (upd H D (.dK (drD c (a + 1) l z))) D (.dK (drD c (a + 1) l z2)) D = some (.dK (drD c (a + 1) l z2)) := upd_same
          -- draws['left'] = cell * int(cell >= 10 ** 18)
          refine ⟨_, rfl, _, rfl, _, _, rfl, rfl, ⟨by decide, by decide, by decide⟩, _, _, rfl, rfl, .inr ⟨_, rfl, _, _, rfl, rfl, .inr ?_, _, rfl, D, _, rfl, dput_of hD2 dr_len dr_pl, ?_⟩⟩
          · split <;> exact ⟨by decide, by decide⟩
          · refine ⟨_, rfl, (But.upd.trans But.upd).trans But.upd, cells, a + 1, _, z2, upd_same, by rw [upd_ne nc, upd_ne nc, upd_ne nc]; exact hc, by omega, ?_, hs1, hs2⟩
            have p18 : (0 : Int) ≤ 10 ^ Int.toNat 18 := by decide +kernel
            split
            · rename_i hg
              have := of_decide_eq_true hg
              omega
            · omega
        · rw [decide_eq_false ha]
          exact ⟨none, rfl, But.refl D H, hDr⟩
      · rw [show decide (V.int l = V.int 0) = false from decide_eq_false fun e => hl (V.int.inj e)]
        exact ⟨none, rfl, But.refl D H, hDr⟩
    · rintro σ H1 ⟨y2, rfl, b1, cells, a, l, z, hD, hc, a0, l0, z0, z1⟩
      have nc : c ≠ D := fun e => by rw [e, hD] at hc; cases hc
      refine ⟨_, rfl, D, _, rfl, dget_of hD dr_l, _, _, rfl, rfl, _, rfl, ?_⟩
      by_cases hl : 0 < l
      · rw [decide_eq_true hl]
        have d1 : 0 ≤ l % m := Int.emod_nonneg _ (by omega)
        have d2 : l % m < m := Int.emod_lt_of_pos _ m0
        have d3 : 0 ≤ l / m := Int.ediv_nonneg l0 (by omega)
        have hdiv : CDivW l m := wide_div (b := 70) m0 (by have : (2 : Nat) ^ 70 = 1180591620717411303424 := by decide +kernel
                                                           omega) (by decide) (by decide)
        refine ⟨_, rfl, D, _, rfl, dget_of hD dr_l, _, rfl, _, _, rfl, rfl, m0, ?_⟩
        refine ⟨_, rfl, D, _, rfl, dget_of hD dr_l, _, rfl, _, _, rfl, rfl, hdiv, _, rfl, D, _, rfl, dput_of hD dr_len dr_pl, ?_⟩
        refine ⟨_, rfl, ?_⟩
        have e : l % m = (((l % m).toNat : Nat) : Int) := by omega
        show Q (V.int (l % m)) _
        rw [e]
        exact q _ _ (b1.trans But.upd) ⟨cells, a, _, z, upd_same, by rw [upd_ne nc]; exact hc, a0, d3, z0, z1⟩ (by omega)
      · rw [decide_eq_false hl]
        refine ⟨_, rfl, D, _, rfl, dget_of hD dr_s, _, _, rfl, rfl, .inl ⟨by omega, by omega⟩, _, _, rfl, rfl, _, _, rfl, rfl, pM, _, rfl, D, _, rfl, dput_of hD dr_len dr_ps, ?_⟩
        have hs1 : 0 ≤ (z * 1181783497276652981 + 12345678910987) % 2305843009213693951 := Int.emod_nonneg _ (by decide)
        have hs2 : (z * 1181783497276652981 + 12345678910987) % 2305843009213693951 < 2305843009213693951 := Int.emod_lt_of_pos _ pM
        generalize (z * 1181783497276652981 + 12345678910987) % 2305843009213693951 = z2 at hs1 hs2 ⊢
        have hD2 : upd H1 D (.dK (drD c a l z2)) D = some (.dK (drD c a l z2)) := upd_same
        refine ⟨_, rfl, D, _, rfl, dget_of hD2 dr_s, _, rfl, D, _, rfl, dget_of hD2 dr_s, _, _, rfl, rfl, .inl ⟨by omega, by omega⟩, _, _, rfl, rfl, pM2, _, _, rfl, rfl, ⟨by decide, by decide⟩, _, rfl, _, _, rfl, rfl, m0, ?_⟩
        generalize z2 * z2 % 2305843009213693921 / 65537 = y
        have d1 : 0 ≤ y % m := Int.emod_nonneg _ (by omega)
        have d2 : y % m < m := Int.emod_lt_of_pos _ m0
        have e : y % m = (((y % m).toNat : Nat) : Int) := by omega
        show Q (V.int (y % m)) _
        rw [e]
        exact q _ _ (b1.trans But.upd) ⟨cells, a, l, z2, upd_same, by rw [upd_ne nc]; exact hc, a0, l0, hs1, hs2⟩ (by omega)
/-! ### _law_many -/
abbrev sMany : Stmt := topS 18
abbrev nMany : List Str := ["_law_draws", "_law_few", "_law_most"]
theorem scMany : FnScope nMany nMany (defScope sMany) := ⟨rfl, rfl, rfl, by decide +kernel, rfl, by decide +kernel, by decide +kernel⟩
def spMany : Sp := fun vs H Q _ => ∃ (D c : Addr) (few most : Nat), vs = [.ref D, vn few, vn most] ∧ DrawsAt c H D ∧ few ≤ 1000 ∧ most ≤ 1000 ∧ ∀ H' (r : Nat), But D H H' → DrawsAt c H' D → r ≤ max few most → Q (vn r) H'
theorem ok_many {f fN : Addr} {fd fdN : FuncData} (F : Fun K "_law_many" "_law_many" sMany f fd) (DN : DefAt K mg "_law_next" sNext ["_law_draws", "_law_many_here"] fN fdN) (B : Bi mg) : FnOk P w K mg base CX0 2 f fd nMany spMany := by
  have GN : FnOk P w K mg base CX0 1 fN fdN ["_law_draws", "_law_many_here"] spNext := ok_next DN.F B
  refine F.ok scMany (fun vs H Q E h => ?_) (fun cdv A outer s H vs Q E hr h => ?_)
  · obtain ⟨D, c, few, most, rfl, _⟩ := h
    rfl
  · obtain ⟨D, c, few, most, rfl, hD, h1, h2, q⟩ := h
    refine ⟨_, pss_cons (ps_if (pt_cmpR op_eq (pe_call GN hr (by rfl) DN.g DN.F.kp DN.b .nil pass0 (pa_cons (pv 0) (pa_cons pe_int pa_nil))) pe_int (nomark _))
        (pss_one (ps_ret (pe_call GN hr (by rfl) DN.g DN.F.kp DN.b .nil pass0 (pa_cons (pv 0) (pa_cons (pe_op op_add (pv 2) pe_int) pa_nil))))) pss_nil)
      (pss_one (ps_ret (pe_call GN hr (by rfl) DN.g DN.F.kp DN.b .nil pass0 (pa_cons (pv 0) (pa_cons (pe_op op_add (pv 1) pe_int) pa_nil))))), ?_⟩
    refine ⟨_, rfl, D, c, 8, rfl, hD, by decide, by decide, fun H1 r b1 d1 hr8 => ⟨rfl, _, rfl, ite2 (fun _ => ?_) (fun _ => ?_)⟩⟩
    · exact ⟨_, rfl, _, rfl, _, _, rfl, rfl, D, c, _, rfl, d1, by omega, by omega, fun H2 r2 b2 d2 h2 => q H2 r2 (b1.trans b2) d2 (by omega)⟩
    · exact ⟨_, rfl, _, rfl, _, _, rfl, rfl, D, c, _, rfl, d1, by omega, by omega, fun H2 r2 b2 d2 h2 => q H2 r2 (b1.trans b2) d2 (by omega)⟩
/-! ### _law_worth -/
abbrev sWorth : Stmt := topS 19
abbrev nWorth : List Str := ["_law_draws", "_law_way"]
theorem scWorth : FnScope nWorth ["_law_draws"] (defScope sWorth) := ⟨rfl, rfl, rfl, by decide +kernel, rfl, by decide +kernel, by decide +kernel⟩
def spWorth : Sp := fun vs H Q _ => ∃ (D c : Addr), vs = [.ref D] ∧ DrawsAt c H D ∧ ∀ H' (z : Int), But D H H' → DrawsAt c H' D → Q (.int z) H'
theorem ok_worth {f fN : Addr} {fd fdN : FuncData} (F : Fun K "_law_worth" "_law_worth" sWorth f fd) (DN : DefAt K mg "_law_next" sNext ["_law_draws", "_law_many_here"] fN fdN) (B : Bi mg) : FnOk P w K mg base CX0 2 f fd ["_law_draws"] spWorth := by
  have GN : FnOk P w K mg base CX0 1 fN fdN ["_law_draws", "_law_many_here"] spNext := ok_next DN.F B
  refine F.ok scWorth (fun vs H Q E h => ?_) (fun cdv A outer s H vs Q E hr h => ?_)
  · obtain ⟨D, c, rfl, _⟩ := h
    rfl
  · obtain ⟨D, c, rfl, hD, q⟩ := h
    have p20 : (10 : Int) ^ Int.toNat 20 = 100000000000000000000 := by decide +kernel
    refine ⟨_, pss_cons (ps_set (i := 1) scWorth.nd rfl (.inl rfl) (pe_call GN hr (by rfl) DN.g DN.F.kp DN.b .nil pass0 (pa_cons (pv 0) (pa_cons pe_int pa_nil))))
      (pss_cons (ps_if (pt_cmpR op_lt (pv 1) pe_int (nomark _)) (pss_one (ps_ret (pe_call GN hr (by rfl) DN.g DN.F.kp DN.b .nil pass0 (pa_cons (pv 0) (pa_cons pe_int pa_nil))))) pss_nil)
      (pss_cons (ps_if (pt_cmpR op_eq (pv 1) pe_int (nomark _)) (pss_one (ps_ret (pe_op op_sub (pe_un un_neg pe_int) (pe_call GN hr (by rfl) DN.g DN.F.kp DN.b .nil pass0 (pa_cons (pv 0) (pa_cons pe_int pa_nil)))))) pss_nil)
      (pss_one (ps_ret (pe_ix ix_list (pe_lst (pa_cons (pe_op op_sub (pe_op op_pow pe_int pe_int) pe_int) (pa_cons (pe_op op_sub pe_int (pe_op op_pow pe_int pe_int)) (pa_cons pe_int
          (pa_cons (pe_call GN hr (by rfl) DN.g DN.F.kp DN.b .nil pass0 (pa_cons (pv 0) (pa_cons (pe_op op_pow pe_int pe_int) pa_nil))) pa_nil)))))
        (pe_call GN hr (by rfl) DN.g DN.F.kp DN.b .nil pass0 (pa_cons (pv 0) (pa_cons pe_int pa_nil))) (fun _ _ => rfl)))))), ?_⟩
    refine ⟨_, rfl, D, c, 6, rfl, hD, by decide, by decide, fun H1 r b1 d1 hr6 => ?_⟩
    refine ⟨_, rfl, _, _, rfl, rfl, _, rfl, ite2 (fun _ => ?_) (fun _ => ?_)⟩
    · exact ⟨_, rfl, D, c, 7, rfl, d1, by decide, by decide, fun H2 r2 b2 d2 _ => q H2 _ (b1.trans b2) d2⟩
    · refine ⟨_, rfl, rfl, _, rfl, ite2 (fun _ => ?_) (fun _ => ?_)⟩
      · exact ⟨1, rfl, _, rfl, D, c, 9, rfl, d1, by decide, by decide, fun H2 r2 b2 d2 _ => ⟨_, _, rfl, rfl, q H2 _ (b1.trans b2) d2⟩⟩
      · refine ⟨_, _, rfl, rfl, ⟨by decide, by decide, by decide⟩, _, _, rfl, rfl, _, _, rfl, rfl, ⟨by decide, by decide, by decide⟩, _, _, rfl, rfl, _, rfl, _, _, rfl, rfl, ⟨by decide, by decide, by decide⟩, ?_⟩
        refine ⟨D, c, _, rfl, d1, by rw [p20]; decide, by rw [p20]; decide, fun H2 r2 b2 d2 _ => ?_⟩
        refine ⟨(by show 4 ≤ sizeLine; decide), fun p hp => ?_⟩
        have b3 : But D H2 (upd H2 p (.lst ([10 ^ Int.toNat 30 - 1, 1 - 10 ^ Int.toNat 30, 0, (r2 : Int)].map V.int))) := .of (same_upd hp)
        have d3 := d2.same (same_upd (o := HO.lst ([10 ^ Int.toNat 30 - 1, 1 - 10 ^ Int.toNat 30, 0, (r2 : Int)].map V.int)) hp)
        refine ⟨_, rfl, D, c, 4, rfl, d3, by decide, by decide, fun H3 r3 b4 d4 h4 => ?_⟩
        have hlt : r3 < [10 ^ Int.toNat 30 - 1, 1 - 10 ^ Int.toNat 30, 0, (r2 : Int)].length := by show r3 < 4; omega
        obtain ⟨z, hz⟩ : ∃ z, [10 ^ Int.toNat 30 - 1, 1 - 10 ^ Int.toNat 30, 0, (r2 : Int)][r3]? = some z := ⟨_, List.getElem?_eq_getElem hlt⟩
        refine ⟨p, _, _, .int z, rfl, rfl, SqL.of (b4.lst d3 upd_same), atI_nat (j := r3) (by show ([10 ^ Int.toNat 30 - 1, 1 - 10 ^ Int.toNat 30, 0, (r2 : Int)].map V.int)[r3]? = _; rw [List.getElem?_map, hz]; rfl), ?_⟩
        exact q H3 z (((b1.trans b2).trans b3).trans b4) d4
end
end FW
/-! W8: _law_forest. -/
namespace FW
open PySem PySem.Spec PyProof.Rows L2 RZ
theorem paired_perm {α β : Type} {F : α → β → Prop} {l l' : List α} (h : l'.Perm l) : ∀ {m : List β}, Paired F l m → ∃ m', m'.Perm m ∧ Paired F l' m' := by
  induction h with
  | nil => intro m q; exact ⟨m, .refl _, q⟩
  | cons x _ ih =>
    intro m q
    cases q with
    | cons r t =>
      obtain ⟨m', p, q'⟩ := ih t
      exact ⟨_ :: m', p.cons _, .cons r q'⟩
  | swap x y l =>
    intro m q
    cases q with
    | cons r t =>
      cases t with
      | cons r' t =>
        exact ⟨_, .swap _ _ _, .cons r' (.cons r t)⟩
  | trans _ _ ih1 ih2 =>
    intro m q
    obtain ⟨m1, p1, q1⟩ := ih2 q
    obtain ⟨m2, p2, q2⟩ := ih1 q1
    exact ⟨m2, p2.trans p1, q2⟩
theorem ties_ref {H : Hp} : ∀ {tas : List Addr} {ts : FM.Ties}, TiesAt H tas ts → Paired (fun v (t : Nat × Nat) => ∃ q, v = V.ref q ∧ H q = some (.tup [vn t.1, vn t.2])) (tas.map V.ref) ts
  | _, _, .nil => .nil
  | _, _, .cons r t => .cons ⟨_, rfl, r⟩ (ties_ref t)
theorem ref_ties {H : Hp} : ∀ {ys : List V} {ts : FM.Ties}, Paired (fun v (t : Nat × Nat) => ∃ q, v = V.ref q ∧ H q = some (.tup [vn t.1, vn t.2])) ys ts → ∃ tas : List Addr, ys = tas.map V.ref ∧ TiesAt H tas ts
  | _, _, .nil => ⟨[], rfl, .nil⟩
  | _, _, .cons ⟨q, e, r⟩ t => by
    obtain ⟨tas, e2, h⟩ := ref_ties t
    exact ⟨q :: tas, by rw [e, e2]; rfl, .cons r h⟩
/-- an if whose test's ways meet in a word R -/
def tIfC (c : TT) (t u : TS) : TS := fun D σ H => ∃ R : Bool → Hp → Prop, c σ H R ∧ ∀ b H1, R b H1 → if b = true then t D σ H1 else u D σ H1
theorem ps_ifC {X : Cx} {c : Expr} {a b : List Stmt} {pos : Pos} {tc : TT} {t u : TS} (hc : PT X c tc) (ha : PSs X a t) (hb : PSs X b u) : PS X (.If c a b pos) (tIfC tc t u) := by
  refine ⟨fun pins s σ H D I h => ?_⟩
  obtain ⟨R, h1, h2⟩ := h
  refine wpAny_If (thn (hc.run pins s σ H R I h1) fun d s1 ⟨H1, I1, q1⟩ => ?_)
  have q2 := h2 d H1 q1
  cases d with
  | true => exact ha.run pins s1 σ H1 D I1 q2
  | false => exact hb.run pins s1 σ H1 D I1 q2
section
variable {P : Program} {w : World} {K : PySem.W.Frag} {mg : Str → Option Value} {base : Heap}
abbrev sFor : Stmt := topS 20
abbrev nFor : List Str := ["_law_draws", "_law_most", "_law_many_here", "_law_names", "_law_k", "_law_way", "_law_rare", "_law_ties", "_law_former", "_law_points"]
theorem scFor : FnScope nFor ["_law_draws", "_law_most"] (defScope sFor) := ⟨rfl, rfl, rfl, by decide +kernel, rfl, by decide +kernel, by decide +kernel⟩
def spFor : Sp := fun vs H Q _ => ∃ (D c : Addr), vs = [.ref D, .int 9] ∧ DrawsAt c H D ∧ ∀ H' fo n ts, But D H H' → DrawsAt c H' D → ForAt H' fo n ts → FM.Small n ts → Q (.ref fo) H'
theorem abc_len : (("abcdefgh" : Str).cps.toList).length = 8 := by decide +kernel
theorem ok_for {f fN fM fW : Addr} {fd fdN fdM fdW : FuncData} (F : Fun K "_law_forest" "_law_forest" sFor f fd) (DN : DefAt K mg "_law_next" sNext ["_law_draws", "_law_many_here"] fN fdN) (DM : DefAt K mg "_law_many" sMany nMany fM fdM)
    (DW : DefAt K mg "_law_worth" sWorth ["_law_draws"] fW fdW) (B : Bi mg) : FnOk P w K mg base CX0 3 f fd ["_law_draws", "_law_most"] spFor := by
  have GN : FnOk P w K mg base CX0 1 fN fdN ["_law_draws", "_law_many_here"] spNext := ok_next DN.F B
  have GM : FnOk P w K mg base CX0 2 fM fdM nMany spMany := ok_many DM.F DN B
  have GW : FnOk P w K mg base CX0 2 fW fdW ["_law_draws"] spWorth := ok_worth DW.F DN B
  refine F.ok scFor (fun vs H Q E h => ?_) (fun cdv A outer s H vs Q E hr h => ?_)
  · obtain ⟨D, c, rfl, _⟩ := h
    rfl
  · obtain ⟨D, c, rfl, hD, q⟩ := h
    have hr1 : Room 1 _ := hr.mono (by decide)
    refine ⟨_, pss_cons (ps_set (i := 2) scFor.nd rfl (.inl rfl) (pe_op op_add pe_int (pe_call GM hr (by rfl) DM.g DM.F.kp DM.b .nil pass0 (pa_cons (pv 0) (pa_cons pe_int (pa_cons (pe_op op_sub (pv 1) pe_int) pa_nil))))))
      (pss_cons (ps_set (i := 3) scFor.nd rfl (.inl rfl) (pe_lst pa_nil))
      (C8.pss_cut (ps_for PassesOwn.never rfl (pi_range1 rfl B.range (pa_cons (pv 2) pa_nil)) (pg_name (i := 4) scFor.nd rfl (.inl rfl))
        (pss_one (ps_expr (pe_bm PySem.F.plainAttrs_list PySem.F.slot_list_insert PySem.F.type_list_insert mt_insert (pv 3) (pa_cons (pe_call GN hr1 (by rfl) DN.g DN.F.kp DN.b .nil pass0 (pa_cons (pv 0) (pa_cons (pe_op op_add (pv 4) pe_int) pa_nil))) (pa_cons (pv 4) pa_nil))))))
      (pss_cons (ps_par (i := 5) (j := 6) rfl scFor.nd rfl rfl (by decide) rfl rfl (pa_cons (pe_call GN hr1 (by rfl) DN.g DN.F.kp DN.b .nil pass0 (pa_cons (pv 0) (pa_cons pe_int pa_nil)))
          (pa_cons (pe_ix ix_list (pe_lst (pa_cons pe_int (pa_cons pe_int (pa_cons pe_int pa_nil)))) (pe_call GN hr1 (by rfl) DN.g DN.F.kp DN.b .nil pass0 (pa_cons (pv 0) (pa_cons pe_int pa_nil))) (fun _ _ => rfl)) pa_nil)) (by rfl))
      (pss_cons (ps_set (i := 7) scFor.nd rfl (.inl rfl) (pe_lst pa_nil))
      (C8.pss_cut (ps_for PassesOwn.never rfl (pi_range2 (by rfl) B.range (pa_cons pe_int (pa_cons (pv 2) pa_nil))) (pg_name (i := 4) scFor.nd rfl (.inl rfl))
        (pss_cons (ps_set (i := 8) scFor.nd rfl (.inl rfl) (pe_ix ix_list (pe_lst (pa_cons (pe_op op_sub (pv 4) pe_int) (pa_cons pe_int (pa_cons (pe_call GN hr1 (by rfl) DN.g DN.F.kp DN.b .nil pass0 (pa_cons (pv 0) (pa_cons (pv 4) pa_nil)))
            (pa_cons (pe_callB (call_max2 rfl) (by rfl) B.max (by decide +kernel) (pa_cons pe_int (pa_cons (pe_op op_sub (pe_op op_sub (pv 4) pe_int) (pe_call GN hr1 (by rfl) DN.g DN.F.kp DN.b .nil pass0 (pa_cons (pv 0) (pa_cons pe_int pa_nil)))) pa_nil)))
            (pa_cons (pe_op op_fdiv (pe_op op_sub (pv 4) pe_int) pe_int) pa_nil)))))) (pv 5) (fun _ _ => rfl)))
        (pss_one (ps_ifC (PW.pt (pw_or (pt_cmpR op_eq (pv 6) pe_int (nomark _)) (pw_or1 (pt_cmpR op_gt (pe_call GN hr1 (by rfl) DN.g DN.F.kp DN.b .nil pass0 (pa_cons (pv 0) (pa_cons (pv 6) pa_nil))) pe_int (nomark _)))))
          (pss_one (ps_expr (pe_bm PySem.F.plainAttrs_list PySem.F.slot_list_append PySem.F.type_list_append mt_append (pv 7) (pa_cons (pe_tup
            (pa_cons (pe_callB (call_min2 rfl) (by rfl) B.min (by decide +kernel) (pa_cons (pe_ix ix_list (pv 3) (pv 8) (fun _ _ => rfl)) (pa_cons (pe_ix ix_list (pv 3) (pv 4) (fun _ _ => rfl)) pa_nil)))
            (pa_cons (pe_callB (call_max2 rfl) (by rfl) B.max (by decide +kernel) (pa_cons (pe_ix ix_list (pv 3) (pv 8) (fun _ _ => rfl)) (pa_cons (pe_ix ix_list (pv 3) (pv 4) (fun _ _ => rfl)) pa_nil))) pa_nil))) pa_nil)))) pss_nil))))
      (pss_cons (ps_set (i := 9) scFor.nd rfl (.inl rfl) (pe_callTy call_tuple_of (by rfl) B.tuple (by decide +kernel) (pa_cons
          (pe_lc (own := [("_law_k", 4)]) (g := gName 4) rfl scFor.nd (pi_range1 rfl B.range (pa_cons (pv 2) pa_nil)) (blkOk_by (N := nFor) (sc := defScope sFor) (by decide +kernel)) (fun _ _ _ _ _ => pg_name (i := 4) scFor.nd rfl (Or.inl rfl)) (fun _ _ _ _ _ => pts_nil)
            (fun _ _ _ _ _ => pe_tup (pa_cons (pe_call GW hr (by rfl) DW.g DW.F.kp DW.b .nil pass0 (pa_cons (pv 0) pa_nil))
              (pa_cons (pe_ix ix_str pe_str (pe_call GN hr1 (by rfl) DN.g DN.F.kp DN.b .nil pass0 (pa_cons (pv 0) (pa_cons pe_int pa_nil))) (fun _ _ => rfl)) pa_nil)))) pa_nil)))
      (pss_one (ps_ret (pe_tup (pa_cons (pv 9) (pa_cons (pe_callTy call_tuple_of (by rfl) B.tuple (by decide +kernel) (pa_cons (pe_callB cr_sortedP (by rfl) B.sorted (by decide +kernel) (pa_cons (pv 7) pa_nil)) pa_nil)) pa_nil))))))))))), ?_⟩
    -- many = 1 + _law_many(draws, 8, most - 1)
    refine ⟨_, rfl, _, rfl, _, _, rfl, rfl, D, c, 8, 8, rfl, hD, by decide, by decide, fun H1 r b1 d1 hr8 => ⟨_, _, rfl, rfl, ?_⟩⟩
    obtain ⟨n, en, n0, n9⟩ : ∃ n : Nat, n = 1 + r ∧ 0 < n ∧ n ≤ 9 := ⟨1 + r, rfl, by omega, by have : max 8 8 = 8 := rfl; omega⟩
    have en2 : (1 : Int) + (r : Int) = (n : Int) := by omega
    -- names = []
    refine ⟨Nat.zero_le _, fun nl hnl => ?_⟩
    have d1' : DrawsAt c (upd H1 nl (.lst [])) D := d1.same (same_upd hnl)
    have b1' : But D H1 (upd H1 nl (.lst [])) := .of (same_upd hnl)
    obtain ⟨nlD, nlc⟩ := d1.ne hnl
    refine ⟨fun σ H' => ∃ (names : List Nat) (y4 : Option V), σ = [some (.ref D), some (.int 9), some (vn n), some (.ref nl), y4, none, none, none, none, none] ∧ But D H1 H' ∧ DrawsAt c H' D ∧ H' nl = some (.lst (vrow names)) ∧ names.Perm (List.range n), ?_, ?_⟩
    · refine ⟨_, rfl, 1 + (r : Int), rfl, by omega, by omega, ?_⟩
      rw [en2]
      refine for_range (lo := 0) (n := ((n : Int)).toNat) (fun i σ H' => ∃ (names : List Nat) (y4 : Option V), σ = [some (.ref D), some (.int 9), some (vn n), some (.ref nl), y4, none, none, none, none, none] ∧ But D H1 H' ∧ DrawsAt c H' D ∧ H' nl = some (.lst (vrow names)) ∧ names.Perm (List.range i))
        ⟨[], none, ?_, b1', d1', upd_same, .refl _⟩ ?_ ?_
      · show [some (V.ref D), some (.int 9), some (.int ((1 : Int) + (r : Int))), some (.ref nl), none, none, none, none, none, none] = _
        rw [en2]
      · rintro i σ H2 hi ⟨names, y4, rfl, b2, d2, hl2, hp⟩
        rw [Int.zero_add]
        refine ⟨_, rfl, .inl ⟨rfl, _, SqL.of hl2⟩, _, rfl, _, rfl, _, _, rfl, rfl, D, c, _, rfl, d2, by omega, by omega, fun H3 j b3 d3 hj => ?_⟩
        have hl3 := b3.lst d2 hl2
        have hlen : names.length = i := by rw [hp.length_eq, List.length_range]
        refine ⟨_, rfl, nl, _, (j : Int), vn i, rfl, rfl, hl3, (by rw [List.length_map, hlen]; exact small9 (by omega)), by omega, by omega, ?_⟩
        refine ⟨names.take j ++ [i] ++ names.drop j, _, rfl, (b2.trans b3).put hnl, d3.put nlD nlc, ?_, FM.names_ins hp⟩
        rw [upd_same, Int.toNat_natCast]
        simp [vrow]
      · rintro σ H2 ⟨names, y4, rfl, b2, d2, hl2, hp⟩
        exact ⟨names, y4, rfl, b2, d2, hl2, by rw [Int.toNat_natCast] at hp; exact hp⟩
    · rintro σ H2 ⟨names, y4, rfl, b2, d2, hl2, hp⟩
      have nlen : names.length = n := by rw [hp.length_eq, List.length_range]
      have nget : ∀ j, j < n → (vrow names)[j]? = some (vn (names.getD j 0)) := fun j hj => by
        rw [List.getElem?_map, List.getD_eq_getElem?_getD, List.getElem?_eq_getElem (by omega)] <;> rfl
      -- way, rare = next, [0, 7, 3][next]
      refine ⟨_, rfl, D, c, 5, rfl, d2, by decide, by decide, fun H3 way b3 d3 hway => ?_⟩
      refine ⟨(by show 3 ≤ sizeLine; decide), fun p hp3 => ?_⟩
      have s3 : Same H3 (upd H3 p (.lst ([0, 7, 3].map V.int))) := same_upd hp3
      have d3' := d3.same s3
      refine ⟨_, rfl, D, c, 3, rfl, d3', by decide, by decide, fun H4 r4 b4 d4 hr4 => ?_⟩
      have hlt : r4 < ([0, 7, 3] : List Int).length := by show r4 < 3; omega
      obtain ⟨rare, hrare⟩ : ∃ z, ([0, 7, 3] : List Int)[r4]? = some z := ⟨_, List.getElem?_eq_getElem hlt⟩
      have rb : 0 ≤ rare ∧ rare ≤ 7 := by
        have := List.mem_of_getElem? hrare
        simp at this
        omega
      refine ⟨p, _, _, .int rare, rfl, rfl, SqL.of (b4.lst d3' upd_same), atI_nat (j := r4) (by show (([0, 7, 3] : List Int).map V.int)[r4]? = _; rw [List.getElem?_map, hrare]; rfl), _, _, rfl, ?_⟩
      have ball : But D H H4 := ((b1.trans b2).trans b3).trans ((But.of s3).trans b4)
      have hl4 : H4 nl = some (.lst (vrow names)) := b4.lst d3' (s3 _ _ (b3.lst d2 hl2))
      -- ties = []
      refine ⟨Nat.zero_le _, fun tl htl => ?_⟩
      obtain ⟨tlD, tlc⟩ := d4.ne htl
      have ntl : nl ≠ tl := ne_of_none hl4 htl
      have d4' : DrawsAt c (upd H4 tl (.lst [])) D := d4.same (same_upd htl)
      refine ⟨fun σ H' => ∃ (l : List (Nat × Nat)) (tas : List Addr) (y4 y8 : Option V), σ = [some (.ref D), some (.int 9), some (vn n), some (.ref nl), y4, some (vn way), some (.int rare), some (.ref tl), y8, none] ∧ But D H4 H' ∧ DrawsAt c H' D ∧ H' tl = some (.lst (tas.map V.ref)) ∧
        TiesAt H' tas (l.map (FM.nm names)) ∧ FM.Drawn n l, ?_, ?_⟩
      · refine ⟨_, rfl, 1, (n : Int), rfl, ⟨by omega, by omega, by omega, by omega⟩, ?_⟩
        refine for_range (lo := 1) (n := ((n : Int) - 1).toNat) (fun i σ H' => ∃ (l : List (Nat × Nat)) (tas : List Addr) (y4 y8 : Option V), σ = [some (.ref D), some (.int 9), some (vn n), some (.ref nl), y4, some (vn way), some (.int rare), some (.ref tl), y8, none] ∧ But D H4 H' ∧ DrawsAt c H' D ∧ H' tl = some (.lst (tas.map V.ref)) ∧
          TiesAt H' tas (l.map (FM.nm names)) ∧ FM.Drawn (i + 1) l)
          ⟨[], [], _, none, rfl, .of (same_upd htl), d4', upd_same, .nil, .start _⟩ ?_ ?_
        · rintro i σ H5 hi ⟨l, tas, z4, z8, rfl, b5, d5, ht5, T5, DR⟩
          obtain ⟨k, ek⟩ : ∃ k, k = i + 1 := ⟨_, rfl⟩
          rw [show (1 : Int) + (i : Int) = ((k : Nat) : Int) by omega]
          -- former = [..][way]
          refine ⟨_, rfl, _, _, rfl, rfl, _, rfl, _, rfl, D, c, _, rfl, d5, by omega, by omega, fun H6 f2 b6 d6 hf2 => ?_⟩
          refine ⟨_, rfl, _, _, rfl, rfl, _, rfl, D, c, 3, rfl, d6, by decide, by decide, fun H7 f3 b7 d7 hf3 => ⟨_, _, rfl, rfl, _, _, rfl, _, rfl, _, _, rfl, rfl, _, _, rfl, rfl, ⟨by decide, by decide⟩, (by show 5 ≤ sizeLine; decide), fun p7 hp7 => ?_⟩⟩
          have hlen5 : way < ([(k : Int) - 1, 0, (f2 : Int), if (k : Int) - 1 - (f3 : Int) > 0 then (k : Int) - 1 - (f3 : Int) else 0, ((k : Int) - 1) / 2] : List Int).length := by show way < 5; omega
          obtain ⟨z, hz⟩ : ∃ z, ([(k : Int) - 1, 0, (f2 : Int), if (k : Int) - 1 - (f3 : Int) > 0 then (k : Int) - 1 - (f3 : Int) else 0, ((k : Int) - 1) / 2] : List Int)[way]? = some z := ⟨_, List.getElem?_eq_getElem hlen5⟩
          have zb : 0 ≤ z ∧ z < (k : Int) := by
            have := List.mem_of_getElem? hz
            simp only [List.mem_cons, List.not_mem_nil, or_false] at this
            rcases this with e | e | e | e | e
            · omega
            · omega
            · omega
            · split at e <;> omega
            · omega
          obtain ⟨f, ef⟩ : ∃ f : Nat, z = (f : Int) := ⟨z.toNat, by omega⟩
          subst ef
          have s7 := same_upd (o := HO.lst (([(k : Int) - 1, 0, (f2 : Int), if (k : Int) - 1 - (f3 : Int) > 0 then (k : Int) - 1 - (f3 : Int) else 0, ((k : Int) - 1) / 2] : List Int).map V.int)) hp7
          refine ⟨_, rfl, p7, _, _, vn f, rfl, rfl, SqL.of upd_same, atI_nat (j := way) (by
            show (([(k : Int) - 1, 0, (f2 : Int), if (k : Int) - 1 - (f3 : Int) > 0 then (k : Int) - 1 - (f3 : Int) else 0, ((k : Int) - 1) / 2] : List Int).map V.int)[way]? = _
            rw [List.getElem?_map, hz]; rfl), ?_⟩
          have b8 : But D H5 (upd H7 p7 (HO.lst (([(k : Int) - 1, 0, (f2 : Int), if (k : Int) - 1 - (f3 : Int) > 0 then (k : Int) - 1 - (f3 : Int) else 0, ((k : Int) - 1) / 2] : List Int).map V.int))) := (b6.trans b7).trans (.of s7)
          have d8 := d7.same s7
          -- if rare == 0 or next(draws, rare) > 0
          refine ⟨fun _ H' => But D H5 H' ∧ DrawsAt c H' D, ?_, ?_⟩
          · refine ⟨_, rfl, rfl, _, rfl, ite2 (fun _ => ⟨b8, d8⟩) (fun hne => ?_)⟩
            have r0 : rare ≠ 0 := fun e => hne (decide_eq_true (by rw [e]))
            exact ⟨_, rfl, _, rfl, D, c, _, rfl, d8, by omega, by omega, fun H9 r9 b9 d9 _ => ⟨_, _, rfl, rfl, _, rfl, b8.trans b9, d9⟩⟩
          · rintro b H9 ⟨b9, d9⟩
            have t9 : Tups H5 H9 := b9.tups d5
            have ht9 : H9 tl = some (.lst (tas.map V.ref)) := b9.lst d5 ht5
            have hl9 : H9 nl = some (.lst (vrow names)) := b9.lst d5 (b5.lst d4 hl4)
            have T9 := TiesAt.keep t9 T5
            cases b with
            | false => exact ⟨l, tas, _, _, rfl, b5.trans b9, d9, ht9, T9, DR.mono (by omega)⟩
            | true =>
              have hfn : f < n := by omega
              have hkn : k < n := by omega
              refine ⟨_, rfl, .inl ⟨rfl, _, SqL.of ht9⟩, ?_⟩
              refine ⟨_, rfl, _, rfl, nl, _, _, vn (names.getD f 0), rfl, rfl, SqL.of hl9, atI_nat (nget f hfn), _, rfl, _, rfl, nl, _, _, vn (names.getD k 0), rfl, rfl, SqL.of hl9, atI_nat (nget k hkn), _, _, rfl, ?_⟩
              refine ⟨_, rfl, _, rfl, nl, _, _, vn (names.getD f 0), rfl, rfl, SqL.of hl9, atI_nat (nget f hfn), _, rfl, _, rfl, nl, _, _, vn (names.getD k 0), rfl, rfl, SqL.of hl9, atI_nat (nget k hkn), _, _, rfl, ?_⟩
              have e1 : (if ((names.getD k 0 : Nat) : Int) < ((names.getD f 0 : Nat) : Int) then ((names.getD k 0 : Nat) : Int) else ((names.getD f 0 : Nat) : Int)) = ((min (names.getD f 0) (names.getD k 0) : Nat) : Int) := by split <;> omega
              have e2 : (if ((names.getD k 0 : Nat) : Int) > ((names.getD f 0 : Nat) : Int) then ((names.getD k 0 : Nat) : Int) else ((names.getD f 0 : Nat) : Int)) = ((max (names.getD f 0) (names.getD k 0) : Nat) : Int) := by split <;> omega
              rw [e1, e2]
              refine ⟨(by show 2 ≤ sizeLine; decide), fun t ht => ?_⟩
              have nt : tl ≠ t := ne_of_none ht9 ht
              have s9 := same_upd (o := HO.tup [vn (min (names.getD f 0) (names.getD k 0)), vn (max (names.getD f 0) (names.getD k 0))]) ht
              have lenl : tas.length ≤ 9 := by
                have h1 : tas.length = l.length := by rw [Paired.length T5, List.length_map]
                have h2 := FM.len_le (l := l.map (·.2)) (n := i + 1) (List.pairwise_map.mpr (DR.up.imp fun h => Nat.ne_of_lt h)) fun x hx => by
                  obtain ⟨p, hp, rfl⟩ := List.mem_map.mp hx
                  exact (DR.lt p hp).2
                rw [List.length_map] at h2
                omega
              refine ⟨tl, _, .ref t, rfl, rfl, s9 _ _ ht9, (by rw [List.length_map]; exact small9 lenl), ?_⟩
              obtain ⟨tD, tc⟩ := d9.ne ht
              refine ⟨l ++ [(f, k)], tas ++ [t], _, _, rfl, ?_, (d9.put tD tc).put tlD tlc, by rw [upd_same, List.map_append]; rfl, ?_, ?_⟩
              · exact ((b5.trans b9).trans (.of s9)).put htl
              · rw [List.map_append]
                have k2 : Tups H9 (upd (upd H9 t (.tup [vn (min (names.getD f 0) (names.getD k 0)), vn (max (names.getD f 0) (names.getD k 0))])) tl (.lst (tas.map V.ref ++ [.ref t]))) := fun b xs e => by
                  rw [upd_ne (fun z => by rw [z, ht9] at e; cases e), upd_ne (ne_of_none e ht)]
                  exact e
                refine pair_snoc (TiesAt.keep k2 T9) ?_
                rw [upd_ne nt.symm, upd_same] <;> rfl
              · subst ek
                exact DR.add (by omega)
        · rintro σ H5 ⟨l, tas, z4, z8, rfl, b5, d5, ht5, T5, DR⟩
          exact ⟨l, tas, z4, z8, rfl, b5, d5, ht5, T5, DR.mono (by omega)⟩
      · rintro σ H5 ⟨l, tas, z4, z8, rfl, b5, d5, ht5, T5, DR⟩
        -- points
        refine ⟨_, rfl, (n : Int), rfl, by omega, by omega, fun DD hDD => ?_⟩
        obtain ⟨DDD, DDc⟩ := d5.ne hDD
        refine lc_range (lo := 0) (n := ((n : Int)).toNat) (fun i H' => But D H5 H' ∧ DrawsAt c H' D ∧ ∃ pts : List Addr, H' DD = some (.lst (pts.map V.ref)) ∧ pts.length = i)
          ⟨.of (same_upd hDD), d5.same (same_upd hDD), [], upd_same, rfl⟩ ?_ ?_
        · rintro i H6 hi ⟨b6, d6, pts, hp6, pl⟩
          refine ⟨rfl, _, rfl, D, c, rfl, d6, fun H7 z b7 d7 => ?_⟩
          refine ⟨_, rfl, D, c, 8, rfl, d7, by decide, by decide, fun H8 r8 b8 d8 hr8 => ?_⟩
          obtain ⟨ch, hch⟩ : ∃ ch, (("abcdefgh" : Str).cps.toList)[r8]? = some ch := ⟨_, List.getElem?_eq_getElem (by rw [abc_len]; omega)⟩
          refine ⟨"abcdefgh", _, ch, rfl, rfl, (by decide +kernel), atI_nat (j := r8) hch, (by show 2 ≤ sizeLine; decide), fun t ht => ?_⟩
          have hp8 : H8 DD = some (.lst (pts.map V.ref)) := b8.lst d7 (b7.lst d6 hp6)
          have nDt : DD ≠ t := ne_of_none hp8 ht
          obtain ⟨tD, tc⟩ := d8.ne ht
          refine ⟨pts.map V.ref, (by rw [upd_ne nDt]; exact hp8), (by rw [List.length_map]; exact small9 (by omega)), ?_, (d8.put tD tc).put DDD DDc, pts ++ [t], by rw [upd_same, List.map_append]; rfl, by rw [List.length_append, pl]; rfl⟩
          exact (((b6.trans b7).trans b8).trans (.of (same_upd ht))).put hDD
        · rintro H6 ⟨b6, d6, pts, hp6, pl⟩
          rw [Int.toNat_natCast] at pl
          refine ⟨DD, _, rfl, .inl ⟨SqL.of hp6, fun ps hps => ?_⟩⟩
          have s6 := same_upd (o := HO.tup (pts.map V.ref)) hps
          have d6' := d6.same s6
          have ht6 : H6 tl = some (.lst (tas.map V.ref)) := b6.lst d5 ht5
          have T6 : TiesAt H6 tas (l.map (FM.nm names)) := TiesAt.keep (b6.tups d5) T5
          have T6' : TiesAt (upd H6 ps (.tup (pts.map V.ref))) tas (l.map (FM.nm names)) := TiesAt.keep (.of s6) T6
          -- return (points, tuple(sorted(ties)))
          refine ⟨_, rfl, _, rfl, tl, tas.map V.ref, rfl, SqL.of (s6 _ _ ht6), fun x hx => ?_, fun ys p hperm hp0 => ?_⟩
          · obtain ⟨qa, hqa, rfl⟩ := List.mem_map.mp hx
            obtain ⟨j, hj⟩ := List.mem_iff_getElem?.mp hqa
            obtain ⟨u, _, hu⟩ := pair_get T6' hj
            exact ⟨qa, _, _, rfl, hu⟩
          · obtain ⟨ts, hts, hpair⟩ := paired_perm hperm (ties_ref T6')
            obtain ⟨tas', rfl, T7⟩ := ref_ties hpair
            have s7 := same_upd (o := HO.lst (tas'.map V.ref)) hp0
            refine ⟨p, _, rfl, .inl ⟨SqL.of upd_same, fun tt htt => ?_⟩⟩
            have s8 := same_upd (o := HO.tup (tas'.map V.ref)) htt
            refine ⟨(by show 2 ≤ sizeLine; decide), fun fo hfo => ?_⟩
            have s9 := same_upd (o := HO.tup [V.ref ps, V.ref tt]) hfo
            have sAll := (s7.trans s8).trans s9
            refine q _ fo n ts (((ball.trans b5).trans b6).trans (.of (s6.trans sAll))) (d6'.same sAll) ?_ (FM.Small.drawn n0 n9 hp DR hts)
            exact ⟨ps, tt, pts.map V.ref, tas', upd_same, sAll _ _ upd_same, by rw [List.length_map]; exact pl, s9 _ _ upd_same, TiesAt.keep (.of sAll) T7⟩
end
end FW
/-! W9: _law_part, _law_rows, _law_all_tuples. -/
namespace FW
open PySem PySem.Spec PyProof.Rows L2 RZ
def kvP (ks : List Nat) : List (Key × V) := ks.map fun (x : Nat) => ((Sum.inl (x : Int) : Key), V.bl true)
theorem kvP_len (ks : List Nat) : (kvP ks).length = ks.length := List.length_map ..
theorem kvP_some : ∀ {ks : List Nat} {x : Nat}, x ∈ ks → valV (kvP ks) (Sum.inl (x : Int)) = some (.bl true)
  | [], x, h => by cases h
  | y :: ks, x, h => by
    show valV (((Sum.inl (y : Int) : Key), V.bl true) :: kvP ks) _ = _
    by_cases e : y = x
    · rw [valV_pos (p := ((Sum.inl (y : Int) : Key), V.bl true)) (r := kvP ks) (k := Sum.inl (x : Int)) (key_inj.mpr e)]
    · rw [valV_neg (p := ((Sum.inl (y : Int) : Key), V.bl true)) (r := kvP ks) (k := Sum.inl (x : Int)) (fun z => e (key_inj.mp z))]
      exact kvP_some ((List.mem_cons.mp h).resolve_left fun z => e z.symm)
theorem kvP_none : ∀ {ks : List Nat} {x : Nat}, x ∉ ks → valV (kvP ks) (Sum.inl (x : Int)) = none
  | [], x, _ => rfl
  | y :: ks, x, h => by
    rw [List.mem_cons, not_or] at h
    show valV (((Sum.inl (y : Int) : Key), V.bl true) :: kvP ks) _ = _
    rw [valV_neg (p := ((Sum.inl (y : Int) : Key), V.bl true)) (r := kvP ks) (k := Sum.inl (x : Int)) (fun z => h.1 (key_inj.mp z).symm)]
    exact kvP_none h.2
theorem kvP_is (ks : List Nat) (x : Nat) : (valV (kvP ks) (Sum.inl (x : Int))).isSome = decide (x ∈ ks) := by
  by_cases h : x ∈ ks
  · rw [kvP_some h, decide_eq_true h] <;> rfl
  · rw [kvP_none h, decide_eq_false h] <;> rfl
theorem kvP_put (ks : List Nat) (x : Nat) : putK (kvP ks) (Sum.inl (x : Int)) (.bl true) = kvP (FM.addN ks x) := by
  unfold FM.addN
  by_cases h : x ∈ ks
  · rw [if_pos h, put_in (kvP_some h)]
    have e : ∀ kv ∈ kvP ks, (if kv.1 = (Sum.inl (x : Int) : Key) then (kv.1, V.bl true) else kv) = kv := fun kv hkv => by
      obtain ⟨y, _, rfl⟩ := List.mem_map.mp hkv
      by_cases z : ((Sum.inl (y : Int) : Key)) = Sum.inl (x : Int)
      · rw [if_pos z]
      · rw [if_neg z]
    exact (List.map_congr_left e).trans (List.map_id' _)
  · rw [if_neg h, putK_new _ (kvP_none h)]
    unfold kvP
    rw [List.map_append] <;> rfl
section
variable {P : Program} {w : World} {K : PySem.W.Frag} {mg : Str → Option Value} {base : Heap}
/-! ### _law_part -/
abbrev sLP : Stmt := topS 21
abbrev nLP : List Str := ["_law_forest_here", "_law_a", "_law_found", "_law_many_here", "_law_one", "_law_other"]
theorem scLP : FnScope nLP ["_law_forest_here", "_law_a"] (defScope sLP) := ⟨rfl, rfl, rfl, by decide +kernel, rfl, by decide +kernel, by decide +kernel⟩
def spLP : Sp := fun vs H Q _ => ∃ (fo : Addr) (n : Nat) (ts : FM.Ties) (a : Nat), vs = [.ref fo, vn a] ∧ ForAt H fo n ts ∧ FM.Small n ts ∧ a < n ∧
  ∀ H' p, Same H H' → H p = none → H' p = some (.lst (vrow (FM.comp n ts a))) → Q (.ref p) H'
theorem ok_lp {f : Addr} {fd : FuncData} (F : Fun K "_law_part" "_law_part" sLP f fd) (B : Bi mg) : FnOk P w K mg base CX0 1 f fd ["_law_forest_here", "_law_a"] spLP := by
  refine F.ok scLP (fun vs H Q E h => ?_) (fun cdv A outer s H vs Q E hr h => ?_)
  · obtain ⟨fo, n, ts, a, rfl, _⟩ := h
    rfl
  · obtain ⟨fo, n, ts, a, rfl, hF, S, ha, q⟩ := h
    obtain ⟨ps, tt, pvs, tas, h1, h2, h3, h4, h5⟩ := id hF
    have hu := hu_of hr
    refine ⟨_, pss_cons (ps_set (i := 2) scLP.nd rfl (.inl rfl) (pe_disp (pps_cons (pv 1) pe_bl pps_nil) (by rfl) (by rfl) (fun z => by cases z) (by decide)))
      (pss_cons (ps_set (i := 3) scLP.nd rfl (.inl rfl) pe_int)
      (pss_cons (ps_while PassesOwn.never (pt_cmpR op_gt (pe_callB call_lenD (by rfl) B.len PySem.boot_len (pa_cons (pv 2) pa_nil)) (pv 3) (nomark _))
        (pss_cons (ps_set (i := 3) scLP.nd rfl (.inl rfl) (pe_callB call_lenD (by rfl) B.len PySem.boot_len (pa_cons (pv 2) pa_nil)))
        (pss_one (ps_for PassesOwn.never rfl (pi_tup (pe_ix ix_tup (pv 0) pe_int (fun _ _ => rfl)))
          (pg_tup rfl (pgs_cons (pg_name (i := 4) scLP.nd rfl (.inl rfl)) (pgs_cons (pg_name (i := 5) scLP.nd rfl (.inl rfl)) pgs_nil)))
          (pss_one (ps_ifC (PW.pt (pw_or (pt_cmp (pc_din hu (pv 4) (pv 2))) (pw_or1 (pt_cmp (pc_din hu (pv 5) (pv 2))))))
            (pss_cons (ps_dput hu (pv 2) (pv 4) pe_bl rfl) (pss_one (ps_dput hu (pv 2) (pv 5) pe_bl rfl))) pss_nil))))))
      (pss_one (ps_ret (pe_callB (call_sortedDI rfl) (by rfl) B.sorted (by decide +kernel) (pa_cons (pv 2) pa_nil)))))), ?_⟩
    refine fun d hd => ⟨_, rfl, upd_same, [((Sum.inl (a : Int) : Key), V.bl true)], rfl, (by show 1 ≤ 15; decide), ?_⟩
    have n9 := S.n9
    refine ⟨fun m σ H' => ∃ (ks : List Nat) (many : Nat) (y4 y5 : Option V), σ = [some (.ref fo), some (vn a), some (.ref d), some (vn many), y4, y5] ∧ Same H H' ∧ H' d = some (.dK (kvP ks)) ∧ FM.PartI ts a ks ∧
        (¬ many < ks.length → (ts.foldl FM.growT ks).length ≤ ks.length) ∧ m = n + 1 - many, ⟨_, [a], 0, none, none, rfl, ?_, upd_same, ⟨by simp, by simp, fun x hx => ?_⟩, fun z => absurd (show 0 < 1 by decide) z, rfl⟩, ?_⟩
    · exact same_put (same_put (Same.refl H) hd) hd
    · simp at hx; subst hx; exact .refl
    rintro m σ H1 ⟨ks, many, y4, y5, rfl, s1, hd1, PI, hst, rfl⟩
    refine ⟨_, rfl, d, kvP ks, rfl, hd1, _, rfl, _, _, rfl, rfl, _, rfl, ?_⟩
    have hks := PI.small S.F ha
    by_cases hlt : many < ks.length
    · rw [decide_eq_true (show ((many : Nat) : Int) < (((kvP ks).length : Nat) : Int) by rw [kvP_len]; omega)]
      refine ⟨fun σ' H' => ∃ m', m' < n + 1 - many ∧ ∃ (ks : List Nat) (many : Nat) (y4 y5 : Option V), σ' = [some (.ref fo), some (vn a), some (.ref d), some (vn many), y4, y5] ∧ Same H H' ∧ H' d = some (.dK (kvP ks)) ∧ FM.PartI ts a ks ∧
        (¬ many < ks.length → (ts.foldl FM.growT ks).length ≤ ks.length) ∧ m' = n + 1 - many, fun _ _ h => h, ?_⟩
      refine ⟨_, rfl, d, kvP ks, rfl, hd1, ?_⟩
      refine ⟨_, rfl, fo, _, 1, .ref tt, rfl, rfl, SqT.of (s1 _ _ h1), atI_nat (j := 1) rfl, tt, rfl, ⟨_, SqT.of (s1 _ _ h4)⟩, ?_⟩
      refine for_tup (K := K) (a := tt) (xs := tas.map V.ref) (fun i σ H' => (∃ y4 y5 : Option V, σ = [some (.ref fo), some (vn a), some (.ref d), some (vn (kvP ks).length), y4, y5]) ∧ Same H H' ∧ H' d = some (.dK (kvP ((ts.take i).foldl FM.growT ks))) ∧ FM.PartI ts a ((ts.take i).foldl FM.growT ks))
        ⟨⟨_, _, rfl⟩, s1, hd1, PI⟩ (fun i σ H' _ ⟨_, s2, _⟩ => SqT.of (s2 _ _ h4)) ?_ ?_
      · rintro i x σ H2 hx ⟨⟨z4, z5, rfl⟩, s2, hd2, P2⟩
        obtain ⟨qa, hqa, rfl⟩ := refs_get hx
        obtain ⟨t, ht, hq⟩ := pair_get h5 hqa
        have P3 := P2.growT S.F (List.mem_of_getElem? ht)
        have hk2 := P2.small S.F ha
        have hk3 := P3.small S.F ha
        have etk : (ts.take (i + 1)).foldl FM.growT ks = FM.growT ((ts.take i).foldl FM.growT ks) t := by
          rw [List.take_add_one, ht, List.foldl_append] <;> rfl
        rw [← etk] at P3
        generalize (ts.take i).foldl FM.growT ks = kc at *
        refine ⟨qa, [vn t.1, vn t.2], rfl, SqT.of (s2 _ _ hq), rfl, _, _, rfl, _, _, rfl, rfl, ?_⟩
        refine ⟨fun b H' => H' = H2 ∧ b = decide (t.1 ∈ kc ∨ t.2 ∈ kc), ?_, ?_⟩
        · refine ⟨_, rfl, _, rfl, d, _, rfl, DGet.k (k := Sum.inl (t.1 : Int)) hd2, _, rfl, ?_⟩
          rw [kvP_is]
          by_cases m1 : t.1 ∈ kc
          · rw [decide_eq_true m1]
            exact ⟨rfl, (decide_eq_true (.inl m1)).symm⟩
          · rw [decide_eq_false m1]
            refine ⟨_, rfl, _, rfl, d, _, rfl, DGet.k (k := Sum.inl (t.2 : Int)) hd2, _, rfl, rfl, ?_⟩
            rw [kvP_is]
            exact decide_eq_decide.mpr ⟨.inr, fun z => z.resolve_left m1⟩
        · rintro b H3 ⟨rfl, rfl⟩
          have eg1 : (t.1 ∈ kc ∨ t.2 ∈ kc) → FM.growT kc t = FM.addN (FM.addN kc t.1) t.2 := fun h => if_pos h
          have eg2 : ¬ (t.1 ∈ kc ∨ t.2 ∈ kc) → FM.growT kc t = kc := fun h => if_neg h
          by_cases m1 : t.1 ∈ kc ∨ t.2 ∈ kc
          · rw [decide_eq_true m1]
            rw [eg1 m1] at etk
            refine ⟨_, rfl, _, rfl, d, _, rfl, DPut.k (k := Sum.inl (t.1 : Int)) hd2 (by rw [kvP_len]; exact small9 (by omega)), ?_⟩
            rw [kvP_put]
            have hl4 : (FM.addN kc t.1).length ≤ 9 := by
              have h1 := (FM.addN_pre (FM.addN kc t.1) t.2).length_le
              rw [← etk] at h1
              have h2 := P3.small S.F ha
              omega
            refine ⟨_, rfl, _, rfl, d, _, rfl, DPut.k (k := Sum.inl (t.2 : Int)) upd_same (by rw [kvP_len]; exact small9 hl4), ?_⟩
            rw [kvP_put, ← etk]
            exact ⟨⟨_, _, rfl⟩, same_put (same_put s2 hd) hd, upd_same, P3⟩
          · rw [decide_eq_false m1]
            rw [eg2 m1] at etk
            exact ⟨⟨_, _, rfl⟩, s2, by rw [etk]; exact hd2, P3⟩
      · rintro σ H2 ⟨⟨z4, z5, rfl⟩, s2, hd2, P2⟩
        have el : (tas.map V.ref).length = ts.length := by rw [List.length_map]; exact Paired.length h5
        rw [el, List.take_length] at hd2 P2
        have hpre := FM.grow_pre ts ks
        refine ⟨n + 1 - (kvP ks).length, by rw [kvP_len]; omega, ts.foldl FM.growT ks, (kvP ks).length, _, _, rfl, s2, hd2, P2, fun z => ?_, rfl⟩
        rw [kvP_len] at z
        have e : ks = ts.foldl FM.growT ks := hpre.eq_of_length_le (by omega)
        rw [← e, ← e]
        exact Nat.le_refl _
    · rw [decide_eq_false (show ¬ ((many : Nat) : Int) < (((kvP ks).length : Nat) : Int) by rw [kvP_len]; omega)]
      refine ⟨_, rfl, d, kvP ks, ks.map (fun (x : Nat) => (x : Int)), rfl, .inl hd1, ?_, by rw [List.length_map]; omega, fun ys p hp hs hp0 => ?_⟩
      · unfold kvP
        rw [List.map_map, List.map_map] <;> rfl
      · have e := sorted_comp (n := n) PI.nd (fun x => (PI.end_ (hst hlt) x).trans ⟨fun r => ⟨r.lt S.F ha, r⟩, fun r => r.2⟩) hp hs
        rw [e]
        exact q _ p (same_put s1 (s1.free hp0)) (s1.free hp0) upd_same
/-! ### _law_rows -/
abbrev sLR : Stmt := topS 22
abbrev nLR : List Str := ["_law_forest_here", "_law_a", "_law_found", "_law_at", "_law_row", "_law_one", "_law_other", "_law_there"]
theorem scLR : FnScope nLR ["_law_forest_here", "_law_a"] (defScope sLR) := ⟨rfl, rfl, rfl, by decide +kernel, rfl, by decide +kernel, by decide +kernel⟩
def spLR : Sp := fun vs H Q _ => ∃ (fo : Addr) (n : Nat) (ts : FM.Ties) (a : Nat), vs = [.ref fo, vn a] ∧ ForAt H fo n ts ∧ FM.Small n ts ∧ a < n ∧
  ∀ H' l ras rows, Same H H' → H l = none → H' l = some (.lst (ras.map V.ref)) → RowsAt H' ras rows → FM.Rows ts a rows rows.length → Q (.ref l) H'
theorem ext_len {row : List Nat} {ts : FM.Ties} {i : Nat} : (FM.ext row (ts.take i)).length ≤ ts.length := by
  rw [FM.ext_eq, List.length_map]
  exact Nat.le_trans (List.length_filter_le _ _) (FM.nb_take_le ts i _)
theorem ok_lr {f : Addr} {fd : FuncData} (F : Fun K "_law_rows" "_law_rows" sLR f fd) (B : Bi mg) : FnOk P w K mg base CX0 1 f fd ["_law_forest_here", "_law_a"] spLR := by
  refine F.ok scLR (fun vs H Q E h => ?_) (fun cdv A outer s H vs Q E hr h => ?_)
  · obtain ⟨fo, n, ts, a, rfl, _⟩ := h
    rfl
  · obtain ⟨fo, n, ts, a, rfl, hF, S, ha, q⟩ := h
    obtain ⟨ps, tt, pvs, tas, h1, h2, h3, h4, h5⟩ := id hF
    refine ⟨_, pss_cons (ps_set (i := 2) scLR.nd rfl (.inl rfl) (pe_lst (pa_cons (pe_tup (pa_cons (pv 1) pa_nil)) pa_nil)))
      (pss_cons (ps_set (i := 3) scLR.nd rfl (.inl rfl) pe_int)
      (pss_cons (ps_while PassesOwn.never (pt_cmpR op_lt (pv 3) (pe_callB call_len_seq (by rfl) B.len PySem.boot_len (pa_cons (pv 2) pa_nil)) (nomark _))
        (pss_cons (ps_set (i := 4) scLR.nd rfl (.inl rfl) (pe_ix ix_list (pv 2) (pv 3) (fun _ _ => rfl)))
        (pss_cons (ps_for PassesOwn.never rfl (pi_tup (pe_ix ix_tup (pv 0) pe_int (fun _ _ => rfl)))
          (pg_tup rfl (pgs_cons (pg_name (i := 5) scLR.nd rfl (.inl rfl)) (pgs_cons (pg_name (i := 6) scLR.nd rfl (.inl rfl)) pgs_nil)))
          (pss_one (ps_if (pt_cmpR op_in_seq (pe_ix ix_tup (pv 4) (pe_un un_neg pe_int) (fun _ _ => rfl)) (pe_tup (pa_cons (pv 5) (pa_cons (pv 6) pa_nil))) (by rfl))
            (C8.pss_cut (ps_set (i := 7) scLR.nd rfl (.inl rfl) (pe_ifExp (pt_cmpR op_eq (pe_ix ix_tup (pv 4) (pe_un un_neg pe_int) (fun _ _ => rfl)) (pv 5) (nomark _)) (pv 6) (pv 5)))
            (pss_one (ps_if (pt_cmpR op_notIn_seq (pv 7) (pv 4) (by rfl))
              (pss_one (ps_expr (pe_bm PySem.F.plainAttrs_list PySem.F.slot_list_append PySem.F.type_list_append mt_append (pv 2) (pa_cons (pe_op op_catT (pv 4) (pe_tup (pa_cons (pv 7) pa_nil))) pa_nil)))) pss_nil))) pss_nil)))
        (pss_one (ps_set (i := 3) scLR.nd rfl (.inl rfl) (pe_op op_add (pv 3) pe_int))))))
      (pss_one (ps_ret (pv 2))))), ?_⟩
    have n9 := S.n9
    have t9 := S.t9
    -- found = [(a,)]
    refine ⟨_, rfl, (by show 1 ≤ sizeLine; decide), fun r0 hr0 => ⟨(by show 1 ≤ sizeLine; decide), fun l hl => ?_⟩⟩
    have hl0 : H l = none := (same_upd hr0).free hl
    have nlr : l ≠ r0 := fun e => by rw [e, upd_same] at hl; cases hl
    refine ⟨fun m σ H' => ∃ (rows : List (List Nat)) (ras : List Addr) (at_ : Nat) (y4 y5 y6 y7 : Option V), σ = [some (.ref fo), some (vn a), some (.ref l), some (vn at_), y4, y5, y6, y7] ∧ Same H H' ∧ H' l = some (.lst (ras.map V.ref)) ∧ RowsAt H' ras rows ∧
        FM.Rows ts a rows at_ ∧ m = n - at_, ⟨_, [[a]], [r0], 0, none, none, none, none, rfl, ?_, upd_same, .cons ?_ .nil, .start ts a, rfl⟩, ?_⟩
    · exact same_put (same_upd hr0) hl0
    · rw [upd_ne nlr.symm, upd_same] <;> rfl
    rintro m σ H1 ⟨rows, ras, at_, y4, y5, y6, y7, rfl, s1, hl1, R1, RI, rfl⟩
    have hrl := RI.small S.F ha
    have ral : ras.length = rows.length := Paired.length R1
    refine ⟨_, rfl, _, rfl, l, _, rfl, .inl (SqL.of hl1), _, _, rfl, rfl, _, rfl, ?_⟩
    by_cases hat : at_ < rows.length
    · rw [decide_eq_true (show ((at_ : Nat) : Int) < (((ras.map V.ref).length : Nat) : Int) by rw [List.length_map]; omega)]
      refine ⟨fun σ' H' => ∃ m', m' < n - at_ ∧ ∃ (rows : List (List Nat)) (ras : List Addr) (at_ : Nat) (y4 y5 y6 y7 : Option V), σ' = [some (.ref fo), some (vn a), some (.ref l), some (vn at_), y4, y5, y6, y7] ∧ Same H H' ∧ H' l = some (.lst (ras.map V.ref)) ∧ RowsAt H' ras rows ∧
        FM.Rows ts a rows at_ ∧ m' = n - at_, fun _ _ h => h, ?_⟩
      obtain ⟨row, hrow⟩ : ∃ row, rows[at_]? = some row := ⟨_, List.getElem?_eq_getElem hat⟩
      obtain ⟨rq, hrq, hrq2⟩ := pair_get' R1 hrow
      have hp := RI.path row (List.mem_of_getElem? hrow)
      have hlast : atI (vrow row) (-1) = some (vn (FM.lastN row)) := by
        have e : row = row.dropLast ++ [FM.lastN row] := by
          have h1 := hp.last
          rw [List.getLast?_eq_some_getLast hp.ne_nil] at h1
          rw [← Option.some.inj h1, List.dropLast_concat_getLast]
        have e2 : vrow row = vrow row.dropLast ++ [vn (FM.lastN row)] := by
          conv => lhs; rw [e]
          rw [vrow_append] <;> rfl
        rw [e2]
        exact atI_last _ _
      have rlen : row.length ≤ 9 := by
        have := FM.len_le hp.nd (hp.lt S.F ha)
        omega
      have rne : vrow row ≠ [] := fun e => hp.ne_nil (List.map_eq_nil_iff.mp e)
      -- row = found[at]
      refine ⟨_, rfl, _, rfl, l, _, _, .ref rq, rfl, rfl, SqL.of hl1, atI_nat (j := at_) (by rw [List.getElem?_map, hrq]; rfl), ?_⟩
      refine ⟨_, rfl, fo, _, 1, .ref tt, rfl, rfl, SqT.of (s1 _ _ h1), atI_nat (j := 1) rfl, tt, rfl, ⟨_, SqT.of (s1 _ _ h4)⟩, ?_⟩
      refine for_tup (K := K) (a := tt) (xs := tas.map V.ref) (fun i σ H' => ∃ (ras' : List Addr) (y5 y6 y7 : Option V), σ = [some (.ref fo), some (vn a), some (.ref l), some (vn at_), some (.ref rq), y5, y6, y7] ∧ Same H H' ∧ H' rq = some (.tup (vrow row)) ∧ H' l = some (.lst (ras'.map V.ref)) ∧ RowsAt H' ras' (rows ++ FM.ext row (ts.take i)))
        ⟨ras, _, _, _, rfl, s1, hrq2, hl1, by simpa [FM.ext_nil] using R1⟩ (fun i σ H' _ ⟨_, _, _, _, _, s2, _⟩ => SqT.of (s2 _ _ h4)) ?_ ?_
      · rintro i x σ H2 hx ⟨ras', z5, z6, z7, rfl, s2, hq2, hl2, R2⟩
        obtain ⟨qa, hqa, rfl⟩ := refs_get hx
        obtain ⟨t, ht, hq⟩ := pair_get h5 hqa
        have hlt := (S.F.lt t (List.mem_of_getElem? ht)).1
        have etk : FM.ext row (ts.take (i + 1)) = FM.ext row (ts.take i) ++ FM.ext1 row t := by
          rw [List.take_add_one, ht]
          exact FM.ext_snoc row _ t
        have ral2 : ras'.length ≤ 1000 := by
          have e1 := Paired.length R2
          rw [List.length_append] at e1
          have e2 := ext_len (row := row) (ts := ts) (i := i)
          omega
        refine ⟨qa, [vn t.1, vn t.2], rfl, SqT.of (s2 _ _ hq), rfl, _, _, rfl, _, _, rfl, rfl, ?_⟩
        -- if row[-1] in (one, other)
        refine ⟨_, rfl, 1, rfl, rq, _, -1, vn (FM.lastN row), rfl, rfl, SqT.of hq2, hlast, _, rfl, _, rfl, (by show 2 ≤ sizeLine; decide), fun p hp2 => ?_⟩
        have s3 := same_upd (o := HO.tup [vn t.1, vn t.2]) hp2
        refine ⟨p, vrow [t.1, t.2], rfl, .inr (SqT.of upd_same), rfl, flat_row _, _, rfl, ?_⟩
        show if (inV (vn (FM.lastN row)) (vrow [t.1, t.2])) = true then _ else _
        rw [inV_row]
        have sS : Same H (upd H2 p (.tup [vn t.1, vn t.2])) := s2.trans s3
        have R3 := RowsAt.keep (.of s3) R2
        by_cases hin : FM.lastN row ∈ [t.1, t.2]
        · rw [decide_eq_true hin]
          obtain ⟨c, hc⟩ : ∃ c, FM.there (FM.lastN row) t = some c := by
            unfold FM.there
            by_cases e1 : FM.lastN row = t.1
            · exact ⟨_, if_pos e1⟩
            · have e2 : FM.lastN row = t.2 := by simpa [e1] using hin
              exact ⟨_, by rw [if_neg e1, if_pos e2]⟩
          have body : FM.ext1 row t = if c ∈ row then [] else [row ++ [c]] := by
            unfold FM.ext1
            rw [hc]
          -- there = other if row[-1] == one else one
          refine ⟨fun σ' H' => σ' = [some (.ref fo), some (vn a), some (.ref l), some (vn at_), some (.ref rq), some (vn t.1), some (vn t.2), some (vn c)] ∧ H' = upd H2 p (.tup [vn t.1, vn t.2]), ?_, ?_⟩
          · refine ⟨_, rfl, 1, rfl, rq, _, -1, vn (FM.lastN row), rfl, rfl, SqT.of (s3 _ _ hq2), hlast, _, rfl, rfl, _, rfl, ?_⟩
            rw [dec_vn]
            unfold FM.there at hc
            by_cases e1 : FM.lastN row = t.1
            · rw [decide_eq_true e1]
              rw [if_pos e1] at hc
              have ec : t.2 = c := Option.some.inj hc
              subst ec
              exact ⟨_, rfl, rfl, rfl⟩
            · rw [decide_eq_false e1]
              have e2 : FM.lastN row = t.2 := by simpa [e1] using hin
              rw [if_neg e1, if_pos e2] at hc
              have ec : t.1 = c := Option.some.inj hc
              subst ec
              exact ⟨_, rfl, rfl, rfl⟩
          · rintro _ _ ⟨rfl, rfl⟩
            -- if there not in row
            refine ⟨_, rfl, _, rfl, rq, vrow row, rfl, .inr (SqT.of (s3 _ _ hq2)), rfl, flat_row _, _, rfl, ?_⟩
            show if (!inV (vn c) (vrow row)) = true then _ else _
            rw [inV_row]
            by_cases hcr : c ∈ row
            · rw [decide_eq_true hcr]
              exact ⟨ras', _, _, _, rfl, sS, s3 _ _ hq2, s3 _ _ hl2, by rw [etk, body, if_pos hcr, List.append_nil]; exact R3⟩
            · rw [decide_eq_false hcr]
              refine ⟨_, rfl, .inl ⟨rfl, _, SqL.of (s3 _ _ hl2)⟩, _, rfl, _, rfl, (by show 1 ≤ sizeLine; decide), fun c1 hc1 => ?_⟩
              have s4 := same_upd (o := HO.tup [vn c]) hc1
              refine ⟨rq, c1, vrow row, [vn c], rfl, rfl, SqT.of (s4 _ _ (s3 _ _ hq2)), SqT.of upd_same, rne, (by rw [List.length_map]; show row.length + 1 ≤ sizeLine; exact Nat.le_of_lt (small1000 (by omega))), (fun e => by cases e), fun _ nr hnr => ?_⟩
              have e1 : vrow row ++ [vn c] = vrow (row ++ [c]) := (vrow_append row [c]).symm
              rw [e1]
              have s5 := same_upd (o := HO.tup (vrow (row ++ [c]))) hnr
              have s345 := (s3.trans s4).trans s5
              have hl5 := s345 _ _ hl2
              refine ⟨l, _, .ref nr, rfl, rfl, hl5, (by rw [List.length_map]; exact small1000 ral2), ?_⟩
              have n1 : H nr = none := (s2.trans (s3.trans s4)).free hnr
              have nlr2 : nr ≠ l := fun e => by
                have h6 := (s3.trans s4) _ _ hl2
                rw [e, h6] at hnr
                cases hnr
              have T : Tups H2 (upd (upd (upd (upd H2 p (.tup [vn t.1, vn t.2])) c1 (.tup [vn c])) nr (.tup (vrow (row ++ [c])))) l (.lst (ras'.map V.ref ++ [.ref nr]))) := fun b xs e => by
                rw [upd_ne (fun z => by rw [z, hl2] at e; cases e)]
                exact s345 _ _ e
              refine ⟨ras' ++ [nr], _, _, _, rfl, same_put (s2.trans s345) hl0, T _ _ hq2, by rw [upd_same, List.map_append]; rfl, ?_⟩
              rw [etk, body, if_neg hcr, ← List.append_assoc]
              refine pair_snoc (RowsAt.keep T R2) ?_
              rw [upd_ne nlr2, upd_same]
        · rw [decide_eq_false hin]
          have e0 : FM.ext1 row t = [] := by
            unfold FM.ext1
            rw [FM.there_0 (fun e => hin (by rw [e]; simp)) (fun e => hin (by rw [e]; simp))]
          exact ⟨ras', _, _, _, rfl, sS, s3 _ _ hq2, s3 _ _ hl2, by rw [etk, e0, List.append_nil]; exact R3⟩
      · rintro σ H2 ⟨ras', z5, z6, z7, rfl, s2, hq2, hl2, R2⟩
        have el : (tas.map V.ref).length = ts.length := by rw [List.length_map]; exact Paired.length h5
        rw [el, List.take_length] at R2
        refine ⟨_, rfl, _, _, rfl, rfl, n - (at_ + 1), by omega, _, ras', at_ + 1, _, _, _, _, rfl, s2, hl2, R2, RI.turn S.F hrow, rfl⟩
    · rw [decide_eq_false (show ¬ ((at_ : Nat) : Int) < (((ras.map V.ref).length : Nat) : Int) by rw [List.length_map]; omega)]
      have e : at_ = rows.length := by have := RI.le; omega
      subst e
      exact ⟨_, rfl, q H1 l ras rows s1 hl0 hl1 R1 RI⟩
end
end FW
/-! W10: _law_all_tuples. -/
namespace FW
open PySem PySem.Spec PyProof.Rows L2 RZ
theorem AT_len : ∀ n, (FM.AT n).length = 2 ^ n
  | 0 => rfl
  | n + 1 => by
    show (FM.AT n ++ (FM.AT n).map fun S => S ++ [n]).length = _
    rw [List.length_append, List.length_map, AT_len n, Nat.pow_succ]
    omega
theorem AT_le {n : Nat} (h : n ≤ 9) : (FM.AT n).length ≤ 512 := by
  rw [AT_len]
  exact Nat.pow_le_pow_right (by decide) h
theorem op_catK {X : Cx} {K : PySem.W.Frag} (hK : X.K = K) : OpR X (binaryOp .Add) (rCatA K) := hK ▸ op_catA
section
variable {P : Program} {w : World} {K : PySem.W.Frag} {mg : Str → Option Value} {base : Heap}
abbrev sAll : Stmt := topS 23
abbrev nAll : List Str := ["_law_many_here", "_law_found", "_law_point", "_law_some"]
theorem scAll : FnScope nAll ["_law_many_here"] (defScope sAll) := ⟨rfl, rfl, rfl, by decide +kernel, rfl, by decide +kernel, by decide +kernel⟩
def spAll : Sp := fun vs H Q _ => ∃ (n : Nat), vs = [vn n] ∧ n ≤ 9 ∧ ∀ H' l ras, Same H H' → H' l = some (.lst (ras.map V.ref)) → RowsAt H' ras (FM.AT n) → Q (.ref l) H'
theorem ok_all {f : Addr} {fd : FuncData} (F : Fun K "_law_all_tuples" "_law_all_tuples" sAll f fd) (B : Bi mg) : FnOk P w K mg base CX0 1 f fd ["_law_many_here"] spAll := by
  refine F.ok scAll (fun vs H Q E h => ?_) (fun cdv A outer s H vs Q E hr h => ?_)
  · obtain ⟨n, rfl, _⟩ := h
    rfl
  · obtain ⟨n, rfl, n9, q⟩ := h
    refine ⟨_, pss_cons (ps_set (i := 1) scAll.nd rfl (.inl rfl) (pe_lst (pa_cons (pe_tup pa_nil) pa_nil)))
      (pss_cons (ps_for PassesOwn.never rfl (pi_range1 rfl B.range (pa_cons (pv 0) pa_nil)) (pg_name (i := 2) scAll.nd rfl (.inr rfl))
        (pss_one (ps_set (i := 1) scAll.nd rfl (.inl rfl) (pe_op op_cat (pv 1)
          (pe_lc (own := [("_law_some", 3)]) (g := gName 3) rfl scAll.nd (pi_list (pv 1)) (blkOk_by (N := nAll) (sc := defScope sAll) (by decide +kernel)) (fun _ _ _ _ _ => pg_name (i := 3) scAll.nd rfl (Or.inl rfl)) (fun _ _ _ _ _ => pts_nil)
            (fun _ _ _ _ _ => pe_op (op_catK (K := K) (by rfl)) (pv 3) (pe_tup (pa_cons (pv 2) pa_nil))))))))
      (pss_one (ps_ret (pv 1)))), ?_⟩
    refine ⟨Nat.zero_le _, fun e0 he0 => ⟨(by show 1 ≤ sizeLine; decide), fun l0 hl0 => ?_⟩⟩
    have nl0 : e0 ≠ l0 := fun e => by rw [← e, upd_same] at hl0; cases hl0
    refine ⟨_, rfl, (n : Int), rfl, by omega, by omega, ?_⟩
    refine for_range (lo := 0) (n := ((n : Int)).toNat) (fun i σ H' => ∃ (l : Addr) (ras : List Addr) (y2 : Option V), σ = [some (vn n), some (.ref l), y2, none] ∧ Same H H' ∧ H' l = some (.lst (ras.map V.ref)) ∧ RowsAt H' ras (FM.AT i))
      ⟨l0, [e0], none, rfl, (same_upd he0).trans (same_upd hl0), upd_same, .cons (by rw [upd_ne nl0, upd_same]; rfl) .nil⟩ ?_ ?_
    · rintro i σ H1 hi ⟨l, ras, y2, rfl, s1, hl1, R1⟩
      rw [Int.zero_add]
      have ral : ras.length = (FM.AT i).length := Paired.length R1
      have al := AT_le (n := i) (by omega)
      refine ⟨_, rfl, _, rfl, l, rfl, ⟨_, SqL.of hl1⟩, fun D hD => ?_⟩
      refine lc_list (K := K) (a := l) (xs := ras.map V.ref) (fun j H' => Same H1 H' ∧ ∃ ras2 : List Addr, H' D = some (.lst (ras2.map V.ref)) ∧ RowsAt H' ras2 (((FM.AT i).take j).map fun S => S ++ [i]))
        ⟨same_upd hD, [], upd_same, .nil⟩ (fun j H' _ ⟨s2, _⟩ => SqL.of (s2 _ _ hl1)) ?_ ?_
      · rintro j x H2 hx ⟨s2, ras2, e2, R2⟩
        obtain ⟨qa, hqa, rfl⟩ := refs_get hx
        obtain ⟨S, hS, hq⟩ := pair_get R1 hqa
        have Slen : S.length ≤ 9 := by
          have hm := List.mem_of_getElem? hS
          have := FM.len_le ((FM.AT_up hm).imp fun h => Nat.ne_of_lt h) (FM.AT_lt hm)
          omega
        have r2l : ras2.length ≤ 512 := by
          have e1 := Paired.length R2
          rw [List.length_map, List.length_take] at e1
          omega
        have fin : ∀ (H3 : Hp) (p : Addr), Same H2 H3 → H3 p = some (.tup (vrow (S ++ [i]))) → ∃ acc, H3 D = some (.lst acc) ∧ acc.length < sizeLine ∧ Same H1 (upd H3 D (.lst (acc ++ [.ref p]))) ∧
            ∃ ras2 : List Addr, upd H3 D (.lst (acc ++ [.ref p])) D = some (.lst (ras2.map V.ref)) ∧ RowsAt (upd H3 D (.lst (acc ++ [.ref p]))) ras2 (((FM.AT i).take (j + 1)).map fun S => S ++ [i]) := fun H3 p s3 hp => by
          have T : Tups H2 (upd H3 D (.lst (ras2.map V.ref ++ [.ref p]))) := fun b xs e => by
            rw [upd_ne (fun z => by rw [z, e2] at e; cases e)]
            exact s3 _ _ e
          refine ⟨_, s3 _ _ e2, by rw [List.length_map]; exact small1000 (by omega), same_put (s2.trans s3) hD, ras2 ++ [p], by rw [upd_same, List.map_append]; rfl, ?_⟩
          rw [List.take_add_one, hS, List.map_append]
          refine pair_snoc (RowsAt.keep T R2) ?_
          rw [upd_ne (fun z => by rw [z, s3 _ _ e2] at hp; cases hp)]
          exact hp
        refine ⟨rfl, _, rfl, _, rfl, (by show 1 ≤ sizeLine; decide), fun t1 ht1 => ?_⟩
        have s3 := same_upd (o := HO.tup [vn i]) ht1
        refine ⟨qa, t1, vrow S, [vn i], rfl, rfl, SqT.of (s3 _ _ (s2 _ _ hq)), SqT.of upd_same, (by rw [List.length_map]; show S.length + 1 ≤ sizeLine; exact Nat.le_of_lt (small1000 (by omega))), fun e => ?_, (fun _ e => by cases e), fun _ _ p hp => ?_⟩
        · have e0 : S = [] := List.map_eq_nil_iff.mp e
          subst e0
          exact fin _ t1 s3 upd_same
        · refine fin _ p (s3.trans (same_upd hp)) ?_
          rw [upd_same, vrow_append] <;> rfl
      · rintro H2 ⟨s2, ras2, e2, R2⟩
        have el : (ras.map V.ref).length = (FM.AT i).length := by rw [List.length_map]; exact ral
        rw [el, List.take_length] at R2
        have r2l : ras2.length = (FM.AT i).length := by
          have e1 := Paired.length R2
          rw [List.length_map] at e1
          exact e1
        refine ⟨l, D, _, _, rfl, rfl, s2 _ _ hl1, e2, by rw [List.length_map, List.length_map]; exact Nat.le_trans (m := 1024) (by omega) (by decide), fun p hp => ?_⟩
        have s3 := same_upd (o := HO.lst (ras.map V.ref ++ ras2.map V.ref)) hp
        refine ⟨p, ras ++ ras2, _, rfl, (s1.trans s2).trans s3, by rw [upd_same, List.map_append], ?_⟩
        exact pair_append (RowsAt.keep (.of (s2.trans s3)) R1) (RowsAt.keep (.of s3) R2)
    · rintro σ H1 ⟨l, ras, y2, rfl, s1, hl1, R1⟩
      rw [Int.toNat_natCast] at R1
      exact ⟨_, rfl, q H1 l ras s1 hl1 R1⟩
end
end FW
/-! W11: what the law's own def needs beside the walk. -/
namespace FW
open PySem PySem.Spec PyProof.Rows L2 RZ
theorem call_tuple_ofK {X : Cx} {K : PySem.W.Frag} (hK : X.K = K) : CallR X (.type "tuple") (fun xs H Q => ∃ p ys, xs = [.ref p] ∧ ((SqL K H p ys ∧ ∀ l, H l = none → Q (.ref l) (upd H l (.tup ys))) ∨ (SqT K H p ys ∧ Q (.ref p) H))) := hK ▸ call_tuple_of
/-! ### rows as keys -/
def keyOf (r : List Nat) : List Key := r.map fun (x : Nat) => (Sum.inl (x : Int) : Key)
theorem keyOf_V (r : List Nat) : (keyOf r).map kV = vrow r := by
  unfold keyOf
  rw [List.map_map] <;> rfl
theorem keyOf_inj {r q : List Nat} (h : keyOf r = keyOf q) : r = q := List.map_inj_right (f := fun (x : Nat) => (Sum.inl (x : Int) : Key)) (fun x y e => key_inj.mp e) |>.mp h
def kvR (Ps : List (List Nat)) : List (List Key × V) := Ps.map fun r => (keyOf r, V.bl true)
def addR (Ps : List (List Nat)) (r : List Nat) : List (List Nat) := if r ∈ Ps then Ps else Ps ++ [r]
theorem kvR_some : ∀ {Ps : List (List Nat)} {r : List Nat}, r ∈ Ps → valV (kvR Ps) (keyOf r) = some (.bl true)
  | [], r, h => by cases h
  | p :: Ps, r, h => by
    show valV ((keyOf p, V.bl true) :: kvR Ps) _ = _
    by_cases e : p = r
    · subst e
      rw [valV_pos (p := (keyOf p, V.bl true)) (r := kvR Ps) rfl]
    · rw [valV_neg (p := (keyOf p, V.bl true)) (r := kvR Ps) (k := keyOf r) (fun z => e (keyOf_inj z))]
      exact kvR_some ((List.mem_cons.mp h).resolve_left fun z => e z.symm)
theorem kvR_none : ∀ {Ps : List (List Nat)} {r : List Nat}, r ∉ Ps → valV (kvR Ps) (keyOf r) = none
  | [], r, _ => rfl
  | p :: Ps, r, h => by
    rw [List.mem_cons, not_or] at h
    show valV ((keyOf p, V.bl true) :: kvR Ps) _ = _
    rw [valV_neg (p := (keyOf p, V.bl true)) (r := kvR Ps) (k := keyOf r) (fun z => h.1 (keyOf_inj z).symm)]
    exact kvR_none h.2
theorem kvR_put (Ps : List (List Nat)) (r : List Nat) : putK (kvR Ps) (keyOf r) (.bl true) = kvR (addR Ps r) := by
  unfold addR
  by_cases h : r ∈ Ps
  · rw [if_pos h]
    have e0 : putK (kvR Ps) (keyOf r) (.bl true) = (kvR Ps).map fun kv => if kv.1 = keyOf r then (kv.1, V.bl true) else kv := by
      unfold putK
      rw [if_pos (by rw [valV_any, kvR_some h] <;> rfl)]
    rw [e0]
    have e : ∀ kv ∈ kvR Ps, (if kv.1 = keyOf r then (kv.1, V.bl true) else kv) = kv := fun kv hkv => by
      obtain ⟨y, _, rfl⟩ := List.mem_map.mp hkv
      by_cases z : keyOf y = keyOf r
      · rw [if_pos z]
      · rw [if_neg z]
    exact (List.map_congr_left e).trans (List.map_id' _)
  · rw [if_neg h, putK_new _ (kvR_none h)]
    unfold kvR
    rw [List.map_append] <;> rfl
theorem merge_kvR : ∀ (rs Ps : List (List Nat)), mergeT (kvR Ps) (kvR rs) = kvR (rs.foldl addR Ps)
  | [], _ => rfl
  | r :: rs, Ps => by
    show mergeT (putK (kvR Ps) (keyOf r) (.bl true)) (kvR rs) = _
    rw [kvR_put]
    exact merge_kvR rs (addR Ps r)
theorem addR_mem {Ps : List (List Nat)} {r q : List Nat} : q ∈ addR Ps r ↔ q ∈ Ps ∨ q = r := by
  unfold addR
  split
  · rename_i h
    exact ⟨.inl, fun z => z.elim id fun e => e ▸ h⟩
  · simp
theorem addR_nd {Ps : List (List Nat)} {r : List Nat} (h : Ps.Nodup) : (addR Ps r).Nodup := by
  unfold addR
  split
  · exact h
  · rename_i hn
    exact List.nodup_append.mpr ⟨h, by simp, fun u hu v hv q => by simp at hv; subst hv; subst q; exact hn hu⟩
theorem fold_addR : ∀ (rs Ps : List (List Nat)), Ps.Nodup → (rs.foldl addR Ps).Nodup ∧ ∀ q, q ∈ rs.foldl addR Ps ↔ q ∈ Ps ∨ q ∈ rs
  | [], Ps, h => ⟨h, fun q => by simp⟩
  | r :: rs, Ps, h => by
    obtain ⟨h1, h2⟩ := fold_addR rs (addR Ps r) (addR_nd h)
    refine ⟨h1, fun q => ?_⟩
    rw [List.foldl_cons, h2 q, addR_mem, List.mem_cons, or_assoc]
noncomputable def partsL (n : Nat) (ts : FM.Ties) : List (List Nat) := ((List.range n).map (FM.comp n ts)).foldl addR []
theorem parts_ok (n : Nat) (ts : FM.Ties) : FM.Parts n ts (partsL n ts) := by
  obtain ⟨h1, h2⟩ := fold_addR ((List.range n).map (FM.comp n ts)) [] List.nodup_nil
  refine ⟨h1, fun p hp => (h2 _).mpr (.inr (List.mem_map.mpr ⟨p, List.mem_range.mpr hp, rfl⟩)), fun Q hQ => ?_⟩
  rcases (h2 Q).mp hQ with q | q
  · simp at q
  · obtain ⟨p, hp, rfl⟩ := List.mem_map.mp q
    exact ⟨p, List.mem_range.mp hp, rfl⟩
/-! ### rows, papers as data -/
def rowD (r : List Nat) : PyData := .tuple (intsD r)
theorem rowD_lay (r : List Nat) : PyData.canLay0 (rowD r) = true := by simp [rowD, PyData.canLay0, intsD_lay]
theorem rowD_depth (r : List Nat) : PyData.depth (rowD r) ≤ 1 := by simp [rowD, PyData.depth, intsD_depth]
theorem rowsD_lay : ∀ rs : List (List Nat), PyData.canLayAll0 (rs.map rowD) = true
  | [] => by simp [PyData.canLayAll0]
  | r :: rs => by simp [PyData.canLayAll0, rowD_lay, rowsD_lay rs]
theorem rowsD_depth : ∀ rs : List (List Nat), PyData.depthAll (rs.map rowD) ≤ 1
  | [] => by simp [PyData.depthAll]
  | r :: rs => by
    have h1 := rowsD_depth rs
    have h2 := rowD_depth r
    simp only [List.map_cons, PyData.depthAll]
    omega
theorem rowsD_shaped (rs : List (List Nat)) : SeqAt.shaped (.list (rs.map rowD)) = true := shaped_list (rowsD_lay rs) (by have := rowsD_depth rs; omega)
theorem rowD_shaped (r : List Nat) : SeqAt.shaped (rowD r) = true := shaped_tuple (intsD_lay r) (by rw [intsD_depth]; omega)
theorem dp_row {K : PySem.W.Frag} {H : Hp} {q : Addr} {r : List Nat} (h : H q = some (.tup (vrow r))) : Dp K H (.ref q) (rowD r) := .tup (SqT.of h) (dp_ints r)
theorem dp_rows {K : PySem.W.Frag} {H : Hp} : ∀ {as : List Addr} {rs : List (List Nat)}, RowsAt H as rs → DpAll K H (as.map V.ref) (rs.map rowD)
  | _, _, .nil => .nil
  | _, _, .cons r t => .cons (dp_row r) (dp_rows t)
/-- papers -/
abbrev PapAt (H : Hp) (tag : Str) : List Addr → List (List Nat) → Prop := Paired fun q r => ∃ rq, H q = some (.tup [.str tag, .ref rq]) ∧ H rq = some (.tup (vrow r))
theorem PapAt.keep {H H' : Hp} {tag : Str} (t : Tups H H') {l : List Addr} {m : List (List Nat)} (h : PapAt H tag l m) : PapAt H' tag l m := pair_imp h fun _ _ ⟨rq, h1, h2⟩ => ⟨rq, t _ _ h1, t _ _ h2⟩
def papD (tag : Str) (r : List Nat) : PyData := .tuple [.str tag, rowD r]
theorem papD_lay {tag : Str} (hk : PyData.strOk tag = true) (r : List Nat) : PyData.canLay0 (papD tag r) = true := by simp [papD, PyData.canLay0, PyData.canLayAll0, rowD_lay, hk]
theorem papD_depth (tag : Str) (r : List Nat) : PyData.depth (papD tag r) ≤ 2 := by
  have := rowD_depth r
  simp only [papD, PyData.depth, PyData.depthAll]
  omega
theorem papD_shaped {tag : Str} (hk : PyData.strOk tag = true) (r : List Nat) : SeqAt.shaped (papD tag r) = true := by
  have h := papD_depth tag r
  show ((papD tag r).canLay0 && decide ((papD tag r).depth ≤ 64)) = true
  rw [Bool.and_eq_true]
  exact ⟨papD_lay hk r, decide_eq_true (by omega)⟩
theorem canLay_append : ∀ (as bs : List PyData), PyData.canLayAll0 as = true → PyData.canLayAll0 bs = true → PyData.canLayAll0 (as ++ bs) = true
  | [], _, _, h => h
  | a :: as, bs, h1, h2 => by
    simp only [PyData.canLayAll0, Bool.and_eq_true] at h1
    simp only [List.cons_append, PyData.canLayAll0, Bool.and_eq_true]
    exact ⟨h1.1, canLay_append as bs h1.2 h2⟩
theorem depth_append : ∀ (as bs : List PyData) (d : Nat), PyData.depthAll as ≤ d → PyData.depthAll bs ≤ d → PyData.depthAll (as ++ bs) ≤ d
  | [], _, _, _, h => h
  | a :: as, bs, d, h1, h2 => by
    simp only [PyData.depthAll] at h1
    have := depth_append as bs d (by omega) h2
    simp only [List.cons_append, PyData.depthAll]
    omega
theorem papsD_lay {tag : Str} (hk : PyData.strOk tag = true) : ∀ rs : List (List Nat), PyData.canLayAll0 (rs.map (papD tag)) = true
  | [] => by simp [PyData.canLayAll0]
  | r :: rs => by simp [PyData.canLayAll0, papD_lay hk, papsD_lay hk rs]
theorem papsD_depth (tag : Str) : ∀ rs : List (List Nat), PyData.depthAll (rs.map (papD tag)) ≤ 2
  | [] => by simp [PyData.depthAll]
  | r :: rs => by
    have h1 := papsD_depth tag rs
    have h2 := papD_depth tag r
    simp only [List.map_cons, PyData.depthAll]
    omega
theorem dp_pap {K : PySem.W.Frag} {H : Hp} {q rq : Addr} {tag : Str} {r : List Nat} (h1 : H q = some (.tup [.str tag, .ref rq])) (h2 : H rq = some (.tup (vrow r))) : Dp K H (.ref q) (papD tag r) :=
  .tup (SqT.of h1) (.cons (.str _) (.cons (dp_row h2) .nil))
theorem dp_paps {K : PySem.W.Frag} {H : Hp} {tag : Str} : ∀ {as : List Addr} {rs : List (List Nat)}, PapAt H tag as rs → DpAll K H (as.map V.ref) (rs.map (papD tag))
  | _, _, .nil => .nil
  | _, _, .cons ⟨rq, h1, h2⟩ t => .cons (dp_pap h1 h2) (dp_paps t)
theorem dp_append {K : PySem.W.Frag} {H : Hp} : ∀ {as : List V} {ds : List PyData} {bs : List V} {es : List PyData}, DpAll K H as ds → DpAll K H bs es → DpAll K H (as ++ bs) (ds ++ es)
  | _, _, _, _, .nil, h => h
  | _, _, _, _, .cons r t, h => .cons r (dp_append t h)
theorem dp_refl_in {d : PyData} {ds : List PyData} (h : d ∈ ds) (hl : PyData.canLay0 d = true) : (ds.any fun z => PyData.eqv z d) = true := List.any_eq_true.mpr ⟨d, h, SeqAt.eqv_refl d hl⟩
theorem tag_way : PyData.strOk ("way" : Str) = true := by decide +kernel
theorem tag_apart : PyData.strOk ("apart" : Str) = true := by decide +kernel
theorem atI_lastN {r : List Nat} (h : r ≠ []) : atI (vrow r) (-1) = some (vn (FM.lastN r)) := by
  have h1 := FM.last_of_ne h
  rw [List.getLast?_eq_some_getLast h] at h1
  have e : r = r.dropLast ++ [FM.lastN r] := by
    rw [← Option.some.inj h1, List.dropLast_concat_getLast]
  have e2 : vrow r = vrow r.dropLast ++ [vn (FM.lastN r)] := by
    conv => lhs; rw [e]
    rw [vrow_append] <;> rfl
  rw [e2]
  exact atI_last _ _
theorem filter_take_succ {α : Type} {l : List α} {i : Nat} {x : α} (p : α → Bool) (h : l[i]? = some x) : (l.take (i + 1)).filter p = (l.take i).filter p ++ (if p x = true then [x] else []) := by
  rw [List.take_add_one, h, List.filter_append]
  by_cases e : p x = true
  · rw [if_pos e]
    simp [e]
  · rw [if_neg e]
    simp [e]
/-- way_of's promise, both answers at once -/
theorem way_ofQ {H : Hp} {Q : VK} {E : XK} {fo : Addr} {n : Nat} {ts : FM.Ties} {a b : Nat} (hF : ForAt H fo n ts) (S : FM.Small n ts) (ha : a < n) (hb : b < n)
    (q : ∀ H' v, Same H H' → ((v = .non ∧ ¬ FM.Reach ts a b) ∨ ∃ r p, v = .ref r ∧ FM.Path ts a b p ∧ H' r = some (.tup (vrow p))) → Q v H') : spWay [.ref fo, vn a, vn b] H Q E :=
  ⟨fo, n, ts, a, b, rfl, hF, S, ha, hb, fun hN H' s => q H' _ s (.inl ⟨rfl, hN⟩), fun p hp H' r s _ hr => q H' _ s (.inr ⟨r, p, rfl, hp, hr⟩)⟩
theorem paper_of {H : Hp} {Q : VK} {E : XK} {fo : Addr} {n : Nat} {ts : FM.Ties} {a b : Nat} (hF : ForAt H fo n ts) (S : FM.Small n ts) (ha : a < n) (hb : b < n)
    (q : ∀ (H' : Hp) (t r : Addr) (tag : Str) (p : List Nat), Same H H' → H' r = some (.tup (vrow p)) → H' t = some (.tup [.str tag, .ref r]) → ((tag = "apart" ∧ ¬ FM.Reach ts a b ∧ p = FM.comp n ts a) ∨ (tag = "way" ∧ FM.Path ts a b p)) → Q (.ref t) H') : spPaper [.ref fo, vn a, vn b] H Q E :=
  ⟨fo, n, ts, a, b, rfl, hF, S, ha, hb, fun hN H' t r s h1 h2 => q H' t r _ _ s h1 h2 (.inl ⟨rfl, hN, rfl⟩), fun p hp H' t r s h1 h2 => q H' t r _ _ s h1 h2 (.inr ⟨rfl, hp⟩)⟩
end FW
/-! W12: the law's own def. -/
namespace FW
open PySem PySem.Spec PyProof.Rows L2 RZ
section
variable {P : Program} {w : World} {K : PySem.W.Frag} {mg : Str → Option Value} {base : Heap}
abbrev sLaw : Stmt := topS 24
abbrev nLaw : List Str := ["_law_script", "_law_draws", "_law_turn", "_law_forest_here", "_law_many_here", "_law_parts", "_law_a", "_law_rows_here", "_law_tuples", "_law_b", "_law_ways", "_law_aparts", "_law_due", "_law_part_here", "_law_point", "_law_row", "_law_some"]
theorem scLaw : FnScope nLaw ["_law_script"] (defScope sLaw) := ⟨rfl, rfl, rfl, by decide +kernel, rfl, by decide +kernel, by decide +kernel⟩
def spLaw (K : PySem.W.Frag) : Sp := fun vs H Q _ => ∃ (s : Addr) (ns : List Int), vs = [.ref s] ∧ SqL K H s (ns.map V.int) ∧ ns.length ≤ 63 ∧ ∀ H', Q (.bl true) H'
theorem ok_law {f fB fF fL fN fR fA fS fW fP : Addr} {fd fdB fdF fdL fdN fdR fdA fdS fdW fdP : FuncData} (F : Fun K "law" "law" sLaw f fd)
    (DB : DefAt K mg "_law_begin" sBeg ["_law_script"] fB fdB) (GB : FnOk P w K mg base CX0 1 fB fdB ["_law_script"] (spBeg K))
    (DF : DefAt K mg "_law_forest" sFor ["_law_draws", "_law_most"] fF fdF) (GF : FnOk P w K mg base CX0 3 fF fdF ["_law_draws", "_law_most"] spFor)
    (DL : DefAt K mg "_law_part" sLP ["_law_forest_here", "_law_a"] fL fdL) (GL : FnOk P w K mg base CX0 1 fL fdL ["_law_forest_here", "_law_a"] spLP)
    (DN : DefAt K mg "_law_next" sNext ["_law_draws", "_law_many_here"] fN fdN) (GN : FnOk P w K mg base CX0 1 fN fdN ["_law_draws", "_law_many_here"] spNext)
    (DR : DefAt K mg "_law_rows" sLR ["_law_forest_here", "_law_a"] fR fdR) (GR : FnOk P w K mg base CX0 1 fR fdR ["_law_forest_here", "_law_a"] spLR)
    (DA : DefAt K mg "_law_all_tuples" sAll ["_law_many_here"] fA fdA) (GA : FnOk P w K mg base CX0 1 fA fdA ["_law_many_here"] spAll)
    (DS : DefAt K mg "shows_tied" sShows nShows fS fdS) (GS : FnOk P w K mg base CX0 3 fS fdS nShows spShows)
    (DW : DefAt K mg "way_of" sWay ["forest", "a", "b"] fW fdW) (GW : FnOk P w K mg base CX0 3 fW fdW ["forest", "a", "b"] spWay)
    (DP : DefAt K mg "tied_paper" sPaper ["forest", "a", "b"] fP fdP) (GP : FnOk P w K mg base CX0 4 fP fdP ["forest", "a", "b"] spPaper)
    (B : Bi mg) : FnOk P w K mg base CX0 5 f fd ["_law_script"] (spLaw K) := by
  refine F.ok scLaw (fun vs H Q E h => ?_) (fun cdv A outer s H vs Q E hr h => ?_)
  · obtain ⟨a, ns, rfl, _⟩ := h
    rfl
  · obtain ⟨a, ns, rfl, hS, hlen, q⟩ := h
    have hr1 : Room 1 _ := hr.mono (by decide)
    have hr3 : Room 3 _ := hr.mono (by decide)
    have hu := hu_of hr
    refine ⟨_, (pss_cons (ps_set (i := 1) scLaw.nd rfl (.inl rfl) (pe_call GB hr1 (by rfl) DB.g DB.F.kp DB.b .nil pass0 (pa_cons (pv 0) pa_nil)))
      (pss_cons (ps_for PassesOwn.never rfl (pi_range1 rfl B.range (pa_cons (pe_op op_add pe_int (pe_callB call_len_seq (by rfl) B.len PySem.boot_len (pa_cons (pe_slice sl_list (pv 0) po_none (po_some pe_int)) pa_nil))) pa_nil)) (pg_name (i := 2) scLaw.nd rfl (.inl rfl))
      (pss_cons (ps_set (i := 3) scLaw.nd rfl (.inr rfl) (pe_call GF hr3 (by rfl) DF.g DF.F.kp DF.b .nil pass0 (pa_cons (pv 1) (pa_cons pe_int pa_nil))))
      (pss_cons (ps_set (i := 4) scLaw.nd rfl (.inl rfl) (pe_callB call_len_seq (by rfl) B.len PySem.boot_len (pa_cons (pe_ix ix_tup (pv 3) pe_int (fun _ _ => rfl)) pa_nil)))
      (pss_cons (ps_set (i := 5) scLaw.nd rfl (.inl rfl) (pe_callTy (call_dictT rfl hr.units) (by rfl) B.dict (by decide +kernel) (pa_cons (pe_lc (own := [("_law_point", 14)]) (g := gName 14) rfl scLaw.nd (pi_range1 rfl B.range (pa_cons (pv 4) pa_nil)) (blkOk_by (N := nLaw) (sc := defScope sLaw) (by decide +kernel)) (fun _ _ _ _ _ => pg_name (i := 14) scLaw.nd rfl (Or.inl rfl)) (fun _ _ _ _ _ => pts_nil) (fun _ _ _ _ _ => (pe_tup (pa_cons (pe_callTy (call_tuple_ofK (K := K) (by rfl)) (by rfl) B.tuple (by decide +kernel) (pa_cons (pe_call GL hr1 (by rfl) DL.g DL.F.kp DL.b .nil pass0 (pa_cons (pv 3) (pa_cons (pv 14) pa_nil))) pa_nil)) (pa_cons pe_bl pa_nil))))) pa_nil)))
      (pss_cons (ps_set (i := 6) scLaw.nd rfl (.inr rfl) (pe_call GN hr1 (by rfl) DN.g DN.F.kp DN.b .nil pass0 (pa_cons (pv 1) (pa_cons (pv 4) pa_nil))))
      (pss_cons (ps_par (i := 7) (j := 8) rfl scLaw.nd rfl rfl (by decide) rfl rfl (pa_cons (pe_call GR hr1 (by rfl) DR.g DR.F.kp DR.b .nil pass0 (pa_cons (pv 3) (pa_cons (pv 6) pa_nil))) (pa_cons (pe_call GA hr1 (by rfl) DA.g DA.F.kp DA.b .nil pass0 (pa_cons (pv 4) pa_nil)) pa_nil)) (by rfl))
      (pss_one (ps_for PassesOwn.never rfl (pi_range1 rfl B.range (pa_cons (pv 4) pa_nil)) (pg_name (i := 9) scLaw.nd rfl (.inr rfl))
      (pss_cons (ps_setLc (i := 10) (own := [("_law_row", 15)]) (g := gName 15) rfl scLaw.nd rfl rfl (sw_true rfl rfl rfl (by decide +kernel)) (pi_list (pv 7)) (blkOk_by (N := nLaw) (sc := defScope sLaw) (by decide +kernel)) (fun _ _ _ _ _ => pg_name (i := 15) scLaw.nd rfl (Or.inl rfl)) (fun _ _ _ _ _ => pts_one (pt_val (pe_call GS hr3 (by rfl) DS.g DS.F.kp DS.b .nil pass0 (pa_cons (pv 3) (pa_cons (pv 6) (pa_cons (pv 9) (pa_cons (pe_tup (pa_cons pe_str (pa_cons (pv 15) pa_nil))) pa_nil))))))) (fun _ _ _ _ _ => pv 15))
      (pss_cons (ps_setLc (i := 11) (own := [("_law_some", 16)]) (g := gName 16) rfl scLaw.nd rfl rfl (sw_true rfl rfl rfl (by decide +kernel)) (pi_list (pv 8)) (blkOk_by (N := nLaw) (sc := defScope sLaw) (by decide +kernel)) (fun _ _ _ _ _ => pg_name (i := 16) scLaw.nd rfl (Or.inl rfl)) (fun _ _ _ _ _ => pts_one (pt_val (pe_call GS hr3 (by rfl) DS.g DS.F.kp DS.b .nil pass0 (pa_cons (pv 3) (pa_cons (pv 6) (pa_cons (pv 9) (pa_cons (pe_tup (pa_cons pe_str (pa_cons (pv 16) pa_nil))) pa_nil))))))) (fun _ _ _ _ _ => pv 16))
      (pss_cons (ps_if (PW.pt (pw_or (pt_cmpR (op_neD hr.units) (pv 10) (pe_lc (own := [("_law_row", 15)]) (g := gName 15) rfl scLaw.nd (pi_list (pv 7)) (blkOk_by (N := nLaw) (sc := defScope sLaw) (by decide +kernel)) (fun _ _ _ _ _ => pg_name (i := 15) scLaw.nd rfl (Or.inl rfl)) (fun _ _ _ _ _ => pts_one (pt_cmpR op_eq (pe_ix (ix_tupK (K := K) (by rfl)) (pv 15) (pe_un un_neg pe_int) (fun _ _ => rfl)) (pv 9) (nomark _))) (fun _ _ _ _ _ => pv 15)) (nomark _)) (pw_or1 (pt_cmpR op_gt (pe_callB call_len_seq (by rfl) B.len PySem.boot_len (pa_cons (pv 10) pa_nil)) pe_int (nomark _))))) (pss_one (ps_ret pe_bl)) pss_nil)
      (pss_cons (ps_set (i := 12) scLaw.nd rfl (.inl rfl) pe_int)
      (pss_cons (ps_lock (ps_for PassesOwn.never rfl (pi_keys (pv 5)) (pg_name (i := 13) scLaw.nd rfl (.inl rfl)) (pss_one (ps_set (i := 12) scLaw.nd rfl (.inl rfl) (pe_op op_mul (pv 12) (pe_ix ix_list (pe_lst (pa_cons pe_int (pa_cons pe_int pa_nil))) (pe_callTy call_int1 (by rfl) B.int (by decide +kernel) (pa_cons (pe_or (pe_cmpR op_in_seq (pv 6) (pv 13) (by rfl)) (pe_one (pe_cmpR op_in_seq (pv 9) (pv 13) (by rfl)))) pa_nil)) (fun _ _ => rfl)))))))
      (pss_cons (ps_ifC (PW.pt (pw_or (pt_cmpR op_ne (pe_callB call_len_seq (by rfl) B.len PySem.boot_len (pa_cons (pv 11) pa_nil)) (pe_op op_mul (pv 12) (pe_callTy call_int1 (by rfl) B.int (by decide +kernel) (pa_cons (pe_cmpR (op_eqD hr.units) (pv 10) (pe_lst pa_nil) (nomark _)) pa_nil))) (nomark _)) (pw_or1 (pt_cmpR (op_neD hr.units) (pe_call GW hr3 (by rfl) DW.g DW.F.kp DW.b .nil pass0 (pa_cons (pv 3) (pa_cons (pv 6) (pa_cons (pv 9) pa_nil)))) (pe_ix ix_list (pe_op op_cat (pv 10) (pe_lst (pa_cons pe_non pa_nil))) pe_int (fun _ _ => rfl)) (nomark _))))) (pss_one (ps_ret pe_bl)) pss_nil)
      (pss_one (ps_if (pt_cmpR (op_notInD (hu65 hr)) (pe_call GP hr (by rfl) DP.g DP.F.kp DP.b .nil pass0 (pa_cons (pv 3) (pa_cons (pv 6) (pa_cons (pv 9) pa_nil)))) (pe_op op_cat (pe_lc (own := [("_law_row", 15)]) (g := gName 15) rfl scLaw.nd (pi_list (pv 10)) (blkOk_by (N := nLaw) (sc := defScope sLaw) (by decide +kernel)) (fun _ _ _ _ _ => pg_name (i := 15) scLaw.nd rfl (Or.inl rfl)) (fun _ _ _ _ _ => pts_nil) (fun _ _ _ _ _ => (pe_tup (pa_cons pe_str (pa_cons (pv 15) pa_nil))))) (pe_lc (own := [("_law_some", 16)]) (g := gName 16) rfl scLaw.nd (pi_list (pv 11)) (blkOk_by (N := nLaw) (sc := defScope sLaw) (by decide +kernel)) (fun _ _ _ _ _ => pg_name (i := 16) scLaw.nd rfl (Or.inl rfl)) (fun _ _ _ _ _ => pts_nil) (fun _ _ _ _ _ => (pe_tup (pa_cons pe_str (pa_cons (pv 16) pa_nil)))))) (by rfl)) (pss_one (ps_ret pe_bl)) pss_nil))))))))))))))))
      (pss_one (ps_ret pe_bl)))), ?_⟩
    -- draws = _law_begin(script)
    refine ⟨_, rfl, a, ns, rfl, hS, fun H0 D c s0 d0 => ?_⟩
    -- for turn in range(1 + len(script[:2]))
    refine ⟨_, rfl, 2, rfl, a, _, rfl, s0.seq hS, fun p0 hp0 => ?_⟩
    have hcl := cutV_length (ns.map V.int) none (some 2)
    rw [List.length_map] at hcl
    refine ⟨p0, _, rfl, .inl (SqL.of upd_same), _, _, rfl, rfl, _, rfl, by omega, by omega, ?_⟩
    have d0' := d0.same (same_upd (o := HO.lst (cutV (ns.map V.int) none (some 2))) hp0)
    refine for_range (lo := 0) (n := _) (fun i σ H' => (∃ y2 y3 y4 y5 y6 y7 y8 y9 y10 y11 y12 y13 : Option V, σ = [some (.ref a), some (.ref D), y2, y3, y4, y5, y6, y7, y8, y9, y10, y11, y12, y13, none, none, none]) ∧ DrawsAt c H' D)
      ⟨⟨_, _, _, _, _, _, _, _, _, _, _, _, rfl⟩, d0'⟩ ?_ ?_
    case refine_2 =>
      rintro σ H1 ⟨⟨y2, y3, y4, y5, y6, y7, y8, y9, y10, y11, y12, y13, rfl⟩, d1⟩
      exact q _
    rintro i σ H1 hi ⟨⟨y2, y3, y4, y5, y6, y7, y8, y9, y10, y11, y12, y13, rfl⟩, d1⟩
    -- forest_here = _law_forest(draws, 9)
    refine ⟨_, rfl, D, c, rfl, d1, fun H2 fo n ts b2 d2 hF S => ?_⟩
    obtain ⟨ps, tt, pvs, tas, h1, h2, h3, h4, h5⟩ := id hF
    have n0 := S.n0
    have n9 := S.n9
    -- many = len(forest_here[0])
    refine ⟨_, rfl, fo, _, 0, .ref ps, rfl, rfl, SqT.of h1, atI_nat (j := 0) rfl, ps, pvs, rfl, .inr (SqT.of h2), ?_⟩
    rw [h3]
    -- parts = dict([(tuple(_law_part(forest_here, point)), True) for point in range(many)])
    refine ⟨_, rfl, (n : Int), rfl, by omega, by omega, fun DD hDD => ?_⟩
    refine lc_range (lo := 0) (n := ((n : Int)).toNat) (fun i H' => Same H2 H' ∧ ∃ pas : List Addr, H' DD = some (.lst (pas.map V.ref)) ∧
        Paired (fun p (kv : List Key × V) => ∃ kb, H' p = some (.tup [V.ref kb, kv.2]) ∧ H' kb = some (.tup (kv.1.map kV))) pas (kvR (((List.range n).map (FM.comp n ts)).take i)))
      ⟨same_upd hDD, [], upd_same, .nil⟩ ?_ ?_
    · rintro j H3 hj ⟨s3, pas, e3, P3⟩
      rw [Int.zero_add]
      have hjn : j < n := by omega
      refine ⟨rfl, ?_⟩
      refine ⟨_, rfl, _, rfl, fo, n, ts, j, rfl, hF.same s3, S, hjn, fun H4 p s4 hp0 hp4 => ?_⟩
      refine ⟨p, _, rfl, .inl ⟨SqL.of hp4, fun kb hkb => ?_⟩⟩
      have s5 := same_upd (o := HO.tup (vrow (FM.comp n ts j))) hkb
      refine ⟨(by show 2 ≤ sizeLine; decide), fun t ht => ?_⟩
      have s6 := same_upd (o := HO.tup [V.ref kb, V.bl true]) ht
      have s36 := (s4.trans s5).trans s6
      have e6 := s36 _ _ e3
      have plen : pas.length ≤ 9 := by
        have e := Paired.length P3
        unfold kvR at e
        rw [List.length_map, List.length_take] at e
        omega
      have nDt : t ≠ DD := fun e => by
        have := (s4.trans s5) _ _ e3
        rw [e, this] at ht; cases ht
      have T : Tups H3 (upd (upd (upd H4 kb (.tup (vrow (FM.comp n ts j)))) t (.tup [V.ref kb, V.bl true])) DD (.lst (pas.map V.ref ++ [.ref t]))) := fun b xs e => by
        rw [upd_ne (fun z => by rw [z, e3] at e; cases e)]
        exact s36 _ _ e
      refine ⟨_, e6, by rw [List.length_map]; exact small9 plen, same_put (s3.trans s36) hDD, pas ++ [t], by rw [upd_same, List.map_append]; rfl, ?_⟩
      have ej : ((List.range n).map (FM.comp n ts))[j]? = some (FM.comp n ts j) := by
        rw [List.getElem?_map, List.getElem?_range hjn] <;> rfl
      rw [List.take_add_one, ej]
      unfold kvR
      rw [List.map_append]
      refine pair_snoc (pair_imp P3 fun _ _ ⟨kb, h1, h2⟩ => ⟨kb, T _ _ h1, T _ _ h2⟩) ⟨kb, ?_, ?_⟩
      · rw [upd_ne nDt, upd_same] <;> rfl
      · have nkD : kb ≠ DD := fun e => by
          have := s4 _ _ e3
          rw [e, this] at hkb; cases hkb
        rw [upd_ne nkD, s6 _ _ (upd_same), keyOf_V]
    rintro H3 ⟨s3, pas, e3, P3⟩
    rw [Int.toNat_natCast, List.take_of_length_le (by rw [List.length_map, List.length_range]; exact Nat.le_refl _)] at P3
    refine ⟨DD, pas, kvR ((List.range n).map (FM.comp n ts)), rfl, SqL.of e3, pair_imp P3 fun _ _ ⟨kb, h1, h2⟩ => ⟨kb, SqT.of h1, h2⟩, fun dp hdp => ?_⟩
    rw [show mergeT [] (kvR ((List.range n).map (FM.comp n ts))) = kvR (partsL n ts) from merge_kvR _ []]
    have s4 := same_upd (o := HO.dT (kvR (partsL n ts))) hdp
    have d4 := d2.same (s3.trans s4)
    -- a = _law_next(draws, many)
    refine ⟨_, rfl, _, rfl, D, c, (n : Int), rfl, d4, by omega, by omega, fun H5 av b5 d5 hav => ?_⟩
    have hav : av < n := by omega
    have hF5 : ForAt H5 fo n ts := (hF.same (s3.trans s4)).keep (b5.tups d4)
    have ndD : dp ≠ D := fun e => by
      have := (d2.same s3).ne hdp
      exact this.1 e
    have hdp5 : H5 dp = some (.dT (kvR (partsL n ts))) := b5 _ _ ndD upd_same
    -- rows_here, tuples = ..
    refine ⟨_, rfl, _, rfl, fo, n, ts, av, rfl, hF5, S, hav, fun H6 lr ras rows s6 _ hlr6 R6 RI => ?_⟩
    refine ⟨_, rfl, n, rfl, n9, fun Hb lt tls s7 hlt T7 => ⟨_, _, rfl, ?_⟩⟩
    have hlr : Hb lr = some (.lst (ras.map V.ref)) := s7 _ _ hlr6
    have R7 : RowsAt Hb ras rows := RowsAt.keep (.of s7) R6
    have hFb : ForAt Hb fo n ts := hF5.same (s6.trans s7)
    have hdpb : Hb dp = some (.dT (kvR (partsL n ts))) := s7 _ _ (s6 _ _ hdp5)
    have db : DrawsAt c Hb D := d5.same (s6.trans s7)
    have rlen := RI.small S.F hav
    have alen := AT_le n9
    have raslen : ras.length = rows.length := Paired.length R7
    have tlslen : tls.length = (FM.AT n).length := Paired.length T7
    -- for b in range(many)
    refine ⟨_, rfl, (n : Int), rfl, by omega, by omega, ?_⟩
    refine for_range (lo := 0) (n := ((n : Int)).toNat) (fun i' σ H' => (∃ y9 y10 y11 y12 y13 : Option V, σ = [some (.ref a), some (.ref D), some (.int (0 + (i : Int))), some (.ref fo), some (vn n), some (.ref dp), some (vn av), some (.ref lr), some (.ref lt), y9, y10, y11, y12, y13, none, none, none]) ∧ Same Hb H')
      ⟨⟨_, _, _, _, _, rfl⟩, Same.refl Hb⟩ ?_ ?_
    case refine_2 =>
      rintro σ H8 ⟨⟨y9, y10, y11, y12, y13, rfl⟩, s8⟩
      exact ⟨⟨_, _, _, _, _, _, _, _, _, _, _, _, rfl⟩, db.same s8⟩
    rintro b σ H8 hb ⟨⟨y9, y10, y11, y12, y13, rfl⟩, s8⟩
    have hbn : b < n := by omega
    rw [Int.zero_add]
    -- ways
    refine ⟨_, rfl, lr, rfl, ⟨_, SqL.of (s8 _ _ hlr)⟩, fun W hW => ?_⟩
    refine lc_list (K := K) (a := lr) (xs := ras.map V.ref) (fun j H' => Same H8 H' ∧ ∃ was : List Addr, H' W = some (.lst (was.map V.ref)) ∧ RowsAt H' was ((rows.take j).filter fun r => decide (FM.lastN r = b)))
      ⟨same_upd hW, [], upd_same, .nil⟩ (fun j H' _ ⟨s9, _⟩ => SqL.of (s9 _ _ (s8 _ _ hlr))) ?_ ?_
    · rintro j x H9 hx ⟨s9, was, e9, P9⟩
      obtain ⟨qa, hqa, rfl⟩ := refs_get hx
      obtain ⟨r, hr', hq⟩ := pair_get R7 hqa
      have hrm := List.mem_of_getElem? hr'
      have s89 := s8.trans s9
      refine ⟨rfl, ?_⟩
      refine ⟨_, rfl, _, rfl, _, rfl, _, rfl, (by show 2 ≤ sizeLine; decide), fun t ht => ?_⟩
      have s10 := same_upd (o := HO.tup [.str "way", .ref qa]) ht
      refine ⟨fo, n, ts, av, b, t, rfl, hFb.same (s89.trans s10), S, hav, hbn, .inl ⟨qa, r, FM.lastN r, upd_same, s10 _ _ (s89 _ _ hq), RI.path r hrm, fun H11 s11 => ⟨_, rfl, ?_⟩⟩⟩
      have s1011 := s10.trans s11
      have wlen : was.length ≤ 9 := by
        have e := Paired.length P9
        have e2 := List.length_filter_le (fun r => decide (FM.lastN r = b)) (rows.take j)
        rw [List.length_take] at e2
        omega
      have eft := filter_take_succ (fun r => decide (FM.lastN r = b)) hr'
      by_cases hl : FM.lastN r = b
      · rw [decide_eq_true hl]
        rw [if_pos (decide_eq_true hl)] at eft
        have e11 := s1011 _ _ e9
        have T : Tups H9 (upd H11 W (.lst (was.map V.ref ++ [.ref qa]))) := fun b xs e => by
          rw [upd_ne (fun z => by rw [z, e9] at e; cases e)]
          exact s1011 _ _ e
        refine ⟨_, rfl, _, e11, by rw [List.length_map]; exact small9 wlen, same_put (s9.trans s1011) hW, was ++ [qa], by rw [upd_same, List.map_append]; rfl, ?_⟩
        rw [eft]
        exact pair_snoc (RowsAt.keep T P9) (T _ _ (s89 _ _ hq))
      · rw [decide_eq_false hl]
        rw [if_neg (by simp [hl]), List.append_nil] at eft
        exact ⟨s9.trans s1011, was, s1011 _ _ e9, by rw [eft]; exact RowsAt.keep (.of s1011) P9⟩
    rintro HA ⟨sA, was, hWA, RW⟩
    rw [List.length_map, raslen, List.take_length] at RW
    -- aparts
    refine ⟨_, rfl, lt, rfl, ⟨_, SqL.of (sA _ _ (s8 _ _ hlt))⟩, fun A2 hA2 => ?_⟩
    refine lc_list (K := K) (a := lt) (xs := tls.map V.ref) (fun j H' => Same HA H' ∧ ∃ aas : List Addr, H' A2 = some (.lst (aas.map V.ref)) ∧ RowsAt H' aas (((FM.AT n).take j).filter (FM.okA av b ts)))
      ⟨same_upd hA2, [], upd_same, .nil⟩ (fun j H' _ ⟨s9, _⟩ => SqL.of (s9 _ _ (sA _ _ (s8 _ _ hlt)))) ?_ ?_
    · rintro j x H9 hx ⟨s9, aas, e9, P9⟩
      obtain ⟨qa, hqa, rfl⟩ := refs_get hx
      obtain ⟨r, hr', hq⟩ := pair_get T7 hqa
      have hrm := List.mem_of_getElem? hr'
      have s89 := (s8.trans sA).trans s9
      refine ⟨rfl, ?_⟩
      refine ⟨_, rfl, _, rfl, _, rfl, _, rfl, (by show 2 ≤ sizeLine; decide), fun t ht => ?_⟩
      have s10 := same_upd (o := HO.tup [.str "apart", .ref qa]) ht
      refine ⟨fo, n, ts, av, b, t, rfl, hFb.same (s89.trans s10), S, hav, hbn, .inr ⟨qa, r, upd_same, s10 _ _ (s89 _ _ hq), hrm, fun H11 s11 => ⟨_, rfl, ?_⟩⟩⟩
      have s1011 := s10.trans s11
      have wlen : aas.length ≤ 1000 := by
        have e := Paired.length P9
        have e2 := List.length_filter_le (FM.okA av b ts) ((FM.AT n).take j)
        rw [List.length_take] at e2
        omega
      have eft := filter_take_succ (FM.okA av b ts) hr'
      cases hl : FM.okA av b ts r with
      | true =>
        rw [if_pos hl] at eft
        have e11 := s1011 _ _ e9
        have T : Tups H9 (upd H11 A2 (.lst (aas.map V.ref ++ [.ref qa]))) := fun b xs e => by
          rw [upd_ne (fun z => by rw [z, e9] at e; cases e)]
          exact s1011 _ _ e
        refine ⟨_, rfl, _, e11, by rw [List.length_map]; exact small1000 wlen, same_put (s9.trans s1011) hA2, aas ++ [qa], by rw [upd_same, List.map_append]; rfl, ?_⟩
        rw [eft]
        exact pair_snoc (RowsAt.keep T P9) (T _ _ (s89 _ _ hq))
      | false =>
        rw [if_neg (by rw [hl]; exact Bool.false_ne_true), List.append_nil] at eft
        exact ⟨s9.trans s1011, aas, s1011 _ _ e9, by rw [eft]; exact RowsAt.keep (.of s1011) P9⟩
    rintro HC ⟨sC, aas, hAC, RA⟩
    rw [List.length_map, tlslen, List.take_length] at RA
    have hWC : HC W = some (.lst (was.map V.ref)) := sC _ _ hWA
    have RWC := RowsAt.keep (.of sC) RW
    have sbC : Same Hb HC := (s8.trans sA).trans sC
    -- what the plain law says
    obtain ⟨ws, ews⟩ : ∃ ws, ws = rows.filter fun r => decide (FM.lastN r = b) := ⟨_, rfl⟩
    obtain ⟨aps, eaps⟩ : ∃ aps, aps = (FM.AT n).filter (FM.okA av b ts) := ⟨_, rfl⟩
    rw [← ews] at RW RWC
    rw [← eaps] at RA
    have plain : (∃ p, FM.Path ts av b p ∧ ws = [p] ∧ aps = []) ∨ (¬ FM.Reach ts av b ∧ ws = [] ∧ aps.length = FM.due av b (partsL n ts) ∧ FM.comp n ts av ∈ aps) := by
      by_cases hre : FM.Reach ts av b
      · obtain ⟨p, hp⟩ := hre.path
        exact .inl ⟨p, hp, ews.trans (FM.ways_one S.F RI hp), eaps.trans (FM.aparts_nil hre)⟩
      · refine .inr ⟨hre, ews.trans (FM.ways_nil RI hre), ?_, ?_⟩
        · rw [eaps]
          exact FM.count_aparts S.F hav hbn hre (parts_ok n ts)
        · rw [eaps]
          exact FM.comp_okA S.F hav hre
    have wslen : ws.length ≤ 1 := by
      rcases plain with ⟨p, _, e, _⟩ | ⟨_, e, _⟩
      · rw [e]; exact Nat.le_refl _
      · rw [e]; exact Nat.zero_le _
    have waslen : was.length = ws.length := Paired.length RWC
    have aaslen : aas.length = aps.length := Paired.length RA
    have apslen : aps.length ≤ 512 := by
      rw [eaps]
      exact Nat.le_trans (List.length_filter_le _ _) alen
    -- if ways != [..] or len(ways) > 1
    refine ⟨_, rfl, _, rfl, lr, rfl, ⟨_, SqL.of (sbC _ _ hlr)⟩, fun W3 hW3 => ?_⟩
    refine lc_list (K := K) (a := lr) (xs := ras.map V.ref) (fun j H' => Same HC H' ∧ ∃ was3 : List Addr, H' W3 = some (.lst (was3.map V.ref)) ∧ RowsAt H' was3 ((rows.take j).filter fun r => decide (FM.lastN r = b)))
      ⟨same_upd hW3, [], upd_same, .nil⟩ (fun j H' _ ⟨s9, _⟩ => SqL.of (s9 _ _ (sbC _ _ hlr))) ?_ ?_
    · rintro j x H9 hx ⟨s9, was3, e9, P9⟩
      obtain ⟨qa, hqa, rfl⟩ := refs_get hx
      obtain ⟨r, hr', hq⟩ := pair_get R7 hqa
      have hrm := List.mem_of_getElem? hr'
      have s89 := sbC.trans s9
      refine ⟨rfl, ?_⟩
      refine ⟨_, rfl, 1, rfl, qa, _, -1, vn (FM.lastN r), rfl, rfl, SqT.of (s89 _ _ hq), atI_lastN (RI.path r hrm).ne_nil, _, rfl, rfl, _, rfl, ?_⟩
      rw [dec_vn]
      have wlen : was3.length ≤ 9 := by
        have e := Paired.length P9
        have e2 := List.length_filter_le (fun r => decide (FM.lastN r = b)) (rows.take j)
        rw [List.length_take] at e2
        omega
      have eft := filter_take_succ (fun r => decide (FM.lastN r = b)) hr'
      by_cases hl : FM.lastN r = b
      · rw [decide_eq_true hl]
        rw [if_pos (decide_eq_true hl)] at eft
        have T : Tups H9 (upd H9 W3 (.lst (was3.map V.ref ++ [.ref qa]))) := fun b xs e => by
          rw [upd_ne (fun z => by rw [z, e9] at e; cases e)]
          exact e
        refine ⟨_, rfl, _, e9, by rw [List.length_map]; exact small9 wlen, same_put s9 hW3, was3 ++ [qa], by rw [upd_same, List.map_append]; rfl, ?_⟩
        rw [eft]
        exact pair_snoc (RowsAt.keep T P9) (T _ _ (s89 _ _ hq))
      · rw [decide_eq_false hl]
        rw [if_neg (by simp [hl]), List.append_nil] at eft
        exact ⟨s9, was3, e9, by rw [eft]; exact P9⟩
    rintro HE ⟨sE, was3, hWE3, RWE3⟩
    rw [List.length_map, raslen, List.take_length, ← ews] at RWE3
    have hWE : HE W = some (.lst (was.map V.ref)) := sE _ _ hWC
    have hAE : HE A2 = some (.lst (aas.map V.ref)) := sE _ _ hAC
    have RWE := RowsAt.keep (.of sE) RWC
    have RAE := RowsAt.keep (.of sE) RA
    have sbE := sbC.trans sE
    refine ⟨.list (ws.map rowD), .list (ws.map rowD), .lst (SqL.of hWE) (dp_rows RWE), .lst (SqL.of hWE3) (dp_rows RWE3), rowsD_shaped ws, rowsD_shaped ws, _, rfl, ?_⟩
    rw [SeqAt.eqv_refl _ (by simp only [PyData.canLay0]; exact rowsD_lay ws)]
    refine ⟨_, rfl, W, _, rfl, .inl (SqL.of hWE), _, _, rfl, rfl, _, rfl, ?_⟩
    rw [decide_eq_false (show ¬ (1 : Int) < (((was.map V.ref).length : Nat) : Int) by rw [List.length_map, waslen]; omega)]
    -- for part_here in parts
    refine ⟨dp, _, sbE _ _ hdpb, trivial, fun od => ?_⟩
    refine ⟨_, rfl, dp, od, rfl, .inr ⟨kvR (partsL n ts), upd_same, ?_⟩⟩
    refine for_it (walk_keysT (d := dp) (o := od) (kvs := kvR (partsL n ts))) (fun j σ H' => (∃ y13 : Option V, σ = [some (.ref a), some (.ref D), some (.int (0 + (i : Int))), some (.ref fo), some (vn n), some (.ref dp), some (vn av), some (.ref lr), some (.ref lt), some (vn b), some (.ref W), some (.ref A2), some (vn (FM.due av b ((partsL n ts).take j))), y13, none, none, none]) ∧
        Same (upd HE dp (.frz od (.dT (kvR (partsL n ts))))) H')
      ⟨⟨_, rfl⟩, Same.refl _⟩ (fun j σ H' _ ⟨_, s9⟩ => s9 _ _ upd_same) ?_ ?_
    · rintro j x σ H9 H9' hj ⟨⟨z13, rfl⟩, s9⟩ ⟨rfl, k, v, qk, hk, rfl, hqk⟩
      unfold kvR at hk
      rw [List.getElem?_map] at hk
      obtain ⟨PP, hPP, ek⟩ := Option.map_eq_some_iff.mp hk
      cases ek
      rw [keyOf_V] at hqk
      have due_succ : FM.due av b ((partsL n ts).take (j + 1)) = FM.due av b ((partsL n ts).take j) * (if av ∈ PP ∨ b ∈ PP then 1 else 2) := by
        unfold FM.due
        rw [List.take_add_one, hPP, List.foldl_append] <;> rfl
      refine ⟨_, rfl, (by show 2 ≤ sizeLine; decide), fun l2 hl2 => ?_⟩
      have s10 := same_upd (o := HO.lst [V.int 2, V.int 1]) hl2
      have st : SqT K (upd H9' l2 (.lst [V.int 2, V.int 1])) qk (vrow PP) := SqT.of (s10 _ _ hqk)
      refine ⟨_, rfl, _, rfl, qk, vrow PP, rfl, .inr st, rfl, flat_row PP, inV (vn av) (vrow PP), rfl, ?_⟩
      rw [inV_row]
      by_cases m1 : av ∈ PP
      · rw [decide_eq_true m1]
        refine .inr ⟨true, rfl, l2, _, 1, vn 1, rfl, rfl, SqL.of upd_same, atI_nat (j := 1) rfl, _, _, rfl, rfl, .inr ⟨by decide, by decide⟩, ⟨some (.ref qk), ?_⟩, s9.trans s10⟩
        rw [due_succ, if_pos (.inl m1)]
        simp
      · rw [decide_eq_false m1]
        refine ⟨_, rfl, _, rfl, qk, vrow PP, rfl, .inr st, rfl, flat_row PP, ?_⟩
        show (∃ i, [V.bl (inV (vn b) (vrow PP))] = [V.int i] ∧ _) ∨ _
        rw [inV_row]
        by_cases m2 : b ∈ PP
        · rw [decide_eq_true m2]
          refine .inr ⟨true, rfl, l2, _, 1, vn 1, rfl, rfl, SqL.of upd_same, atI_nat (j := 1) rfl, _, _, rfl, rfl, .inr ⟨by decide, by decide⟩, ⟨some (.ref qk), ?_⟩, s9.trans s10⟩
          rw [due_succ, if_pos (.inr m2)]
          simp
        · rw [decide_eq_false m2]
          refine .inr ⟨false, rfl, l2, _, 0, vn 2, rfl, rfl, SqL.of upd_same, atI_nat (j := 0) rfl, _, _, rfl, rfl, .inr ⟨by decide, by decide⟩, ⟨some (.ref qk), ?_⟩, s9.trans s10⟩
          rw [due_succ, if_neg (fun z => z.elim m1 m2)]
          simp
    rintro σ HF ⟨⟨z13, rfl⟩, sF⟩
    refine ⟨sF _ _ upd_same, ?_⟩
    have ed : (partsL n ts).take (kvR (partsL n ts)).length = partsL n ts := List.take_of_length_le (by unfold kvR; rw [List.length_map]; exact Nat.le_refl _)
    rw [ed]
    have sG : Same HE (upd HF dp (.dT (kvR (partsL n ts)))) := fun x o e => by
      by_cases z : x = dp
      · subst z
        rw [upd_same]
        rw [sbE _ _ hdpb] at e
        exact e
      · rw [upd_ne z]
        exact sF _ _ (by rw [upd_ne z]; exact e)
    generalize upd HF dp (.dT (kvR (partsL n ts))) = HG at sG ⊢
    have hWG : HG W = some (.lst (was.map V.ref)) := sG _ _ hWE
    have hAG : HG A2 = some (.lst (aas.map V.ref)) := sG _ _ hAE
    have RWG := RowsAt.keep (.of sG) RWE
    have RAG := RowsAt.keep (.of sG) RAE
    have sbG := sbE.trans sG
    -- if len(aparts) != due * int(ways == []) or way_of(..) != (ways + [None])[0]
    refine ⟨fun k H' => k = false ∧ Same HG H', ?_, ?_⟩
    · refine ⟨_, rfl, A2, _, rfl, .inl (SqL.of hAG), _, rfl, _, rfl, Nat.zero_le _, fun p hp => ?_⟩
      have sp := same_upd (o := HO.lst []) hp
      have en : PyData.eqv (.list (ws.map rowD)) (.list []) = ws.isEmpty := by
        rw [eqv_nil]
        cases ws <;> rfl
      refine ⟨.list (ws.map rowD), .list [], .lst (SqL.of (sp _ _ hWG)) (dp_rows (RowsAt.keep (.of sp) RWG)), .lst (SqL.of upd_same) .nil, rowsD_shaped ws, shaped_list (by simp [PyData.canLayAll0]) (by simp [PyData.depthAll]), ?_⟩
      rw [en]
      refine .inr ⟨_, rfl, _, _, rfl, rfl, .inr ?_, rfl, _, rfl, ?_⟩
      · split <;> exact ⟨by decide, by decide⟩
      have e0 : decide (V.int (((aas.map V.ref).length : Nat) : Int) = V.int (((FM.due av b (partsL n ts) : Nat) : Int) * (if ws.isEmpty = true then 1 else 0))) = true := decide_eq_true (congrArg V.int (by
        rw [List.length_map, aaslen]
        rcases plain with ⟨p, _, hws, haps⟩ | ⟨_, hws, hl, _⟩
        · rw [hws, haps]
          simp
        · rw [hws, hl]
          simp))
      show if (!decide (V.int (((aas.map V.ref).length : Nat) : Int) = V.int (((FM.due av b (partsL n ts) : Nat) : Int) * (if ws.isEmpty = true then 1 else 0)))) = true then _ else _
      rw [e0]
      refine ⟨_, rfl, _, rfl, _, rfl, ?_⟩
      dsimp only [tNil]
      refine way_ofQ (hFb.same (sbG.trans sp)) S hav hbn fun HH v sH hv => ?_
      have sGH := sp.trans sH
      -- (ways + [None])[0]
      refine ⟨_, rfl, (by show 1 ≤ sizeLine; decide), fun l1 hl1 => ?_⟩
      have s1 := same_upd (o := HO.lst [V.non]) hl1
      refine ⟨W, l1, _, _, rfl, rfl, s1 _ _ (sGH _ _ hWG), upd_same, by rw [List.length_map, waslen]; show ws.length + 1 ≤ sizeLine; exact Nat.le_of_lt (small1000 (by omega)), fun l2 hl2 => ?_⟩
      have s2 := same_upd (o := HO.lst (was.map V.ref ++ [V.non])) hl2
      have sK := s1.trans s2
      have sGK := sGH.trans sK
      rcases plain with ⟨p, hp, hws, haps⟩ | ⟨hre, hws, hl, hcm⟩
      · rcases hv with ⟨_, hN⟩ | ⟨r, p', rfl, hp', hr'⟩
        · exact absurd hp.reach hN
        · have ep := hp'.unique S.F hp
          subst ep
          rw [hws] at RWG
          cases RWG with
          | @cons w0 _ was' _ hw0 tw =>
            refine ⟨l2, _, 0, .ref w0, rfl, rfl, SqL.of upd_same, atI_nat (j := 0) rfl, ?_⟩
            refine ⟨rowD p', rowD p', dp_row (sK _ _ hr'), dp_row (sGK _ _ hw0), rowD_shaped p', rowD_shaped p', _, rfl, ?_⟩
            rw [SeqAt.eqv_refl _ (rowD_lay p')]
            exact ⟨rfl, sGK⟩
      · rcases hv with ⟨rfl, _⟩ | ⟨r, p', rfl, hp', hr'⟩
        · rw [hws] at RWG
          cases RWG
          refine ⟨l2, _, 0, .non, rfl, rfl, SqL.of upd_same, atI_nat (j := 0) rfl, ?_⟩
          refine ⟨.none, .none, .non, .non, rfl, rfl, _, rfl, ?_⟩
          rw [SeqAt.eqv_refl _ rfl]
          exact ⟨rfl, sGK⟩
        · exact absurd hp'.reach hre
    · rintro _ HH ⟨rfl, sGH⟩
      have sbH := sbG.trans sGH
      have hWH : HH W = some (.lst (was.map V.ref)) := sGH _ _ hWG
      have hAH : HH A2 = some (.lst (aas.map V.ref)) := sGH _ _ hAG
      have RWH := RowsAt.keep (.of sGH) RWG
      have RAH := RowsAt.keep (.of sGH) RAG
      -- if tied_paper(..) not in [..] + [..]
      refine ⟨_, rfl, _, rfl, _, rfl, ?_⟩
      dsimp only [tNil]
      refine paper_of (hFb.same sbH) S hav hbn fun HI t r tag p sI hr1 ht1 hgood => ?_
      refine ⟨_, rfl, W, rfl, ⟨_, SqL.of (sI _ _ hWH)⟩, fun L1 hL1 => ?_⟩
      refine lc_list (K := K) (a := W) (xs := was.map V.ref) (fun j H' => Same HI H' ∧ ∃ pas : List Addr, H' L1 = some (.lst (pas.map V.ref)) ∧ PapAt H' "way" pas (ws.take j))
        ⟨same_upd hL1, [], upd_same, .nil⟩ (fun j H' _ ⟨s9, _⟩ => SqL.of (s9 _ _ (sI _ _ hWH))) ?_ ?_
      · rintro j x H9 hx ⟨s9, pas, e9, P9⟩
        obtain ⟨qa, hqa, rfl⟩ := refs_get hx
        obtain ⟨u, hu, hq⟩ := pair_get RWH hqa
        have hq9 := (sI.trans s9) _ _ hq
        refine ⟨rfl, _, rfl, (by show 2 ≤ sizeLine; decide), fun t2 ht2 => ?_⟩
        have s10 := same_upd (o := HO.tup [V.str "way", V.ref qa]) ht2
        have plen : pas.length ≤ 9 := by
          have e := Paired.length P9
          rw [List.length_take] at e
          omega
        have T : Tups H9 (upd (upd H9 t2 (.tup [V.str "way", .ref qa])) L1 (.lst (pas.map V.ref ++ [.ref t2]))) := fun b xs e => by
          rw [upd_ne (fun z => by rw [z, e9] at e; cases e)]
          exact s10 _ _ e
        have nt : t2 ≠ L1 := fun z => by rw [z, e9] at ht2; cases ht2
        refine ⟨_, s10 _ _ e9, by rw [List.length_map]; exact small9 plen, same_put (s9.trans s10) hL1, pas ++ [t2], by rw [upd_same, List.map_append]; rfl, ?_⟩
        rw [List.take_add_one, hu]
        exact pair_snoc (PapAt.keep T P9) ⟨qa, by rw [upd_ne nt, upd_same], T _ _ hq9⟩
      rintro HJ ⟨sJ, pas, hL1J, PJ⟩
      rw [List.length_map, waslen, List.take_length] at PJ
      refine ⟨_, rfl, A2, rfl, ⟨_, SqL.of (sJ _ _ (sI _ _ hAH))⟩, fun L2' hL2 => ?_⟩
      refine lc_list (K := K) (a := A2) (xs := aas.map V.ref) (fun j H' => Same HJ H' ∧ ∃ pbs : List Addr, H' L2' = some (.lst (pbs.map V.ref)) ∧ PapAt H' "apart" pbs (aps.take j))
        ⟨same_upd hL2, [], upd_same, .nil⟩ (fun j H' _ ⟨s9, _⟩ => SqL.of (s9 _ _ (sJ _ _ (sI _ _ hAH)))) ?_ ?_
      · rintro j x H9 hx ⟨s9, pbs, e9, P9⟩
        obtain ⟨qa, hqa, rfl⟩ := refs_get hx
        obtain ⟨u, hu, hq⟩ := pair_get RAH hqa
        have hq9 := ((sI.trans sJ).trans s9) _ _ hq
        refine ⟨rfl, _, rfl, (by show 2 ≤ sizeLine; decide), fun t2 ht2 => ?_⟩
        have s10 := same_upd (o := HO.tup [V.str "apart", V.ref qa]) ht2
        have plen : pbs.length ≤ 1000 := by
          have e := Paired.length P9
          rw [List.length_take] at e
          omega
        have T : Tups H9 (upd (upd H9 t2 (.tup [V.str "apart", .ref qa])) L2' (.lst (pbs.map V.ref ++ [.ref t2]))) := fun b xs e => by
          rw [upd_ne (fun z => by rw [z, e9] at e; cases e)]
          exact s10 _ _ e
        have nt : t2 ≠ L2' := fun z => by rw [z, e9] at ht2; cases ht2
        refine ⟨_, s10 _ _ e9, by rw [List.length_map]; exact small1000 plen, same_put (s9.trans s10) hL2, pbs ++ [t2], by rw [upd_same, List.map_append]; rfl, ?_⟩
        rw [List.take_add_one, hu]
        exact pair_snoc (PapAt.keep T P9) ⟨qa, by rw [upd_ne nt, upd_same], T _ _ hq9⟩
      rintro HK ⟨sK, pbs, hL2K, PK⟩
      rw [List.length_map, aaslen, List.take_length] at PK
      have paslen : pas.length = ws.length := Paired.length PJ
      have pbslen : pbs.length = aps.length := Paired.length PK
      refine ⟨L1, L2', _, _, rfl, rfl, sK _ _ hL1J, hL2K, by rw [List.length_map, List.length_map]; exact Nat.le_of_lt (small1000 (by omega)), fun L3 hL3 => ?_⟩
      have s3 := same_upd (o := HO.lst (pas.map V.ref ++ pbs.map V.ref)) hL3
      have sIK := (sJ.trans sK).trans s3
      have hd : papD tag p ∈ ws.map (papD "way") ++ aps.map (papD "apart") ∧ PyData.strOk tag = true := by
        rcases plain with ⟨p1, hp1, hws, haps⟩ | ⟨hre, hws, hl, hcm⟩
        · rcases hgood with ⟨_, hN, _⟩ | ⟨rfl, hp⟩
          · exact absurd hp1.reach hN
          · refine ⟨List.mem_append_left _ (List.mem_map.mpr ⟨p, ?_, rfl⟩), tag_way⟩
            rw [hws, hp.unique S.F hp1]
            simp
        · rcases hgood with ⟨rfl, _, rfl⟩ | ⟨rfl, hp⟩
          · exact ⟨List.mem_append_right _ (List.mem_map.mpr ⟨_, hcm, rfl⟩), tag_apart⟩
          · exact absurd hp.reach hre
      have lay : PyData.canLayAll0 (ws.map (papD "way") ++ aps.map (papD "apart")) = true := canLay_append _ _ (papsD_lay tag_way ws) (papsD_lay tag_apart aps)
      have dep : PyData.depthAll (ws.map (papD "way") ++ aps.map (papD "apart")) ≤ 2 := depth_append _ _ 2 (papsD_depth _ ws) (papsD_depth _ aps)
      refine ⟨papD tag p, ws.map (papD "way") ++ aps.map (papD "apart"), dp_pap (sIK _ _ ht1) (sIK _ _ hr1), .lst (SqL.of upd_same) (dp_append (dp_paps (PapAt.keep (.of (sK.trans s3)) PJ)) (dp_paps (PapAt.keep (.of s3) PK))),
        papD_shaped hd.2 p, shaped_list lay (by omega), _, rfl, ?_⟩
      rw [dp_refl_in hd.1 (papD_lay hd.2 p)]
      exact ⟨⟨_, _, _, _, _, rfl⟩, sbH.trans (sI.trans sIK)⟩
end
end FW
/-! W13: what the top has written; the end. -/
namespace FW
open PySem PySem.Spec PyProof.Rows L2 RZ

theorem all_mk {l : PySem.W.OpenLaw} {w : World} {K : PySem.W.Frag} {h : Heap} {mg : Str → Option Value} {fa f1 f2 f3 f4 f5 f6 f7 f8 f9 f10 f11 f12 f13 f14 f15 f16 f17 f18 f19 f20 f21 : Addr} (X : K.In h) (G : h.Ns mainGlobals mg) (hfa : mg "law" = some (.ref fa))
    {od1 an1 od2 an2 od3 an3 od4 an4 od5 an5 od6 an6 od7 an7 od8 an8 od9 an9 od10 an10 od11 an11 od12 an12 od13 an13 od14 an14 od15 an15 od16 an16 od17 an17 od18 an18 od19 an19 od20 an20 od21 an21 : Option Addr} {sl1 sl2 sl3 sl4 sl5 sl6 sl7 sl8 sl9 sl10 sl11 sl12 sl13 sl14 sl15 sl16 sl17 sl18 sl19 sl20 sl21 : Array (Option Value)} {oc1 kV1 dc1 pm1 cd1 ct1 oc2 kV2 dc2 pm2 cd2 ct2 oc3 kV3 dc3 pm3 cd3 ct3 oc4 kV4 dc4 pm4 cd4 ct4 oc5 kV5 dc5 pm5 cd5 ct5 oc6 kV6 dc6 pm6 cd6 ct6 oc7 kV7 dc7 pm7 cd7 ct7 oc8 kV8 dc8 pm8 cd8 ct8 oc9 kV9 dc9 pm9 cd9 ct9 oc10 kV10 dc10 pm10 cd10 ct10 oc11 kV11 dc11 pm11 cd11 ct11 oc12 kV12 dc12 pm12 cd12 ct12 oc13 kV13 dc13 pm13 cd13 ct13 oc14 kV14 dc14 pm14 cd14 ct14 oc15 kV15 dc15 pm15 cd15 ct15 oc16 kV16 dc16 pm16 cd16 ct16 oc17 kV17 dc17 pm17 cd17 ct17 oc18 kV18 dc18 pm18 cd18 ct18 oc19 kV19 dc19 pm19 cd19 ct19 oc20 kV20 dc20 pm20 cd20 ct20 oc21 kV21 dc21 pm21 cd21 ct21 : Value}
    (a1 : PySem.W.nsIn K mainGlobals "is_whole" = some (some (.ref f1))) (l1 : K.lookup f1 = some ⟨oc1, od1, .func (PySem.W.fnOf "is_whole" "is_whole" (defArgs sWhole) (defBody sWhole) (defScope sWhole) .none kV1 dc1 pm1 an1 cd1 ct1), sl1⟩) (c1 : PySem.W.codeIn K cd1 "is_whole" = true) (k1 : PySem.W.keepIn K (.ref f1) = true)
    (a2 : PySem.W.nsIn K mainGlobals "do_rise" = some (some (.ref f2))) (l2 : K.lookup f2 = some ⟨oc2, od2, .func (PySem.W.fnOf "do_rise" "do_rise" (defArgs sRise) (defBody sRise) (defScope sRise) .none kV2 dc2 pm2 an2 cd2 ct2), sl2⟩) (c2 : PySem.W.codeIn K cd2 "do_rise" = true) (k2 : PySem.W.keepIn K (.ref f2) = true)
    (a3 : PySem.W.nsIn K mainGlobals "tied_points" = some (some (.ref f3))) (l3 : K.lookup f3 = some ⟨oc3, od3, .func (PySem.W.fnOf "tied_points" "tied_points" (defArgs sTied) (defBody sTied) (defScope sTied) .none kV3 dc3 pm3 an3 cd3 ct3), sl3⟩) (c3 : PySem.W.codeIn K cd3 "tied_points" = true) (k3 : PySem.W.keepIn K (.ref f3) = true)
    (a4 : PySem.W.nsIn K mainGlobals "came_from" = some (some (.ref f4))) (l4 : K.lookup f4 = some ⟨oc4, od4, .func (PySem.W.fnOf "came_from" "came_from" (defArgs sCame) (defBody sCame) (defScope sCame) .none kV4 dc4 pm4 an4 cd4 ct4), sl4⟩) (c4 : PySem.W.codeIn K cd4 "came_from" = true) (k4 : PySem.W.keepIn K (.ref f4) = true)
    (a5 : PySem.W.nsIn K mainGlobals "way_of" = some (some (.ref f5))) (l5 : K.lookup f5 = some ⟨oc5, od5, .func (PySem.W.fnOf "way_of" "way_of" (defArgs sWay) (defBody sWay) (defScope sWay) .none kV5 dc5 pm5 an5 cd5 ct5), sl5⟩) (c5 : PySem.W.codeIn K cd5 "way_of" = true) (k5 : PySem.W.keepIn K (.ref f5) = true)
    (a6 : PySem.W.nsIn K mainGlobals "part_of" = some (some (.ref f6))) (l6 : K.lookup f6 = some ⟨oc6, od6, .func (PySem.W.fnOf "part_of" "part_of" (defArgs sPart) (defBody sPart) (defScope sPart) .none kV6 dc6 pm6 an6 cd6 ct6), sl6⟩) (c6 : PySem.W.codeIn K cd6 "part_of" = true) (k6 : PySem.W.keepIn K (.ref f6) = true)
    (a7 : PySem.W.nsIn K mainGlobals "tied_paper" = some (some (.ref f7))) (l7 : K.lookup f7 = some ⟨oc7, od7, .func (PySem.W.fnOf "tied_paper" "tied_paper" (defArgs sPaper) (defBody sPaper) (defScope sPaper) .none kV7 dc7 pm7 an7 cd7 ct7), sl7⟩) (c7 : PySem.W.codeIn K cd7 "tied_paper" = true) (k7 : PySem.W.keepIn K (.ref f7) = true)
    (a8 : PySem.W.nsIn K mainGlobals "are_points" = some (some (.ref f8))) (l8 : K.lookup f8 = some ⟨oc8, od8, .func (PySem.W.fnOf "are_points" "are_points" (defArgs sPts) (defBody sPts) (defScope sPts) .none kV8 dc8 pm8 an8 cd8 ct8), sl8⟩) (c8 : PySem.W.codeIn K cd8 "are_points" = true) (k8 : PySem.W.keepIn K (.ref f8) = true)
    (a9 : PySem.W.nsIn K mainGlobals "are_tied" = some (some (.ref f9))) (l9 : K.lookup f9 = some ⟨oc9, od9, .func (PySem.W.fnOf "are_tied" "are_tied" (defArgs sAT) (defBody sAT) (defScope sAT) .none kV9 dc9 pm9 an9 cd9 ct9), sl9⟩) (c9 : PySem.W.codeIn K cd9 "are_tied" = true) (k9 : PySem.W.keepIn K (.ref f9) = true)
    (a10 : PySem.W.nsIn K mainGlobals "is_way" = some (some (.ref f10))) (l10 : K.lookup f10 = some ⟨oc10, od10, .func (PySem.W.fnOf "is_way" "is_way" (defArgs sIsWay) (defBody sIsWay) (defScope sIsWay) .none kV10 dc10 pm10 an10 cd10 ct10), sl10⟩) (c10 : PySem.W.codeIn K cd10 "is_way" = true) (k10 : PySem.W.keepIn K (.ref f10) = true)
    (a11 : PySem.W.nsIn K mainGlobals "does_part" = some (some (.ref f11))) (l11 : K.lookup f11 = some ⟨oc11, od11, .func (PySem.W.fnOf "does_part" "does_part" (defArgs sDP) (defBody sDP) (defScope sDP) .none kV11 dc11 pm11 an11 cd11 ct11), sl11⟩) (c11 : PySem.W.codeIn K cd11 "does_part" = true) (k11 : PySem.W.keepIn K (.ref f11) = true)
    (a12 : PySem.W.nsIn K mainGlobals "shows_tied" = some (some (.ref f12))) (l12 : K.lookup f12 = some ⟨oc12, od12, .func (PySem.W.fnOf "shows_tied" "shows_tied" (defArgs sShows) (defBody sShows) (defScope sShows) .none kV12 dc12 pm12 an12 cd12 ct12), sl12⟩) (c12 : PySem.W.codeIn K cd12 "shows_tied" = true) (k12 : PySem.W.keepIn K (.ref f12) = true)
    (a13 : PySem.W.nsIn K mainGlobals "_law_begin" = some (some (.ref f13))) (l13 : K.lookup f13 = some ⟨oc13, od13, .func (PySem.W.fnOf "_law_begin" "_law_begin" (defArgs sBeg) (defBody sBeg) (defScope sBeg) .none kV13 dc13 pm13 an13 cd13 ct13), sl13⟩) (c13 : PySem.W.codeIn K cd13 "_law_begin" = true) (k13 : PySem.W.keepIn K (.ref f13) = true)
    (a14 : PySem.W.nsIn K mainGlobals "_law_next" = some (some (.ref f14))) (l14 : K.lookup f14 = some ⟨oc14, od14, .func (PySem.W.fnOf "_law_next" "_law_next" (defArgs sNext) (defBody sNext) (defScope sNext) .none kV14 dc14 pm14 an14 cd14 ct14), sl14⟩) (c14 : PySem.W.codeIn K cd14 "_law_next" = true) (k14 : PySem.W.keepIn K (.ref f14) = true)
    (a15 : PySem.W.nsIn K mainGlobals "_law_many" = some (some (.ref f15))) (l15 : K.lookup f15 = some ⟨oc15, od15, .func (PySem.W.fnOf "_law_many" "_law_many" (defArgs sMany) (defBody sMany) (defScope sMany) .none kV15 dc15 pm15 an15 cd15 ct15), sl15⟩) (c15 : PySem.W.codeIn K cd15 "_law_many" = true) (k15 : PySem.W.keepIn K (.ref f15) = true)
    (a16 : PySem.W.nsIn K mainGlobals "_law_worth" = some (some (.ref f16))) (l16 : K.lookup f16 = some ⟨oc16, od16, .func (PySem.W.fnOf "_law_worth" "_law_worth" (defArgs sWorth) (defBody sWorth) (defScope sWorth) .none kV16 dc16 pm16 an16 cd16 ct16), sl16⟩) (c16 : PySem.W.codeIn K cd16 "_law_worth" = true) (k16 : PySem.W.keepIn K (.ref f16) = true)
    (a17 : PySem.W.nsIn K mainGlobals "_law_forest" = some (some (.ref f17))) (l17 : K.lookup f17 = some ⟨oc17, od17, .func (PySem.W.fnOf "_law_forest" "_law_forest" (defArgs sFor) (defBody sFor) (defScope sFor) .none kV17 dc17 pm17 an17 cd17 ct17), sl17⟩) (c17 : PySem.W.codeIn K cd17 "_law_forest" = true) (k17 : PySem.W.keepIn K (.ref f17) = true)
    (a18 : PySem.W.nsIn K mainGlobals "_law_part" = some (some (.ref f18))) (l18 : K.lookup f18 = some ⟨oc18, od18, .func (PySem.W.fnOf "_law_part" "_law_part" (defArgs sLP) (defBody sLP) (defScope sLP) .none kV18 dc18 pm18 an18 cd18 ct18), sl18⟩) (c18 : PySem.W.codeIn K cd18 "_law_part" = true) (k18 : PySem.W.keepIn K (.ref f18) = true)
    (a19 : PySem.W.nsIn K mainGlobals "_law_rows" = some (some (.ref f19))) (l19 : K.lookup f19 = some ⟨oc19, od19, .func (PySem.W.fnOf "_law_rows" "_law_rows" (defArgs sLR) (defBody sLR) (defScope sLR) .none kV19 dc19 pm19 an19 cd19 ct19), sl19⟩) (c19 : PySem.W.codeIn K cd19 "_law_rows" = true) (k19 : PySem.W.keepIn K (.ref f19) = true)
    (a20 : PySem.W.nsIn K mainGlobals "_law_all_tuples" = some (some (.ref f20))) (l20 : K.lookup f20 = some ⟨oc20, od20, .func (PySem.W.fnOf "_law_all_tuples" "_law_all_tuples" (defArgs sAll) (defBody sAll) (defScope sAll) .none kV20 dc20 pm20 an20 cd20 ct20), sl20⟩) (c20 : PySem.W.codeIn K cd20 "_law_all_tuples" = true) (k20 : PySem.W.keepIn K (.ref f20) = true)
    (a21 : PySem.W.nsIn K mainGlobals "law" = some (some (.ref f21))) (l21 : K.lookup f21 = some ⟨oc21, od21, .func (PySem.W.fnOf "law" "law" (defArgs sLaw) (defBody sLaw) (defScope sLaw) .none kV21 dc21 pm21 an21 cd21 ct21), sl21⟩) (c21 : PySem.W.codeIn K cd21 "law" = true) (k21 : PySem.W.keepIn K (.ref f21) = true)
    (z1 : PySem.W.nsIn K mainGlobals "isinstance" = some none) (z2 : PySem.W.nsIn K mainGlobals "int" = some none) (z3 : PySem.W.nsIn K mainGlobals "bool" = some none) (z4 : PySem.W.nsIn K mainGlobals "all" = some none) (z5 : PySem.W.nsIn K mainGlobals "zip" = some none) (z6 : PySem.W.nsIn K mainGlobals "tuple" = some none) (z7 : PySem.W.nsIn K mainGlobals "sorted" = some none) (z8 : PySem.W.nsIn K mainGlobals "len" = some none) (z9 : PySem.W.nsIn K mainGlobals "min" = some none) (z10 : PySem.W.nsIn K mainGlobals "max" = some none) (z11 : PySem.W.nsIn K mainGlobals "set" = some none) (z12 : PySem.W.nsIn K mainGlobals "str" = some none) (z13 : PySem.W.nsIn K mainGlobals "list" = some none) (z14 : PySem.W.nsIn K mainGlobals "range" = some none) (z15 : PySem.W.nsIn K mainGlobals "dict" = some none) :
    ∃ fd : FuncData, (∀ (s : Shared) (v : Value), BindsTo s fd ⟨[v], []⟩ [("_law_script", v)]) ∧ ∀ base : Heap, K.In base → base.Ns mainGlobals mg → FnOk l.prog w K mg base CX0 5 fa fd ["_law_script"] (spLaw K) := by
  have e := hfa.symm.trans (PySem.W.mg_of X G a21)
  cases e
  have B : Bi mg := ⟨PySem.W.mg_none_of X G z1, PySem.W.mg_none_of X G z2, PySem.W.mg_none_of X G z3, PySem.W.mg_none_of X G z4, PySem.W.mg_none_of X G z5, PySem.W.mg_none_of X G z6, PySem.W.mg_none_of X G z7, PySem.W.mg_none_of X G z8, PySem.W.mg_none_of X G z9, PySem.W.mg_none_of X G z10, PySem.W.mg_none_of X G z11, PySem.W.mg_none_of X G z12, PySem.W.mg_none_of X G z13, PySem.W.mg_none_of X G z14, PySem.W.mg_none_of X G z15⟩
  have F1 := fun_mk (st := sWhole) l1 c1 k1
  have D1 : DefAt K mg "is_whole" sWhole ["thing"] f1 _ := ⟨F1, F1.binds (ps := ["thing"]) fun _ _ _ _ _ _ us hl => match us, hl with | [_], _ => rfl, PySem.W.mg_of X G a1⟩
  have F2 := fun_mk (st := sRise) l2 c2 k2
  have D2 : DefAt K mg "do_rise" sRise ["some"] f2 _ := ⟨F2, F2.binds (ps := ["some"]) fun _ _ _ _ _ _ us hl => match us, hl with | [_], _ => rfl, PySem.W.mg_of X G a2⟩
  have F3 := fun_mk (st := sTied) l3 c3 k3
  have D3 : DefAt K mg "tied_points" sTied ["forest"] f3 _ := ⟨F3, F3.binds (ps := ["forest"]) fun _ _ _ _ _ _ us hl => match us, hl with | [_], _ => rfl, PySem.W.mg_of X G a3⟩
  have F4 := fun_mk (st := sCame) l4 c4 k4
  have D4 : DefAt K mg "came_from" sCame ["forest", "a"] f4 _ := ⟨F4, F4.binds (ps := ["forest", "a"]) fun _ _ _ _ _ _ us hl => match us, hl with | [_, _], _ => rfl, PySem.W.mg_of X G a4⟩
  have F5 := fun_mk (st := sWay) l5 c5 k5
  have D5 : DefAt K mg "way_of" sWay ["forest", "a", "b"] f5 _ := ⟨F5, F5.binds (ps := ["forest", "a", "b"]) fun _ _ _ _ _ _ us hl => match us, hl with | [_, _, _], _ => rfl, PySem.W.mg_of X G a5⟩
  have F6 := fun_mk (st := sPart) l6 c6 k6
  have D6 : DefAt K mg "part_of" sPart ["forest", "a"] f6 _ := ⟨F6, F6.binds (ps := ["forest", "a"]) fun _ _ _ _ _ _ us hl => match us, hl with | [_, _], _ => rfl, PySem.W.mg_of X G a6⟩
  have F7 := fun_mk (st := sPaper) l7 c7 k7
  have D7 : DefAt K mg "tied_paper" sPaper ["forest", "a", "b"] f7 _ := ⟨F7, F7.binds (ps := ["forest", "a", "b"]) fun _ _ _ _ _ _ us hl => match us, hl with | [_, _, _], _ => rfl, PySem.W.mg_of X G a7⟩
  have F8 := fun_mk (st := sPts) l8 c8 k8
  have D8 : DefAt K mg "are_points" sPts ["forest", "thing"] f8 _ := ⟨F8, F8.binds (ps := ["forest", "thing"]) fun _ _ _ _ _ _ us hl => match us, hl with | [_, _], _ => rfl, PySem.W.mg_of X G a8⟩
  have F9 := fun_mk (st := sAT) l9 c9 k9
  have D9 : DefAt K mg "are_tied" sAT ["forest", "one", "other"] f9 _ := ⟨F9, F9.binds (ps := ["forest", "one", "other"]) fun _ _ _ _ _ _ us hl => match us, hl with | [_, _, _], _ => rfl, PySem.W.mg_of X G a9⟩
  have F10 := fun_mk (st := sIsWay) l10 c10 k10
  have D10 : DefAt K mg "is_way" sIsWay ["forest", "a", "b", "way"] f10 _ := ⟨F10, F10.binds (ps := ["forest", "a", "b", "way"]) fun _ _ _ _ _ _ us hl => match us, hl with | [_, _, _, _], _ => rfl, PySem.W.mg_of X G a10⟩
  have F11 := fun_mk (st := sDP) l11 c11 k11
  have D11 : DefAt K mg "does_part" sDP ["forest", "a", "b", "points"] f11 _ := ⟨F11, F11.binds (ps := ["forest", "a", "b", "points"]) fun _ _ _ _ _ _ us hl => match us, hl with | [_, _, _, _], _ => rfl, PySem.W.mg_of X G a11⟩
  have F12 := fun_mk (st := sShows) l12 c12 k12
  have D12 : DefAt K mg "shows_tied" sShows ["forest", "a", "b", "thing"] f12 _ := ⟨F12, F12.binds (ps := ["forest", "a", "b", "thing"]) fun _ _ _ _ _ _ us hl => match us, hl with | [_, _, _, _], _ => rfl, PySem.W.mg_of X G a12⟩
  have F13 := fun_mk (st := sBeg) l13 c13 k13
  have D13 : DefAt K mg "_law_begin" sBeg ["_law_script"] f13 _ := ⟨F13, F13.binds (ps := ["_law_script"]) fun _ _ _ _ _ _ us hl => match us, hl with | [_], _ => rfl, PySem.W.mg_of X G a13⟩
  have F14 := fun_mk (st := sNext) l14 c14 k14
  have D14 : DefAt K mg "_law_next" sNext ["_law_draws", "_law_many_here"] f14 _ := ⟨F14, F14.binds (ps := ["_law_draws", "_law_many_here"]) fun _ _ _ _ _ _ us hl => match us, hl with | [_, _], _ => rfl, PySem.W.mg_of X G a14⟩
  have F15 := fun_mk (st := sMany) l15 c15 k15
  have D15 : DefAt K mg "_law_many" sMany ["_law_draws", "_law_few", "_law_most"] f15 _ := ⟨F15, F15.binds (ps := ["_law_draws", "_law_few", "_law_most"]) fun _ _ _ _ _ _ us hl => match us, hl with | [_, _, _], _ => rfl, PySem.W.mg_of X G a15⟩
  have F16 := fun_mk (st := sWorth) l16 c16 k16
  have D16 : DefAt K mg "_law_worth" sWorth ["_law_draws"] f16 _ := ⟨F16, F16.binds (ps := ["_law_draws"]) fun _ _ _ _ _ _ us hl => match us, hl with | [_], _ => rfl, PySem.W.mg_of X G a16⟩
  have F17 := fun_mk (st := sFor) l17 c17 k17
  have D17 : DefAt K mg "_law_forest" sFor ["_law_draws", "_law_most"] f17 _ := ⟨F17, F17.binds (ps := ["_law_draws", "_law_most"]) fun _ _ _ _ _ _ us hl => match us, hl with | [_, _], _ => rfl, PySem.W.mg_of X G a17⟩
  have F18 := fun_mk (st := sLP) l18 c18 k18
  have D18 : DefAt K mg "_law_part" sLP ["_law_forest_here", "_law_a"] f18 _ := ⟨F18, F18.binds (ps := ["_law_forest_here", "_law_a"]) fun _ _ _ _ _ _ us hl => match us, hl with | [_, _], _ => rfl, PySem.W.mg_of X G a18⟩
  have F19 := fun_mk (st := sLR) l19 c19 k19
  have D19 : DefAt K mg "_law_rows" sLR ["_law_forest_here", "_law_a"] f19 _ := ⟨F19, F19.binds (ps := ["_law_forest_here", "_law_a"]) fun _ _ _ _ _ _ us hl => match us, hl with | [_, _], _ => rfl, PySem.W.mg_of X G a19⟩
  have F20 := fun_mk (st := sAll) l20 c20 k20
  have D20 : DefAt K mg "_law_all_tuples" sAll ["_law_many_here"] f20 _ := ⟨F20, F20.binds (ps := ["_law_many_here"]) fun _ _ _ _ _ _ us hl => match us, hl with | [_], _ => rfl, PySem.W.mg_of X G a20⟩
  have F21 := fun_mk (st := sLaw) l21 c21 k21
  refine ⟨PySem.W.fnOf "law" "law" (defArgs sLaw) (defBody sLaw) (defScope sLaw) .none kV21 dc21 pm21 an21 cd21 ct21, fun s v => .of_eq rfl, fun base _ _ => ?_⟩
  exact ok_law F21 D13 (ok_beg D13.F B) D17 (ok_for D17.F D14 D15 D16 B) D18 (ok_lp D18.F B) D14 (ok_next D14.F B)
    D19 (ok_lr D19.F B) D20 (ok_all D20.F B)
    D12 (ok_shows D12.F D8 D10 D11 D1 D9 D2 B)
    D5 (ok_way D5.F D4 D3 B)
    D7 (ok_paper D7.F D5 D6 D4 D3 B) B
end FW

open PySem PySem.W PyProof.Rows
set_option maxRecDepth 100000 in
set_option maxHeartbeats 0 in
theorem PySem.Challenge.cw_tiedcut_k08_whole_one_sort_of_papers_holds : PySem.Challenge.rw_tiedcut_k08_whole_one_sort_of_papers.Holds := by
  w_on; o_law; k_head; (case hw => w_witness2)
  k_fill
  refine L2.walk_of (l := PySem.Challenge.rw_tiedcut_k08_whole_one_sort_of_papers) (n := 63) (k := 5) (x := "_law_script") (CX := fun _ => L2.CX0) (sp := fun w => FW.spLaw _) rfl (by decide) rfl ⟨rfl, by decide, by decide⟩ (fun w h Y => PySem.W.kIn_of Y) ?F (fun _ _ a ns hl _ hS => ⟨a, ns, rfl, hS, hl, fun _ => rfl⟩) (fun _ _ _ _ _ h => h)
  case F =>
    intro w mg fa h KX G hmg
    refine' FW.all_mk KX G hmg ?a1 ?l1 ?c1 ?k1 ?a2 ?l2 ?c2 ?k2 ?a3 ?l3 ?c3 ?k3 ?a4 ?l4 ?c4 ?k4 ?a5 ?l5 ?c5 ?k5 ?a6 ?l6 ?c6 ?k6 ?a7 ?l7 ?c7 ?k7 ?a8 ?l8 ?c8 ?k8 ?a9 ?l9 ?c9 ?k9 ?a10 ?l10 ?c10 ?k10 ?a11 ?l11 ?c11 ?k11 ?a12 ?l12 ?c12 ?k12 ?a13 ?l13 ?c13 ?k13 ?a14 ?l14 ?c14 ?k14 ?a15 ?l15 ?c15 ?k15 ?a16 ?l16 ?c16 ?k16 ?a17 ?l17 ?c17 ?k17 ?a18 ?l18 ?c18 ?k18 ?a19 ?l19 ?c19 ?k19 ?a20 ?l20 ?c20 ?k20 ?a21 ?l21 ?c21 ?k21 ?z1 ?z2 ?z3 ?z4 ?z5 ?z6 ?z7 ?z8 ?z9 ?z10 ?z11 ?z12 ?z13 ?z14 ?z15
    (case a1 => k_is)
    (case l1 => k_is)
    (case c1 => k_is)
    (case k1 => k_is)
    (case a2 => k_is)
    (case l2 => k_is)
    (case c2 => k_is)
    (case k2 => k_is)
    (case a3 => k_is)
    (case l3 => k_is)
    (case c3 => k_is)
    (case k3 => k_is)
    (case a4 => k_is)
    (case l4 => k_is)
    (case c4 => k_is)
    (case k4 => k_is)
    (case a5 => k_is)
    (case l5 => k_is)
    (case c5 => k_is)
    (case k5 => k_is)
    (case a6 => k_is)
    (case l6 => k_is)
    (case c6 => k_is)
    (case k6 => k_is)
    (case a7 => k_is)
    (case l7 => k_is)
    (case c7 => k_is)
    (case k7 => k_is)
    (case a8 => k_is)
    (case l8 => k_is)
    (case c8 => k_is)
    (case k8 => k_is)
    (case a9 => k_is)
    (case l9 => k_is)
    (case c9 => k_is)
    (case k9 => k_is)
    (case a10 => k_is)
    (case l10 => k_is)
    (case c10 => k_is)
    (case k10 => k_is)
    (case a11 => k_is)
    (case l11 => k_is)
    (case c11 => k_is)
    (case k11 => k_is)
    (case a12 => k_is)
    (case l12 => k_is)
    (case c12 => k_is)
    (case k12 => k_is)
    (case a13 => k_is)
    (case l13 => k_is)
    (case c13 => k_is)
    (case k13 => k_is)
    (case a14 => k_is)
    (case l14 => k_is)
    (case c14 => k_is)
    (case k14 => k_is)
    (case a15 => k_is)
    (case l15 => k_is)
    (case c15 => k_is)
    (case k15 => k_is)
    (case a16 => k_is)
    (case l16 => k_is)
    (case c16 => k_is)
    (case k16 => k_is)
    (case a17 => k_is)
    (case l17 => k_is)
    (case c17 => k_is)
    (case k17 => k_is)
    (case a18 => k_is)
    (case l18 => k_is)
    (case c18 => k_is)
    (case k18 => k_is)
    (case a19 => k_is)
    (case l19 => k_is)
    (case c19 => k_is)
    (case k19 => k_is)
    (case a20 => k_is)
    (case l20 => k_is)
    (case c20 => k_is)
    (case k20 => k_is)
    (case a21 => k_is)
    (case l21 => k_is)
    (case c21 => k_is)
    (case k21 => k_is)
    (case z1 => k_is)
    (case z2 => k_is)
    (case z3 => k_is)
    (case z4 => k_is)
    (case z5 => k_is)
    (case z6 => k_is)
    (case z7 => k_is)
    (case z8 => k_is)
    (case z9 => k_is)
    (case z10 => k_is)
    (case z11 => k_is)
    (case z12 => k_is)
    (case z13 => k_is)
    (case z14 => k_is)
    (case z15 => k_is)
