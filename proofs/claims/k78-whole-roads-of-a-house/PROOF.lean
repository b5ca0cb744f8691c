import PyProof.Rows.All
import Wide.All
import OpenK.AllK
import Wide.FinOn
import HandS.ForMost
import HandS.Codes
import HandS.Defaults
import HandS.MakeKwOnly
import HandS.CallLocal
import HandS.TupAny
import HandS.TupLe
import HandS.SortInts
import HandS.TupSets
import HandS.Conv
import HandS.Deep
import HandS.IsInst
import HandS.Property
import HandS.Star
import HandS.Zip
import HandS.DictComp
import HandS.Flow
import HandS.Style
import HandS.DictTup
import HandS.Strs
import HandS.Wide
import KE.KIndexOf
import KE.SortData
import PyProof.TupleOfSeq
import HandS.DictSubView
import HandS.SortKw
import KE.DataMinMax
import HandS.Walk
import KE.KDictSum
import KE.KDictPairs
import KE.KDictCopyH
import PySem.Challenge.RW_evernear_k78_whole_roads_of_a_house
set_option Elab.async false
set_option linter.all false
set_option maxRecDepth 100000
set_option maxHeartbeats 4000000
section
/-! Plain mathematics of towns, stands and ranks: no program in sight. -/
set_option autoImplicit false
namespace Ev

/-! ### ways -/
abbrev Road := Nat × Nat × Nat
def Edge (rs : List Road) (a b l : Nat) : Prop := (a, b, l) ∈ rs ∨ (b, a, l) ∈ rs

inductive Walk (rs : List Road) : Nat → Nat → Nat → Prop
  | nil (a : Nat) : Walk rs a a 0
  | snoc {a b c l L : Nat} : Walk rs a b L → Edge rs b c l → Walk rs a c (L + l)

theorem Walk.append {rs : List Road} {a b c L M : Nat} (h : Walk rs a b L) (k : Walk rs b c M) : Walk rs a c (L + M) := by
  induction k with
  | nil => exact h
  | snoc _ e ih =>
    have := Walk.snoc ih e
    rwa [Nat.add_assoc] at this

theorem Walk.mono {rs ss : List Road} (hs : ∀ r, r ∈ rs → r ∈ ss) {a b L : Nat} (h : Walk rs a b L) : Walk ss a b L := by
  induction h with
  | nil => exact .nil _
  | snoc _ e ih => exact .snoc ih (e.elim (fun e => .inl (hs _ e)) fun e => .inr (hs _ e))

/-- a road list as a town has it -/
structure Town (n : Nat) (rs : List Road) : Prop where
  ok : ∀ r ∈ rs, r.1 < r.2.1 ∧ r.2.1 < n ∧ 1 ≤ r.2.2 ∧ r.2.2 ≤ 9
  asc : rs.Pairwise fun r s => r.1 < s.1 ∨ (r.1 = s.1 ∧ r.2.1 < s.2.1)

theorem Town.edge {n : Nat} {rs : List Road} (T : Town n rs) {a b l : Nat} (e : Edge rs a b l) : a < n ∧ b < n ∧ a ≠ b := by
  rcases e with e | e
  · have := T.ok _ e; simp only at this; omega
  · have := T.ok _ e; simp only at this; omega

theorem asc_uniq : ∀ {rs : List Road}, rs.Pairwise (fun r s => r.1 < s.1 ∨ (r.1 = s.1 ∧ r.2.1 < s.2.1)) → ∀ {a b l m : Nat}, (a, b, l) ∈ rs → (a, b, m) ∈ rs → l = m
  | [], _, _, _, _, _, h, _ => by cases h
  | r :: rs, p, a, b, l, m, h, k => by
    have p' := List.pairwise_cons.mp p
    rcases List.mem_cons.mp h with h | h
    · rcases List.mem_cons.mp k with k | k
      · have := h.trans k.symm; injection this with _ this; injection this
      · have := p'.1 _ k; rw [← h] at this; simp only at this; omega
    · rcases List.mem_cons.mp k with k | k
      · have := p'.1 _ h; rw [← k] at this; simp only at this; omega
      · exact asc_uniq p'.2 h k

theorem Town.uniq {n : Nat} {rs : List Road} (T : Town n rs) {a b l m : Nat} (e : Edge rs a b l) (f : Edge rs a b m) : l = m := by
  rcases e with e | e <;> rcases f with f | f
  · exact asc_uniq T.asc e f
  · have := T.ok _ e; have := T.ok _ f; simp only at *; omega
  · have := T.ok _ e; have := T.ok _ f; simp only at *; omega
  · exact asc_uniq T.asc e f

/-! ### by middle places -/
def Via (rs : List Road) : Nat → Nat → Nat → Nat → Prop
  | 0, a, b, L => (a = b ∧ L = 0) ∨ Edge rs a b L
  | k + 1, a, b, L => Via rs k a b L ∨ ∃ x y, Via rs k a k x ∧ Via rs k k b y ∧ L = x + y

theorem via_walk {rs : List Road} : ∀ {k a b L : Nat}, Via rs k a b L → Walk rs a b L
  | 0, a, b, L, h => by
    rcases h with ⟨rfl, rfl⟩ | e
    · exact .nil _
    · have := Walk.snoc (Walk.nil a) e
      rwa [Nat.zero_add] at this
  | k + 1, a, b, L, h => by
    rcases h with h | ⟨x, y, h1, h2, rfl⟩
    · exact via_walk h
    · exact (via_walk h1).append (via_walk h2)

theorem via_up {rs : List Road} {k j a b L : Nat} (hk : k ≤ j) (h : Via rs k a b L) : Via rs j a b L := by
  induction j with
  | zero => have : k = 0 := by omega
            subst this; exact h
  | succ j ih =>
    by_cases e : k = j + 1
    · subst e; exact h
    · exact .inl (ih (by omega))

theorem via_comp {rs : List Road} : ∀ {k c a b x y : Nat}, c < k → Via rs k a c x → Via rs k c b y → ∃ L, L ≤ x + y ∧ Via rs k a b L
  | 0, c, a, b, x, y, hc, _, _ => by omega
  | k + 1, c, a, b, x, y, hc, h1, h2 => by
    by_cases e : c = k
    · subst e
      have l1 : ∃ x', x' ≤ x ∧ Via rs c a c x' := by
        rcases h1 with h | ⟨u, v, h, _, rfl⟩
        · exact ⟨x, Nat.le_refl _, h⟩
        · exact ⟨u, by omega, h⟩
      have l2 : ∃ y', y' ≤ y ∧ Via rs c c b y' := by
        rcases h2 with h | ⟨u, v, _, h, rfl⟩
        · exact ⟨y, Nat.le_refl _, h⟩
        · exact ⟨v, by omega, h⟩
      obtain ⟨x', hx, p⟩ := l1
      obtain ⟨y', hy, q⟩ := l2
      exact ⟨x' + y', by omega, .inr ⟨x', y', p, q, rfl⟩⟩
    · have hc' : c < k := by omega
      rcases h1 with h1 | ⟨u, v, h1, h1', rfl⟩ <;> rcases h2 with h2 | ⟨u', v', h2, h2', rfl⟩
      · obtain ⟨L, hL, h⟩ := via_comp hc' h1 h2
        exact ⟨L, hL, .inl h⟩
      · obtain ⟨L, hL, h⟩ := via_comp hc' h1 h2
        exact ⟨L + v', by omega, .inr ⟨L, v', h, h2', rfl⟩⟩
      · obtain ⟨L, hL, h⟩ := via_comp hc' h1' h2
        exact ⟨u + L, by omega, .inr ⟨u, L, h1, h, rfl⟩⟩
      · exact ⟨u + v', by omega, .inr ⟨u, v', h1, h2', rfl⟩⟩

theorem walk_via {n : Nat} {rs : List Road} (T : Town n rs) {a b L : Nat} (h : Walk rs a b L) : ∃ L', L' ≤ L ∧ Via rs n a b L' := by
  induction h with
  | nil => exact ⟨0, Nat.le_refl _, via_up (Nat.zero_le _) (.inl ⟨rfl, rfl⟩)⟩
  | snoc _ e ih =>
    obtain ⟨L', hL, h⟩ := ih
    obtain ⟨M, hM, k⟩ := via_comp (T.edge e).1 h (via_up (Nat.zero_le _) (.inr e))
    exact ⟨M, by omega, k⟩

/-! ### a table of ways -/
abbrev Mx := Nat → Nat → Option Nat
def Snd (rs : List Road) (m : Mx) : Prop := ∀ a b d, m a b = some d → Walk rs a b d
def Bd (rs : List Road) (n k : Nat) (m : Mx) : Prop := ∀ a b L, a < n → b < n → Via rs k a b L → ∃ d, m a b = some d ∧ d ≤ L
def Bd2 (rs : List Road) (n k i j : Nat) (m : Mx) : Prop := ∀ a b L, a < n → b < n → (a < i ∨ (a = i ∧ b < j)) → Via rs (k + 1) a b L → ∃ d, m a b = some d ∧ d ≤ L
def put (m : Mx) (i j : Nat) (v : Option Nat) : Mx := fun a b => if a = i ∧ b = j then v else m a b

/-- the table tells the ways -/
def Tbl (rs : List Road) (n : Nat) (m : Mx) : Prop := ∀ a b, a < n → b < n → (∀ d, m a b = some d → Walk rs a b d) ∧ ∀ L, Walk rs a b L → ∃ d, m a b = some d ∧ d ≤ L

theorem tbl_of {n : Nat} {rs : List Road} {m : Mx} (T : Town n rs) (s : Snd rs m) (b : Bd rs n n m) : Tbl rs n m := fun a c ha hc =>
  ⟨fun d h => s a c d h, fun L h => by
    obtain ⟨L', hL, v⟩ := walk_via T h
    obtain ⟨d, e, hd⟩ := b a c L' ha hc v
    exact ⟨d, e, by omega⟩⟩

/-- before any middle: noughts and roads -/
theorem bd_zero {n : Nat} {rs : List Road} {m : Mx} (h0 : ∀ a, a < n → ∃ d, m a a = some d ∧ d ≤ 0) (h1 : ∀ a b l, Edge rs a b l → m a b = some l) : Bd rs n 0 m := by
  intro a b L ha _ v
  rcases v with ⟨rfl, rfl⟩ | e
  · exact h0 a ha
  · exact ⟨L, h1 a b L e, Nat.le_refl _⟩

theorem bd2_start {n : Nat} {rs : List Road} {k : Nat} {m : Mx} : Bd2 rs n k 0 0 m := fun a b L _ _ h _ => by omega
theorem bd2_row {n : Nat} {rs : List Road} {k i : Nat} {m : Mx} (h : Bd2 rs n k i n m) : Bd2 rs n k (i + 1) 0 m := fun a b L ha hb h1 v => h a b L ha hb (by omega) v
theorem bd2_end {n : Nat} {rs : List Road} {k : Nat} {m : Mx} (h : Bd2 rs n k n 0 m) : Bd rs n (k + 1) m := fun a b L ha hb v => h a b L ha hb (.inl ha) v

/-- a cell that is already good enough stays -/
theorem cell_keep {n : Nat} {rs : List Road} {k i j : Nat} {m : Mx} (b : Bd rs n k m) (b2 : Bd2 rs n k i j m) (hi : i < n) (hk : k < n)
    (h : ∀ x y, m i k = some x → m k j = some y → ∃ d, m i j = some d ∧ d ≤ x + y) : Bd2 rs n k i (j + 1) m := by
  intro a c L ha hc hac v
  by_cases e : a = i ∧ c = j
  · obtain ⟨rfl, rfl⟩ := e
    rcases v with v | ⟨x, y, v1, v2, rfl⟩
    · exact b a c L ha hc v
    · obtain ⟨dx, ex, lx⟩ := b a k x ha hk v1
      obtain ⟨dy, ey, ly⟩ := b k c y hk hc v2
      obtain ⟨d, ed, ld⟩ := h dx dy ex ey
      exact ⟨d, ed, by omega⟩
  · exact b2 a c L ha hc (by omega) v

/-- a cell is made better -/
theorem cell_put {n : Nat} {rs : List Road} {k i j x y : Nat} {m : Mx} (s : Snd rs m) (b : Bd rs n k m) (b2 : Bd2 rs n k i j m) (hi : i < n) (hj : j < n) (hk : k < n)
    (ex : m i k = some x) (ey : m k j = some y) (hl : ∀ z, m i j = some z → x + y < z) :
    Snd rs (put m i j (some (x + y))) ∧ Bd rs n k (put m i j (some (x + y))) ∧ Bd2 rs n k i (j + 1) (put m i j (some (x + y))) := by
  have low : ∀ a c L, (∃ d, m a c = some d ∧ d ≤ L) → ∃ d, put m i j (some (x + y)) a c = some d ∧ d ≤ L := by
    intro a c L ⟨d, e, l⟩
    by_cases q : a = i ∧ c = j
    · obtain ⟨rfl, rfl⟩ := q
      exact ⟨x + y, by simp [put], by have := hl d e; omega⟩
    · exact ⟨d, by simp [put, q, e], l⟩
  refine ⟨?_, fun a c L ha hc v => low a c L (b a c L ha hc v), ?_⟩
  · intro a c d h
    by_cases q : a = i ∧ c = j
    · obtain ⟨rfl, rfl⟩ := q
      simp only [put, and_self, if_true] at h
      injection h with h
      subst h
      exact (s _ _ _ ex).append (s _ _ _ ey)
    · simp only [put, q, if_false] at h
      exact s a c d h
  · intro a c L ha hc hac v
    by_cases q : a = i ∧ c = j
    · obtain ⟨rfl, rfl⟩ := q
      rcases v with v | ⟨x', y', v1, v2, rfl⟩
      · exact low _ _ _ (b a c L ha hc v)
      · obtain ⟨dx, e1, l1⟩ := b a k x' ha hk v1
        obtain ⟨dy, e2, l2⟩ := b k c y' hk hc v2
        rw [ex] at e1
        rw [ey] at e2
        injection e1 with e1
        injection e2 with e2
        exact ⟨x + y, by simp [put], by omega⟩
    · exact low _ _ _ (b2 a c L ha hc (by omega) v)

/-! ### from one place, by turns -/
def Steps (rs : List Road) (s : Nat) : Nat → Nat → Nat → Prop
  | 0, v, L => v = s ∧ L = 0
  | t + 1, v, L => Steps rs s t v L ∨ ∃ u l M, Steps rs s t u M ∧ Edge rs u v l ∧ L = M + l

theorem steps_walk {rs : List Road} {s : Nat} : ∀ {t v L : Nat}, Steps rs s t v L → Walk rs s v L
  | 0, v, L, ⟨h1, h2⟩ => by subst h1; subst h2; exact .nil _
  | t + 1, v, L, h => by
    rcases h with h | ⟨u, l, M, h, e, rfl⟩
    · exact steps_walk h
    · exact .snoc (steps_walk h) e
theorem steps_up {rs : List Road} {s t j v L : Nat} (hk : t ≤ j) (h : Steps rs s t v L) : Steps rs s j v L := by
  induction j with
  | zero => have : t = 0 := by omega
            subst this; exact h
  | succ j ih =>
    by_cases e : t = j + 1
    · subst e; exact h
    · exact .inl (ih (by omega))

/-- a path by its places, the last one first -/
inductive Path (rs : List Road) (s : Nat) : List Nat → Nat → Prop
  | one : Path rs s [s] 0
  | snoc {u v l L : Nat} {vs : List Nat} : Path rs s (u :: vs) L → Edge rs u v l → Path rs s (v :: u :: vs) (L + l)

theorem Path.cut {rs : List Road} {s : Nat} {vs : List Nat} {L : Nat} (h : Path rs s vs L) : ∀ v, v ∈ vs → ∃ ws M, Path rs s (v :: ws) M ∧ M ≤ L ∧ (v :: ws).Sublist vs := by
  induction h with
  | one =>
    intro v hv
    have : v = s := by simpa using hv
    subst this
    exact ⟨[], 0, .one, Nat.le_refl _, List.Sublist.refl _⟩
  | snoc p e ih =>
    rename_i u v l L vs
    intro x hx
    rcases List.mem_cons.mp hx with rfl | hx
    · exact ⟨_, _, .snoc p e, Nat.le_refl _, List.Sublist.refl _⟩
    · obtain ⟨ws, M, q, hM, hs⟩ := ih x hx
      exact ⟨ws, M, q, by omega, hs.trans (List.sublist_cons_self _ _)⟩

theorem Path.simple {rs : List Road} {s : Nat} {v L : Nat} (h : Walk rs s v L) : ∃ ws M, Path rs s (v :: ws) M ∧ M ≤ L ∧ (v :: ws).Nodup := by
  induction h with
  | nil => exact ⟨[], 0, .one, Nat.le_refl _, by simp⟩
  | snoc _ e ih =>
    rename_i u v l L _
    obtain ⟨ws, M, p, hM, nd⟩ := ih
    by_cases hv : v ∈ u :: ws
    · obtain ⟨ws', M', q, hM', hs⟩ := p.cut v hv
      exact ⟨ws', M', q, by omega, nd.sublist hs⟩
    · exact ⟨u :: ws, M + l, .snoc p e, by omega, List.nodup_cons.mpr ⟨hv, nd⟩⟩

theorem Path.steps {rs : List Road} {s : Nat} {vs : List Nat} {L : Nat} (h : Path rs s vs L) : ∀ v ws, vs = v :: ws → Steps rs s ws.length v L := by
  induction h with
  | one =>
    intro v ws e
    injection e with e1 e2
    subst e1; subst e2
    exact ⟨rfl, rfl⟩
  | snoc p e ih =>
    intro x ws q
    injection q with q1 q2
    subst q1; subst q2
    exact .inr ⟨_, _, _, ih _ _ rfl, e, rfl⟩

theorem nodup_le : ∀ (n : Nat) (l : List Nat), l.Nodup → (∀ x ∈ l, x < n) → l.length ≤ n
  | 0, l, _, h => by
    cases l with
    | nil => exact Nat.le_refl _
    | cons x r => exact absurd (h x (by simp)) (by omega)
  | n + 1, l, nd, h => by
    have nd' : (l.erase n).Nodup := nd.erase n
    have h' : ∀ x ∈ l.erase n, x < n := fun x hx => by
      have := (nd.mem_erase_iff).mp hx
      have := h x this.2
      omega
    have ih := nodup_le n (l.erase n) nd' h'
    have : l.length ≤ (l.erase n).length + 1 := by
      rw [List.length_erase]
      split <;> omega
    omega

theorem Path.lt {n : Nat} {rs : List Road} (T : Town n rs) {s : Nat} (hs : s < n) {vs : List Nat} {L : Nat} (h : Path rs s vs L) : ∀ x ∈ vs, x < n := by
  induction h with
  | one => intro x hx; have : x = s := by simpa using hx
           omega
  | snoc p e ih =>
    intro x hx
    rcases List.mem_cons.mp hx with rfl | hx
    · exact (T.edge e).2.1
    · exact ih x hx

theorem walk_steps {n : Nat} {rs : List Road} (T : Town n rs) {s v L : Nat} (hs : s < n) (h : Walk rs s v L) : ∃ M, M ≤ L ∧ Steps rs s n v M := by
  obtain ⟨ws, M, p, hM, nd⟩ := Path.simple h
  have hl := nodup_le n _ nd (p.lt T hs)
  rw [List.length_cons] at hl
  exact ⟨M, hM, steps_up (by omega) (p.steps _ _ rfl)⟩

abbrev Rw := Nat → Option Nat
def SndR (rs : List Road) (s : Nat) (r : Rw) : Prop := ∀ v d, r v = some d → Walk rs s v d
def BdR (rs : List Road) (s t : Nat) (r : Rw) : Prop := ∀ v L, Steps rs s t v L → ∃ d, r v = some d ∧ d ≤ L
/-- along these one-way roads all is done for the next turn -/
def BdE (rs : List Road) (s t : Nat) (es : List Road) (r : Rw) : Prop := ∀ u v l, (u, v, l) ∈ es → ∀ M, Steps rs s t u M → ∃ d, r v = some d ∧ d ≤ M + l
def putR (r : Rw) (i : Nat) (v : Option Nat) : Rw := fun a => if a = i then v else r a

theorem row_keep {rs : List Road} {s t u v l : Nat} {es : List Road} {r : Rw} (b : BdR rs s t r) (be : BdE rs s t es r) (h : ∀ x, r u = some x → ∃ d, r v = some d ∧ d ≤ x + l) : BdE rs s t ((u, v, l) :: es) r := by
  intro u' v' l' hm M hM
  rcases List.mem_cons.mp hm with e | hm
  · injection e with e1 e2
    injection e2 with e2 e3
    subst e1; subst e2; subst e3
    obtain ⟨x, ex, lx⟩ := b _ _ hM
    obtain ⟨d, ed, ld⟩ := h x ex
    exact ⟨d, ed, by omega⟩
  · exact be u' v' l' hm M hM

theorem row_put {rs : List Road} {s t u v l x : Nat} {es : List Road} {r : Rw} (sd : SndR rs s r) (b : BdR rs s t r) (be : BdE rs s t es r) (he : Edge rs u v l) (ex : r u = some x) (hl : ∀ z, r v = some z → x + l < z) :
    SndR rs s (putR r v (some (x + l))) ∧ BdR rs s t (putR r v (some (x + l))) ∧ BdE rs s t ((u, v, l) :: es) (putR r v (some (x + l))) := by
  have low : ∀ a L, (∃ d, r a = some d ∧ d ≤ L) → ∃ d, putR r v (some (x + l)) a = some d ∧ d ≤ L := by
    intro a L ⟨d, e, h⟩
    by_cases q : a = v
    · subst q
      exact ⟨x + l, by simp [putR], by have := hl d e; omega⟩
    · exact ⟨d, by simp [putR, q, e], h⟩
  refine ⟨?_, fun a L h => low a L (b a L h), ?_⟩
  · intro a d h
    by_cases q : a = v
    · subst q
      simp only [putR, if_true] at h
      injection h with h
      subst h
      exact .snoc (sd _ _ ex) he
    · simp only [putR, q, if_false] at h
      exact sd a d h
  · intro u' v' l' hm M hM
    rcases List.mem_cons.mp hm with e | hm
    · injection e with e1 e2
      injection e2 with e2 e3
      subst e1; subst e2; subst e3
      obtain ⟨d, ed, ld⟩ := b _ _ hM
      rw [ex] at ed
      injection ed with ed
      exact ⟨x + l', by simp [putR], by omega⟩
    · exact low _ _ (be u' v' l' hm M hM)

theorem row_turn {rs : List Road} {s t : Nat} {es : List Road} {r : Rw} (b : BdR rs s t r) (be : BdE rs s t es r) (hall : ∀ u v l, Edge rs u v l → (u, v, l) ∈ es) : BdR rs s (t + 1) r := by
  intro v L h
  rcases h with h | ⟨u, l, M, h, e, rfl⟩
  · exact b v L h
  · exact be u v l (hall _ _ _ e) M h

theorem row_end {n : Nat} {rs : List Road} (T : Town n rs) {s : Nat} {r : Rw} (hs : s < n) (sd : SndR rs s r) (b : BdR rs s n r) : (∀ v d, r v = some d → Walk rs s v d) ∧ ∀ v L, Walk rs s v L → ∃ d, r v = some d ∧ d ≤ L :=
  ⟨sd, fun v L h => by
    obtain ⟨M, hM, st⟩ := walk_steps T hs h
    obtain ⟨d, e, hd⟩ := b v M st
    exact ⟨d, e, by omega⟩⟩

/-! ### within the reach -/
def Near (rs : List Road) (reach a b : Nat) : Prop := ∃ L, Walk rs a b L ∧ L ≤ reach
theorem Near.mono {rs ss : List Road} (hs : ∀ r, r ∈ rs → r ∈ ss) {reach a b : Nat} (h : Near rs reach a b) : Near ss reach a b := by
  obtain ⟨L, w, l⟩ := h
  exact ⟨L, w.mono hs, l⟩
theorem Tbl.near {rs : List Road} {n : Nat} {m : Mx} (T : Tbl rs n m) {reach a b : Nat} (ha : a < n) (hb : b < n) : (∃ d, m a b = some d ∧ d ≤ reach) ↔ Near rs reach a b := by
  constructor
  · intro ⟨d, e, l⟩
    exact ⟨d, (T a b ha hb).1 d e, l⟩
  · intro ⟨L, w, l⟩
    obtain ⟨d, e, h⟩ := (T a b ha hb).2 L w
    exact ⟨d, e, by omega⟩
end Ev
end
section
/-! Plain mathematics of stands, answers, ranks. -/
set_option autoImplicit false
namespace Ev

def Stand (n h : Nat) (s : List Nat) : Prop := s.length = h ∧ s.Pairwise (· ≤ ·) ∧ ∀ x ∈ s, x < n
def Ans (R : Nat → Nat → Prop) (one : Bool) (n : Nat) (s : List Nat) (c : Nat) (t : List Nat) : Prop :=
  if one = true then (c ∈ s ∧ t = s) ∨ (c ∉ s ∧ ∃ p, p ∈ s ∧ R p c ∧ t.Perm (c :: s.erase p) ∧ t.Pairwise (· ≤ ·))
  else Stand n s.length t ∧ c ∈ t ∧ ∃ o : List Nat, o.Perm t ∧ ∀ (k : Nat) (x y : Nat), s[k]? = some x → o[k]? = some y → R x y

theorem sorted_same {l m : List Nat} (p : l.Perm m) (hl : l.Pairwise (· ≤ ·)) (hm : m.Pairwise (· ≤ ·)) : l = m :=
  List.Perm.eq_of_pairwise (le := (· ≤ ·)) (fun a b _ _ h1 h2 => Nat.le_antisymm h1 h2) hl hm p

theorem ans_stand {R : Nat → Nat → Prop} {one : Bool} {n h c : Nat} {s t : List Nat} (hs : Stand n h s) (hc : c < n) (a : Ans R one n s c t) : Stand n h t := by
  unfold Ans at a
  split at a
  · rcases a with ⟨_, rfl⟩ | ⟨_, p, hp, _, pm, st⟩
    · exact hs
    · refine ⟨?_, st, fun x hx => ?_⟩
      · have h1 := pm.length_eq
        have h2 := (List.perm_cons_erase hp).length_eq
        rw [List.length_cons] at h1 h2
        have := hs.1
        omega
      · rcases List.mem_cons.mp (pm.mem_iff.mp hx) with rfl | hx
        · exact hc
        · exact hs.2.2 x (List.mem_of_mem_erase hx)
  · have h1 := a.1
    rw [hs.1] at h1
    exact h1

theorem ans_mono {R R' : Nat → Nat → Prop} (hR : ∀ a b, R a b → R' a b) {one : Bool} {n c : Nat} {s t : List Nat} (a : Ans R one n s c t) : Ans R' one n s c t := by
  unfold Ans at *
  split
  · rename_i e
    rw [if_pos e] at a
    rcases a with a | ⟨h, p, hp, r, z⟩
    · exact .inl a
    · exact .inr ⟨h, p, hp, hR _ _ r, z⟩
  · rename_i e
    rw [if_neg e] at a
    obtain ⟨h1, h2, o, ho, hk⟩ := a
    exact ⟨h1, h2, o, ho, fun k x y a b => hR _ _ (hk k x y a b)⟩

/-! ### who is beaten, by rounds -/
abbrev AR := List Nat → Nat → List Nat → Prop
def Bt (A : AR) (n : Nat) : Nat → List Nat → Prop
  | 0, _ => False
  | k + 1, s => Bt A n k s ∨ ∃ c, c < n ∧ ∀ t, A s c t → Bt A n k t

theorem bt_up {A : AR} {n : Nat} {s : List Nat} {j k : Nat} (h : j ≤ k) (b : Bt A n j s) : Bt A n k s := by
  induction k with
  | zero => have : j = 0 := by omega
            subst this; exact b
  | succ k ih =>
    by_cases e : j = k + 1
    · subst e; exact b
    · exact .inl (ih (by omega))

/-- the answers of a stand are stands -/
def Closed (A : AR) (n h : Nat) : Prop := ∀ s c t, Stand n h s → c < n → A s c t → Stand n h t

theorem bt_fix {A : AR} {n h r : Nat} (hA : Closed A n h) (hf : ∀ s, Stand n h s → Bt A n (r + 1) s → Bt A n r s) : ∀ k s, Stand n h s → Bt A n k s → Bt A n r s
  | 0, _, _, b => b.elim
  | k + 1, s, hs, b => by
    rcases b with b | ⟨c, hc, b⟩
    · exact bt_fix hA hf k s hs b
    · exact hf s hs (.inr ⟨c, hc, fun t a => bt_fix hA hf k t (hA s c t hs hc a) (b t a)⟩)

open Classical in
noncomputable def cnt (A : AR) (n : Nat) (S : List (List Nat)) (k : Nat) : Nat := (S.filter fun s => decide (Bt A n k s)).length

open Classical in
theorem filter_le {α : Type} (p q : α → Bool) (hpq : ∀ x, p x = true → q x = true) : ∀ S : List α, (S.filter p).length ≤ (S.filter q).length
  | [] => Nat.le_refl _
  | x :: S => by
    have ih := filter_le p q hpq S
    rw [List.filter_cons, List.filter_cons]
    by_cases h : p x = true
    · rw [if_pos h, if_pos (hpq x h), List.length_cons, List.length_cons]
      omega
    · rw [if_neg h]
      by_cases h' : q x = true
      · rw [if_pos h', List.length_cons]
        omega
      · rw [if_neg h']
        exact ih
theorem filter_lt {α : Type} (p q : α → Bool) (hpq : ∀ x, p x = true → q x = true) {y : α} (hp : p y = false) (hq : q y = true) : ∀ S : List α, y ∈ S → (S.filter p).length < (S.filter q).length
  | [], h => by cases h
  | x :: S, h => by
    rw [List.filter_cons, List.filter_cons]
    rcases List.mem_cons.mp h with rfl | h
    · rw [if_neg (by rw [hp]; decide), if_pos hq, List.length_cons]
      have := filter_le p q hpq S
      omega
    · have ih := filter_lt p q hpq hp hq S h
      by_cases h : p x = true
      · rw [if_pos h, if_pos (hpq x h), List.length_cons, List.length_cons]
        omega
      · rw [if_neg h]
        by_cases h' : q x = true
        · rw [if_pos h', List.length_cons]
          omega
        · rw [if_neg h']
          exact ih

theorem bt_grow {A : AR} {n h : Nat} {S : List (List Nat)} (hS : ∀ s, s ∈ S ↔ Stand n h s) (k : Nat) :
    (∃ j, j ≤ k ∧ ∀ s, Stand n h s → Bt A n (j + 1) s → Bt A n j s) ∨ k < cnt A n S (k + 1) := by
  classical
  have lt : ∀ k, ¬ (∀ s, Stand n h s → Bt A n (k + 1) s → Bt A n k s) → cnt A n S k < cnt A n S (k + 1) := by
    intro k hk
    have hk' : ∃ s, Stand n h s ∧ Bt A n (k + 1) s ∧ ¬ Bt A n k s := by
      apply Classical.byContradiction
      intro q
      exact hk fun s h1 h2 => Classical.byContradiction fun h3 => q ⟨s, h1, h2, h3⟩
    obtain ⟨s, h1, h2, h3⟩ := hk'
    exact filter_lt _ _ (fun x hx => decide_eq_true (.inl (of_decide_eq_true hx))) (y := s) (decide_eq_false h3) (decide_eq_true h2) S ((hS s).mpr h1)
  induction k with
  | zero =>
    by_cases hk : ∀ s, Stand n h s → Bt A n (0 + 1) s → Bt A n 0 s
    · exact .inl ⟨0, Nat.le_refl _, hk⟩
    · have := lt 0 hk
      exact .inr (by omega)
  | succ k ih =>
    rcases ih with ⟨j, hj, q⟩ | q
    · exact .inl ⟨j, by omega, q⟩
    · by_cases hk : ∀ s, Stand n h s → Bt A n (k + 1 + 1) s → Bt A n (k + 1) s
      · exact .inl ⟨k + 1, Nat.le_refl _, hk⟩
      · have := lt (k + 1) hk
        exact .inr (by omega)

/-- as many rounds as there are stands are enough -/
theorem bt_enough {A : AR} {n h : Nat} (hA : Closed A n h) {S : List (List Nat)} (hS : ∀ s, s ∈ S ↔ Stand n h s) {k : Nat} {s : List Nat} (hs : Stand n h s) (b : Bt A n k s) : Bt A n S.length s := by
  rcases bt_grow (A := A) hS S.length with ⟨j, hj, q⟩ | q
  · exact bt_up hj (bt_fix hA q k s hs b)
  · have : cnt A n S (S.length + 1) ≤ S.length := List.length_filter_le _ _
    omega

/-! ### ranks -/
def Rk (A : AR) (n : Nat) (s : List Nat) : Option Nat → Prop
  | none => ∀ k, ¬ Bt A n k s
  | some r => 0 < r ∧ Bt A n r s ∧ ¬ Bt A n (r - 1) s
theorem rk_uniq {A : AR} {n : Nat} {s : List Nat} : ∀ {o p : Option Nat}, Rk A n s o → Rk A n s p → o = p
  | none, none, _, _ => rfl
  | none, some r, h, k => absurd k.2.1 (h r)
  | some r, none, h, k => absurd h.2.1 (k r)
  | some r, some q, h, k => by
    have h1 : ¬ r ≤ q - 1 := fun z => k.2.2 (bt_up z h.2.1)
    have h2 : ¬ q ≤ r - 1 := fun z => h.2.2 (bt_up z k.2.1)
    have := h.1
    have := k.1
    have : r = q := by omega
    rw [this]

theorem bt_mono {A A' : AR} {n h : Nat} (hA : Closed A n h) (hm : ∀ s c t, Stand n h s → A s c t → A' s c t) : ∀ k s, Stand n h s → Bt A' n k s → Bt A n k s
  | 0, _, _, b => b
  | k + 1, s, hs, b => by
    rcases b with b | ⟨c, hc, b⟩
    · exact .inl (bt_mono hA hm k s hs b)
    · exact .inr ⟨c, hc, fun t a => bt_mono hA hm k t (hA s c t hs hc a) (b t (hm s c t hs a))⟩

/-- ranks as numbers, a safe one 1000 -/
def val (o : Option Nat) : Nat := o.getD 1000
theorem rk_le {A : AR} {n h : Nat} (hA : Closed A n h) {S : List (List Nat)} (hS : ∀ s, s ∈ S ↔ Stand n h s) {s : List Nat} (hs : Stand n h s) {r : Nat} (k : Rk A n s (some r)) : r ≤ S.length := by
  have b := bt_enough hA hS hs k.2.1
  have : ¬ S.length ≤ r - 1 := fun z => k.2.2 (bt_up z b)
  have := k.1
  omega
/-- more answers, no lesser rank -/
theorem rk_mono {A A' : AR} {n h : Nat} (hA : Closed A n h) {S : List (List Nat)} (hS : ∀ s, s ∈ S ↔ Stand n h s) (hl : S.length ≤ 1000) (hm : ∀ s c t, Stand n h s → A s c t → A' s c t) {s : List Nat} (hs : Stand n h s) :
    ∀ {o p : Option Nat}, Rk A n s o → Rk A' n s p → val o ≤ val p
  | none, none, _, _ => Nat.le_refl _
  | none, some r, h, k => absurd (bt_mono hA hm r s hs k.2.1) (h r)
  | some r, none, h, k => by
    have := rk_le hA hS hs h
    show r ≤ 1000
    omega
  | some r, some q, h, k => by
    have b := bt_mono hA hm q s hs k.2.1
    have : ¬ q ≤ r - 1 := fun z => h.2.2 (bt_up z b)
    have := h.1
    show r ≤ q
    omega

/-! ### the table of ranks behind r rounds -/
def Fd (A : AR) (n h r : Nat) (f : List Nat → Option Nat) : Prop := ∀ s, Stand n h s → (f s = none → ¬ Bt A n r s) ∧ ∀ k, f s = some k → 0 < k ∧ k ≤ r ∧ Bt A n k s ∧ ¬ Bt A n (k - 1) s
theorem fd_zero {A : AR} {n h : Nat} : Fd A n h 0 fun _ => none := fun _ _ => ⟨fun _ b => b, fun _ e => by cases e⟩
theorem Fd.some {A : AR} {n h r : Nat} {f : List Nat → Option Nat} (F : Fd A n h r f) {s : List Nat} (hs : Stand n h s) : (f s).isSome = true ↔ Bt A n r s := by
  cases e : f s with
  | none => exact ⟨fun h => by simp at h, fun b => absurd b ((F s hs).1 e)⟩
  | some k =>
    have := (F s hs).2 k e
    exact ⟨fun _ => bt_up this.2.1 this.2.2.1, fun _ => rfl⟩
/-- s is to be entered in the round behind r -/
def New (A : AR) (n : Nat) (f : List Nat → Option Nat) (s : List Nat) : Prop := f s = none ∧ ∃ c, c < n ∧ ∀ t, A s c t → (f t).isSome = true
theorem Fd.step {A : AR} {n h r : Nat} {f g : List Nat → Option Nat} (hA : Closed A n h) (F : Fd A n h r f) (hg : ∀ s, Stand n h s → (New A n f s → g s = Option.some (r + 1)) ∧ (¬ New A n f s → g s = f s)) : Fd A n h (r + 1) g := by
  intro s hs
  have key : New A n f s ↔ (¬ Bt A n r s ∧ Bt A n (r + 1) s) := by
    constructor
    · intro ⟨e, c, hc, q⟩
      exact ⟨(F s hs).1 e, .inr ⟨c, hc, fun t a => (F.some (hA s c t hs hc a)).mp (q t a)⟩⟩
    · intro ⟨b, b'⟩
      rcases b' with b' | ⟨c, hc, q⟩
      · exact absurd b' b
      · refine ⟨?_, c, hc, fun t a => (F.some (hA s c t hs hc a)).mpr (q t a)⟩
        cases e : f s with
        | none => rfl
        | some k => exact absurd ((F.some hs).mp (by rw [e]; rfl)) b
  by_cases q : New A n f s
  · have e := (hg s hs).1 q
    have k := key.mp q
    refine ⟨fun e' => ?_, fun j e' => ?_⟩
    · rw [e] at e'; cases e'
    · rw [e] at e'
      injection e' with e'
      subst e'
      exact ⟨by omega, by omega, k.2, k.1⟩
  · have e := (hg s hs).2 q
    refine ⟨fun e' b => ?_, fun j e' => ?_⟩
    · rw [e] at e'
      exact q (key.mpr ⟨(F s hs).1 e', b⟩)
    · rw [e] at e'
      have := (F s hs).2 j e'
      exact ⟨this.1, by omega, this.2.2⟩
/-- no one is to be entered: the table is whole -/
theorem Fd.whole {A : AR} {n h r : Nat} {f : List Nat → Option Nat} (hA : Closed A n h) (F : Fd A n h r f) (hn : ∀ s, Stand n h s → ¬ New A n f s) {s : List Nat} (hs : Stand n h s) : Rk A n s (f s) := by
  have fix : ∀ s, Stand n h s → Bt A n (r + 1) s → Bt A n r s := by
    intro s hs b
    rcases b with b | ⟨c, hc, q⟩
    · exact b
    · apply Classical.byContradiction
      intro nb
      refine hn s hs ⟨?_, c, hc, fun t a => (F.some (hA s c t hs hc a)).mpr (q t a)⟩
      cases e : f s with
      | none => rfl
      | some k => exact absurd ((F.some hs).mp (by rw [e]; rfl)) nb
  cases e : f s with
  | none => exact fun k b => (F s hs).1 e (bt_fix hA fix k s hs b)
  | some k =>
    have := (F s hs).2 k e
    exact ⟨this.1, this.2.2⟩
theorem Fd.full {A : AR} {n h : Nat} {f : List Nat → Option Nat} (hA : Closed A n h) {S : List (List Nat)} (hS : ∀ s, s ∈ S ↔ Stand n h s) (F : Fd A n h S.length f) {s : List Nat} (hs : Stand n h s) : Rk A n s (f s) := by
  cases e : f s with
  | none => exact fun k b => (F s hs).1 e (bt_enough hA hS hs b)
  | some k =>
    have := (F s hs).2 k e
    exact ⟨this.1, this.2.2⟩
end Ev
end
section
/-! Plain mathematics of road lists: put in, left out. -/
set_option autoImplicit false
namespace Ev
def rlt (r s : Road) : Bool := decide (r.1 < s.1 ∨ (r.1 = s.1 ∧ r.2.1 < s.2.1))
def place (rs : List Road) (r : Road) : Nat := (rs.filter fun s => rlt s r).length
def ins (rs : List Road) (r : Road) : List Road := rs.take (place rs r) ++ r :: rs.drop (place rs r)
abbrev Asc (rs : List Road) : Prop := rs.Pairwise fun r s => r.1 < s.1 ∨ (r.1 = s.1 ∧ r.2.1 < s.2.1)
theorem rlt_iff {r s : Road} : rlt r s = true ↔ (r.1 < s.1 ∨ (r.1 = s.1 ∧ r.2.1 < s.2.1)) := by unfold rlt; exact decide_eq_true_iff

theorem place_split : ∀ {rs : List Road} (r : Road), Asc rs → (∀ s ∈ rs.take (place rs r), rlt s r = true) ∧ ∀ s ∈ rs.drop (place rs r), rlt s r = false
  | [], r, _ => ⟨fun s h => by simp at h, fun s h => by simp at h⟩
  | s :: rs, r, p => by
    have p' := List.pairwise_cons.mp p
    have ih := place_split r p'.2
    by_cases h : rlt s r = true
    · have e : place (s :: rs) r = place rs r + 1 := by
        unfold place
        rw [List.filter_cons, if_pos h, List.length_cons]
      rw [e, List.take_succ_cons, List.drop_succ_cons]
      refine ⟨fun t ht => ?_, ih.2⟩
      rcases List.mem_cons.mp ht with rfl | ht
      · exact h
      · exact ih.1 t ht
    · have no : ∀ t ∈ rs, rlt t r = false := by
        intro t ht
        have a := p'.1 t ht
        apply Bool.eq_false_iff.mpr
        intro q
        have b := rlt_iff.mp q
        apply h
        rw [rlt_iff]
        omega
      have e : place (s :: rs) r = 0 := by
        unfold place
        rw [List.filter_cons, if_neg h]
        have : rs.filter (fun s => rlt s r) = [] := List.filter_eq_nil_iff.mpr fun t ht => by rw [no t ht]; decide
        rw [this]
        rfl
      rw [e, List.take_zero, List.drop_zero]
      refine ⟨fun t ht => by simp at ht, fun t ht => ?_⟩
      rcases List.mem_cons.mp ht with rfl | ht
      · exact Bool.eq_false_iff.mpr h
      · exact no t ht

theorem ins_perm (rs : List Road) (r : Road) : (ins rs r).Perm (r :: rs) := by
  have h : (ins rs r).Perm (r :: (rs.take (place rs r) ++ rs.drop (place rs r))) := List.perm_middle
  rwa [List.take_append_drop] at h
theorem ins_asc {rs : List Road} {r : Road} (h : Asc rs) (hn : ∀ s ∈ rs, ¬ (s.1 = r.1 ∧ s.2.1 = r.2.1)) : Asc (ins rs r) := by
  have sp := place_split r h
  have pa : Asc (rs.take (place rs r) ++ rs.drop (place rs r)) := by rw [List.take_append_drop]; exact h
  have pa' := List.pairwise_append.mp pa
  refine List.pairwise_append.mpr ⟨pa'.1, List.pairwise_cons.mpr ⟨fun s hs => ?_, pa'.2.1⟩, fun a ha b hb => ?_⟩
  · have n1 := hn s (List.mem_of_mem_drop hs)
    have f := sp.2 s hs
    have : ¬ (s.1 < r.1 ∨ (s.1 = r.1 ∧ s.2.1 < r.2.1)) := fun q => by
      rw [rlt_iff.mpr q] at f
      cases f
    omega
  · rcases List.mem_cons.mp hb with rfl | hb
    · exact rlt_iff.mp (sp.1 a ha)
    · exact pa'.2.2 a ha b hb
theorem Town.ins {n : Nat} {rs : List Road} (T : Town n rs) {r : Road} (ok : r.1 < r.2.1 ∧ r.2.1 < n ∧ 1 ≤ r.2.2 ∧ r.2.2 ≤ 9) (hn : ∀ s ∈ rs, ¬ (s.1 = r.1 ∧ s.2.1 = r.2.1)) : Town n (Ev.ins rs r) :=
  ⟨fun s hs => by
    rcases List.mem_cons.mp ((ins_perm rs r).mem_iff.mp hs) with rfl | hs
    · exact ok
    · exact T.ok s hs, ins_asc T.asc hn⟩
theorem Town.erase {n : Nat} {rs : List Road} (T : Town n rs) (i : Nat) : Town n (rs.eraseIdx i) :=
  ⟨fun s hs => T.ok s ((List.eraseIdx_sublist rs i).subset hs), T.asc.sublist (List.eraseIdx_sublist rs i)⟩
theorem erase_perm {α : Type} : ∀ {l : List α} {i : Nat} {x : α}, l[i]? = some x → (x :: l.eraseIdx i).Perm l
  | [], _, _, h => by cases h
  | y :: l, 0, x, h => by
    injection h with h
    subst h
    exact List.Perm.refl _
  | y :: l, i + 1, x, h => by
    have ih := erase_perm (l := l) (i := i) (x := x) h
    exact (List.Perm.swap y x _).trans (ih.cons y)
theorem asc_same {l m : List Road} (p : l.Perm m) (hl : Asc l) (hm : Asc m) : l = m :=
  List.Perm.eq_of_pairwise (le := fun r s : Road => r.1 < s.1 ∨ (r.1 = s.1 ∧ r.2.1 < s.2.1)) (fun a b _ _ h1 h2 => absurd h1 (by omega)) hl hm p
theorem asc_at {rs : List Road} (h : Asc rs) {i j : Nat} {r s : Road} (hi : rs[i]? = some r) (hj : rs[j]? = some s) (e : r.1 = s.1 ∧ r.2.1 = s.2.1) : i = j := by
  obtain ⟨h1, e1⟩ := List.getElem?_eq_some_iff.mp hi
  obtain ⟨h2, e2⟩ := List.getElem?_eq_some_iff.mp hj
  have q := List.pairwise_iff_getElem.mp h
  rcases Nat.lt_trichotomy i j with l | l | l
  · have := q i j h1 h2 l
    rw [e1, e2] at this
    omega
  · exact l
  · have := q j i h2 h1 l
    rw [e1, e2] at this
    omega
/-- no other road has the two places of the one that was left out -/
theorem erase_no {rs : List Road} (h : Asc rs) {i : Nat} {r : Road} (hi : rs[i]? = some r) : ∀ s ∈ rs.eraseIdx i, ¬ (s.1 = r.1 ∧ s.2.1 = r.2.1) := by
  intro s hs e
  obtain ⟨j, hj⟩ := List.mem_iff_getElem?.mp hs
  rw [List.getElem?_eraseIdx] at hj
  split at hj
  · have := asc_at h hj hi e
    omega
  · have := asc_at h hj hi e
    omega
/-- shut and built again -/
theorem ins_erase {n : Nat} {rs : List Road} (T : Town n rs) {i : Nat} {r : Road} (hi : rs[i]? = some r) : ins (rs.eraseIdx i) r = rs :=
  asc_same ((ins_perm _ r).trans (erase_perm hi)) (ins_asc (T.erase i).asc (erase_no T.asc hi)) T.asc
theorem ins_mem {rs : List Road} {r s : Road} (h : s ∈ rs) : s ∈ ins rs r := (ins_perm rs r).mem_iff.mpr (List.mem_cons_of_mem _ h)
theorem ins_len (rs : List Road) (r : Road) : (ins rs r).length = rs.length + 1 := (ins_perm rs r).length_eq
theorem erase_mem {rs : List Road} {i : Nat} {s : Road} (h : s ∈ rs.eraseIdx i) : s ∈ rs := (List.eraseIdx_sublist rs i).subset h
/-- what is left: all the others -/
theorem erase_filter {rs : List Road} (h : Asc rs) {i : Nat} {r : Road} (hi : rs[i]? = some r) : rs.eraseIdx i = rs.filter fun s => decide (s ≠ r) := by
  refine asc_same ?_ (h.sublist (List.eraseIdx_sublist rs i)) (h.sublist List.filter_sublist)
  have e1 : (rs.filter fun s => decide (s ≠ r)).Perm ((r :: rs.eraseIdx i).filter fun s => decide (s ≠ r)) := (erase_perm hi).symm.filter _
  rw [List.filter_cons, if_neg (by simp)] at e1
  have e2 : (rs.eraseIdx i).filter (fun s => decide (s ≠ r)) = rs.eraseIdx i := List.filter_eq_self.mpr fun s hs => by
    have := erase_no h hi s hs
    exact decide_eq_true fun q => this (by rw [q]; exact ⟨rfl, rfl⟩)
  rw [e2] at e1
  exact e1.symm
end Ev
end
section
/-! Plain mathematics: the table of ways is laid, then bettered. -/
set_option autoImplicit false
namespace Ev
/-- noughts, and the roads gone through so far -/
structure Ini (rs : List Road) (n k : Nat) (m : Mx) : Prop where
  diag : ∀ a, a < n → m a a = some 0
  road : ∀ a b l, Edge (rs.take k) a b l → m a b = some l
  snd : Snd rs m
def mx0 : Mx := fun a b => if a = b then some 0 else none
theorem ini_start {rs : List Road} {n : Nat} : Ini rs n 0 mx0 where
  diag a _ := by simp [mx0]
  road a b l h := by rcases h with h | h <;> simp at h
  snd a b d h := by
    unfold mx0 at h
    split at h
    · rename_i e
      subst e
      injection h with h
      subst h
      exact .nil _
    · cases h
theorem edge_take {rs : List Road} {k a b l : Nat} (h : Edge (rs.take k) a b l) : Edge rs a b l := h.elim (fun h => .inl (List.mem_of_mem_take h)) fun h => .inr (List.mem_of_mem_take h)
theorem Ini.step {rs : List Road} {n k : Nat} {m : Mx} (T : Town n rs) (I : Ini rs n k m) {x y l : Nat} (hr : rs[k]? = some (x, y, l)) : Ini rs n (k + 1) (put (put m x y (some l)) y x (some l)) := by
  have hm : (x, y, l) ∈ rs := List.mem_of_getElem? hr
  have e : Edge rs x y l := .inl hm
  have ne := (T.edge e).2.2
  have tk : rs.take (k + 1) = rs.take k ++ [(x, y, l)] := by
    rw [List.take_succ, hr]
    rfl
  refine ⟨fun a ha => ?_, fun a b l' h => ?_, fun a b d h => ?_⟩
  · have h1 : ¬ (a = y ∧ a = x) := by omega
    have h2 : ¬ (a = x ∧ a = y) := by omega
    simp only [put, h1, h2, if_false]
    exact I.diag a ha
  · have he := edge_take h
    by_cases h1 : a = y ∧ b = x
    · obtain ⟨rfl, rfl⟩ := h1
      simp only [put, and_self, if_true]
      have : Edge rs b a l' := he.elim .inr .inl
      rw [T.uniq this e]
    · by_cases h2 : a = x ∧ b = y
      · obtain ⟨rfl, rfl⟩ := h2
        simp only [put, h1, if_false, and_self, if_true]
        rw [T.uniq he e]
      · simp only [put, h1, h2, if_false]
        apply I.road
        unfold Edge at h ⊢
        rw [tk, List.mem_append, List.mem_append] at h
        rcases h with (h | h) | (h | h)
        · exact .inl h
        · have h : (a, b, l') = (x, y, l) := by simpa using h
          injection h with z1 z2
          injection z2 with z2 z3
          exact absurd ⟨z1, z2⟩ h2
        · exact .inr h
        · have h : (b, a, l') = (x, y, l) := by simpa using h
          injection h with z1 z2
          injection z2 with z2 z3
          exact absurd ⟨z2, z1⟩ h1
  · by_cases h1 : a = y ∧ b = x
    · obtain ⟨rfl, rfl⟩ := h1
      simp only [put, and_self, if_true] at h
      injection h with h
      subst h
      have := Walk.snoc (Walk.nil a) (show Edge rs a b l from .inr hm)
      rwa [Nat.zero_add] at this
    · by_cases h2 : a = x ∧ b = y
      · obtain ⟨rfl, rfl⟩ := h2
        simp only [put, h1, if_false, and_self, if_true] at h
        injection h with h
        subst h
        have := Walk.snoc (Walk.nil a) e
        rwa [Nat.zero_add] at this
      · simp only [put, h1, h2, if_false] at h
        exact I.snd a b d h
theorem Ini.bd {rs : List Road} {n : Nat} {m : Mx} (I : Ini rs n rs.length m) : Bd rs n 0 m :=
  bd_zero (fun a ha => ⟨0, I.diag a ha, Nat.le_refl _⟩) fun a b l h => I.road a b l (by rw [List.take_length]; exact h)
end Ev
end
section
/-! Plain mathematics: all stands, in their order. -/
set_option autoImplicit false
namespace Ev
def low (s : List Nat) : Nat := s.getLastD 0
def ext (n : Nat) (s : List Nat) : List (List Nat) := (List.range (n - low s)).map fun x => s ++ [low s + x]
def stands (n : Nat) : Nat → List (List Nat)
  | 0 => [[]]
  | h + 1 => (stands n h).flatMap (ext n)

theorem low_snoc (s : List Nat) (x : Nat) : low (s ++ [x]) = x := by
  unfold low
  simp
theorem low_le {s : List Nat} (h : s.Pairwise (· ≤ ·)) : ∀ x ∈ s, x ≤ low s := by
  intro x hx
  cases hs : s.reverse with
  | nil =>
    have : s = [] := by simpa using hs
    subst this
    cases hx
  | cons y r =>
    have e : s = r.reverse ++ [y] := by
      have := congrArg List.reverse hs
      simpa using this
    subst e
    rw [low_snoc]
    rcases List.mem_append.mp hx with hx | hx
    · exact (List.pairwise_append.mp h).2.2 x hx y (by simp)
    · have : x = y := by simpa using hx
      omega
theorem low_mem {s : List Nat} (h : ¬ s = []) : low s ∈ s := by
  cases hs : s.reverse with
  | nil => exact absurd (by simpa using hs) h
  | cons y r =>
    have e : s = r.reverse ++ [y] := by
      have := congrArg List.reverse hs
      simpa using this
    subst e
    rw [low_snoc]
    simp
theorem mem_ext {n : Nat} {s t : List Nat} : t ∈ ext n s ↔ ∃ x, low s ≤ x ∧ x < n ∧ t = s ++ [x] := by
  unfold ext
  constructor
  · intro h
    obtain ⟨x, hx, rfl⟩ := List.mem_map.mp h
    have := List.mem_range.mp hx
    exact ⟨low s + x, by omega, by omega, rfl⟩
  · intro ⟨x, h1, h2, h3⟩
    refine List.mem_map.mpr ⟨x - low s, List.mem_range.mpr (by omega), ?_⟩
    rw [h3]
    congr 2
    omega
theorem mem_stands {n : Nat} : ∀ {h : Nat} {s : List Nat}, s ∈ stands n h ↔ Stand n h s
  | 0, s => by
    unfold stands Stand
    constructor
    · intro q
      have : s = [] := by simpa using q
      subst this
      exact ⟨rfl, .nil, fun x hx => by cases hx⟩
    · intro q
      have := List.eq_nil_of_length_eq_zero q.1
      subst this
      simp
  | h + 1, s => by
    unfold stands
    constructor
    · intro q
      obtain ⟨t, ht, hs⟩ := List.mem_flatMap.mp q
      obtain ⟨h1, h2, h3⟩ := mem_stands.mp ht
      obtain ⟨x, hx1, hx2, rfl⟩ := mem_ext.mp hs
      refine ⟨by rw [List.length_append, h1]; rfl, List.pairwise_append.mpr ⟨h2, by simp, fun a ha b hb => ?_⟩, fun a ha => ?_⟩
      · have : b = x := by simpa using hb
        have := low_le h2 a ha
        omega
      · rcases List.mem_append.mp ha with ha | ha
        · exact h3 a ha
        · have : a = x := by simpa using ha
          omega
    · intro ⟨h1, h2, h3⟩
      cases hs : s.reverse with
      | nil =>
        have : s = [] := by simpa using hs
        subst this
        cases h1
      | cons y r =>
        have e : s = r.reverse ++ [y] := by
          have := congrArg List.reverse hs
          simpa using this
        subst e
        have pw := List.pairwise_append.mp h2
        refine List.mem_flatMap.mpr ⟨r.reverse, mem_stands.mpr ⟨?_, pw.1, fun x hx => h3 x (List.mem_append_left _ hx)⟩, mem_ext.mpr ⟨y, ?_, h3 y (by simp), rfl⟩⟩
        · rw [List.length_append] at h1
          simp at h1 ⊢
          exact h1
        · by_cases hr : r.reverse = []
          · rw [hr]
            exact Nat.zero_le _
          · exact pw.2.2 _ (low_mem hr) y (by simp)
theorem ext_nodup (n : Nat) (s : List Nat) : (ext n s).Nodup := by
  unfold ext
  refine List.Pairwise.map _ (fun a b h => ?_) (List.nodup_range (n := n - low s))
  intro e
  have := List.append_cancel_left e
  injection this with this
  omega
theorem flat_nodup {n : Nat} : ∀ {S : List (List Nat)}, S.Nodup → (S.flatMap (ext n)).Nodup
  | [], _ => .nil
  | s :: S, h => by
    rw [List.flatMap_cons]
    have h' := List.nodup_cons.mp h
    refine List.nodup_append.mpr ⟨ext_nodup n s, flat_nodup h'.2, fun a ha b hb e => ?_⟩
    subst e
    obtain ⟨t, ht, hb⟩ := List.mem_flatMap.mp hb
    obtain ⟨x, _, _, e1⟩ := mem_ext.mp ha
    obtain ⟨y, _, _, e2⟩ := mem_ext.mp hb
    have : s = t := by
      have := e1.symm.trans e2
      exact (List.append_inj' this rfl).1
    exact h'.1 (by rw [this]; exact ht)
theorem stands_nodup (n : Nat) : ∀ h : Nat, (stands n h).Nodup
  | 0 => by simp [stands]
  | h + 1 => flat_nodup (stands_nodup n h)
/-- few of them -/
theorem stands_few {n h : Nat} (hn : n ≤ 7) (hh : h ≤ 2) : (stands n h).length ≤ 28 := by
  have : ∀ n, n < 8 → ∀ h, h < 3 → (stands n h).length ≤ 28 := by decide
  exact this n (by omega) h (by omega)
theorem flat_len {n h : Nat} (hn : n ≤ 7) (hh : h ≤ 1) (i : Nat) : (((stands n h).take i).flatMap (ext n)).length ≤ 28 := by
  have h1 : (stands n (h + 1)).length ≤ 28 := stands_few hn (by omega)
  unfold stands at h1
  have h2 : ((stands n h).take i ++ (stands n h).drop i) = stands n h := List.take_append_drop _ _
  rw [← h2, List.flatMap_append, List.length_append] at h1
  omega
theorem range_filter (n l : Nat) : (List.range n).filter (fun x => decide (l ≤ x)) = (List.range (n - l)).map fun x => l + x := by
  induction n with
  | zero => simp
  | succ n ih =>
    rw [List.range_succ, List.filter_append, ih]
    by_cases h : l ≤ n
    · have e : n + 1 - l = (n - l) + 1 := by omega
      rw [e, List.range_succ, List.map_append, List.filter_cons, if_pos (decide_eq_true h)]
      have : l + (n - l) = n := by omega
      simp [this]
    · have e : n + 1 - l = 0 := by omega
      have e2 : n - l = 0 := by omega
      rw [e, e2, List.filter_cons, if_neg (by simp [h])]
      simp
theorem ext_filter (n : Nat) (s : List Nat) : ext n s = ((List.range n).filter fun x => decide (low s ≤ x)).map fun x => s ++ [x] := by
  rw [range_filter]
  unfold ext
  rw [List.map_map]
  rfl
end Ev
end
section
namespace Ev
open PySem L2

/-! ### the text by places -/
def top (i : Nat) : Stmt := PySem.Challenge.pw_evernear_k78_whole_roads_of_a_house.main.body.getD i (.Pass ⟨0, 0, 0, 0⟩)
abbrev sWithin : Stmt := top 15
abbrev sIsRoad : Stmt := top 16
abbrev sCheck : Stmt := top 17
abbrev sWays : Stmt := top 18
abbrev sWithout : Stmt := top 19
abbrev sWith : Stmt := top 20
abbrev sAllStands : Stmt := top 22
abbrev sStandsOf : Stmt := top 23
abbrev sPaired : Stmt := top 24
abbrev sSent : Stmt := top 25
abbrev sByOne : Stmt := top 26
abbrev sByAll : Stmt := top 27
abbrev sStepsOf : Stmt := top 30
abbrev sRanked : Stmt := top 31
abbrev sAllSteps : Stmt := top 32
abbrev sRanks : Stmt := top 33
abbrev sIsStand : Stmt := top 38
abbrev sState : Stmt := top 39
abbrev sHouse : Stmt := top 40

/-! ### what the top has written: built-in names that it leaves as they are, constants -/
structure Txt (K : PySem.W.Frag) (mg : Str → Option Value) : Prop where
  n_len : mg "len" = none
  n_range : mg "range" = none
  n_enumerate : mg "enumerate" = none
  n_zip : mg "zip" = none
  n_isinstance : mg "isinstance" = none
  n_int : mg "int" = none
  n_bool : mg "bool" = none
  n_tuple : mg "tuple" = none
  n_list : mg "list" = none
  n_set : mg "set" = none
  n_dict : mg "dict" = none
  n_sorted : mg "sorted" = none
  n_all : mg "all" = none
  n_any : mg "any" = none
  n_max : mg "max" = none
  n_sum : mg "sum" = none
  mPerm : mg "permutations" = some (.type "itertools.permutations")
  cMOST : ∃ u, mg "MOST" = some u ∧ RelV (.int 7) u
  cLONGEST : ∃ u, mg "LONGEST" = some u ∧ RelV (.int 9) u
  cMOST_HELPERS : ∃ u, mg "MOST_HELPERS" = some u ∧ RelV (.int 3) u

/-! ### heaps -/
theorem _root_.L2.Same.put {H H' : Hp} (s : Same H H') {p : Addr} (h : H p = none) (o : HO) : Same H (upd H' p o) := fun b u q => by
  rw [upd_ne (ne_of_none q h)]
  exact s b u q
theorem _root_.L2.Same.add {H H' : Hp} (s : Same H H') {p : Addr} (h : H' p = none) (o : HO) : Same H (upd H' p o) := s.put (s.free h) o
theorem _root_.L2.Same.new {H : Hp} {p : Addr} (h : H p = none) (o : HO) : Same H (upd H p o) := (Same.refl H).put h o
/-- what never changes stays: the tuples, the things known to the object -/
def Imm : HO → Prop
  | .tup _ => True
  | .frz _ _ => True
  | _ => False
def TSame (H H' : Hp) : Prop := ∀ b u, Imm u → H b = some u → H' b = some u
theorem _root_.L2.Same.tup {H H' : Hp} (s : Same H H') : TSame H H' := fun b _ _ h => s b _ h
theorem TSame.refl (H : Hp) : TSame H H := fun _ _ _ h => h
theorem TSame.trans {H H1 H2 : Hp} (a : TSame H H1) (b : TSame H1 H2) : TSame H H2 := fun c u i h => b c u i (a c u i h)
theorem TSame.upd {H : Hp} {p : Addr} {o u : HO} (h : H p = some o) (ho : ¬ Imm o) : TSame H (upd H p u) := fun b v i e => by
  by_cases q : b = p
  · subst q
    rw [h] at e
    injection e with e
    subst e
    exact absurd i ho
  · rw [upd_ne q]
    exact e
theorem TSame.new {H : Hp} {p : Addr} {u : HO} (h : H p = none) : TSame H (L2.upd H p u) := (Same.new h u).tup

/-! ### readings of values -/
abbrev nV (n : Nat) : V := .int (n : Int)
def oV : Option Nat → V
  | none => .non
  | some n => nV n
/-- a tuple of numbers -/
def TupN (H : Hp) (v : V) (s : List Nat) : Prop := ∃ a, v = .ref a ∧ H a = some (.tup (s.map nV))
theorem TupN.mono {H H' : Hp} (h : TSame H H') {v : V} {s : List Nat} (t : TupN H v s) : TupN H' v s := by
  obtain ⟨a, e, q⟩ := t
  exact ⟨a, e, h _ _ True.intro q⟩
abbrev Tups (H : Hp) (xs : List V) (ss : List (List Nat)) : Prop := Paired (TupN H) xs ss
theorem Paired.imp {α β : Type} {F G : α → β → Prop} (h : ∀ a b, F a b → G a b) : ∀ {xs : List α} {ys : List β}, Paired F xs ys → Paired G xs ys
  | _, _, .nil => .nil
  | _, _, .cons a r => .cons (h _ _ a) (Paired.imp h r)
theorem Paired.len {α β : Type} {F : α → β → Prop} : ∀ {xs : List α} {ys : List β}, Paired F xs ys → xs.length = ys.length
  | _, _, .nil => rfl
  | _, _, .cons _ r => by rw [List.length_cons, List.length_cons, Paired.len r]
theorem Paired.app {α β : Type} {F : α → β → Prop} : ∀ {xs xs' : List α} {ys ys' : List β}, Paired F xs ys → Paired F xs' ys' → Paired F (xs ++ xs') (ys ++ ys')
  | _, _, _, _, .nil, h => h
  | _, _, _, _, .cons a r, h => .cons a (Paired.app r h)
theorem Paired.at_ {α β : Type} {F : α → β → Prop} : ∀ {xs : List α} {ys : List β}, Paired F xs ys → ∀ {i : Nat} {x : α}, xs[i]? = some x → ∃ y, ys[i]? = some y ∧ F x y
  | _, _, .nil, i, x, h => by cases h
  | _, _, .cons a r, 0, x, h => by
    injection h with h
    subst h
    exact ⟨_, rfl, a⟩
  | _, _, .cons a r, i + 1, x, h => Paired.at_ r h
theorem Tups.mono {H H' : Hp} (h : TSame H H') {xs : List V} {ss : List (List Nat)} (t : Tups H xs ss) : Tups H' xs ss := Paired.imp (fun _ _ => TupN.mono h) t
/-- a list of tuples of numbers -/
def LstT (H : Hp) (v : V) (ss : List (List Nat)) : Prop := ∃ a xs, v = .ref a ∧ H a = some (.lst xs) ∧ Tups H xs ss
theorem LstT.mono {H H' : Hp} (h : Same H H') {v : V} {ss : List (List Nat)} (t : LstT H v ss) : LstT H' v ss := by
  obtain ⟨a, xs, e, q, r⟩ := t
  exact ⟨a, xs, e, h _ _ q, r.mono h.tup⟩
abbrev rl (r : Road) : List Nat := [r.1, r.2.1, r.2.2]
/-- a town: a tuple of the number of its places and the list of its roads -/
def TownV (H : Hp) (v : V) (n : Nat) (rs : List Road) : Prop := ∃ a r, v = .ref a ∧ H a = some (.tup [nV n, r]) ∧ LstT H r (rs.map rl)
theorem TownV.mono {H H' : Hp} (h : Same H H') {v : V} {n : Nat} {rs : List Road} (t : TownV H v n rs) : TownV H' v n rs := by
  obtain ⟨a, r, e, q, l⟩ := t
  exact ⟨a, r, e, h _ _ q, l.mono h⟩
/-- a table of ways: a list of lists -/
def rowV (n : Nat) (m : Nat → Option Nat) : List V := (List.range n).map fun j => oV (m j)
def TblV (H : Hp) (v : V) (n : Nat) (m : Mx) : Prop := ∃ (a : Addr) (as : List Addr), v = .ref a ∧ H a = some (.lst (as.map V.ref)) ∧ as.length = n ∧ ∀ (i : Nat) (b : Addr), as[i]? = some b → H b = some (.lst (rowV n (m i)))
theorem TblV.mono {H H' : Hp} (h : Same H H') {v : V} {n : Nat} {m : Mx} (t : TblV H v n m) : TblV H' v n m := by
  obtain ⟨a, as, e, q, l, r⟩ := t
  exact ⟨a, as, e, h _ _ q, l, fun i b k => h _ _ (r i b k)⟩
end Ev
end
section
namespace Ev
open PySem PySem.Spec PyProof.Rows L2

/-! ### more rules: t >= u of two pairs of ints; the first two of three; a loop over enumerate -/
def rGeT (K : PySem.W.Frag) : R2 := fun x y H Q => ∃ (a b : Addr) (i j k l : Int), x = .ref a ∧ y = .ref b ∧ SqT K H a [.int i, .int j] ∧ SqT K H b [.int k, .int l] ∧ Q (.bl (decide (k < i ∨ (i = k ∧ l ≤ j)))) H
theorem two_at {its : List Value} {i j : Int} (r : Vals [V.int i, V.int j] its) : ∃ t u, its = [.int i t, .int j u] := Vals.int2 r
theorem op_geT {X : Cx} (hu : X.A.units < cLine) : OpR X (compareOp .GtE) (rGeT X.K) := by
  intro pins s σ H x y v u Q I rx ry h
  obtain ⟨a, b, i, j, k, l, rfl, rfl, ha, hb, q⟩ := h
  cases rx
  cases ry
  obtain ⟨its, r1, p1, _⟩ := I.tuple ha
  obtain ⟨its2, r2, p2, _⟩ := I.tuple hb
  obtain ⟨t1, t2, rfl⟩ := two_at r1
  obtain ⟨t3, t4, rfl⟩ := two_at r2
  let e : Nat → Bool := fun n => match n with | 0 => i == k | _ => j == l
  let r : Nat → Bool := fun n => match n with | 0 => decide (k ≤ i) | _ => decide (l ≤ j)
  have R := Ob.RcOp.tuples_ge (A := X.A) (s := s) (e := e) (r := r) p1 p2 hu
    (fun m h1 h2 => by
      match m, h1, h2 with
      | 0, _, _ => exact SeqAt.EqAt.int_int _ _ _ _
      | 1, _, _ => exact SeqAt.EqAt.int_int _ _ _ _
      | m + 2, h1, _ => exact absurd h1 (by simp))
    (fun m h1 h2 _ => by
      match m, h1, h2 with
      | 0, _, _ => exact Ob.RcOp.ge_int _ _ _ _
      | 1, _, _ => exact Ob.RcOp.ge_int _ _ _ _
      | m + 2, h1, _ => exact absurd h1 (by simp))
  have z : Ob.lexAt e r (decide (([Value.int i t1, .int j t2] : List Value).toArray.size ≥ ([Value.int k t3, .int l t4] : List Value).toArray.size)) 0
      (min ([Value.int i t1, .int j t2] : List Value).toArray.size ([Value.int k t3, .int l t4] : List Value).toArray.size) = decide (k < i ∨ (i = k ∧ l ≤ j)) := by
    show (if (i == k) = true then (if (j == l) = true then true else decide (l ≤ j)) else decide (k ≤ i)) = _
    by_cases h1 : i = k
    · subst h1
      by_cases h2 : j = l
      · subst h2
        simp
      · simp [h2]
    · by_cases h3 : k ≤ i
      · have : k < i := by omega
        simp [h1, h3, this]
      · have : ¬ k < i := by omega
        simp [h1, h3, this]
  rw [z] at R
  exact R X.prog X.w X.xe (EP X pins σ Q) ⟨.bl _, H, I, rfl, q⟩

theorem slT2 {K : PySem.W.Frag} {H : Hp} {a : Addr} {x y z : V} {Q : VK} (h : H a = some (.tup [x, y, z])) (k : ∀ p, H p = none → Q (.ref p) (upd H p (.tup [x, y]))) : rSlA K (.ref a) none (some 2) H Q :=
  ⟨a, _, rfl, SqT.of h, fun q => absurd q.2 (by show ¬ ((2 : Nat) = 3); decide), fun _ p hp => k p hp⟩

/-- a loop over enumerate of a list that the body leaves as it is -/
theorem for_enum {K : PySem.W.Frag} {a : Addr} {xs : List V} {g : TG} {tb : TS} {D : Ends} {σ : L2.St} {H : Hp} (Pv : Nat → L2.St → Hp → Prop) (h0 : Pv 0 σ H) (hl : ∀ i σ H, i ≤ xs.length → Pv i σ H → SqL K H a xs)
    (hs : ∀ i x T σ H, xs[i]? = some x → Pv i σ H → H T = none → g (.ref T) σ (upd H T (.tup [.int (i : Nat), x])) fun σ2 H2 => tb { D with nx := Pv (i + 1), ct := Pv (i + 1), bk := D.nx } σ2 H2) (hd : ∀ σ H, Pv xs.length σ H → D.nx σ H) :
    ∃ W : Nat → Nat → L2.St → Hp → Prop, (∃ m, W 0 m σ H) ∧ ∀ i m σ H, W i m σ H →
      ((Ite K a).stop i H ∧ D.nx σ H) ∨ ((Ite K a).go i H ∧ ∃ N : L2.St → Hp → Prop, (∀ σ' H', N σ' H' → ∃ m', m' < m ∧ W (i + 1) m' σ' H') ∧ ∀ x H', (Ite K a).yld i H x H' → g x σ H' fun σ2 H2 => tb { D with nx := N, ct := N, bk := D.nx } σ2 H2) := by
  refine ⟨fun i m σ H => m + i = xs.length ∧ Pv i σ H, ⟨xs.length, rfl, h0⟩, ?_⟩
  intro i m σ H hw
  obtain ⟨hm, hp⟩ := hw
  by_cases e : i < xs.length
  · have hx : xs[i]? = some xs[i] := List.getElem?_eq_getElem e
    refine .inr ⟨⟨xs, _, hl i σ H (by omega) hp, hx⟩, Pv (i + 1), fun σ' H' q => ⟨m - 1, by omega, by omega, q⟩, ?_⟩
    intro x H' hy
    obtain ⟨T, y, rfl, hT, rfl, hy⟩ := hy
    have : xs[i]? = some y := hy xs (hl i σ H (by omega) hp)
    exact hs i y T σ H this hp hT
  · have ei : i = xs.length := by omega
    subst ei
    exact .inl ⟨⟨xs, hl _ σ H (Nat.le_refl _) hp, Nat.le_refl _⟩, hd σ H hp⟩
end Ev
end
section
namespace Ev
open PySem PySem.Spec PyProof.Rows L2
theorem cut_to (xs : List V) (k : Nat) : cutV xs none (some (k : Int)) = xs.take k := by
  unfold cutV
  rw [HT.sIx_none, HT.sIx_nat, List.drop_zero, Nat.sub_zero]
  by_cases h : k ≤ xs.length
  · rw [Nat.min_eq_left h]
  · rw [Nat.min_eq_right (by omega), List.take_length, List.take_of_length_le (by omega)]
theorem cut_from (xs : List V) (k : Nat) : cutV xs (some (k : Int)) none = xs.drop k := by
  unfold cutV
  rw [HT.sIx_none, HT.sIx_nat]
  by_cases h : k ≤ xs.length
  · rw [Nat.min_eq_left h]
    exact List.take_of_length_le (by rw [List.length_drop]; omega)
  · rw [Nat.min_eq_right (by omega), List.drop_length, List.drop_of_length_le (by omega), List.take_nil]
theorem Paired.take_ {α β : Type} {F : α → β → Prop} : ∀ {xs : List α} {ys : List β} (n : Nat), Paired F xs ys → Paired F (xs.take n) (ys.take n)
  | _, _, 0, _ => by rw [List.take_zero, List.take_zero]; exact .nil
  | _, _, n + 1, .nil => .nil
  | _, _, n + 1, .cons a r => .cons a (Paired.take_ n r)
theorem Paired.drop_ {α β : Type} {F : α → β → Prop} : ∀ {xs : List α} {ys : List β} (n : Nat), Paired F xs ys → Paired F (xs.drop n) (ys.drop n)
  | _, _, 0, h => h
  | _, _, n + 1, .nil => .nil
  | _, _, n + 1, .cons a r => Paired.drop_ n r
theorem Paired.of_at {α β : Type} {F : α → β → Prop} : ∀ {xs : List α} {ys : List β}, xs.length = ys.length → (∀ (i : Nat) (x : α) (y : β), xs[i]? = some x → ys[i]? = some y → F x y) → Paired F xs ys
  | [], [], _, _ => .nil
  | x :: xs, y :: ys, h, k => .cons (k 0 x y rfl rfl) (Paired.of_at (by simpa using h) fun i a b p q => k (i + 1) a b p q)
theorem Paired.ofR {α β : Type} {F : α → β → Prop} : ∀ {xs : List α} {ys : List β}, Paired F xs ys → ∀ {i : Nat} {y : β}, ys[i]? = some y → ∃ x, xs[i]? = some x ∧ F x y
  | _, _, .nil, i, x, h => by cases h
  | _, _, .cons a r, 0, x, h => by
    injection h with h
    subst h
    exact ⟨_, rfl, a⟩
  | _, _, .cons a r, i + 1, x, h => Paired.ofR r h
/-! heaps behind a new object, behind a change of one -/
@[elab_as_elim] theorem new_ind {motive : Hp → Prop} {H : Hp} {p : Addr} {o : HO} (hp : H p = none) (H' : Hp) (e : H' = upd H p o) (h : ∀ H1, Same H H1 → H1 p = some o → motive H1) : motive H' := by
  subst e
  exact h _ (Same.new hp o) upd_same
@[elab_as_elim] theorem put_ind {motive : Hp → Prop} {H : Hp} {p : Addr} {o : HO} (H' : Hp) (e : H' = upd H p o) (h : ∀ H1, (∀ b, b ≠ p → H1 b = H b) → H1 p = some o → motive H1) : motive H' := by
  subst e
  exact h _ (fun b hb => upd_ne hb) upd_same
theorem _root_.L2.Same.but {H0 H H1 : Hp} (s : Same H0 H) {p : Addr} (hp : H0 p = none) (k : ∀ b, b ≠ p → H1 b = H b) : Same H0 H1 := fun b o q => by
  rw [k b (ne_of_none q hp)]
  exact s b o q
theorem TSame.but {H H1 : Hp} {p : Addr} {o : HO} (h : H p = some o) (ho : ¬ Imm o) (k : ∀ b, b ≠ p → H1 b = H b) : TSame H H1 := fun b v i e => by
  by_cases q : b = p
  · subst q
    rw [h] at e
    injection e with e
    subst e
    exact absurd i ho
  · rw [k b q]
    exact e
/-- lists here are short -/
theorem short {n : Nat} (h : n ≤ 100000) : n ≤ sizeLine := Nat.le_trans h (by decide)
end Ev
end
section
/-! the rules again with the written part K told, so that they go within a comprehension's block; the built-in names' facts -/
namespace Ev
open PySem PySem.Spec PyProof.Rows L2
section
variable {X : Cx} {K : PySem.W.Frag}
theorem kix_list (e : X.K = K) : IxR X (rIxL K) := e ▸ ix_list
theorem kix_tup (e : X.K = K) : IxR X (rIxT K) := e ▸ ix_tup
theorem ksl_list (e : X.K = K) : SlR X (rSlL K) := e ▸ sl_list
theorem ksl_tupA (e : X.K = K) : SlR X (rSlA K) := e ▸ sl_tupA
theorem kop_catA (e : X.K = K) : OpR X (binaryOp .Add) (rCatA K) := e ▸ op_catA
theorem kop_in_seq (e : X.K = K) : OpR X (compareOp .In) (rIn K false) := e ▸ op_in_seq
theorem kop_notIn_seq (e : X.K = K) : OpR X (compareOp .NotIn) (rIn K true) := e ▸ op_notIn_seq
theorem kop_ltT (e : X.K = K) (hu : X.A.units < cLine) : OpR X (compareOp .Lt) (rLtT K) := e ▸ op_ltT hu
theorem kop_geT (e : X.K = K) (hu : X.A.units < cLine) : OpR X (compareOp .GtE) (rGeT K) := e ▸ op_geT hu
theorem kop_eqD (e : X.K = K) (hu : X.A.units + 64 < cLine) : OpR X (compareOp .Eq) (rEqD K) := e ▸ op_eqD hu
theorem kop_neD (e : X.K = K) (hu : X.A.units + 64 < cLine) : OpR X (compareOp .NotEq) (rNeD K) := e ▸ op_neD hu
theorem kcr_isi (e : X.K = K) : CallR X (.builtin "isinstance") (rIsi K) := e ▸ call_isi
theorem kcr_all (hc : X.calm = true) (e : X.K = K) : CallR X (.builtin "all") (rAll K) := e ▸ cr_all hc
theorem kcr_any (hc : X.calm = true) (e : X.K = K) : CallR X (.builtin "any") (rAny K) := e ▸ cr_any hc
theorem kcr_sum (hc : X.calm = true) (e : X.K = K) : CallR X (.builtin "sum") (rSum K) := e ▸ cr_sum hc
theorem kcr_sortedI (e : X.K = K) : CallR X (.builtin "sorted") (rSortedI K) := e ▸ cr_sortedI
def rLen (K : PySem.W.Frag) : List V → Hp → VK → Prop := fun xs H Q => ∃ p ys, xs = [.ref p] ∧ (SqL K H p ys ∨ SqT K H p ys) ∧ Q (.int (ys.length : Nat)) H
theorem kcr_len (e : X.K = K) : CallR X (.builtin "len") (rLen K) := e ▸ call_len_seq
def rToList (K : PySem.W.Frag) : List V → Hp → VK → Prop := fun xs H Q => ∃ p ys, xs = [.ref p] ∧ (SqL K H p ys ∨ SqT K H p ys) ∧ ∀ l, H l = none → Q (.ref l) (upd H l (.lst ys))
theorem kcr_list (e : X.K = K) : CallR X (.type "list") (rToList K) := e ▸ call_list_of
def rToTup (K : PySem.W.Frag) : List V → Hp → VK → Prop := fun xs H Q => ∃ p ys, xs = [.ref p] ∧ ((SqL K H p ys ∧ ∀ l, H l = none → Q (.ref l) (upd H l (.tup ys))) ∨ (SqT K H p ys ∧ Q (.ref p) H))
theorem kcr_tuple (e : X.K = K) : CallR X (.type "tuple") (rToTup K) := e ▸ call_tuple_of
theorem kpi_list {tg l : Expr} {tl : TE} (e : X.K = K) (hl : PE X l tl) : PI X tg l (iList K tl) := e ▸ pi_list hl
theorem kpi_tup {tg l : Expr} {tl : TE} (e : X.K = K) (hl : PE X l tl) : PI X tg l (iTup K tl) := e ▸ pi_tup hl
theorem kpg_tup {es : List Expr} {k : Nat} {t : TGs} {n : Nat} {pos : Pos} (e : X.K = K) (hc : X.calm = true) (h : PGs X es t)
    (hn : (assignEach es X.env).length = n := by rfl) (hst : (assignEach es X.env).findIdx? (·.1) = none := by rfl) : PG X (.Tuple es k pos) (gTup K n t) := e ▸ pg_tup hc h hn hst
theorem kpi_enum {e : Expr} {ta : TA} {p pos tpos : Pos} {elts : List Expr} {kk : Nat} (eK : X.K = K) (hg : Gl X "enumerate") (hm : X.mg "enumerate" = none) (ha : PA X [e] ta) (hs : starEach [e] X.env = [(false, eval e X.env)] := by rfl) :
    PI X (.Tuple elts kk tpos) (.Call (.Name "enumerate" p) [e] [] pos) (iEnum K ta) := eK ▸ pi_enum hg hm ha hs
theorem kpi_zip {e e2 : Expr} {ta : TA} {p pos tpos : Pos} {elts : List Expr} {kk : Nat} (eK : X.K = K) (hg : Gl X "zip") (hm : X.mg "zip" = none) (ha : PA X [e, e2] ta)
    (hs : starEach [e, e2] X.env = (false, eval e X.env) :: starEach [e2] X.env := by rfl) (hpl : (backTo pos (starEach [e2] X.env)).any (·.1) = false := by rfl) :
    PI X (.Tuple elts kk tpos) (.Call (.Name "zip" p) [e, e2] [] pos) (RZ.iZipA K ta) := eK ▸ RZ.pi_zipA hg hm ha hs hpl
theorem kpt_truth {a : Expr} {ta : TE} (e : X.K = K) (ha : PE X a ta) (he : ∀ whole, isTrue a X.env whole = (do let v ← whole; standAt a.pos; holding [v] (truthy v))) :
    PT X a (fun σ H Q => ta σ H fun x H' => ∃ k, TruV K x H' k ∧ Q k H') := e ▸ pt_truth ha he
def rAppendM : V → List V → Hp → VK → Prop := fun x vs H Q => ∃ l xs y, x = .ref l ∧ vs = [y] ∧ H l = some (.lst xs) ∧ xs.length < sizeLine ∧ Q .non (upd H l (.lst (xs ++ [y])))
end
theorem bb_len : bootBuiltins ("len" : Str) = some (.builtin "len") := by decide +kernel
theorem bb_isinstance : bootBuiltins ("isinstance" : Str) = some (.builtin "isinstance") := by decide +kernel
theorem bb_all : bootBuiltins ("all" : Str) = some (.builtin "all") := by decide +kernel
theorem bb_any : bootBuiltins ("any" : Str) = some (.builtin "any") := by decide +kernel
theorem bb_sum : bootBuiltins ("sum" : Str) = some (.builtin "sum") := by decide +kernel
theorem bb_max : bootBuiltins ("max" : Str) = some (.builtin "max") := by decide +kernel
theorem bb_sorted : bootBuiltins ("sorted" : Str) = some (.builtin "sorted") := by decide +kernel
theorem bb_int : bootBuiltins ("int" : Str) = some (.type "int") := by decide +kernel
theorem bb_bool : bootBuiltins ("bool" : Str) = some (.type "bool") := by decide +kernel
theorem bb_tuple : bootBuiltins ("tuple" : Str) = some (.type "tuple") := by decide +kernel
theorem bb_list : bootBuiltins ("list" : Str) = some (.type "list") := by decide +kernel
theorem bb_set : bootBuiltins ("set" : Str) = some (.type "set") := by decide +kernel
theorem bb_dict : bootBuiltins ("dict" : Str) = some (.type "dict") := by decide +kernel
end Ev
end
section
/-! a table of ways that is being made -/
namespace Ev
open PySem PySem.Spec PyProof.Rows L2
theorem addN {x y : Nat} {H : Hp} {Q : VK} (q : Q (nV (x + y)) H) : rI0 (fun i j => .int (i + j)) (nV x) (nV y) H Q := by
  refine ⟨x, y, rfl, rfl, ?_⟩
  have e : ((x : Int) + (y : Int)) = ((x + y : Nat) : Int) := by omega
  show Q (.int ((x : Int) + (y : Int))) H
  rw [e]
  exact q
theorem ite_b {b : Bool} {A B : Prop} (h1 : b = true → A) (h2 : b = false → B) : if b = true then A else B := by
  cases b
  · exact h2 rfl
  · exact h1 rfl
theorem notNon {o : Option Nat} (h : (!decide (oV o = V.non)) = true) : ∃ x, o = some x := by
  cases o with
  | none => exact absurd h (by decide)
  | some x => exact ⟨x, rfl⟩
theorem isNonB {o : Option Nat} (h : (!decide (oV o = V.non)) = false) : o = none := by
  cases o with
  | none => rfl
  | some x => simp [oV] at h
theorem isNonT {o : Option Nat} (h : decide (oV o = V.non) = true) : o = none := by
  cases o with
  | none => rfl
  | some x => simp [oV] at h
theorem isNonF {o : Option Nat} (h : decide (oV o = V.non) = false) : ∃ x, o = some x := by
  cases o with
  | none => exact absurd h (by decide)
  | some x => exact ⟨x, rfl⟩
theorem rowV_len (n : Nat) (f : Nat → Option Nat) : (rowV n f).length = n := by unfold rowV; rw [List.length_map, List.length_range]
theorem rowV_at {n j : Nat} (f : Nat → Option Nat) (h : j < n) : (rowV n f)[j]? = some (oV (f j)) := by
  unfold rowV
  rw [List.getElem?_map, List.getElem?_range h]
  rfl
theorem rowV_set {n j : Nat} (f : Nat → Option Nat) (v : Option Nat) : (rowV n f).set j (oV v) = rowV n fun x => if x = j then v else f x := by
  apply List.ext_getElem?
  intro i
  rw [List.getElem?_set, rowV_len]
  by_cases hi : i < n
  · rw [rowV_at _ hi, rowV_at _ hi]
    by_cases e : j = i
    · subst e
      simp [hi]
    · have : ¬ i = j := fun q => e q.symm
      simp [e, this]
  · have h1 : ∀ g, (rowV n g)[i]? = none := fun g => List.getElem?_eq_none (by rw [rowV_len]; omega)
    rw [h1, h1]
    by_cases e : j = i
    · subst e
      simp [hi]
    · simp [e]
/-- a table of n rows, all made since H0: its list at D, its rows at as -/
structure TabAt (H0 H : Hp) (D : Addr) (n : Nat) (as : List Addr) (m : Mx) : Prop where
  lst : H D = some (.lst (as.map V.ref))
  d0 : H0 D = none
  len : as.length = n
  nd : as.Nodup
  out : ¬ D ∈ as
  row : ∀ (i : Nat) (b : Addr), as[i]? = some b → H0 b = none ∧ H b = some (.lst (rowV n (m i)))
theorem TabAt.tbl {H0 H : Hp} {D : Addr} {n : Nat} {as : List Addr} {m : Mx} (t : TabAt H0 H D n as m) : TblV H (.ref D) n m := ⟨D, as, rfl, t.lst, t.len, fun i b h => (t.row i b h).2⟩
theorem TabAt.at_ {H0 H : Hp} {D : Addr} {n i : Nat} {as : List Addr} {m : Mx} (t : TabAt H0 H D n as m) (hi : i < n) : ∃ b, as[i]? = some b ∧ H0 b = none ∧ H b = some (.lst (rowV n (m i))) := by
  have h : i < as.length := by rw [t.len]; exact hi
  have e : as[i]? = some as[i] := List.getElem?_eq_getElem h
  exact ⟨_, e, t.row i _ e⟩
/-- the rows that are read: any table -/
theorem TblV.get {K : PySem.W.Frag} {H : Hp} {d : V} {n i j : Nat} {m : Mx} (t : TblV H d n m) {σ : L2.St} {a b c : Nat} {Q : VK} (h1 : σ[a]? = some (some d)) (h2 : σ[b]? = some (some (nV i))) (h3 : σ[c]? = some (some (nV j))) (hi : i < n) (hj : j < n)
    (q : Q (oV (m i j)) H) : tOp (rIxL K) (tOp (rIxL K) (tVar a) (tVar b)) (tVar c) σ H Q := by
  obtain ⟨D, as, rfl, hD, hl, hr⟩ := t
  have h : i < as.length := by rw [hl]; exact hi
  have e : as[i]? = some as[i] := List.getElem?_eq_getElem h
  exact ⟨_, h1, _, h2, D, _, i, .ref as[i], rfl, rfl, SqL.of hD, atI_nat (by rw [List.getElem?_map, e]; rfl), _, h3, _, _, j, oV (m i j), rfl, rfl, SqL.of (hr i _ e), atI_nat (rowV_at _ hj), q⟩
theorem ixN_nat {n j : Nat} (h : j < n) : ixN n (j : Int) = some j := by
  unfold ixN
  rw [if_pos (by omega), if_pos (by omega)]
  rfl
/-- found[i][j] = v -/
theorem TabAt.set {K : PySem.W.Frag} {H0 H : Hp} {D : Addr} {n i j : Nat} {as : List Addr} {m : Mx} (t : TabAt H0 H D n as m) (s : Same H0 H) {v : Option Nat} {σ : L2.St} {a b c : Nat} {Q : L2.St → Hp → Prop} (h1 : σ[a]? = some (some (.ref D))) (h2 : σ[b]? = some (some (nV i))) (h3 : σ[c]? = some (some (nV j)))
    (hi : i < n) (hj : j < n) (q : ∀ H', Same H0 H' → TabAt H0 H' D n as (put m i j v) → Q σ H') : gSub (tOp (rIxL K) (tVar a) (tVar b)) (tVar c) rSetL (oV v) σ H Q := by
  obtain ⟨r, hr, r0, hrow⟩ := t.at_ hi
  refine ⟨_, h1, _, h2, D, _, i, .ref r, rfl, rfl, SqL.of t.lst, atI_nat (by rw [List.getElem?_map, hr]; rfl), _, h3, r, _, j, j, rfl, rfl, hrow, by rw [rowV_len]; exact ixN_nat hj, ?_⟩
  rw [rowV_set]
  have nD : D ≠ r := fun e => t.out (by rw [e]; exact List.mem_of_getElem? hr)
  refine q _ (s.put r0 _) ⟨by rw [upd_ne nD]; exact t.lst, t.d0, t.len, t.nd, t.out, fun i' b' h => ?_⟩
  obtain ⟨z0, z⟩ := t.row i' b' h
  refine ⟨z0, ?_⟩
  by_cases e : i' = i
  · subst e
    have : b' = r := Option.some.inj (h.symm.trans hr)
    subst this
    rw [upd_same]
    have : (fun x => if x = j then v else m i' x) = put m i' j v i' := by
      funext x
      unfold put
      by_cases q : x = j
      · simp [q]
      · simp [q]
    rw [this]
  · have nb : b' ≠ r := fun q => e (nd_ix t.nd h (by rw [q]; exact hr))
    rw [upd_ne nb, z]
    have : put m i j v i' = m i' := by
      funext x
      unfold put
      simp [e]
    rw [this]
end Ev
end
section
/-! readings about tuples of numbers -/
namespace Ev
open PySem PySem.Spec PyProof.Rows L2
/-- t + u of two tuples of numbers -/
theorem catN {K : PySem.W.Frag} {H : Hp} {s t : List Nat} {v u : V} {Q : VK} (hv : TupN H v s) (hu : TupN H u t) (hl : s.length + t.length ≤ 100000) (k : ∀ v' H', Same H H' → TupN H' v' (s ++ t) → Q v' H') : rCatA K v u H Q := by
  obtain ⟨a, rfl, ha⟩ := hv
  obtain ⟨b, rfl, hb⟩ := hu
  refine ⟨a, b, _, _, rfl, rfl, SqT.of ha, SqT.of hb, by rw [List.length_map, List.length_map]; exact short hl, fun e => ?_, fun _ e => ?_, fun _ _ p hp => ?_⟩
  · have : s = [] := by simpa using e
    subst this
    exact k _ _ (Same.refl H) ⟨b, rfl, hb⟩
  · have : t = [] := by simpa using e
    subst this
    rw [List.append_nil] at k
    exact k _ _ (Same.refl H) ⟨a, rfl, ha⟩
  · exact k _ _ (Same.new hp _) ⟨p, rfl, by rw [upd_same, List.map_append]⟩
/-- (x,) -/
theorem oneN {H : Hp} {x : Nat} {Q : VK} (k : ∀ v' H', Same H H' → TupN H' v' [x] → Q v' H') : ([nV x] : List V).length ≤ sizeLine ∧ ∀ p, H p = none → Q (.ref p) (upd H p (.tup [nV x])) :=
  ⟨by show 1 ≤ sizeLine; decide, fun p hp => k _ _ (Same.new hp _) ⟨p, rfl, upd_same⟩⟩
theorem truN {K : PySem.W.Frag} {H : Hp} {v : V} {s : List Nat} (h : TupN H v s) : TruV K v H (!s.isEmpty) := by
  obtain ⟨a, rfl, ha⟩ := h
  refine .inr (.inl ⟨_, SqT.of ha, ?_⟩)
  cases s <;> rfl
/-- the last one -/
theorem lastN {K : PySem.W.Frag} {H : Hp} {v : V} {s : List Nat} {Q : VK} (h : TupN H v s) (hs : ¬ s = []) (q : Q (nV (low s)) H) : rIxT K v (.int (-1)) H Q := by
  obtain ⟨a, rfl, ha⟩ := h
  cases hr : s.reverse with
  | nil => exact absurd (by simpa using hr) hs
  | cons y r =>
    have e : s = r.reverse ++ [y] := by
      have := congrArg List.reverse hr
      simpa using this
    subst e
    rw [low_snoc] at q
    rw [List.map_append] at ha
    exact ⟨a, _, -1, _, rfl, rfl, SqT.of ha, atI_last _ _, q⟩
theorem atN {K : PySem.W.Frag} {H : Hp} {v : V} {s : List Nat} {i x : Nat} {Q : VK} (h : TupN H v s) (hi : s[i]? = some x) (q : Q (nV x) H) : rIxT K v (nV i) H Q := by
  obtain ⟨a, rfl, ha⟩ := h
  exact ⟨a, _, i, nV x, rfl, rfl, SqT.of ha, atI_nat (by rw [List.getElem?_map, hi]; rfl), q⟩
theorem castAdd (a b : Nat) : ((a : Int) + (b : Int)) = ((a + b : Nat) : Int) := by omega
end Ev
end
section
/-! tuples whose own object is known: for t.index; going from one way of knowing to another -/
namespace Ev
open PySem PySem.Spec PyProof.Rows L2
/-- the object of a plain tuple of these items -/
def ObT (ob : Obj) (xs : List V) : Prop := xs.length ≤ sizeLine ∧ ob.cls = .type "tuple" ∧ ob.dict = none ∧ ∃ (its : List Value) (n : Nat), ob.data = .seq its.toArray n ∧ Vals xs its
/-- a tuple of numbers, its object known -/
def TupF (H : Hp) (v : V) (s : List Nat) : Prop := ∃ a ob, v = .ref a ∧ H a = some (.frz ob (.tup (s.map nV))) ∧ ObT ob (s.map nV)
theorem TupF.mono {H H' : Hp} (h : TSame H H') {v : V} {s : List Nat} (t : TupF H v s) : TupF H' v s := by
  obtain ⟨a, ob, e, q, z⟩ := t
  exact ⟨a, ob, e, h _ _ True.intro q, z⟩
theorem TupF.seq {K : PySem.W.Frag} {H : Hp} {v : V} {s : List Nat} (t : TupF H v s) : ∃ a, v = .ref a ∧ SqT K H a (s.map nV) := by
  obtain ⟨a, ob, e, q, _⟩ := t
  exact ⟨a, e, .inl (.inr ⟨ob, q⟩)⟩
/-- either of the two -/
def TupR (H : Hp) (v : V) (s : List Nat) : Prop := ∃ a, v = .ref a ∧ Rd H a (.tup (s.map nV))
theorem TupR.mono {H H' : Hp} (h : TSame H H') {v : V} {s : List Nat} (t : TupR H v s) : TupR H' v s := by
  obtain ⟨a, e, q⟩ := t
  exact ⟨a, e, q.elim (fun q => .inl (h _ _ True.intro q)) fun ⟨ob, q⟩ => .inr ⟨ob, h _ _ True.intro q⟩⟩
theorem TupN.rd {H : Hp} {v : V} {s : List Nat} (t : TupN H v s) : TupR H v s := by
  obtain ⟨a, e, q⟩ := t
  exact ⟨a, e, .inl q⟩
theorem TupF.rd {H : Hp} {v : V} {s : List Nat} (t : TupF H v s) : TupR H v s := by
  obtain ⟨a, ob, e, q, _⟩ := t
  exact ⟨a, e, .inr ⟨ob, q⟩⟩
abbrev TupsF (H : Hp) (xs : List V) (ss : List (List Nat)) : Prop := Paired (TupF H) xs ss
theorem TupsF.mono {H H' : Hp} (h : TSame H H') {xs : List V} {ss : List (List Nat)} (t : TupsF H xs ss) : TupsF H' xs ss := Paired.imp (fun _ _ => TupF.mono h) t
def LstF (H : Hp) (v : V) (ss : List (List Nat)) : Prop := ∃ a xs, v = .ref a ∧ H a = some (.lst xs) ∧ TupsF H xs ss

section
variable {X : Cx} {K : PySem.W.Frag}
/-- (a, ..), its object known -/
def tTupF (t : TA) : TE := fun σ H Q => t σ H fun xs H1 => xs.length ≤ sizeLine ∧ ∀ p ob, H1 p = none → ObT ob xs → Q (.ref p) (upd H1 p (.frz ob (.tup xs)))
theorem pe_tupF {es : List Expr} {x1} {pos : Pos} {t : TA} (h : PA X es t) : PE X (.Tuple es x1 pos) (tTupF t) := by
  refine ⟨fun pins s σ H Q I hq => ?_⟩
  refine wpAny_Tuple_spliced (thn (h.run pos pins s σ H _ I hq) fun us s' ⟨xs, G, J, r, z, q⟩ => ⟨Nat.le_trans (Nat.le_of_eq r.length.symm) z, ?_⟩)
  refine ⟨.ref s'.heap.objs.size, _, J.laid (t' := s'.toks) (o := .frz { cls := .type "tuple", data := .seq us.toArray } (.tup xs)) (fun b u e => Heap.get?_push_of_some _ e) (Nat.le_refl _) ?_, rfl, q _ _ (J.hok.fresh (Nat.le_refl _)) ⟨z, rfl, rfl, us, _, rfl, r⟩⟩
  exact ⟨Heap.get?_push_size _ rfl, z, us, r, _, Heap.get?_push_size _ rfl, rfl, _, rfl⟩
/-- t + u, the new one's object known -/
def rCatF (K : PySem.W.Frag) : R2 := fun x y H Q => ∃ a b xs ys, x = .ref a ∧ y = .ref b ∧ SqT K H a xs ∧ SqT K H b ys ∧ xs.length + ys.length ≤ sizeLine ∧
  (xs = [] → Q (.ref b) H) ∧ (xs ≠ [] → ys = [] → Q (.ref a) H) ∧ (xs ≠ [] → ys ≠ [] → ∀ p ob, H p = none → ObT ob (xs ++ ys) → Q (.ref p) (upd H p (.frz ob (.tup (xs ++ ys)))))
theorem kop_catF (e : X.K = K) : OpR X (binaryOp .Add) (rCatF K) := by
  subst e
  intro pins s σ H x y v u Q I rx ry h
  obtain ⟨a, b, xs, ys, rfl, rfl, ha, hb, hz, q0, q1, q2⟩ := h
  cases rx
  cases ry
  obtain ⟨its, r1, p1, _⟩ := I.tuple ha
  obtain ⟨jts, r2, p2, _⟩ := I.tuple hb
  by_cases hx : xs = []
  · subst hx
    cases r1
    exact cat_tup0 p1 p2 ⟨.ref b, H, I, rfl, q0 rfl⟩
  refine HT.cat_tup p1 p2 (fun z => hx (r1.nil_iff.mp z)) (fun z => ⟨.ref a, H, I, rfl, q1 hx (r2.nil_iff.mp z)⟩) (fun z => ?_) (Nat.le_trans (Nat.le_of_eq (by rw [r1.length, r2.length])) hz)
  have len : (xs ++ ys).length ≤ sizeLine := by
    rw [List.length_append]
    exact hz
  refine ⟨.ref s.heap.objs.size, _, I.laid (t' := s.toks) (o := .frz { cls := .type "tuple", data := .seq (its ++ jts).toArray } (.tup (xs ++ ys))) (fun b u e => Heap.get?_push_of_some _ e) (Nat.le_refl _) ?_, rfl, q2 hx (fun w => z (r2.nil_iff.mpr w)) _ _ (I.hok.fresh (Nat.le_refl _)) ⟨len, rfl, rfl, its ++ jts, _, rfl, r1.append r2⟩⟩
  exact ⟨Heap.get?_push_size _ rfl, len, its ++ jts, r1.append r2, _, Heap.get?_push_size _ rfl, rfl, _, rfl⟩
end
/-- t + u of numbers -/
theorem catF {K : PySem.W.Frag} {H : Hp} {s t : List Nat} {v u : V} {Q : VK} (hv : TupF H v s) (hu : TupF H u t) (hl : s.length + t.length ≤ 100000) (k : ∀ v' H', Same H H' → TupF H' v' (s ++ t) → Q v' H') : rCatF K v u H Q := by
  obtain ⟨a, oa, rfl, ha, za⟩ := id hv
  obtain ⟨b, ob, rfl, hb, zb⟩ := id hu
  refine ⟨a, b, s.map nV, t.map nV, rfl, rfl, .inl (.inr ⟨_, ha⟩), .inl (.inr ⟨_, hb⟩), by rw [List.length_map, List.length_map]; exact short hl, fun e => ?_, fun _ e => ?_, fun _ _ p o hp z => ?_⟩
  · have : s = [] := by simpa using e
    subst this
    exact k _ _ (Same.refl H) hu
  · have : t = [] := by simpa using e
    subst this
    rw [List.append_nil] at k
    exact k _ _ (Same.refl H) hv
  · exact k _ _ (Same.new hp _) ⟨p, o, rfl, by rw [upd_same, List.map_append], by rw [List.map_append]; exact z⟩
theorem truF {K : PySem.W.Frag} {H : Hp} {v : V} {s : List Nat} (h : TupF H v s) : TruV K v H (!s.isEmpty) := by
  obtain ⟨a, rfl, ha⟩ := h.seq (K := K)
  refine .inr (.inl ⟨_, ha, ?_⟩)
  cases s <;> rfl
theorem lastF {K : PySem.W.Frag} {H : Hp} {v : V} {s : List Nat} {Q : VK} (h : TupF H v s) (hs : ¬ s = []) (q : Q (nV (low s)) H) : rIxT K v (.int (-1)) H Q := by
  obtain ⟨a, rfl, ha⟩ := h.seq (K := K)
  cases hr : s.reverse with
  | nil => exact absurd (by simpa using hr) hs
  | cons y r =>
    have e : s = r.reverse ++ [y] := by
      have := congrArg List.reverse hr
      simpa using this
    subst e
    rw [low_snoc] at q
    rw [List.map_append] at ha
    exact ⟨a, _, -1, _, rfl, rfl, ha, atI_last _ _, q⟩

/-! ### t.index(k) -/
theorem vals_ints : ∀ {ns : List Nat} {us : List Value}, Vals (ns.map nV) us → IntsAre us (ns.map fun n : Nat => (n : Int))
  | [], _, .nil => .nil
  | n :: ns, _, .cons r t => by
    obtain ⟨k, rfl⟩ := r
    exact .cons _ _ (vals_ints t)
section
variable {X : Cx}
def tIndex (to te : TE) : TE := fun σ H Q => to σ H fun x H1 => ∃ s, TupF H1 x s ∧ te σ H1 fun y H2 => ∃ k : Nat, [y] = [nV k] ∧ k ∈ s ∧ TupF H2 x s ∧ Q (nV (s.idxOf k)) H2
theorem idx_map (k : Nat) : ∀ s : List Nat, (s.map fun n : Nat => (n : Int)).idxOf (k : Int) = s.idxOf k
  | [] => rfl
  | a :: s => by
    rw [List.map_cons, List.idxOf_cons, List.idxOf_cons, idx_map k s]
    by_cases e : a = k
    · subst e
      rw [beq_self_eq_true, beq_self_eq_true]
    · have h1 : (a == k) = false := by simpa using e
      have h2 : ((a : Int) == (k : Int)) = false := by
        have : ¬ ((a : Int) = (k : Int)) := by omega
        exact beq_false_of_ne this
      rw [h1, h2]
theorem pe_index {o e : Expr} {to te : TE} {apos cpos : Pos} (ho : PE X o to) (he : PE X e te)
    (hbase : attributeBase o "index" X.env (eval o X.env) = eval o X.env := by rfl)
    (hfew : ((backTo cpos (starEach [e] X.env)).all (fun x => !x.1) && (backToKw cpos (keywordEach [] X.env)).all (fun x => x.1.isSome)
      && decide ([e].length + ([] : List Keyword).length + (if ([] : List Keyword).isEmpty then 0 else 1) < 30)) = true := by rfl)
    (hline : (apos.endLine == cpos.line) = true := by rfl) (hs : starEach [e] X.env = (false, eval e X.env) :: starEach [] X.env := by rfl) (hplain : (backTo cpos (starEach [] X.env)).any (·.1) = false := by rfl) :
    PE X (.Call (.Attribute o "index" apos) [e] [] cpos) (tIndex to te) := by
  refine ⟨fun pins s σ H Q I h => ?_⟩
  refine wpAny_Call_method_late hbase hfew hline rfl (thn (ho.run pins s σ H _ I h) fun v s' ⟨x, G, J, r, ns, t, q⟩ => ?_)
  obtain ⟨a, ob, rfl, hh, z⟩ := id t
  cases r
  obtain ⟨e1, _⟩ := (show ObjOk X.prog X.w G s'.heap a (.frz ob (.tup (ns.map nV))) from J.hok a _ hh)
  refine ⟨"tuple", "tuple.index", PySem.F.plainAttrs_tuple, PySem.F.slot_tuple_index, PySem.F.type_tuple_index, ⟨ob, e1, z.2.1⟩, fun b eb => ?_, ?_⟩
  · cases eb
    exact ⟨ob, e1, z.2.2.1⟩
  have hA := (pa_cons he pa_nil hs).run cpos pins s' σ G (fun xs G' => ∃ k : Nat, xs = [nV k] ∧ k ∈ ns ∧ TupF G' (.ref a) ns ∧ Q (nV (ns.idxOf k)) G') J q
  rw [hs] at hA ⊢
  refine Calls.callWith_builtin (by show (false || (backTo cpos (starEach [] X.env)).any (·.1)) = false; rw [hplain] <;> rfl) (Calls.evalArgs_plain ?_)
  refine thn hA fun us s2 ⟨vs, G2, J2, r2, k, ev, hk, t2, q2⟩ => ?_
  subst ev
  obtain ⟨u, rfl, ru⟩ := Vals.one r2
  obtain ⟨tk, rfl⟩ := ru
  obtain ⟨a', ob', ea, h2, z2⟩ := t2
  cases ea
  obtain ⟨e2, _, its, ri, p2⟩ := (show ObjOk X.prog X.w G2 s2.heap a (.frz ob' (.tup (ns.map nV))) from J2.hok a _ h2)
  refine SeqAt.tuple_index_ints (ns := ns.map fun n : Nat => (n : Int)) p2 (vals_ints ri) (List.mem_map.mpr ⟨k, hk, rfl⟩) ?_
  rw [idx_map]
  exact ⟨nV (ns.idxOf k), G2, J2.tok _, ⟨_, rfl⟩, q2⟩
end
end Ev
end
section
/-! one way of knowing an object made into another, at a call's end, about a call, behind an expression -/
namespace Ev
open PySem PySem.Spec PyProof.Rows L2
/-- known by its own object, and not bound to stay so -/
def eT (a : Addr) (ob : Obj) : HO := .ext fun h => h.get? a = some ob
/-- a way to turn what is tracked -/
structure Cv (c : Addr → HO → HO) : Prop where
  tup : ∀ b xs, c b (.tup xs) = .tup xs
  own : ∀ b x, c b (.own x) = .own x
  ok : ∀ (P : Program) (w : World) (H : Hp) (h : Heap) (b : Addr) (o : HO), ObjOk P w H h b o → ObjOk P w H h b (c b o)
/-- what is new since H, turned -/
def re (c : Addr → HO → HO) (H H1 : Hp) : Hp := fun b => match H b with
  | none => (H1 b).map (c b)
  | some _ => H1 b
theorem re_old {c : Addr → HO → HO} {H H1 : Hp} {b : Addr} {o : HO} (h : H b = some o) : re c H H1 b = H1 b := by unfold re; rw [h]
theorem re_new {c : Addr → HO → HO} {H H1 : Hp} {b : Addr} (h : H b = none) : re c H H1 b = (H1 b).map (c b) := by unfold re; rw [h]
theorem re_ok {c : Addr → HO → HO} (k : Cv c) {P : Program} {w : World} {H H1 : Hp} {h : Heap} (x : HOk P w H1 h) : HOk P w (re c H H1) h := by
  have own : ∀ a b, H1 b = some (.own a) → re c H H1 b = some (.own a) := fun a b q => by
    cases e : H b with
    | none => rw [re_new e, q, Option.map_some, k.own]
    | some o => rw [re_old e, q]
  have tup : ∀ b xs, H1 b = some (.tup xs) → re c H H1 b = some (.tup xs) := fun b xs q => by
    cases e : H b with
    | none => rw [re_new e, q, Option.map_some, k.tup]
    | some o => rw [re_old e, q]
  intro a o q
  cases e : H a with
  | some u =>
    rw [re_old e] at q
    exact (x a o q).stay (fun _ _ _ z => z) (fun b z => own a b z) tup
  | none =>
    rw [re_new e] at q
    obtain ⟨v, hv, rfl⟩ := Option.map_eq_some_iff.mp q
    exact (k.ok _ _ _ _ _ _ (x a v hv)).stay (fun _ _ _ z => z) (fun b z => own a b z) tup
theorem re_un {c : Addr → HO → HO} {fs ex : List Addr} {H H1 : Hp} {h h1 : Heap} (u : Un fs ex H H1 h h1) : Un fs ex H (re c H H1) h h1 where
  keep := u.keep
  slot := u.slot
  free := fun b o q n hx => by rw [re_new n, u.free b o q n hx]; rfl
  there := u.there
  tups := fun b xs q => by rw [re_old q]; exact u.tups b xs q
  frzs := fun b o v q => by rw [re_old q]; exact u.frzs b o v q
  tbls := fun b ps q => by
    obtain ⟨more, z⟩ := u.tbls b ps q
    exact ⟨more, by rw [re_old q]; exact z⟩
/-- the promise of a def, its new objects turned at its end -/
def spRe (c : Addr → HO → HO) (sp : Sp) : Sp := fun vs H Q E => sp vs H (fun v H1 => Q v (re c H H1)) E
/-- the promise of a def about a tuple at T, told to one that knows T by its own object -/
def spUn (sp : Sp) : Sp := fun vs H Q E => ∃ T ob xs, H T = some (eT T ob) ∧ ObT ob xs ∧ sp vs (upd H T (.frz ob (.tup xs))) (fun v H1 => Q v (upd H1 T (eT T ob))) E
section
variable {P : Program} {w : World} {K : PySem.W.Frag} {mg : Str → Option Value} {base : Heap} {k : Nat} {f : Addr} {fd : FuncData} {ps : List Str} {sp : Sp} {x : Str} {dvs : List V}
theorem fn_re {c : Addr → HO → HO} (z : Cv c) (F : FnOk P w K mg base C8.CX0 k f fd ps sp) : FnOk P w K mg base C8.CX0 k f fd ps (spRe c sp) := by
  refine ⟨fun vs H Q E h => F.len _ _ _ _ h, fun A outer s H args us vs Q E hr he hb hv h => ?_⟩
  refine codeAny_mono (F.run A outer s H args us vs _ E hr he hb hv h) fun r s' q => ?_
  cases r with
  | error e => exact q.elim
  | ok fl =>
    cases fl with
    | ret u =>
      obtain ⟨v, H1, os, bare, un, hok, r1, q1⟩ := q
      exact ⟨v, re c H H1, os, bare, re_un un, re_ok z hok, r1, q1⟩
    | next => exact q.elim
    | brk => exact q.elim
    | cont => exact q.elim
theorem eT_ok {P : Program} {w : World} {H : Hp} {h : Heap} {T : Addr} {ob : Obj} (e : h.get? T = some ob) : ObjOk P w H h T (eT T ob) :=
  ⟨e, ⟨ob, e⟩, fun h1 h2 q k => k ob q⟩
theorem frz_ok {P : Program} {w : World} {H : Hp} {h : Heap} {T : Addr} {ob : Obj} {xs : List V} (z : ObT ob xs) (e : h.get? T = some ob) : ObjOk P w H h T (.frz ob (.tup xs)) := by
  obtain ⟨z1, z2, _, its, n, z4, z5⟩ := z
  exact ⟨e, z1, its, z5, ob, e, z2, n, z4⟩
/-- one entry put another way, the heap as it is -/
theorem hokSwap {P : Program} {w : World} {H : Hp} {h : Heap} {T : Addr} {o v : HO} (x : HOk P w H h) (e : H T = some o) (h1 : ∀ y, o ≠ .own y) (h2 : ∀ xs, o ≠ .tup xs) (n : ObjOk P w (upd H T v) h T v) : HOk P w (upd H T v) h := by
  intro a u q
  by_cases ha : a = T
  · subst ha
    rw [upd_same] at q
    injection q with q
    subst q
    exact n
  · rw [upd_ne ha] at q
    refine (x a u q).stay (fun _ _ _ z => z) (fun b z => ?_) fun b xs z => ?_
    · rw [upd_ne]
      · exact z
      · rintro rfl
        rw [e] at z
        injection z with z
        exact h1 _ z
    · rw [upd_ne]
      · exact z
      · rintro rfl
        rw [e] at z
        injection z with z
        exact h2 _ z
theorem fn_un (F : FnOk P w K mg base C8.CX0 k f fd ps sp) : FnOk P w K mg base C8.CX0 k f fd ps (spUn sp) := by
  refine ⟨fun vs H Q E ⟨_, _, _, _, _, h⟩ => F.len _ _ _ _ h, fun A outer s H args us vs Q E hr he hb hv h => ?_⟩
  obtain ⟨T, ob, xs, hT, z, h⟩ := h
  have neT : ∀ b, H b = none → b ≠ T := fun b n e => by
    subst e
    rw [hT] at n
    cases n
  have eh : s.heap.get? T = some ob := (show ObjOk P w H s.heap T (eT T ob) from he.hok T _ hT).1
  have ok1 : HOk P w (upd H T (.frz ob (.tup xs))) s.heap := hokSwap he.hok hT (fun _ q => by cases q) (fun _ q => by cases q) (frz_ok z eh)
  have he1 : Env0 P w K mg base A outer s (upd H T (.frz ob (.tup xs))) :=
    ⟨he.frames, he.mod, fun b o q => ⟨(he.bs b o q).1, by rw [upd_ne (neT b (he.bs b o q).2)]; exact (he.bs b o q).2⟩, he.bsz, he.funs, fun b hb => by rw [upd_ne (neT b (he.frf b hb))]; exact he.frf b hb, ok1, he.bare⟩
  refine codeAny_mono (F.run A outer s _ args us vs _ E hr he1 hb hv h) fun r s' q => ?_
  cases r with
  | error e => exact q.elim
  | ok fl =>
    cases fl with
    | ret u =>
      obtain ⟨v, H1, os, bare, un, hok, r1, q1⟩ := q
      have hT1 : H1 T = some (.frz ob (.tup xs)) := un.frzs T ob _ upd_same
      have eh1 : s'.heap.get? T = some ob := (show ObjOk P w H1 s'.heap T (.frz ob (.tup xs)) from hok T _ hT1).1
      have up : ∀ b, b ≠ T → (upd H T (.frz ob (.tup xs))) b = H b := fun b h => upd_ne h
      refine ⟨v, _, os, bare, ⟨fun b o e n => ?_, fun b o e n => ?_, fun b o e n hx => ?_, un.there, fun b ys e => ?_, fun b o y e => ?_, fun b ys e => ?_⟩, hokSwap hok hT1 (fun _ q => by cases q) (fun _ q => by cases q) (eT_ok eh1), r1, q1⟩
      · exact un.keep b o e (by rw [up b (neT b n)]; exact n)
      · exact un.slot b o e (by rw [up b (neT b n)]; exact n)
      · rw [upd_ne (neT b n)]
        exact un.free b o e (by rw [up b (neT b n)]; exact n) hx
      · have nb : b ≠ T := ne_of e hT (fun q => by cases q)
        rw [upd_ne nb]
        exact un.tups b ys (by rw [up b nb]; exact e)
      · have nb : b ≠ T := ne_of e hT (fun q => by cases q)
        rw [upd_ne nb]
        exact un.frzs b o y (by rw [up b nb]; exact e)
      · have nb : b ≠ T := ne_of e hT (fun q => by cases q)
        rw [upd_ne nb]
        exact un.tbls b ys (by rw [up b nb]; exact e)
    | next => exact q.elim
    | brk => exact q.elim
    | cont => exact q.elim
theorem cal_re {c : Addr → HO → HO} (z : Cv c) (F : C8.Cal P w K mg base k x sp dvs) : C8.Cal P w K mg base k x (spRe c sp) dvs := by
  obtain ⟨f, fd, ps, ds, F, r⟩ := F
  exact ⟨f, fd, ps, ds, fn_re z F, r⟩
theorem cal_un (F : C8.Cal P w K mg base k x sp dvs) : C8.Cal P w K mg base k x (spUn sp) dvs := by
  obtain ⟨f, fd, ps, ds, F, r⟩ := F
  exact ⟨f, fd, ps, ds, fn_un F, r⟩
theorem cal_imp {sp' : Sp} (h : ∀ vs H Q E, sp' vs H Q E → sp vs H Q E) (F : C8.Cal P w K mg base k x sp dvs) : C8.Cal P w K mg base k x sp' dvs := by
  obtain ⟨f, fd, ps, ds, F, r⟩ := F
  exact ⟨f, fd, ps, ds, F.imp h, r⟩
theorem calAt_un (F : C8.CalAt P w K mg base k f sp) : C8.CalAt P w K mg base k f (spUn sp) := by
  obtain ⟨fd, ps, F, r⟩ := F
  exact ⟨fd, ps, fn_un F, r⟩
theorem calAt_imp {sp' : Sp} (h : ∀ vs H Q E, sp' vs H Q E → sp vs H Q E) (F : C8.CalAt P w K mg base k f sp) : C8.CalAt P w K mg base k f sp' := by
  obtain ⟨fd, ps, F, r⟩ := F
  exact ⟨fd, ps, F.imp h, r⟩
end
/-- from a known tuple to a tuple -/
def toTup : Addr → HO → HO
  | _, .frz _ (.tup xs) => .tup xs
  | _, o => o
/-- from a known tuple to one known by its own object -/
def toExt : Addr → HO → HO
  | b, .frz ob (.tup xs) => eT b ob
  | _, o => o
theorem cv_tup : Cv toTup where
  tup _ _ := rfl
  own _ _ := rfl
  ok P w H h b o x := by
    cases o with
    | frz ob u =>
      cases u with
      | tup xs => exact x.2
      | _ => exact x
    | _ => exact x
theorem cv_ext : Cv toExt where
  tup _ _ := rfl
  own _ _ := rfl
  ok P w H h b o x := by
    cases o with
    | frz ob u =>
      cases u with
      | tup xs => exact eT_ok x.1
      | _ => exact x
    | _ => exact x
theorem re_same {c : Addr → HO → HO} {H0 H H1 : Hp} (a : Same H0 H) (s : Same H H1) : Same H0 (re c H H1) := fun b o q => by
  rw [re_old (a b o q)]
  exact s b o (a b o q)
/-- behind e: the tuple known by its own object is a tuple -/
def tFix (t : TE) : TE := fun σ H Q => t σ H fun x H1 => ∃ T ob xs, H1 T = some (eT T ob) ∧ ObT ob xs ∧ Q x (upd H1 T (.tup xs))
theorem pe_fix {X : Cx} {e : Expr} {t : TE} (h : PE X e t) : PE X e (tFix t) := by
  refine ⟨fun pins s σ H Q I q => thn (h.run pins s σ H _ I q) fun v s' ⟨x, G, J, r, T, ob, xs, hT, z, q⟩ => ?_⟩
  have e1 : s'.heap.get? T = some ob := (show ObjOk X.prog X.w G s'.heap T (eT T ob) from J.hok T _ hT).1
  have n : ObjOk X.prog X.w (upd G T (.tup xs)) s'.heap T (.tup xs) := (frz_ok (H := upd G T (.tup xs)) z e1).2
  exact ⟨x, upd G T (.tup xs), J.write (e := T) (t' := s'.toks) (by rw [hT]; exact True.intro) (.inl rfl) (fun _ _ _ q => q) ⟨_, e1⟩ n, r, q⟩
/-! ### lists of known tuples, made since H0 -/
def TupG (H0 H : Hp) (v : V) (s : List Nat) : Prop := ∃ a ob, v = .ref a ∧ H0 a = none ∧ H a = some (.frz ob (.tup (s.map nV))) ∧ ObT ob (s.map nV)
theorem TupG.f {H0 H : Hp} {v : V} {s : List Nat} (t : TupG H0 H v s) : TupF H v s := by
  obtain ⟨a, ob, e, _, r⟩ := t
  exact ⟨a, ob, e, r⟩
theorem TupG.mono {H0 H H' : Hp} (h : TSame H H') {v : V} {s : List Nat} (t : TupG H0 H v s) : TupG H0 H' v s := by
  obtain ⟨a, ob, e, n, q, z⟩ := t
  exact ⟨a, ob, e, n, h _ _ True.intro q, z⟩
abbrev TupsG (H0 H : Hp) (xs : List V) (ss : List (List Nat)) : Prop := Paired (TupG H0 H) xs ss
theorem TupsG.mono {H0 H H' : Hp} (h : TSame H H') {xs : List V} {ss : List (List Nat)} (t : TupsG H0 H xs ss) : TupsG H0 H' xs ss := Paired.imp (fun _ _ => TupG.mono h) t
def LstG (H0 H : Hp) (v : V) (ss : List (List Nat)) : Prop := ∃ a xs, v = .ref a ∧ H0 a = none ∧ H a = some (.lst xs) ∧ TupsG H0 H xs ss
/-- known by its own object, new since H0 -/
def TupE (H0 H : Hp) (v : V) (s : List Nat) : Prop := ∃ a ob, v = .ref a ∧ H0 a = none ∧ H a = some (eT a ob) ∧ ObT ob (s.map nV)
def LstE (H0 H : Hp) (v : V) (ss : List (List Nat)) : Prop := ∃ a xs, v = .ref a ∧ H0 a = none ∧ H a = some (.lst xs) ∧ Paired (TupE H0 H) xs ss ∧ xs.Nodup
theorem nV_inj : ∀ {s t : List Nat}, s.map nV = t.map nV → s = t
  | [], [], _ => rfl
  | [], b :: t, h => by cases h
  | a :: s, [], h => by cases h
  | a :: s, b :: t, h => by
    injection h with h1 h2
    injection h1 with h1
    have e : a = b := by omega
    rw [e, nV_inj h2]
theorem nodup_of {xs : List V} {ss : List (List Nat)} {F : V → List Nat → Prop} (p : Paired F xs ss) (n : ss.Nodup) (k : ∀ x s t, F x s → F x t → s = t) : xs.Nodup := by
  induction p with
  | nil => exact .nil
  | cons r q ih =>
    have n' := List.nodup_cons.mp n
    refine List.nodup_cons.mpr ⟨fun h => ?_, ih n'.2⟩
    obtain ⟨i, hi⟩ := List.mem_iff_getElem?.mp h
    obtain ⟨t, ht, rt⟩ := Paired.at_ q hi
    exact n'.1 (k _ _ _ r rt ▸ List.mem_of_getElem? ht)
theorem LstG.tup {H0 H : Hp} {v : V} {ss : List (List Nat)} (t : LstG H0 H v ss) : LstT (re toTup H0 H) v ss := by
  obtain ⟨a, xs, e, n, h, p⟩ := t
  refine ⟨a, xs, e, by rw [re_new n, h]; rfl, Paired.imp (fun x s ⟨b, ob, e, n, h, z⟩ => ⟨b, e, ?_⟩) p⟩
  rw [re_new n, h]
  rfl
theorem LstG.ext {H0 H : Hp} {v : V} {ss : List (List Nat)} (nd : ss.Nodup) (t : LstG H0 H v ss) : LstE H0 (re toExt H0 H) v ss := by
  obtain ⟨a, xs, e, n, h, p⟩ := t
  refine ⟨a, xs, e, n, by rw [re_new n, h]; rfl, Paired.imp (fun x s ⟨b, ob, e, n, h, z⟩ => ⟨b, ob, e, n, by rw [re_new n, h]; rfl, z⟩) p, nodup_of p nd fun x s t ⟨b, _, e, _, h, _⟩ ⟨b', _, e', _, h', _⟩ => ?_⟩
  have : b = b' := by
    rw [e] at e'
    injection e'
  subst this
  rw [h] at h'
  injection h' with h'
  injection h' with _ h'
  injection h' with h'
  exact nV_inj h'
theorem catG {K : PySem.W.Frag} {H0 H : Hp} {s t : List Nat} {v u : V} {Q : VK} (s0 : Same H0 H) (hv : TupG H0 H v s) (hu : TupG H0 H u t) (hl : s.length + t.length ≤ 100000) (k : ∀ v' H', Same H H' → TupG H0 H' v' (s ++ t) → Q v' H') : rCatF K v u H Q := by
  obtain ⟨a, oa, rfl, na, ha, za⟩ := id hv
  obtain ⟨b, ob, rfl, nb, hb, zb⟩ := id hu
  refine ⟨a, b, s.map nV, t.map nV, rfl, rfl, .inl (.inr ⟨_, ha⟩), .inl (.inr ⟨_, hb⟩), by rw [List.length_map, List.length_map]; exact short hl, fun e => ?_, fun _ e => ?_, fun _ _ p o hp z => ?_⟩
  · have : s = [] := by simpa using e
    subst this
    exact k _ _ (Same.refl H) hu
  · have : t = [] := by simpa using e
    subst this
    rw [List.append_nil] at k
    exact k _ _ (Same.refl H) hv
  · exact k _ _ (Same.new hp _) ⟨p, o, rfl, s0.free hp, by rw [upd_same, List.map_append], by rw [List.map_append]; exact z⟩
end Ev
end
section
/-! sorted(t) of a tuple of ints -/
namespace Ev
open PySem PySem.Spec PyProof.Rows L2
section
variable {prog : Program} {w : World} {A : Around} {E : Value → Shared → Prop} {s : Shared}
theorem coll_tup {t : Addr} {us : List Value} {R : List Value → Shared → Prop} (ht : IsTup s.heap t us.toArray) (hz : us.length ≤ sizeLine)
    (k : ∀ g : Heap, s.heap.objs.size ≤ g.objs.size → (∀ b o, s.heap.get? b = some o → g.get? b = some o) → R us { s with heap := g }) : wpAny (model prog w) A (collect (.ref t)) R E s := by
  obtain ⟨ob, e1, e2, n, e3⟩ := id ht
  unfold collect
  refine wpAny_bind (wpAny_runValue (codeAny_builtin entry_proto_collect' ?_))
  change wpAny _ _ (do again (.builtin "list.__iadd__" ⟨[← newList [], .ref t], []⟩)) _ _ s
  refine wpAny_bind (wpAny_newList (wpAny_pure ⟨Code.quiet_builtin _ (by decide +kernel), codeAny_builtin entry_list_iadd' ?_⟩))
  change wpAny _ _ (Builtin.List.listExtendWith (.ref s.heap.objs.size) (.ref t) (.ref s.heap.objs.size)) _ _ { s with heap := s.heap.push (seqObj "list" #[] 0) }
  have e4 : (s.heap.push (seqObj "list" #[] 0)).get? t = some ob := Heap.get?_push_of_some _ e1
  have e5 : (s.heap.push (seqObj "list" #[] 0)).get? s.heap.objs.size = some (seqObj "list" #[] 0) := Heap.get?_push_size _ rfl
  unfold Builtin.List.listExtendWith
  refine wpAny_bind (wpAny_typeOf (T := "tuple") ⟨ob, e4, e2⟩ ?_)
  have e6 : (Value.type "tuple" == Value.type "tuple") = true := rfl
  rw [if_pos (by rw [e6, Bool.or_true])]
  refine wpAny_bind (listItems_at e4 e3 ?_)
  refine wpAny_bind (listItems_at (xs := #[]) (n := 0) e5 rfl ?_)
  rw [if_neg (by simp)]
  refine wpAny_bind (listUpdate_at (xs := #[]) (n := 0) e5 rfl ?_ (Nat.zero_le _) (by
    have : (#[] ++ us.toArray : Array Value).size = us.length := by simp
    rw [this]
    omega))
  refine wpAny_pure ?_
  change wpAny (model prog w) A (do
      let o ← load s.heap.objs.size
      match o.data with
      | .seq xs _ => pure xs.toList
      | _ => unsupported "internal:collect") R E { s with heap := (s.heap.push (seqObj "list" #[] 0)).update s.heap.objs.size (Obj.mapSeq (· ++ us.toArray)) }
  refine wpAny_bind (wpAny_load (get?_update_seq e5 _) ?_)
  change wpAny _ _ (pure ((#[] : Array Value) ++ us.toArray).toList) R E _
  have e7 : ((#[] : Array Value) ++ us.toArray).toList = us := by simp
  rw [e7]
  refine wpAny_pure (k _ (by rw [Heap.size_update, size_push']; exact Nat.le_succ _) fun b o q => ?_)
  rw [Heap.get?_update_ne _ _ _ _ (Nat.ne_of_lt (Heap.lt_size q))]
  exact Heap.get?_push_of_some _ q
end
def rSortedIT (K : PySem.W.Frag) : List V → Hp → VK → Prop := fun vs H Q => ∃ (a : Addr) (ns : List Nat), vs = [V.ref a] ∧ SqT K H a (ns.map nV) ∧
  ∀ (ms : List Nat) (p : Addr), ms.Perm ns → ms.Pairwise (· ≤ ·) → H p = none → Q (.ref p) (upd H p (.lst (ms.map nV)))
theorem nats_of : ∀ {ns : List Nat} {is : List Int}, is.Perm (ns.map fun n : Nat => (n : Int)) → ∃ ms : List Nat, is = ms.map (fun n : Nat => (n : Int)) ∧ ms.Perm ns := by
  intro ns is h
  refine ⟨is.map Int.toNat, ?_, ?_⟩
  · rw [List.map_map]
    have : ∀ l : List Int, (∀ x ∈ l, ∃ n : Nat, x = (n : Int)) → l = l.map ((fun n : Nat => (n : Int)) ∘ Int.toNat) := by
      intro l
      induction l with
      | nil => intro _; rfl
      | cons a l ih =>
        intro q
        obtain ⟨n, e⟩ := q a List.mem_cons_self
        rw [List.map_cons, ← ih fun x hx => q x (List.mem_cons_of_mem _ hx), e]
        rfl
    refine this is fun x hx => ?_
    obtain ⟨n, _, e⟩ := List.mem_map.mp (h.mem_iff.mp hx)
    exact ⟨n, e.symm⟩
  · have := h.map Int.toNat
    rw [List.map_map] at this
    have e : ns.map (Int.toNat ∘ fun n : Nat => (n : Int)) = ns := by
      have : (Int.toNat ∘ fun n : Nat => (n : Int)) = id := by
        funext n
        rfl
      rw [this, List.map_id]
    rwa [e] at this
theorem kcr_sortedIT {X : Cx} {K : PySem.W.Frag} (e : X.K = K) : CallR X (.builtin "sorted") (rSortedIT K) := by
  subst e
  intro pins s σ H vs us Q I r h
  obtain ⟨a, ns, rfl, ha, q⟩ := h
  obtain ⟨its, rv, pt, hz⟩ := I.tuple ha
  rw [Vals.ref1 r]
  have hi := vals_ints rv
  have hl : its.length ≤ sizeLine := Nat.le_trans (Nat.le_of_eq rv.length.symm) hz
  refine Calls.call_function_entry kind_sorted plain_sorted entry_sorted (args_sorted1 _) ?_
  unfold Builtin.«sorted»
  refine wpAny_bind (m := checkCount "sorted" 1 1 _) (wpAny_pure ?_)
  refine wpAny_bind (coll_tup pt hl fun g hs kg => ?_)
  refine wpAny_bind (wpAny_newList ?_ hl)
  have eL : (g.push (seqObj "list" its.toArray 0)).get? g.objs.size = some (seqObj "list" its.toArray 0) := Heap.get?_push_size _ rfl
  refine wpAny_bind (wpAny_holding (wpAny_call_entry slot_list_sort ⟨_, eL, rfl⟩ entry_list_sort (SrtO.list_sort_ord SrtO.swo_int eL hl (fun h2 => SrtO.ints_sortable hi h2) fun out h1 h2 => ⟨_, rfl, ?_⟩) (args_list_sort _)))
  obtain ⟨k1, k2, k3⟩ := SrtO.ints_out hi h1 h2
  obtain ⟨c, hc⟩ := sortedHeap_at (vs := its) (out := out.toArray) eL
  obtain ⟨ms, em, pm⟩ := nats_of k2
  rw [em] at k1 k3
  have hm : (ms.map nV).length ≤ sizeLine := by
    rw [List.length_map, pm.length_eq, ← List.length_map (f := nV)]
    exact hz
  have rm : Vals (ms.map nV) out := by
    have := vals_of_ints k1
    rw [List.map_map] at this
    exact this
  have keep : ∀ b u, s.heap.get? b = some u → (sortedHeap (g.push (seqObj "list" its.toArray 0)) g.objs.size its out.toArray).get? b = some u := fun b u z => by
    have z1 := kg b u z
    have lt := Heap.lt_size z1
    rw [sortedHeap_old (Nat.ne_of_lt lt) (by rw [size_push']; exact Nat.lt_succ_of_lt lt)]
    exact Heap.get?_push_of_some _ z1
  refine wpAny_pure ⟨_, rfl, ⟨.ref g.objs.size, upd H g.objs.size (.lst (ms.map nV)), ?_, rfl, q ms _ pm ?_ (I.hok.fresh hs)⟩⟩
  · exact I.laid (t' := s.toks) keep hs ⟨hm, out, c, rm, hc⟩
  · refine (List.pairwise_map.mp k3).imp fun {a b} h => ?_
    omega
/-- sorted(l) of a list of numbers -/
def rSortedN (K : PySem.W.Frag) : List V → Hp → VK → Prop := fun vs H Q => ∃ (a : Addr) (ns : List Nat), vs = [V.ref a] ∧ SqL K H a (ns.map nV) ∧
  ∀ (ms : List Nat) (p : Addr), ms.Perm ns → ms.Pairwise (· ≤ ·) → H p = none → Q (.ref p) (upd H p (.lst (ms.map nV)))
/-! ### readings -/
theorem TupR.sq {K : PySem.W.Frag} {H : Hp} {v : V} {s : List Nat} (t : TupR H v s) : ∃ a, v = .ref a ∧ SqT K H a (s.map nV) := by
  obtain ⟨a, e, q⟩ := t
  exact ⟨a, e, .inl q⟩
theorem slTo {K : PySem.W.Frag} {H : Hp} {v : V} {s : List Nat} {k : Nat} {Q : VK} (t : TupR H v s) (q : ∀ v' H', Same H H' → TupR H' v' (s.take k) → Q v' H') : rSlA K v none (some (k : Int)) H Q := by
  obtain ⟨a, rfl, ha⟩ := id t
  refine ⟨a, _, rfl, .inl ha, fun z => ?_, fun _ p hp => ?_⟩
  · have := z.2
    rw [HT.sIx_nat, List.length_map] at this
    have e : s.take k = s := List.take_of_length_le (by omega)
    rw [e] at q
    exact q _ _ (Same.refl H) t
  · rw [cut_to, ← List.map_take]
    exact q _ _ (Same.new hp _) ⟨p, rfl, .inl upd_same⟩
theorem slFrom {K : PySem.W.Frag} {H : Hp} {v : V} {s : List Nat} {k : Nat} {Q : VK} (t : TupR H v s) (q : ∀ v' H', Same H H' → TupR H' v' (s.drop k) → Q v' H') : rSlA K v (some (k : Int)) none H Q := by
  obtain ⟨a, rfl, ha⟩ := id t
  refine ⟨a, _, rfl, .inl ha, fun z => ?_, fun _ p hp => ?_⟩
  · have := z.1
    rw [HT.sIx_nat, List.length_map] at this
    have e : s.drop k = s := by
      rcases Nat.min_eq_zero_iff.mp this with e | e
      · rw [e, List.drop_zero]
      · have : s = [] := List.eq_nil_of_length_eq_zero e
        rw [this, List.drop_nil]
    rw [e] at q
    exact q _ _ (Same.refl H) t
  · rw [cut_from, ← List.map_drop]
    exact q _ _ (Same.new hp _) ⟨p, rfl, .inl upd_same⟩
theorem catR {K : PySem.W.Frag} {H : Hp} {s t : List Nat} {v u : V} {Q : VK} (hv : TupR H v s) (hu : TupR H u t) (hl : s.length + t.length ≤ 100000) (k : ∀ v' H', Same H H' → TupR H' v' (s ++ t) → Q v' H') : rCatA K v u H Q := by
  obtain ⟨a, rfl, ha⟩ := id hv
  obtain ⟨b, rfl, hb⟩ := id hu
  refine ⟨a, b, _, _, rfl, rfl, .inl ha, .inl hb, by rw [List.length_map, List.length_map]; exact short hl, fun e => ?_, fun _ e => ?_, fun _ _ p hp => ?_⟩
  · have : s = [] := by simpa using e
    subst this
    exact k _ _ (Same.refl H) hu
  · have : t = [] := by simpa using e
    subst this
    rw [List.append_nil] at k
    exact k _ _ (Same.refl H) hv
  · exact k _ _ (Same.new hp _) ⟨p, rfl, .inl (by rw [upd_same, List.map_append])⟩
end Ev
end
section
/-! set(t) of a tuple of ints; sorted(l) of a list of pairs of a tuple of ints and an int -/
namespace Ev
open PySem PySem.Spec PyProof.Rows L2 PySem.W
/-- a pair of a tuple and a number -/
def PairV (T : Hp → V → List Nat → Prop) (H : Hp) (x : V) (t : List Nat) : Prop := ∃ q y l, x = .ref q ∧ H q = some (.tup [y, nV l]) ∧ T H y t
def RowV (T : Hp → V → List Nat → Prop) (H : Hp) (v : V) (ps : List (V × List Nat)) : Prop := ∃ a, v = .ref a ∧ H a = some (.lst (ps.map (·.1))) ∧ (∀ p ∈ ps, PairV T H p.1 p.2) ∧ ps.length ≤ 1000
theorem RowV.mono {T T' : Hp → V → List Nat → Prop} {H H' : Hp} {v : V} {ps : List (V × List Nat)} (r : RowV T H v ps) (s : Same H H') (k : ∀ y t, T H y t → T' H' y t) : RowV T' H' v ps := by
  obtain ⟨a, e, h, q, len⟩ := r
  exact ⟨a, e, s _ _ h, fun p hp => let ⟨q, y, l, e, h, z⟩ := q p hp; ⟨q, y, l, e, s _ _ h, k _ _ z⟩, len⟩
section
variable {X : Cx} {K : PySem.W.Frag} {w : World}
def rSetOfN (K : PySem.W.Frag) (w : World) : List V → Hp → VK → Prop := fun xs H Q => ∃ (a : Addr) (ns : List Nat), xs = [.ref a] ∧ SqT K H a (ns.map nV) ∧ ns.length ≤ 1000 ∧
  ∀ p c, H p = none → c ≤ ns.length → Q (.ref p) (upd H p (SetO w p (fun j => decide (j ∈ ns.map fun n : Nat => (n : Int))) c))
theorem kcr_setOfN (hc : X.calm = true) (e : X.K = K) (ew : X.w = w) : CallR X (.type "set") (rSetOfN K w) := by
  subst e
  subst ew
  intro pins s σ H xs us Q I r h
  obtain ⟨a, ns, rfl, ha, hz, q⟩ := h
  obtain ⟨its, rv, pt, _⟩ := I.tuple ha
  rw [Vals.ref1 r]
  have hb : (ns.map fun n : Nat => (n : Int)).length + 1 < scanBound := by
    rw [List.length_map]
    exact Nat.lt_of_le_of_lt (Nat.succ_le_succ hz) (by decide)
  refine call_set_tupI _ (I.ok.hd hc) pt (vals_ints rv) hb fun h' tk c R hl keep => ?_
  rw [List.length_map] at hl
  exact ⟨.ref s.heap.objs.size, _, I.laid (t' := tk) keep (Nat.le_refl _) (setO_new R), rfl, q _ c (I.hok.fresh (Nat.le_refl _)) hl⟩
/-- what a pair reads as -/
def encP (t : List Nat) (l : Nat) : PyData := .tuple [.tuple (t.map fun n : Nat => .int (n : Int)), .int (l : Int)]
theorem reads_nats {h : Heap} : ∀ {ns : List Nat} {us : List Value}, Vals (ns.map nV) us → ReadsAll h us (ns.map fun n : Nat => PyData.int (n : Int)) []
  | [], _, .nil => .nil
  | n :: ns, _, .cons r t => by
    obtain ⟨k, rfl⟩ := r
    exact .cons (as := []) (bs := []) (.int _ _) (reads_nats t)
def rSortedPN (K : PySem.W.Frag) : List V → Hp → VK → Prop := fun vs H Q => ∃ (a : Addr) (ps : List (V × List Nat)), vs = [V.ref a] ∧ SqL K H a (ps.map (·.1)) ∧ (∀ p ∈ ps, PairV TupR H p.1 p.2) ∧
  ∀ (qs : List (V × List Nat)) (p : Addr), qs.Perm ps → H p = none → Q (.ref p) (upd H p (.lst (qs.map (·.1))))
theorem alike_ints : ∀ (s t : List Nat), alikeAll (s.map fun n : Nat => PyData.int (n : Int)) (t.map fun n : Nat => PyData.int (n : Int)) = true
  | [], t => by cases t <;> rfl
  | a :: s, [] => rfl
  | a :: s, b :: t => by
    have := alike_ints s t
    simp [alikeAll, alike, this]
theorem encP_alike (s t : List Nat) (l k : Nat) : alike (encP s l) (encP t k) = true := by
  simp [encP, alike, alikeAll, alike_ints]
theorem each_of {α β : Type} {R : α → β → Prop} : ∀ {xs : List α} {ys : List β}, xs.length = ys.length → (∀ (i : Nat) x y, xs[i]? = some x → ys[i]? = some y → R x y) → EachIs R xs ys
  | [], [], _, _ => .nil
  | x :: xs, y :: ys, h, k => .cons (k 0 x y rfl rfl) (each_of (by simpa using h) fun i a b p q => k (i + 1) a b p q)
theorem vals_each {α : Type} (f : α → V) : ∀ {out : List Value} {zs : List α}, EachIs (fun u z => RelV (f z) u) out zs → Vals (zs.map f) out
  | _, _, .nil => .nil
  | _, _, .cons r t => .cons r (vals_each f t)
theorem each_vals {α : Type} (f : α → V) : ∀ {zs : List α} {out : List Value}, Vals (zs.map f) out → EachIs (fun u z => RelV (f z) u) out zs
  | [], _, .nil => .nil
  | z :: zs, _, .cons r t => .cons r (each_vals f t)
theorem kcr_sortedPN (e : X.K = K) (hu : X.A.units + 64 < cLine) : CallR X (.builtin "sorted") (rSortedPN K) := by
  subst e
  intro pins s σ H vs us Q I r h
  obtain ⟨a, ps, rfl, ha, hp, q⟩ := h
  obtain ⟨its, rv, hl, hz⟩ := I.list ha
  rw [Vals.ref1 r]
  have hq : ∀ p ∈ ps, ∃ l : Nat, ∀ u, RelV p.1 u → ∃ as, Reads s.heap u (encP p.2 l) as := fun p hp' => by
    obtain ⟨b, y, l, e1, h1, c, e2, h2⟩ := hp p hp'
    refine ⟨l, fun u ru => ?_⟩
    rw [e1] at ru
    cases ru
    obtain ⟨_, ib, rb, ob, o1, o2, n, o3⟩ := (show ObjOk X.prog X.w H s.heap b (.tup [y, nV l]) from I.hok b _ h1)
    obtain ⟨_, ic, rc, oc, p1, p2, n2, p3⟩ := (show ObjOk X.prog X.w H s.heap c (.tup (p.2.map nV)) from h2.ok I.hok)
    obtain ⟨u1, u2, rfl, r1, r2⟩ := Vals.two rb
    rw [e2] at r1
    cases r1
    obtain ⟨tk, rfl⟩ := r2
    exact ⟨_, .tuple o1 o2 o3 (.cons (.tuple p1 p2 p3 (reads_nats rc)) (.cons (.int _ _) .nil))⟩
  have hl2 : ∃ len : V × List Nat → Nat, ∀ p ∈ ps, ∀ u, RelV p.1 u → ∃ as, Reads s.heap u (encP p.2 (len p)) as := by
    classical
    refine ⟨fun p => if h : p ∈ ps then (hq p h).choose else 0, fun p h => ?_⟩
    show ∀ u, RelV p.1 u → ∃ as, Reads s.heap u (encP p.2 (if h : p ∈ ps then (hq p h).choose else 0)) as
    rw [dif_pos h]
    exact (hq p h).choose_spec
  obtain ⟨len, hlen⟩ := hl2
  have ev := each_vals (fun p : V × List Nat => p.1) rv
  have er : EachIs (fun u (p : V × List Nat) => ∃ as, Reads s.heap u (encP p.2 (len p)) as) its ps := by
    have key : ∀ (zs : List (V × List Nat)) (us : List Value), (∀ p ∈ zs, p ∈ ps) → EachIs (fun u (p : V × List Nat) => RelV p.1 u) us zs → EachIs (fun u (p : V × List Nat) => ∃ as, Reads s.heap u (encP p.2 (len p)) as) us zs := by
      intro zs us hm ez
      induction ez with
      | nil => exact .nil
      | cons r t ih => exact .cons (hlen _ (hm _ List.mem_cons_self) _ r) (ih fun p hp => hm p (List.mem_cons_of_mem _ hp))
    exact key ps its (fun _ h => h) ev
  have hal : AllAlike (ps.map fun p => encP p.2 (len p)) := by
    intro d hd d' hd'
    obtain ⟨p, _, rfl⟩ := List.mem_map.mp hd
    obtain ⟨p', _, rfl⟩ := List.mem_map.mp hd'
    exact encP_alike _ _ _ _
  have dep : ∀ (l : List Nat), PyData.depthAll (l.map fun n : Nat => PyData.int (n : Int)) ≤ 1 := by
    intro l
    induction l with
    | nil => simp [PyData.depthAll]
    | cons a l ih => simp [PyData.depthAll, PyData.depth]; omega
  refine sorted_data (R := fun u (p : V × List Nat) => RelV p.1 u) (enc := fun p : V × List Nat => encP p.2 (len p)) hl.isList ev er hal (.inl fun d hd => ?_) (by rw [List.length_map] at hz; exact hz) (fun p hp => ?_) fun out ho eo => ?_
  · obtain ⟨p, _, rfl⟩ := List.mem_map.mp hd
    exact ⟨_, _, rfl⟩
  · have := dep p.2
    have : (encP p.2 (len p)).depth ≤ 8 := by
      simp [encP, PyData.depth, PyData.depthAll]
      omega
    omega
  have rz := vals_each (fun p : V × List Nat => p.1) eo
  have pm := List.mergeSort_perm ps (dataLe false fun p : V × List Nat => encP p.2 (len p))
  obtain ⟨ep, he'⟩ := PyProof.Rows.sortedAll_at s.heap its out.toArray
  refine ⟨.ref (s.heap.objs.size + 1), _, I.laid (t' := s.toks) (o := .lst ((ps.mergeSort (dataLe false fun p : V × List Nat => encP p.2 (len p))).map (·.1))) (fun _ _ => PyProof.Rows.sortedAll_old) (Nat.le_succ _) ⟨?_, out, ep, rz, he'⟩, rfl, q _ _ pm (I.hok.fresh (Nat.le_succ _))⟩
  rw [List.length_map, pm.length_eq]
  rw [List.length_map] at hz
  exact hz
end
end Ev
end
section
/-! itertools.permutations over a tuple of one or two items -/
namespace Ev
open PySem PySem.Spec
open Sem (wp)
abbrev PT : String := "itertools.permutations"
theorem pm_mro : mroOf (.type PT) = pure [.type PT, .type "object"] := by
  rw [mroOf_type]; kernel_rfl
theorem pm_new : typeLookup (.type PT) "__new__" = pure (some (.builtin "itertools.permutations.__new__")) := by
  rw [typeLookup_type, builtinLookup_eq_fast]; kernel_rfl
theorem pm_sub : isSubtype (.type PT) (.type PT) = pure true := by
  rw [isSubtype_type]; kernel_rfl
theorem pm_init : Slot PT "__init__" "object.__init__" := by
  refine .of (owner := "object") (n := "__init__") ?a ?b ?c ?d ?e ?f
  case a => rw [typeLookup_type, builtinLookup_eq_fast]; kernel_rfl
  case b => decide +kernel
  case c => decide +kernel
  case d => decide +kernel
  case e => first | exact .inl (by decide +kernel) | exact .inr (by decide +kernel)
  case f => rw [isSubtype_type]; kernel_rfl
theorem pm_called : TypeCalled PT "itertools.permutations.__new__" "object.__init__" := by
  refine ⟨?a, ?b, ⟨_, _, pm_mro⟩, madeBy_type pm_mro pm_new ?c, ?d, pm_sub, pm_init⟩
  all_goals decide +kernel
theorem pm_typeCall (a : Value) : checkTypeCall PT ⟨[a], []⟩ = pure () := by kernel_rfl
theorem pm_newCall (a : Value) : checkBuiltinCall "itertools.permutations.__new__" ⟨[.type PT, a], []⟩ = pure () := by kernel_rfl
theorem pm_entry_new : entryFor table "itertools.permutations.__new__" = some Builtin.«itertools.permutations.__new__» := entryFor_of_tree (by kernel_rfl)
theorem pm_slot_iter : Slot PT "__iter__" "itertools.permutations.__iter__" := by
  refine .of (owner := PT) (n := "__iter__") ?a ?b ?c ?d ?e pm_sub
  case a => rw [typeLookup_type, builtinLookup_eq_fast]; kernel_rfl
  case e => first | exact .inl (by decide +kernel) | exact .inr (by decide +kernel)
  all_goals decide +kernel
theorem pm_slot_next : Slot PT "__next__" "itertools.permutations.__next__" := by
  refine .of (owner := PT) (n := "__next__") ?a ?b ?c ?d ?e pm_sub
  case a => rw [typeLookup_type, builtinLookup_eq_fast]; kernel_rfl
  case e => first | exact .inl (by decide +kernel) | exact .inr (by decide +kernel)
  all_goals decide +kernel
theorem pm_entry_iter : entryFor table "itertools.permutations.__iter__" = some Builtin.«dict_keyiterator.__iter__» := by
  refine entryFor_alias (id' := "dict_keyiterator.__iter__") (by kernel_rfl) ?s (by decide +kernel) (by kernel_rfl)
  case s => first | rfl | decide +kernel | (unfold String.splitOn; simp +decide [String.splitOnAux])
theorem pm_entry_next : entryFor table "itertools.permutations.__next__" = some Builtin.«itertools.permutations.__next__» := entryFor_of_tree (by kernel_rfl)
abbrev pmO : List Char := ['s', 'n', 'o', 'i', 't', 'a', 't', 'u', 'm', 'r', 'e', 'p', '.', 's', 'l', 'o', 'o', 't', 'r', 'e', 't', 'i']
theorem pm_owner : Manifest.owners.lookup (String.ofList pmO.reverse) = some Manifest.sig_itertools_permutations := by kernel_rfl
theorem pm_args_iter (a : Value) : argsOk "itertools.permutations.__iter__" ⟨[a], []⟩ := by
  unfold argsOk
  rw [signature?_of (id := "itertools.permutations.__iter__") (n := "__iter__".toList.reverse) (o := pmO) (by kernel_rfl) pm_owner]; kernel_rfl
theorem pm_args_next (a : Value) : argsOk "itertools.permutations.__next__" ⟨[a], []⟩ := by
  unfold argsOk
  rw [signature?_of (id := "itertools.permutations.__next__") (n := "__next__".toList.reverse) (o := pmO) (by kernel_rfl) pm_owner]; kernel_rfl
theorem pm_noDict : typeHasDict (.type PT) = false := by decide +kernel
end Ev
end
section
namespace Ev
open PySem PySem.Spec
open Sem (wp)
/-- the pool; the object: the pool, whether it began, how many, what was given out last, the numbers -/
abbrev PmP (vs : Array Value) : Obj := { cls := .type "tuple", data := .seq vs }
abbrev PmR (pool : Addr) (st n : Int) (last : Value) (ns : Array Value) : Obj := { cls := .type PT, dict := none, data := .fields (#[.ref pool, .int st 0, .int n 0, last] ++ ns), slots := #[] }
section
variable {prog : Program} {w : World} {A : Around} {E : Value → Shared → Prop} {s : Shared}
theorem pm_cls (a : Value) : Builtin.Itertools.itClassAndRest "permutations" ⟨[.type PT, a], []⟩ = pure (.type PT, [a]) := by
  have e : ("itertools." ++ "permutations" : String) = PT := by decide
  unfold Builtin.Itertools.itClassAndRest
  show (isSubtype (.type PT) (.type ("itertools." ++ "permutations")) >>= _) = _
  rw [e, pm_sub]
  rfl
theorem pm_bind (a : Value) : Builtin.Itertools.itBindNamed "permutations" ["iterable", "r"] 1 2 [a] [] = pure [some a, none] := by
  kernel_rfl
theorem pm_new1 (t : Addr) (o : Obj) (a : Value) (k : Nat) (hc : o.cls = .type "tuple") (hd : o.data = .seq #[a] k) :
    Meets (Builtin.«itertools.permutations.__new__» ⟨[.type PT, .ref t], []⟩)
      (fun _ R s => s.heap.get? t = some o ∧ ∀ h' : Heap, (∀ b o', s.heap.get? b = some o' → h'.get? b = some o') →
        R (.ok (.ret (.ref (h'.push (PmP #[a])).objs.size))) { s with heap := (h'.push (PmP #[a])).push (PmR h'.objs.size 0 1 .none #[.int 0 0, .int 1 0]) }) :=
  .of_wp fun prog w A R s h => by
    obtain ⟨ht, h⟩ := h
    have hdi := pm_noDict
    show wpAny _ _ (Builtin.Itertools.itClassAndRest "permutations" _ >>= _) _ _ s
    refine wpAny_bind (wpAny_of_eq (pm_cls _) ?_)
    show wpAny _ _ (Builtin.Itertools.itBindNamed "permutations" ["iterable", "r"] 1 2 [.ref t] [] >>= _) _ _ s
    refine wpAny_bind (wpAny_of_eq (pm_bind _) ?_)
    show wpAny _ _ (collect (.ref t) >>= _) _ _ s
    refine wpAny_bind (wpAny_collect_seq t (.inr rfl) ht hc hd fun h' hk => ?_)
    refine wpAny_bind (wpAny_pure ?_)
    show wpAny _ _ (if _ then _ else _) _ _ _
    refine wpAny_ite_false rfl ?_
    refine wpAny_bind (wpAny_newObj_type ?_)
    refine wpAny_bind ?_
    unfold Builtin.Itertools.itNewRecord
    rw [hdi]
    refine wpAny_ite_true rfl ?_
    refine wpAny_newObj_type ?g ?z
    case z => exact (show (6 : Nat) ≤ sizeLine + 2 by decide)
    case g => exact wpAny_pure ⟨_, rfl, h h' hk⟩
theorem pm_new2 (t : Addr) (o : Obj) (a b : Value) (k : Nat) (hc : o.cls = .type "tuple") (hd : o.data = .seq #[a, b] k) :
    Meets (Builtin.«itertools.permutations.__new__» ⟨[.type PT, .ref t], []⟩)
      (fun _ R s => s.heap.get? t = some o ∧ ∀ h' : Heap, (∀ b o', s.heap.get? b = some o' → h'.get? b = some o') →
        R (.ok (.ret (.ref (h'.push (PmP #[a, b])).objs.size))) { s with heap := (h'.push (PmP #[a, b])).push (PmR h'.objs.size 0 2 .none #[.int 0 0, .int 1 0, .int 2 0, .int 1 0]) }) :=
  .of_wp fun prog w A R s h => by
    obtain ⟨ht, h⟩ := h
    have hdi := pm_noDict
    show wpAny _ _ (Builtin.Itertools.itClassAndRest "permutations" _ >>= _) _ _ s
    refine wpAny_bind (wpAny_of_eq (pm_cls _) ?_)
    show wpAny _ _ (Builtin.Itertools.itBindNamed "permutations" ["iterable", "r"] 1 2 [.ref t] [] >>= _) _ _ s
    refine wpAny_bind (wpAny_of_eq (pm_bind _) ?_)
    show wpAny _ _ (collect (.ref t) >>= _) _ _ s
    refine wpAny_bind (wpAny_collect_seq t (.inr rfl) ht hc hd fun h' hk => ?_)
    refine wpAny_bind (wpAny_pure ?_)
    show wpAny _ _ (if _ then _ else _) _ _ _
    refine wpAny_ite_false rfl ?_
    refine wpAny_bind (wpAny_newObj_type ?_)
    refine wpAny_bind ?_
    unfold Builtin.Itertools.itNewRecord
    rw [hdi]
    refine wpAny_ite_true rfl ?_
    refine wpAny_newObj_type ?g ?z
    case z => exact (show (8 : Nat) ≤ sizeLine + 2 by decide)
    case g => exact wpAny_pure ⟨_, rfl, h h' hk⟩
theorem pm_call1 {t : Addr} {o : Obj} {a : Value} {k : Nat} {Q : Value → Shared → Prop} (ht : s.heap.get? t = some o) (hc : o.cls = .type "tuple") (hd : o.data = .seq #[a] k)
    (h : ∀ h' : Heap, (∀ b o', s.heap.get? b = some o' → h'.get? b = some o') → Q (.ref (h'.push (PmP #[a])).objs.size) { s with heap := (h'.push (PmP #[a])).push (PmR h'.objs.size 0 1 .none #[.int 0 0, .int 1 0]) }) :
    wpAny (model prog w) A (call (.type PT) [.ref t]) Q E s := by
  refine callType_new pm_called (by decide +kernel) (pm_typeCall _) (pm_newCall _) (fun obj => F.args_object_init_2 obj _) pm_entry_new (pm_new1 t o a k hc hd) ⟨ht, fun h' hk => ?_⟩
  exact ⟨⟨_, Heap.get?_push_size _ rfl, rfl⟩, h h' hk⟩
theorem pm_call2 {t : Addr} {o : Obj} {a b : Value} {k : Nat} {Q : Value → Shared → Prop} (ht : s.heap.get? t = some o) (hc : o.cls = .type "tuple") (hd : o.data = .seq #[a, b] k)
    (h : ∀ h' : Heap, (∀ b o', s.heap.get? b = some o' → h'.get? b = some o') → Q (.ref (h'.push (PmP #[a, b])).objs.size) { s with heap := (h'.push (PmP #[a, b])).push (PmR h'.objs.size 0 2 .none #[.int 0 0, .int 1 0, .int 2 0, .int 1 0]) }) :
    wpAny (model prog w) A (call (.type PT) [.ref t]) Q E s := by
  refine callType_new pm_called (by decide +kernel) (pm_typeCall _) (pm_newCall _) (fun obj => F.args_object_init_2 obj _) pm_entry_new (pm_new2 t o a b k hc hd) ⟨ht, fun h' hk => ?_⟩
  exact ⟨⟨_, Heap.get?_push_size _ rfl, rfl⟩, h h' hk⟩
theorem pm_iter {it pool : Addr} {st n : Int} {last : Value} {ns : Array Value} {Q : Value → Shared → Prop} (hit : s.heap.get? it = some (PmR pool st n last ns)) (h : Q (.ref it) s) : wpAny (model prog w) A (pyIter (.ref it)) Q E s := by
  have hT : s.TypeIs (.ref it) PT := ⟨_, hit, rfl⟩
  refine wpAny_pyIter_slot hT pm_slot_iter (wpAny_call_entry pm_slot_iter hT pm_entry_iter ?_ (pm_args_iter _))
  show wpAny _ _ (ret (.ref it)) _ _ s
  exact wpAny_pure ⟨_, rfl, PT, _, hT, pm_slot_next.lookup, h⟩
/-- behind a turn: the object turned, a new tuple at the heap's end -/
def PmGo (h h' : Heap) (it T : Addr) (u : Array Value) (o : Obj) : Prop := T = h.objs.size ∧ h'.get? T = some (PmP u) ∧ h'.get? it = some o ∧ ∀ b ob, b ≠ it → h.get? b = some ob → h'.get? b = some ob
theorem pm_heap {h : Heap} {it : Addr} {o0 : Obj} {f g : Obj → Obj} {u : Array Value} (h0 : h.get? it = some o0) (e1 : (f o0).isFreed = false) (e2 : (g (f o0)).isFreed = false) :
    PmGo h (((h.update it f).push (PmP u)).update it g) it (h.update it f).objs.size u (g (f o0)) := by
  have hT := Heap.size_after_update h it f
  have lt := Heap.lt_size h0
  have ne : it ≠ (h.update it f).objs.size := by rw [hT]; exact Nat.ne_of_lt lt
  refine ⟨hT, Heap.get?_update_of_ne g ne (Heap.get?_push_size _ rfl), Heap.get?_update_self g (Heap.get?_push_of_some _ (Heap.get?_update_self f h0 e1)) e2, fun b ob hb e => ?_⟩
  exact Heap.get?_update_of_ne g (Ne.symm hb) (Heap.get?_push_of_some _ (Heap.get?_update_of_ne f (Ne.symm hb) e))
theorem pm_item11 {it pool : Addr} {a last : Value} {Q : Option Value → Shared → Prop} (hit : s.heap.get? it = some (PmR pool 0 1 last #[.int 0 0, .int 1 0])) (hp : s.heap.get? pool = some (PmP #[a]))
    (hQ : ∀ h' T, PmGo s.heap h' it T #[a] (PmR pool 1 1 (.ref T) #[.int 0 0, .int 1 0]) → Q (some (.ref T)) { s with heap := h' }) : wpAny (model prog w) A (pyNext (.ref it)) Q E s := by
  have hT : s.TypeIs (.ref it) PT := ⟨_, hit, rfl⟩
  unfold pyNext
  refine wpAny_bind (wpAny_attempt (wpAny_callSpecial?_slot (name := Str.ofString "__next__") hT pm_slot_next (wpAny_call_entry pm_slot_next hT pm_entry_next ?_ (pm_args_next _))))
  repeat wp_step
  exact ⟨_, rfl, wpAny_pure (hQ _ _ (pm_heap hit rfl rfl))⟩
theorem pm_item21 {it pool : Addr} {a b last : Value} {Q : Option Value → Shared → Prop} (hit : s.heap.get? it = some (PmR pool 0 2 last #[.int 0 0, .int 1 0, .int 2 0, .int 1 0])) (hp : s.heap.get? pool = some (PmP #[a, b]))
    (hQ : ∀ h' T, PmGo s.heap h' it T #[a, b] (PmR pool 1 2 (.ref T) #[.int 0 0, .int 1 0, .int 2 0, .int 1 0]) → Q (some (.ref T)) { s with heap := h' }) : wpAny (model prog w) A (pyNext (.ref it)) Q E s := by
  have hT : s.TypeIs (.ref it) PT := ⟨_, hit, rfl⟩
  unfold pyNext
  refine wpAny_bind (wpAny_attempt (wpAny_callSpecial?_slot (name := Str.ofString "__next__") hT pm_slot_next (wpAny_call_entry pm_slot_next hT pm_entry_next ?_ (pm_args_next _))))
  repeat wp_step
  exact ⟨_, rfl, wpAny_pure (hQ _ _ (pm_heap hit rfl rfl))⟩
end
end Ev
end
section
namespace Ev
open PySem PySem.Spec
section
variable {prog : Program} {w : World} {A : Around} {E : Value → Shared → Prop} {s : Shared}
theorem pm_item22 {it pool : Addr} {a b last : Value} {Q : Option Value → Shared → Prop} (hit : s.heap.get? it = some (PmR pool 1 2 last #[.int 0 0, .int 1 0, .int 2 0, .int 1 0])) (hp : s.heap.get? pool = some (PmP #[a, b]))
    (hQ : ∀ h' T, PmGo s.heap h' it T #[b, a] (PmR pool 1 2 (.ref T) #[.int 1 0, .int 0 0, .int 1 0, .int 1 0]) → Q (some (.ref T)) { s with heap := h' }) : wpAny (model prog w) A (pyNext (.ref it)) Q E s := by
  have hT : s.TypeIs (.ref it) PT := ⟨_, hit, rfl⟩
  unfold pyNext
  refine wpAny_bind (wpAny_attempt (wpAny_callSpecial?_slot (name := Str.ofString "__next__") hT pm_slot_next (wpAny_call_entry pm_slot_next hT pm_entry_next ?_ (pm_args_next _))))
  show wpAny _ _ (field (.ref it) 0 >>= _) _ _ s
  refine wpAny_bind (wpAny_field hit rfl (x := .ref pool) rfl ?_)
  show wpAny _ _ (Builtin.Itertools.itPoolItems (.ref pool) >>= _) _ _ s
  refine wpAny_bind (wpAny_bind (wpAny_seqItems hp rfl (wpAny_pure ?_)))
  show wpAny _ _ (Builtin.Itertools.itIntField (.ref it) 2 >>= _) _ _ s
  refine wpAny_bind (wpAny_bind (wpAny_field hit rfl (x := .int 2 0) rfl (wpAny_pure ?_)))
  show wpAny _ _ (Builtin.Itertools.itNumbersFrom (.ref it) 4 >>= _) _ _ s
  refine wpAny_bind (wpAny_bind (wpAny_load hit (wpAny_pure ?_)))
  show wpAny _ _ (Builtin.Itertools.itIntField (.ref it) 1 >>= _) _ _ s
  refine wpAny_bind (wpAny_bind (wpAny_field hit rfl (x := .int 1 0) rfl (wpAny_pure ?_)))
  show wpAny _ _ (Builtin.Itertools.itSetNumbersFrom (.ref it) 4 ([1, 0] ++ [1, 1]) >>= _) _ _ s
  refine wpAny_bind (wpAny_updateFields hit rfl ?_ (show (8 : Nat) ≤ sizeLine + 3 by decide))
  show wpAny _ _ (newTuple [b, a] >>= _) _ _ _
  refine wpAny_bind (wpAny_newObj_type ?_ (show (2 : Nat) ≤ sizeLine by decide))
  show wpAny _ _ (field (.ref it) 3 >>= _) _ _ _
  have h1 := Heap.get?_update_self (Obj.mapFields fun fs => fs.extract 0 4 ++ (([1, 0] ++ [1, 1] : List Nat).map fun (n : Nat) => rawInt n).toArray) hit rfl
  refine wpAny_bind (wpAny_field (Heap.get?_push_of_some _ h1) rfl (x := last) rfl ?_)
  refine wpAny_bind (wpAny_setField (Heap.get?_push_of_some _ h1) rfl (show 3 < 8 by decide) ?_)
  refine wpAny_bind (wpAny_letGo (wpAny_pure ?_))
  exact ⟨_, rfl, wpAny_pure (hQ _ _ (pm_heap hit rfl rfl))⟩
theorem pm_stop {it : Addr} {o : Obj} {Q : Option Value → Shared → Prop} {h0 : Heap} {h1 : Heap} (hh : A.handled = none) (hk : ∀ b ob, b ≠ it → h0.get? b = some ob → h1.get? b = some ob)
    (hQ : ∀ h', (∀ b ob, b ≠ it → h0.get? b = some ob → h'.get? b = some ob) → Q none { s with heap := h' }) {F : Fin → Shared → Prop} :
    wpAny (model prog w) A.in1 (Builtin.Itertools.itStop (α := Fin)) F (fun e s' => wpAny (model prog w) A (match (Except.error e : Except Value (Option Value)) with
        | Except.ok (some v) => pure (some v)
        | Except.ok none => unsupported "iter:the-iterator's-class-has-lost-its-__next__-amid-the-walk"
        | Except.error e => do
          if ← isInstance e (.type "StopIteration") then pure none else throw e) Q E s') { s with heap := h1 } := by
  show wpAny _ _ (newExc (.type "StopIteration") [] >>= _) _ _ _
  refine wpAny_bind ?_
  simp only [newExc, newTuple]
  refine wpAny_bind (wpAny_newObj_type ?_ (by size_fits))
  refine wpAny_bind (m := firstArgMember _ _) (wpAny_of_eq (a := Value.none) (by first | rfl | (simp only [firstArgMember]; rfl)) ?_)
  refine wpAny_newObj_type ?_ (by size_fits)
  simp only [raiseNew]
  refine wpAny_bind (wpAny_handled ?_)
  rw [show A.in1.handled = none from hh]
  refine wpAny_bind (wpAny_pure (wpAny_throw ?_))
  refine wpAny_bind (wpAny_isInstance (T := "StopIteration") (b := true) ⟨_, Heap.get?_push_size _ rfl, rfl⟩ isSubtype_stop ?_)
  refine wpAny_pure (hQ _ fun b ob hb e => ?_)
  exact Heap.get?_push_of_some _ (Heap.get?_push_of_some _ (hk b ob hb e))
theorem pm_end1 {it pool : Addr} {a last : Value} {Q : Option Value → Shared → Prop} (hh : A.handled = none) (hit : s.heap.get? it = some (PmR pool 1 1 last #[.int 0 0, .int 1 0])) (hp : s.heap.get? pool = some (PmP #[a]))
    (hQ : ∀ h', (∀ b ob, b ≠ it → s.heap.get? b = some ob → h'.get? b = some ob) → Q none { s with heap := h' }) : wpAny (model prog w) A (pyNext (.ref it)) Q E s := by
  have hT : s.TypeIs (.ref it) PT := ⟨_, hit, rfl⟩
  unfold pyNext
  refine wpAny_bind (wpAny_attempt (wpAny_callSpecial?_slot (name := Str.ofString "__next__") hT pm_slot_next (wpAny_call_entry pm_slot_next hT pm_entry_next ?_ (pm_args_next _))))
  show wpAny _ _ (field (.ref it) 0 >>= _) _ _ s
  refine wpAny_bind (wpAny_field hit rfl (x := .ref pool) rfl ?_)
  show wpAny _ _ (Builtin.Itertools.itPoolItems (.ref pool) >>= _) _ _ s
  refine wpAny_bind (wpAny_bind (wpAny_seqItems hp rfl (wpAny_pure ?_)))
  show wpAny _ _ (Builtin.Itertools.itIntField (.ref it) 2 >>= _) _ _ s
  refine wpAny_bind (wpAny_bind (wpAny_field hit rfl (x := .int 1 0) rfl (wpAny_pure ?_)))
  show wpAny _ _ (Builtin.Itertools.itNumbersFrom (.ref it) 4 >>= _) _ _ s
  refine wpAny_bind (wpAny_bind (wpAny_load hit (wpAny_pure ?_)))
  show wpAny _ _ (Builtin.Itertools.itIntField (.ref it) 1 >>= _) _ _ s
  refine wpAny_bind (wpAny_bind (wpAny_field hit rfl (x := .int 1 0) rfl (wpAny_pure ?_)))
  show wpAny _ _ (setField (.ref it) 1 (rawInt 2) >>= _) _ _ s
  refine wpAny_bind (wpAny_setField hit rfl (show 1 < 6 by decide) ?_)
  exact pm_stop (it := it) (o := PmP #[]) hh (fun b ob hb e => Heap.get?_update_of_ne _ (Ne.symm hb) e) hQ
theorem pm_end2 {it pool : Addr} {a b last : Value} {Q : Option Value → Shared → Prop} (hh : A.handled = none) (hit : s.heap.get? it = some (PmR pool 1 2 last #[.int 1 0, .int 0 0, .int 1 0, .int 1 0])) (hp : s.heap.get? pool = some (PmP #[a, b]))
    (hQ : ∀ h', (∀ b ob, b ≠ it → s.heap.get? b = some ob → h'.get? b = some ob) → Q none { s with heap := h' }) : wpAny (model prog w) A (pyNext (.ref it)) Q E s := by
  have hT : s.TypeIs (.ref it) PT := ⟨_, hit, rfl⟩
  unfold pyNext
  refine wpAny_bind (wpAny_attempt (wpAny_callSpecial?_slot (name := Str.ofString "__next__") hT pm_slot_next (wpAny_call_entry pm_slot_next hT pm_entry_next ?_ (pm_args_next _))))
  show wpAny _ _ (field (.ref it) 0 >>= _) _ _ s
  refine wpAny_bind (wpAny_field hit rfl (x := .ref pool) rfl ?_)
  show wpAny _ _ (Builtin.Itertools.itPoolItems (.ref pool) >>= _) _ _ s
  refine wpAny_bind (wpAny_bind (wpAny_seqItems hp rfl (wpAny_pure ?_)))
  show wpAny _ _ (Builtin.Itertools.itIntField (.ref it) 2 >>= _) _ _ s
  refine wpAny_bind (wpAny_bind (wpAny_field hit rfl (x := .int 2 0) rfl (wpAny_pure ?_)))
  show wpAny _ _ (Builtin.Itertools.itNumbersFrom (.ref it) 4 >>= _) _ _ s
  refine wpAny_bind (wpAny_bind (wpAny_load hit (wpAny_pure ?_)))
  show wpAny _ _ (Builtin.Itertools.itIntField (.ref it) 1 >>= _) _ _ s
  refine wpAny_bind (wpAny_bind (wpAny_field hit rfl (x := .int 1 0) rfl (wpAny_pure ?_)))
  show wpAny _ _ (setField (.ref it) 1 (rawInt 2) >>= _) _ _ s
  refine wpAny_bind (wpAny_setField hit rfl (show 1 < 8 by decide) ?_)
  exact pm_stop (it := it) (o := PmP #[]) hh (fun b ob hb e => Heap.get?_update_of_ne _ (Ne.symm hb) e) hQ
end
end Ev
end
section
namespace Ev
open PySem PySem.Spec PyProof.Rows L2
/-! for order in permutations(t), t of one or two items -/
def perms : List V → List (List V)
  | [x] => [[x]]
  | [x, y] => [[x, y], [y, x]]
  | _ => []
def Itp (xs : List V) : It :=
  ⟨fun i _ => i < (perms xs).length, fun i H v H' => ∃ T ys, (perms xs)[i]? = some ys ∧ v = .ref T ∧ H T = none ∧ H' = upd H T (.tup ys), fun i _ => (perms xs).length ≤ i⟩
def pmSt1 (pool : Addr) (i : Nat) (last : Value) : Obj := if i = 0 then PmR pool 0 1 last #[.int 0 0, .int 1 0] else PmR pool 1 1 last #[.int 0 0, .int 1 0]
def pmSt2 (pool : Addr) (i : Nat) (last : Value) : Obj := if i = 0 then PmR pool 0 2 last #[.int 0 0, .int 1 0, .int 2 0, .int 1 0] else if i = 1 then PmR pool 1 2 last #[.int 0 0, .int 1 0, .int 2 0, .int 1 0] else PmR pool 1 2 last #[.int 1 0, .int 0 0, .int 1 0, .int 1 0]
theorem pm_turned {X : Cx} {pins : List (Addr × Obj)} {σ : L2.St} {H : Hp} {s : Shared} {E : Value → Shared → Prop} {tg : Expr} {it pool T : Addr} {h' : Heap} {us : List Value} {ys : List V} {o : Obj} {n : String} {fs : Array Value} {R : V → Hp → Shared → Prop} (I : Inv X pins σ H s)
    (hf : ∀ b ∈ [it, pool], FpOk X pins H b) (hi : ∃ o, s.heap.get? it = some o) (hp : ∃ o, s.heap.get? pool = some o) (g : PmGo s.heap h' it T us.toArray o) (rv : Vals ys us) (hz : ys.length ≤ sizeLine) (hc : o.cls = .type n) (hd : o.data = .fields fs)
    (hn : ["enumerate", "zip", "dict_itemiterator", "dict_reverseitemiterator", "odict_iterator", "itertools.zip_longest", "itertools.pairwise"].contains n = false)
    (k : ∀ s2, s2.heap = h' → Inv X pins σ (upd H T (.tup ys)) s2 → H T = none → (∀ b ∈ [it, pool], (upd H T (.tup ys)) b = none) → R (.ref T) (upd H T (.tup ys)) s2) :
    wpAny (model X.prog X.w) X.A (letOwnedTupleGo tg (.ref it) (.ref T)) (fun _ s2 => ∃ x H', RelV x (.ref T) ∧ R x H' s2) E { s with heap := h' } := by
  obtain ⟨eT, hT, ho, hk⟩ := g
  subst eT
  have fit := hf it (by simp)
  have new : ObjOk X.prog X.w (upd H s.heap.objs.size (.tup ys)) h' s.heap.objs.size (.tup ys) := ⟨hz, us, rv, ⟨_, hT, rfl, _, rfl⟩⟩
  have I1 : Inv X pins σ (upd H s.heap.objs.size (.tup ys)) { s with heap := h' } :=
    I.turnedNew (t' := s.toks) (ch := [it]) (fun b ob hb q => hk b ob (fun z => hb (by simp [z])) q) (fun b hb => by
      have : b = it := by simpa using hb
      rw [this]
      exact fit) (Nat.le_refl _) new
  refine go_of (s := { s with heap := h' }) ho hc hd hn ⟨.ref s.heap.objs.size, _, rfl, k _ rfl I1 (I.hok.fresh (Nat.le_refl _)) fun b hb => ?_⟩
  have lt : b < s.heap.objs.size := by
    have e' : b = it ∨ b = pool := by simpa using hb
    obtain ⟨o1, h1⟩ := hi
    obtain ⟨o2, h2⟩ := hp
    rcases e' with z | z
    · rw [z]; exact Heap.lt_size h1
    · rw [z]; exact Heap.lt_size h2
  rw [upd_ne (Nat.ne_of_lt lt)]
  exact (hf b hb).1
theorem turn_perm1 {P : Program} {w : World} {K : PySem.W.Frag} {tg : Expr} (it pool : Addr) (hne : pool ≠ it) (x : V) (u : Value) (rx : RelV x u) :
    Turn P w K tg (Itp [x]) [it, pool] it (fun i h => h.get? pool = some (PmP #[u]) ∧ ∃ last, h.get? it = some (pmSt1 pool i last)) where
  mem := by simp
  obj := fun i h st b hb => by
    obtain ⟨hp, last, hi⟩ := st
    have e' : b = it ∨ b = pool := by simpa using hb
    rcases e' with z | z
    · rw [z]
      refine ⟨_, hi, fun v q => ?_⟩
      unfold pmSt1 at q
      split at q <;> cases q
    · rw [z]; exact ⟨_, hp, fun v q => nomatch q⟩
  keep := fun i h h' st k => let ⟨hp, last, hi⟩ := st; ⟨k pool (by simp) _ hp, last, k it (by simp) _ hi⟩
  item := by
    intro X hP hw hK hc i pins s σ H E I hf st hg
    subst hP hw hK
    obtain ⟨hp, last, hi⟩ := st
    have hi0 : i = 0 := by
      have : i < 1 := hg
      omega
    subst hi0
    refine pm_item11 (a := u) (last := last) hi hp fun h' T g => ⟨_, rfl, ?_⟩
    refine thn (pm_turned (R := fun x' H' s2 => Inv X pins σ H' s2 ∧ (Itp [x]).yld 0 H x' H' ∧ (s2.heap.get? pool = some (PmP #[u]) ∧ ∃ last, s2.heap.get? it = some (pmSt1 pool 1 last)) ∧ ∀ b ∈ [it, pool], H' b = none) I hf ⟨_, hi⟩ ⟨_, hp⟩ (us := [u]) g (.cons rx .nil) (by show 1 ≤ sizeLine; decide) rfl rfl (by decide)
      (fun s2 e I2 hT hb => ?_)) fun _ s2 ⟨x', H', r, I2, y, t, b⟩ => ⟨x', H', I2, r, y, t, b⟩
    refine ⟨I2, ⟨T, [x], rfl, rfl, hT, rfl⟩, ?_, hb⟩
    rw [e]
    exact ⟨g.2.2.2 pool _ hne hp, _, g.2.2.1⟩
  done := by
    intro X hP hw hK hc i pins s σ H E I hf st hg
    subst hP hw hK
    obtain ⟨hp, last, hi⟩ := st
    have h1 : ¬ i = 0 := by
      have : 1 ≤ i := hg
      omega
    unfold pmSt1 at hi
    rw [if_neg h1] at hi
    obtain ⟨f0, f1, f2, f3, f4, f5⟩ := hf it (by simp)
    exact pm_end1 (I.ok.hd hc) hi hp fun h' hk => ⟨rfl, I.turned (t' := s.toks) (fun b o hb e => hk b o hb e) f0 f1 f3 f4 f5⟩
  self := fun A i s Q E st h => by
    obtain ⟨hp, last, hi⟩ := st
    unfold pmSt1 at hi
    split at hi
    · exact pm_iter hi h
    · exact pm_iter hi h
theorem turn_perm2 {P : Program} {w : World} {K : PySem.W.Frag} {tg : Expr} (it pool : Addr) (hne : pool ≠ it) (x y : V) (u v : Value) (rx : RelV x u) (ry : RelV y v) :
    Turn P w K tg (Itp [x, y]) [it, pool] it (fun i h => h.get? pool = some (PmP #[u, v]) ∧ ∃ last, h.get? it = some (pmSt2 pool i last)) where
  mem := by simp
  obj := fun i h st b hb => by
    obtain ⟨hp, last, hi⟩ := st
    have e' : b = it ∨ b = pool := by simpa using hb
    rcases e' with z | z
    · rw [z]
      refine ⟨_, hi, fun v q => ?_⟩
      unfold pmSt2 at q
      split at q
      · cases q
      · split at q <;> cases q
    · rw [z]; exact ⟨_, hp, fun v q => nomatch q⟩
  keep := fun i h h' st k => let ⟨hp, last, hi⟩ := st; ⟨k pool (by simp) _ hp, last, k it (by simp) _ hi⟩
  item := by
    intro X hP hw hK hc i pins s σ H E I hf st hg
    subst hP hw hK
    obtain ⟨hp, last, hi⟩ := st
    have hi2 : i = 0 ∨ i = 1 := by
      have : i < 2 := hg
      omega
    rcases hi2 with rfl | rfl
    · refine pm_item21 (a := u) (b := v) (last := last) hi hp fun h' T g => ⟨_, rfl, ?_⟩
      refine thn (pm_turned (R := fun x' H' s2 => Inv X pins σ H' s2 ∧ (Itp [x, y]).yld 0 H x' H' ∧ (s2.heap.get? pool = some (PmP #[u, v]) ∧ ∃ last, s2.heap.get? it = some (pmSt2 pool 1 last)) ∧ ∀ b ∈ [it, pool], H' b = none) I hf ⟨_, hi⟩ ⟨_, hp⟩ (us := [u, v]) g (.cons rx (.cons ry .nil)) (by show 2 ≤ sizeLine; decide) rfl rfl (by decide)
        (fun s2 e I2 hT hb => ?_)) fun _ s2 ⟨x', H', r, I2, y, t, b⟩ => ⟨x', H', I2, r, y, t, b⟩
      refine ⟨I2, ⟨T, [x, y], rfl, rfl, hT, rfl⟩, ?_, hb⟩
      rw [e]
      exact ⟨g.2.2.2 pool _ hne hp, _, g.2.2.1⟩
    · refine pm_item22 (a := u) (b := v) (last := last) hi hp fun h' T g => ⟨_, rfl, ?_⟩
      refine thn (pm_turned (R := fun x' H' s2 => Inv X pins σ H' s2 ∧ (Itp [x, y]).yld 1 H x' H' ∧ (s2.heap.get? pool = some (PmP #[u, v]) ∧ ∃ last, s2.heap.get? it = some (pmSt2 pool 2 last)) ∧ ∀ b ∈ [it, pool], H' b = none) I hf ⟨_, hi⟩ ⟨_, hp⟩ (us := [v, u]) g (.cons ry (.cons rx .nil)) (by show 2 ≤ sizeLine; decide) rfl rfl (by decide)
        (fun s2 e I2 hT hb => ?_)) fun _ s2 ⟨x', H', r, I2, y, t, b⟩ => ⟨x', H', I2, r, y, t, b⟩
      refine ⟨I2, ⟨T, [y, x], rfl, rfl, hT, rfl⟩, ?_, hb⟩
      rw [e]
      exact ⟨g.2.2.2 pool _ hne hp, _, g.2.2.1⟩
  done := by
    intro X hP hw hK hc i pins s σ H E I hf st hg
    subst hP hw hK
    obtain ⟨hp, last, hi⟩ := st
    have hl : 2 ≤ i := hg
    unfold pmSt2 at hi
    rw [if_neg (by omega), if_neg (by omega)] at hi
    obtain ⟨f0, f1, f2, f3, f4, f5⟩ := hf it (by simp)
    exact pm_end2 (I.ok.hd hc) hi hp fun h' hk => ⟨rfl, I.turned (t' := s.toks) (fun b o hb e => hk b o hb e) f0 f1 f3 f4 f5⟩
  self := fun A i s Q E st h => by
    obtain ⟨hp, last, hi⟩ := st
    unfold pmSt2 at hi
    split at hi
    · exact pm_iter hi h
    · split at hi
      · exact pm_iter hi h
      · exact pm_iter hi h
def iPerm (K : PySem.W.Frag) (ta : TA) : TI := fun σ H R => ta σ H fun vs H1 => ∃ a xs, vs = [.ref a] ∧ SqT K H1 a xs ∧ (xs.length = 1 ∨ xs.length = 2) ∧ R (Itp xs) H1
theorem pi_perm {X : Cx} {tg e : Expr} {ta : TA} {p pos : Pos} (hg : Gl X "permutations") (hm : X.mg "permutations" = some (.type PT)) (ha : PA X [e] ta) (hs : starEach [e] X.env = [(false, eval e X.env)] := by rfl) :
    PI X tg (.Call (.Name "permutations" p) [e] [] pos) (iPerm X.K ta) := by
  refine ⟨fun pins s σ H R I h => ?_⟩
  refine Call_ (ld_glob I hg hm (PyProof.Rows.callWith_type1 (thn (ha.run pos pins s σ H _ I h) fun us s1 ⟨vs, H1, I1, r1, q1⟩ => ?_) hs rfl))
  obtain ⟨a, xs, e, hq, hl, q⟩ := q1
  subst e
  cases r1 with
  | cons r rr =>
    cases rr
    cases r
    obtain ⟨its, rv, ⟨o, ho, hc, k, hd⟩, _⟩ := I1.tuple hq
    rcases hl with hl | hl
    · obtain ⟨x, rfl⟩ : ∃ x, xs = [x] := by
        match xs, hl with
        | [x], _ => exact ⟨x, rfl⟩
      obtain ⟨u, rfl, rx⟩ := Vals.one rv
      refine pm_call1 ho hc hd fun h' hk => ?_
      have I' : Inv X pins σ H1 { s1 with heap := h' } := I1.kept (t' := s1.toks) hk
      have hk2 : ∀ b ob, s1.heap.get? b = some ob → ((h'.push (PmP #[u])).push (PmR h'.objs.size 0 1 .none #[.int 0 0, .int 1 0])).get? b = some ob := fun b ob e => Heap.get?_push_of_some _ (Heap.get?_push_of_some _ (hk b ob e))
      have I2 : Inv X pins σ H1 { s1 with heap := (h'.push (PmP #[u])).push (PmR h'.objs.size 0 1 .none #[.int 0 0, .int 1 0]) } := I1.kept (t' := s1.toks) hk2
      have sz : (h'.push (PmP #[u])).objs.size = h'.objs.size + 1 := Heap.size_push _ _
      have gi : ((h'.push (PmP #[u])).push (PmR h'.objs.size 0 1 .none #[.int 0 0, .int 1 0])).get? (h'.push (PmP #[u])).objs.size = some (PmR h'.objs.size 0 1 .none #[.int 0 0, .int 1 0]) := Heap.get?_push_size _ rfl
      have gp : ((h'.push (PmP #[u])).push (PmR h'.objs.size 0 1 .none #[.int 0 0, .int 1 0])).get? h'.objs.size = some (PmP #[u]) := Heap.get?_push_of_some _ (Heap.get?_push_size _ rfl)
      refine pm_iter gi ?_
      have hne : h'.objs.size ≠ (h'.push (PmP #[u])).objs.size := by rw [sz]; exact Nat.ne_of_lt (Nat.lt_succ_self _)
      refine ⟨_, [(h'.push (PmP #[u])).objs.size, h'.objs.size], _, _, H1, rfl, I2, turn_perm1 _ _ hne x u rx, ⟨gp, _, gi⟩, fun b hb => ?_, q⟩
      have hle : h'.objs.size ≤ b := by
        have e' : b = (h'.push (PmP #[u])).objs.size ∨ b = h'.objs.size := by simpa using hb
        rcases e' with z | z
        · rw [z, sz]; exact Nat.le_succ _
        · rw [z]; exact Nat.le_refl _
      exact I'.fpOk hle (I'.hok.fresh hle)
    · obtain ⟨x, y, rfl⟩ : ∃ x y, xs = [x, y] := by
        match xs, hl with
        | [x, y], _ => exact ⟨x, y, rfl⟩
      obtain ⟨u, v, rfl, rx, ry⟩ := Vals.two rv
      refine pm_call2 ho hc hd fun h' hk => ?_
      have I' : Inv X pins σ H1 { s1 with heap := h' } := I1.kept (t' := s1.toks) hk
      have hk2 : ∀ b ob, s1.heap.get? b = some ob → ((h'.push (PmP #[u, v])).push (PmR h'.objs.size 0 2 .none #[.int 0 0, .int 1 0, .int 2 0, .int 1 0])).get? b = some ob := fun b ob e => Heap.get?_push_of_some _ (Heap.get?_push_of_some _ (hk b ob e))
      have I2 : Inv X pins σ H1 { s1 with heap := (h'.push (PmP #[u, v])).push (PmR h'.objs.size 0 2 .none #[.int 0 0, .int 1 0, .int 2 0, .int 1 0]) } := I1.kept (t' := s1.toks) hk2
      have sz : (h'.push (PmP #[u, v])).objs.size = h'.objs.size + 1 := Heap.size_push _ _
      have gi : ((h'.push (PmP #[u, v])).push (PmR h'.objs.size 0 2 .none #[.int 0 0, .int 1 0, .int 2 0, .int 1 0])).get? (h'.push (PmP #[u, v])).objs.size = some (PmR h'.objs.size 0 2 .none #[.int 0 0, .int 1 0, .int 2 0, .int 1 0]) := Heap.get?_push_size _ rfl
      have gp : ((h'.push (PmP #[u, v])).push (PmR h'.objs.size 0 2 .none #[.int 0 0, .int 1 0, .int 2 0, .int 1 0])).get? h'.objs.size = some (PmP #[u, v]) := Heap.get?_push_of_some _ (Heap.get?_push_size _ rfl)
      refine pm_iter gi ?_
      have hne : h'.objs.size ≠ (h'.push (PmP #[u, v])).objs.size := by rw [sz]; exact Nat.ne_of_lt (Nat.lt_succ_self _)
      refine ⟨_, [(h'.push (PmP #[u, v])).objs.size, h'.objs.size], _, _, H1, rfl, I2, turn_perm2 _ _ hne x y u v rx ry, ⟨gp, _, gi⟩, fun b hb => ?_, q⟩
      have hle : h'.objs.size ≤ b := by
        have e' : b = (h'.push (PmP #[u, v])).objs.size ∨ b = h'.objs.size := by simpa using hb
        rcases e' with z | z
        · rw [z, sz]; exact Nat.le_succ _
        · rw [z]; exact Nat.le_refl _
      exact I'.fpOk hle (I'.hok.fresh hle)
theorem kpi_perm {X : Cx} {K : PySem.W.Frag} {tg e : Expr} {ta : TA} {p pos : Pos} (eK : X.K = K) (hg : Gl X "permutations") (hm : X.mg "permutations" = some (.type PT)) (ha : PA X [e] ta) (hs : starEach [e] X.env = [(false, eval e X.env)] := by rfl) :
    PI X tg (.Call (.Name "permutations" p) [e] [] pos) (iPerm K ta) := eK ▸ pi_perm hg hm ha hs
/-- the loop -/
theorem for_perm {xs : List V} {g : TG} {tb : TS} {D : Ends} {σ : L2.St} {H : Hp} (Pv : Nat → L2.St → Hp → Prop) (h0 : Pv 0 σ H)
    (hs : ∀ i ys T σ H, (perms xs)[i]? = some ys → Pv i σ H → H T = none → g (.ref T) σ (upd H T (.tup ys)) fun σ2 H2 => tb { D with nx := Pv (i + 1), ct := Pv (i + 1), bk := D.nx } σ2 H2) (hd : ∀ σ H, Pv (perms xs).length σ H → D.nx σ H) :
    ∃ W : Nat → Nat → L2.St → Hp → Prop, (∃ m, W 0 m σ H) ∧ ∀ i m σ H, W i m σ H →
      ((Itp xs).stop i H ∧ D.nx σ H) ∨ ((Itp xs).go i H ∧ ∃ N : L2.St → Hp → Prop, (∀ σ' H', N σ' H' → ∃ m', m' < m ∧ W (i + 1) m' σ' H') ∧ ∀ x H', (Itp xs).yld i H x H' → g x σ H' fun σ2 H2 => tb { D with nx := N, ct := N, bk := D.nx } σ2 H2) := by
  refine ⟨fun i m σ H => m + i = (perms xs).length ∧ Pv i σ H, ⟨(perms xs).length, rfl, h0⟩, ?_⟩
  intro i m σ H hw
  obtain ⟨hm, hp⟩ := hw
  by_cases e : i < (perms xs).length
  · refine .inr ⟨e, Pv (i + 1), fun σ' H' q => ⟨m - 1, by omega, by omega, q⟩, ?_⟩
    intro x H' hy
    obtain ⟨T, ys, h1, rfl, h2, rfl⟩ := hy
    exact hs i ys T σ H h1 hp h2
  · have ei : i = (perms xs).length := by omega
    subst ei
    exact .inl ⟨Nat.le_refl _, hd σ H hp⟩
end Ev
end
section
namespace Ev
open PySem PySem.Spec PyProof.Rows L2
/-- [elt for a, b in zip(t, u)] over two tuples of one length -/
theorem lc_zipT {K : PySem.W.Frag} {a b : Addr} {xs ys : List V} {g : TG} {tt : TT} {te : TE} {vs : List Nat} {σ : L2.St} {H1 : Hp} {D : Addr} {Qd : Hp → Prop} (hl : xs.length = ys.length) (Pv : Nat → Hp → Prop) (h0 : Pv 0 (upd H1 D (.lst []))) (hq : ∀ i H, Pv i H → SqT K H a xs ∧ SqT K H b ys)
    (hs : ∀ (i : Nat) (x y : V) (T : Addr) (H : Hp), xs[i]? = some x → ys[i]? = some y → Pv i H → H T = none → g (.ref T) (wipe σ vs) (upd H T (.tup [x, y])) fun σ2 H2 => wipe σ2 vs = wipe σ vs ∧ tt σ2 H2 fun b H3 =>
      if b = true then te σ2 H3 fun y H4 => ∃ acc, H4 D = some (.lst acc) ∧ acc.length < sizeLine ∧ Pv (i + 1) (upd H4 D (.lst (acc ++ [y]))) else Pv (i + 1) H3) (hd : ∀ H, Pv xs.length H → Qd H) :
    ∃ W : Nat → Nat → Hp → Prop, (∃ m, W 0 m (upd H1 D (.lst []))) ∧ ∀ i m H, W i m H →
      ((RZ.ItzT K a b).stop i H ∧ Qd H) ∨ ((RZ.ItzT K a b).go i H ∧ ∃ Nx : Hp → Prop, (∀ H', Nx H' → ∃ m', m' < m ∧ W (i + 1) m' H') ∧ ∀ x H', (RZ.ItzT K a b).yld i H x H' → g x (wipe σ vs) H' fun σ2 H2 => wipe σ2 vs = wipe σ vs ∧ tt σ2 H2 fun b H3 =>
        if b = true then te σ2 H3 fun y H4 => ∃ acc, H4 D = some (.lst acc) ∧ acc.length < sizeLine ∧ Nx (upd H4 D (.lst (acc ++ [y]))) else Nx H3) := by
  refine ⟨fun i m H => m + i = xs.length ∧ Pv i H, ⟨xs.length, rfl, h0⟩, ?_⟩
  intro i m H hw
  obtain ⟨hm, hp⟩ := hw
  obtain ⟨qx, qy⟩ := hq i H hp
  by_cases e : i < xs.length
  · have hx : xs[i]? = some xs[i] := List.getElem?_eq_getElem e
    have hy : ys[i]? = some (ys[i]'(by omega)) := List.getElem?_eq_getElem (by omega)
    refine .inr ⟨⟨xs, ys, _, _, qx, qy, hx, hy⟩, Pv (i + 1), fun H' q => ⟨m - 1, by omega, by omega, q⟩, ?_⟩
    intro v H' hv
    obtain ⟨T, x, y, rfl, hT, rfl, kx, ky⟩ := hv
    exact hs i x y T H (kx xs qx) (ky ys qy) hp hT
  · have ei : i = xs.length := by omega
    subst ei
    exact .inl ⟨⟨xs, ys, qx, qy, .inl (Nat.le_refl _)⟩, hd H hp⟩
/-- the pairings by their second stand -/
def permsN : List Nat → List (List Nat)
  | [x] => [[x]]
  | [x, y] => [[x, y], [y, x]]
  | _ => []
theorem perms_map {t : List Nat} (h : t.length = 1 ∨ t.length = 2) : perms (t.map nV) = (permsN t).map fun u => u.map nV := by
  match t, h with
  | [x], _ => rfl
  | [x, y], _ => rfl
/-- the steps of a pairing -/
def stepsOf (m : Mx) (s u : List Nat) : List (Option Nat) := List.zipWith m s u
def okStep (reach : Nat) (o : Option Nat) : Bool := match o with
  | none => false
  | some d => decide (d ≤ reach)
def Good (m : Mx) (reach : Nat) (s u : List Nat) : Prop := (stepsOf m s u).all (okStep reach) = true
theorem all_some {reach : Nat} : ∀ {os : List (Option Nat)}, os.all (okStep reach) = true → ∃ ns : List Nat, os = ns.map some
  | [], _ => ⟨[], rfl⟩
  | none :: os, h => by simp [okStep] at h
  | some d :: os, h => by
    rw [List.all_cons, Bool.and_eq_true] at h
    obtain ⟨ns, e⟩ := all_some h.2
    exact ⟨d :: ns, by rw [e]; rfl⟩
theorem good_iff {m : Mx} {reach : Nat} : ∀ {s u : List Nat}, s.length = u.length → (Good m reach s u ↔ ∀ (k x y : Nat), s[k]? = some x → u[k]? = some y → ∃ d, m x y = some d ∧ d ≤ reach)
  | [], [], _ => ⟨fun _ k x y h => (by cases h), fun _ => rfl⟩
  | a :: s, b :: u, h => by
    have ih := good_iff (m := m) (reach := reach) (s := s) (u := u) (by simpa using h)
    unfold Good stepsOf at ih ⊢
    rw [List.zipWith_cons_cons, List.all_cons, Bool.and_eq_true, ih]
    constructor
    · intro ⟨h1, h2⟩ k x y hx hy
      cases k with
      | zero =>
        injection hx with hx
        injection hy with hy
        subst hx
        subst hy
        unfold okStep at h1
        cases e : m a b with
        | none => rw [e] at h1; cases h1
        | some d => rw [e] at h1; exact ⟨d, rfl, of_decide_eq_true h1⟩
      | succ k => exact h2 k x y hx hy
    · intro q
      refine ⟨?_, fun k x y hx hy => q (k + 1) x y hx hy⟩
      obtain ⟨d, e, l⟩ := q 0 a b rfl rfl
      unfold okStep
      rw [e]
      exact decide_eq_true l
theorem nat_ints (ns : List Nat) : ns.map nV = (ns.map fun n : Nat => (n : Int)).map V.int := by rw [List.map_map]; rfl
theorem nat_sum : ∀ ns : List Nat, (ns.map fun n : Nat => (n : Int)).sum = ((ns.sum : Nat) : Int)
  | [] => rfl
  | n :: ns => by
    rw [List.map_cons, List.sum_cons, nat_sum ns, List.sum_cons]
    omega
end Ev
end
section
namespace Ev
open PySem L2
variable {P : Program} {w : World} {K : PySem.W.Frag} {mg : Str → Option Value} {base : Heap}

/-! ### is_within -/
def spWithin : Sp := fun vs H Q _ => ∃ x lo hi : Int, vs = [.int x, .int lo, .int hi] ∧ Q (.bl (decide (lo ≤ x) && decide (x ≤ hi))) H
theorem scWithin : FnScope ["value", "low", "high"] ["value", "low", "high"] (C8.fnScope sWithin) := ⟨rfl, rfl, rfl, by decide +kernel, rfl, by decide +kernel, by decide +kernel⟩
theorem ok_is_within {f : Addr} {fd : FuncData} (F : C8.Def K mg "is_within" sWithin f fd) (b : Binds K fd ["value", "low", "high"] []) (T : Txt K mg) : C8.Cal P w K mg base 1 "is_within" spWithin [] := by
  refine C8.cal0 F b .nil scWithin (fun vs H Q E h => ?_) (fun cdv A outer s H vs Q E hr h => ?_)
  · obtain ⟨x, lo, hi, rfl, _⟩ := h
    rfl
  obtain ⟨x, lo, hi, rfl, k⟩ := h
  have nd := scWithin.nd
  refine ⟨_, (pss_one (ps_ret (pe_and (pe_callB (kcr_isi (K := K) rfl) (by rfl) T.n_isinstance bb_isinstance (pa_cons (pv 0) (pa_cons (pe_bltn (v := .ty "int") (by rfl) T.n_int bb_int rfl) pa_nil))) (pe_and (pe_not (pe_callB (kcr_isi (K := K) rfl) (by rfl) T.n_isinstance bb_isinstance (pa_cons (pv 0) (pa_cons (pe_bltn (v := .ty "bool") (by rfl) T.n_bool bb_bool rfl) pa_nil)))) (pe_one (pe_chain op_le op_le (pv 1) (pv 0) (pv 2))))))), ?_⟩
  refine ⟨_, rfl, _, _, _, _, true, rfl, .ty _, .base (.int x), kit_ty (by decide +kernel), true, rfl, ?_⟩
  refine ⟨_, rfl, _, _, _, _, false, rfl, .ty _, .base (.int x), kit_ty (by decide +kernel), false, rfl, true, rfl, ?_⟩
  refine ⟨_, rfl, _, rfl, _, _, rfl, rfl, _, rfl, ?_⟩
  refine ite2 (fun c => ?_) (fun c => ?_)
  · refine ⟨_, rfl, _, _, rfl, rfl, ?_⟩
    rw [c] at k
    exact k
  · have c' : decide (lo ≤ x) = false := by simpa using c
    rw [c'] at k
    exact k
end Ev
end
section
namespace Ev
open PySem L2
variable {P : Program} {w : World} {K : PySem.W.Frag} {mg : Str → Option Value} {base : Heap}

/-! ### is_road -/
def spRoad : Sp := fun vs H Q _ => ∃ (n x y l : Nat) (v : V), vs = [nV n, v] ∧ TupN H v [x, y, l] ∧ x < y ∧ y < n ∧ 1 ≤ l ∧ l ≤ 9 ∧ Q (.bl true) H
theorem scRoad : FnScope ["places", "road", "first", "second", "length"] ["places", "road"] (C8.fnScope sIsRoad) := ⟨rfl, rfl, rfl, by decide +kernel, rfl, by decide +kernel, by decide +kernel⟩
theorem dand {a b : Prop} [Decidable a] [Decidable b] (ha : a) (hb : b) : (decide a && decide b) = true := by simp [ha, hb]
theorem ok_is_road {f : Addr} {fd : FuncData} (F : C8.Def K mg "is_road" sIsRoad f fd) (b : Binds K fd ["places", "road"] []) (T : Txt K mg) (c_is_within : C8.Cal P w K mg base 1 "is_within" spWithin []) : C8.Cal P w K mg base 2 "is_road" spRoad [] := by
  refine C8.cal0 F b .nil scRoad (fun vs H Q E h => ?_) (fun cdv A outer s H vs Q E hr h => ?_)
  · obtain ⟨n, x, y, l, v, rfl, _⟩ := h
    rfl
  obtain ⟨n, x, y, l, v, rfl, ⟨a, rfl, ha⟩, h1, h2, h3, h4, k⟩ := h
  have nd := scRoad.nd
  refine ⟨_, (pss_cons (ps_asg (pv 1) (kpg_tup (K := K) (n := 3) rfl rfl (pgs_cons (pg_name (i := 2) nd rfl (by first | exact .inl rfl | exact .inr rfl)) (pgs_cons (pg_name (i := 3) nd rfl (by first | exact .inl rfl | exact .inr rfl)) (pgs_cons (pg_name (i := 4) nd rfl (by first | exact .inl rfl | exact .inr rfl)) pgs_nil)))))
 (pss_cons (ps_if (PW.pt (pw_or (pt_not (pt_val (C8.pe_c c_is_within hr (by decide) rfl (pa_cons (pv 2) (pa_cons pe_int (pa_cons (pe_op op_sub (pv 0) pe_int) pa_nil)))) (by intro _; rfl))) (pw_or1 (pt_not (pt_val (C8.pe_c c_is_within hr (by decide) rfl (pa_cons (pv 3) (pa_cons pe_int (pa_cons (pe_op op_sub (pv 0) pe_int) pa_nil)))) (by intro _; rfl))))))
 (pss_one (ps_ret pe_bl))
 pss_nil)
 (pss_one (ps_ret (pe_and (pe_cmpR op_lt (pv 2) (pv 3) (nomark _)) (pe_one (C8.pe_c c_is_within hr (by decide) rfl (pa_cons (pv 4) (pa_cons pe_int (pa_cons (C8.pe_gc rfl T.cLONGEST) pa_nil)))))))))), ?_⟩
  refine ⟨_, rfl, a, _, rfl, SqT.of ha, rfl, _, _, rfl, _, _, rfl, _, _, rfl, rfl, ?_⟩
  refine ⟨_, rfl, _, rfl, _, _, rfl, rfl, _, _, _, rfl, _, rfl, ?_⟩
  rw [dand (show (0 : Int) ≤ (x : Int) by omega) (show (x : Int) ≤ (n : Int) - 1 by omega)]
  refine ⟨_, rfl, _, rfl, _, _, rfl, rfl, _, _, _, rfl, _, rfl, ?_⟩
  rw [dand (show (0 : Int) ≤ (y : Int) by omega) (show (y : Int) ≤ (n : Int) - 1 by omega)]
  refine ⟨_, rfl, _, rfl, _, _, rfl, rfl, _, rfl, ?_⟩
  rw [if_pos (decide_eq_true (show (x : Int) < (y : Int) by omega))]
  refine ⟨_, rfl, _, _, _, rfl, ?_⟩
  rw [dand (show (1 : Int) ≤ (l : Int) by omega) (show (l : Int) ≤ (9 : Int) by omega)]
  exact k

/-! ### check_town -/
def spCheck : Sp := fun vs H Q _ => ∃ (n : Nat) (rs : List Road) (v : V), vs = [v] ∧ TownV H v n rs ∧ Town n rs ∧ 1 ≤ n ∧ n ≤ 7 ∧ ∀ H', Same H H' → Q .non H'
theorem scCheck : FnScope ["town", "places", "roads", "at", "road"] ["town"] (C8.fnScope sCheck) := ⟨rfl, rfl, rfl, by decide +kernel, rfl, by decide +kernel, by decide +kernel⟩
theorem ok_check_town {f : Addr} {fd : FuncData} (F : C8.Def K mg "check_town" sCheck f fd) (b : Binds K fd ["town"] []) (T : Txt K mg) (c_is_within : C8.Cal P w K mg base 1 "is_within" spWithin []) (c_is_road : C8.Cal P w K mg base 2 "is_road" spRoad []) :
    C8.Cal P w K mg base 3 "check_town" spCheck [] := by
  refine C8.cal0 F b .nil scCheck (fun vs H Q E h => ?_) (fun cdv A outer s H vs Q E hr h => ?_)
  · obtain ⟨n, rs, v, rfl, _⟩ := h
    rfl
  obtain ⟨n, rs, v, rfl, ⟨a, r, rfl, ha, l, xs, rfl, hl, hx⟩, tw, h1, h7, k⟩ := h
  have nd := scCheck.nd
  refine ⟨_, (pss_cons (ps_asg (pv 0) (kpg_tup (K := K) (n := 2) rfl rfl (pgs_cons (pg_name (i := 1) nd rfl (by first | exact .inl rfl | exact .inr rfl)) (pgs_cons (pg_name (i := 2) nd rfl (by first | exact .inl rfl | exact .inr rfl)) pgs_nil))))
 (pss_cons (ps_if (pt_not (pt_val (C8.pe_c c_is_within hr (by decide) rfl (pa_cons (pv 1) (pa_cons pe_int (pa_cons (C8.pe_gc rfl T.cMOST) pa_nil)))) (by intro _; rfl)))
 (pss_one ps_never)
 pss_nil)
 (pss_one (ps_for PassesOwn.never rfl (kpi_enum (K := K) rfl (by rfl) T.n_enumerate (pa_cons (pv 2) pa_nil)) (kpg_tup (K := K) (n := 2) rfl rfl (pgs_cons (pg_name (i := 3) nd rfl (by first | exact .inl rfl | exact .inr rfl)) (pgs_cons (pg_name (i := 4) nd rfl (by first | exact .inl rfl | exact .inr rfl)) pgs_nil)))
 (pss_one (ps_if (PW.pt (pw_or (pt_not (pt_val (C8.pe_c c_is_road hr (by decide) rfl (pa_cons (pv 1) (pa_cons (pv 4) pa_nil))) (by intro _; rfl))) (pw_or1 (PW.pt (pw_and (pt_cmpR op_gt (pv 3) pe_int (nomark _)) (pw_and1 (pt_cmpR (kop_geT (K := K) rfl hr.units0) (pe_slice (ksl_tupA (K := K) rfl) (pe_ix (kix_list (K := K) rfl) (pv 2) (pe_op op_sub (pv 3) pe_int) (fun _ _ => rfl)) po_none (po_some pe_int)) (pe_slice (ksl_tupA (K := K) rfl) (pv 4) po_none (po_some pe_int)) (nomark _))))))))
 (pss_one ps_never)
 pss_nil)))))), ?_⟩
  refine ⟨_, rfl, a, _, rfl, SqT.of ha, rfl, _, _, rfl, _, _, rfl, rfl, ?_⟩
  refine ⟨_, rfl, _, _, _, rfl, _, rfl, ?_⟩
  rw [dand (show (1 : Int) ≤ (n : Int) by omega) (show (n : Int) ≤ (7 : Int) by omega)]
  refine ⟨_, rfl, l, xs, rfl, SqL.of hl, ?_⟩
  refine for_enum (K := K) (a := l) (xs := xs) (fun i σ H' => Same H H' ∧ ∃ x3 x4, σ = [some (.ref a), some (nV n), some (.ref l), x3, x4])
    ⟨Same.refl H, none, none, rfl⟩ (fun i σ H' _ q => q.1.seq (SqL.of hl)) ?_ ?_
  · rintro i x t σ H' hi ⟨s0, x3, x4, rfl⟩ ht
    have s1 := s0.add ht (.tup [.int (i : Nat), x])
    obtain ⟨y, hy, tx⟩ := Paired.at_ hx hi
    rw [List.getElem?_map] at hy
    obtain ⟨rd, hrd, rfl⟩ := Option.map_eq_some_iff.mp hy
    obtain ⟨p, rfl, hp⟩ := tx
    have hp1 := s1 _ _ hp
    have ok := tw.ok rd (List.mem_of_getElem? hrd)
    refine ⟨t, _, rfl, SqT.of upd_same, rfl, _, _, rfl, _, _, rfl, rfl, ?_⟩
    refine ⟨_, rfl, _, rfl, n, rd.1, rd.2.1, rd.2.2, _, rfl, ⟨p, rfl, hp1⟩, ok.1, ok.2.1, ok.2.2.1, ok.2.2.2, true, rfl, ?_⟩
    refine ⟨_, rfl, _, _, rfl, rfl, _, rfl, ?_⟩
    refine ite2 (fun c => ?_) (fun c => ?_)
    · have c' : 0 < i := by
        have := of_decide_eq_true c
        omega
      have hi' : i < xs.length := (List.getElem?_eq_some_iff.mp hi).1
      have hq : xs[i - 1]? = some xs[i - 1] := List.getElem?_eq_getElem (by omega)
      obtain ⟨y', hy', tx'⟩ := Paired.at_ hx hq
      rw [List.getElem?_map] at hy'
      obtain ⟨rd', hrd', rfl⟩ := Option.map_eq_some_iff.mp hy'
      obtain ⟨p', ep', hp'⟩ := tx'
      have hp1' := s1 _ _ hp'
      have as : rd'.1 < rd.1 ∨ (rd'.1 = rd.1 ∧ rd'.2.1 < rd.2.1) := by
        obtain ⟨j1, e1⟩ := List.getElem?_eq_some_iff.mp hrd
        obtain ⟨j2, e2⟩ := List.getElem?_eq_some_iff.mp hrd'
        have := List.pairwise_iff_getElem.mp tw.asc (i - 1) i j2 j1 (by omega)
        rw [e1, e2] at this
        exact this
      refine ⟨_, rfl, _, rfl, _, _, rfl, rfl, l, xs, (i : Int) - 1, .ref p', rfl, rfl, s1.seq (SqL.of hl), at_of (j := i - 1) (by omega) (by rw [hq, ep']), _, rfl, ?_⟩
      refine slT2 hp1' fun q1 hq1 => ?_
      have s2 := s1.add hq1 (.tup [nV rd'.1, nV rd'.2.1])
      refine ⟨_, rfl, _, rfl, slT2 (s2 _ _ hp) fun q2 hq2 => ?_⟩
      have s3 := s2.add hq2 (.tup [nV rd.1, nV rd.2.1])
      have z : decide ((rd.1 : Int) < (rd'.1 : Int) ∨ ((rd'.1 : Int) = (rd.1 : Int) ∧ (rd.2.1 : Int) ≤ (rd'.2.1 : Int))) = false := decide_eq_false (by omega)
      refine ⟨q1, q2, rd'.1, rd'.2.1, rd.1, rd.2.1, rfl, rfl, SqT.of (by rw [upd_ne (ne_of_none upd_same hq2)]; exact upd_same), SqT.of upd_same, _, rfl, ?_⟩
      rw [z]
      exact ⟨s3, _, _, rfl⟩
    · exact ⟨s1, _, _, rfl⟩
  · rintro σ H' ⟨s0, x3, x4, rfl⟩
    exact k H' s0
end Ev
end
section
namespace Ev
open PySem L2
variable {P : Program} {w : World} {K : PySem.W.Frag} {mg : Str → Option Value} {base : Heap}

/-! ### without_road -/
def spWithout : Sp := fun vs H Q _ => ∃ (n i : Nat) (rs : List Road) (v : V), vs = [v, nV i] ∧ TownV H v n rs ∧ rs.length ≤ 1000 ∧ ∀ v' H', Same H H' → TownV H' v' n (rs.eraseIdx i) → Q v' H'
theorem scWithout : FnScope ["town", "at"] ["town", "at"] (C8.fnScope sWithout) := ⟨rfl, rfl, rfl, by decide +kernel, rfl, by decide +kernel, by decide +kernel⟩
theorem ok_without_road {f : Addr} {fd : FuncData} (F : C8.Def K mg "without_road" sWithout f fd) (b : Binds K fd ["town", "at"] []) (T : Txt K mg) : C8.Cal P w K mg base 1 "without_road" spWithout [] := by
  refine C8.cal0 F b .nil scWithout (fun vs H Q E h => ?_) (fun cdv A outer s H vs Q E hr h => ?_)
  · obtain ⟨n, i, rs, v, rfl, _⟩ := h
    rfl
  obtain ⟨n, i, rs, v, rfl, ⟨a, r, rfl, ha, l, xs, rfl, hl, hx⟩, hz, k⟩ := h
  have nd := scWithout.nd
  have len := Paired.len hx
  rw [List.length_map] at len
  refine ⟨_, (pss_one (ps_ret (pe_tup (pa_cons (pe_ix (kix_tup (K := K) rfl) (pv 0) pe_int (fun _ _ => rfl)) (pa_cons (pe_op op_cat (pe_slice (ksl_list (K := K) rfl) (pe_ix (kix_tup (K := K) rfl) (pv 0) pe_int (fun _ _ => rfl)) po_none (po_some (pv 1))) (pe_slice (ksl_list (K := K) rfl) (pe_ix (kix_tup (K := K) rfl) (pv 0) pe_int (fun _ _ => rfl)) (po_some (pe_op op_add (pv 1) pe_int)) po_none)) pa_nil))))), ?_⟩
  refine ⟨_, rfl, a, _, 0, _, rfl, rfl, SqT.of ha, rfl, ?_⟩
  refine ⟨_, rfl, a, _, 1, _, rfl, rfl, SqT.of ha, rfl, _, rfl, _, rfl, l, xs, rfl, SqL.of hl, fun p hp => ?_⟩
  refine new_ind hp (upd _ p _) rfl fun H1 s1 e1 => ?_
  refine ⟨_, rfl, a, _, 1, _, rfl, rfl, SqT.of (s1 _ _ ha), rfl, _, rfl, _, _, rfl, rfl, _, rfl, l, xs, rfl, SqL.of (s1 _ _ hl), fun q hq => ?_⟩
  refine new_ind hq (upd _ q _) rfl fun H2 s2 e2 => ?_
  have ei : ((i : Int) + 1) = ((i + 1 : Nat) : Int) := by omega
  rw [cut_to] at e1
  rw [ei, cut_from] at e2
  refine ⟨p, q, _, _, rfl, rfl, s2 _ _ e1, e2, ?_, fun t ht => ?_⟩
  · rw [List.length_take, List.length_drop]
    exact short (by omega)
  refine new_ind ht (upd _ t _) rfl fun H3 s3 e3 => ?_
  refine ⟨by show 2 ≤ sizeLine; decide, fun u hu => ?_⟩
  refine new_ind hu (upd _ u _) rfl fun H4 s4 e4 => ?_
  have ss := ((s1.trans s2).trans s3).trans s4
  refine k _ _ ss ⟨u, .ref t, rfl, e4, t, _, rfl, s4 _ _ e3, ?_⟩
  rw [List.eraseIdx_eq_take_drop_succ, List.map_append, List.map_take, List.map_drop]
  have hx' := hx.mono ss.tup
  exact Paired.app (Paired.take_ _ hx') (Paired.drop_ _ hx')

/-! ### with_road -/
def spWith : Sp := fun vs H Q _ => ∃ (n : Nat) (rs : List Road) (rd : Road) (v u : V), vs = [v, u] ∧ TownV H v n rs ∧ TupN H u (rl rd) ∧ Town n rs ∧ rs.length ≤ 1000 ∧
  (rd.1 < rd.2.1 ∧ rd.2.1 < n ∧ 1 ≤ rd.2.2 ∧ rd.2.2 ≤ 9) ∧ (∀ s ∈ rs, ¬ (s.1 = rd.1 ∧ s.2.1 = rd.2.1)) ∧ ∀ v' H', Same H H' → TownV H' v' n (ins rs rd) → Q v' H'
theorem scWith : FnScope ["town", "road", "at", "places", "roads", "other", "number"] ["town", "road"] (C8.fnScope sWith) := ⟨rfl, rfl, rfl, by decide +kernel, rfl, by decide +kernel, by decide +kernel⟩
theorem lex2 {a b c d : Nat} : HT.lexLt [(a : Int), (b : Int)] [(c : Int), (d : Int)] = decide (a < c ∨ (a = c ∧ b < d)) := by
  rw [HT.lexLt_cons, HT.lexLt_cons, HT.lexLt_nil_nil]
  by_cases h1 : a = c
  · subst h1
    by_cases h2 : b = d
    · subst h2
      simp
    · have : ¬ (b : Int) = (d : Int) := by omega
      simp [this]
  · have : ¬ (a : Int) = (c : Int) := by omega
    simp [this, h1]
theorem two_ne {a b c d : Nat} (h : ¬ (a = c ∧ b = d)) : PyData.eqv (.tuple [.int (a : Int), .int (b : Int)]) (.tuple [.int (c : Int), .int (d : Int)]) = false := by
  apply Bool.eq_false_iff.mpr
  intro q
  simp [PyData.eqv, PyData.eqvAll] at q
  omega
theorem ok_with_road {f : Addr} {fd : FuncData} (F : C8.Def K mg "with_road" sWith f fd) (b : Binds K fd ["town", "road"] []) (T : Txt K mg) (c_is_road : C8.Cal P w K mg base 2 "is_road" spRoad []) : C8.Cal P w K mg base 3 "with_road" spWith [] := by
  refine C8.cal0 F b .nil scWith (fun vs H Q E h => ?_) (fun cdv A outer s H vs Q E hr h => ?_)
  · obtain ⟨n, rs, rd, v, u, rfl, _⟩ := h
    rfl
  obtain ⟨n, rs, rd, v, u, rfl, ⟨a, r, rfl, ha, l, xs, rfl, hl, hx⟩, ⟨c, rfl, hc⟩, tw, hz, ok, hno, k⟩ := h
  have nd := scWith.nd
  have len := Paired.len hx
  rw [List.length_map] at len
  refine ⟨_, (pss_cons (ps_asg (pv 0) (kpg_tup (K := K) (n := 2) rfl rfl (pgs_cons (pg_name (i := 3) nd rfl (by first | exact .inl rfl | exact .inr rfl)) (pgs_cons (pg_name (i := 4) nd rfl (by first | exact .inl rfl | exact .inr rfl)) pgs_nil))))
 (pss_cons (ps_if (pt_not (pt_val (pe_callB (kcr_all rfl (K := K) rfl) (by rfl) T.n_all bb_all (pa_cons (pe_lc (own := [("number", 6)]) rfl nd (kpi_tup (K := K) rfl (pv 1)) (blkOk_by (own := [("number", 6)]) (by kernel_rfl)) (fun _ _ _ _ _ => (pg_name (i := 6) nd rfl (by first | exact .inl rfl | exact .inr rfl))) (fun _ _ _ _ _ => pts_nil) (fun _ _ _ _ _ => (pe_and (pe_callB (kcr_isi (K := K) rfl) (by rfl) T.n_isinstance bb_isinstance (pa_cons (pv 6) (pa_cons (pe_bltn (v := .ty "int") (by rfl) T.n_int bb_int rfl) pa_nil))) (pe_one (pe_not (pe_callB (kcr_isi (K := K) rfl) (by rfl) T.n_isinstance bb_isinstance (pa_cons (pv 6) (pa_cons (pe_bltn (v := .ty "bool") (by rfl) T.n_bool bb_bool rfl) pa_nil)))))))) pa_nil)) (by intro _; rfl)))
 (pss_one ps_never)
 pss_nil)
 (pss_cons (ps_set (i := 2) nd rfl (by first | exact .inl rfl | exact .inr rfl) (pe_callB (kcr_len (K := K) rfl) (by rfl) T.n_len bb_len (pa_cons (pe_lc (own := [("other", 5)]) rfl nd (kpi_list (K := K) rfl (pv 4)) (blkOk_by (own := [("other", 5)]) (by kernel_rfl)) (fun _ _ _ _ _ => (pg_name (i := 5) nd rfl (by first | exact .inl rfl | exact .inr rfl))) (fun _ _ _ _ _ => (pts_one (pt_cmpR (kop_ltT (K := K) rfl hr.units0) (pe_slice (ksl_tupA (K := K) rfl) (pv 5) po_none (po_some pe_int)) (pe_slice (ksl_tupA (K := K) rfl) (pv 1) po_none (po_some pe_int)) (nomark _)))) (fun _ _ _ _ _ => (pv 5))) pa_nil)))
 (C8.pss_cut (ps_if (PW.pt (pw_or (pt_not (pt_val (C8.pe_c c_is_road hr (by decide) rfl (pa_cons (pv 3) (pa_cons (pv 1) pa_nil))) (by intro _; rfl))) (pw_or1 (PW.pt (pw_and (pt_cmpR op_lt (pv 2) (pe_callB (kcr_len (K := K) rfl) (by rfl) T.n_len bb_len (pa_cons (pv 4) pa_nil)) (nomark _)) (pw_and1 (pt_cmpR (kop_eqD (K := K) rfl hr.units) (pe_slice (ksl_tupA (K := K) rfl) (pe_ix (kix_list (K := K) rfl) (pv 4) (pv 2) (fun _ _ => rfl)) po_none (po_some pe_int)) (pe_slice (ksl_tupA (K := K) rfl) (pv 1) po_none (po_some pe_int)) (nomark _))))))))
 (pss_one ps_never)
 pss_nil)
 (pss_one (ps_ret (pe_tup (pa_cons (pv 3) (pa_cons (pe_op op_cat (pe_op op_cat (pe_slice (ksl_list (K := K) rfl) (pv 4) po_none (po_some (pv 2))) (pe_lst (pa_cons (pv 1) pa_nil))) (pe_slice (ksl_list (K := K) rfl) (pv 4) (po_some (pv 2)) po_none)) pa_nil))))))))), ?_⟩
  refine ⟨_, rfl, a, _, rfl, SqT.of ha, rfl, _, _, rfl, _, _, rfl, rfl, ?_⟩
  refine ⟨_, rfl, c, rfl, ⟨_, SqT.of hc⟩, fun D hD => ?_⟩
  refine lc_tup (K := K) (a := c) (xs := (rl rd).map nV) (fun i H' => Same H H' ∧ H' D = some (.lst ((List.replicate i true).map V.bl))) ⟨Same.new hD _, upd_same⟩ (fun i H' _ q => SqT.of (q.1 _ _ hc)) ?_ ?_
  · rintro i x H' hi ⟨s0, h0⟩
    have hx3 : ∃ z : Nat, x = nV z := by
      rw [List.getElem?_map] at hi
      obtain ⟨z, _, e⟩ := Option.map_eq_some_iff.mp hi
      exact ⟨z, e.symm⟩
    obtain ⟨z, rfl⟩ := hx3
    refine ⟨rfl, ?_⟩
    refine ⟨_, rfl, _, _, _, _, true, rfl, .ty _, .base (.int _), kit_ty (by decide +kernel), true, rfl, ?_⟩
    refine ⟨_, rfl, _, _, _, _, false, rfl, .ty _, .base (.int _), kit_ty (by decide +kernel), false, rfl, ?_⟩
    have hi3 : i < 3 := (List.getElem?_eq_some_iff.mp hi).1
    refine ⟨_, h0, by rw [List.length_map, List.length_replicate]; exact Nat.lt_of_lt_of_le hi3 (by decide), s0.put hD _, ?_⟩
    rw [upd_same, List.replicate_succ', List.map_append]
    rfl
  rintro H1 ⟨s1, h1⟩
  refine ⟨D, List.replicate 3 true, rfl, SqL.of h1, true, rfl, ?_⟩
  refine ⟨_, rfl, l, rfl, ⟨_, SqL.of (s1 _ _ hl)⟩, fun D2 hD2 => ?_⟩
  refine lc_list (K := K) (a := l) (xs := xs) (fun i H' => Same H1 H' ∧ ∃ ys : List V, H' D2 = some (.lst ys) ∧ ys.length = ((rs.take i).filter fun s => rlt s rd).length) ⟨Same.new hD2 _, [], upd_same, rfl⟩ (fun i H' _ q => SqL.of (q.1 _ _ (s1 _ _ hl))) ?_ ?_
  · rintro i x H' hi ⟨s2, ys, hys, hlen⟩
    obtain ⟨y, hy, tx⟩ := Paired.at_ hx hi
    rw [List.getElem?_map] at hy
    obtain ⟨sd, hsd, rfl⟩ := Option.map_eq_some_iff.mp hy
    obtain ⟨p, rfl, hp⟩ := tx
    have s12 := s1.trans s2
    have hi' : i < xs.length := (List.getElem?_eq_some_iff.mp hi).1
    refine ⟨rfl, ?_⟩
    refine ⟨_, rfl, _, rfl, slT2 (s12 _ _ hp) fun q1 hq1 => ?_⟩
    have s3 := s2.add hq1 (.tup [nV sd.1, nV sd.2.1])
    refine ⟨_, rfl, _, rfl, slT2 ((s1.trans s3) _ _ hc) fun q2 hq2 => ?_⟩
    have s4 := s3.add hq2 (.tup [nV rd.1, nV rd.2.1])
    have hys4 : (upd (upd H' q1 (.tup [nV sd.1, nV sd.2.1])) q2 (.tup [nV rd.1, nV rd.2.1])) D2 = some (.lst ys) := by
      rw [upd_ne, upd_ne (ne_of_none hys hq1)]
      · exact hys
      · exact ne_of_none (by rw [upd_ne (ne_of_none hys hq1)]; exact hys) hq2
    refine ⟨q1, q2, [(sd.1 : Int), (sd.2.1 : Int)], [(rd.1 : Int), (rd.2.1 : Int)], rfl, rfl, SqT.of (by rw [upd_ne (ne_of_none upd_same hq2)]; exact upd_same), SqT.of upd_same, _, rfl, ?_⟩
    rw [lex2]
    have tk : rs.take (i + 1) = rs.take i ++ [sd] := by
      rw [List.take_succ, hsd]
      rfl
    refine ite2 (fun c => ?_) (fun c => ?_)
    · refine ⟨_, rfl, ys, hys4, Nat.lt_of_le_of_lt (m := 1000) ?_ (by decide), s4.put hD2 _, _, upd_same, ?_⟩
      · have := List.length_filter_le (fun s => rlt s rd) (rs.take i)
        have := List.length_take_le i rs
        omega
      · rw [tk, List.filter_append, List.length_append, List.length_append, hlen]
        have : rlt sd rd = true := c
        rw [List.filter_cons, if_pos this]
        rfl
    · refine ⟨s4, ys, hys4, ?_⟩
      rw [tk, List.filter_append, List.length_append, hlen]
      have : rlt sd rd = false := Bool.eq_false_iff.mpr c
      rw [List.filter_cons, if_neg (by rw [this]; decide)]
      rfl
  rintro H2 ⟨s2, ys, hys, hlen⟩
  have hlen' : ys.length = place rs rd := by
    rw [hlen, List.take_of_length_le (by omega)]
    rfl
  have s12 := s1.trans s2
  refine ⟨_, ys, rfl, .inl (SqL.of hys), ?_⟩
  rw [hlen']
  refine ⟨fun σ' H' => Same H H' ∧ ∃ x5 x6, σ' = [some (.ref a), some (.ref c), some (nV (place rs rd)), some (nV n), some (.ref l), x5, x6], ?_, ?_⟩
  · refine ⟨_, rfl, _, rfl, n, rd.1, rd.2.1, rd.2.2, _, rfl, ⟨c, rfl, s12 _ _ hc⟩, ok.1, ok.2.1, ok.2.2.1, ok.2.2.2, true, rfl, ?_⟩
    refine ⟨_, rfl, _, rfl, l, xs, rfl, .inl (SqL.of (s12 _ _ hl)), _, _, rfl, rfl, _, rfl, ?_⟩
    refine ite2 (fun cc => ?_) (fun cc => ?_)
    · have hpl : place rs rd < rs.length := by
        have := of_decide_eq_true cc
        omega
      obtain ⟨sd, hsd⟩ : ∃ sd, rs[place rs rd]? = some sd := ⟨_, List.getElem?_eq_getElem hpl⟩
      obtain ⟨xv, hxv, p, rfl, hp⟩ := Paired.ofR hx (i := place rs rd) (y := rl sd) (by rw [List.getElem?_map, hsd]; rfl)
      refine ⟨_, rfl, _, rfl, l, xs, _, _, rfl, rfl, SqL.of (s12 _ _ hl), atI_nat hxv, _, rfl, slT2 (s12 _ _ hp) fun q1 hq1 => ?_⟩
      refine new_ind hq1 (upd _ q1 _) rfl fun H3 s3 e3 => ?_
      refine ⟨_, rfl, _, rfl, slT2 (s3 _ _ (s12 _ _ hc)) fun q2 hq2 => ?_⟩
      refine new_ind hq2 (upd _ q2 _) rfl fun H4 s4 e4 => ?_
      refine ⟨.tuple [.int (sd.1 : Int), .int (sd.2.1 : Int)], .tuple [.int (rd.1 : Int), .int (rd.2.1 : Int)], .tup (SqT.of (s4 _ _ e3)) (.cons (.int _) (.cons (.int _) .nil)),
        .tup (SqT.of e4) (.cons (.int _) (.cons (.int _) .nil)), rfl, rfl, _, rfl, ?_⟩
      rw [two_ne (hno sd (List.mem_of_getElem? hsd))]
      exact ⟨(s12.trans s3).trans s4, _, _, rfl⟩
    · exact ⟨s12, _, _, rfl⟩
  rintro σ' H' ⟨s5, x5, x6, rfl⟩
  refine ⟨_, rfl, _, rfl, _, rfl, _, rfl, l, xs, rfl, SqL.of (s5 _ _ hl), fun p1 h1 => ?_⟩
  refine new_ind h1 (upd _ p1 _) rfl fun H3 s3 e3 => ?_
  refine ⟨_, rfl, by show 1 ≤ sizeLine; decide, fun p2 h2 => ?_⟩
  refine new_ind h2 (upd _ p2 _) rfl fun H4 s4 e4 => ?_
  rw [cut_to] at e3
  refine ⟨p1, p2, _, _, rfl, rfl, s4 _ _ e3, e4, ?_, fun p3 h3 => ?_⟩
  · rw [List.length_take]
    exact short (by simp; omega)
  refine new_ind h3 (upd _ p3 _) rfl fun H5 s6 e5 => ?_
  refine ⟨_, rfl, _, rfl, _, rfl, l, xs, rfl, SqL.of (((s5.trans s3).trans s4).trans s6 |> fun z => z _ _ hl), fun p4 h4 => ?_⟩
  refine new_ind h4 (upd _ p4 _) rfl fun H6 s7 e6 => ?_
  rw [cut_from] at e6
  refine ⟨p3, p4, _, _, rfl, rfl, s7 _ _ e5, e6, ?_, fun p5 h5 => ?_⟩
  · rw [List.length_append, List.length_take, List.length_drop]
    exact short (by simp; omega)
  refine new_ind h5 (upd _ p5 _) rfl fun H7 s8 e7 => ?_
  refine ⟨by show 2 ≤ sizeLine; decide, fun p6 h6 => ?_⟩
  refine new_ind h6 (upd _ p6 _) rfl fun H8 s9 e8 => ?_
  have ss := (((((s5.trans s3).trans s4).trans s6).trans s7).trans s8).trans s9
  refine k _ _ ss ⟨p6, .ref p5, rfl, e8, p5, _, rfl, s9 _ _ e7, ?_⟩
  unfold ins
  have hx' := hx.mono ss.tup
  rw [List.append_assoc, List.map_append, List.map_take, List.map_cons, List.map_drop]
  exact Paired.app (Paired.take_ _ hx') (.cons ⟨c, rfl, ss _ _ hc⟩ (Paired.drop_ _ hx'))
end Ev
end
section
namespace Ev
open PySem L2
variable {P : Program} {w : World} {K : PySem.W.Frag} {mg : Str → Option Value} {base : Heap}

/-! ### ways -/
def spWays : Sp := fun vs H Q _ => ∃ (n : Nat) (rs : List Road) (v : V), vs = [v] ∧ TownV H v n rs ∧ Town n rs ∧ n ≤ 7 ∧ ∀ v' H' m, Same H H' → TblV H' v' n m → Tbl rs n m → Q v' H'
theorem scWays : FnScope ["town", "found", "middle", "places", "roads", "first", "second", "length", "through"] ["town"] (C8.fnScope sWays) := ⟨rfl, rfl, rfl, by decide +kernel, rfl, by decide +kernel, by decide +kernel⟩
theorem zadd (i : Nat) : (0 : Int) + (i : Int) = (i : Int) := Int.zero_add _
theorem ok_ways {f : Addr} {fd : FuncData} (F : C8.Def K mg "ways" sWays f fd) (b : Binds K fd ["town"] []) (T : Txt K mg) : C8.Cal P w K mg base 1 "ways" spWays [] := by
  refine C8.cal0 F b .nil scWays (fun vs H Q E h => ?_) (fun cdv A outer s H vs Q E hr h => ?_)
  · obtain ⟨n, rs, v, rfl, _⟩ := h
    rfl
  obtain ⟨n, rs, v, rfl, ⟨a, r, rfl, ha, l, xs, rfl, hl, hx⟩, tw, h7, k⟩ := h
  have nd := scWays.nd
  have len := Paired.len hx
  rw [List.length_map] at len
  refine ⟨_, (pss_cons (ps_asg (pv 0) (kpg_tup (K := K) (n := 2) rfl rfl (pgs_cons (pg_name (i := 3) nd rfl (by first | exact .inl rfl | exact .inr rfl)) (pgs_cons (pg_name (i := 4) nd rfl (by first | exact .inl rfl | exact .inr rfl)) pgs_nil))))
 (pss_cons (ps_setLc (i := 1) (own := [("first", 5)]) rfl nd rfl rfl (sw_true rfl rfl rfl (by kernel_rfl)) (pi_range1 (by rfl) T.n_range (pa_cons (pv 3) pa_nil)) (blkOk_by (own := [("first", 5)]) (by kernel_rfl)) (fun _ _ _ _ _ => (pg_name (i := 5) nd rfl (by first | exact .inl rfl | exact .inr rfl))) (fun _ _ _ _ _ => pts_nil) (fun _ _ _ _ _ => (pe_lc (own := [("second", 6)]) rfl nd (pi_range1 (by rfl) T.n_range (pa_cons (pv 3) pa_nil)) (blkOk_by (own := [("second", 6)]) (by kernel_rfl)) (fun _ _ _ _ _ => (pg_name (i := 6) nd rfl (by first | exact .inl rfl | exact .inr rfl))) (fun _ _ _ _ _ => pts_nil) (fun _ _ _ _ _ => (pe_ifExp (pt_cmpR op_eq (pv 5) (pv 6) (nomark _)) pe_int pe_non)))))
 (pss_cons (ps_for PassesOwn.never rfl (kpi_list (K := K) rfl (pv 4)) (kpg_tup (K := K) (n := 3) rfl rfl (pgs_cons (pg_name (i := 5) nd rfl (by first | exact .inl rfl | exact .inr rfl)) (pgs_cons (pg_name (i := 6) nd rfl (by first | exact .inl rfl | exact .inr rfl)) (pgs_cons (pg_name (i := 7) nd rfl (by first | exact .inl rfl | exact .inr rfl)) pgs_nil))))
 (pss_cons (ps_asg (pv 7) (pg_sub (pe_ix (kix_list (K := K) rfl) (pv 1) (pv 5) (fun _ _ => rfl)) (pv 6) set_list))
 (pss_one (ps_asg (pv 7) (pg_sub (pe_ix (kix_list (K := K) rfl) (pv 1) (pv 6) (fun _ _ => rfl)) (pv 5) set_list)))))
 (pss_cons (ps_for PassesOwn.never rfl (pi_range1 (by rfl) T.n_range (pa_cons (pv 3) pa_nil)) (pg_name (i := 2) nd rfl (by first | exact .inl rfl | exact .inr rfl))
 (pss_one (ps_for PassesOwn.never rfl (pi_range1 (by rfl) T.n_range (pa_cons (pv 3) pa_nil)) (pg_name (i := 5) nd rfl (by first | exact .inl rfl | exact .inr rfl))
 (pss_one (ps_for PassesOwn.never rfl (pi_range1 (by rfl) T.n_range (pa_cons (pv 3) pa_nil)) (pg_name (i := 6) nd rfl (by first | exact .inl rfl | exact .inr rfl))
 (pss_one (ps_if (PW.pt (pw_and (pt_cmpR op_notN (pe_ix (kix_list (K := K) rfl) (pe_ix (kix_list (K := K) rfl) (pv 1) (pv 5) (fun _ _ => rfl)) (pv 2) (fun _ _ => rfl)) pe_non (nomark _)) (pw_and1 (pt_cmpR op_notN (pe_ix (kix_list (K := K) rfl) (pe_ix (kix_list (K := K) rfl) (pv 1) (pv 2) (fun _ _ => rfl)) (pv 6) (fun _ _ => rfl)) pe_non (nomark _)))))
 (pss_cons (ps_set (i := 8) nd rfl (by first | exact .inl rfl | exact .inr rfl) (pe_op op_add (pe_ix (kix_list (K := K) rfl) (pe_ix (kix_list (K := K) rfl) (pv 1) (pv 5) (fun _ _ => rfl)) (pv 2) (fun _ _ => rfl)) (pe_ix (kix_list (K := K) rfl) (pe_ix (kix_list (K := K) rfl) (pv 1) (pv 2) (fun _ _ => rfl)) (pv 6) (fun _ _ => rfl))))
 (pss_one (ps_if (PW.pt (pw_or (pt_cmpR op_isN (pe_ix (kix_list (K := K) rfl) (pe_ix (kix_list (K := K) rfl) (pv 1) (pv 5) (fun _ _ => rfl)) (pv 6) (fun _ _ => rfl)) pe_non (nomark _)) (pw_or1 (pt_cmpR op_lt (pv 8) (pe_ix (kix_list (K := K) rfl) (pe_ix (kix_list (K := K) rfl) (pv 1) (pv 5) (fun _ _ => rfl)) (pv 6) (fun _ _ => rfl)) (nomark _)))))
 (pss_one (ps_asg (pv 8) (pg_sub (pe_ix (kix_list (K := K) rfl) (pv 1) (pv 5) (fun _ _ => rfl)) (pv 6) set_list)))
 pss_nil)))
 pss_nil)))))))
 (pss_one (ps_ret (pv 1))))))), ?_⟩
  refine ⟨_, rfl, a, _, rfl, SqT.of ha, rfl, _, _, rfl, _, _, rfl, rfl, ?_⟩
  refine ⟨_, rfl, (n : Int), rfl, by omega, by omega, fun D hD => ?_⟩
  refine lc_range (lo := 0) (n := n) (fun i H' => Same H H' ∧ ∃ as : List Addr, as.length = i ∧ as.Nodup ∧ ¬ D ∈ as ∧ H' D = some (.lst (as.map V.ref)) ∧ ∀ (j : Nat) (b : Addr), as[j]? = some b → H b = none ∧ H' b = some (.lst (rowV n (mx0 j))))
    ⟨Same.new hD _, [], rfl, .nil, by simp, upd_same, fun j b h => by simp at h⟩ ?_ ?_
  · rintro i H' hi ⟨s0, as, hlen, hnd, hout, hDl, hrow⟩
    rw [zadd]
    refine ⟨rfl, ?_⟩
    refine ⟨_, rfl, (n : Int), rfl, by omega, by omega, fun D2 hD2 => ?_⟩
    refine lc_range (lo := 0) (n := n) (fun j H2 => Same H' H2 ∧ H2 D2 = some (.lst ((List.range j).map fun x => oV (mx0 i x)))) ⟨Same.new hD2 _, upd_same⟩ ?_ ?_
    · rintro j H2 hj ⟨s2, h2⟩
      rw [zadd]
      refine ⟨rfl, ?_⟩
      have done : ∀ y : V, y = oV (mx0 i j) → ∃ acc, H2 D2 = some (.lst acc) ∧ acc.length < sizeLine ∧ Same H' (upd H2 D2 (.lst (acc ++ [y]))) ∧ (upd H2 D2 (.lst (acc ++ [y]))) D2 = some (.lst ((List.range (j + 1)).map fun x => oV (mx0 i x))) := by
        intro y e
        refine ⟨_, h2, by rw [List.length_map, List.length_range]; exact Nat.lt_of_lt_of_le hj (short (by omega)), s2.put hD2 _, ?_⟩
        rw [upd_same, List.range_succ, List.map_append, e]
        rfl
      refine ⟨_, rfl, _, rfl, rfl, _, rfl, ite_b (fun c => ?_) (fun c => ?_)⟩
      · have c' : V.int (i : Int) = V.int (j : Int) := of_decide_eq_true c
        injection c' with c'
        have e : i = j := by omega
        exact done _ (by simp [mx0, e, oV, nV])
      · have c' : ¬ V.int (i : Int) = V.int (j : Int) := of_decide_eq_false c
        have e : ¬ i = j := fun q => c' (by rw [q])
        exact done _ (by simp [mx0, e, oV])
    · rintro H2 ⟨s2, h2⟩
      have nDD : D ≠ D2 := ne_of_none hDl hD2
      refine ⟨_, s2 _ _ hDl, ?_, (s0.trans s2).put hD _, as ++ [D2], ?_, ?_, ?_, ?_, ?_⟩
      · rw [List.length_map, hlen]
        exact Nat.lt_of_lt_of_le hi (short (by omega))
      · rw [List.length_append, hlen]
        rfl
      · refine List.nodup_append.mpr ⟨hnd, by simp, fun x hx y hy => ?_⟩
        have : y = D2 := by simpa using hy
        subst this
        intro e
        subst e
        obtain ⟨j, hj⟩ := List.mem_iff_getElem?.mp hx
        rw [(hrow j x hj).2] at hD2
        cases hD2
      · intro q
        rcases List.mem_append.mp q with q | q
        · exact hout q
        · exact nDD (by simpa using q)
      · rw [upd_same, List.map_append]
        rfl
      · intro j b h
        by_cases hj : j < as.length
        · rw [List.getElem?_append_left hj] at h
          obtain ⟨z0, z⟩ := hrow j b h
          have nb : b ≠ D := fun e => hout (by rw [← e]; exact List.mem_of_getElem? h)
          exact ⟨z0, by rw [upd_ne nb]; exact s2 _ _ z⟩
        · have hj' : j = as.length := by
            have := (List.getElem?_eq_some_iff.mp h).1
            rw [List.length_append] at this
            simp at this
            omega
          rw [List.getElem?_append_right (by omega), hj', Nat.sub_self] at h
          have e : D2 = b := by simpa using h
          subst e
          refine ⟨s0.free hD2, ?_⟩
          rw [upd_ne nDD.symm, h2, hj', hlen]
          rfl
  rintro H1 ⟨s1, as, hlen, hnd, hout, hDl, hrow⟩
  have tab : TabAt H H1 D n as mx0 := ⟨hDl, hD, hlen, hnd, hout, hrow⟩
  refine ⟨_, rfl, l, rfl, ⟨_, SqL.of (s1 _ _ hl)⟩, ?_⟩
  refine for_list (K := K) (a := l) (xs := xs) (fun i σ H' => Same H H' ∧ ∃ m, TabAt H H' D n as m ∧ Ini rs n i m ∧ ∃ x2 x5 x6 x7 x8, σ = [some (.ref a), some (.ref D), x2, some (nV n), some (.ref l), x5, x6, x7, x8])
    ⟨s1, mx0, tab, ini_start, _, _, _, _, _, rfl⟩ (fun i σ H' _ q => SqL.of (q.1 _ _ hl)) ?_ ?_
  · rintro i x σ H' hi ⟨s2, m, t, I, x2, x5, x6, x7, x8, rfl⟩
    obtain ⟨y, hy, tx⟩ := Paired.at_ hx hi
    rw [List.getElem?_map] at hy
    obtain ⟨⟨p, q, z⟩, hrd, rfl⟩ := Option.map_eq_some_iff.mp hy
    obtain ⟨c, rfl, hc⟩ := tx
    have ok := tw.ok _ (List.mem_of_getElem? hrd)
    simp only at ok
    refine ⟨c, _, rfl, SqT.of (s2 _ _ hc), rfl, _, _, rfl, _, _, rfl, _, _, rfl, rfl, ?_⟩
    refine ⟨_, rfl, ?_⟩
    refine t.set (i := p) (j := q) (v := some z) s2 rfl rfl rfl (by omega) (by omega) fun H3 s3 t3 => ?_
    refine ⟨_, rfl, ?_⟩
    refine t3.set (i := q) (j := p) (v := some z) s3 rfl rfl rfl (by omega) (by omega) fun H4 s4 t4 => ?_
    exact ⟨s4, _, t4, I.step tw hrd, _, _, _, _, _, rfl⟩
  rintro σ H2 ⟨s2, m2, t2, I2, x2, x5, x6, x7, x8, rfl⟩
  rw [len] at I2
  refine ⟨_, rfl, (n : Int), rfl, by omega, by omega, ?_⟩
  refine for_range (lo := 0) (n := n) (fun kk σ H' => Same H H' ∧ ∃ m, TabAt H H' D n as m ∧ Snd rs m ∧ Bd rs n kk m ∧ ∃ x2 x5 x6 x7 x8, σ = [some (.ref a), some (.ref D), x2, some (nV n), some (.ref l), x5, x6, x7, x8])
    ⟨s2, m2, t2, I2.snd, I2.bd, _, _, _, _, _, rfl⟩ ?_ ?_
  · rintro kk σ H3 hk ⟨s3, m3, t3, sn3, bd3, x2, x5, x6, x7, x8, rfl⟩
    rw [zadd]
    refine ⟨_, rfl, (n : Int), rfl, by omega, by omega, ?_⟩
    refine for_range (lo := 0) (n := n) (fun i σ H' => Same H H' ∧ ∃ m, TabAt H H' D n as m ∧ Snd rs m ∧ Bd rs n kk m ∧ Bd2 rs n kk i 0 m ∧ ∃ x5 x6 x7 x8, σ = [some (.ref a), some (.ref D), some (nV kk), some (nV n), some (.ref l), x5, x6, x7, x8])
      ⟨s3, m3, t3, sn3, bd3, bd2_start, _, _, _, _, rfl⟩ ?_ ?_
    · rintro i σ H4 hi ⟨s4, m4, t4, sn4, bd4, b24, x5, x6, x7, x8, rfl⟩
      rw [zadd]
      refine ⟨_, rfl, (n : Int), rfl, by omega, by omega, ?_⟩
      refine for_range (lo := 0) (n := n) (fun j σ H' => Same H H' ∧ ∃ m, TabAt H H' D n as m ∧ Snd rs m ∧ Bd rs n kk m ∧ Bd2 rs n kk i j m ∧ ∃ x6 x7 x8, σ = [some (.ref a), some (.ref D), some (nV kk), some (nV n), some (.ref l), some (nV i), x6, x7, x8])
        ⟨s4, m4, t4, sn4, bd4, b24, _, _, _, rfl⟩ ?_ ?_
      · rintro j σ H5 hj ⟨s5, m, t, sn, bd, b2, x6, x7, x8, rfl⟩
        rw [zadd]
        refine t.tbl.get (i := i) (j := kk) rfl rfl rfl hi hk ⟨rfl, _, rfl, ite_b (fun c1 => ?_) (fun c1 => ?_)⟩
        · refine t.tbl.get (i := kk) (j := j) rfl rfl rfl hk hj ⟨rfl, _, rfl, ite_b (fun c2 => ?_) (fun c2 => ?_)⟩
          · obtain ⟨x, ex⟩ := notNon c1
            obtain ⟨y, ey⟩ := notNon c2
            refine t.tbl.get (i := i) (j := kk) rfl rfl rfl hi hk ?_
            refine t.tbl.get (i := kk) (j := j) rfl rfl rfl hk hj ?_
            rw [ex, ey]
            refine addN ?_
            have better : (∀ z, m i j = some z → x + y < z) → gSub (tOp (rIxL K) (tVar 1) (tVar 5)) (tVar 6) rSetL (oV (some (x + y)))
                [some (.ref a), some (.ref D), some (nV kk), some (nV n), some (.ref l), some (nV i), some (nV j), x7, some (nV (x + y))] H5
                (fun σ H' => Same H H' ∧ ∃ m, TabAt H H' D n as m ∧ Snd rs m ∧ Bd rs n kk m ∧ Bd2 rs n kk i (j + 1) m ∧ ∃ x6 x7 x8, σ = [some (.ref a), some (.ref D), some (nV kk), some (nV n), some (.ref l), some (nV i), x6, x7, x8]) := by
              intro hl
              refine t.set (i := i) (j := j) (v := some (x + y)) s5 rfl rfl rfl hi hj fun H6 s6 t6 => ?_
              obtain ⟨q1, q2, q3⟩ := cell_put sn bd b2 hi hj hk ex ey hl
              exact ⟨s6, _, t6, q1, q2, q3, _, _, _, rfl⟩
            refine t.tbl.get (i := i) (j := j) rfl rfl rfl hi hj ⟨rfl, _, rfl, ite_b (fun c3 => ?_) (fun c3 => ?_)⟩
            · have e3 := isNonT c3
              exact ⟨_, rfl, better fun z hz => by rw [e3] at hz; cases hz⟩
            · obtain ⟨z, ez⟩ := isNonF c3
              refine ⟨_, rfl, ?_⟩
              refine t.tbl.get (i := i) (j := j) rfl rfl rfl hi hj ?_
              rw [ez]
              refine ⟨_, _, rfl, rfl, _, rfl, ite_b (fun c4 => ?_) (fun c4 => ?_)⟩
              · have c4' := of_decide_eq_true c4
                exact ⟨_, rfl, better fun z' hz' => by rw [ez] at hz'; injection hz' with hz'; omega⟩
              · have c4' := of_decide_eq_false c4
                refine ⟨s5, m, t, sn, bd, cell_keep bd b2 hi hk (fun x' y' e1 e2 => ?_), _, _, _, rfl⟩
                rw [ex] at e1
                rw [ey] at e2
                injection e1 with e1
                injection e2 with e2
                exact ⟨z, ez, by omega⟩
          · have e2 := isNonB c2
            exact ⟨s5, m, t, sn, bd, cell_keep bd b2 hi hk (fun x y _ q => by rw [e2] at q; cases q), _, _, _, rfl⟩
        · have e1 := isNonB c1
          exact ⟨s5, m, t, sn, bd, cell_keep bd b2 hi hk (fun x y q _ => by rw [e1] at q; cases q), _, _, _, rfl⟩
      · rintro σ H5 ⟨s5, m, t, sn, bd, b2, x6, x7, x8, rfl⟩
        exact ⟨s5, m, t, sn, bd, bd2_row b2, _, _, _, _, rfl⟩
    · rintro σ H4 ⟨s4, m, t, sn, bd, b2, x5, x6, x7, x8, rfl⟩
      exact ⟨s4, m, t, sn, bd2_end b2, _, _, _, _, _, rfl⟩
  · rintro σ H3 ⟨s3, m, t, sn, bd, x2, x5, x6, x7, x8, rfl⟩
    exact ⟨_, rfl, k _ _ m s3 t.tbl (tbl_of tw sn bd)⟩
end Ev
end
section
namespace Ev
open PySem L2
variable {P : Program} {w : World} {K : PySem.W.Frag} {mg : Str → Option Value} {base : Heap}

/-! ### all_stands -/
def spAllG : Sp := fun vs H Q _ => ∃ n h : Nat, vs = [nV n, nV h] ∧ n ≤ 7 ∧ h ≤ 2 ∧ ∀ v' H', Same H H' → LstG H H' v' (stands n h) → Q v' H'
theorem scAllStands : FnScope ["places", "helpers", "found", "turn", "longer", "stand", "lowest", "place"] ["places", "helpers"] (C8.fnScope sAllStands) := ⟨rfl, rfl, rfl, by decide +kernel, rfl, by decide +kernel, by decide +kernel⟩
theorem ok_all_stands {f : Addr} {fd : FuncData} (F : C8.Def K mg "all_stands" sAllStands f fd) (b : Binds K fd ["places", "helpers"] []) (T : Txt K mg) : C8.Cal P w K mg base 1 "all_stands" spAllG [] := by
  refine C8.cal0 F b .nil scAllStands (fun vs H Q E h => ?_) (fun cdv A outer s H vs Q E hr h => ?_)
  · obtain ⟨n, h, rfl, _⟩ := h
    rfl
  obtain ⟨n, h, rfl, hn, hh, k⟩ := h
  have nd := scAllStands.nd
  refine ⟨_, (pss_cons (ps_set (i := 2) nd rfl (by first | exact .inl rfl | exact .inr rfl) (pe_lst (pa_cons (pe_tupF pa_nil) pa_nil)))
 (pss_cons (ps_for PassesOwn.never rfl (pi_range1 (by rfl) T.n_range (pa_cons (pv 1) pa_nil)) (pg_name (i := 3) nd rfl (by first | exact .inl rfl | exact .inr rfl))
 (pss_cons (ps_set (i := 4) nd rfl (by first | exact .inl rfl | exact .inr rfl) (pe_lst pa_nil))
 (pss_cons (ps_for PassesOwn.never rfl (kpi_list (K := K) rfl (pv 2)) (pg_name (i := 5) nd rfl (by first | exact .inl rfl | exact .inr rfl))
 (pss_cons (ps_set (i := 6) nd rfl (by first | exact .inl rfl | exact .inr rfl) (pe_ifExp (kpt_truth (K := K) rfl (pv 5) (by intro _; rfl)) (pe_ix (kix_tup (K := K) rfl) (pv 5) (pe_un un_neg pe_int) (fun _ _ => rfl)) pe_int))
 (pss_one (ps_expr (pe_bm PySem.F.plainAttrs_list PySem.F.slot_list_extend PySem.F.type_list_extend mt_extend (pv 4) (pa_cons (pe_lc (own := [("place", 7)]) rfl nd (pi_range2 (by rfl) T.n_range (pa_cons (pv 6) (pa_cons (pv 0) pa_nil))) (blkOk_by (own := [("place", 7)]) (by kernel_rfl)) (fun _ _ _ _ _ => (pg_name (i := 7) nd rfl (by first | exact .inl rfl | exact .inr rfl))) (fun _ _ _ _ _ => pts_nil) (fun _ _ _ _ _ => (pe_op (kop_catF (K := K) rfl) (pv 5) (pe_tupF (pa_cons (pv 7) pa_nil))))) pa_nil))))))
 (pss_one (ps_set (i := 2) nd rfl (by first | exact .inl rfl | exact .inr rfl) (pv 4))))))
 (pss_one (ps_ret (pv 2))))), ?_⟩
  refine ⟨by show 0 ≤ sizeLine; decide, fun p ob hp zp => ?_⟩
  refine new_ind hp (upd _ p _) rfl fun H1 s1 e1 => ?_
  refine ⟨by show 1 ≤ sizeLine; decide, fun F0 hF0 => ?_⟩
  refine new_ind hF0 (upd _ F0 _) rfl fun H2 s2 e2 => ?_
  refine ⟨_, rfl, (h : Int), rfl, by omega, by omega, ?_⟩
  refine for_range (lo := 0) (n := h) (fun t σ H' => Same H H' ∧ ∃ (Fa : Addr) (xs : List V) (x3 x4 x5 x6 x7 : Option V), σ = [some (nV n), some (nV h), some (.ref Fa), x3, x4, x5, x6, x7] ∧ H Fa = none ∧ H' Fa = some (.lst xs) ∧ TupsG H H' xs (stands n t))
    ⟨s1.trans s2, F0, _, _, _, _, _, _, rfl, s1.free hF0, e2, .cons ⟨p, ob, rfl, hp, s2 _ _ e1, zp⟩ .nil⟩ ?_ ?_
  · rintro t σ H3 ht ⟨s3, Fa, xs, x3, x4, x5, x6, x7, rfl, nF, hF, hx⟩
    rw [Int.zero_add]
    refine ⟨Nat.zero_le _, fun L hL => ?_⟩
    refine new_ind hL (upd _ L _) rfl fun H4 s4 e4 => ?_
    have nFL : Fa ≠ L := ne_of_none hF hL
    have lenx := Paired.len hx
    refine ⟨_, rfl, Fa, rfl, ⟨xs, SqL.of (s4 _ _ hF)⟩, ?_⟩
    refine for_list (K := K) (a := Fa) (xs := xs) (fun i σ H' => Same H H' ∧ H' Fa = some (.lst xs) ∧ TupsG H H' xs (stands n t) ∧ ∃ (ys : List V) (x5 x6 x7 : Option V), σ = [some (nV n), some (nV h), some (.ref Fa), some (nV t), some (.ref L), x5, x6, x7] ∧
        H' L = some (.lst ys) ∧ TupsG H H' ys (((stands n t).take i).flatMap (ext n)))
      ⟨s3.trans s4, s4 _ _ hF, hx.mono s4.tup, [], _, _, _, rfl, e4, .nil⟩ (fun i σ H' _ q => SqL.of q.2.1) ?_ ?_
    · rintro i x σ H5 hi ⟨s5, hF5, hx5, ys, x5, x6, x7, rfl, hL5, hy5⟩
      obtain ⟨st, hst, tx⟩ := Paired.at_ hx5 hi
      have tk : (stands n t).take (i + 1) = (stands n t).take i ++ [st] := by
        rw [List.take_succ, hst]
        rfl
      have sst : Stand n t st := mem_stands.mp (List.mem_of_getElem? hst)
      have lowest : ∀ Q' : VK, Q' (nV (low st)) H5 → tIf (fun σ H Q => tVar 5 σ H fun x H' => ∃ k, TruV K x H' k ∧ Q k H') (tOp (rIxT K) (tVar 5) (tUn (rU fun i => .int (-i)) (tC (.int 1)))) (tC (.int 0))
          [some (nV n), some (nV h), some (.ref Fa), some (nV t), some (.ref L), some x, x6, x7] H5 Q' := by
        intro Q' q
        refine ⟨_, rfl, _, truF tx.f, ite_b (fun c => ?_) (fun c => ?_)⟩
        · have ne : ¬ st = [] := fun e => by
            subst e
            cases c
          exact ⟨_, rfl, 1, rfl, lastF tx.f ne q⟩
        · have e : st = [] := by simpa using c
          subst e
          exact q
      refine lowest _ ?_
      refine ⟨_, rfl, .inl ⟨rfl, _, SqL.of hL5⟩, ?_⟩
      have hN : ((n : Int) - (low st : Int)).toNat = n - low st := by omega
      have hlow : low st ≤ 7 := by
        by_cases e : st = []
        · subst e
          exact Nat.zero_le _
        · have := sst.2.2 _ (low_mem e)
          omega
      refine ⟨_, rfl, _, rfl, (low st : Int), (n : Int), rfl, ⟨by omega, by omega, by omega, by omega⟩, fun D hD => ?_⟩
      refine lc_range (lo := (low st : Int)) (n := ((n : Int) - (low st : Int)).toNat) (fun j H' => Same H5 H' ∧ ∃ zs : List V, H' D = some (.lst zs) ∧ TupsG H H' zs ((List.range j).map fun x => st ++ [low st + x])) ⟨Same.new hD _, [], upd_same, .nil⟩ ?_ ?_
      · rintro j H6 hj ⟨s6, zs, hz, tz⟩
        rw [castAdd]
        refine ⟨rfl, ?_⟩
        refine ⟨_, rfl, _, rfl, by show 1 ≤ sizeLine; decide, fun u ou hu zu => ?_⟩
        refine new_ind hu (upd _ u _) rfl fun H7 s7 tu => ?_
        refine catG (t := [low st + j]) (s5.trans (s6.trans s7)) (tx.mono (s6.trans s7).tup) ⟨u, ou, rfl, (s5.trans s6).free hu, tu, zu⟩ (by rw [sst.1]; simp; omega) fun v' H8 s8 tv => ?_
        have s68 := s6.trans (s7.trans s8)
        have hz8 := (s7.trans s8) _ _ hz
        have lz := Paired.len tz
        rw [List.length_map, List.length_range] at lz
        refine ⟨zs, hz8, Nat.lt_of_le_of_lt (m := 1000) (by omega) (by decide), s68.put hD _, _, upd_same, ?_⟩
        have ts : TSame H8 (upd H8 D (.lst (zs ++ [v']))) := TSame.upd hz8 id
        rw [List.range_succ, List.map_append]
        exact Paired.app ((tz.mono (s7.trans s8).tup).mono ts) (.cons (tv.mono ts) .nil)
      · rintro H6 ⟨s6, zs, hz, tz⟩
        rw [hN] at tz
        have nLD : L ≠ D := ne_of_none hL5 hD
        have lz := Paired.len tz
        have ly := Paired.len hy5
        have fl := flat_len (n := n) (h := t) hn (by omega) (i + 1)
        rw [tk, List.flatMap_append, List.length_append, List.flatMap_cons, List.flatMap_nil, List.append_nil] at fl
        refine ⟨L, D, ys, zs, rfl, rfl, s6 _ _ hL5, hz, short (by
          rw [ly, lz]
          show _ + (ext n st).length ≤ _
          omega), ?_⟩
        have hL6 := s6 _ _ hL5
        have ts : TSame H6 (upd H6 L (.lst (ys ++ zs))) := TSame.upd hL6 id
        refine ⟨(s5.trans s6).put (s3.free hL) _, by rw [upd_ne nFL]; exact s6 _ _ hF5, (hx5.mono s6.tup).mono ts, ys ++ zs, _, _, _, rfl, upd_same, ?_⟩
        rw [tk, List.flatMap_append, List.flatMap_cons, List.flatMap_nil, List.append_nil]
        exact Paired.app ((hy5.mono s6.tup).mono ts) (tz.mono ts)
    · rintro σ H5 ⟨s5, hF5, hx5, ys, x5, x6, x7, rfl, hL5, hy5⟩
      rw [lenx, List.take_length] at hy5
      exact ⟨_, rfl, s5, L, ys, _, _, _, _, _, rfl, s3.free hL, hL5, hy5⟩
  · rintro σ H3 ⟨s3, Fa, xs, x3, x4, x5, x6, x7, rfl, nF, hF, hx⟩
    exact ⟨_, rfl, k _ _ s3 ⟨Fa, xs, rfl, nF, hF, hx⟩⟩

/-- the same, as tuples; as tuples known by their own objects -/
def spAllStands : Sp := fun vs H Q _ => ∃ n h : Nat, vs = [nV n, nV h] ∧ n ≤ 7 ∧ h ≤ 2 ∧ ∀ v' H', Same H H' → LstT H' v' (stands n h) → Q v' H'
def spAllE : Sp := fun vs H Q _ => ∃ n h : Nat, vs = [nV n, nV h] ∧ n ≤ 7 ∧ h ≤ 2 ∧ ∀ v' H', Same H H' → LstE H H' v' (stands n h) → Q v' H'
theorem allT (c : C8.Cal P w K mg base 1 "all_stands" spAllG []) : C8.Cal P w K mg base 1 "all_stands" spAllStands [] :=
  cal_imp (fun vs H Q E ⟨n, h, e, h1, h2, k⟩ => ⟨n, h, e, h1, h2, fun v' H' s l => k v' _ (re_same (Same.refl H) s) l.tup⟩) (cal_re cv_tup c)
theorem allE (c : C8.Cal P w K mg base 1 "all_stands" spAllG []) : C8.Cal P w K mg base 1 "all_stands" spAllE [] :=
  cal_imp (fun vs H Q E ⟨n, h, e, h1, h2, k⟩ => ⟨n, h, e, h1, h2, fun v' H' s l => k v' _ (re_same (Same.refl H) s) (l.ext (stands_nodup n h))⟩) (cal_re cv_ext c)

/-! ### stands_of -/
def spStandsOf : Sp := fun vs H Q _ => ∃ (n h : Nat) (rs : List Road) (v : V), vs = [v, nV h] ∧ TownV H v n rs ∧ n ≤ 7 ∧ h ≤ 2 ∧ ∀ v' H', Same H H' → LstE H H' v' (stands n h) → Q v' H'
theorem scStandsOf : FnScope ["town", "helpers"] ["town", "helpers"] (C8.fnScope sStandsOf) := ⟨rfl, rfl, rfl, by decide +kernel, rfl, by decide +kernel, by decide +kernel⟩
theorem ok_stands_of {f : Addr} {fd : FuncData} (F : C8.Def K mg "stands_of" sStandsOf f fd) (b : Binds K fd ["town", "helpers"] []) (T : Txt K mg) (c_all_stands : C8.Cal P w K mg base 1 "all_stands" spAllE []) : C8.Cal P w K mg base 2 "stands_of" spStandsOf [] := by
  refine C8.cal0 F b .nil scStandsOf (fun vs H Q E h => ?_) (fun cdv A outer s H vs Q E hr h => ?_)
  · obtain ⟨n, h, rs, v, rfl, _⟩ := h
    rfl
  obtain ⟨n, h, rs, v, rfl, ⟨a, r, rfl, ha, _⟩, hn, hh, k⟩ := h
  have nd := scStandsOf.nd
  refine ⟨_, (pss_one (ps_ret (C8.pe_c c_all_stands hr (by decide) rfl (pa_cons (pe_ix (kix_tup (K := K) rfl) (pv 0) pe_int (fun _ _ => rfl)) (pa_cons (pv 1) pa_nil))))), ?_⟩
  exact ⟨_, rfl, a, _, 0, _, rfl, rfl, SqT.of ha, rfl, _, rfl, n, h, rfl, hn, hh, k⟩
end Ev
end
section
namespace Ev
open PySem L2
variable {P : Program} {w : World} {K : PySem.W.Frag} {mg : Str → Option Value} {base : Heap}

/-! ### paired_length -/
def PairOk (m : Mx) (reach : Nat) (s t : List Nat) : Prop := ∃ u, u ∈ permsN t ∧ Good m reach s u
def spPaired : Sp := fun vs H Q _ => ∃ (n reach : Nat) (m : Mx) (s t : List Nat) (d a b : V), vs = [d, a, b, nV reach] ∧ TblV H d n m ∧ TupR H a s ∧ TupN H b t ∧ s.length = t.length ∧ (t.length = 1 ∨ t.length = 2) ∧ (∀ x ∈ s, x < n) ∧ (∀ x ∈ t, x < n) ∧
  ∀ o H', Same H H' → ((∃ l, o = some l) ↔ PairOk m reach s t) → Q (oV o) H'
theorem scPaired : FnScope ["table", "first", "second", "reach", "least", "order", "steps", "one", "other", "step"] ["table", "first", "second", "reach"] (C8.fnScope sPaired) := ⟨rfl, rfl, rfl, by decide +kernel, rfl, by decide +kernel, by decide +kernel⟩
theorem sqR {K : PySem.W.Frag} {H H' : Hp} (s : Same H H') {a : Addr} {xs : List V} (h : Rd H a (.tup xs)) : SqT K H' a xs := .inl (h.elim (fun h => .inl (s _ _ h)) fun ⟨ob, h⟩ => .inr ⟨ob, s _ _ h⟩)
theorem permsN_len {t u : List Nat} (h : u ∈ permsN t) : u.length = t.length := by
  match t, h with
  | [x], h =>
    have : u = [x] := by simpa [permsN] using h
    rw [this]
  | [x, y], h =>
    have : u = [x, y] ∨ u = [y, x] := by simpa [permsN] using h
    rcases this with e | e <;> rw [e] <;> rfl
theorem permsN_mem {t u : List Nat} (h : u ∈ permsN t) : ∀ x ∈ u, x ∈ t := by
  match t, h with
  | [x], h =>
    have : u = [x] := by simpa [permsN] using h
    rw [this]
    exact fun x h => h
  | [x, y], h =>
    have : u = [x, y] ∨ u = [y, x] := by simpa [permsN] using h
    rcases this with e | e <;> rw [e]
    · exact fun x h => h
    · intro z hz
      have : z = y ∨ z = x := by simpa using hz
      rcases this with e | e <;> rw [e] <;> simp
theorem ok_paired_length {f : Addr} {fd : FuncData} (F : C8.Def K mg "paired_length" sPaired f fd) (b : Binds K fd ["table", "first", "second", "reach"] []) (T : Txt K mg) : C8.Cal P w K mg base 1 "paired_length" spPaired [] := by
  refine C8.cal0 F b .nil scPaired (fun vs H Q E h => ?_) (fun cdv A outer s H vs Q E hr h => ?_)
  · obtain ⟨n, reach, m, s, t, d, a, b, rfl, _⟩ := h
    rfl
  obtain ⟨n, reach, m, s, t, d, av, bv, rfl, tb, ⟨a, rfl, ha⟩, ⟨c, rfl, hc⟩, hl, h12, hs, ht, k⟩ := h
  have nd := scPaired.nd
  refine ⟨_, (pss_cons (ps_set (i := 4) nd rfl (by first | exact .inl rfl | exact .inr rfl) pe_non)
 (pss_cons (ps_for PassesOwn.never rfl (kpi_perm (K := K) rfl (by rfl) T.mPerm (pa_cons (pv 2) pa_nil)) (pg_name (i := 5) nd rfl (by first | exact .inl rfl | exact .inr rfl))
 (pss_cons (ps_setLc (i := 6) (own := [("one", 7), ("other", 8)]) rfl nd rfl rfl (sw_true rfl rfl rfl (by kernel_rfl)) (kpi_zip (K := K) rfl (by rfl) T.n_zip (pa_cons (pv 1) (pa_cons (pv 5) pa_nil))) (blkOk_by (own := [("one", 7), ("other", 8)]) (by kernel_rfl)) (fun _ _ _ _ _ => (kpg_tup (K := K) (n := 2) rfl rfl (pgs_cons (pg_name (i := 7) nd rfl (by first | exact .inl rfl | exact .inr rfl)) (pgs_cons (pg_name (i := 8) nd rfl (by first | exact .inl rfl | exact .inr rfl)) pgs_nil)))) (fun _ _ _ _ _ => pts_nil) (fun _ _ _ _ _ => (pe_ix (kix_list (K := K) rfl) (pe_ix (kix_list (K := K) rfl) (pv 0) (pv 7) (fun _ _ => rfl)) (pv 8) (fun _ _ => rfl))))
 (pss_one (ps_if (PW.pt (pw_and (pt_val (pe_callB (kcr_all rfl (K := K) rfl) (by rfl) T.n_all bb_all (pa_cons (pe_lc (own := [("step", 9)]) rfl nd (kpi_list (K := K) rfl (pv 6)) (blkOk_by (own := [("step", 9)]) (by kernel_rfl)) (fun _ _ _ _ _ => (pg_name (i := 9) nd rfl (by first | exact .inl rfl | exact .inr rfl))) (fun _ _ _ _ _ => pts_nil) (fun _ _ _ _ _ => (pe_and (pe_cmpR op_notN (pv 9) pe_non (nomark _)) (pe_one (pe_cmpR op_le (pv 9) (pv 3) (nomark _)))))) pa_nil)) (by intro _; rfl)) (pw_and1 (PW.pt (pw_or (pt_cmpR op_isN (pv 4) pe_non (nomark _)) (pw_or1 (pt_cmpR op_lt (pe_callB (kcr_sum rfl (K := K) rfl) (by rfl) T.n_sum bb_sum (pa_cons (pv 6) pa_nil)) (pv 4) (nomark _))))))))
 (pss_one (ps_set (i := 4) nd rfl (by first | exact .inl rfl | exact .inr rfl) (pe_callB (kcr_sum rfl (K := K) rfl) (by rfl) T.n_sum bb_sum (pa_cons (pv 6) pa_nil))))
 pss_nil))))
 (pss_one (ps_ret (pv 4))))), ?_⟩
  refine ⟨_, rfl, c, _, rfl, SqT.of hc, by rw [List.length_map]; exact h12, ?_⟩
  refine for_perm (xs := t.map nV) (fun i σ H' => Same H H' ∧ ∃ (o : Option Nat) (x5 x6 x7 x8 x9 : Option V), σ = [some d, some (.ref a), some (.ref c), some (nV reach), some (oV o), x5, x6, x7, x8, x9] ∧ ((∃ l, o = some l) ↔ ∃ u, u ∈ (permsN t).take i ∧ Good m reach s u))
    ⟨Same.refl H, none, _, _, _, _, _, rfl, ⟨fun ⟨l, e⟩ => (by cases e), fun ⟨u, hu, _⟩ => (by simp at hu)⟩⟩ ?_ ?_
  · rintro i ys q σ H' hi ⟨s0, o, x5, x6, x7, x8, x9, rfl, hio⟩ hq
    rw [perms_map h12, List.getElem?_map] at hi
    obtain ⟨u, hu, rfl⟩ := Option.map_eq_some_iff.mp hi
    have hum := List.mem_of_getElem? hu
    have ul := permsN_len hum
    have um := permsN_mem hum
    have tk : (permsN t).take (i + 1) = (permsN t).take i ++ [u] := by
      rw [List.take_succ, hu]
      rfl
    refine new_ind hq (upd _ q _) rfl fun H1 s1 e1 => ?_
    have s01 := s0.trans s1
    refine ⟨_, rfl, _, rfl, a, q, s.map nV, u.map nV, rfl, .inr ⟨sqR s01 ha, SqT.of e1, fun D hD => ?_⟩⟩
    refine lc_zipT (K := K) (by rw [List.length_map, List.length_map]; omega) (fun j H2 => Same H1 H2 ∧ H2 D = some (.lst (((stepsOf m s u).take j).map oV))) ⟨Same.new hD _, by rw [upd_same]; rfl⟩ (fun j H2 g => ⟨sqR (s01.trans g.1) ha, SqT.of (g.1 _ _ e1)⟩) ?_ ?_
    · rintro j x y p H2 hx hy ⟨s2, h2⟩ hp
      rw [List.getElem?_map] at hx hy
      obtain ⟨xn, hxn, rfl⟩ := Option.map_eq_some_iff.mp hx
      obtain ⟨yn, hyn, rfl⟩ := Option.map_eq_some_iff.mp hy
      have hst : (stepsOf m s u)[j]? = some (m xn yn) := by
        unfold stepsOf
        rw [List.getElem?_zipWith, hxn, hyn]
      refine new_ind hp (upd _ p _) rfl fun H3 s3 e3 => ?_
      refine ⟨p, _, rfl, SqT.of e3, rfl, _, _, rfl, _, _, rfl, rfl, rfl, ?_⟩
      have tb3 := tb.mono (s01.trans (s2.trans s3))
      refine tb3.get (i := xn) (j := yn) rfl rfl rfl (hs xn (List.mem_of_getElem? hxn)) (ht yn (um yn (List.mem_of_getElem? hyn))) ?_
      refine ⟨_, s3 _ _ h2, Nat.lt_of_le_of_lt (m := 1000) ?_ (by decide), (s2.trans s3).put hD _, ?_⟩
      · rw [List.length_map, List.length_take]
        have : (stepsOf m s u).length ≤ 2 := by
          unfold stepsOf
          rw [List.length_zipWith]
          omega
        omega
      · rw [upd_same, List.take_succ, hst, List.map_append]
        rfl
    rintro H2 ⟨s2, h2⟩
    have full : (stepsOf m s u).take (s.map nV).length = stepsOf m s u := List.take_of_length_le (by
      unfold stepsOf
      rw [List.length_zipWith, List.length_map]
      omega)
    rw [full] at h2
    have s02 := s01.trans s2
    refine ⟨_, rfl, D, rfl, ⟨_, SqL.of h2⟩, fun D2 hD2 => ?_⟩
    refine lc_list (K := K) (a := D) (xs := (stepsOf m s u).map oV) (fun j H3 => Same H2 H3 ∧ H3 D2 = some (.lst ((((stepsOf m s u).take j).map (okStep reach)).map V.bl))) ⟨Same.new hD2 _, upd_same⟩ (fun j H3 _ g => SqL.of (g.1 _ _ h2)) ?_ ?_
    · rintro j x H3 hx ⟨s3, h3⟩
      rw [List.getElem?_map] at hx
      obtain ⟨e, he, rfl⟩ := Option.map_eq_some_iff.mp hx
      have short2 : (stepsOf m s u).length ≤ 2 := by
        unfold stepsOf
        rw [List.length_zipWith]
        omega
      have done : ∀ z : Bool, z = okStep reach e → ∃ acc, H3 D2 = some (.lst acc) ∧ acc.length < sizeLine ∧ Same H2 (upd H3 D2 (.lst (acc ++ [V.bl z]))) ∧ (upd H3 D2 (.lst (acc ++ [V.bl z]))) D2 = some (.lst ((((stepsOf m s u).take (j + 1)).map (okStep reach)).map V.bl)) := by
        intro z ez
        refine ⟨_, h3, Nat.lt_of_le_of_lt (m := 1000) (by rw [List.length_map, List.length_map, List.length_take]; omega) (by decide), s3.put hD2 _, ?_⟩
        rw [upd_same, List.take_succ, he, List.map_append, List.map_append, ez]
        rfl
      refine ⟨rfl, ?_⟩
      refine ⟨_, rfl, rfl, _, rfl, ite_b (fun c1 => ?_) (fun c1 => ?_)⟩
      · obtain ⟨dd, rfl⟩ := notNon c1
        refine ⟨_, rfl, _, rfl, _, _, rfl, rfl, ?_⟩
        refine done _ ?_
        unfold okStep
        exact decide_eq_decide.mpr ⟨fun h => by omega, fun h => by omega⟩
      · have e0 := isNonB c1
        subst e0
        exact done false rfl
    rintro H3 ⟨s3, h3⟩
    rw [List.length_map, List.take_length] at h3
    refine ⟨D2, _, rfl, SqL.of h3, _, rfl, ?_⟩
    rw [List.all_map]
    have s03 := s02.trans s3
    have h23 := s3 _ _ h2
    refine ite_b (fun c1 => ?_) (fun c1 => ?_)
    · have good : Good m reach s u := c1
      obtain ⟨ns, ens⟩ := all_some good
      have hD3 : SqL K H3 D ((ns.map fun n : Nat => (n : Int)).map V.int) := by
        rw [ens, List.map_map] at h23
        have : (ns.map (oV ∘ some)) = ((ns.map fun n : Nat => (n : Int)).map V.int) := by
          rw [List.map_map]
          rfl
        rw [this] at h23
        exact SqL.of h23
      have after : ∀ o' : Option Nat, (∃ l, o' = some l) → ((∃ l, o' = some l) ↔ ∃ u, u ∈ (permsN t).take (i + 1) ∧ Good m reach s u) := fun o' ho' =>
        ⟨fun _ => ⟨u, by rw [tk]; simp, good⟩, fun _ => ho'⟩
      have put : ∃ Mid : Prop, Mid := ⟨True, trivial⟩
      refine ⟨_, rfl, rfl, _, rfl, ite_b (fun c2 => ?_) (fun c2 => ?_)⟩
      · refine ⟨_, rfl, D, _, rfl, hD3, ?_⟩
        exact ⟨s03, some ns.sum, some (.ref q), some (.ref D), x7, x8, x9, by rw [nat_sum]; rfl, after _ ⟨_, rfl⟩⟩
      · obtain ⟨l, rfl⟩ := isNonF c2
        refine ⟨_, rfl, D, _, rfl, hD3, _, rfl, _, _, rfl, rfl, _, rfl, ite_b (fun c3 => ?_) (fun c3 => ?_)⟩
        · refine ⟨_, rfl, D, _, rfl, hD3, ?_⟩
          exact ⟨s03, some ns.sum, some (.ref q), some (.ref D), x7, x8, x9, by rw [nat_sum]; rfl, after _ ⟨_, rfl⟩⟩
        · exact ⟨s03, some l, _, _, _, _, _, rfl, after _ ⟨_, rfl⟩⟩
    · have bad : ¬ Good m reach s u := fun g => by
        have : (stepsOf m s u).all (id ∘ okStep reach) = true := g
        rw [this] at c1
        cases c1
      refine ⟨s03, o, _, _, _, _, _, rfl, hio.trans ⟨fun ⟨v, hv, g⟩ => ⟨v, by rw [tk]; simp [hv], g⟩, fun ⟨v, hv, g⟩ => ?_⟩⟩
      rw [tk] at hv
      rcases List.mem_append.mp hv with hv | hv
      · exact ⟨v, hv, g⟩
      · have : v = u := by simpa using hv
        subst this
        exact absurd g bad
  · rintro σ H' ⟨s0, o, x5, x6, x7, x8, x9, rfl, hio⟩
    have e : (permsN t).take (perms (t.map nV)).length = permsN t := by
      rw [perms_map h12, List.length_map, List.take_length]
    rw [e] at hio
    exact ⟨_, rfl, k o H' s0 hio⟩
end Ev
end
section
namespace Ev
open PySem L2
variable {P : Program} {w : World} {K : PySem.W.Frag} {mg : Str → Option Value} {base : Heap}

/-! ### sent -/
def spSent : Sp := fun vs H Q _ => ∃ (s : List Nat) (p c : Nat) (v : V), vs = [v, nV p, nV c] ∧ TupF H v s ∧ p ∈ s ∧ s.length ≤ 1000 ∧ ∀ v' H' t, Same H H' → t.Perm (c :: s.erase p) → t.Pairwise (· ≤ ·) → TupN H' v' t → Q v' H'
theorem scSent : FnScope ["stand", "place", "call", "at"] ["stand", "place", "call"] (C8.fnScope sSent) := ⟨rfl, rfl, rfl, by decide +kernel, rfl, by decide +kernel, by decide +kernel⟩
theorem cut_erase {s : List Nat} {p c : Nat} : (s.take (s.idxOf p) ++ s.drop (s.idxOf p + 1) ++ [c]).Perm (c :: s.erase p) := by
  have e : s.take (s.idxOf p) ++ s.drop (s.idxOf p + 1) = s.erase p := by
    rw [List.erase_eq_eraseIdx_of_idxOf (l := s) (a := p) rfl, List.eraseIdx_eq_take_drop_succ]
  rw [e]
  exact List.perm_append_comm
theorem ok_sent {f : Addr} {fd : FuncData} (F : C8.Def K mg "sent" sSent f fd) (b : Binds K fd ["stand", "place", "call"] []) (T : Txt K mg) : C8.Cal P w K mg base 1 "sent" spSent [] := by
  refine C8.cal0 F b .nil scSent (fun vs H Q E h => ?_) (fun cdv A outer s H vs Q E hr h => ?_)
  · obtain ⟨s, p, c, v, rfl, _⟩ := h
    rfl
  obtain ⟨s, p, c, v, rfl, t, hp, hz, k⟩ := h
  have nd := scSent.nd
  refine ⟨_, (pss_cons (ps_set (i := 3) nd rfl (by first | exact .inl rfl | exact .inr rfl) (pe_index (pv 0) (pv 1)))
 (pss_one (ps_ret (pe_callTy (kcr_tuple (K := K) rfl) (by rfl) T.n_tuple bb_tuple (pa_cons (pe_callB (kcr_sortedIT (K := K) rfl) (by rfl) T.n_sorted bb_sorted (pa_cons (pe_op (kop_catA (K := K) rfl) (pe_op (kop_catA (K := K) rfl) (pe_slice (ksl_tupA (K := K) rfl) (pv 0) po_none (po_some (pv 3))) (pe_slice (ksl_tupA (K := K) rfl) (pv 0) (po_some (pe_op op_add (pv 3) pe_int)) po_none)) (pe_tup (pa_cons (pv 2) pa_nil))) pa_nil)) pa_nil))))), ?_⟩
  refine ⟨v, rfl, s, t, _, rfl, p, rfl, hp, t, ?_⟩
  refine ⟨v, rfl, _, rfl, _, rfl, ?_⟩
  refine slTo t.rd fun v1 H1 s1 t1 => ?_
  refine ⟨v, rfl, _, rfl, _, _, rfl, rfl, _, rfl, ?_⟩
  rw [show ((s.idxOf p : Nat) : Int) + 1 = ((s.idxOf p + 1 : Nat) : Int) from by omega]
  delta tNoPart
  dsimp only
  refine slFrom (t.rd.mono s1.tup) fun v2 H2 s2 t2 => ?_
  refine catR (t1.mono s2.tup) t2 (by rw [List.length_take, List.length_drop]; omega) fun v3 H3 s3 t3 => ?_
  refine ⟨_, rfl, by show 1 ≤ sizeLine; decide, fun q hq => ?_⟩
  refine new_ind hq (upd _ q _) rfl fun H4 s4 e4 => ?_
  refine catR (t := [c]) (t3.mono s4.tup) ⟨q, rfl, .inl e4⟩ (by rw [List.length_append, List.length_take, List.length_drop]; simp; omega) fun v5 H5 s5 t5 => ?_
  obtain ⟨a, rfl, ha⟩ := t5.sq (K := K)
  refine ⟨a, _, rfl, ha, fun ms l pm pw hl => ?_⟩
  refine new_ind hl (upd _ l _) rfl fun H6 s6 e6 => ?_
  refine ⟨l, _, rfl, .inl ⟨SqL.of e6, fun u hu => ?_⟩⟩
  refine new_ind hu (upd _ u _) rfl fun H7 s7 e7 => ?_
  exact k _ _ ms (s1.trans (s2.trans (s3.trans (s4.trans (s5.trans (s6.trans s7)))))) (pm.trans cut_erase) pw ⟨u, rfl, e7⟩
end Ev
end
section
namespace Ev
open PySem L2
variable {P : Program} {w : World} {K : PySem.W.Frag} {mg : Str → Option Value} {base : Heap}

/-! ### answers_by_one -/
/-- a new tuple, or the stand itself -/
def OrV (v : V) (s : List Nat) : Hp → V → List Nat → Prop := fun H y t => TupN H y t ∨ (y = v ∧ t = s)
abbrev RM (m : Mx) (reach : Nat) : Nat → Nat → Prop := fun a b => ∃ d, m a b = some d ∧ d ≤ reach
def spAns (one : Bool) : Sp := fun vs H Q _ => ∃ (n h c reach : Nat) (m : Mx) (s : List Nat) (d v : V), vs = [d, v, nV c, nV reach] ∧ TblV H d n m ∧ TupF H v s ∧ Stand n h s ∧ n ≤ 7 ∧ 1 ≤ h ∧ h ≤ 2 ∧ c < n ∧
  ∀ v' H' ps, Same H H' → RowV (OrV v s) H' v' ps → (∀ t, t ∈ ps.map (·.2) ↔ Ans (RM m reach) one n s c t) → Q v' H'
theorem scByOne : FnScope ["table", "stand", "call", "reach", "found", "place", "step"] ["table", "stand", "call", "reach"] (C8.fnScope sByOne) := ⟨rfl, rfl, rfl, by decide +kernel, rfl, by decide +kernel, by decide +kernel⟩
theorem inN {c : Nat} : ∀ {s : List Nat}, inV (nV c) (s.map nV) = decide (c ∈ s)
  | [] => rfl
  | a :: s => by
    have ih := inN (c := c) (s := s)
    unfold inV at ih ⊢
    rw [List.map_cons, List.any_cons, ih]
    have e : eqV (nV a) (nV c) = decide (a = c) := by
      show decide ((a : Int) = (c : Int)) = _
      exact decide_eq_decide.mpr ⟨fun h => by omega, fun h => by omega⟩
    rw [e]
    by_cases h : a = c
    · subst h
      simp
    · have h' : ¬ c = a := fun q => h q.symm
      simp [h, h']
theorem flatN (s : List Nat) : (s.map nV).all flatV = true := by
  rw [List.all_eq_true]
  intro x hx
  obtain ⟨n, _, rfl⟩ := List.mem_map.mp hx
  rfl
theorem ints_nats : ∀ {is : List Int}, (∀ k ∈ is, ∃ n : Nat, k = n) → ∃ ms : List Nat, is = ms.map fun n : Nat => (n : Int)
  | [], _ => ⟨[], rfl⟩
  | k :: is, h => by
    obtain ⟨n, e⟩ := h k List.mem_cons_self
    obtain ⟨ms, e2⟩ := ints_nats (is := is) fun k hk => h k (List.mem_cons_of_mem _ hk)
    exact ⟨n :: ms, by rw [e, e2]; rfl⟩
theorem mem_cast {k : Nat} {s : List Nat} : ((k : Int) ∈ s.map fun n : Nat => (n : Int)) ↔ k ∈ s := by
  constructor
  · intro h
    obtain ⟨n, hn, e⟩ := List.mem_map.mp h
    have : n = k := by omega
    exact this ▸ hn
  · intro h
    exact List.mem_map.mpr ⟨k, h, rfl⟩
theorem ok_answers_by_one {f : Addr} {fd : FuncData} (F : C8.Def K mg "answers_by_one" sByOne f fd) (b : Binds K fd ["table", "stand", "call", "reach"] []) (T : Txt K mg) (c_sent : C8.Cal P w K mg base 1 "sent" spSent []) : C8.Cal P w K mg base 2 "answers_by_one" (spAns true) [] := by
  refine C8.cal0 F b .nil scByOne (fun vs H Q E h => ?_) (fun cdv A outer s H vs Q E hr h => ?_)
  · obtain ⟨n, h, c, reach, m, s, d, v, rfl, _⟩ := h
    rfl
  obtain ⟨n, h, c, reach, m, s, d, v, rfl, tb, t, hs, hn, h1, h2, hc, k⟩ := h
  have nd := scByOne.nd
  refine ⟨_, (pss_cons (ps_if (pt_cmpR (kop_in_seq (K := K) rfl) (pv 2) (pv 1) (by rfl))
 (pss_one (ps_ret (pe_lst (pa_cons (pe_tup (pa_cons (pv 1) (pa_cons pe_int pa_nil))) pa_nil))))
 pss_nil)
 (pss_cons (ps_set (i := 4) nd rfl (by first | exact .inl rfl | exact .inr rfl) (pe_lst pa_nil))
 (pss_cons (ps_for PassesOwn.never rfl (kpi_list (K := K) rfl (pe_callB (cr_sortedSet rfl) (by rfl) T.n_sorted bb_sorted (pa_cons (pe_callTy (kcr_setOfN (w := w) (K := K) rfl rfl rfl) (by rfl) T.n_set bb_set (pa_cons (pv 1) pa_nil)) pa_nil))) (pg_name (i := 5) nd rfl (by first | exact .inl rfl | exact .inr rfl))
 (pss_cons (ps_set (i := 6) nd rfl (by first | exact .inl rfl | exact .inr rfl) (pe_ix (kix_list (K := K) rfl) (pe_ix (kix_list (K := K) rfl) (pv 0) (pv 5) (fun _ _ => rfl)) (pv 2) (fun _ _ => rfl)))
 (pss_one (ps_if (PW.pt (pw_and (pt_cmpR op_notN (pv 6) pe_non (nomark _)) (pw_and1 (pt_cmpR op_le (pv 6) (pv 3) (nomark _)))))
 (pss_one (ps_expr (pe_bm PySem.F.plainAttrs_list PySem.F.slot_list_append PySem.F.type_list_append mt_append (pv 4) (pa_cons (pe_tup (pa_cons (C8.pe_c c_sent hr (by decide) rfl (pa_cons (pv 1) (pa_cons (pv 5) (pa_cons (pv 2) pa_nil)))) (pa_cons (pv 6) pa_nil))) pa_nil))))
 pss_nil))))
 (pss_one (ps_ret (pe_callB (kcr_sortedPN (K := K) rfl hr.units) (by rfl) T.n_sorted bb_sorted (pa_cons (pv 4) pa_nil))))))), ?_⟩
  obtain ⟨a, rfl, ha⟩ := t.seq (K := K)
  have hlen := hs.1
  refine ⟨_, rfl, _, rfl, a, _, rfl, .inr ha, rfl, flatN s, _, rfl, ?_⟩
  show if inV (nV c) (s.map nV) = true then _ else _
  rw [inN]
  refine ite_b (fun c1 => ?_) (fun c1 => ?_)
  · have hcs : c ∈ s := of_decide_eq_true c1
    refine ⟨_, rfl, by show 2 ≤ sizeLine; decide, fun p hp => ?_⟩
    refine new_ind hp (upd _ p _) rfl fun H1 s1 e1 => ?_
    refine ⟨by show 1 ≤ sizeLine; decide, fun q hq => ?_⟩
    refine new_ind hq (upd _ q _) rfl fun H2 s2 e2 => ?_
    refine k _ _ [(.ref p, s)] (s1.trans s2) ⟨q, rfl, e2, fun x hx => ?_, by show 1 ≤ 1000; omega⟩ fun u => ?_
    · have : x = (.ref p, s) := by simpa using hx
      subst this
      exact ⟨p, .ref a, 0, rfl, s2 _ _ e1, .inr ⟨rfl, rfl⟩⟩
    · unfold Ans
      rw [if_pos rfl]
      constructor
      · intro hu
        have : u = s := by simpa using hu
        exact .inl ⟨hcs, this⟩
      · intro hu
        rcases hu with ⟨_, rfl⟩ | ⟨hn, _⟩
        · simp
        · exact absurd hcs hn
  have ncs : c ∉ s := of_decide_eq_false c1
  refine ⟨by show 0 ≤ sizeLine; decide, fun L hL => ?_⟩
  refine new_ind hL (upd _ L _) rfl fun H1 s1 e1 => ?_
  have t1 := t.mono s1.tup
  obtain ⟨a', ea, ha1⟩ := t1.seq (K := K)
  cases ea
  refine ⟨_, rfl, a, s, rfl, ha1, by omega, fun p cc hp hcc => ?_⟩
  refine new_ind hp (upd _ p _) rfl fun H2 s2 e2 => ?_
  refine ⟨p, _, cc, rfl, e2, by omega, fun is p2 hlt hmem hil hp2 => ?_⟩
  refine new_ind hp2 (upd _ p2 _) rfl fun H3 s3 e3 => ?_
  obtain ⟨ms, rfl⟩ := ints_nats (is := is) fun k hk => by
    have := (hmem k).mp hk
    obtain ⟨n, _, e⟩ := List.mem_map.mp (of_decide_eq_true this)
    exact ⟨n, e.symm⟩
  have hms : ∀ x, x ∈ ms ↔ x ∈ s := fun x => by
    rw [← mem_cast, hmem x, decide_eq_true_iff, mem_cast]
  have lms : ms.length ≤ 2 := by
    rw [List.length_map] at hil
    omega
  have e3' : H3 p2 = some (.lst (ms.map nV)) := by
    rw [e3, List.map_map]
    rfl
  have s03 := s1.trans (s2.trans s3)
  have nL : p2 ≠ L := (ne_of_none (s2 _ _ e1) hp2).symm
  refine ⟨p2, rfl, ⟨_, SqL.of e3'⟩, ?_⟩
  refine for_list (K := K) (a := p2) (xs := ms.map nV) (fun i σ H' => Same H H' ∧ H' p2 = some (.lst (ms.map nV)) ∧ ∃ (ps : List (V × List Nat)) (x5 x6 : Option V), σ = [some d, some (.ref a), some (nV c), some (nV reach), some (.ref L), x5, x6] ∧
      H' L = some (.lst (ps.map (·.1))) ∧ (∀ q ∈ ps, PairV TupN H' q.1 q.2) ∧ ps.length ≤ i ∧ ∀ u, u ∈ ps.map (·.2) ↔ ∃ x, x ∈ ms.take i ∧ RM m reach x c ∧ u.Perm (c :: s.erase x) ∧ u.Pairwise (· ≤ ·))
    ⟨s03, e3', [], _, _, rfl, (s2.trans s3) _ _ e1, fun q hq => (by cases hq), Nat.le_refl _, fun u => ⟨fun h => (by simp at h), fun ⟨x, hx, _⟩ => (by simp at hx)⟩⟩ (fun i σ H' _ q => SqL.of q.2.1) ?_ ?_
  · rintro i x σ H4 hi ⟨s4, hp4, ps, x5, x6, rfl, hL4, hps, hpl, hmm⟩
    rw [List.getElem?_map] at hi
    obtain ⟨y, hy, rfl⟩ := Option.map_eq_some_iff.mp hi
    have hil2 : i < ms.length := (List.getElem?_eq_some_iff.mp hy).1
    have hys : y ∈ s := (hms y).mp (List.mem_of_getElem? hy)
    have hyn : y < n := hs.2.2 y hys
    have tk : ms.take (i + 1) = ms.take i ++ [y] := by
      rw [List.take_succ, hy]
      rfl
    have lem : ∀ (ps' : List (V × List Nat)), (∀ u, u ∈ ps'.map (·.2) ↔ (u ∈ ps.map (·.2) ∨ (RM m reach y c ∧ u.Perm (c :: s.erase y) ∧ u.Pairwise (· ≤ ·)))) →
        ∀ u, u ∈ ps'.map (·.2) ↔ ∃ x, x ∈ ms.take (i + 1) ∧ RM m reach x c ∧ u.Perm (c :: s.erase x) ∧ u.Pairwise (· ≤ ·) := by
      intro ps' h u
      rw [h u, hmm u, tk]
      constructor
      · rintro (⟨x, hx, r⟩ | r)
        · exact ⟨x, List.mem_append_left _ hx, r⟩
        · exact ⟨y, by simp, r⟩
      · rintro ⟨x, hx, r⟩
        rcases List.mem_append.mp hx with hx | hx
        · exact .inl ⟨x, hx, r⟩
        · have : x = y := by simpa using hx
          subst this
          exact .inr r
    refine (tb.mono s4).get (i := y) (j := c) rfl rfl rfl hyn hc ?_
    refine ⟨_, rfl, rfl, _, rfl, ite_b (fun c2 => ?_) (fun c2 => ?_)⟩
    · obtain ⟨dd, hdd⟩ := notNon c2
      rw [hdd]
      refine ⟨_, rfl, _, rfl, _, _, rfl, rfl, _, rfl, ite_b (fun c3 => ?_) (fun c3 => ?_)⟩
      · have hle : dd ≤ reach := by
          have := of_decide_eq_true c3
          omega
        have t4 := t.mono s4.tup
        refine ⟨_, rfl, .inl ⟨rfl, _, SqL.of hL4⟩, ?_⟩
        refine ⟨_, rfl, _, rfl, _, rfl, s, y, c, _, rfl, t4, hys, by omega, fun v' H5 u s5 pm pw tv => ?_⟩
        refine ⟨_, rfl, by show 2 ≤ sizeLine; decide, fun q hq => ?_⟩
        refine new_ind hq (upd _ q _) rfl fun H6 s6 e6 => ?_
        have hL6 := (s5.trans s6) _ _ hL4
        refine ⟨L, _, _, rfl, rfl, hL6, Nat.lt_of_le_of_lt (m := 1000) (by rw [List.length_map]; omega) (by decide), ?_⟩
        have ts : TSame H6 (upd H6 L (.lst (ps.map (·.1) ++ [V.ref q]))) := TSame.upd hL6 id
        refine ⟨(s4.trans (s5.trans s6)).put hL _, ?_, ps ++ [(.ref q, u)], _, _, rfl, by rw [upd_same, List.map_append]; rfl, fun z hz => ?_, ?_, lem _ fun w => ?_⟩
        · rw [upd_ne]
          · exact (s5.trans s6) _ _ hp4
          · exact nL
        · rcases List.mem_append.mp hz with hz | hz
          · obtain ⟨q', y', l', e', h', t'⟩ := hps z hz
            exact ⟨q', y', l', e', ts _ _ True.intro ((s5.trans s6) _ _ h'), (t'.mono (s5.trans s6).tup).mono ts⟩
          · have : z = (.ref q, u) := by simpa using hz
            subst this
            exact ⟨q, v', dd, rfl, ts _ _ True.intro e6, (tv.mono s6.tup).mono ts⟩
        · rw [List.length_append]
          show ps.length + 1 ≤ i + 1
          omega
        · rw [List.map_append, List.mem_append]
          constructor
          · rintro (h | h)
            · exact .inl h
            · have : w = u := by simpa using h
              subst this
              exact .inr ⟨⟨dd, hdd, hle⟩, pm, pw⟩
          · rintro (h | ⟨_, pm', pw'⟩)
            · exact .inl h
            · have : w = u := sorted_same (pm'.trans pm.symm) pw' pw
              subst this
              exact .inr (by simp)
      · refine ⟨s4, hp4, ps, _, _, rfl, hL4, hps, by omega, lem _ fun w => ⟨.inl, ?_⟩⟩
        rintro (h | ⟨⟨d', e', l'⟩, _⟩)
        · exact h
        · rw [hdd] at e'
          injection e' with e'
          have := of_decide_eq_false c3
          omega
    · have e0 := isNonB c2
      refine ⟨s4, hp4, ps, _, _, rfl, hL4, hps, by omega, lem _ fun w => ⟨.inl, ?_⟩⟩
      rintro (h | ⟨⟨d', e', l'⟩, _⟩)
      · exact h
      · rw [e0] at e'
        cases e'
  · rintro σ H4 ⟨s4, hp4, ps, x5, x6, rfl, hL4, hps, hpl, hmm⟩
    have hmt : ms.take (ms.map nV).length = ms := by rw [List.length_map, List.take_length]
    rw [hmt] at hmm
    refine ⟨_, rfl, L, ps, rfl, SqL.of hL4, fun q hq => let ⟨q', y', l', e', h', t'⟩ := hps q hq; ⟨q', y', l', e', h', t'.rd⟩, fun qs r pm hr2 => ?_⟩
    refine new_ind hr2 (upd _ r _) rfl fun H5 s5 e5 => ?_
    refine k _ _ qs (s4.trans s5) ⟨r, rfl, e5, fun q hq => ?_, by rw [pm.length_eq]; rw [List.length_map] at hpl; omega⟩ fun u => ?_
    · obtain ⟨q', y', l', e', h', t'⟩ := hps q (pm.mem_iff.mp hq)
      exact ⟨q', y', l', e', s5 _ _ h', .inl (t'.mono s5.tup)⟩
    · rw [(pm.map _).mem_iff, hmm u]
      unfold Ans
      rw [if_pos rfl]
      constructor
      · rintro ⟨x, hx, r⟩
        exact .inr ⟨ncs, x, (hms x).mp hx, r⟩
      · rintro (⟨h, _⟩ | ⟨_, x, hx, r⟩)
        · exact absurd h ncs
        · exact ⟨x, (hms x).mpr hx, r⟩
end Ev
end
section
namespace Ev
open PySem L2
variable {P : Program} {w : World} {K : PySem.W.Frag} {mg : Str → Option Value} {base : Heap}

/-! ### answers_by_all -/
theorem scByAll : FnScope ["table", "stand", "call", "reach", "found", "other", "length"] ["table", "stand", "call", "reach"] (C8.fnScope sByAll) := ⟨rfl, rfl, rfl, by decide +kernel, rfl, by decide +kernel, by decide +kernel⟩
theorem permsN_iff {t u : List Nat} (h : t.length = 1 ∨ t.length = 2) : u ∈ permsN t ↔ u.Perm t := by
  match t, h with
  | [x], _ =>
    constructor
    · intro q
      have : u = [x] := by simpa [permsN] using q
      rw [this]
    · intro q
      have := List.perm_singleton.mp q
      rw [this]
      simp [permsN]
  | [x, y], _ =>
    constructor
    · intro q
      have : u = [x, y] ∨ u = [y, x] := by simpa [permsN] using q
      rcases this with e | e
      · rw [e]
      · rw [e]
        exact List.Perm.swap _ _ _
    · intro q
      have hl := q.length_eq
      match u, hl with
      | [a, b], _ =>
        have ha : a ∈ [x, y] := q.mem_iff.mp (by simp)
        rcases List.mem_cons.mp ha with rfl | ha
        · have q2 := (List.perm_cons a).mp q
          have := List.perm_singleton.mp q2
          injection this with this
          subst this
          simp [permsN]
        · have : a = y := by simpa using ha
          subst this
          have q2 : [a, b].Perm [a, x] := q.trans (List.Perm.swap _ _ _)
          have := List.perm_singleton.mp ((List.perm_cons a).mp q2)
          injection this with this
          subst this
          simp [permsN]
theorem pairOk_iff {m : Mx} {reach : Nat} {s t : List Nat} (hl : s.length = t.length) (h : t.length = 1 ∨ t.length = 2) :
    PairOk m reach s t ↔ ∃ o : List Nat, o.Perm t ∧ ∀ (k x y : Nat), s[k]? = some x → o[k]? = some y → RM m reach x y := by
  constructor
  · rintro ⟨u, hu, g⟩
    exact ⟨u, (permsN_iff h).mp hu, (good_iff (hl.trans (permsN_len hu).symm)).mp g⟩
  · rintro ⟨o, ho, g⟩
    have hu := (permsN_iff h).mpr ho
    exact ⟨o, hu, (good_iff (hl.trans (permsN_len hu).symm)).mpr g⟩
theorem ok_answers_by_all {f : Addr} {fd : FuncData} (F : C8.Def K mg "answers_by_all" sByAll f fd) (b : Binds K fd ["table", "stand", "call", "reach"] []) (T : Txt K mg) (c_all_stands : C8.Cal P w K mg base 1 "all_stands" spAllStands [])
    (c_paired_length : C8.Cal P w K mg base 1 "paired_length" spPaired []) : C8.Cal P w K mg base 2 "answers_by_all" (spAns false) [] := by
  refine C8.cal0 F b .nil scByAll (fun vs H Q E h => ?_) (fun cdv A outer s H vs Q E hr h => ?_)
  · obtain ⟨n, h, c, reach, m, s, d, v, rfl, _⟩ := h
    rfl
  obtain ⟨n, h, c, reach, m, s, d, v, rfl, tb, t, hs, hn, h1, h2, hc, k⟩ := h
  have nd := scByAll.nd
  refine ⟨_, (pss_cons (ps_set (i := 4) nd rfl (by first | exact .inl rfl | exact .inr rfl) (pe_lst pa_nil))
 (pss_cons (ps_for PassesOwn.never rfl (kpi_list (K := K) rfl (C8.pe_c c_all_stands hr (by decide) rfl (pa_cons (pe_callB (kcr_len (K := K) rfl) (by rfl) T.n_len bb_len (pa_cons (pv 0) pa_nil)) (pa_cons (pe_callB (kcr_len (K := K) rfl) (by rfl) T.n_len bb_len (pa_cons (pv 1) pa_nil)) pa_nil)))) (pg_name (i := 5) nd rfl (by first | exact .inl rfl | exact .inr rfl))
 (pss_one (ps_if (pt_cmpR (kop_in_seq (K := K) rfl) (pv 2) (pv 5) (by rfl))
 (pss_cons (ps_set (i := 6) nd rfl (by first | exact .inl rfl | exact .inr rfl) (C8.pe_c c_paired_length hr (by decide) rfl (pa_cons (pv 0) (pa_cons (pv 1) (pa_cons (pv 5) (pa_cons (pv 3) pa_nil))))))
 (pss_one (ps_if (pt_cmpR op_notN (pv 6) pe_non (nomark _))
 (pss_one (ps_expr (pe_bm PySem.F.plainAttrs_list PySem.F.slot_list_append PySem.F.type_list_append mt_append (pv 4) (pa_cons (pe_tup (pa_cons (pv 5) (pa_cons (pv 6) pa_nil))) pa_nil))))
 pss_nil)))
 pss_nil)))
 (pss_one (ps_ret (pv 4))))), ?_⟩
  obtain ⟨a, rfl, ha⟩ := t.seq (K := K)
  have hlen := hs.1
  refine ⟨by show 0 ≤ sizeLine; decide, fun L hL => ?_⟩
  refine new_ind hL (upd _ L _) rfl fun H1 s1 e1 => ?_
  obtain ⟨D, as, rfl, hD, hal, _⟩ := id (tb.mono s1)
  obtain ⟨a', ea, ha1⟩ := (t.mono s1.tup).seq (K := K)
  cases ea
  refine ⟨_, rfl, D, _, rfl, .inl (SqL.of hD), ?_⟩
  refine ⟨_, rfl, a, _, rfl, .inr ha1, n, h, ?_, hn, h2, fun v' H2 s2 lt => ?_⟩
  · rw [List.length_map, List.length_map, hal, hlen]
    rfl
  obtain ⟨B, xs, rfl, hB, hx⟩ := lt
  have lx := Paired.len hx
  have few := stands_few (n := n) (h := h) hn h2
  refine ⟨B, rfl, ⟨xs, SqL.of hB⟩, ?_⟩
  refine for_list (K := K) (a := B) (xs := xs) (fun i σ H' => Same H H' ∧ H' B = some (.lst xs) ∧ Tups H' xs (stands n h) ∧ ∃ (ps : List (V × List Nat)) (x5 x6 : Option V), σ = [some (.ref D), some (.ref a), some (nV c), some (nV reach), some (.ref L), x5, x6] ∧
      H' L = some (.lst (ps.map (·.1))) ∧ (∀ q ∈ ps, PairV TupN H' q.1 q.2) ∧ ps.length ≤ i ∧ ∀ u, u ∈ ps.map (·.2) ↔ u ∈ (stands n h).take i ∧ c ∈ u ∧ PairOk m reach s u)
    ⟨s1.trans s2, hB, hx, [], _, _, rfl, s2 _ _ e1, fun q hq => (by cases hq), Nat.le_refl _, fun u => ⟨fun h => (by simp at h), fun ⟨h, _⟩ => (by simp at h)⟩⟩ (fun i σ H' _ q => SqL.of q.2.1) ?_ ?_
  · rintro i x σ H3 hi ⟨s3, hB3, hx3, ps, x5, x6, rfl, hL3, hps, hpl, hmm⟩
    obtain ⟨o, ho, tx⟩ := Paired.at_ hx3 hi
    have hil2 : i < xs.length := (List.getElem?_eq_some_iff.mp hi).1
    have so : Stand n h o := mem_stands.mp (List.mem_of_getElem? ho)
    have nL : B ≠ L := by
      rintro rfl
      rw [hB3] at hL3
      have : H1 B = some (.lst []) := e1
      have q := s2 _ _ this
      rw [hB] at q
      injection q with q
      injection q with q
      rw [q] at hil2
      exact absurd hil2 (Nat.not_lt_zero _)
    have tk : (stands n h).take (i + 1) = (stands n h).take i ++ [o] := by
      rw [List.take_succ, ho]
      rfl
    have lem : ∀ (ps' : List (V × List Nat)), (∀ u, u ∈ ps'.map (·.2) ↔ (u ∈ ps.map (·.2) ∨ (u = o ∧ c ∈ u ∧ PairOk m reach s u))) →
        ∀ u, u ∈ ps'.map (·.2) ↔ u ∈ (stands n h).take (i + 1) ∧ c ∈ u ∧ PairOk m reach s u := by
      intro ps' h u
      rw [h u, hmm u, tk, List.mem_append]
      constructor
      · rintro (⟨hx, r⟩ | ⟨rfl, r⟩)
        · exact ⟨.inl hx, r⟩
        · exact ⟨.inr (by simp), r⟩
      · rintro ⟨hx | hx, r⟩
        · exact .inl ⟨hx, r⟩
        · exact .inr ⟨by simpa using hx, r⟩
    obtain ⟨oa, rfl, hoa⟩ := id tx
    refine ⟨_, rfl, _, rfl, oa, _, rfl, .inr (SqT.of hoa), rfl, flatN o, _, rfl, ?_⟩
    show if inV (nV c) (o.map nV) = true then _ else _
    rw [inN]
    refine ite_b (fun c1 => ?_) (fun c1 => ?_)
    · have hco : c ∈ o := of_decide_eq_true c1
      have hlo : s.length = o.length := by rw [hlen, so.1]
      have h12 : o.length = 1 ∨ o.length = 2 := by
        have := so.1
        omega
      refine ⟨_, rfl, _, rfl, _, rfl, _, rfl, n, reach, m, s, o, _, _, _, rfl, tb.mono s3, (t.mono s3.tup).rd, tx, hlo, h12, hs.2.2, so.2.2, fun r H4 s4 hr4 => ?_⟩
      refine ⟨_, rfl, rfl, _, rfl, ite_b (fun c2 => ?_) (fun c2 => ?_)⟩
      · obtain ⟨ln, rfl⟩ := notNon c2
        have ok := hr4.mp ⟨ln, rfl⟩
        refine ⟨_, rfl, .inl ⟨rfl, _, SqL.of (s4 _ _ hL3)⟩, ?_⟩
        refine ⟨_, rfl, _, rfl, by show 2 ≤ sizeLine; decide, fun q hq => ?_⟩
        refine new_ind hq (upd _ q _) rfl fun H5 s5 e5 => ?_
        have hL5 := (s4.trans s5) _ _ hL3
        refine ⟨L, _, _, rfl, rfl, hL5, Nat.lt_of_le_of_lt (m := 1000) (by rw [List.length_map]; omega) (by decide), ?_⟩
        have ts : TSame H5 (upd H5 L (.lst (ps.map (·.1) ++ [V.ref q]))) := TSame.upd hL5 id
        refine ⟨(s3.trans (s4.trans s5)).put hL _, ?_, (hx3.mono (s4.trans s5).tup).mono ts, ps ++ [(.ref q, o)], _, _, rfl, by rw [upd_same, List.map_append]; rfl, fun z hz => ?_, ?_, lem _ fun w => ?_⟩
        · rw [upd_ne nL]
          exact (s4.trans s5) _ _ hB3
        · rcases List.mem_append.mp hz with hz | hz
          · obtain ⟨q', y', l', e', h', t'⟩ := hps z hz
            exact ⟨q', y', l', e', ts _ _ True.intro ((s4.trans s5) _ _ h'), (t'.mono (s4.trans s5).tup).mono ts⟩
          · have : z = (.ref q, o) := by simpa using hz
            subst this
            exact ⟨q, .ref oa, ln, rfl, ts _ _ True.intro e5, (tx.mono (s4.trans s5).tup).mono ts⟩
        · rw [List.length_append]
          show ps.length + 1 ≤ i + 1
          omega
        · rw [List.map_append, List.mem_append]
          constructor
          · rintro (h | h)
            · exact .inl h
            · have : w = o := by simpa using h
              subst this
              exact .inr ⟨rfl, hco, ok⟩
          · rintro (h | ⟨rfl, _⟩)
            · exact .inl h
            · exact .inr (by simp)
      · have e0 := isNonB c2
        refine ⟨s3.trans s4, s4 _ _ hB3, hx3.mono s4.tup, ps, _, _, rfl, s4 _ _ hL3, fun q hq => ?_, by omega, lem _ fun w => ⟨.inl, ?_⟩⟩
        · obtain ⟨q', y', l', e', h', t'⟩ := hps q hq
          exact ⟨q', y', l', e', s4 _ _ h', t'.mono s4.tup⟩
        · rintro (h | ⟨rfl, _, h⟩)
          · exact h
          · obtain ⟨ln, e⟩ := hr4.mpr h
            rw [e0] at e
            cases e
    · have nco : c ∉ o := of_decide_eq_false c1
      refine ⟨s3, hB3, hx3, ps, _, _, rfl, hL3, hps, by omega, lem _ fun w => ⟨.inl, ?_⟩⟩
      rintro (h | ⟨rfl, h, _⟩)
      · exact h
      · exact absurd h nco
  · rintro σ H3 ⟨s3, hB3, hx3, ps, x5, x6, rfl, hL3, hps, hpl, hmm⟩
    have hmt : (stands n h).take xs.length = stands n h := by rw [lx, List.take_length]
    rw [hmt] at hmm
    refine ⟨_, rfl, k _ _ ps s3 ⟨L, rfl, hL3, fun q hq => ?_, by omega⟩ fun u => ?_⟩
    · obtain ⟨q', y', l', e', h', t'⟩ := hps q hq
      exact ⟨q', y', l', e', h', .inl t'⟩
    · rw [hmm u, mem_stands]
      unfold Ans
      rw [if_neg (by decide), hlen]
      have pk : Stand n h u → (PairOk m reach s u ↔ ∃ o : List Nat, o.Perm u ∧ ∀ (k x y : Nat), s[k]? = some x → o[k]? = some y → RM m reach x y) := fun su =>
        pairOk_iff (by rw [hlen, su.1]) (by have := su.1; omega)
      constructor
      · rintro ⟨su, cu, p⟩
        exact ⟨su, cu, (pk su).mp p⟩
      · rintro ⟨su, cu, p⟩
        exact ⟨su, cu, (pk su).mpr p⟩
end Ev
end
section
/-! {k: v for ..} whose keys are tuples -/
namespace Ev
open PySem PySem.Spec PyProof.Rows L2
section
variable {X : Cx}
/-- a tuple key is put in -/
theorem dT_put {pins : List (Addr × Obj)} {τ : L2.St} {G : Hp} {s : Shared} {E : Value → Shared → Prop} {D b : Addr} {m : List (List Key × V)} {k : List Key} {z : V} {r : Value} {Q : Unit → Shared → Prop} (hu : X.A.units + 1 < cLine) (J : Inv X pins τ G s)
    (hD : G D = some (.dT m)) (hb : G b = some (.tup (k.map kV))) (hm : m.length < sizeLine) (rz : RelV z r) (q : ∀ s', Inv X pins τ (upd G D (.dT (putK m k z))) s' → Q () s') : wpAny (model X.prog X.w) X.A (dictSet D (.ref b) r) Q E s := by
  obtain ⟨_, notMod, es, rel, dd⟩ := dt_of J.hok hD
  have room : es.length ≤ sizeLine := Nat.le_of_lt (Nat.lt_of_le_of_lt (Nat.le_of_eq (Paired.length rel).symm) hm)
  have room' : (putK m k z).length ≤ sizeLine := Nat.le_trans (length_putK m k z) hm
  refine wpAny_dictSet_heap (hsz := room) (show (tupleKind (mixKind X.prog X.w)).room X.A from Nat.lt_of_succ_lt hu) (key_of J.hok hb) dd fun h' dd' same => q _ ?_
  obtain ⟨ob, rows, ep, e1, e2, e3, e4, _, e5⟩ := dd'
  refine d_write J (by rw [hD]; exact True.intro) same ⟨ob, e1⟩ ⟨room', notMod, _, (rel.put k hb rz).keeps fun c ys ec => ?_, ob, rows, ep, e1, e2, e3, e4, e5⟩
  rw [upd_ne (ne_of ec hD fun q => nomatch q)]
  exact ec
/-- what the comprehension asks: D its new dict -/
def tDcT (wi : TI) (g : TG) (tt : TT) (tk tv : TE) (vs : List Nat) : TE := fun τ G Q => wi τ G fun J G1 => ∀ D, G1 D = none → ∃ W : Nat → Nat → Hp → Prop, (∃ m, W 0 m (upd G1 D (.dT []))) ∧ ∀ i m G, W i m G →
  (J.stop i G ∧ Q (.ref D) G) ∨ (J.go i G ∧ ∃ Nx : Hp → Prop, (∀ G', Nx G' → ∃ m', m' < m ∧ W (i + 1) m' G') ∧ ∀ x G', J.yld i G x G' → g x (wipe τ vs) G' fun τ2 G2 => wipe τ2 vs = wipe τ vs ∧ tt τ2 G2 fun yes G3 =>
    if yes = true then tk τ2 G3 fun y G4 => tv τ2 G4 fun z G5 => ∃ b kvs k, y = .ref b ∧ G5 D = some (.dT kvs) ∧ G5 b = some (.tup (k.map kV)) ∧ kvs.length < sizeLine ∧ Nx (upd G5 D (.dT (putK kvs k z))) else Nx G3)
variable {pins : List (Addr × Obj)} {s0 : Shared} {τ : L2.St} {G0 : Hp} {Q0 : VK} {ke ve tg src : Expr} {cs : List Expr} {sc : Scope} {own : List (Str × Nat)} {pos pos2 : Pos} {wi : TI} {g : TG} {tt : TT} {tk tv : TE}
/-- a rule that holds in every block of this comprehension -/
abbrev InBlk (X : Cx) (sc : Scope) (R : Cx → Prop) : Prop := ∀ (z : Shared) (G : Hp) (B : Addr) (cl : List (Str × Addr)) (fp : List Addr), R (X.blk z G sc (compEnvC sc cl B X.env) fp)
theorem pe_dcT (hu : X.A.units + 1 < cLine) (hc : X.calm = true) (hN : X.N.Nodup) (hi : PI X tg src wi) (ok : BlkOk X.N X.env.scope sc own) (hg : InBlk X sc fun Y => PG Y tg g) (ht : InBlk X sc fun Y => PTs Y cs tt) (hk : InBlk X sc fun Y => PE Y ke tk)
    (hv : InBlk X sc fun Y => PE Y ve tv) (plain : ∀ x, foldedSetIterable src X.env x = pure x := by intro _; rfl) : PE X (.DictComp ke ve [⟨tg, src, cs, 0⟩] sc pos) (tDcT wi g tt tk tv (own.map (·.2))) := by
  refine ⟨fun pins s0 τ G0 Q0 I0 h => ?_⟩
  rw [arm_eval_DictComp]
  have frees : ∀ y ∈ sc.names, y.2 = .free → ∃ c, X.env.cells.lookup y.1 = some c := fun y hy e => (ok.free y hy e).elim (fun a => I0.ok.has _ (.inl a)) fun a => I0.ok.has _ (.inr a)
  refine wpAny_comprehension_free rfl plain (closure_ok frees) ok.kind (fun y hy e => (ok.uniq y hy).trans (congrArg some e)) (thn (hi.run pins s0 τ G0 _ I0 h) fun lv za hx => thn hx fun iv zb hb => ?_)
  obtain ⟨it, fp, tn, J, G, rfl, IG, T, tnG, fpG, q⟩ := hb
  refine wpAny_newObj_type (newEnv_comp ?_)
  generalize eD : zb.heap.objs.size = D
  have freshD : G D = none := IG.hok.fresh (Nat.le_of_eq eD)
  obtain ⟨W, ⟨m0, w0⟩, turn⟩ := q D freshD
  generalize ezc : ({ zb with heap := zb.heap.push { cls := .type "dict", data := .dict #[] } } : Shared) = zc
  have hzc : zc.heap = zb.heap.push { cls := .type "dict", data := .dict #[] } := by rw [← ezc]
  have IC : Inv X pins τ (upd G D (.dT [])) zc := by
    subst ezc
    subst eD
    exact IG.laid (t' := zb.toks) (fun _ _ q => Heap.get?_push_of_some _ q) (Nat.le_refl _) (dt_empty zb.heap IG.big)
  have below : ∀ b ∈ fp, b < zb.heap.objs.size := fun b hb => let ⟨_, e, _⟩ := T.obj _ _ tnG b hb; Heap.lt_size e
  have fpC : ∀ b ∈ fp, FpOk X pins (upd G D (.dT [])) b ∧ b < zc.heap.objs.size := fun b hb => by
    have lt := below b hb
    have ne : b ≠ D := eD ▸ Nat.ne_of_lt lt
    refine ⟨⟨(upd_ne ne).trans (fpG b hb).1, (fpG b hb).2⟩, ?_⟩
    rw [hzc, Heap.size_push]
    exact Nat.lt_succ_of_lt lt
  have tnC : tn 0 zc.heap := T.keep _ _ _ tnG fun b _ o e => hzc ▸ Heap.get?_push_of_some _ e
  have IB := block_start IC ok hN fpC
  let cl := cellsFrom (zc.heap.objs.size + 1) sc.names (cloFrom X.env.cells sc.names [])
  have ruleG := hg zc (upd G D (.dT [])) zc.heap.objs.size cl fp
  have ruleT := ht zc (upd G D (.dT [])) zc.heap.objs.size cl fp
  have ruleK := hk zc (upd G D (.dT [])) zc.heap.objs.size cl fp
  have ruleV := hv zc (upd G D (.dT [])) zc.heap.objs.size cl fp
  change codeAny _ _ (.compStart (.DictComp ke ve [⟨tg, src, cs, 0⟩] sc pos) 0 (.ref it) (.ref D) (compEnvC sc cl zc.heap.objs.size X.env)) (compPost (model X.prog X.w) X.A X.xe none (EP X pins τ Q0) (.ref D) zc.heap.objs.size)
    { zc with heap := pushCells (zc.heap.push { cls := .type "dict", data := .dict #[] }) sc.names }
  have none0 : ∀ b ∈ fp, (upd G D (.dT [])) b = none := fun b hb => (fpC b hb).1.1
  generalize eEnv : compEnvC sc cl zc.heap.objs.size X.env = env at IB ruleG ruleT ruleK ruleV ⊢
  have envL : env.locals = zc.heap.objs.size := by
    rw [← eEnv]
    rfl
  generalize eGC : upd G D (.dT []) = GC at IC IB ruleG ruleT ruleK ruleV w0 none0 fpC
  generalize ezd : ({ zc with heap := pushCells (zc.heap.push { cls := .type "dict", data := .dict #[] }) sc.names } : Shared) = zd at IB ⊢
  have tnD : tn 0 zd.heap := T.keep _ _ _ tnC fun b _ o e => ezd ▸ pushCells_keeps _ _ _ _ (Heap.get?_push_of_some _ e)
  have apart : ∀ {τ' : L2.St} {G' : Hp} {z' : Shared}, Inv (X.blk zc GC sc env fp) [] τ' G' z' → (∀ b ∈ fp, G' b = none) → ∀ b ∈ fp, FpOk (X.blk zc GC sc env fp) [] G' b := fun {τ' G' z'} I' hn b hb =>
    ⟨hn b hb, (I'.ok.exf b hb).1, I'.ok.exfs b hb, .inl hb, fun y c e => (I'.ok.exf b hb).2 y c e, fun p (hp : p ∈ ([] : List (Addr × Obj)) ++ []) => absurd hp (by simp)⟩
  have loop : codeAny (model X.prog X.w) X.A (.compLoop (.DictComp ke ve [⟨tg, src, cs, 0⟩] sc pos) 0 (.ref it) (.ref D) env) (compPost (model X.prog X.w) X.A X.xe none (EP X pins τ Q0) (.ref D) zc.heap.objs.size) zd := by
    refine compLoop_anyD (fun n z => ∃ i G', Inv (X.blk zc GC sc env fp) [] (wipe τ (own.map (·.2))) G' z ∧ tn i z.heap ∧ (∀ b ∈ fp, G' b = none) ∧ W i n G') ?_ m0 ⟨0, GC, IB, tnD, none0, w0⟩
    rintro n ze ⟨i, GE, IE, tnE, noneE, wE⟩
    rcases turn i n GE wE with ⟨halt, fin⟩ | ⟨go, Nx, hNx, step⟩
    · refine thnF (T.done (X.blk zc GC sc env fp) rfl rfl rfl hc i [] ze _ GE (fun _ _ => False) IE (apart IE noneE) tnE halt) fun r zf ⟨er, IF⟩ => ?_
      subst er
      have back : Inv X pins τ GE zf := IC.call' (ch := fp) IF.os IF.base IF.hok IF.bare fun b hb => ⟨(fpC b hb).1.2.2.2.1, (fpC b hb).1.2.1, (fpC b hb).1.2.2.2.2.1, (fpC b hb).1.2.2.2.2.2⟩
      have noneC : GE zc.heap.objs.size = none := envL ▸ (show GE env.locals = none from IF.free)
      obtain ⟨mm, ns, _⟩ := IF.loc
      have ns' : zf.heap.Ns zc.heap.objs.size mm := envL ▸ (show zf.heap.Ns env.locals mm from ns)
      obtain ⟨f0, f1, f2, f3, f4, f5⟩ := IC.fpOk (Nat.le_refl _) noneC
      exact ⟨mm, ns', fun h' sb => ⟨.ref D, GE, back.turned (t' := zf.toks) (fun b o hb e => (sb.2 b hb).trans e) f0 f1 f3 f4 f5, rfl, fin⟩⟩
    · refine thnF (T.item (X.blk zc GC sc env fp) rfl rfl rfl hc i [] ze _ GE (fun _ _ => False) IE (apart IE noneE) tnE go) fun r zf ⟨u, er, hf⟩ => ?_
      subst er
      refine thnF hf fun _ zg ⟨x, GG, IG', rx, yx, tnG', noneG⟩ => ?_
      have IP := IG'.pinned (apart IG' noneG) (T.obj _ _ tnG')
      refine thnF (ruleG.run _ zg _ GG x u _ IP rx (step x GG yx)) fun _ zh ⟨τh, GH, IH, wh, qh⟩ => ?_
      refine thnF (ruleT.run _ zh τh GH _ IH qh) fun yes zi ⟨GI, II, qi⟩ => ?_
      have len : (wipe τ (own.map (·.2))).length = τh.length := by rw [← wh, wipe_length]
      have again : ∀ {z' : Shared} {G' : Hp}, Inv (X.blk zc GC sc env fp) ([] ++ pinsAt fp zg.heap) τh G' z' → Nx G' → ∃ m, m < n ∧ ∃ i G', Inv (X.blk zc GC sc env fp) [] (wipe τ (own.map (·.2))) G' z' ∧ tn i z'.heap ∧ (∀ b ∈ fp, G' b = none) ∧ W i m G' := by
        intro z' G' I' nx
        obtain ⟨m', lt, w'⟩ := hNx G' nx
        have stays : ∀ b ∈ fp, ∀ o, zg.heap.get? b = some o → z'.heap.get? b = some o ∧ G' b = none := fun b hb o e => by
          have z := I'.pin (b, o) (List.mem_append_right _ (List.mem_append_right _ (mem_pinsAt hb e)))
          exact ⟨z.1, z.2.1⟩
        refine ⟨m', lt, i + 1, G', (I'.unpinned (pins := [])).weak len (fun j v e => (wipe_some (wh ▸ e)).1), T.keep _ _ _ tnG' fun b hb o e => (stays b hb o e).1, fun b hb => ?_, w'⟩
        obtain ⟨o, e, _⟩ := T.obj _ _ tnG' b hb
        exact (stays b hb o e).2
      cases yes with
      | false =>
        rw [if_neg Bool.false_ne_true] at qi ⊢
        exact again II qi
      | true =>
        rw [if_pos rfl] at qi ⊢
        refine thnF (ruleK.run _ zi τh GI _ II qi) fun kv zj ⟨y, GJ, IJ, ry, qj⟩ => ?_
        refine thnF (ruleV.run _ zj τh GJ _ IJ qj) fun vv zk ⟨z, GK, IK, rz, b, kvs, k, ey, hD, hb, lt, nx⟩ => ?_
        subst ey
        cases ry
        exact dT_put (X := X.blk zc GC sc env fp) hu IK hD hb lt rz fun zl IL => again IL nx
  exact codeAny_compStart_dict loop (T.self X.A 0 _ _ _ tnD loop)
end
end Ev
end
section
/-! dict comprehensions over a list; the dict of steps -/
namespace Ev
open PySem PySem.Spec PyProof.Rows L2
theorem dcT_list {K : PySem.W.Frag} {a : Addr} {xs : List V} {g : TG} {tt : TT} {tk tv : TE} {vs : List Nat} {τ : L2.St} {G1 : Hp} {D : Addr} {Qd : Hp → Prop} (Pv : Nat → Hp → Prop) (h0 : Pv 0 (upd G1 D (.dT []))) (hl : ∀ i G, i ≤ xs.length → Pv i G → SqL K G a xs)
    (hs : ∀ i x G, xs[i]? = some x → Pv i G → g x (wipe τ vs) G fun τ2 G2 => wipe τ2 vs = wipe τ vs ∧ tt τ2 G2 fun yes G3 =>
      if yes = true then tk τ2 G3 fun y G4 => tv τ2 G4 fun z G5 => ∃ b kvs k, y = .ref b ∧ G5 D = some (.dT kvs) ∧ G5 b = some (.tup (k.map kV)) ∧ kvs.length < sizeLine ∧ Pv (i + 1) (upd G5 D (.dT (putK kvs k z))) else Pv (i + 1) G3) (hd : ∀ G, Pv xs.length G → Qd G) :
    ∃ W : Nat → Nat → Hp → Prop, (∃ m, W 0 m (upd G1 D (.dT []))) ∧ ∀ i m G, W i m G →
      ((Itl K a).stop i G ∧ Qd G) ∨ ((Itl K a).go i G ∧ ∃ Nx : Hp → Prop, (∀ G', Nx G' → ∃ m', m' < m ∧ W (i + 1) m' G') ∧ ∀ x G', (Itl K a).yld i G x G' → g x (wipe τ vs) G' fun τ2 G2 => wipe τ2 vs = wipe τ vs ∧ tt τ2 G2 fun yes G3 =>
        if yes = true then tk τ2 G3 fun y G4 => tv τ2 G4 fun z G5 => ∃ b kvs k, y = .ref b ∧ G5 D = some (.dT kvs) ∧ G5 b = some (.tup (k.map kV)) ∧ kvs.length < sizeLine ∧ Nx (upd G5 D (.dT (putK kvs k z))) else Nx G3) := by
  refine ⟨fun i m G => m + i = xs.length ∧ Pv i G, ⟨xs.length, rfl, h0⟩, ?_⟩
  rintro i m G ⟨hm, hp⟩
  have q := hl i G (by omega) hp
  by_cases e : i < xs.length
  · refine .inr ⟨⟨xs, xs[i], q, List.getElem?_eq_getElem e⟩, Pv (i + 1), fun G' p' => ⟨m - 1, by omega, by omega, p'⟩, ?_⟩
    rintro x G' ⟨rfl, y⟩
    exact hs i x _ (y xs q) hp
  · have e2 : i = xs.length := by omega
    subst e2
    exact .inl ⟨⟨xs, q, Nat.le_refl _⟩, hd G hp⟩
theorem dcK_list {K : PySem.W.Frag} {a : Addr} {xs : List V} {g : TG} {tt : TT} {tk tv : TE} {vs : List Nat} {τ : L2.St} {G1 : Hp} {D : Addr} {Qd : Hp → Prop} (Pv : Nat → Hp → Prop) (h0 : Pv 0 (upd G1 D (.dK []))) (hl : ∀ i G, i ≤ xs.length → Pv i G → SqL K G a xs)
    (hs : ∀ i x G, xs[i]? = some x → Pv i G → g x (wipe τ vs) G fun τ2 G2 => wipe τ2 vs = wipe τ vs ∧ tt τ2 G2 fun yes G3 =>
      if yes = true then tk τ2 G3 fun y G4 => tv τ2 G4 fun z G5 => ∃ kvs k, y = kV k ∧ G5 D = some (.dK kvs) ∧ kvs.length < sizeLine ∧ Pv (i + 1) (upd G5 D (.dK (putK kvs k z))) else Pv (i + 1) G3) (hd : ∀ G, Pv xs.length G → Qd G) :
    ∃ W : Nat → Nat → Hp → Prop, (∃ m, W 0 m (upd G1 D (.dK []))) ∧ ∀ i m G, W i m G →
      ((Itl K a).stop i G ∧ Qd G) ∨ ((Itl K a).go i G ∧ ∃ Nx : Hp → Prop, (∀ G', Nx G' → ∃ m', m' < m ∧ W (i + 1) m' G') ∧ ∀ x G', (Itl K a).yld i G x G' → g x (wipe τ vs) G' fun τ2 G2 => wipe τ2 vs = wipe τ vs ∧ tt τ2 G2 fun yes G3 =>
        if yes = true then tk τ2 G3 fun y G4 => tv τ2 G4 fun z G5 => ∃ kvs k, y = kV k ∧ G5 D = some (.dK kvs) ∧ kvs.length < sizeLine ∧ Nx (upd G5 D (.dK (putK kvs k z))) else Nx G3) := by
  refine ⟨fun i m G => m + i = xs.length ∧ Pv i G, ⟨xs.length, rfl, h0⟩, ?_⟩
  rintro i m G ⟨hm, hp⟩
  have q := hl i G (by omega) hp
  by_cases e : i < xs.length
  · refine .inr ⟨⟨xs, xs[i], q, List.getElem?_eq_getElem e⟩, Pv (i + 1), fun G' p' => ⟨m - 1, by omega, by omega, p'⟩, ?_⟩
    rintro x G' ⟨rfl, y⟩
    exact hs i x _ (y xs q) hp
  · have e2 : i = xs.length := by omega
    subst e2
    exact .inl ⟨⟨xs, q, Nat.le_refl _⟩, hd G hp⟩
/-- a stand as a dict's key -/
def kk (s : List Nat) : List Key := s.map fun n : Nat => .inl (n : Int)
theorem kk_map (s : List Nat) : (kk s).map kV = s.map nV := by
  unfold kk
  rw [List.map_map]
  rfl
theorem kk_inj : ∀ {s t : List Nat}, kk s = kk t → s = t
  | [], [], _ => rfl
  | [], b :: t, h => by cases h
  | a :: s, [], h => by cases h
  | a :: s, b :: t, h => by
    injection h with h1 h2
    injection h1 with h1
    have e : a = b := by omega
    rw [e, kk_inj h2]
/-- the answers of a stand to each call: a dict of rows -/
def CallsV (T : Hp → V → List Nat → Prop) (H : Hp) (z : V) (n : Nat) (B : Nat → List Nat → Prop) : Prop := ∃ E kvs, z = .ref E ∧ H E = some (.dK kvs) ∧ kvs.length = n ∧
  ∀ (c : Nat) p, kvs[c]? = some p → p.1 = .inl (c : Int) ∧ ∃ ps, RowV T H p.2 ps ∧ ∀ t, t ∈ ps.map (·.2) ↔ B c t
def StepsV (H : Hp) (v : V) (n : Nat) (ss : List (List Nat)) (A : AR) : Prop := ∃ D kvs, v = .ref D ∧ H D = some (.dT kvs) ∧ kvs.length = ss.length ∧
  ∀ (i : Nat) p s, kvs[i]? = some p → ss[i]? = some s → p.1 = kk s ∧ CallsV TupN H p.2 n (A s)
theorem CallsV.mono {T T' : Hp → V → List Nat → Prop} {H H' : Hp} {z : V} {n : Nat} {B : Nat → List Nat → Prop} (h : CallsV T H z n B) (s : Same H H') (k : ∀ y t, T H y t → T' H' y t) : CallsV T' H' z n B := by
  obtain ⟨E, kvs, e, hE, hl, q⟩ := h
  exact ⟨E, kvs, e, s _ _ hE, hl, fun c p hp => let ⟨q1, ps, q2, q3⟩ := q c p hp; ⟨q1, ps, q2.mono s k, q3⟩⟩
/-- lists, tuples, dicts with int keys stay -/
def Plain : HO → Prop
  | .lst _ => True
  | .tup _ => True
  | .dK _ => True
  | _ => False
def KeepR (H H' : Hp) : Prop := ∀ b o, Plain o → H b = some o → H' b = some o
theorem _root_.L2.Same.keepR {H H' : Hp} (s : Same H H') : KeepR H H' := fun b o _ h => s b o h
theorem KeepR.trans {H H1 H2 : Hp} (a : KeepR H H1) (b : KeepR H1 H2) : KeepR H H2 := fun c o p h => b c o p (a c o p h)
theorem KeepR.upd {H : Hp} {p : Addr} {v : HO} (h : ∀ o, H p = some o → ¬ Plain o) : KeepR H (L2.upd H p v) := fun b o q e => by
  rw [upd_ne]
  · exact e
  · rintro rfl
    exact h o e q
/-- lists and tuples stay -/
def LT : HO → Prop
  | .lst _ => True
  | .tup _ => True
  | _ => False
def KeepL (H H' : Hp) : Prop := ∀ b o, LT o → H b = some o → H' b = some o
theorem _root_.L2.Same.keepL {H H' : Hp} (s : Same H H') : KeepL H H' := fun b o _ h => s b o h
theorem KeepR.l {H H' : Hp} (s : KeepR H H') : KeepL H H' := fun b o p h => s b o (by cases o <;> first | exact p | exact p.elim) h
theorem KeepL.trans {H H1 H2 : Hp} (a : KeepL H H1) (b : KeepL H1 H2) : KeepL H H2 := fun c o p h => b c o p (a c o p h)
theorem KeepL.upd {H : Hp} {p : Addr} {v : HO} (h : ∀ o, H p = some o → ¬ LT o) : KeepL H (L2.upd H p v) := fun b o q e => by
  rw [upd_ne]
  · exact e
  · rintro rfl
    exact h o e q
theorem RowV.keep {T T' : Hp → V → List Nat → Prop} {H H' : Hp} {v : V} {ps : List (V × List Nat)} (r : RowV T H v ps) (s : KeepL H H') (k : ∀ y t, T H y t → T' H' y t) : RowV T' H' v ps := by
  obtain ⟨a, e, h, q, len⟩ := r
  exact ⟨a, e, s _ _ True.intro h, fun p hp => let ⟨q, y, l, e, h, z⟩ := q p hp; ⟨q, y, l, e, s _ _ True.intro h, k _ _ z⟩, len⟩
theorem CallsV.keep {T T' : Hp → V → List Nat → Prop} {H H' : Hp} {z : V} {n : Nat} {B : Nat → List Nat → Prop} (h : CallsV T H z n B) (s : KeepR H H') (k : ∀ y t, T H y t → T' H' y t) : CallsV T' H' z n B := by
  obtain ⟨E, kvs, e, hE, hl, q⟩ := h
  exact ⟨E, kvs, e, s _ _ True.intro hE, hl, fun c p hp => let ⟨q1, ps, q2, q3⟩ := q c p hp; ⟨q1, ps, q2.keep s.l k, q3⟩⟩
theorem CallsV.iff {T : Hp → V → List Nat → Prop} {H : Hp} {z : V} {n : Nat} {B B' : Nat → List Nat → Prop} (h : CallsV T H z n B) (k : ∀ c, c < n → ∀ t, B c t ↔ B' c t) : CallsV T H z n B' := by
  obtain ⟨E, kvs, e, hE, hl, q⟩ := h
  refine ⟨E, kvs, e, hE, hl, fun c p hp => ?_⟩
  obtain ⟨q1, ps, q2, q3⟩ := q c p hp
  have := (List.getElem?_eq_some_iff.mp hp).1
  exact ⟨q1, ps, q2, fun t => (q3 t).trans (k c (by omega) t)⟩
theorem TupN.keep {H H' : Hp} (s : KeepL H H') {y : V} {t : List Nat} (h : TupN H y t) : TupN H' y t := by
  obtain ⟨a, e, q⟩ := h
  exact ⟨a, e, s _ _ True.intro q⟩
theorem ans_near {rs : List Road} {n h : Nat} {m : Mx} (T : Tbl rs n m) {reach : Nat} {one : Bool} {s t : List Nat} {c : Nat} (hs : Stand n h s) (hc : c < n) : Ans (RM m reach) one n s c t ↔ Ans (Near rs reach) one n s c t := by
  unfold Ans
  cases one with
  | true =>
    rw [if_pos rfl, if_pos rfl]
    constructor
    · rintro (a | ⟨h1, p, hp, r, z⟩)
      · exact .inl a
      · exact .inr ⟨h1, p, hp, (T.near (hs.2.2 p hp) hc).mp r, z⟩
    · rintro (a | ⟨h1, p, hp, r, z⟩)
      · exact .inl a
      · exact .inr ⟨h1, p, hp, (T.near (hs.2.2 p hp) hc).mpr r, z⟩
  | false =>
    rw [if_neg (by decide), if_neg (by decide)]
    constructor
    · rintro ⟨h1, h2, o, ho, q⟩
      exact ⟨h1, h2, o, ho, fun k x y a b => (T.near (hs.2.2 x (List.mem_of_getElem? a)) (h1.2.2 y (ho.mem_iff.mp (List.mem_of_getElem? b)))).mp (q k x y a b)⟩
    · rintro ⟨h1, h2, o, ho, q⟩
      exact ⟨h1, h2, o, ho, fun k x y a b => (T.near (hs.2.2 x (List.mem_of_getElem? a)) (h1.2.2 y (ho.mem_iff.mp (List.mem_of_getElem? b)))).mpr (q k x y a b)⟩
theorem TblV.most {H H' : Hp} (h : ∀ b xs, H b = some (.lst xs) → H' b = some (.lst xs)) {v : V} {n : Nat} {m : Mx} (t : TblV H v n m) : TblV H' v n m := by
  obtain ⟨a, as, e, q, l, r⟩ := t
  exact ⟨a, as, e, h _ _ q, l, fun i b k => h _ _ (r i b k)⟩
/-- the answers, the stand known by its own object -/
def spAnsE (one : Bool) : Sp := fun vs H Q _ => ∃ (n h c reach : Nat) (m : Mx) (s : List Nat) (d : V) (S : Addr) (ob : Obj), vs = [d, .ref S, nV c, nV reach] ∧ TblV H d n m ∧ H S = some (eT S ob) ∧ ObT ob (s.map nV) ∧ Stand n h s ∧ n ≤ 7 ∧ 1 ≤ h ∧ h ≤ 2 ∧ c < n ∧
  ∀ v' H' ps, Same H H' → RowV (OrV (.ref S) s) H' v' ps → (∀ t, t ∈ ps.map (·.2) ↔ Ans (RM m reach) one n s c t) → Q v' H'
theorem ansE {one : Bool} {vs : List V} {H : Hp} {Q : VK} {E : XK} (h : spAnsE one vs H Q E) : spUn (spAns one) vs H Q E := by
  obtain ⟨n, h, c, reach, m, s, d, S, ob, rfl, tb, hS, z, hs, hn, h1, h2, hc, k⟩ := h
  refine ⟨S, ob, s.map nV, hS, z, n, h, c, reach, m, s, d, .ref S, rfl, tb.most fun b xs q => ?_, ⟨S, ob, rfl, upd_same, z⟩, hs, hn, h1, h2, hc, fun v' H' ps sm row hps => ?_⟩
  · rw [upd_ne (ne_of q hS fun q => nomatch q)]
    exact q
  have hS' : H' S = some (.frz ob (.tup (s.map nV))) := sm _ _ upd_same
  have off : ∀ b o, H' b = some o → (∀ u, o ≠ .frz ob u) → (upd H' S (eT S ob)) b = some o := fun b o q ne => by
    rw [upd_ne (ne_of q hS' (ne _))]
    exact q
  refine k _ _ ps (fun b o q => ?_) ?_ hps
  · by_cases e : b = S
    · subst e
      rw [upd_same]
      exact hS.symm.trans q
    · rw [upd_ne e]
      exact sm _ _ (by rw [upd_ne e]; exact q)
  · obtain ⟨a, e, hl, q, len⟩ := row
    refine ⟨a, e, off _ _ hl (fun u q => nomatch q), fun p hp => ?_, len⟩
    obtain ⟨b, y, l, e, ht, z⟩ := q p hp
    refine ⟨b, y, l, e, off _ _ ht (fun u q => nomatch q), ?_⟩
    rcases z with ⟨w, e, hw⟩ | z
    · exact .inl ⟨w, e, off _ _ hw (fun u q => nomatch q)⟩
    · exact .inr z
theorem calAt_of {P : Program} {w : World} {K : PySem.W.Frag} {mg : Str → Option Value} {base : Heap} {k : Nat} {x : Str} {sp : Sp} {f : Addr} (c : C8.Cal P w K mg base k x sp []) (h : mg x = some (.ref f)) : C8.CalAt P w K mg base k f sp := by
  obtain ⟨f', fd, ps, ds, F, hm, kp, b, d⟩ := c
  cases d
  rw [h] at hm
  injection hm with hm
  injection hm with hm
  subst hm
  exact ⟨fd, ps, F, kp, b⟩
theorem valV_none {κ : Type} [DecidableEq κ] {kvs : List (κ × V)} {k : κ} (h : ∀ p ∈ kvs, p.1 ≠ k) : valV kvs k = none := by
  unfold valV
  rw [List.find?_eq_none.mpr fun p hp => by simpa using h p hp]
  rfl
end Ev
end
section
namespace Ev
open PySem L2
variable {P : Program} {w : World} {K : PySem.W.Frag} {mg : Str → Option Value} {base : Heap}

/-! ### steps_of -/
def ruleV (one : Bool) : V := .str (if one = true then "one" else "all")
def sSteps : Stmt := top 30
def spSteps : Sp := fun vs H Q _ => ∃ (n h reach : Nat) (rs : List Road) (one : Bool) (tv : V) (B C : Addr) (xs : List V), vs = [tv, .ref B, ruleV one, nV reach, .ref C] ∧ TownV H tv n rs ∧ Town n rs ∧ rs.length ≤ 1000 ∧ n ≤ 7 ∧ 1 ≤ h ∧ h ≤ 2 ∧
  H B = some (.lst xs) ∧ Paired (TupE (fun _ => none) H) xs (stands n h) ∧ xs.Nodup ∧ H C = some (.lst ((List.range n).map nV)) ∧
  ∀ v' H', (∀ b o, H b = some o → V.ref b ∉ xs → H' b = some o) → StepsV H' v' n (stands n h) (fun s c t => Ans (Near rs reach) one n s c t) → Q v' H'
theorem scSteps : FnScope ["town", "stands", "rule", "reach", "calls", "table", "answer", "stand", "call"] ["town", "stands", "rule", "reach", "calls"] (C8.fnScope sSteps) := ⟨rfl, rfl, rfl, by decide +kernel, rfl, by decide +kernel, by decide +kernel⟩
theorem ok_steps_of {f f1 f2 : Addr} {fd : FuncData} (F : C8.Def K mg "steps_of" sSteps f fd) (b : Binds K fd ["town", "stands", "rule", "reach", "calls"] []) (T : Txt K mg) (c_ways : C8.Cal P w K mg base 1 "ways" spWays [])
    (v1 : ∃ u, mg "answers_by_one" = some u ∧ RelV (.ref f1) u) (v2 : ∃ u, mg "answers_by_all" = some u ∧ RelV (.ref f2) u)
    (c1 : C8.CalAt P w K mg base 2 f1 (spAnsE true)) (c2 : C8.CalAt P w K mg base 2 f2 (spAnsE false)) : C8.Cal P w K mg base 3 "steps_of" spSteps [] := by
  refine C8.cal0 F b .nil scSteps (fun vs H Q E h => ?_) (fun cdv A outer s H vs Q E hr h => ?_)
  · obtain ⟨n, h, reach, rs, one, tv, B, C, xs, rfl, _⟩ := h
    rfl
  obtain ⟨n, h, reach, rs, one, tv, B, C, xs, rfl, town, tw, rsl, hn, h1, h2, hB, hx, hnd, hC, k⟩ := h
  have nd := scSteps.nd
  refine ⟨_, (pss_cons (ps_set (i := 5) nd rfl (by first | exact .inl rfl | exact .inr rfl) (C8.pe_c c_ways hr (by decide) rfl (pa_cons (pv 0) pa_nil)))
 (pss_cons (ps_set (i := 6) nd rfl (by first | exact .inl rfl | exact .inr rfl) (pe_ifExp (pt_cmpR op_eq (pv 2) pe_str (nomark _)) (C8.pe_gc rfl v1) (C8.pe_gc rfl v2)))
 (pss_one (ps_ret (pe_dcT (hu_of hr) (own := [("stand", 7)]) rfl nd (kpi_list (K := K) rfl (pv 1)) (blkOk_by (own := [("stand", 7)]) (by kernel_rfl)) (fun _ _ _ _ _ => (pg_name (i := 7) nd rfl (by first | exact .inl rfl | exact .inr rfl))) (fun _ _ _ _ _ => pts_nil) (fun _ _ _ _ _ => (pv 7)) (fun _ _ _ _ _ => (pe_fix (pe_dc (own := [("call", 8)]) rfl nd (kpi_list (K := K) rfl (pv 4)) (blkOk_by (own := [("call", 8)]) (by kernel_rfl)) (fun _ _ _ _ _ => (pg_name (i := 8) nd rfl (by first | exact .inl rfl | exact .inr rfl))) (fun _ _ _ _ _ => pts_nil) (fun _ _ _ _ _ => (pv 8)) (fun _ _ _ _ _ => (C8.pe_cv (i := 6) c1 c2 hr (by decide) (by decide) rfl (by first | exact Or.inl rfl | exact Or.inr (Or.inl rfl) | exact Or.inr (Or.inr rfl)) (pa_cons (pv 5) (pa_cons (pv 7) (pa_cons (pv 8) (pa_cons (pv 3) pa_nil)))))))))))))), ?_⟩
  obtain ⟨ta, tr, rfl, hta, _⟩ := id town
  refine ⟨_, rfl, n, rs, _, rfl, town, tw, hn, fun d H1 m s1 tb tbl => ?_⟩
  have few := stands_few (n := n) (h := h) hn h2
  have lx := Paired.len hx
  have hx1 : ∀ (i : Nat) x, xs[i]? = some x → ∃ s S ob, (stands n h)[i]? = some s ∧ x = .ref S ∧ H1 S = some (eT S ob) ∧ ObT ob (s.map nV) ∧ Stand n h s := fun i x hi => by
    obtain ⟨s, hs, S, ob, e, _, hS, z⟩ := Paired.at_ hx hi
    exact ⟨s, S, ob, hs, e, s1 _ _ hS, z, mem_stands.mp (List.mem_of_getElem? hs)⟩
  have notIn : ∀ {b : Addr} {o : HO}, H1 b = some o → (∀ ob, o ≠ eT b ob) → V.ref b ∉ xs := fun {b o} hb ne hm => by
    obtain ⟨i, hi⟩ := List.mem_iff_getElem?.mp hm
    obtain ⟨s, S, ob, _, e, hS, _⟩ := hx1 i _ hi
    injection e with e
    subst e
    rw [hb] at hS
    injection hS with hS
    exact ne _ hS
  have pick : ∀ Q' : VK, Q' (.ref (if one = true then f1 else f2)) H1 → tIf (fun σ H Q => tOp rEq (tVar 2) (tC (.str "one")) σ H fun x H' => ∃ k, x = .bl k ∧ Q k H') (tC (.ref f1)) (tC (.ref f2))
      [some (.ref ta), some (.ref B), some (ruleV one), some (nV reach), some (.ref C), some d, none, none, none] H1 Q' := by
    intro Q' q
    cases one with
    | true => exact ⟨_, rfl, rfl, _, rfl, q⟩
    | false => exact ⟨_, rfl, rfl, _, rfl, q⟩
  refine pick _ ?_
  refine ⟨_, rfl, B, rfl, ⟨xs, SqL.of (s1 _ _ hB)⟩, fun D hD => ?_⟩
  refine dcT_list (K := K) (a := B) (xs := xs) (fun i H' => (∀ b o, H1 b = some o → V.ref b ∉ xs → H' b = some o) ∧ (∀ (j : Nat) x s, i ≤ j → xs[j]? = some x → (stands n h)[j]? = some s → TupE (fun _ => none) H' x s) ∧
      ∃ kvs, H' D = some (.dT kvs) ∧ kvs.length = i ∧ ∀ (j : Nat) p s, kvs[j]? = some p → (stands n h)[j]? = some s → p.1 = kk s ∧ CallsV TupN H' p.2 n (fun c t => Ans (RM m reach) one n s c t)) ⟨fun b o q _ => ?_, fun j x s _ hj hs => ?_, [], upd_same, rfl, fun j p s hj => (by cases hj)⟩ ?_ ?_ ?_
  · rw [upd_ne (ne_of_none q hD)]
    exact q
  · obtain ⟨s', S, ob, hs', e, hS, z, _⟩ := hx1 j x hj
    rw [hs] at hs'
    injection hs' with hs'
    subst hs'
    exact ⟨S, ob, e, rfl, by rw [upd_ne (ne_of_none hS hD)]; exact hS, z⟩
  · intro i G _ q
    exact SqL.of (q.1 B _ (s1 _ _ hB) (notIn (s1 _ _ hB) fun _ q => nomatch q))
  · rintro i x G hi ⟨keep, left, kvs, hGD, hkl, hks⟩
    obtain ⟨s, hs⟩ : ∃ s, (stands n h)[i]? = some s := by
      obtain ⟨s, _, _, hs, _⟩ := hx1 i x hi
      exact ⟨s, hs⟩
    obtain ⟨S, ob, rfl, _, hS, z⟩ := left i x s (Nat.le_refl _) hi hs
    have hst : Stand n h s := mem_stands.mp (List.mem_of_getElem? hs)
    have hSx : V.ref S ∈ xs := List.mem_of_getElem? hi
    have nDS : D ≠ S := ne_of hGD hS fun q => nomatch q
    have hil : i < (stands n h).length := (List.getElem?_eq_some_iff.mp hs).1
    have hGC : G C = some (.lst ((List.range n).map nV)) := keep C _ (s1 _ _ hC) (notIn (s1 _ _ hC) fun _ q => nomatch q)
    have tbG : TblV G d n m := by
      obtain ⟨a, as, e, q, l, r⟩ := tb
      exact ⟨a, as, e, keep _ _ q (notIn q fun _ q => nomatch q), l, fun i b k => keep _ _ (r i b k) (notIn (r i b k) fun _ q => nomatch q)⟩
    refine ⟨rfl, _, rfl, ?_⟩
    refine ⟨_, rfl, C, rfl, ⟨_, SqL.of hGC⟩, fun E hE => ?_⟩
    refine dcK_list (K := K) (a := C) (xs := (List.range n).map nV) (fun c G' => Same G G' ∧ ∃ kvs2, G' E = some (.dK kvs2) ∧ kvs2.length = c ∧ ∀ (c' : Nat) p, kvs2[c']? = some p → p.1 = .inl (c' : Int) ∧ ∃ ps, RowV (OrV (.ref S) s) G' p.2 ps ∧ ∀ t, t ∈ ps.map (·.2) ↔ Ans (RM m reach) one n s c' t)
      ⟨Same.new hE _, [], upd_same, rfl, fun c p hp => (by cases hp)⟩ (fun c G' _ q => SqL.of (q.1 _ _ hGC)) ?_ ?_
    · rintro c x G2 hc ⟨s2, kvs2, hE2, l2, q2⟩
      have hcn : c < n := by
        have := (List.getElem?_eq_some_iff.mp hc).1
        rwa [List.length_map, List.length_range] at this
      have ex : x = nV c := by
        rw [List.getElem?_map, List.getElem?_range hcn] at hc
        injection hc with hc
        exact hc.symm
      subst ex
      refine ⟨rfl, _, rfl, ?_⟩
      have go : ∀ Q' : VK, spAnsE one [d, .ref S, nV c, nV reach] G2 Q' C8.E0 → C8.tCallV 6 f1 f2 (spAnsE true) (spAnsE false) (tCons (tVar 5) (tCons (tVar 7) (tCons (tVar 8) (tCons (tVar 3) tNil))))
          [some (.ref ta), some (.ref B), some (ruleV one), some (nV reach), some (.ref C), some d, some (.ref (if one = true then f1 else f2)), some (.ref S), some (nV c)] G2 Q' := by
        intro Q' q
        cases one with
        | true => exact .inl ⟨rfl, _, rfl, _, rfl, _, rfl, _, rfl, q⟩
        | false => exact .inr ⟨rfl, _, rfl, _, rfl, _, rfl, _, rfl, q⟩
      refine go _ ⟨n, h, c, reach, m, s, d, S, ob, rfl, tbG.mono s2, s2 _ _ hS, z, hst, hn, h1, h2, hcn, fun v' G3 ps s3 row hps => ?_⟩
      refine ⟨kvs2, .inl (c : Int), rfl, s3 _ _ hE2, Nat.lt_of_le_of_lt (m := 1000) (by omega) (by decide), (s2.trans s3).put hE _, ?_⟩
      have new : valV kvs2 (.inl (c : Int)) = none := valV_none fun p hp e => by
        obtain ⟨j, hj⟩ := List.mem_iff_getElem?.mp hp
        rw [(q2 j p hj).1] at e
        injection e with e
        have := (List.getElem?_eq_some_iff.mp hj).1
        omega
      rw [putK_new _ new]
      have kl : KeepL G3 (upd G3 E (.dK (kvs2 ++ [(.inl (c : Int), v')]))) := KeepL.upd fun o e => by
        rw [s3 _ _ hE2] at e
        injection e with e
        subst e
        exact id
      have ko : ∀ y t, OrV (.ref S) s G3 y t → OrV (.ref S) s (upd G3 E (.dK (kvs2 ++ [(.inl (c : Int), v')]))) y t := fun y t q => q.elim (fun q => .inl (q.keep kl)) .inr
      refine ⟨_, upd_same, by rw [List.length_append, l2]; rfl, fun c' p hp => ?_⟩
      rcases Nat.lt_or_ge c' kvs2.length with lt | ge
      · rw [List.getElem?_append_left lt] at hp
        obtain ⟨q3, ps3, q4, q5⟩ := q2 c' p hp
        exact ⟨q3, ps3, (q4.keep s3.keepL fun y t q => q.elim (fun q => .inl (q.mono s3.tup)) .inr).keep kl ko, q5⟩
      · rw [List.getElem?_append_right ge] at hp
        have e0 : c' - kvs2.length = 0 := by
          have := (List.getElem?_eq_some_iff.mp hp).1
          simp at this
          omega
        rw [e0] at hp
        injection hp with hp
        subst hp
        have : c' = c := by omega
        subst this
        exact ⟨rfl, ps, row.keep kl ko, hps⟩
    · rintro G4 ⟨s4, kvs2, hE4, l2, q2⟩
      have hS4 := s4 _ _ hS
      have nE : E ≠ S := ne_of hE4 hS4 fun q => nomatch q
      have nED : E ≠ D := (ne_of_none hGD hE).symm
      have z1 : KeepR G4 (upd G4 S (.tup (s.map nV))) := KeepR.upd fun o e => by
        rw [hS4] at e
        injection e with e
        subst e
        exact id
      have hD5 : (upd G4 S (.tup (s.map nV))) D = some (.dT kvs) := by
        rw [upd_ne nDS]
        exact s4 _ _ hGD
      refine ⟨S, ob, s.map nV, hS4, z, S, kvs, kk s, rfl, hD5, by rw [upd_same, kk_map], Nat.lt_of_le_of_lt (m := 1000) (by omega) (by decide), ?_⟩
      have new : valV kvs (kk s) = none := valV_none fun p hp e => by
        obtain ⟨j, hj⟩ := List.mem_iff_getElem?.mp hp
        have jl := (List.getElem?_eq_some_iff.mp hj).1
        have jl2 : j < (stands n h).length := by omega
        have hj2 : (stands n h)[j]? = some (stands n h)[j] := List.getElem?_eq_getElem jl2
        rw [(hks j p _ hj hj2).1] at e
        have e := kk_inj e
        rw [e] at hj2
        have := (List.getElem?_inj jl2 (stands_nodup n h)).mp (hj2.trans hs.symm)
        omega
      rw [putK_new _ new]
      have z2 : KeepR (upd G4 S (.tup (s.map nV))) (upd (upd G4 S (.tup (s.map nV))) D (.dT (kvs ++ [(kk s, V.ref E)]))) := KeepR.upd fun o e => by
        rw [hD5] at e
        injection e with e
        subst e
        exact id
      have zz := z1.trans z2
      have hS6 : TupN (upd (upd G4 S (.tup (s.map nV))) D (.dT (kvs ++ [(kk s, V.ref E)]))) (.ref S) s := ⟨S, rfl, by rw [upd_ne nDS.symm, upd_same]⟩
      refine ⟨fun b o hb hnb => ?_, fun j x t hj hxj htj => ?_, _, upd_same, by rw [List.length_append, hkl]; rfl, fun j p t hp ht => ?_⟩
      · have n1 : b ≠ D := ne_of_none hb hD
        have n2 : b ≠ S := fun e => hnb (e ▸ hSx)
        rw [upd_ne n1, upd_ne n2]
        exact s4 _ _ (keep b o hb hnb)
      · obtain ⟨S', ob', rfl, _, hS', z'⟩ := left j x t (by omega) hxj htj
        have n1 : S' ≠ S := fun e => by
          subst e
          have := (List.getElem?_inj (List.getElem?_eq_some_iff.mp hxj).1 hnd).mp (hxj.trans hi.symm)
          omega
        have n2 : S' ≠ D := ne_of hS' hGD fun q => nomatch q
        exact ⟨S', ob', rfl, rfl, by rw [upd_ne n2, upd_ne n1]; exact s4 _ _ hS', z'⟩
      · rcases Nat.lt_or_ge j kvs.length with lt | ge
        · rw [List.getElem?_append_left lt] at hp
          obtain ⟨q3, q4⟩ := hks j p t hp ht
          exact ⟨q3, q4.keep (s4.keepR.trans zz) fun y t q => q.keep (s4.keepR.trans zz).l⟩
        · rw [List.getElem?_append_right ge] at hp
          have e0 : j - kvs.length = 0 := by
            have := (List.getElem?_eq_some_iff.mp hp).1
            simp at this
            omega
          rw [e0] at hp
          injection hp with hp
          subst hp
          have : j = i := by omega
          subst this
          rw [hs] at ht
          injection ht with ht
          subst ht
          refine ⟨rfl, E, kvs2, rfl, zz _ _ True.intro hE4, by rw [l2, List.length_map, List.length_range], fun c p hp => ?_⟩
          obtain ⟨q3, ps3, q4, q5⟩ := q2 c p hp
          refine ⟨q3, ps3, q4.keep zz.l fun y t q => ?_, q5⟩
          rcases q with q | ⟨rfl, rfl⟩
          · exact q.keep zz.l
          · exact hS6
  · rintro G ⟨keep, _, kvs, hGD, hkl, hks⟩
    refine k _ _ (fun b o hb hnb => keep b o (s1 _ _ hb) hnb) ⟨D, kvs, rfl, hGD, hkl.trans lx, fun i p s hp hs => ?_⟩
    obtain ⟨q1, q2⟩ := hks i p s hp hs
    exact ⟨q1, q2.iff fun c hc t => ans_near tbl (mem_stands.mp (List.mem_of_getElem? hs)) hc⟩
end Ev
end
section
namespace Ev
open PySem L2
variable {P : Program} {w : World} {K : PySem.W.Frag} {mg : Str → Option Value} {base : Heap}

/-! ### all_steps -/
def spAllSteps : Sp := fun vs H Q _ => ∃ (n h reach : Nat) (rs : List Road) (one : Bool) (tv : V) (C : Addr), vs = [tv, nV h, ruleV one, nV reach, .ref C] ∧ TownV H tv n rs ∧ Town n rs ∧ rs.length ≤ 1000 ∧ n ≤ 7 ∧ 1 ≤ h ∧ h ≤ 2 ∧
  H C = some (.lst ((List.range n).map nV)) ∧ ∀ v' H', Same H H' → StepsV H' v' n (stands n h) (fun s c t => Ans (Near rs reach) one n s c t) → Q v' H'
theorem scAllSteps : FnScope ["town", "helpers", "rule", "reach", "calls"] ["town", "helpers", "rule", "reach", "calls"] (C8.fnScope sAllSteps) := ⟨rfl, rfl, rfl, by decide +kernel, rfl, by decide +kernel, by decide +kernel⟩
theorem ok_all_steps {f : Addr} {fd : FuncData} (F : C8.Def K mg "all_steps" sAllSteps f fd) (b : Binds K fd ["town", "helpers", "rule", "reach", "calls"] []) (T : Txt K mg) (c_stands_of : C8.Cal P w K mg base 2 "stands_of" spStandsOf [])
    (c_steps_of : C8.Cal P w K mg base 3 "steps_of" spSteps []) : C8.Cal P w K mg base 4 "all_steps" spAllSteps [] := by
  refine C8.cal0 F b .nil scAllSteps (fun vs H Q E h => ?_) (fun cdv A outer s H vs Q E hr h => ?_)
  · obtain ⟨n, h, reach, rs, one, tv, C, rfl, _⟩ := h
    rfl
  obtain ⟨n, h, reach, rs, one, tv, C, rfl, town, tw, rsl, hn, h1, h2, hC, k⟩ := h
  have nd := scAllSteps.nd
  refine ⟨_, (pss_one (ps_ret (C8.pe_c c_steps_of hr (by decide) rfl (pa_cons (pv 0) (pa_cons (C8.pe_c c_stands_of hr (by decide) rfl (pa_cons (pv 0) (pa_cons (pv 1) pa_nil))) (pa_cons (pv 2) (pa_cons (pv 3) (pa_cons (pv 4) pa_nil)))))))), ?_⟩
  refine ⟨_, rfl, _, rfl, _, rfl, n, h, rs, _, rfl, town, hn, h2, fun v' H1 s1 ⟨B, xs, e, nB, hB, hx, hnd⟩ => ?_⟩
  subst e
  refine ⟨_, rfl, _, rfl, _, rfl, n, h, reach, rs, one, _, B, C, xs, rfl, town.mono s1, tw, rsl, hn, h1, h2, hB, Paired.imp (fun x s ⟨a, ob, e, _, z⟩ => ⟨a, ob, e, rfl, z⟩) hx, hnd, s1 _ _ hC, fun v' H2 s2 st => ?_⟩
  refine k _ _ (fun b o hb => s2 b o (s1 _ _ hb) fun hm => ?_) st
  obtain ⟨i, hi⟩ := List.mem_iff_getElem?.mp hm
  obtain ⟨s, _, a, ob, e, na, _⟩ := Paired.at_ hx hi
  injection e with e
  subst e
  rw [na] at hb
  cases hb
end Ev
end
section
/-! d.values() as a thing that is kept; its walk; max of it, with a default -/
namespace Ev
open PySem PySem.Spec PyProof.Rows L2
section
variable {prog : Program} {w : World} {A : Around} {E : Value → Shared → Prop} {s : Shared}
theorem call_valsR {d : Addr} {es : Array DictEntry} {ep : Nat} {Q : Value → Shared → Prop} (hd : (d == sysModules) = false) (hm : DT.Raw s.heap d es ep)
    (h : Q (.ref s.heap.objs.size) { s with heap := s.heap.push (DSub.viewOb "dict_values" d) }) : wpAny (model prog w) A (call (.builtin "dict.values") [.ref d]) Q E s := by
  refine wpAny_call_entry PySem.F.slot_dict_values hm.typeIs PySem.F.entry_dict_values ?_ (PySem.F.args_dict_values_1 _)
  unfold Builtin.«dict.values»
  refine wpAny_bind ?_
  unfold Builtin.Dict.noArgs
  refine wpAny_bind (wpAny_notOrdered_dict hm.typeIs ?_)
  change wpAny _ _ (pure d) _ _ s
  refine wpAny_pure ?_
  change wpAny _ _ (Builtin.Dict.showsAll d >>= _) _ _ s
  unfold Builtin.Dict.showsAll
  rw [if_neg (hd ▸ Bool.false_ne_true)]
  refine wpAny_bind (wpAny_pure ?_)
  exact wpAny_bind (wpAny_newObj_type (wpAny_pure ⟨_, rfl, h⟩))
end
section
variable {X : Cx}
def rVals : V → List V → Hp → VK → Prop := fun x xs H Q => ∃ (a : Addr), x = .ref a ∧ xs = [] ∧ ((∃ kvs, Rd H a (.dK kvs)) ∨ ∃ kvs, Rd H a (.dT kvs)) ∧ ∀ p, H p = none → Q (.ref p) (upd H p (viewO "dict_values" p a))
theorem mt_vals : MtR X "dict.values" rVals := by
  intro pins s σ H x xs v us Q I rx rxs h
  obtain ⟨a, rfl, rfl, hk, q⟩ := h
  cases rx
  cases rxs
  have raw : (a == sysModules) = false ∧ ∃ es ep, DT.Raw s.heap a es ep := by
    rcases hk with ⟨kvs, hk⟩ | ⟨kvs, hk⟩
    · obtain ⟨_, y, vs, _, o, es, ep, e, ex, d, _⟩ := (show ObjOk X.prog X.w H s.heap a (.dK kvs) from hk.ok I.hok)
      exact ⟨y, es, ep, o, e, ex, d⟩
    · obtain ⟨_, y, vs, _, o, es, ep, e, ex, d, _⟩ := (show ObjOk X.prog X.w H s.heap a (.dT kvs) from hk.ok I.hok)
      exact ⟨y, es, ep, o, e, ex, d⟩
  obtain ⟨y, es, ep, hr⟩ := raw
  refine call_valsR y hr ⟨.ref s.heap.objs.size, _, I.laid (t' := s.toks) (fun b o q => Heap.get?_push_of_some _ q) (Nat.le_refl _) (viewO_ok (Heap.get?_push_size _ rfl)), rfl, q _ (I.hok.fresh (Nat.le_refl _))⟩
/-- for x in a kept view of the values of a locked dict -/
def iView (te : TE) : TI := fun σ H R => te σ H fun x H1 => ∃ p d o kvs, x = .ref p ∧ H1 p = some (viewO "dict_values" p d) ∧ H1 d = some (.frz o (.dK kvs)) ∧ R (Itd d o kvs) H1
theorem pi_view {tg e : Expr} {te : TE} (he : PE X e te) : PI X tg e (iView te) := by
  refine ⟨fun pins s σ H R I h => thn (he.run pins s σ H _ I h) fun u s' ⟨x, G, J, rx, p, d, o, kvs, ex, hp, hd, q⟩ => ?_⟩
  subst ex
  cases rx
  obtain ⟨hs, hgd, hx, es, ep, vs, hdt, hsz, kv, hm⟩ := J.frzK hd
  have hv : s'.heap.get? p = some (DSub.viewOb "dict_values" d) := (show ObjOk X.prog X.w G s'.heap p (viewO "dict_values" p d) from J.hok p _ hp).1
  refine DSub.iter_vals hv hgd hdt (pi_one (tk := s'.toks) J _ (turn_vals _ hdt) ⟨_, Heap.get?_push_size _ rfl, rfl, ?_⟩ q)
  rw [← hsz]
  rfl
/-- max(v, default=0), v the view of the values of a dict whose keys are tuples, whose values are numbers -/
def rMaxV : List V → List V → Hp → VK → Prop := fun vs zs H Q => ∃ (p a : Addr) (kvs : List (List Key × V)) (ns : List Nat), vs = [.ref p] ∧ zs = [.int 0] ∧ H p = some (viewO "dict_values" p a) ∧ H a = some (.dT kvs) ∧ kvs.map (·.2) = ns.map nV ∧
  ∀ m, (ns = [] → m = 0) → (ns ≠ [] → m ∈ ns ∧ ∀ y ∈ ns, y ≤ m) → Q (nV m) H
theorem crk_maxV (hc : X.calm = true) : CallRK X (.builtin "max") [Str.ofString "default"] rMaxV := by
  intro pins s σ H xs zs us ws Q I rx rz h
  obtain ⟨p, a, kvs, ns, rfl, rfl, hp, ha, hn, q⟩ := h
  rw [Vals.ref1 rx]
  obtain ⟨u, rfl, tk0, rfl⟩ := Vals.one rz
  have hv : s.heap.get? p = some (DSub.viewOb "dict_values" a) := (show ObjOk X.prog X.w H s.heap p (viewO "dict_values" p a) from I.hok p _ hp).1
  obtain ⟨_, _, rows, rel, ob, es, ep, e1, ex, e2, e3, _⟩ := (show ObjOk X.prog X.w H s.heap a (.dT kvs) from I.hok a _ ha)
  have l1 : kvs.length = rows.length := Paired.length rel
  have l2 : kvs.length = ns.length := by
    have := congrArg List.length hn
    rwa [List.length_map, List.length_map] at this
  have l3 : es.size = ns.length := by
    have := congrArg List.length e3
    rw [List.length_map, Array.length_toList] at this
    omega
  have hP : ∀ (i : Nat) (e : DictEntry), es[i]? = some e → ∃ t, e.val = .int (((ns.getD i 0 : Nat) : Int)) t := fun i e he => by
    have h1 : es.toList[i]? = some e := by
      rw [Array.getElem?_toList]
      exact he
    rw [e3, List.getElem?_map] at h1
    obtain ⟨row, hr, rfl⟩ := Option.map_eq_some_iff.mp h1
    have li := (List.getElem?_eq_some_iff.mp hr).1
    have hk : kvs[i]? = some (kvs[i]'(by omega)) := List.getElem?_eq_getElem (by omega)
    obtain ⟨row', hr', _, _, rv⟩ := Paired.at_ rel hk
    rw [hr] at hr'
    injection hr' with hr'
    subst hr'
    have h2 : (kvs.map (·.2))[i]? = some (kvs[i]'(by omega)).2 := by
      rw [List.getElem?_map, hk]
      rfl
    have hni : ns[i]? = some (ns[i]'(by omega)) := List.getElem?_eq_getElem (by omega)
    rw [hn, List.getElem?_map, hni] at h2
    injection h2 with h2
    rw [← h2] at rv
    obtain ⟨t, et⟩ := rv
    refine ⟨t, ?_⟩
    rw [List.getD_eq_getElem?_getD, hni]
    exact et
  have lt : a < s.heap.objs.size := Heap.lt_size e1
  refine PySem.call_max_walkD (DSub.iter_vals hv e1 e2 ?_)
  refine ⟨s.heap.objs.size, [s.heap.objs.size, a], [s.heap.objs.size], _, es.size, fun i v => ∃ t, v = .int ((ns.getD i 0 : Nat) : Int) t, _, s.heap, fun i j => decide (((ns.getD i 0 : Nat) : Int) > ((ns.getD j 0 : Nat) : Int)), rfl,
    (DSub.walksVal (a := a) (show X.A.in1.handled = none from I.ok.hd hc) (Nat.ne_of_lt lt) e2 hP).toS, ⟨Heap.get?_push_size _ rfl, Heap.get?_push_of_some _ e1⟩, fun b hb => ?_, fun b o e hb => ?_, fun b o e => Heap.get?_push_of_some _ e, fun z s' m => ?_, fun pos => ⟨fun i j vi vj s' Q' E' _ hi hj hq => CmpOf.ints_gt (fun i => ((ns.getD i 0 : Nat) : Int)) (fun i v z => z) i j vi vj s' Q' E' hi hj hq, fun v s' hv' m => ?_⟩⟩
  · change b < (s.heap.push _).objs.size
    rw [size_push']
    rcases List.mem_cons.mp hb with z | z
    · exact z ▸ Nat.lt_succ_self _
    · exact List.mem_singleton.mp z ▸ Nat.lt_succ_of_lt lt
  · exact absurd (Heap.lt_size e) (List.mem_singleton.mp hb ▸ Nat.lt_irrefl _)
  · obtain ⟨h', tk, rfl, kp⟩ := PySem.W.moved_old rfl rfl m
    have ez : ns = [] := List.eq_nil_of_length_eq_zero (by omega)
    exact ⟨nV 0, H, I.kept (t' := tk) kp, ⟨_, rfl⟩, q 0 (fun _ => rfl) fun ne => absurd ez ne⟩
  · obtain ⟨h', tk, rfl, kp⟩ := PySem.W.moved_old rfl rfl m
    obtain ⟨t, rfl⟩ := hv'
    obtain ⟨b1, b2⟩ := argBest_gt (fun i => ((ns.getD i 0 : Nat) : Int)) (es.size - 1)
    generalize argBest (fun i j => decide (((ns.getD i 0 : Nat) : Int) > ((ns.getD j 0 : Nat) : Int))) (es.size - 1) = best at b1 b2 ⊢
    refine ⟨nV (ns.getD best 0), H, I.kept (t' := tk) kp, ⟨t, rfl⟩, q _ (fun e => ?_) fun _ => ⟨?_, fun y hy => ?_⟩⟩
    · subst e
      rfl
    · have hb : best < ns.length := by omega
      rw [List.getD_eq_getElem?_getD, List.getElem?_eq_getElem hb]
      exact List.getElem_mem hb
    · obtain ⟨j, hj, e⟩ := List.mem_iff_getElem.mp hy
      have := b2 j (by omega)
      have e2 : ns.getD j 0 = y := by
        rw [List.getD_eq_getElem?_getD, List.getElem?_eq_getElem hj, ← e]
        rfl
      rw [← e2]
      omega
end
end Ev
end
section
/-! a dict of ranks -/
namespace Ev
open PySem L2
theorem valV_nd {κ : Type} [DecidableEq κ] : ∀ {kvs : List (κ × V)}, (kvs.map (·.1)).Nodup → ∀ {p : κ × V}, p ∈ kvs → valV kvs p.1 = some p.2
  | [], _, p, h => by cases h
  | q :: kvs, nd, p, h => by
    have nd' := List.nodup_cons.mp nd
    rcases List.mem_cons.mp h with rfl | h
    · exact valV_pos rfl
    · rw [valV_neg]
      · exact valV_nd nd'.2 h
      · intro e
        refine nd'.1 (List.mem_map.mpr ⟨p, h, e.symm⟩)
theorem valV_in {κ : Type} [DecidableEq κ] {kvs : List (κ × V)} {k : κ} {v : V} (h : valV kvs k = some v) : (k, v) ∈ kvs := by
  unfold valV at h
  obtain ⟨p, hp, e⟩ := Option.map_eq_some_iff.mp h
  have h1 := List.find?_some hp
  have h2 := List.mem_of_find?_eq_some hp
  have h3 : p.1 = k := of_decide_eq_true h1
  have : p = (k, v) := by rw [← h3, ← e]
  exact this ▸ h2
/-- a dict of ranks: f by stand, keyed by stands of ss -/
def FndAt (H : Hp) (D : Addr) (ss : List (List Nat)) (f : List Nat → Option Nat) (kvs : List (List Key × V)) : Prop := H D = some (.dT kvs) ∧ (∀ s, s ∈ ss → valV kvs (kk s) = (f s).map nV) ∧
  ∃ L : List (List Nat), kvs.map (·.1) = L.map kk ∧ L.Nodup ∧ (∀ s ∈ L, s ∈ ss) ∧ ∃ ns : List Nat, kvs.map (·.2) = ns.map nV
theorem kk_nodup : ∀ {L : List (List Nat)}, L.Nodup → (L.map kk).Nodup
  | [], _ => .nil
  | s :: L, h => by
    have h' := List.nodup_cons.mp h
    refine List.nodup_cons.mpr ⟨fun q => ?_, kk_nodup h'.2⟩
    obtain ⟨t, ht, e⟩ := List.mem_map.mp q
    exact h'.1 (kk_inj e ▸ ht)
theorem FndAt.nd {H : Hp} {D : Addr} {ss : List (List Nat)} {f : List Nat → Option Nat} {kvs : List (List Key × V)} (F : FndAt H D ss f kvs) : (kvs.map (·.1)).Nodup := by
  obtain ⟨_, _, L, e, n, _⟩ := F
  rw [e]
  exact kk_nodup n
theorem FndAt.mono {H H' : Hp} {D : Addr} {ss : List (List Nat)} {f : List Nat → Option Nat} {kvs : List (List Key × V)} (F : FndAt H D ss f kvs) (h : H' D = H D) : FndAt H' D ss f kvs := ⟨h.trans F.1, F.2⟩
theorem le_of_nodup : ∀ {L ss : List (List Nat)}, L.Nodup → (∀ s ∈ L, s ∈ ss) → L.length ≤ ss.length
  | [], _, _, _ => Nat.zero_le _
  | s :: L, ss, n, q => by
    have n' := List.nodup_cons.mp n
    have hs : s ∈ ss := q s List.mem_cons_self
    have ih := le_of_nodup (ss := ss.erase s) n'.2 fun t ht => (List.mem_erase_of_ne (fun e : t = s => n'.1 (e ▸ ht))).mpr (q t (List.mem_cons_of_mem _ ht))
    have e := List.length_erase_of_mem hs
    have p := List.length_pos_of_mem hs
    rw [List.length_cons]
    omega
theorem FndAt.few {H : Hp} {D : Addr} {ss : List (List Nat)} {f : List Nat → Option Nat} {kvs : List (List Key × V)} (F : FndAt H D ss f kvs) (hn : ss.Nodup) : kvs.length ≤ ss.length := by
  obtain ⟨_, _, L, e, n, q, _⟩ := F
  have h1 := congrArg List.length e
  rw [List.length_map, List.length_map] at h1
  rw [h1]
  exact le_of_nodup n q
/-- one more is entered -/
theorem FndAt.put {H : Hp} {D : Addr} {ss : List (List Nat)} {f : List Nat → Option Nat} {kvs : List (List Key × V)} (F : FndAt H D ss f kvs) {s : List Nat} (hs : s ∈ ss) (hf : f s = none) (r : Nat) :
    FndAt (upd H D (.dT (putK kvs (kk s) (nV r)))) D ss (fun t => if t = s then some r else f t) (putK kvs (kk s) (nV r)) := by
  obtain ⟨hD, hv, L, e, n, q, ns, en⟩ := id F
  have new : valV kvs (kk s) = none := by
    rw [hv s hs, hf]
    rfl
  refine ⟨upd_same, fun t ht => ?_, L ++ [s], ?_, ?_, ?_, ns ++ [r], ?_⟩
  · rw [valV_put]
    by_cases h : t = s
    · subst h
      simp
    · have : ¬ kk t = kk s := fun e => h (kk_inj e)
      simp [h, this, hv t ht]
  · rw [putK_new _ new, List.map_append, List.map_append, e]
    rfl
  · refine List.nodup_append.mpr ⟨n, by simp, fun a ha b hb e' => ?_⟩
    have hb : b = s := by simpa using hb
    subst hb
    subst e'
    have h1 : kk a ∈ kvs.map (·.1) := e ▸ List.mem_map.mpr ⟨a, ha, rfl⟩
    obtain ⟨p, hp, e1⟩ := List.mem_map.mp h1
    have := valV_nd F.nd hp
    rw [e1, new] at this
    cases this
  · intro t ht
    rcases List.mem_append.mp ht with h | h
    · exact q t h
    · have : t = s := by simpa using h
      exact this ▸ hs
  · rw [putK_new _ new, List.map_append, List.map_append, en]
    rfl
/-- the greatest rank behind j rounds -/
theorem FndAt.max {H : Hp} {D : Addr} {n h j : Nat} {A : AR} {f : List Nat → Option Nat} {kvs : List (List Key × V)} (F : FndAt H D (stands n h) f kvs) (G : Fd A n h j f) (hj : j = 0 ∨ ∃ s, s ∈ stands n h ∧ f s = some j) :
    ∃ ns : List Nat, kvs.map (·.2) = ns.map nV ∧ ∀ m, (ns = [] → m = 0) → (ns ≠ [] → m ∈ ns ∧ ∀ y ∈ ns, y ≤ m) → m = j := by
  obtain ⟨hD, hv, L, e, nL, q, ns, en⟩ := id F
  have at_ : ∀ y ∈ ns, ∃ s, s ∈ stands n h ∧ f s = some y := fun y hy => by
    have h1 : nV y ∈ kvs.map (·.2) := en ▸ List.mem_map.mpr ⟨y, hy, rfl⟩
    obtain ⟨p, hp, e1⟩ := List.mem_map.mp h1
    have h2 : p.1 ∈ L.map kk := e ▸ List.mem_map.mpr ⟨p, hp, rfl⟩
    obtain ⟨s, hs, e2⟩ := List.mem_map.mp h2
    have h3 := valV_nd F.nd hp
    rw [← e2, hv s (q s hs), e1] at h3
    obtain ⟨y', e3, e4⟩ := Option.map_eq_some_iff.mp h3
    injection e4 with e4
    have : y' = y := by omega
    exact ⟨s, q s hs, this ▸ e3⟩
  refine ⟨ns, en, fun m h0 h1 => ?_⟩
  rcases hj with rfl | ⟨s, hs, e1⟩
  · cases ns with
    | nil => exact h0 rfl
    | cons y ns =>
      obtain ⟨s, hs, e1⟩ := at_ y List.mem_cons_self
      have := (G s (mem_stands.mp hs)).2 y e1
      omega
  · have h2 : valV kvs (kk s) = some (nV j) := by
      rw [hv s hs, e1]
      rfl
    have h3 : nV j ∈ kvs.map (·.2) := List.mem_map.mpr ⟨_, valV_in h2, rfl⟩
    rw [en] at h3
    obtain ⟨j', hj', e2⟩ := List.mem_map.mp h3
    injection e2 with e2
    have e3 : j' = j := by omega
    subst e3
    have ne : ns ≠ [] := fun e => by
      rw [e] at hj'
      cases hj'
    obtain ⟨m1, m2⟩ := h1 ne
    have := m2 j' hj'
    obtain ⟨t, ht, e4⟩ := at_ m m1
    have := (G t (mem_stands.mp ht)).2 m e4
    omega
theorem if_t {A B : Prop} (h : A) : if true = true then A else B := by
  rw [if_pos rfl]
  exact h
theorem if_f {A B : Prop} (h : B) : if false = true then A else B := by
  rw [if_neg Bool.false_ne_true]
  exact h
/-- locked and let go again -/
theorem lock_same {H H' : Hp} {d : Addr} {u : HO} {od : Obj} (hd : H d = some u) (s : Same (upd H d (.frz od u)) H') : Same H (upd H' d u) := fun b o e => by
  by_cases h : b = d
  · subst h
    rw [upd_same]
    exact hd.symm.trans e
  · rw [upd_ne h]
    exact s b o (by rw [upd_ne h]; exact e)
/-- how many have no rank -/
def cntN (ss : List (List Nat)) (f : List Nat → Option Nat) : Nat := (ss.filter fun s => (f s).isNone).length
theorem cntN_lt {ss : List (List Nat)} {f g : List Nat → Option Nat} (h : ∀ s, g s = none → f s = none) {s : List Nat} (hs : s ∈ ss) (h1 : f s = none) (h2 : ∃ r, g s = some r) : cntN ss g < cntN ss f := by
  obtain ⟨r, h2⟩ := h2
  exact filter_lt (fun s => (g s).isNone) (fun s => (f s).isNone) (fun s q => by
    have : g s = none := by simpa using q
    simpa using h s this) (y := s) (by rw [h2]; rfl) (by rw [h1]; rfl) ss hs
end Ev
end
section
namespace Ev
open PySem L2
variable {P : Program} {w : World} {K : PySem.W.Frag} {mg : Str → Option Value} {base : Heap}

/-! ### ranked -/
def spRanked : Sp := fun vs H Q _ => ∃ (n h : Nat) (A : AR) (sv : V), vs = [sv] ∧ StepsV H sv n (stands n h) A ∧ Closed A n h ∧ n ≤ 7 ∧ h ≤ 2 ∧
  ∀ D H' f kvs, Same H H' → FndAt H' D (stands n h) f kvs → (∀ s, Stand n h s → Rk A n s (f s)) → Q (.ref D) H'
theorem scRanked : FnScope ["steps", "found", "fresh", "stand", "later", "rows", "row", "other", "length"] ["steps"] (C8.fnScope sRanked) := ⟨rfl, rfl, rfl, by decide +kernel, rfl, by decide +kernel, by decide +kernel⟩
theorem ok_ranked {f : Addr} {fd : FuncData} (F : C8.Def K mg "ranked" sRanked f fd) (b : Binds K fd ["steps"] []) (T : Txt K mg) : C8.Cal P w K mg base 1 "ranked" spRanked [] := by
  refine C8.cal0 F b .nil scRanked (fun vs H Q E h => ?_) (fun cdv A outer s H vs Q E hr h => ?_)
  · obtain ⟨n, h, A, sv, rfl, _⟩ := h
    rfl
  obtain ⟨n, h, A, sv, rfl, st, hcl, hn, h2, k⟩ := h
  have nd := scRanked.nd
  refine ⟨_, (pss_cons (ps_set (i := 1) nd rfl (by first | exact .inl rfl | exact .inr rfl) pe_dnewT)
 (pss_cons (ps_set (i := 2) nd rfl (by first | exact .inl rfl | exact .inr rfl) pe_bl)
 (pss_cons (ps_while PassesOwn.never (kpt_truth (K := K) rfl (pv 2) (by intro _; rfl))
 (pss_cons (ps_set (i := 2) nd rfl (by first | exact .inl rfl | exact .inr rfl) (pe_lst pa_nil))
 (pss_cons (ps_lock (ps_for PassesOwn.never rfl (pi_keys (pv 0)) (pg_name (i := 3) nd rfl (by first | exact .inl rfl | exact .inr rfl))
 (pss_one (ps_if (pt_cmp (pc_dnotin (hu_of hr) (pv 3) (pv 1)) (by rfl))
 (pss_cons (ps_set (i := 5) nd rfl (by first | exact .inl rfl | exact .inr rfl) (pe_bm0 PySem.F.plainAttrs_dict PySem.F.slot_dict_values PySem.F.type_dict_values mt_vals (pe_dget (hu_of hr) (pv 0) (pv 3) (fun _ _ => rfl))))
 (pss_one (ps_if (pt_val (pe_callB (kcr_any rfl (K := K) rfl) (by rfl) T.n_any bb_any (pa_cons (pe_lock (pe_lc (own := [("row", 6)]) rfl nd (pi_view (pv 5)) (blkOk_by (own := [("row", 6)]) (by kernel_rfl)) (fun _ _ _ _ _ => (pg_name (i := 6) nd rfl (by first | exact .inl rfl | exact .inr rfl))) (fun _ _ _ _ _ => pts_nil) (fun _ _ _ _ _ => (pe_callB (kcr_all rfl (K := K) rfl) (by rfl) T.n_all bb_all (pa_cons (pe_lc (own := [("other", 7), ("length", 8)]) rfl nd (kpi_list (K := K) rfl (pv 6)) (blkOk_by (own := [("other", 7), ("length", 8)]) (by kernel_rfl)) (fun _ _ _ _ _ => (kpg_tup (K := K) (n := 2) rfl rfl (pgs_cons (pg_name (i := 7) nd rfl (by first | exact .inl rfl | exact .inr rfl)) (pgs_cons (pg_name (i := 8) nd rfl (by first | exact .inl rfl | exact .inr rfl)) pgs_nil)))) (fun _ _ _ _ _ => pts_nil) (fun _ _ _ _ _ => (pe_cmp (pc_din (hu_of hr) (pv 7) (pv 1)) (by rfl)))) pa_nil))))) pa_nil)) (by intro _; rfl))
 (pss_one (ps_expr (pe_bm PySem.F.plainAttrs_list PySem.F.slot_list_append PySem.F.type_list_append mt_append (pv 2) (pa_cons (pv 3) pa_nil))))
 pss_nil)))
 pss_nil))))
 (pss_cons (ps_set (i := 4) nd rfl (by first | exact .inl rfl | exact .inr rfl) (pe_op op_add (pe_callBK (crk_maxV rfl) (by rfl) T.n_max bb_max (pa_cons (pe_bm0 PySem.F.plainAttrs_dict PySem.F.slot_dict_values PySem.F.type_dict_values mt_vals (pv 1)) pa_nil) (pk_cons pe_int pk_nil)) pe_int))
 (pss_one (ps_for PassesOwn.never rfl (kpi_list (K := K) rfl (pv 2)) (pg_name (i := 3) nd rfl (by first | exact .inl rfl | exact .inr rfl))
 (pss_one (ps_dput (hu_of hr) (pv 1) (pv 3) (pv 4) rfl))))))))
 (pss_one (ps_ret (pv 1)))))), ?_⟩
  obtain ⟨D, kst, rfl, hD, hkl, hks⟩ := st
  have few := stands_few (n := n) (h := h) hn h2
  have snd := stands_nodup n h
  refine fun Fa hFa => ?_
  refine new_ind hFa (upd _ Fa _) rfl fun H1 s1 e1 => ?_
  have nDF : D ≠ Fa := ne_of_none hD hFa
  refine ⟨fun m σ H' => Same H H' ∧ ∃ (f : List Nat → Option Nat) (kvs : List (List Key × V)) (fr : V) (x3 x4 x5 x6 x7 x8 : Option V), σ = [some (.ref D), some (.ref Fa), some fr, x3, x4, x5, x6, x7, x8] ∧ FndAt H' Fa (stands n h) f kvs ∧
      ((∃ j, TruV K fr H' true ∧ Fd A n h j f ∧ (j = 0 ∨ ∃ s, s ∈ stands n h ∧ f s = some j) ∧ m = cntN (stands n h) f + 1) ∨ (TruV K fr H' false ∧ (∀ s, Stand n h s → Rk A n s (f s)) ∧ m = cntN (stands n h) f)),
    ⟨_, s1, fun _ => none, [], .bl true, _, _, _, _, _, _, rfl, ⟨e1, fun s _ => rfl, [], rfl, .nil, fun s hs => (by cases hs), [], rfl⟩, .inl ⟨0, rfl, fd_zero, .inl rfl, rfl⟩⟩, ?_⟩
  rintro m σ H2 ⟨s2, f, kvs, fr, x3, x4, x5, x6, x7, x8, rfl, hF, hrun⟩
  rcases hrun with ⟨j, tru, fdj, hj, rfl⟩ | ⟨tru, hrk, rfl⟩
  · refine ⟨_, rfl, true, tru, ?_⟩
    refine if_t ?_
    refine ⟨fun σ' H' => ∃ m', m' < cntN (stands n h) f + 1 ∧ (Same H H' ∧ ∃ (f : List Nat → Option Nat) (kvs : List (List Key × V)) (fr : V) (x3 x4 x5 x6 x7 x8 : Option V), σ' = [some (.ref D), some (.ref Fa), some fr, x3, x4, x5, x6, x7, x8] ∧ FndAt H' Fa (stands n h) f kvs ∧
      ((∃ j, TruV K fr H' true ∧ Fd A n h j f ∧ (j = 0 ∨ ∃ s, s ∈ stands n h ∧ f s = some j) ∧ m' = cntN (stands n h) f + 1) ∨ (TruV K fr H' false ∧ (∀ s, Stand n h s → Rk A n s (f s)) ∧ m' = cntN (stands n h) f))), fun σ' H' q => q, ?_⟩
    refine ⟨by show 0 ≤ sizeLine; decide, fun L hL => ?_⟩
    refine new_ind hL (upd _ L _) rfl fun H3 s3 e3 => ?_
    have hD3 : H3 D = some (.dT kst) := s3 _ _ (s2 _ _ hD)
    have hHL : H L = none := s2.free hL
    have nDL : D ≠ L := ne_of_none hD hHL
    have nFL : Fa ≠ L := ne_of_none hF.1 hL
    refine ⟨D, _, hD3, True.intro, fun od => ?_⟩
    refine ⟨_, rfl, D, od, rfl, .inr ⟨kst, upd_same, ?_⟩⟩
    have kr0 : KeepR H (upd H D (.frz od (.dT kst))) := KeepR.upd fun o e => by
      rw [hD] at e
      injection e with e
      subst e
      exact id
    refine for_it (walk_keysT (d := D) (o := od) (kvs := kst)) (fun i σ H' => Same (upd H D (.frz od (.dT kst))) H' ∧ FndAt H' Fa (stands n h) f kvs ∧ ∃ (frs : List (List Nat)) (xs : List V) (x3 x4 x5 x6 x7 x8 : Option V), σ = [some (.ref D), some (.ref Fa), some (.ref L), x3, x4, x5, x6, x7, x8] ∧
        H' L = some (.lst xs) ∧ Tups H' xs frs ∧ frs.length ≤ i ∧ frs.Sublist ((stands n h).take i) ∧ ∀ s, s ∈ frs ↔ s ∈ (stands n h).take i ∧ New A n f s)
      ⟨fun b o q => ?_, hF.mono ?_, [], [], _, _, _, _, _, _, rfl, by rw [upd_ne nDL.symm]; exact e3, .nil, Nat.zero_le _, List.nil_sublist _, fun s => ⟨fun q => (by cases q), fun q => (by simp at q)⟩⟩ (fun i σ H' _ q => q.1 D _ upd_same) ?_ ?_
    · by_cases hb : b = D
      · subst hb
        rw [upd_same] at q ⊢
        exact q
      · rw [upd_ne hb] at q ⊢
        exact s3 _ _ (s2 _ _ q)
    · rw [upd_ne nDF.symm, s3 _ _ hF.1, hF.1]
    · rintro i x σ Hx H4 hi ⟨s4, hF4, frs, xs, x3, x4, x5, x6, x7, x8, rfl, hL4, tx, lfr, sub, hfr⟩ ⟨rfl, ky, v, q, hkv, rfl, hq⟩
      have his : i < (stands n h).length := by omega
      obtain ⟨s, hs⟩ : ∃ s, (stands n h)[i]? = some s := ⟨_, List.getElem?_eq_getElem his⟩
      have hsm := List.mem_of_getElem? hs
      have hst : Stand n h s := mem_stands.mp hsm
      obtain ⟨ek, hcalls⟩ := hks i _ s hkv hs
      have ek : ky = kk s := ek
      subst ek
      rw [kk_map] at hq
      have tk : (stands n h).take (i + 1) = (stands n h).take i ++ [s] := by
        rw [List.take_succ, hs]
        rfl
      have stay : ¬ New A n f s → (∀ t, t ∈ frs ↔ t ∈ (stands n h).take (i + 1) ∧ New A n f t) := fun nn t => by
        rw [hfr t, tk, List.mem_append]
        constructor
        · rintro ⟨a, b⟩
          exact ⟨.inl a, b⟩
        · rintro ⟨a | a, b⟩
          · exact ⟨a, b⟩
          · have : t = s := by simpa using a
            subst this
            exact absurd b nn
      have sub' : frs.Sublist ((stands n h).take (i + 1)) := by
        rw [tk]
        exact sub.trans (List.sublist_append_left _ _)
      refine ⟨_, rfl, _, rfl, Fa, _, rfl, DGet.t (k := kk s) hF4.1 (by rw [kk_map]; exact hq), _, rfl, ?_⟩
      rw [hF4.2.1 s hsm]
      refine ite_b (fun c1 => ?_) (fun c1 => ?_)
      · have fs : f s = none := by
          cases e : f s with
          | none => rfl
          | some r => rw [e] at c1; cases c1
        have hv : valV kst (kk s) = some v := by
          have nd' : (kst.map (·.1)).Nodup := by
            have : kst.map (·.1) = (stands n h).map kk := List.ext_getElem? fun a => by
              rw [List.getElem?_map, List.getElem?_map]
              rcases Nat.lt_or_ge a kst.length with lt | ge
              · have h1 : kst[a]? = some kst[a] := List.getElem?_eq_getElem lt
                have h2 : (stands n h)[a]? = some ((stands n h)[a]'(by omega)) := List.getElem?_eq_getElem (by omega)
                rw [h1, h2]
                exact congrArg some (hks a _ _ h1 h2).1
              · rw [List.getElem?_eq_none ge, List.getElem?_eq_none (by omega)]
                rfl
            rw [this]
            exact kk_nodup snd
          exact valV_nd nd' (List.mem_of_getElem? hkv)
        have calls4 : CallsV TupN H4 v n (A s) := hcalls.keep (kr0.trans s4.keepR) fun y t q => q.keep (kr0.trans s4.keepR).l
        obtain ⟨E, rows, rfl, hE, hrl, hrows⟩ := calls4
        refine ⟨_, rfl, _, rfl, D, .ref E, rfl, .inr ⟨kst, kk s, q, .inr ⟨od, s4 _ _ upd_same⟩, rfl, by rw [kk_map]; exact hq, hv.symm⟩, .inr (.inr (.inl ⟨rfl, .inl ⟨_, hE⟩⟩)), E, rfl, rfl, .inl ⟨rows, .inl hE⟩, fun p hp => ?_⟩
        refine new_ind hp (upd _ p _) rfl fun H5 s5 e5 => ?_
        have hE5 := s5 _ _ hE
        have nEp : E ≠ p := ne_of_none hE hp
        have nEF : E ≠ Fa := ne_of hE hF4.1 fun q => nomatch q
        refine ⟨E, _, hE5, True.intro, fun oe => ?_⟩
        have s6 : ∀ b o, b ≠ E → H5 b = some o → (upd H5 E (.frz oe (.dK rows))) b = some o := fun b o ne e => by
          rw [upd_ne ne]
          exact e
        have kl6 : KeepL H5 (upd H5 E (.frz oe (.dK rows))) := KeepL.upd fun o e => by
          rw [hE5] at e
          injection e with e
          subst e
          exact id
        refine ⟨_, rfl, p, E, oe, rows, rfl, s6 _ _ nEp.symm e5, upd_same, fun D2 hD2 => ?_⟩
        have hD2' : H5 D2 = none := by
          have ne : D2 ≠ E := fun e => by
            subst e
            rw [upd_same] at hD2
            cases hD2
          rwa [upd_ne ne] at hD2
        classical
        let okc : Nat → Bool := fun c => decide (∀ t, A s c t → (f t).isSome = true)
        refine lc_it (walk_values (d := E) (o := oe) (kvs := rows)) (fun c H' => Same (upd H5 E (.frz oe (.dK rows))) H' ∧ H' D2 = some (.lst (((List.range c).map okc).map V.bl))) ⟨Same.new hD2 _, upd_same⟩ (fun c H' _ q => q.1 E _ upd_same) ?_ ?_
        · rintro c x Hx H6 hc ⟨t6, e6⟩ ⟨rfl, kc, hkc⟩
          obtain ⟨_, ps, hrow, hps⟩ := hrows c _ hkc
          obtain ⟨R, rfl, hR, hpairs, hlen⟩ := hrow
          have hcn : c < n := by omega
          have hR6 := t6 _ _ (kl6 R (.lst (ps.map (·.1))) True.intro (s5 _ _ hR))
          refine ⟨rfl, ?_⟩
          refine ⟨_, rfl, R, rfl, ⟨_, SqL.of hR6⟩, fun D3 hD3 => ?_⟩
          refine lc_list (K := K) (a := R) (xs := ps.map (·.1)) (fun i H' => Same H6 H' ∧ H' D3 = some (.lst (((ps.take i).map fun p => (f p.2).isSome).map V.bl))) ⟨Same.new hD3 _, upd_same⟩ (fun i H' _ q => SqL.of (q.1 _ _ hR6)) ?_ ?_
          · rintro i x H7 hx ⟨t7, e7⟩
            rw [List.getElem?_map] at hx
            obtain ⟨pr, hpr, rfl⟩ := Option.map_eq_some_iff.mp hx
            obtain ⟨a, y, l, ea, hta, ty⟩ := hpairs pr (List.mem_of_getElem? hpr)
            obtain ⟨b, rfl, hb⟩ := ty
            have to7 : ∀ b o, b ≠ E → H5 b = some o → H7 b = some o := fun b o ne e => t7 _ _ (t6 _ _ (s6 b o ne e))
            have up : ∀ b xs, H4 b = some (.tup xs) → H7 b = some (.tup xs) := fun b xs e => t7 _ _ (t6 _ _ (kl6 b (.tup xs) True.intro (s5 _ _ e)))
            have hat : A s c pr.2 := (hps pr.2).mp (List.mem_map.mpr ⟨pr, List.mem_of_getElem? hpr, rfl⟩)
            have hts : pr.2 ∈ stands n h := mem_stands.mpr (hcl s c pr.2 hst hcn hat)
            have hF7 : FndAt H7 Fa (stands n h) f kvs := hF4.mono (by rw [to7 _ _ nEF.symm (s5 _ _ hF4.1), hF4.1])
            refine ⟨a, _, ea, SqT.of (up _ _ hta), rfl, _, _, rfl, _, _, rfl, rfl, rfl, ?_⟩
            refine ⟨_, rfl, _, rfl, Fa, _, rfl, DGet.t (k := kk pr.2) hF7.1 (by rw [kk_map]; exact up _ _ hb), ?_⟩
            rw [hF7.2.1 _ hts]
            refine ⟨_, e7, Nat.lt_of_le_of_lt (m := 1000) ?_ (by decide), t7.put hD3 _, ?_⟩
            · rw [List.length_map, List.length_map, List.length_take]
              exact Nat.le_trans (Nat.min_le_right _ _) hlen
            · rw [upd_same, List.take_succ, hpr, List.map_append, List.map_append]
              show _ = some (HO.lst (_ ++ [V.bl (f pr.2).isSome]))
              rw [Option.isSome_map]
          · rintro H7 ⟨t7, e7⟩
            rw [List.length_map, List.take_length] at e7
            refine ⟨D3, _, rfl, SqL.of e7, _, t7 _ _ e6, ?_, (t6.trans t7).put hD2 _, ?_⟩
            · exact Nat.lt_of_le_of_lt (m := 1000) (by rw [List.length_map, List.length_map, List.length_range]; omega) (by decide)
            · rw [upd_same, List.range_succ, List.map_append, List.map_append]
              have ea : ((ps.map fun p => (f p.2).isSome).all id) = okc c := by
                rw [Bool.eq_iff_iff, List.all_eq_true]
                show _ ↔ decide _ = true
                rw [decide_eq_true_iff]
                constructor
                · intro q t ht
                  obtain ⟨pr, hpr, rfl⟩ := List.mem_map.mp ((hps t).mpr ht)
                  exact q _ (List.mem_map.mpr ⟨pr, hpr, rfl⟩)
                · intro q z hz
                  obtain ⟨pr, hpr, rfl⟩ := List.mem_map.mp hz
                  exact q _ ((hps _).mp (List.mem_map.mpr ⟨pr, hpr, rfl⟩))
              rw [ea]
              rfl
        · rintro H6 ⟨t6, e6⟩
          refine ⟨t6 _ _ upd_same, ?_⟩
          have sL := lock_same hE5 t6
          have nD2E : D2 ≠ E := fun e => by
            subst e
            rw [hE5] at hD2'
            cases hD2'
          have e7 : (upd H6 E (.dK rows)) D2 = some (.lst (((List.range rows.length).map okc).map V.bl)) := by
            rw [upd_ne nD2E]
            exact e6
          generalize upd H6 E (.dK rows) = H7 at sL e7 ⊢
          have s47 := s5.trans sL
          have hL7 := s47 _ _ hL4
          have hF7 : FndAt H7 Fa (stands n h) f kvs := hF4.mono (by rw [s47 _ _ hF4.1, hF4.1])
          have new_iff : ((List.range rows.length).map okc).any id = true ↔ New A n f s := by
            rw [List.any_eq_true]
            constructor
            · rintro ⟨z, hz, ez⟩
              obtain ⟨c, hc, rfl⟩ := List.mem_map.mp hz
              have hc := List.mem_range.mp hc
              exact ⟨fs, c, by omega, of_decide_eq_true ez⟩
            · rintro ⟨_, c, hc, q⟩
              exact ⟨true, List.mem_map.mpr ⟨c, List.mem_range.mpr (by omega), decide_eq_true q⟩, rfl⟩
          refine ⟨D2, _, rfl, SqL.of e7, _, rfl, ite_b (fun c2 => ?_) (fun c2 => ?_)⟩
          · have nw := new_iff.mp c2
            have lx := Paired.len tx
            refine ⟨_, rfl, .inl ⟨rfl, _, SqL.of hL7⟩, _, rfl, L, xs, _, rfl, rfl, hL7, Nat.lt_of_le_of_lt (m := 1000) (by omega) (by decide), ?_⟩
            have ts : TSame H7 (upd H7 L (.lst (xs ++ [V.ref q]))) := TSame.upd hL7 id
            refine ⟨(s4.trans s47).put (by rw [upd_ne nDL.symm]; exact hHL) _, hF7.mono (upd_ne nFL), frs ++ [s], _, _, _, _, _, _, _, rfl, upd_same, Paired.app ((tx.mono s47.tup).mono ts) (.cons ⟨q, rfl, ts _ _ True.intro (s47 _ _ hq)⟩ .nil), ?_, ?_, fun t => ?_⟩
            · rw [List.length_append]
              show frs.length + 1 ≤ i + 1
              omega
            · rw [tk]
              exact sub.append (List.Sublist.refl _)
            · rw [List.mem_append, hfr t, tk, List.mem_append]
              constructor
              · rintro (⟨a, b⟩ | a)
                · exact ⟨.inl a, b⟩
                · have : t = s := by simpa using a
                  subst this
                  exact ⟨.inr a, nw⟩
              · rintro ⟨a | a, b⟩
                · exact .inl ⟨a, b⟩
                · exact .inr a
          · have nn : ¬ New A n f s := fun nw => by
              rw [new_iff.mpr nw] at c2
              cases c2
            exact ⟨s4.trans s47, hF7, frs, xs, _, _, _, _, _, _, rfl, hL7, tx.mono s47.tup, by omega, sub', stay nn⟩
      · have nn : ¬ New A n f s := fun nw => by
          rw [nw.1] at c1
          cases c1
        exact ⟨s4, hF4, frs, xs, _, _, _, _, _, _, rfl, hL4, tx, by omega, sub', stay nn⟩
    · rintro σ H4 ⟨s4, hF4, frs, xs, x3, x4, x5, x6, x7, x8, rfl, hL4, tx, lfr, sub, hfr⟩
      refine ⟨s4 _ _ upd_same, ?_⟩
      have full : (stands n h).take kst.length = stands n h := List.take_of_length_le (by omega)
      rw [full] at sub hfr
      have sL := lock_same hD s4
      have hF5 : FndAt (upd H4 D (.dT kst)) Fa (stands n h) f kvs := hF4.mono (upd_ne nDF.symm)
      have hL5 : (upd H4 D (.dT kst)) L = some (.lst xs) := by
        rw [upd_ne nDL.symm]
        exact hL4
      have tx5 : Tups (upd H4 D (.dT kst)) xs frs := Paired.imp (fun y t ⟨a, e, q⟩ => ⟨a, e, by
        rw [upd_ne (ne_of q (s4 _ _ upd_same) fun q => nomatch q)]
        exact q⟩) tx
      generalize upd H4 D (.dT kst) = H5 at sL hF5 hL5 tx5 ⊢
      have fnd : frs.Nodup := snd.sublist sub
      refine ⟨_, rfl, .inr (.inr (.inl ⟨rfl, .inr ⟨_, hF5.1⟩⟩)), Fa, rfl, rfl, .inr ⟨kvs, .inl hF5.1⟩, fun p hp => ?_⟩
      refine new_ind hp (upd _ p _) rfl fun H6 s6 e6 => ?_
      have hF6 : FndAt H6 Fa (stands n h) f kvs := hF5.mono (by rw [s6 _ _ hF5.1, hF5.1])
      obtain ⟨ns, hns, hmax⟩ := hF6.max fdj hj
      refine ⟨p, Fa, kvs, ns, rfl, rfl, e6, hF6.1, hns, fun mx m0 m1 => ?_⟩
      have := hmax mx m0 m1
      subst this
      delta tC
      dsimp only
      refine addN (x := mx) (y := 1) ?_
      have hL6 := s6 _ _ hL5
      have lx := Paired.len tx5
      refine ⟨_, rfl, L, rfl, ⟨xs, SqL.of hL6⟩, ?_⟩
      refine for_list (K := K) (a := L) (xs := xs) (fun i σ H' => Same H H' ∧ H' L = some (.lst xs) ∧ Tups H' xs frs ∧ ∃ (kvs' : List (List Key × V)) (x3 x5 x6 x7 x8 : Option V), σ = [some (.ref D), some (.ref Fa), some (.ref L), x3, some (nV (mx + 1)), x5, x6, x7, x8] ∧
          FndAt H' Fa (stands n h) (fun s => if s ∈ frs.take i then some (mx + 1) else f s) kvs')
        ⟨sL.trans s6, hL6, tx5.mono s6.tup, kvs, _, _, _, _, _, rfl, by
          have e0 : (fun s => if s ∈ frs.take 0 then some (mx + 1) else f s) = f := by
            funext s
            simp
          rw [e0]
          exact hF6⟩ (fun i σ H' _ q => SqL.of q.2.1) ?_ ?_
      · rintro i x σ H7 hi ⟨s7, hL7, tx7, kvs', x3, x5, x6, x7, x8, rfl, hF7⟩
        obtain ⟨s, hs, a, rfl, ha⟩ := Paired.at_ tx7 hi
        have hsf := List.mem_of_getElem? hs
        have hnew := (hfr s).mp hsf
        have tk : frs.take (i + 1) = frs.take i ++ [s] := by
          rw [List.take_succ, hs]
          rfl
        have nin : s ∉ frs.take i := fun q => by
          have : (frs.take i ++ [s]).Nodup := by
            rw [← tk]
            exact fnd.sublist (List.take_sublist _ _)
          exact (List.nodup_append.mp this).2.2 s q s (by simp) rfl
        have hgs : (fun s => if s ∈ frs.take i then some (mx + 1) else f s) s = none := by
          show (if s ∈ frs.take i then some (mx + 1) else f s) = none
          rw [if_neg nin]
          exact hnew.2.1
        have hlen := hF7.few snd
        refine ⟨_, rfl, _, rfl, _, rfl, Fa, _, rfl, DPut.t (k := kk s) hF7.1 (by rw [kk_map]; exact ha) (Nat.lt_of_le_of_lt (m := 1000) (by omega) (by decide)), ?_⟩
        have hput := hF7.put hnew.1 hgs (mx + 1)
        refine ⟨s7.put hFa _, by rw [upd_ne nFL.symm]; exact hL7, tx7.mono (TSame.upd hF7.1 id), putK kvs' (kk s) (nV (mx + 1)), _, _, _, _, _, rfl, ?_⟩
        have e1 : (fun t => if t = s then some (mx + 1) else (fun s => if s ∈ frs.take i then some (mx + 1) else f s) t) = fun t => if t ∈ frs.take (i + 1) then some (mx + 1) else f t := by
          funext t
          rw [tk]
          by_cases h1 : t = s
          · simp [h1]
          · by_cases h2 : t ∈ frs.take i
            · simp [h1, h2]
            · simp [h1, h2]
        rw [e1] at hput
        exact hput
      · rintro σ H7 ⟨s7, hL7, tx7, kvs', x3, x5, x6, x7, x8, rfl, hF7⟩
        have ef : frs.take xs.length = frs := by rw [lx, List.take_length]
        rw [ef] at hF7
        have step : Fd A n h (mx + 1) (fun s => if s ∈ frs then some (mx + 1) else f s) := Fd.step hcl fdj fun s hs => ⟨fun nw => by rw [if_pos ((hfr s).mpr ⟨mem_stands.mpr hs, nw⟩)], fun nn => by rw [if_neg fun q => nn ((hfr s).mp q).2]⟩
        cases hfe : frs with
        | nil =>
          have ex : xs = [] := List.eq_nil_of_length_eq_zero (by rw [lx, hfe]; rfl)
          subst hfe
          have eg : (fun s => if s ∈ ([] : List (List Nat)) then some (mx + 1) else f s) = f := by
            funext s
            simp
          rw [eg] at hF7
          refine ⟨_, Nat.lt_succ_self _, s7, f, kvs', .ref L, _, _, _, _, _, _, rfl, hF7, .inr ⟨.inl ⟨xs, SqL.of hL7, by rw [ex]; rfl⟩, fun s hs => Fd.whole hcl fdj (fun t ht nw => ?_) hs, rfl⟩⟩
          have := (hfr t).mpr ⟨mem_stands.mpr ht, nw⟩
          cases this
        | cons s0 rest =>
          have hs0 : s0 ∈ frs := by
            rw [hfe]
            exact List.mem_cons_self
          have nx : xs ≠ [] := fun e => by
            rw [e, hfe] at lx
            cases lx
          refine ⟨cntN (stands n h) (fun s => if s ∈ frs then some (mx + 1) else f s) + 1, Nat.succ_lt_succ (cntN_lt (fun s q => ?_) ((hfr s0).mp hs0).1 ((hfr s0).mp hs0).2.1 ⟨mx + 1, if_pos hs0⟩), s7, _, kvs', .ref L, _, _, _, _, _, _, rfl, hF7, .inl ⟨mx + 1, .inl ⟨xs, SqL.of hL7, ?_⟩, step, .inr ⟨s0, ((hfr s0).mp hs0).1, if_pos hs0⟩, rfl⟩⟩
          · by_cases h1 : s ∈ frs
            · have q : (if s ∈ frs then some (mx + 1) else f s) = none := q
              rw [if_pos h1] at q
              cases q
            · have q : (if s ∈ frs then some (mx + 1) else f s) = none := q
              rw [if_neg h1] at q
              exact q
          · cases xs with
            | nil => exact absurd rfl nx
            | cons a b => rfl
  · refine ⟨_, rfl, false, tru, ?_⟩
    refine if_f ?_
    exact ⟨_, rfl, k _ _ _ _ s2 hF hrk⟩
end Ev
end
section
/-! sorted(d) of a dict whose keys are tuples of numbers -/
namespace Ev
open PySem PySem.Spec PyProof.Rows L2
theorem perm_map {α β : Type} (f : α → β) : ∀ {l : List α} {out : List β}, out.Perm (l.map f) → ∃ l' : List α, l'.Perm l ∧ out = l'.map f
  | [], out, h => ⟨[], .nil, List.perm_nil.mp h⟩
  | a :: l, out, h => by
    obtain ⟨o1, o2, rfl⟩ := List.append_of_mem (h.mem_iff.mpr (by simp : f a ∈ (a :: l).map f))
    have h2 : (o1 ++ o2).Perm (l.map f) := (List.perm_cons (f a)).mp (List.perm_middle.symm.trans h)
    obtain ⟨l', p, e⟩ := perm_map f h2
    obtain ⟨l1, l2, rfl, e1, e2⟩ := List.map_eq_append_iff.mp e.symm
    refine ⟨l1 ++ a :: l2, List.perm_middle.trans (p.cons a), ?_⟩
    rw [List.map_append, List.map_cons, e1, e2]
section
variable {X : Cx} {K : PySem.W.Frag}
def rSortedDT (d : Nat) (B : Int) : List V → Hp → VK → Prop := fun vs H Q => ∃ (a : Addr) (kvs : List (List Key × V)) (L : List (List Nat)), vs = [V.ref a] ∧ Rd H a (.dT kvs) ∧ kvs.map (·.1) = L.map kk ∧ L.length < 64 ∧ 1 ≤ d ∧ (∀ s ∈ L, s.length = d ∧ ∀ x ∈ s, (x : Int) < B) ∧
  ∀ (rs : List (Addr × List Nat)) (p : Addr), (rs.map (·.2)).Perm L → (∀ r ∈ rs, H r.1 = some (.tup (r.2.map nV))) → H p = none → Q (.ref p) (upd H p (.lst (rs.map fun r => V.ref r.1)))
theorem cr_sortedDT {d : Nat} {B : Int} (hc : X.calm = true) : CallR X (.builtin "sorted") (rSortedDT d B) := by
  intro pins s σ H vs us Q I r h
  obtain ⟨a, kvs, L, rfl, ha, hk, h64, hd, hL, q⟩ := h
  rw [Vals.ref1 r]
  obtain ⟨z, notMod, rows, rel, ob, es, ep, e1, ex, e2, e3, _⟩ := (show ObjOk X.prog X.w H s.heap a (.dT kvs) from ha.ok I.hok)
  have l1 : kvs.length = rows.length := Paired.length rel
  have l2 : es.size = rows.length := size_of_entries e3
  have l3 : kvs.length = L.length := by
    have := congrArg List.length hk
    rwa [List.length_map, List.length_map] at this
  let rs0 : List (Addr × List Nat) := List.zipWith (fun x s => (x.2.1, s)) rows L
  have at0 : ∀ (i : Nat) (x : List Key × Addr × Value) (s : List Nat), rows[i]? = some x → L[i]? = some s → H x.2.1 = some (.tup (s.map nV)) := fun i x s hx hs => by
    have li := (List.getElem?_eq_some_iff.mp hx).1
    have hkv : kvs[i]? = some (kvs[i]'(by omega)) := List.getElem?_eq_getElem (by omega)
    obtain ⟨x', hx', ek, ht, _⟩ := Paired.at_ rel hkv
    rw [hx] at hx'
    injection hx' with hx'
    subst hx'
    have : (kvs.map (·.1))[i]? = (L.map kk)[i]? := by rw [hk]
    rw [List.getElem?_map, List.getElem?_map, hkv, hs] at this
    injection this with this
    have this : (kvs[i]'(by omega)).1 = kk s := this
    rw [this, kk_map] at ht
    exact ht
  have m0 : rs0.map (fun r => Value.ref r.1) = rows.map fun x => Value.ref x.2.1 := by
    apply List.ext_getElem?
    intro i
    rw [List.getElem?_map, List.getElem?_map, List.getElem?_zipWith]
    rcases Nat.lt_or_ge i rows.length with lt | ge
    · rw [List.getElem?_eq_getElem lt, List.getElem?_eq_getElem (by omega : i < L.length)]
      rfl
    · rw [List.getElem?_eq_none ge]
      rfl
  have m1 : rs0.map (·.2) = L := by
    apply List.ext_getElem?
    intro i
    rw [List.getElem?_map, List.getElem?_zipWith]
    rcases Nat.lt_or_ge i rows.length with lt | ge
    · rw [List.getElem?_eq_getElem lt, List.getElem?_eq_getElem (by omega : i < L.length)]
      rfl
    · rw [List.getElem?_eq_none ge, List.getElem?_eq_none (by omega)]
      rfl
  have m2 : ∀ r ∈ rs0, H r.1 = some (.tup (r.2.map nV)) := fun r hr => by
    obtain ⟨i, hi⟩ := List.mem_iff_getElem?.mp hr
    rw [List.getElem?_zipWith] at hi
    cases hx : rows[i]? with
    | none => rw [hx] at hi; cases hi
    | some x =>
      cases hs : L[i]? with
      | none => rw [hx, hs] at hi; cases hi
      | some t =>
        rw [hx, hs] at hi
        injection hi with hi
        subst hi
        exact at0 i x t hx hs
  refine Calls.call_function_entry kind_sorted plain_sorted entry_sorted (args_sorted1 _) ?_
  unfold Builtin.«sorted»
  refine wpAny_bind (m := checkCount "sorted" 1 1 _) (wpAny_pure ?_)
  refine wpAny_bind (PySem.W.kdu_collect (A := X.A.in1) (kdl_raw notMod ex e2) (I.ok.hd hc) e1 (by rw [sizeLine_eq]; omega) fun h' tk acc hkeep hacc => ?_)
  have ea : acc.toList = rs0.map fun r => Value.ref r.1 := by
    rw [m0]
    have hl : acc.toList.length = rows.length := by rw [Array.length_toList, hacc.1]; exact l2
    apply List.ext_getElem?
    intro j
    rw [List.getElem?_map]
    rcases Nat.lt_or_ge j rows.length with lt | ge
    · have hj : acc.toList[j]? = some (acc.toList[j]'(by omega)) := List.getElem?_eq_getElem (by omega)
      obtain ⟨en, hen, hv⟩ := hacc.2 j _ (by rw [← Array.getElem?_toList]; exact hj)
      have qe := entry_at e3 j
      rw [hen, List.getElem?_eq_getElem lt] at qe
      injection qe with qe
      rw [hj, hv, qe, List.getElem?_eq_getElem lt]
      rfl
    · rw [List.getElem?_eq_none ge, List.getElem?_eq_none (by omega)]
      rfl
  have J : Inv X pins σ H { s with heap := h', toks := tk } := I.kept hkeep
  have lr : rs0.length = L.length := by rw [← m1, List.length_map]
  have al : acc.toList.length = L.length := by rw [ea, List.length_map, lr]
  refine wpAny_bind (wpAny_newList ?_ (by rw [al, sizeLine_eq]; omega))
  have eL : (h'.push (seqObj "list" acc.toList.toArray 0)).get? h'.objs.size = some (seqObj "list" acc.toList.toArray 0) := Heap.get?_push_size _ rfl
  have raw : ∀ r ∈ rs0, TS.TupInts (h'.push (seqObj "list" acc.toList.toArray 0)) (.ref r.1) (r.2.map fun n : Nat => (n : Int)) := fun r hr => by
    obtain ⟨_, its, rv, o, o1, o2, n, o3⟩ := (show ObjOk X.prog X.w H h' r.1 (.tup (r.2.map nV)) from J.hok r.1 _ (m2 r hr))
    exact ⟨r.1, its.toArray, rfl, ⟨o, Heap.get?_push_of_some _ o1, o2, n, o3⟩, by simpa using vals_ints rv⟩
  change wpAny _ _ _ _ _ { s with heap := h'.push (seqObj "list" acc.toList.toArray 0), toks := tk }
  refine wpAny_bind (wpAny_holding (wpAny_call_entry slot_list_sort ⟨_, eL, rfl⟩ entry_list_sort (TS.sort_tups (s := { s with heap := h'.push (seqObj "list" acc.toList.toArray 0), toks := tk }) (d := d) (B := B) eL (by rw [al]; exact h64) hd (fun v hv => ?_)
    (fun v => TS.code B (TS.intsOf (h'.push (seqObj "list" acc.toList.toArray 0)) v)) (fun v hv ns t => by
      show TS.code B (TS.intsOf (h'.push (seqObj "list" acc.toList.toArray 0)) v) = TS.code B ns
      rw [t.ints]) fun out h1 h2 => ⟨_, rfl, ?_⟩) (args_list_sort _)))
  · rw [ea] at hv
    obtain ⟨r, hr, rfl⟩ := List.mem_map.mp hv
    have hs := hL r.2 (m1 ▸ List.mem_map.mpr ⟨r, hr, rfl⟩)
    refine ⟨_, raw r hr, by rw [List.length_map]; exact hs.1, fun m hm => ?_⟩
    obtain ⟨x, hx, rfl⟩ := List.mem_map.mp hm
    exact ⟨by omega, hs.2 x hx⟩
  rw [ea] at h1
  obtain ⟨rs, pm, eo⟩ := perm_map _ h1
  obtain ⟨c, hc2⟩ := sortedHeap_at (vs := acc.toList) (out := out) eL
  refine wpAny_pure ⟨_, rfl, .ref h'.objs.size, upd H h'.objs.size (.lst (rs.map fun r => V.ref r.1)), J.laid (t' := tk) (fun b u z => ?_) (Nat.le_refl _) (show ObjOk X.prog X.w _ _ _ (.lst (rs.map fun r => V.ref r.1)) from ⟨?_, out.toList, c, ?_, by rw [Array.toArray_toList]; exact hc2⟩), rfl,
    q rs _ (m1 ▸ pm.map (·.2)) (fun r hr => m2 r (pm.mem_iff.mp hr)) (J.hok.fresh (Nat.le_refl _))⟩
  · have lt := Heap.lt_size z
    rw [sortedHeap_old (Nat.ne_of_lt lt) (by rw [size_push']; exact Nat.lt_succ_of_lt lt)]
    exact Heap.get?_push_of_some _ z
  · rw [List.length_map, pm.length_eq, lr, sizeLine_eq]
    omega
  · rw [eo]
    have key : ∀ l : List (Addr × List Nat), Vals (l.map fun r => V.ref r.1) (l.map fun r => Value.ref r.1) := by
      intro l
      induction l with
      | nil => exact .nil
      | cons a l ih => exact .cons rfl ih
    exact key rs
end
end Ev
end
section
namespace Ev
open PySem L2
variable {P : Program} {w : World} {K : PySem.W.Frag} {mg : Str → Option Value} {base : Heap}

/-! ### a def that is called with n values and keywords -/
structure CalN (P : Program) (w : World) (K : PySem.W.Frag) (mg : Str → Option Value) (base : Heap) (k : Nat) (x : Str) (n : Nat) (ks : List Str) (sp : Sp) : Prop where
  ex : ∃ (f : Addr) (fd : FuncData) (ps : List Str), FnOk P w K mg base C8.CX0 k f fd ps sp ∧ mg x = some (.ref f) ∧ PySem.W.keepIn K (.ref f) = true ∧ KBn K fd ps n ks (fun us ws => us ++ ws) (fun vs zs => vs ++ zs)
theorem pe_cN {X : Cx} {k j n : Nat} {x : Str} {ks : List Str} {sp : Sp} {p pos : Pos} {e : Expr} {es : List Expr} {kws : List Keyword} {t tk : TA} (c : CalN X.prog X.w X.K X.mg X.base k x n ks sp) (hr : Room j X.A) (hk : k ≤ j) (hg : Gl X x) (ha : PA X (e :: es) t) (hkw : PK X kws tk)
    (hall : (backToKw pos (keywordEach kws X.env)).all (·.1.isSome) = true := by rfl) (hks : (backToKw pos (keywordEach kws X.env)).filterMap (·.1) = ks := by rfl)
    (hdb : (x == ("__debug__" : Str)) = false := by decide) (he : starEach (e :: es) X.env = (false, eval e X.env) :: starEach es X.env := by rfl)
    (hpl : ((backTo pos (starEach (e :: es) X.env)).any (·.1) || (backToKw pos (keywordEach kws X.env)).any (·.1.isNone)) = false := by rfl) :
    PE X (.Call (.Name x p) (e :: es) kws pos) (tCallN n ks.length sp (fun vs zs => vs ++ zs) C8.E0 t tk) := by
  obtain ⟨f, fd, ps, F, hm, kp, b⟩ := c.ex
  exact pe_callN F (hr.mono hk) hg hm kp b C8.pass0 ha hkw hall hks hdb he hpl

/-! ### ranks -/
/-- a list of pairs of a stand and its rank -/
def RanksV (H : Hp) (v : V) (ss : List (List Nat)) (f : List Nat → Option Nat) : Prop := ∃ (l : Addr) (es : List (Addr × Addr × List Nat × Nat)), v = .ref l ∧ H l = some (.lst (es.map fun e => V.ref e.1)) ∧ es.length ≤ 100 ∧
  (∀ e ∈ es, H e.1 = some (.tup [.ref e.2.1, nV e.2.2.2]) ∧ H e.2.1 = some (.tup (e.2.2.1.map nV))) ∧ (es.map (·.2.2.1)).Nodup ∧ ∀ s, s ∈ ss → ∀ r, (f s = some r ↔ ∃ e ∈ es, e.2.2 = (s, r))
theorem RanksV.mono {H H' : Hp} {v : V} {ss : List (List Nat)} {f : List Nat → Option Nat} (h : RanksV H v ss f) (s : Same H H') : RanksV H' v ss f := by
  obtain ⟨l, es, e, hl, len, q, r⟩ := h
  exact ⟨l, es, e, s _ _ hl, len, fun e he => ⟨s _ _ (q e he).1, s _ _ (q e he).2⟩, r⟩
def spRanks : Sp := fun vs H Q _ => ∃ (n h reach : Nat) (rs : List Road) (one : Bool) (tv : V) (C : Addr), vs = [tv, nV h, ruleV one, nV reach, .ref C] ∧ TownV H tv n rs ∧ Town n rs ∧ rs.length ≤ 1000 ∧ n ≤ 7 ∧ 1 ≤ h ∧ h ≤ 2 ∧
  H C = some (.lst ((List.range n).map nV)) ∧ ∀ v' H' f, Same H H' → RanksV H' v' (stands n h) f → (∀ s, Stand n h s → Rk (fun s c t => Ans (Near rs reach) one n s c t) n s (f s)) → Q v' H'
theorem scRanks : FnScope ["town", "helpers", "rule", "reach", "calls", "beaten", "stand"] ["town", "helpers", "rule", "reach", "calls"] (C8.fnScope sRanks) := ⟨rfl, rfl, rfl, by decide +kernel, rfl, by decide +kernel, by decide +kernel⟩
theorem ok_ranks {f : Addr} {fd : FuncData} (F : C8.Def K mg "ranks" sRanks f fd) (b : KBn K fd ["town", "helpers", "rule", "reach", "calls"] 2 ["rule", "reach", "calls"] (fun us ws => us ++ ws) (fun vs zs => vs ++ zs)) (T : Txt K mg) (c_all_steps : C8.Cal P w K mg base 4 "all_steps" spAllSteps [])
    (c_ranked : C8.Cal P w K mg base 1 "ranked" spRanked []) : CalN P w K mg base 5 "ranks" 2 ["rule", "reach", "calls"] spRanks := by
  refine ⟨f, fd, _, C8.fn0 F.fn scRanks (fun vs H Q E h => ?_) (fun cdv A outer s H vs Q E hr h => ?_), F.mgf, F.kp, b⟩
  · obtain ⟨n, h, reach, rs, one, tv, C, rfl, _⟩ := h
    rfl
  obtain ⟨n, h, reach, rs, one, tv, C, rfl, town, tw, rsl, hn, h1, h2, hC, k⟩ := h
  have nd := scRanks.nd
  have few := stands_few (n := n) (h := h) hn h2
  refine ⟨_, (pss_cons (ps_set (i := 5) nd rfl (by first | exact .inl rfl | exact .inr rfl) (C8.pe_c c_ranked hr (by decide) rfl (pa_cons (C8.pe_c c_all_steps hr (by decide) rfl (pa_cons (pv 0) (pa_cons (pv 1) (pa_cons (pv 2) (pa_cons (pv 3) (pa_cons (pv 4) pa_nil)))))) pa_nil)))
 (pss_one (ps_ret (pe_lc (own := [("stand", 6)]) rfl nd (kpi_list (K := K) rfl (pe_callB (cr_sortedDT (d := h) (B := 7) rfl) (by rfl) T.n_sorted bb_sorted (pa_cons (pv 5) pa_nil))) (blkOk_by (own := [("stand", 6)]) (by kernel_rfl)) (fun _ _ _ _ _ => (pg_name (i := 6) nd rfl (by first | exact .inl rfl | exact .inr rfl))) (fun _ _ _ _ _ => pts_nil) (fun _ _ _ _ _ => (pe_tup (pa_cons (pv 6) (pa_cons (pe_dget (hu_of hr) (pv 5) (pv 6) (fun _ _ => rfl)) pa_nil)))))))), ?_⟩
  refine ⟨_, rfl, _, rfl, _, rfl, _, rfl, _, rfl, n, h, reach, rs, one, _, C, rfl, town, tw, rsl, hn, h1, h2, hC, fun v' H1 s1 st => ?_⟩
  refine ⟨n, h, _, v', rfl, st, fun s c t hs hc a => ans_stand hs hc a, hn, h2, fun D H2 f kvs s2 hF hrk => ?_⟩
  obtain ⟨hD, hv, L, ek, nL, hL, ns, ens⟩ := id hF
  have lL := le_of_nodup nL hL
  refine ⟨_, rfl, D, kvs, L, rfl, .inl hD, ek, by omega, h1, fun s hs => ?_, fun rs2 p pm hrs hp => ?_⟩
  · have := mem_stands.mp (hL s hs)
    exact ⟨this.1, fun x hx => by have := this.2.2 x hx; omega⟩
  refine new_ind hp (upd _ p _) rfl fun H3 s3 e3 => ?_
  have hF3 : FndAt H3 D (stands n h) f kvs := hF.mono (by rw [s3 _ _ hD, hD])
  have lrs : rs2.length = L.length := by
    have := pm.length_eq
    rwa [List.length_map] at this
  have inL : ∀ s, s ∈ L → ∃ r, f s = some r := fun s hs => by
    have h3 : kk s ∈ kvs.map (·.1) := ek ▸ List.mem_map.mpr ⟨s, hs, rfl⟩
    obtain ⟨pr, hpr, e⟩ := List.mem_map.mp h3
    have := valV_nd hF.nd hpr
    rw [e, hv s (hL s hs)] at this
    obtain ⟨r, hr, _⟩ := Option.map_eq_some_iff.mp this
    exact ⟨r, hr⟩
  refine ⟨p, rfl, ⟨_, SqL.of e3⟩, fun D2 hD2 => ?_⟩
  refine lc_list (K := K) (a := p) (xs := rs2.map fun r => V.ref r.1) (fun i H' => Same H3 H' ∧ ∃ es : List (Addr × Addr × List Nat × Nat), H' D2 = some (.lst (es.map fun e => V.ref e.1)) ∧ es.length = i ∧ (∀ e ∈ es, H' e.1 = some (.tup [.ref e.2.1, nV e.2.2.2]) ∧ H' e.2.1 = some (.tup (e.2.2.1.map nV))) ∧
      es.map (·.2.2.1) = (rs2.take i).map (·.2) ∧ ∀ e ∈ es, f e.2.2.1 = some e.2.2.2) ⟨Same.new hD2 _, [], upd_same, rfl, fun e he => (by cases he), rfl, fun e he => (by cases he)⟩ (fun i H' _ q => SqL.of (q.1 _ _ e3)) ?_ ?_
  · rintro i x H4 hx ⟨s4, es, e4, l4, q4, m4, f4⟩
    rw [List.getElem?_map] at hx
    obtain ⟨r, hr2, rfl⟩ := Option.map_eq_some_iff.mp hx
    have hil := (List.getElem?_eq_some_iff.mp hr2).1
    have hr3 := List.mem_of_getElem? hr2
    have hsL : r.2 ∈ L := pm.mem_iff.mp (List.mem_map.mpr ⟨r, hr3, rfl⟩)
    obtain ⟨rk, hrk2⟩ := inL r.2 hsL
    have ht := s4 _ _ (s3 _ _ (hrs r hr3))
    have hF4 : FndAt H4 D (stands n h) f kvs := hF3.mono (by rw [s4 _ _ hF3.1, hF3.1])
    refine ⟨rfl, _, rfl, _, rfl, _, rfl, D, nV rk, rfl, ?_, by show 2 ≤ sizeLine; decide, fun q hq => ?_⟩
    · have g := DGet.t (k := kk r.2) hF4.1 (show H4 r.1 = some (.tup ((kk r.2).map kV)) by rw [kk_map]; exact ht)
      rw [hF4.2.1 _ (hL _ hsL), hrk2] at g
      exact g
    refine new_ind hq (upd _ q _) rfl fun H5 s5 e5 => ?_
    have e45 := s5 _ _ e4
    have ts : TSame H5 (upd H5 D2 (.lst (es.map (fun e => V.ref e.1) ++ [V.ref q]))) := TSame.upd e45 id
    refine ⟨_, e45, Nat.lt_of_le_of_lt (m := 1000) (by rw [List.length_map]; omega) (by decide), (s4.trans s5).put hD2 _, es ++ [(q, r.1, r.2, rk)], by rw [upd_same, List.map_append]; rfl, by rw [List.length_append, l4]; rfl, fun e he => ?_, ?_, fun e he => ?_⟩
    · rcases List.mem_append.mp he with he | he
      · exact ⟨ts _ _ True.intro (s5 _ _ (q4 e he).1), ts _ _ True.intro (s5 _ _ (q4 e he).2)⟩
      · have : e = (q, r.1, r.2, rk) := by simpa using he
        subst this
        exact ⟨ts _ _ True.intro e5, ts _ _ True.intro (s5 _ _ ht)⟩
    · rw [List.map_append, m4, List.take_succ, hr2, List.map_append]
      rfl
    · rcases List.mem_append.mp he with he | he
      · exact f4 e he
      · have : e = (q, r.1, r.2, rk) := by simpa using he
        subst this
        exact hrk2
  · rintro H4 ⟨s4, es, e4, l4, q4, m4, f4⟩
    rw [List.length_map] at l4 m4
    rw [List.take_length] at m4
    refine k _ _ f (s1.trans (s2.trans (s3.trans s4))) ⟨D2, es, rfl, e4, by omega, q4, ?_, fun s hs r => ⟨fun hr => ?_, ?_⟩⟩ hrk
    · rw [m4]
      exact pm.nodup_iff.mpr nL
    · have h3 : valV kvs (kk s) = some (nV r) := by
        rw [hv s hs, hr]
        rfl
      have h4 : kk s ∈ kvs.map (·.1) := List.mem_map.mpr ⟨_, valV_in h3, rfl⟩
      rw [ek] at h4
      obtain ⟨s', hs', ee⟩ := List.mem_map.mp h4
      have ee := kk_inj ee
      subst ee
      have h5 : s' ∈ es.map (·.2.2.1) := by
        rw [m4]
        exact pm.mem_iff.mpr hs'
      obtain ⟨e, he, ee⟩ := List.mem_map.mp h5
      subst ee
      have := f4 e he
      rw [hr] at this
      injection this with this
      exact ⟨e, he, by rw [this]⟩
    · rintro ⟨e, he, e2⟩
      have := f4 e he
      rw [e2] at this
      exact this
end Ev
end
section
/-! dict(l) of a list of pairs of a tuple of numbers and a number -/
namespace Ev
open PySem PySem.Spec PyProof.Rows L2
section
variable {X : Cx}
def rDictP : List V → Hp → VK → Prop := fun vs H Q => ∃ (l : Addr) (es : List (Addr × Addr × List Nat × Nat)), vs = [.ref l] ∧ H l = some (.lst (es.map fun e => V.ref e.1)) ∧ es.length ≤ 1000 ∧
  (∀ e ∈ es, H e.1 = some (.tup [.ref e.2.1, nV e.2.2.2]) ∧ H e.2.1 = some (.tup (e.2.2.1.map nV))) ∧ (es.map (·.2.2.1)).Nodup ∧ ∀ p, H p = none → Q (.ref p) (upd H p (.dT (es.map fun e => (kk e.2.2.1, nV e.2.2.2))))
theorem cr_dictP (hc : X.calm = true) (hu : X.A.units + 64 < cLine) : CallR X (.type "dict") rDictP := by
  intro pins s σ H vs us Q I r h
  obtain ⟨l, es, rfl, hl, hz, he, nd, q⟩ := h
  rw [Vals.ref1 r]
  obtain ⟨z, its, n, rv, hob⟩ := (show ObjOk X.prog X.w H s.heap l (.lst (es.map fun e => V.ref e.1)) from I.hok l _ hl)
  have one : ∀ e ∈ es, ∃ u, RelV (nV e.2.2.2) u ∧ s.heap.IsTuple e.1 #[.ref e.2.1, u] := fun e hm => by
    obtain ⟨_, jts, rj, ob, o1, o2, m, o3⟩ := (show ObjOk X.prog X.w H s.heap e.1 (.tup [.ref e.2.1, nV e.2.2.2]) from I.hok e.1 _ (he e hm).1)
    obtain ⟨u1, u2, rfl, r1, r2⟩ := Vals.two rj
    cases r1
    exact ⟨u2, r2, ob, o1, o2, m, o3⟩
  have all : ∃ U : Addr × Addr × List Nat × Nat → Value, ∀ e ∈ es, RelV (nV e.2.2.2) (U e) ∧ s.heap.IsTuple e.1 #[.ref e.2.1, U e] := by
    classical
    refine ⟨fun e => if h : e ∈ es then (one e h).choose else .none, fun e h => ?_⟩
    show RelV _ (if h : e ∈ es then (one e h).choose else .none) ∧ s.heap.IsTuple e.1 #[.ref e.2.1, if h : e ∈ es then (one e h).choose else .none]
    rw [dif_pos h]
    exact (one e h).choose_spec
  obtain ⟨U, hU⟩ := all
  have eits : its = es.map fun e => Value.ref e.1 := by
    have key : ∀ (l : List (Addr × Addr × List Nat × Nat)) (us : List Value), Vals (l.map fun e => V.ref e.1) us → us = l.map fun e => Value.ref e.1 := by
      intro l
      induction l with
      | nil => intro us r; cases r; rfl
      | cons a l ih =>
        intro us r
        cases r with
        | cons r1 r2 =>
          cases r1
          rw [ih _ r2]
          rfl
    exact key es its rv
  let Ts : Nat → Addr := fun j => match es[j]? with
    | some e => e.1
    | none => 0
  let ps : List (Value × Value) := es.map fun e => (.ref e.2.1, U e)
  let rows : List (List Key × Addr × Value) := es.map fun e => (kk e.2.2.1, e.2.1, U e)
  have lps : ps.length = es.length := List.length_map ..
  have lrows : rows.length = es.length := List.length_map ..
  have items : PairItems s.heap its.toArray Ts ps := by
    refine ⟨by rw [List.size_toArray, eits, List.length_map, lps], fun j k v hj => ?_⟩
    obtain ⟨e, hej, e2⟩ : ∃ e, es[j]? = some e ∧ (Value.ref e.2.1, U e) = (k, v) := by
      have : (es.map fun e => (Value.ref e.2.1, U e))[j]? = some (k, v) := hj
      rw [List.getElem?_map] at this
      exact Option.map_eq_some_iff.mp this
    injection e2 with e2 e3
    subst e2
    subst e3
    have eT : Ts j = e.1 := by
      show (match es[j]? with
        | some e => e.1
        | none => 0) = e.1
      rw [hej]
    rw [eT]
    refine ⟨?_, .inl (hU e (List.mem_of_getElem? hej)).2⟩
    rw [eits, List.getElem?_toArray, List.getElem?_map, hej]
    rfl
  have have' : PairsHaveH (tupleKind (mixKind X.prog X.w)) ps.length (PairRel ps) rows := by
    refine ⟨lrows.trans lps.symm, fun i key v hj => ?_⟩
    obtain ⟨e, hej, e2⟩ : ∃ e, es[i]? = some e ∧ (Value.ref e.2.1, U e) = (key, v) := by
      have : (es.map fun e => (Value.ref e.2.1, U e))[i]? = some (key, v) := hj
      rw [List.getElem?_map] at this
      exact Option.map_eq_some_iff.mp this
    injection e2 with e2 e3
    subst e2
    subst e3
    refine ⟨kk e.2.2.1, e.2.1, ?_, rfl⟩
    show (es.map fun e => (kk e.2.2.1, e.2.1, U e))[i]? = _
    rw [List.getElem?_map, hej]
    rfl
  have keys : ∀ x ∈ rows, ∃ e ∈ es, x = (kk e.2.2.1, e.2.1, U e) := fun x hx => by
    obtain ⟨e, hm, e2⟩ := List.mem_map.mp hx
    exact ⟨e, hm, e2.symm⟩
  have nodup : (rows.map (·.1)).Nodup := by
    have : rows.map (·.1) = (es.map (·.2.2.1)).map kk := by
      show (es.map fun e => (kk e.2.2.1, e.2.1, U e)).map (·.1) = _
      rw [List.map_map, List.map_map]
      rfl
    rw [this]
    exact kk_nodup nd
  refine call_dict_pairsH (knd := tupleKind (mixKind X.prog X.w)) (PairArg.list l its.toArray Ts ps) (I.ok.hd hc) (show X.A.in1.in1.units < cLine by show X.A.units + 1 + 1 < cLine; omega) ⟨⟨_, n, hob, rfl, rfl, rfl⟩, items⟩ have' (fun h' hk x hx => ?_) (by rw [lps, sizeLine_eq]; omega) fun h' tk hd' hk => ?_
  · obtain ⟨e, hm, rfl⟩ := keys x hx
    obtain ⟨o, items, m, k1, k2, k3, k4⟩ := key_of I.hok (ks := kk e.2.2.1) (a := e.2.1) (by rw [kk_map]; exact (he e hm).2)
    exact ⟨o, items, m, hk _ _ (Nat.ne_of_lt (Heap.lt_size k1)) (by simp) k1, k2, k3, k4⟩
  · rw [storedAllH_nil_of_nodup rows nodup] at hd'
    have keep : ∀ b o, s.heap.get? b = some o → h'.get? b = some o := fun b o e => hk b o (by simp) e
    obtain ⟨ob, ents, ep, k1, k2, k3, k4, _, k6⟩ := hd'
    have hm : (s.heap.objs.size == sysModules) = false := beq_eq_false_iff_ne.mpr (Nat.ne_of_gt I.big)
    refine ⟨.ref s.heap.objs.size, _, I.laid (t' := tk) (o := .dT (es.map fun e => (kk e.2.2.1, nV e.2.2.2))) keep (Nat.le_refl _) ⟨by rw [List.length_map, sizeLine_eq]; omega, hm, rows, ?_, ob, ents, ep, k1, k2, k3, k4, nodup⟩, rfl, q _ (I.hok.fresh (Nat.le_refl _))⟩
    have key : ∀ l : List (Addr × Addr × List Nat × Nat), (∀ e ∈ l, e ∈ es) → Paired (fun (p : List Key × V) (x : List Key × Addr × Value) => p.1 = x.1 ∧ (upd H s.heap.objs.size (.dT (es.map fun e => (kk e.2.2.1, nV e.2.2.2)))) x.2.1 = some (.tup (p.1.map kV)) ∧ RelV p.2 x.2.2)
        (l.map fun e => (kk e.2.2.1, nV e.2.2.2)) (l.map fun e => (kk e.2.2.1, e.2.1, U e)) := by
      intro l hsub
      induction l with
      | nil => exact .nil
      | cons e l ih =>
        have hm := hsub e List.mem_cons_self
        refine .cons ⟨rfl, ?_, (hU e hm).1⟩ (ih fun x hx => hsub x (List.mem_cons_of_mem _ hx))
        show (upd H s.heap.objs.size _) e.2.1 = some (.tup ((kk e.2.2.1).map kV))
        rw [upd_ne (ne_of_none (he e hm).2 (I.hok.fresh (Nat.le_refl _))), kk_map]
        exact (he e hm).2
    exact key es fun _ h => h
end
end Ev
end
section
namespace Ev
open PySem L2
variable {P : Program} {w : World} {K : PySem.W.Frag} {mg : Str → Option Value} {base : Heap}

/-! ### data: lists of numbers -/
def dN (s : List Nat) : List PyData := s.map fun n : Nat => .int (n : Int)
theorem dp_nats {H : Hp} : ∀ s : List Nat, DpAll K H (s.map nV) (dN s)
  | [] => .nil
  | n :: s => .cons (.int _) (dp_nats s)
theorem eqvAll_nats : ∀ s t : List Nat, PyData.eqvAll (dN s) (dN t) = decide (s = t)
  | [], [] => rfl
  | [], _ :: _ => rfl
  | _ :: _, [] => rfl
  | a :: s, b :: t => by
    have ih := eqvAll_nats s t
    show (PyData.eqv (.int (a : Int)) (.int (b : Int)) && PyData.eqvAll (dN s) (dN t)) = _
    rw [ih]
    show (((a : Int) == (b : Int)) && decide (s = t)) = _
    by_cases h1 : a = b
    · subst h1
      by_cases h2 : s = t <;> simp [h2]
    · have : ((a : Int) == (b : Int)) = false := beq_false_of_ne (by omega)
      simp [this, h1]
theorem lay_nats : ∀ s : List Nat, PyData.canLayAll0 (dN s) = true
  | [] => rfl
  | a :: s => by
    have ih := lay_nats s
    show (PyData.canLay0 (.int (a : Int)) && PyData.canLayAll0 (dN s)) = true
    rw [ih]
    rfl
theorem dep_nats : ∀ s : List Nat, PyData.depthAll (dN s) ≤ 1
  | [] => by
    show PyData.depthAll [] ≤ 1
    simp [PyData.depthAll]
  | a :: s => by
    have ih := dep_nats s
    show PyData.depthAll (.int (a : Int) :: dN s) ≤ 1
    simp [PyData.depthAll, PyData.depth]
    omega
theorem shaped_lst (s : List Nat) : SeqAt.shaped (.list (dN s)) = true := by
  have := dep_nats s
  have := lay_nats s
  unfold SeqAt.shaped
  rw [Bool.and_eq_true]
  refine ⟨?_, decide_eq_true ?_⟩
  · simp [PyData.canLay0, this]
  · simp [PyData.depth]
    omega
theorem shaped_tup (s : List Nat) : SeqAt.shaped (.tuple (dN s)) = true := by
  have := dep_nats s
  have := lay_nats s
  unfold SeqAt.shaped
  rw [Bool.and_eq_true]
  refine ⟨?_, decide_eq_true ?_⟩
  · simp [PyData.canLay0, this]
  · simp [PyData.depth]
    omega

/-! ### is_stand -/
def spIsStand : Sp := fun vs H Q _ => ∃ (n h : Nat) (rs : List Road) (s : List Nat) (tv sv : V), vs = [tv, sv] ∧ TownV H tv n rs ∧ TupN H sv s ∧ Stand n h s ∧ 1 ≤ h ∧ h ≤ 2 ∧ ∀ H', Same H H' → Q (.bl true) H'
theorem scIsStand : FnScope ["town", "value", "place"] ["town", "value"] (C8.fnScope sIsStand) := ⟨rfl, rfl, rfl, by decide +kernel, rfl, by decide +kernel, by decide +kernel⟩
theorem ok_is_stand {f : Addr} {fd : FuncData} (F : C8.Def K mg "is_stand" sIsStand f fd) (b : Binds K fd ["town", "value"] []) (T : Txt K mg) (c_is_within : C8.Cal P w K mg base 1 "is_within" spWithin []) : C8.Cal P w K mg base 2 "is_stand" spIsStand [] := by
  refine C8.cal0 F b .nil scIsStand (fun vs H Q E h => ?_) (fun cdv A outer s H vs Q E hr h => ?_)
  · obtain ⟨n, h, rs, s, tv, sv, rfl, _⟩ := h
    rfl
  obtain ⟨n, h, rs, s, tv, sv, rfl, town, ⟨a, rfl, ha⟩, hs, h1, h2, k⟩ := h
  obtain ⟨ta, tr, rfl, hta, _⟩ := id town
  have nd := scIsStand.nd
  have hlen := hs.1
  refine ⟨_, (pss_cons (ps_if (PW.pt (pw_or (pt_not (pt_val (pe_callB (kcr_isi (K := K) rfl) (by rfl) T.n_isinstance bb_isinstance (pa_cons (pv 1) (pa_cons (pe_bltn (v := .ty "tuple") (by rfl) T.n_tuple bb_tuple rfl) pa_nil))) (by intro _; rfl))) (pw_or1 (pt_not (pt_chain op_le op_le pe_int (pe_callB (kcr_len (K := K) rfl) (by rfl) T.n_len bb_len (pa_cons (pv 1) pa_nil)) (C8.pe_gc rfl T.cMOST_HELPERS))))))
 (pss_one (ps_ret pe_bl))
 pss_nil)
 (pss_cons (ps_if (pt_not (pt_val (pe_callB (kcr_all rfl (K := K) rfl) (by rfl) T.n_all bb_all (pa_cons (pe_lc (own := [("place", 2)]) rfl nd (kpi_tup (K := K) rfl (pv 1)) (blkOk_by (own := [("place", 2)]) (by kernel_rfl)) (fun _ _ _ _ _ => (pg_name (i := 2) nd rfl (by first | exact .inl rfl | exact .inr rfl))) (fun _ _ _ _ _ => pts_nil) (fun _ _ _ _ _ => (C8.pe_c c_is_within hr (by decide) rfl (pa_cons (pv 2) (pa_cons pe_int (pa_cons (pe_op op_sub (pe_ix (kix_tup (K := K) rfl) (pv 0) pe_int (fun _ _ => rfl)) pe_int) pa_nil)))))) pa_nil)) (by intro _; rfl)))
 (pss_one (ps_ret pe_bl))
 pss_nil)
 (pss_one (ps_ret (pe_cmpR (kop_eqD (K := K) rfl hr.units) (pe_callTy (kcr_list (K := K) rfl) (by rfl) T.n_list bb_list (pa_cons (pv 1) pa_nil)) (pe_callB (kcr_sortedIT (K := K) rfl) (by rfl) T.n_sorted bb_sorted (pa_cons (pv 1) pa_nil)) (nomark _)))))), ?_⟩
  refine ⟨_, rfl, _, _, _, _, true, rfl, .ty _, .base (.tup ha), kit_ty (by decide +kernel), true, rfl, ?_⟩
  refine if_f ?_
  refine ⟨_, rfl, a, _, rfl, .inr (SqT.of ha), _, _, rfl, rfl, _, rfl, ite_b (fun _ => ?_) (fun c => ?_)⟩
  rotate_left
  · have := of_decide_eq_false c
    rw [List.length_map] at this
    omega
  refine ⟨_, _, rfl, rfl, _, rfl, ite_b (fun c => ?_) (fun _ => ?_)⟩
  · have c : (!decide (((s.map nV).length : Int) ≤ 3)) = true := c
    have : ((s.map nV).length : Int) ≤ 3 := by
      rw [List.length_map]
      omega
    rw [decide_eq_true this] at c
    cases c
  refine ⟨_, rfl, a, rfl, ⟨_, SqT.of ha⟩, fun D hD => ?_⟩
  refine lc_tup (K := K) (a := a) (xs := s.map nV) (fun i H' => Same H H' ∧ H' D = some (.lst ((List.replicate i true).map V.bl))) ⟨Same.new hD _, upd_same⟩ (fun i H' _ q => SqT.of (q.1 _ _ ha)) ?_ ?_
  · rintro i x H1 hx ⟨s1, e1⟩
    rw [List.getElem?_map] at hx
    obtain ⟨y, hy, rfl⟩ := Option.map_eq_some_iff.mp hx
    have hyn := hs.2.2 y (List.mem_of_getElem? hy)
    have hil := (List.getElem?_eq_some_iff.mp hy).1
    refine ⟨rfl, _, rfl, _, rfl, ta, _, 0, _, rfl, rfl, SqT.of (s1 _ _ hta), rfl, _, _, rfl, rfl, (y : Int), 0, (n : Int) - 1, rfl, ?_⟩
    have eb : (decide ((0 : Int) ≤ (y : Int)) && decide ((y : Int) ≤ (n : Int) - 1)) = true := by
      rw [decide_eq_true (by omega), decide_eq_true (by omega)]
      rfl
    rw [eb]
    refine ⟨_, e1, Nat.lt_of_le_of_lt (m := 1000) (by rw [List.length_map, List.length_replicate]; omega) (by decide), s1.put hD _, ?_⟩
    rw [upd_same, List.replicate_succ', List.map_append]
    rfl
  · rintro H1 ⟨s1, e1⟩
    refine ⟨D, _, rfl, SqL.of e1, _, rfl, ite_b (fun c => ?_) (fun _ => ?_)⟩
    · have c : (!(List.replicate (s.map nV).length true).all id) = true := c
      have : (List.replicate (s.map nV).length true).all id = true := by
        rw [List.all_eq_true]
        intro z hz
        rw [List.eq_of_mem_replicate hz]
        rfl
      rw [this] at c
      cases c
    have ha1 := s1 _ _ ha
    refine ⟨_, rfl, a, _, rfl, .inr (SqT.of ha1), fun l hl => ?_⟩
    refine new_ind hl (upd _ l _) rfl fun H2 s2 e2 => ?_
    refine ⟨_, rfl, a, s, rfl, SqT.of (s2 _ _ ha1), fun ms q pm pw hq => ?_⟩
    refine new_ind hq (upd _ q _) rfl fun H3 s3 e3 => ?_
    have em : ms = s := sorted_same pm pw hs.2.1
    subst em
    refine ⟨_, _, .lst (SqL.of (s3 _ _ e2)) (dp_nats _), .lst (SqL.of e3) (dp_nats _), shaped_lst _, shaped_lst _, ?_⟩
    have : PyData.eqv (.list (dN ms)) (.list (dN ms)) = true := by
      show PyData.eqvAll (dN ms) (dN ms) = true
      rw [eqvAll_nats]
      simp
    rw [this]
    exact k _ (s1.trans (s2.trans s3))
end Ev
end
section
namespace Ev
open PySem L2
variable {P : Program} {w : World} {K : PySem.W.Frag} {mg : Str → Option Value} {base : Heap}

/-! ### State -/
structure ClsS (K : PySem.W.Frag) (C : Addr) : Prop where
  cl : Cls K C
  town : NoAttr K C "town"
  table : NoAttr K C "table"
  stand : NoAttr K C "stand"
  beaten : NoAttr K C "beaten"
  calls : NoAttr K C "calls"
  length : NoAttr K C "length"
def fsS (tv tbl sv bv cl ln : V) : List (Str × V) := [("town", tv), ("table", tbl), ("stand", sv), ("beaten", bv), ("calls", cl), ("length", ln)]
def sStateInit : Stmt := (C8.clsBody (top 39)).getD 0 (.Pass ⟨0, 0, 0, 0⟩)
def spState (CS : Addr) : Sp := fun vs H Q _ => ∃ (x dx : Addr) (tv tbl sv cl ln : V) (ss : List (List Nat)) (f : List Nat → Option Nat) (s : List Nat), vs = [.ref x, tv, tbl, sv, cl, ln] ∧ H x = some (.ins CS dx []) ∧ RanksV H tbl ss f ∧ TupN H sv s ∧ s ∈ ss ∧
  ∀ H', (∀ b o, b ≠ x → H b = some o → H' b = some o) → H' x = some (.ins CS dx (fsS tv tbl sv (oV (f s)) cl ln)) → Q .non H'
theorem scState : FnScope ["self", "town", "table", "stand", "calls", "length"] ["self", "town", "table", "stand", "calls", "length"] (C8.fnScope sStateInit) := ⟨rfl, rfl, rfl, by decide +kernel, rfl, by decide +kernel, by decide +kernel⟩
theorem ok_State {CS f : Addr} {fd : FuncData} (S : ClsS K CS) (M : Mk K CS f) (hm : mg "State" = some (.ref CS)) (F : C8.Fun K "__init__" "State.__init__" sStateInit f fd) (b : Binds K fd ["self", "town", "table", "stand", "calls", "length"] []) (T : Txt K mg) : C8.Mak P w K mg base 1 "State" CS (spState CS) [] := by
  refine C8.mak0 M hm F b .nil scState (fun vs H Q E h => ?_) (fun cdv A outer s H vs Q E hr h => ?_)
  · obtain ⟨x, dx, tv, tbl, sv, cl, ln, ss, f, s, rfl, _⟩ := h
    rfl
  obtain ⟨x, dx, tv, tbl, sv, cl, ln, ss, f, s, rfl, hx, rk, st, hs, k⟩ := h
  have nd := scState.nd
  refine ⟨_, (pss_cons (ps_fld (pv 0) (pv 1) rfl)
 (pss_cons (ps_fld (pv 0) (pv 2) rfl)
 (pss_cons (ps_fld (pv 0) (pv 3) rfl)
 (pss_cons (ps_fld (pv 0) (pe_dget1 (hu_of hr) (pe_callTy (cr_dictP rfl hr.units) (by rfl) T.n_dict bb_dict (pa_cons (pv 2) pa_nil)) (pv 3) ⟨rfl, rfl, rfl, rfl⟩) rfl)
 (pss_cons (ps_fld (pv 0) (pv 4) rfl)
 (pss_one (ps_fld (pv 0) (pv 5) rfl))))))), ?_⟩
  obtain ⟨l, es, rfl, hl, hlen, hes, hnd, hf⟩ := id rk
  obtain ⟨sa, rfl, hsa⟩ := id st
  have nex : ∀ {b : Addr} {o : HO}, H b = some o → (∀ C dx fs, o ≠ .ins C dx fs) → b ≠ x := fun {b o} hb ne => ne_of hb hx (ne _ _ _)
  refine ⟨_, rfl, _, rfl, x, CS, dx, _, rfl, hx, S.cl, S.town, (show 0 < 1000 from by decide), ?_⟩
  refine put_ind (upd _ x _) rfl fun H1 k1 e1 => ?_
  refine ⟨_, rfl, _, rfl, x, CS, dx, _, rfl, e1, S.cl, S.table, (show 1 < 1000 from by decide), ?_⟩
  refine put_ind (upd _ x _) rfl fun H2 k2 e2 => ?_
  refine ⟨_, rfl, _, rfl, x, CS, dx, _, rfl, e2, S.cl, S.stand, (show 2 < 1000 from by decide), ?_⟩
  refine put_ind (upd _ x _) rfl fun H3 k3 e3 => ?_
  have up3 : ∀ {b : Addr} {o : HO}, b ≠ x → H b = some o → H3 b = some o := fun {b o} ne hb => by rw [k3 b ne, k2 b ne, k1 b ne]; exact hb
  have hl3 := up3 (nex hl fun _ _ _ q => nomatch q) hl
  have hes3 : ∀ e ∈ es, H3 e.1 = some (.tup [.ref e.2.1, nV e.2.2.2]) ∧ H3 e.2.1 = some (.tup (e.2.2.1.map nV)) := fun e he => ⟨up3 (nex (hes e he).1 fun _ _ _ q => nomatch q) (hes e he).1, up3 (nex (hes e he).2 fun _ _ _ q => nomatch q) (hes e he).2⟩
  have hsa3 := up3 (nex hsa fun _ _ _ q => nomatch q) hsa
  refine ⟨_, rfl, l, es, rfl, hl3, by omega, hes3, hnd, fun D hD => ?_⟩
  refine new_ind hD (upd _ D _) rfl fun H4 s4 e4 => ?_
  refine ⟨D, rfl, .inr ⟨_, .inl e4⟩, _, rfl, _, DGet.t (k := kk s) e4 (by rw [kk_map]; exact s4 _ _ hsa3), ?_⟩
  have hv : (valV (es.map fun e => (kk e.2.2.1, nV e.2.2.2)) (kk s)).getD .non = oV (f s) := by
    have ndk : ((es.map fun e => (kk e.2.2.1, nV e.2.2.2)).map (·.1)).Nodup := by
      have : (es.map fun e => (kk e.2.2.1, nV e.2.2.2)).map (·.1) = (es.map (·.2.2.1)).map kk := by
        rw [List.map_map, List.map_map]
        rfl
      rw [this]
      exact kk_nodup hnd
    cases hfs : f s with
    | some r =>
      obtain ⟨e, he, e2⟩ := (hf s hs r).mp hfs
      have := valV_nd ndk (List.mem_map.mpr ⟨e, he, rfl⟩)
      rw [e2] at this
      rw [show valV (es.map fun e => (kk e.2.2.1, nV e.2.2.2)) (kk s) = some (nV r) from this]
      rfl
    | none =>
      rw [valV_none fun p hp ep => ?_]
      · rfl
      · obtain ⟨e, he, rfl⟩ := List.mem_map.mp hp
        have e3 := kk_inj ep
        have := (hf s hs e.2.2.2).mpr ⟨e, he, by rw [← e3]⟩
        rw [hfs] at this
        cases this
  rw [hv]
  have e34 := s4 _ _ e3
  refine ⟨_, rfl, x, CS, dx, _, rfl, e34, S.cl, S.beaten, (show 3 < 1000 from by decide), ?_⟩
  refine put_ind (upd _ x _) rfl fun H5 k5 e5 => ?_
  refine ⟨_, rfl, _, rfl, x, CS, dx, _, rfl, e5, S.cl, S.calls, (show 4 < 1000 from by decide), ?_⟩
  refine put_ind (upd _ x _) rfl fun H6 k6 e6 => ?_
  refine ⟨_, rfl, _, rfl, x, CS, dx, _, rfl, e6, S.cl, S.length, (show 5 < 1000 from by decide), ?_⟩
  refine put_ind (upd _ x _) rfl fun H7 k7 e7 => ?_
  refine k H7 (fun b o ne hb => ?_) (e7.trans ?_)
  · rw [k7 b ne, k6 b ne, k5 b ne]
    exact s4 _ _ (up3 ne hb)
  · rfl
end Ev
end
section
namespace Ev
open PySem L2
variable {P : Program} {w : World} {K : PySem.W.Frag} {mg : Str → Option Value} {base : Heap}

/-! ### House -/
structure ClsH (K : PySem.W.Frag) (C : Addr) : Prop where
  cl : Cls K C
  rule : NoAttr K C "_rule"
  reach : NoAttr K C "_reach"
  states : NoAttr K C "_states"
  at_ : NoAttr K C "_at"
  entries : NoAttr K C "_entries"
def hm (i : Nat) : Stmt := (C8.clsBody (top 40)).getD i (.Pass ⟨0, 0, 0, 0⟩)
abbrev AN (rs : List Road) (reach : Nat) (one : Bool) (n : Nat) : AR := fun s c t => Ans (Near rs reach) one n s c t

/-! ### _table -/
def spTable (CH : Addr) : Sp := fun vs H Q _ => ∃ (a dx : Addr) (fs : List (Str × V)) (n h reach : Nat) (rs : List Road) (one : Bool) (tv sv : V) (s : List Nat), vs = [.ref a, tv, sv] ∧ H a = some (.ins CH dx fs) ∧ fs.lookup ("_rule" : Str) = some (ruleV one) ∧ fs.lookup ("_reach" : Str) = some (nV reach) ∧
  TownV H tv n rs ∧ Town n rs ∧ rs.length ≤ 1000 ∧ n ≤ 7 ∧ 1 ≤ h ∧ h ≤ 2 ∧ TupN H sv s ∧ s.length = h ∧ ∀ v' H' f, Same H H' → RanksV H' v' (stands n h) f → (∀ s, Stand n h s → Rk (AN rs reach one n) n s (f s)) → Q v' H'
theorem scTable : FnScope ["self", "town", "stand"] ["self", "town", "stand"] (C8.fnScope (hm 1)) := ⟨rfl, rfl, rfl, by decide +kernel, rfl, by decide +kernel, by decide +kernel⟩
theorem rg_map (n : Nat) : rgV 0 (n : Int) = (List.range n).map nV := by
  unfold rgV
  rw [show ((n : Int) - 0).toNat = n from by omega]
  apply List.map_congr_left
  intro i _
  show V.int (0 + (i : Int)) = V.int (i : Int)
  rw [Int.zero_add]
theorem ok_table {CH f : Addr} {fd : FuncData} (C : ClsH K CH) (me : Meth K CH "_table" f) (F : C8.Fun K "_table" "House._table" (hm 1) f fd) (b : Binds K fd ["self", "town", "stand"] []) (T : Txt K mg)
    (c_ranks : CalN P w K mg base 5 "ranks" 2 ["rule", "reach", "calls"] spRanks) : C8.Met P w K mg base 6 CH "_table" (spTable CH) [] := by
  refine C8.met0 C.cl me F b scTable (fun vs H Q E h => ?_) (fun cdv A outer s H vs Q E hr h => ?_)
  · obtain ⟨a, dx, fs, n, h, reach, rs, one, tv, sv, s, rfl, _⟩ := h
    rfl
  obtain ⟨a, dx, fs, n, h, reach, rs, one, tv, sv, s, rfl, ha, hru, hre, town, tw, rsl, hn, h1, h2, ⟨sa, rfl, hsa⟩, hlen, k⟩ := h
  obtain ⟨ta, tr, rfl, hta, _⟩ := id town
  have nd := scTable.nd
  refine ⟨_, (pss_one (ps_ret (pe_cN c_ranks hr (by decide) rfl (pa_cons (pv 1) (pa_cons (pe_callB (kcr_len (K := K) rfl) (by rfl) T.n_len bb_len (pa_cons (pv 2) pa_nil)) pa_nil)) (pk_cons (pe_fld (pv 0) rfl) (pk_cons (pe_fld (pv 0) rfl) (pk_cons (pe_listRg rfl (by rfl) T.n_list (prg_1 (by rfl) T.n_range (pe_ix (kix_tup (K := K) rfl) (pv 1) pe_int (fun _ _ => rfl)))) pk_nil)))))), ?_⟩
  refine ⟨_, rfl, _, rfl, sa, _, rfl, .inr (SqT.of hsa), ?_⟩
  refine ⟨_, rfl, a, CH, dx, fs, _, rfl, ha, C.cl, C.rule, hru, ?_⟩
  refine ⟨_, rfl, a, CH, dx, fs, _, rfl, ha, C.cl, C.reach, hre, ?_⟩
  refine ⟨_, rfl, ta, _, 0, _, rfl, rfl, SqT.of hta, rfl, (n : Int), rfl, .of_le (by omega) (by omega) (by omega) (by omega), fun q hq => ?_⟩
  refine new_ind hq (upd _ q _) rfl fun H1 s1 e1 => ?_
  rw [rg_map] at e1
  refine ⟨rfl, rfl, n, h, reach, rs, one, _, q, ?_, town.mono s1, tw, rsl, hn, h1, h2, e1, fun v' H2 f s2 r hrk => k v' H2 f (s1.trans s2) r hrk⟩
  rw [List.length_map, hlen]
  rfl
end Ev
end
section
namespace Ev
open PySem L2
variable {P : Program} {w : World} {K : PySem.W.Frag} {mg : Str → Option Value} {base : Heap}

/-! ### a property -/
structure Prp (P : Program) (w : World) (K : PySem.W.Frag) (mg : Str → Option Value) (base : Heap) (k : Nat) (C : Addr) (f : Str) (sp : Sp) : Prop where
  ex : ∃ (p g : Addr) (fd : FuncData) (ps : List Str), Cls K C ∧ PropOf K C f p g ∧ FnOk P w K mg base C8.CX0 k g fd ps sp ∧ Binds K fd ps []
theorem pe_pr {X : Cx} {k j : Nat} {C : Addr} {f : Str} {sp : Sp} {e : Expr} {ta : TE} {pos : Pos} (c : Prp X.prog X.w X.K X.mg X.base k C f sp) (hr : Room j X.A) (hk : k + 1 ≤ j) (he : PE X e ta) (hab : attributeBase e f X.env (eval e X.env) = eval e X.env) :
    PE X (.Attribute e f pos) (tProp C sp [] C8.E0 ta) := by
  obtain ⟨p, g, fd, ps, cl, hp, F, b⟩ := c.ex
  exact pe_prop he cl hp F (hr.mono hk) b .nil C8.pass0 hab

/-! ### what a house is -/
def fsH (one : Bool) (reach : Nat) (L : Addr) (i : Nat) (E : Addr) : List (Str × V) := [("_rule", ruleV one), ("_reach", nV reach), ("_states", .ref L), ("_at", nV i), ("_entries", .ref E)]
def StAt (CS : Addr) (H : Hp) (b : Addr) (n : Nat) (rs : List Road) (s : List Nat) (o : Option Nat) : Prop := ∃ dx tv tbl sv c, H b = some (.ins CS dx (fsS tv tbl sv (oV o) (.ref c) (nV 0))) ∧ TownV H tv n rs ∧ TupN H sv s ∧ H c = some (.lst [])
structure Hs where
  one : Bool
  reach : Nat
  n : Nat
  s : List Nat
  sts : List (List Road × Option Nat)
  i : Nat
  ne : Nat
structure HouseV (CH CS : Addr) (H : Hp) (a : Addr) (h : Hs) : Prop where
  ex : ∃ (dx L E : Addr) (as : List Addr) (es : List V), H a = some (.ins CH dx (fsH h.one h.reach L h.i E)) ∧ H L = some (.lst (as.map V.ref)) ∧ as.length = h.sts.length ∧ (∀ (i : Nat) (b : Addr) (p : List Road × Option Nat), as[i]? = some b → h.sts[i]? = some p → StAt CS H b h.n p.1 h.s p.2) ∧ H E = some (.lst es) ∧ es.length ≤ h.ne
  lt : h.i < h.sts.length
  few : h.sts.length ≤ 1000 ∧ h.ne ≤ 1000
  ok : ∀ p ∈ h.sts, Town h.n p.1 ∧ Rk (AN p.1 h.reach h.one h.n) h.n h.s p.2
  n7 : h.n ≤ 7
  st : Stand h.n h.s.length h.s
  s12 : 1 ≤ h.s.length ∧ h.s.length ≤ 2
theorem inc_len : ∀ {l : List Nat} {N : Nat}, l.Pairwise (· < ·) → (∀ x ∈ l, x < N) → l.length ≤ N := by
  intro l N p h
  have hn : l.Nodup := p.imp fun {a b} h => Nat.ne_of_lt h
  have := nat_nodup_len l (List.range N) hn fun x hx => List.mem_range.mpr (h x hx)
  rwa [List.length_range] at this
theorem Town.few {n : Nat} {rs : List Road} (T : Town n rs) (hn : n ≤ 7) : rs.length ≤ 49 := by
  have h := inc_len (l := rs.map fun r => r.1 * 7 + r.2.1) (N := 49) (by
    rw [List.pairwise_map]
    refine List.Pairwise.imp_of_mem (fun {r s} hr hs h => ?_) T.asc
    have := T.ok r hr
    have := T.ok s hs
    omega) fun x hx => by
    obtain ⟨r, hr, rfl⟩ := List.mem_map.mp hx
    have := T.ok r hr
    omega
  rwa [List.length_map] at h
theorem TownV.keepL {H H' : Hp} (k : KeepL H H') {v : V} {n : Nat} {rs : List Road} (t : TownV H v n rs) : TownV H' v n rs := by
  obtain ⟨a, r, e, q, l, xs, e2, hl, hx⟩ := t
  exact ⟨a, r, e, k _ _ True.intro q, l, xs, e2, k _ _ True.intro hl, Paired.imp (fun _ _ h => h.keep k) hx⟩
theorem StAt.mono {CS : Addr} {H H' : Hp} {b : Addr} {n : Nat} {rs : List Road} {s : List Nat} {o : Option Nat} (h : StAt CS H b n rs s o) (k : KeepL H H') (kb : H' b = H b) : StAt CS H' b n rs s o := by
  obtain ⟨dx, tv, tbl, sv, c, hb, t, u, hc⟩ := h
  exact ⟨dx, tv, tbl, sv, c, kb.trans hb, t.keepL k, u.keep k, k _ _ True.intro hc⟩
theorem HouseV.mono {CH CS : Addr} {H H' : Hp} {a : Addr} {h : Hs} (v : HouseV CH CS H a h) (s : Same H H') : HouseV CH CS H' a h := by
  obtain ⟨⟨dx, L, E, as, es, ha, hL, len, hst, hE, le⟩, lt, few, ok, n7, st, s12⟩ := v
  refine ⟨⟨dx, L, E, as, es, s _ _ ha, s _ _ hL, len, fun i b p hb hp => ?_, s _ _ hE, le⟩, lt, few, ok, n7, st, s12⟩
  have q := hst i b p hb hp
  obtain ⟨_, _, _, _, _, hb, _⟩ := id q
  exact q.mono s.keepL (by rw [s _ _ hb, hb])
/-- all but the house itself stays -/
def Kp (a : Addr) (H H' : Hp) : Prop := ∀ b o, b ≠ a → H b = some o → H' b = some o

/-! ### _state -/
def spStateM (CH CS : Addr) : Sp := fun vs H Q _ => ∃ (a : Addr) (h : Hs), vs = [.ref a] ∧ HouseV CH CS H a h ∧ ∀ b p, h.sts[h.i]? = some p → StAt CS H b h.n p.1 h.s p.2 → Q (.ref b) H
theorem scStateM : FnScope ["self"] ["self"] (C8.fnScope (hm 2)) := ⟨rfl, rfl, rfl, by decide +kernel, rfl, by decide +kernel, by decide +kernel⟩
theorem ok_state {CH CS f : Addr} {fd : FuncData} (C : ClsH K CH) (me : Meth K CH "_state" f) (F : C8.Fun K "_state" "House._state" (hm 2) f fd) (b : Binds K fd ["self"] []) : C8.Met P w K mg base 1 CH "_state" (spStateM CH CS) [] := by
  refine C8.met0 C.cl me F b scStateM (fun vs H Q E h => ?_) (fun cdv A outer s H vs Q E hr h => ?_)
  · obtain ⟨a, h, rfl, _⟩ := h
    rfl
  obtain ⟨a, h, rfl, ⟨⟨dx, L, E, as, es, ha, hL, len, hst, _⟩, lt, _⟩, k⟩ := h
  have nd := scStateM.nd
  refine ⟨_, (pss_one (ps_ret (pe_ix (kix_list (K := K) rfl) (pe_fld (pv 0) rfl) (pe_fld (pv 0) rfl) (fun _ _ => rfl)))), ?_⟩
  have hi : as[h.i]? = some (as[h.i]'(by omega)) := List.getElem?_eq_getElem (by omega)
  have hp : h.sts[h.i]? = some (h.sts[h.i]'lt) := List.getElem?_eq_getElem lt
  refine ⟨_, rfl, a, CH, dx, _, _, rfl, ha, C.cl, C.states, rfl, ?_⟩
  refine ⟨_, rfl, a, CH, dx, _, _, rfl, ha, C.cl, C.at_, rfl, ?_⟩
  exact ⟨L, _, h.i, _, rfl, rfl, SqL.of hL, atI_nat (by rw [List.getElem?_map, hi]; rfl), k _ _ hp (hst _ _ _ hi hp)⟩

/-! ### town, stand, calls, way, rank -/
def spTownM (CH CS : Addr) : Sp := fun vs H Q _ => ∃ (a : Addr) (h : Hs), vs = [.ref a] ∧ HouseV CH CS H a h ∧ ∀ v' H' p, h.sts[h.i]? = some p → Same H H' → TownV H' v' h.n p.1 → Q v' H'
theorem scTownM : FnScope ["self", "places", "roads"] ["self"] (C8.fnScope (hm 16)) := ⟨rfl, rfl, rfl, by decide +kernel, rfl, by decide +kernel, by decide +kernel⟩
theorem ok_town {CH CS f : Addr} {fd : FuncData} (C : ClsH K CH) (S : ClsS K CS) (me : Meth K CH "town" f) (F : C8.Fun K "town" "House.town" (hm 16) f fd) (b : Binds K fd ["self"] []) (d__state : C8.Met P w K mg base 1 CH "_state" (spStateM CH CS) []) : C8.Met P w K mg base 2 CH "town" (spTownM CH CS) [] := by
  refine C8.met0 C.cl me F b scTownM (fun vs H Q E h => ?_) (fun cdv A outer s H vs Q E hr h => ?_)
  · obtain ⟨a, h, rfl, _⟩ := h
    rfl
  obtain ⟨a, h, rfl, hv, k⟩ := h
  have nd := scTownM.nd
  obtain ⟨⟨dx, L, E, as, es, ha, _⟩, _⟩ := id hv
  refine ⟨_, (pss_cons (ps_asg (pe_fld (C8.pe_mt0 d__state hr (by decide) (pv 0)) rfl) (kpg_tup (K := K) (n := 2) rfl rfl (pgs_cons (pg_name (i := 1) nd rfl (by first | exact .inl rfl | exact .inr rfl)) (pgs_cons (pg_name (i := 2) nd rfl (by first | exact .inl rfl | exact .inr rfl)) pgs_nil))))
 (pss_one (ps_ret (pe_tup (pa_cons (pv 1) (pa_cons (pe_lst (StX.pa_star (pv 2) pa_nil)) pa_nil)))))), ?_⟩
  refine ⟨_, rfl, a, dx, _, rfl, ha, rfl, a, h, rfl, hv, fun b p hp ⟨dy, tv, tbl, sv, c, hb, ⟨ta, tr, e, hta, l, xs, e2, hl, hx⟩, _⟩ => ?_⟩
  subst e
  subst e2
  refine ⟨b, CS, dy, _, _, rfl, hb, S.cl, S.town, rfl, ?_⟩
  refine ⟨ta, _, rfl, SqT.of hta, rfl, _, _, rfl, _, _, rfl, rfl, ?_⟩
  refine ⟨_, rfl, _, rfl, l, xs, rfl, .inr (SqL.of hl), ?_⟩
  have lx := Paired.len hx
  rw [List.length_map] at lx
  have fw := (hv.ok p (List.mem_of_getElem? hp)).1.few hv.n7
  refine ⟨short (by rw [List.append_nil]; omega), fun q hq => ?_⟩
  refine new_ind hq (upd _ q _) rfl fun H1 s1 e1 => ?_
  rw [List.append_nil] at e1
  refine ⟨by show 2 ≤ sizeLine; decide, fun r hr => ?_⟩
  refine new_ind hr (upd _ r _) rfl fun H2 s2 e2 => ?_
  exact k _ _ p hp (s1.trans s2) ⟨r, .ref q, rfl, e2, q, xs, rfl, s2 _ _ e1, hx.mono (s1.trans s2).tup⟩

def spStandM (CH CS : Addr) : Sp := fun vs H Q _ => ∃ (a : Addr) (h : Hs), vs = [.ref a] ∧ HouseV CH CS H a h ∧ ∀ v', TupN H v' h.s → Q v' H
theorem scStandM : FnScope ["self"] ["self"] (C8.fnScope (hm 17)) := ⟨rfl, rfl, rfl, by decide +kernel, rfl, by decide +kernel, by decide +kernel⟩
theorem ok_stand {CH CS f : Addr} {fd : FuncData} (C : ClsH K CH) (S : ClsS K CS) (me : Meth K CH "stand" f) (F : C8.Fun K "stand" "House.stand" (hm 17) f fd) (b : Binds K fd ["self"] []) (d__state : C8.Met P w K mg base 1 CH "_state" (spStateM CH CS) []) : C8.Met P w K mg base 2 CH "stand" (spStandM CH CS) [] := by
  refine C8.met0 C.cl me F b scStandM (fun vs H Q E h => ?_) (fun cdv A outer s H vs Q E hr h => ?_)
  · obtain ⟨a, h, rfl, _⟩ := h
    rfl
  obtain ⟨a, h, rfl, hv, k⟩ := h
  have nd := scStandM.nd
  obtain ⟨⟨dx, L, E, as, es, ha, _⟩, _⟩ := id hv
  refine ⟨_, (pss_one (ps_ret (pe_fld (C8.pe_mt0 d__state hr (by decide) (pv 0)) rfl))), ?_⟩
  refine ⟨_, rfl, a, dx, _, rfl, ha, rfl, a, h, rfl, hv, fun b p hp ⟨dy, tv, tbl, sv, c, hb, _, hs, _⟩ => ?_⟩
  exact ⟨b, CS, dy, _, _, rfl, hb, S.cl, S.stand, rfl, k _ hs⟩

def spCallsM (CH CS : Addr) : Sp := fun vs H Q _ => ∃ (a : Addr) (h : Hs), vs = [.ref a] ∧ HouseV CH CS H a h ∧ ∀ q H', Same H H' → H' q = some (.lst []) → Q (.ref q) H'
theorem scCallsM : FnScope ["self"] ["self"] (C8.fnScope (hm 18)) := ⟨rfl, rfl, rfl, by decide +kernel, rfl, by decide +kernel, by decide +kernel⟩
theorem ok_calls {CH CS f : Addr} {fd : FuncData} (C : ClsH K CH) (S : ClsS K CS) (me : Meth K CH "calls" f) (F : C8.Fun K "calls" "House.calls" (hm 18) f fd) (b : Binds K fd ["self"] []) (d__state : C8.Met P w K mg base 1 CH "_state" (spStateM CH CS) []) : C8.Met P w K mg base 2 CH "calls" (spCallsM CH CS) [] := by
  refine C8.met0 C.cl me F b scCallsM (fun vs H Q E h => ?_) (fun cdv A outer s H vs Q E hr h => ?_)
  · obtain ⟨a, h, rfl, _⟩ := h
    rfl
  obtain ⟨a, h, rfl, hv, k⟩ := h
  have nd := scCallsM.nd
  obtain ⟨⟨dx, L, E, as, es, ha, _⟩, _⟩ := id hv
  refine ⟨_, (pss_one (ps_ret (pe_lst (StX.pa_star (pe_fld (C8.pe_mt0 d__state hr (by decide) (pv 0)) rfl) pa_nil)))), ?_⟩
  refine ⟨_, rfl, a, dx, _, rfl, ha, rfl, a, h, rfl, hv, fun b p hp ⟨dy, tv, tbl, sv, c, hb, _, _, hc⟩ => ?_⟩
  refine ⟨b, CS, dy, _, _, rfl, hb, S.cl, S.calls, rfl, c, [], rfl, .inr (SqL.of hc), by show 0 ≤ sizeLine; decide, fun q hq => ?_⟩
  refine new_ind hq (upd _ q _) rfl fun H1 s1 e1 => ?_
  exact k q H1 s1 e1

def spWayM (CH CS : Addr) : Sp := fun vs H Q _ => ∃ (a : Addr) (h : Hs), vs = [.ref a] ∧ HouseV CH CS H a h ∧ Q (nV 0) H
theorem scWayM : FnScope ["self"] ["self"] (C8.fnScope (hm 19)) := ⟨rfl, rfl, rfl, by decide +kernel, rfl, by decide +kernel, by decide +kernel⟩
theorem ok_way {CH CS f : Addr} {fd : FuncData} (C : ClsH K CH) (S : ClsS K CS) (me : Meth K CH "way" f) (F : C8.Fun K "way" "House.way" (hm 19) f fd) (b : Binds K fd ["self"] []) (d__state : C8.Met P w K mg base 1 CH "_state" (spStateM CH CS) []) : C8.Met P w K mg base 2 CH "way" (spWayM CH CS) [] := by
  refine C8.met0 C.cl me F b scWayM (fun vs H Q E h => ?_) (fun cdv A outer s H vs Q E hr h => ?_)
  · obtain ⟨a, h, rfl, _⟩ := h
    rfl
  obtain ⟨a, h, rfl, hv, k⟩ := h
  have nd := scWayM.nd
  obtain ⟨⟨dx, L, E, as, es, ha, _⟩, _⟩ := id hv
  refine ⟨_, (pss_one (ps_ret (pe_fld (C8.pe_mt0 d__state hr (by decide) (pv 0)) rfl))), ?_⟩
  refine ⟨_, rfl, a, dx, _, rfl, ha, rfl, a, h, rfl, hv, fun b p hp ⟨dy, tv, tbl, sv, c, hb, _⟩ => ?_⟩
  exact ⟨b, CS, dy, _, _, rfl, hb, S.cl, S.length, rfl, k⟩

def spRankM (CH CS : Addr) : Sp := fun vs H Q _ => ∃ (a : Addr) (h : Hs), vs = [.ref a] ∧ HouseV CH CS H a h ∧ ∀ p, h.sts[h.i]? = some p → Q (oV p.2) H
theorem scRankM : FnScope ["self"] ["self"] (C8.fnScope (hm 20)) := ⟨rfl, rfl, rfl, by decide +kernel, rfl, by decide +kernel, by decide +kernel⟩
theorem ok_rank {CH CS f : Addr} {fd : FuncData} (C : ClsH K CH) (S : ClsS K CS) (me : Meth K CH "rank" f) (F : C8.Fun K "rank" "House.rank" (hm 20) f fd) (b : Binds K fd ["self"] []) (d__state : C8.Met P w K mg base 1 CH "_state" (spStateM CH CS) []) : C8.Met P w K mg base 2 CH "rank" (spRankM CH CS) [] := by
  refine C8.met0 C.cl me F b scRankM (fun vs H Q E h => ?_) (fun cdv A outer s H vs Q E hr h => ?_)
  · obtain ⟨a, h, rfl, _⟩ := h
    rfl
  obtain ⟨a, h, rfl, hv, k⟩ := h
  have nd := scRankM.nd
  obtain ⟨⟨dx, L, E, as, es, ha, _⟩, _⟩ := id hv
  refine ⟨_, (pss_one (ps_ret (pe_fld (C8.pe_mt0 d__state hr (by decide) (pv 0)) rfl))), ?_⟩
  refine ⟨_, rfl, a, dx, _, rfl, ha, rfl, a, h, rfl, hv, fun b p hp ⟨dy, tv, tbl, sv, c, hb, _⟩ => ?_⟩
  exact ⟨b, CS, dy, _, _, rfl, hb, S.cl, S.beaten, rfl, k p hp⟩

/-! ### is_safe, can_undo -/
def spSafe (CH CS : Addr) : Sp := fun vs H Q _ => ∃ (a : Addr) (h : Hs), vs = [.ref a] ∧ HouseV CH CS H a h ∧ ∀ p, h.sts[h.i]? = some p → Q (.bl (decide (oV p.2 = V.non))) H
theorem scSafe : FnScope ["self"] ["self"] (C8.fnScope (hm 22)) := ⟨rfl, rfl, rfl, by decide +kernel, rfl, by decide +kernel, by decide +kernel⟩
theorem ok_safe {CH CS p g : Addr} {fd : FuncData} (C : ClsH K CH) (S : ClsS K CS) (hp : PropOf K CH "is_safe" p g) (F : C8.Fun K "is_safe" "House.is_safe" (hm 22) g fd) (b : Binds K fd ["self"] []) (d__state : C8.Met P w K mg base 1 CH "_state" (spStateM CH CS) []) : Prp P w K mg base 2 CH "is_safe" (spSafe CH CS) := by
  refine ⟨p, g, fd, _, C.cl, hp, C8.fn0 F scSafe (fun vs H Q E h => ?_) (fun cdv A outer s H vs Q E hr h => ?_), b⟩
  · obtain ⟨a, h, rfl, _⟩ := h
    rfl
  obtain ⟨a, h, rfl, hv, k⟩ := h
  have nd := scSafe.nd
  obtain ⟨⟨dx, L, E, as, es, ha, _⟩, _⟩ := id hv
  refine ⟨_, (pss_one (ps_ret (pe_cmpR op_isN (pe_fld (C8.pe_mt0 d__state hr (by decide) (pv 0)) rfl) pe_non (nomark _)))), ?_⟩
  refine ⟨_, rfl, a, dx, _, rfl, ha, rfl, a, h, rfl, hv, fun b p hp ⟨dy, tv, tbl, sv, c, hb, _⟩ => ?_⟩
  exact ⟨b, CS, dy, _, _, rfl, hb, S.cl, S.beaten, rfl, rfl, k p hp⟩
def spCanUndo (CH CS : Addr) : Sp := fun vs H Q _ => ∃ (a : Addr) (h : Hs), vs = [.ref a] ∧ HouseV CH CS H a h ∧ Q (.bl (decide (0 < h.i))) H
theorem scCanUndo : FnScope ["self"] ["self"] (C8.fnScope (hm 23)) := ⟨rfl, rfl, rfl, by decide +kernel, rfl, by decide +kernel, by decide +kernel⟩
theorem ok_can_undo {CH CS p g : Addr} {fd : FuncData} (C : ClsH K CH) (hp : PropOf K CH "can_undo" p g) (F : C8.Fun K "can_undo" "House.can_undo" (hm 23) g fd) (b : Binds K fd ["self"] []) : Prp P w K mg base 1 CH "can_undo" (spCanUndo CH CS) := by
  refine ⟨p, g, fd, _, C.cl, hp, C8.fn0 F scCanUndo (fun vs H Q E h => ?_) (fun cdv A outer s H vs Q E hr h => ?_), b⟩
  · obtain ⟨a, h, rfl, _⟩ := h
    rfl
  obtain ⟨a, h, rfl, hv, k⟩ := h
  have nd := scCanUndo.nd
  obtain ⟨⟨dx, L, E, as, es, ha, _⟩, _⟩ := id hv
  refine ⟨_, (pss_one (ps_ret (pe_cmpR op_gt (pe_fld (pv 0) rfl) pe_int (nomark _)))), ?_⟩
  refine ⟨_, rfl, a, CH, dx, _, _, rfl, ha, C.cl, C.at_, rfl, _, _, rfl, rfl, ?_⟩
  have e : decide ((0 : Int) < (h.i : Int)) = decide (0 < h.i) := decide_eq_decide.mpr ⟨fun h => by omega, fun h => by omega⟩
  show Q (.bl (decide ((h.i : Int) > 0))) H
  rw [show decide ((h.i : Int) > 0) = decide (0 < h.i) from e]
  exact k
end Ev
end
section
namespace Ev
open PySem L2
variable {P : Program} {w : World} {K : PySem.W.Frag} {mg : Str → Option Value} {base : Heap}

theorem fs_ne {tv tbl sv bv cl ln : V} {one : Bool} {reach i : Nat} {L E CS CH dx dy : Addr} : HO.ins CS dy (fsS tv tbl sv bv cl ln) ≠ HO.ins CH dx (fsH one reach L i E) := fun e => by
  injection e with _ _ e
  have := congrArg List.length e
  cases this
section
variable {H H' : Hp} {a : Addr} {CH CS dx : Addr} {fs : List (Str × V)}
theorem Kp.l (ha : H a = some (.ins CH dx fs)) (k : Kp a H H') : KeepL H H' := fun b o p q => k b o (by
  rintro rfl
  rw [ha] at q
  injection q with q
  subst q
  exact p) q
theorem Kp.trans {H1 H2 : Hp} (x : Kp a H H1) (y : Kp a H1 H2) : Kp a H H2 := fun b o n q => y b o n (x b o n q)
theorem _root_.L2.Same.kp (s : Same H H') : Kp a H H' := fun b o _ q => s b o q
theorem Kp.put {o : HO} (k : Kp a H H') : Kp a H (upd H' a o) := fun b u n q => by
  rw [upd_ne n]
  exact k b u n q
theorem Kp.of (k : ∀ b, b ≠ a → H' b = H b) : Kp a H H' := fun b o n q => (k b n).trans q
end
theorem StAt.kp {CH CS : Addr} {H H' : Hp} {a b dx L E : Addr} {one : Bool} {reach i n : Nat} {rs : List Road} {s : List Nat} {o : Option Nat} (ha : H a = some (.ins CH dx (fsH one reach L i E))) (k : Kp a H H') (q : StAt CS H b n rs s o) : StAt CS H' b n rs s o := by
  obtain ⟨dy, tv, tbl, sv, c, hb, _⟩ := id q
  have ne : b ≠ a := ne_of hb ha fs_ne
  exact q.mono (k.l ha) (by rw [k b _ ne hb, hb])

/-! ### undo -/
def spUndo (CH CS : Addr) : Sp := fun vs H Q _ => ∃ (a : Addr) (h : Hs), vs = [.ref a] ∧ HouseV CH CS H a h ∧ 0 < h.i ∧ h.ne < 1000 ∧ ∀ H', Kp a H H' → HouseV CH CS H' a { h with i := h.i - 1, ne := h.ne + 1 } → Q .non H'
theorem scUndo : FnScope ["self"] ["self"] (C8.fnScope (hm 11)) := ⟨rfl, rfl, rfl, by decide +kernel, rfl, by decide +kernel, by decide +kernel⟩
theorem ok_undo {CH CS f : Addr} {fd : FuncData} (C : ClsH K CH) (me : Meth K CH "undo" f) (F : C8.Fun K "undo" "House.undo" (hm 11) f fd) (b : Binds K fd ["self"] []) : C8.Met P w K mg base 1 CH "undo" (spUndo CH CS) [] := by
  refine C8.met0 C.cl me F b scUndo (fun vs H Q E h => ?_) (fun cdv A outer s H vs Q E hr h => ?_)
  · obtain ⟨a, h, rfl, _⟩ := h
    rfl
  obtain ⟨a, h, rfl, hv, hi, hne, k⟩ := h
  have nd := scUndo.nd
  obtain ⟨⟨dx, L, E, as, es, ha, hL, len, hst, hE, le⟩, lt, few, ok, n7, st, s12⟩ := id hv
  refine ⟨_, (pss_cons (ps_if (pt_cmpR op_eq (pe_fld (pv 0) rfl) pe_int (nomark _))
 (pss_one ps_never)
 pss_nil)
 (pss_cons (ps_fldaug (pv 0) pe_int in_sub)
 (pss_one (ps_fld (pv 0) (pe_op op_cat (pe_fld (pv 0) rfl) (pe_lst (pa_cons (pe_tup (pa_cons pe_str pa_nil)) pa_nil))) rfl)))), ?_⟩
  refine ⟨_, rfl, a, CH, dx, _, _, rfl, ha, C.cl, C.at_, rfl, rfl, _, rfl, ite_b (fun c => ?_) (fun _ => ?_)⟩
  · have : V.int (h.i : Int) = V.int 0 := of_decide_eq_true c
    injection this with this
    omega
  refine ⟨_, rfl, a, CH, dx, _, _, rfl, ha, C.cl, C.at_, rfl, _, _, rfl, rfl, dx, _, ha, (show 5 < 1000 from by decide), ?_⟩
  refine put_ind (upd _ a _) rfl fun H1 k1 e1 => ?_
  have nE : E ≠ a := ne_of hE ha fun q => nomatch q
  refine ⟨_, rfl, a, CH, dx, _, _, rfl, e1, C.cl, C.entries, rfl, ?_⟩
  refine ⟨by show 1 ≤ sizeLine; decide, fun p hp => ?_⟩
  refine new_ind hp (upd _ p _) rfl fun H2 s2 e2 => ?_
  refine ⟨by show 1 ≤ sizeLine; decide, fun q hq => ?_⟩
  refine new_ind hq (upd _ q _) rfl fun H3 s3 e3 => ?_
  refine ⟨E, q, es, _, rfl, rfl, s3 _ _ (s2 _ _ (by rw [k1 E nE]; exact hE)), e3, short (by show es.length + 1 ≤ _; omega), fun r hr => ?_⟩
  refine new_ind hr (upd _ r _) rfl fun H4 s4 e4 => ?_
  refine ⟨_, rfl, a, CH, dx, _, rfl, s4 _ _ (s3 _ _ (s2 _ _ e1)), C.cl, C.entries, (show 5 < 1000 from by decide), ?_⟩
  refine put_ind (upd _ a _) rfl fun H5 k5 e5 => ?_
  have kp : Kp a H H5 := fun b o n q => by
    rw [k5 b n]
    exact s4 _ _ (s3 _ _ (s2 _ _ (by rw [k1 b n]; exact q)))
  have nL : L ≠ a := ne_of hL ha fun q => nomatch q
  have ner : r ≠ a := by
    rintro rfl
    rw [s3 _ _ (s2 _ _ e1)] at hr
    cases hr
  refine k H5 kp ⟨⟨dx, L, r, as, es ++ [.ref p], e5.trans ?_, kp L _ nL hL, len, fun i b p hb hp => (hst i b p hb hp).kp ha kp, ?_, ?_⟩, ?_, ⟨few.1, ?_⟩, ok, n7, st, s12⟩
  · rw [show (h.i : Int) - 1 = ((h.i - 1 : Nat) : Int) from by omega]
    rfl
  · rw [k5 r ner]
    exact e4
  · rw [List.length_append]
    show es.length + 1 ≤ h.ne + 1
    omega
  · show h.i - 1 < h.sts.length
    omega
  · show h.ne + 1 ≤ 1000
    omega
end Ev
end
section
namespace Ev
open PySem L2
variable {P : Program} {w : World} {K : PySem.W.Frag} {mg : Str → Option Value} {base : Heap}

/-! ### _enter -/
def Hs.next (h : Hs) (p : List Road × Option Nat) : Hs := { h with sts := h.sts.take (h.i + 1) ++ [p], i := h.i + 1, ne := h.ne + 1 }
def spEnter (CH CS : Addr) : Sp := fun vs H Q _ => ∃ (a b : Addr) (h : Hs) (rs : List Road) (o : Option Nat) (ev : V), vs = [.ref a, .ref b, ev] ∧ HouseV CH CS H a h ∧ StAt CS H b h.n rs h.s o ∧ Town h.n rs ∧ Rk (AN rs h.reach h.one h.n) h.n h.s o ∧ h.sts.length < 1000 ∧ h.ne < 1000 ∧
  ∀ H', Kp a H H' → HouseV CH CS H' a (h.next (rs, o)) → Q .non H'
theorem scEnter : FnScope ["self", "state", "entry"] ["self", "state", "entry"] (C8.fnScope (hm 3)) := ⟨rfl, rfl, rfl, by decide +kernel, rfl, by decide +kernel, by decide +kernel⟩
theorem ok_enter {CH CS f : Addr} {fd : FuncData} (C : ClsH K CH) (me : Meth K CH "_enter" f) (F : C8.Fun K "_enter" "House._enter" (hm 3) f fd) (b : Binds K fd ["self", "state", "entry"] []) : C8.Met P w K mg base 1 CH "_enter" (spEnter CH CS) [] := by
  refine C8.met0 C.cl me F b scEnter (fun vs H Q E h => ?_) (fun cdv A outer s H vs Q E hr h => ?_)
  · obtain ⟨a, b, h, rs, o, ev, rfl, _⟩ := h
    rfl
  obtain ⟨a, b, h, rs, o, ev, rfl, hv, hb, tw, rk, hsl, hne, k⟩ := h
  have nd := scEnter.nd
  obtain ⟨⟨dx, L, E, as, es, ha, hL, len, hst, hE, le⟩, lt, few, ok, n7, st, s12⟩ := id hv
  refine ⟨_, (pss_cons (ps_fld (pv 0) (pe_op op_cat (pe_slice (ksl_list (K := K) rfl) (pe_fld (pv 0) rfl) po_none (po_some (pe_op op_add (pe_fld (pv 0) rfl) pe_int))) (pe_lst (pa_cons (pv 1) pa_nil))) rfl)
 (pss_cons (ps_fldaug (pv 0) pe_int in_add)
 (pss_one (ps_fld (pv 0) (pe_op op_cat (pe_fld (pv 0) rfl) (pe_lst (pa_cons (pv 2) pa_nil))) rfl)))), ?_⟩
  refine ⟨_, rfl, a, CH, dx, _, _, rfl, ha, C.cl, C.states, rfl, ?_⟩
  refine ⟨_, rfl, a, CH, dx, _, _, rfl, ha, C.cl, C.at_, rfl, _, _, rfl, rfl, _, rfl, L, _, rfl, SqL.of hL, fun p hp => ?_⟩
  rw [show (h.i : Int) + 1 = ((h.i + 1 : Nat) : Int) from by omega, cut_to, ← List.map_take]
  refine new_ind hp (upd _ p _) rfl fun H1 s1 e1 => ?_
  refine ⟨_, rfl, by show 1 ≤ sizeLine; decide, fun q hq => ?_⟩
  refine new_ind hq (upd _ q _) rfl fun H2 s2 e2 => ?_
  refine ⟨p, q, _, _, rfl, rfl, s2 _ _ e1, e2, short (by rw [List.length_map, List.length_take]; show _ + 1 ≤ _; omega), fun r hr => ?_⟩
  refine new_ind hr (upd _ r _) rfl fun H3 s3 e3 => ?_
  have s03 := s1.trans (s2.trans s3)
  have ha3 := s03 _ _ ha
  refine ⟨_, rfl, a, CH, dx, _, rfl, ha3, C.cl, C.states, (show 5 < 1000 from by decide), ?_⟩
  refine put_ind (upd _ a _) rfl fun H4 k4 e4 => ?_
  refine ⟨_, rfl, a, CH, dx, _, _, rfl, e4, C.cl, C.at_, rfl, _, _, rfl, rfl, dx, _, e4, (show 5 < 1000 from by decide), ?_⟩
  refine put_ind (upd _ a _) rfl fun H5 k5 e5 => ?_
  have nE : E ≠ a := ne_of hE ha fun q => nomatch q
  have hE5 : H5 E = some (.lst es) := by rw [k5 E nE, k4 E nE]; exact s03 _ _ hE
  refine ⟨_, rfl, a, CH, dx, _, _, rfl, e5, C.cl, C.entries, rfl, ?_⟩
  refine ⟨_, rfl, by show 1 ≤ sizeLine; decide, fun t ht => ?_⟩
  refine new_ind ht (upd _ t _) rfl fun H6 s6 e6 => ?_
  refine ⟨E, t, es, _, rfl, rfl, s6 _ _ hE5, e6, short (by show es.length + 1 ≤ _; omega), fun u hu => ?_⟩
  refine new_ind hu (upd _ u _) rfl fun H7 s7 e7 => ?_
  have s57 := s6.trans s7
  refine ⟨_, rfl, a, CH, dx, _, rfl, s57 _ _ e5, C.cl, C.entries, (show 5 < 1000 from by decide), ?_⟩
  refine put_ind (upd _ a _) rfl fun H8 k8 e8 => ?_
  have kp58 : ∀ b o, b ≠ a → H5 b = some o → H8 b = some o := fun b o n q => by
    rw [k8 b n]
    exact s57 _ _ q
  have kp38 : ∀ b o, b ≠ a → H3 b = some o → H8 b = some o := fun b o n q => kp58 b o n (by rw [k5 b n, k4 b n]; exact q)
  have kp : Kp a H H8 := fun b o n q => kp38 b o n (s03 _ _ q)
  have nr : r ≠ a := by
    rintro rfl
    rw [(s1.trans s2) _ _ ha] at hr
    cases hr
  have nu : u ≠ a := by
    rintro rfl
    rw [s6 _ _ e5] at hu
    cases hu
  have ls : (h.sts.take (h.i + 1)).length = h.i + 1 := by
    rw [List.length_take]
    omega
  have la : (as.take (h.i + 1)).length = h.i + 1 := by
    rw [List.length_take]
    omega
  refine k H8 kp ⟨⟨dx, r, u, as.take (h.i + 1) ++ [b], es ++ [ev], e8.trans ?_, ?_, ?_, fun i b' p' hb' hp' => ?_, ?_, ?_⟩, ?_, ⟨?_, ?_⟩, fun p' hp' => ?_, n7, st, s12⟩
  · rfl
  · rw [List.map_append]
    exact kp38 r _ nr e3
  · show (as.take (h.i + 1) ++ [b]).length = (h.sts.take (h.i + 1) ++ [(rs, o)]).length
    rw [List.length_append, List.length_append, la, ls]
    rfl
  · have hp' : (h.sts.take (h.i + 1) ++ [(rs, o)])[i]? = some p' := hp'
    rcases Nat.lt_or_ge i (h.i + 1) with lt1 | ge1
    · rw [List.getElem?_append_left (by omega), List.getElem?_take_of_lt lt1] at hb'
      rw [List.getElem?_append_left (by omega), List.getElem?_take_of_lt lt1] at hp'
      exact (hst i b' p' hb' hp').kp ha kp
    · rw [List.getElem?_append_right (by omega), la] at hb'
      rw [List.getElem?_append_right (by omega), ls] at hp'
      have e0 : i - (h.i + 1) = 0 := by
        have := (List.getElem?_eq_some_iff.mp hb').1
        simp at this
        omega
      rw [e0] at hb' hp'
      injection hb' with hb'
      injection hp' with hp'
      subst hb'
      subst hp'
      exact hb.kp ha kp
  · rw [k8 u nu]
    exact e7
  · rw [List.length_append]
    show es.length + 1 ≤ h.ne + 1
    omega
  · show h.i + 1 < (h.sts.take (h.i + 1) ++ [(rs, o)]).length
    rw [List.length_append, ls]
    show h.i + 1 < h.i + 1 + 1
    omega
  · show (h.sts.take (h.i + 1) ++ [(rs, o)]).length ≤ 1000
    rw [List.length_append, ls]
    show h.i + 1 + 1 ≤ 1000
    omega
  · show h.ne + 1 ≤ 1000
    omega
  · have hp' : p' ∈ h.sts.take (h.i + 1) ++ [(rs, o)] := hp'
    rcases List.mem_append.mp hp' with hp' | hp'
    · exact ok p' (List.mem_of_mem_take hp')
    · have : p' = (rs, o) := by simpa using hp'
      subst this
      exact ⟨tw, rk⟩

/-! ### _turn -/
def spTurn (CH CS : Addr) : Sp := fun vs H Q _ => ∃ (a : Addr) (h : Hs) (rs : List Road) (tv ev : V), vs = [.ref a, tv, ev] ∧ HouseV CH CS H a h ∧ TownV H tv h.n rs ∧ Town h.n rs ∧ h.sts.length < 1000 ∧ h.ne < 1000 ∧
  ∀ H' o, Kp a H H' → HouseV CH CS H' a (h.next (rs, o)) → Q (.bl (decide (oV o = V.non))) H'
theorem scTurn : FnScope ["self", "town", "entry", "state"] ["self", "town", "entry"] (C8.fnScope (hm 8)) := ⟨rfl, rfl, rfl, by decide +kernel, rfl, by decide +kernel, by decide +kernel⟩
theorem ok_turn {CH CS f : Addr} {fd : FuncData} (C : ClsH K CH) (S : ClsS K CS) (me : Meth K CH "_turn" f) (F : C8.Fun K "_turn" "House._turn" (hm 8) f fd) (b : Binds K fd ["self", "town", "entry"] []) (d__state : C8.Met P w K mg base 1 CH "_state" (spStateM CH CS) [])
    (d__enter : C8.Met P w K mg base 1 CH "_enter" (spEnter CH CS) []) (m_State : C8.Mak P w K mg base 1 "State" CS (spState CS) []) (d__table : C8.Met P w K mg base 6 CH "_table" (spTable CH) []) (p_is_safe : Prp P w K mg base 2 CH "is_safe" (spSafe CH CS)) : C8.Met P w K mg base 7 CH "_turn" (spTurn CH CS) [] := by
  refine C8.met0 C.cl me F b scTurn (fun vs H Q E h => ?_) (fun cdv A outer s H vs Q E hr h => ?_)
  · obtain ⟨a, h, rs, tv, ev, rfl, _⟩ := h
    rfl
  obtain ⟨a, h, rs, tv, ev, rfl, hv, town, tw, hsl, hne, k⟩ := h
  have nd := scTurn.nd
  obtain ⟨⟨dx, L, E, as, es, ha, hL, len, hst, hE, le⟩, lt, few, ok, n7, st, s12⟩ := id hv
  refine ⟨_, (pss_cons (ps_set (i := 3) nd rfl (by first | exact .inl rfl | exact .inr rfl) (C8.pe_mt0 d__state hr (by decide) (pv 0)))
 (pss_cons (ps_expr (C8.pe_mt d__enter hr (by decide) (pv 0) (pa_cons (C8.pe_mk m_State hr (by decide) rfl (pa_cons (pv 1) (pa_cons (C8.pe_mt d__table hr (by decide) (pv 0) (pa_cons (pv 1) (pa_cons (pe_fld (pv 3) rfl) pa_nil))) (pa_cons (pe_fld (pv 3) rfl) (pa_cons (pe_fld (pv 3) rfl) (pa_cons (pe_fld (pv 3) rfl) pa_nil)))))) (pa_cons (pv 2) pa_nil))))
 (pss_one (ps_ret (pe_pr p_is_safe hr (by decide) (pv 0) rfl))))), ?_⟩
  refine ⟨_, rfl, a, dx, _, rfl, ha, rfl, a, h, rfl, hv, fun b p hp ⟨dy, tv0, tbl0, sv, c, hb, _, hs, hc⟩ => ?_⟩
  refine ⟨_, rfl, a, dx, _, rfl, ha, rfl, ?_⟩
  refine ⟨_, rfl, _, rfl, a, dx, _, rfl, ha, rfl, _, rfl, _, rfl, b, CS, dy, _, _, rfl, hb, S.cl, S.stand, rfl, ?_⟩
  refine ⟨a, dx, _, h.n, h.s.length, h.reach, rs, h.one, tv, sv, h.s, rfl, ha, rfl, rfl, town, tw, Nat.le_trans (tw.few n7) (by decide), n7, s12.1, s12.2, hs, rfl, fun v' H1 f s1 rv rk => ?_⟩
  have hb1 := s1 _ _ hb
  refine ⟨_, rfl, b, CS, dy, _, _, rfl, hb1, S.cl, S.stand, rfl, _, rfl, b, CS, dy, _, _, rfl, hb1, S.cl, S.calls, rfl, _, rfl, b, CS, dy, _, _, rfl, hb1, S.cl, S.length, rfl, fun x dz hx hz nzx => ?_⟩
  have sx : Same H1 (upd (upd H1 dz (.own x)) x (.ins CS dz [])) := ((Same.refl H1).put hz _).put hx _
  have ex : (upd (upd H1 dz (.own x)) x (.ins CS dz [])) x = some (.ins CS dz []) := upd_same
  generalize upd (upd H1 dz (.own x)) x (.ins CS dz []) = H2 at sx ex ⊢
  have s02 := s1.trans sx
  refine ⟨x, dz, tv, v', sv, .ref c, nV 0, stands h.n h.s.length, f, h.s, rfl, ex, rv.mono sx, hs.mono s02.tup, mem_stands.mpr st, fun H3 k3 e3 => ⟨rfl, ?_⟩⟩
  have nbx : ∀ {b : Addr} {o : HO}, H1 b = some o → b ≠ x := fun {b o} q => ne_of_none q hx
  have s03 : Same H H3 := fun b o q => k3 b o (nbx (s1 _ _ q)) (s02 _ _ q)
  have hn : StAt CS H3 x h.n rs h.s (f h.s) := ⟨dz, tv, v', sv, c, e3, town.mono s03, hs.mono s03.tup, s03 _ _ hc⟩
  refine ⟨_, rfl, a, x, h, rs, f h.s, _, rfl, hv.mono s03, hn, tw, rk h.s st, hsl, hne, fun H4 k4 hv4 => ?_⟩
  obtain ⟨⟨dx', _, _, _, _, ha4, _⟩, _⟩ := id hv4
  refine ⟨_, rfl, a, dx', _, rfl, ha4, a, h.next (rs, f h.s), rfl, hv4, fun p hp => ?_⟩
  have ep : p = (rs, f h.s) := by
    have hp : (h.sts.take (h.i + 1) ++ [(rs, f h.s)])[h.i + 1]? = some p := hp
    have ls : (h.sts.take (h.i + 1)).length = h.i + 1 := by
      rw [List.length_take]
      omega
    rw [List.getElem?_append_right (by omega), ls, Nat.sub_self] at hp
    injection hp with hp
    exact hp.symm
  subst ep
  exact k H4 _ (s03.kp.trans k4) hv4

/-! ### build -/
def spBuild (CH CS : Addr) : Sp := fun vs H Q _ => ∃ (a : Addr) (h : Hs) (p : List Road × Option Nat) (rd : Road) (rv : V), vs = [.ref a, rv] ∧ HouseV CH CS H a h ∧ h.sts[h.i]? = some p ∧ TupN H rv (rl rd) ∧ (rd.1 < rd.2.1 ∧ rd.2.1 < h.n ∧ 1 ≤ rd.2.2 ∧ rd.2.2 ≤ 9) ∧ (∀ s ∈ p.1, ¬ (s.1 = rd.1 ∧ s.2.1 = rd.2.1)) ∧
  h.sts.length < 1000 ∧ h.ne < 1000 ∧ ∀ H' o, Kp a H H' → HouseV CH CS H' a (h.next (ins p.1 rd, o)) → Q (.bl (decide (oV o = V.non))) H'
theorem scBuild : FnScope ["self", "road"] ["self", "road"] (C8.fnScope (hm 10)) := ⟨rfl, rfl, rfl, by decide +kernel, rfl, by decide +kernel, by decide +kernel⟩
theorem ok_build {CH CS f : Addr} {fd : FuncData} (C : ClsH K CH) (S : ClsS K CS) (me : Meth K CH "build" f) (F : C8.Fun K "build" "House.build" (hm 10) f fd) (b : Binds K fd ["self", "road"] []) (d__state : C8.Met P w K mg base 1 CH "_state" (spStateM CH CS) [])
    (d__turn : C8.Met P w K mg base 7 CH "_turn" (spTurn CH CS) []) (c_with_road : C8.Cal P w K mg base 3 "with_road" spWith []) : C8.Met P w K mg base 8 CH "build" (spBuild CH CS) [] := by
  refine C8.met0 C.cl me F b scBuild (fun vs H Q E h => ?_) (fun cdv A outer s H vs Q E hr h => ?_)
  · obtain ⟨a, h, p, rd, rv, rfl, _⟩ := h
    rfl
  obtain ⟨a, h, p, rd, rv, rfl, hv, hp, hrv, hrd, hno, hsl, hne, k⟩ := h
  have nd := scBuild.nd
  obtain ⟨⟨dx, L, E, as, es, ha, hL, len, hst, hE, le⟩, lt, few, ok, n7, st, s12⟩ := id hv
  have tw := (ok p (List.mem_of_getElem? hp)).1
  refine ⟨_, (pss_one (ps_ret (C8.pe_mt d__turn hr (by decide) (pv 0) (pa_cons (C8.pe_c c_with_road hr (by decide) rfl (pa_cons (pe_fld (C8.pe_mt0 d__state hr (by decide) (pv 0)) rfl) (pa_cons (pv 1) pa_nil))) (pa_cons (pe_tup (pa_cons pe_str (pa_cons (pv 1) pa_nil))) pa_nil))))), ?_⟩
  refine ⟨_, rfl, a, dx, _, rfl, ha, rfl, ?_⟩
  refine ⟨_, rfl, a, dx, _, rfl, ha, rfl, a, h, rfl, hv, fun b p' hp' ⟨dy, tv0, tbl0, sv, c, hb, town, _⟩ => ?_⟩
  rw [hp] at hp'
  injection hp' with hp'
  subst hp'
  refine ⟨b, CS, dy, _, _, rfl, hb, S.cl, S.town, rfl, _, rfl, h.n, p.1, rd, _, _, rfl, town, hrv, tw, Nat.le_trans (tw.few n7) (by decide), hrd, hno, fun v' H1 s1 t1 => ?_⟩
  refine ⟨_, rfl, by show 2 ≤ sizeLine; decide, fun q hq => ?_⟩
  refine new_ind hq (upd _ q _) rfl fun H2 s2 e2 => ?_
  have s02 := s1.trans s2
  exact ⟨a, h, ins p.1 rd, _, _, rfl, hv.mono s02, t1.mono s2, tw.ins hrd hno, hsl, hne, fun H3 o k3 hv3 => k H3 o (s02.kp.trans k3) hv3⟩
end Ev
end
section
/-! t[1::-1] of a tuple of three; (i, j) in (t, u), two pairs of numbers -/
namespace Ev
open PySem PySem.Spec PyProof.Rows L2
section
variable {prog : Program} {w : World} {A : Around} {E : Value → Shared → Prop} {s : Shared}
theorem applied_back {sl : Addr} {t1 t2 : Tok} {R : Int × Int × Nat → Shared → Prop} (hs : s.heap.IsSliceOf sl (.int 1 t1) .none (.int (-1) t2)) (h : R (1, -1, 2) s) : wpAny (model prog w) A (Builtin.Slice.sliceApplied (.ref sl) (pure ((3 : Nat) : Int))) R E s := by
  obtain ⟨ob, e1, e2, e3⟩ := id hs
  unfold Builtin.Slice.sliceApplied Builtin.Slice.sliceFields
  refine wpAny_bind (wpAny_bind (wpAny_field e1 e3 (x := .int 1 t1) rfl (wpAny_bind (wpAny_field e1 e3 (x := .none) rfl (wpAny_bind (wpAny_field e1 e3 (x := .int (-1) t2) rfl (wpAny_pure ?_)))))))
  refine wpAny_bind (slicePart_int ?_)
  change wpAny _ _ (if ((-1 : Int) == 0) = true then _ else _) _ _ s
  rw [if_neg (by decide)]
  refine wpAny_bind (slicePart_int (wpAny_bind (slicePart_none (wpAny_bind (wpAny_pure ?_)))))
  have adj : Builtin.Slice.sliceAdjust (some 1) none (-1) ((3 : Nat) : Int) = (1, -1) := by decide
  have pls : Builtin.Slice.slicePlaces 1 (-1) (-1) = 2 := by decide
  change wpAny _ _ (match Builtin.Slice.sliceAdjust (some 1) none (-1) ((3 : Nat) : Int) with | (lo, hi) => pure (lo, (-1 : Int), Builtin.Slice.slicePlaces lo hi (-1))) _ _ s
  rw [adj]
  change wpAny _ _ (pure ((1 : Int), (-1 : Int), Builtin.Slice.slicePlaces 1 (-1) (-1))) _ _ s
  rw [pls]
  exact wpAny_pure h
theorem getItem_back {t sl : Addr} {a b c : Value} {t1 t2 : Tok} {Q : Value → Shared → Prop} (ht : IsTup s.heap t #[a, b, c]) (hs : s.heap.IsSliceOf sl (.int 1 t1) .none (.int (-1) t2))
    (h : Q (.ref s.heap.objs.size) { s with heap := s.heap.push { cls := .type "tuple", data := .seq [b, a].toArray } }) : wpAny (model prog w) A (getItem (.ref t) (.ref sl)) Q E s := by
  obtain ⟨ob, e1, e2, e3⟩ := id hs
  have ty : s.TypeIs (.ref sl) "slice" := ⟨ob, e1, e2⟩
  have ok : sizeOk (.seq [b, a].toArray) := by
    show 2 ≤ sizeLine
    decide
  unfold getItem
  try with_reducible refine wpAny_holding ?_
  first | refine wpAny_bind (wpAny_pure ?_) | skip
  refine wpAny_bind (wpAny_sequenceKey ht.typeIs (by decide) ?_)
  refine wpAny_bind (wpAny_callSpecial?_slot (name := Str.ofString "__getitem__") ht.typeIs PyProof.Rows.slot_tuple_getitem (wpAny_call_entry PyProof.Rows.slot_tuple_getitem ht.typeIs entry_tuple_getitem ?_ (args_tuple_getitem _ _)))
  change wpAny _ _ (Builtin.Tuple.tupleItemsOf (.ref t) >>= _) _ _ s
  refine wpAny_bind (tupleItemsOf_ ht ?_)
  refine wpAny_bind (wpAny_typeOf ty ?_)
  rw [if_pos (by decide)]
  refine wpAny_bind (applied_back hs ?_)
  change wpAny _ _ (if ((1 : Int) == 0 && (-1 : Int) == 1 && (2 : Nat) == 3) = true then _ else _) _ _ s
  rw [if_neg (by decide)]
  have ep : ((List.range 2).filterMap fun (k : Nat) => (#[a, b, c] : Array Value)[((1 : Int) + (k : Int) * (-1)).toNat]?).toArray = [b, a].toArray := by
    rw [show List.range 2 = [0, 1] from rfl]
    rfl
  rw [ep]
  first
    | exact wpAny_bind (m := Builtin.Tuple.tupleExact _) (wpAny_newObj_type (wpAny_pure ⟨_, rfl, wpAny_pure h⟩) ok)
    | exact wpAny_bind (m := Builtin.Tuple.tupleExact _) (wpAny_newObj_type (wpAny_bind (wpAny_pure (wpAny_pure ⟨_, rfl, wpAny_pure h⟩))) ok)
    | exact wpAny_bind (wpAny_bind (m := Builtin.Tuple.tupleExact _) (wpAny_newObj_type (wpAny_pure (wpAny_pure ⟨_, rfl, wpAny_pure h⟩)) ok))
    | exact wpAny_bind (wpAny_bind (m := Builtin.Tuple.tupleExact _) (wpAny_newObj_type (wpAny_pure ⟨_, rfl, wpAny_pure h⟩) ok))
end
section
variable {X : Cx} {K : PySem.W.Frag}
theorem vals3 : ∀ {x y z : V} {us : List Value}, Vals [x, y, z] us → ∃ a b c, us = [a, b, c] ∧ RelV x a ∧ RelV y b ∧ RelV z c
  | _, _, _, _, .cons r0 (.cons r1 (.cons r2 .nil)) => ⟨_, _, _, rfl, r0, r1, r2⟩
def tBack (K : PySem.W.Frag) (te : TE) (tl ts : TO) : TE := fun σ H Q => te σ H fun x H1 => tl σ H1 fun l H2 => ts σ H2 fun st H3 => l = some 1 ∧ st = some (-1) ∧ ∃ a y0 y1 y2, x = .ref a ∧ SqT K H3 a [y0, y1, y2] ∧ ∀ p, H3 p = none → Q (.ref p) (upd H3 p (.tup [y1, y0]))
theorem pe_back {e st : Expr} {lo : Option Expr} {te : TE} {tl ts : TO} {p2 pos : Pos} (eK : X.K = K) (he : PE X e te) (hl : PO X lo tl) (hs : PO X (some st) ts) : PE X (.Subscript e (.Slice lo none (some st) p2) pos) (tBack K te tl ts) := by
  subst eK
  refine ⟨fun pins s σ H Q I h => ?_⟩
  refine Subscript_ (thn (he.run pins s σ H _ I h) fun v s1 ⟨x, H1, I1, r1, q1⟩ => ?_)
  refine wpAny_Slice (thn (hl.run pins s1 σ H1 _ I1 q1) fun vl s2 ⟨l, H2, I2, pl, q2⟩ => ?_)
  rw [evalPart_none]
  refine wpAny_pure (thn (hs.run pins s2 σ H2 _ I2 q2) fun vs s3 ⟨u, H3, I3, pu, el, eu, a, y0, y1, y2, ex, ht, q3⟩ => ?_)
  subst el
  subst eu
  subst ex
  cases r1
  cases pl with
  | int _ t1 =>
    cases pu with
    | int _ t2 =>
      have I4 : Inv X pins σ H3 { s3 with heap := s3.heap.push { cls := .type "slice", data := .fields #[.int 1 t1, .none, .int (-1) t2] } } := I3.kept (t' := s3.toks) fun b ob q => Heap.get?_push_of_some _ q
      obtain ⟨its, rv, p4, _⟩ := I4.tuple ht
      obtain ⟨a0, a1, a2, e3, r0, r1, _⟩ := vals3 rv
      subst e3
      · change wpAny (model X.prog X.w) X.A (subscriptTail e (.Slice lo none (some st) p2) (.ref a) (.ref s3.heap.objs.size)) (EP X pins σ Q) X.xe { s3 with heap := s3.heap.push { cls := .type "slice", data := .fields #[.int 1 t1, .none, .int (-1) t2] } }
        refine tail_any (ops := [.ref a, .ref s3.heap.objs.size]) p4.typeIs PyProof.Rows.slot_tuple_getitem.lookup ?_ (by with_unfolding_all rfl)
        refine getItem_back p4 ⟨_, Heap.get?_push_size _ rfl, rfl, rfl⟩ ?_
        exact ⟨.ref (s3.heap.push _).objs.size, _, I4.laid (t' := s3.toks) (o := .tup [y1, y0]) (fun b ob q => Heap.get?_push_of_some _ q) (Nat.le_refl _) ⟨by show 2 ≤ sizeLine; decide, [a1, a0], .cons r1 (.cons r0 .nil), IsTup.new _ _⟩, rfl, q3 _ (I4.hok.fresh (Nat.le_refl _))⟩
end
end Ev
end
section
/-! (i, j) in (t, u), two pairs of numbers -/
namespace Ev
open PySem PySem.Spec PyProof.Rows L2
section
variable {X : Cx} {K : PySem.W.Frag}
/-- (i, j) in (t, u) -/
def rIn2 (K : PySem.W.Frag) : R2 := fun x y H Q => ∃ (i j k l m n : Nat) (a t b c : Addr), x = .ref a ∧ y = .ref t ∧ SqT K H a [nV i, nV j] ∧ SqT K H t [.ref b, .ref c] ∧ SqT K H b [nV k, nV l] ∧ SqT K H c [nV m, nV n] ∧ Q (.bl (decide (k = i ∧ l = j) || decide (m = i ∧ n = j))) H
theorem eqv2 (a b c d : Nat) : PyData.eqv (.tuple (dN [a, b])) (.tuple (dN [c, d])) = decide (a = c ∧ b = d) := by
  show PyData.eqvAll (dN [a, b]) (dN [c, d]) = _
  rw [eqvAll_nats]
  simp
theorem kop_in2 (e : X.K = K) (hu : X.A.units + 64 < cLine) : OpR X (compareOp .In) (rIn2 K) := by
  subst e
  intro pins s σ H x y v u Q I rx ry h
  obtain ⟨i, j, k, l, m, n, a, t, b, c, rfl, rfl, ha, ht, hb, hc, q⟩ := h
  obtain ⟨as, r1⟩ := Dp.reads I (.tuple (dN [i, j])) (.ref a) v (.tup ha (dp_nats [i, j])) rx
  obtain ⟨bs, r2⟩ := Dp.reads I (.tuple [.tuple (dN [k, l]), .tuple (dN [m, n])]) (.ref t) u (.tup ht (.cons (.tup hb (dp_nats [k, l])) (.cons (.tup hc (dp_nats [m, n])) .nil))) ry
  have d1 := dep_nats [i, j]
  have e2 : ([PyData.tuple (dN [k, l]), .tuple (dN [m, n])].any fun z => PyData.eqv z (.tuple (dN [i, j]))) = (decide (k = i ∧ l = j) || decide (m = i ∧ n = j)) := by
    rw [List.any_cons, List.any_cons, List.any_nil, Bool.or_false, eqv2, eqv2]
  refine SeqAt.in_tuple_reads r2 r1 ?_ ?_ ?_ ⟨.bl _, H, I, ?_, q⟩
  · have h1 := lay_nats [k, l]
    have h2 := lay_nats [m, n]
    show (PyData.canLayAll0 (dN [k, l]) && (PyData.canLayAll0 (dN [m, n]) && true)) = true
    rw [h1, h2]
    rfl
  · exact lay_nats [i, j]
  · have d2 : (PyData.tuple (dN [i, j])).depth ≤ 2 := by
      show PyData.depthAll (dN [i, j]) + 1 ≤ 2
      exact Nat.succ_le_succ d1
    have d3 := Nat.min_le_right (PyData.depthAll [PyData.tuple (dN [k, l]), .tuple (dN [m, n])]) (PyData.tuple (dN [i, j])).depth
    generalize min (PyData.depthAll [PyData.tuple (dN [k, l]), .tuple (dN [m, n])]) (PyData.tuple (dN [i, j])).depth = z at d3 ⊢
    generalize (PyData.tuple (dN [i, j])).depth = y at d2 d3
    omega
  · rw [e2]
    rfl
end
end Ev
end
section
namespace Ev
open PySem L2
variable {P : Program} {w : World} {K : PySem.W.Frag} {mg : Str → Option Value} {base : Heap}

/-! ### shut -/
def spShut (CH CS : Addr) : Sp := fun vs H Q _ => ∃ (a : Addr) (h : Hs) (p : List Road × Option Nat) (i : Nat) (rd : Road) (u v : Nat), vs = [.ref a, nV u, nV v] ∧ HouseV CH CS H a h ∧ h.sts[h.i]? = some p ∧ p.1[i]? = some rd ∧ ((u = rd.1 ∧ v = rd.2.1) ∨ (u = rd.2.1 ∧ v = rd.1)) ∧
  h.sts.length < 1000 ∧ h.ne < 1000 ∧ ∀ H' o, Kp a H H' → HouseV CH CS H' a (h.next (p.1.eraseIdx i, o)) → Q (.bl (decide (oV o = V.non))) H'
theorem scShut : FnScope ["self", "first", "second", "town", "are_places", "at", "road"] ["self", "first", "second"] (C8.fnScope (hm 9)) := ⟨rfl, rfl, rfl, by decide +kernel, rfl, by decide +kernel, by decide +kernel⟩
theorem within_yes {x n : Nat} (h : x < n) : (decide ((0 : Int) ≤ (x : Int)) && decide ((x : Int) ≤ (n : Int) - 1)) = true := by
  rw [decide_eq_true (by omega), decide_eq_true (by omega)]
  rfl
theorem ok_shut {CH CS f : Addr} {fd : FuncData} (C : ClsH K CH) (S : ClsS K CS) (me : Meth K CH "shut" f) (F : C8.Fun K "shut" "House.shut" (hm 9) f fd) (b : Binds K fd ["self", "first", "second"] []) (T : Txt K mg) (d__state : C8.Met P w K mg base 1 CH "_state" (spStateM CH CS) [])
    (d__turn : C8.Met P w K mg base 7 CH "_turn" (spTurn CH CS) []) (c_is_within : C8.Cal P w K mg base 1 "is_within" spWithin []) (c_without_road : C8.Cal P w K mg base 1 "without_road" spWithout []) : C8.Met P w K mg base 8 CH "shut" (spShut CH CS) [] := by
  refine C8.met0 C.cl me F b scShut (fun vs H Q E h => ?_) (fun cdv A outer s H vs Q E hr h => ?_)
  · obtain ⟨a, h, p, i, rd, u, v, rfl, _⟩ := h
    rfl
  obtain ⟨a, h, p, i, rd, u, v, rfl, hv, hp, hrd, huv, hsl, hne, k⟩ := h
  have nd := scShut.nd
  obtain ⟨⟨dx, L, E, as, es, ha, hL, len, hst, hE, le⟩, lt, few, ok, n7, st, s12⟩ := id hv
  have tw := (ok p (List.mem_of_getElem? hp)).1
  have okr := tw.ok rd (List.mem_of_getElem? hrd)
  have hu : u < h.n ∧ v < h.n := by omega
  refine ⟨_, (pss_cons (ps_set (i := 3) nd rfl (by first | exact .inl rfl | exact .inr rfl) (pe_fld (C8.pe_mt0 d__state hr (by decide) (pv 0)) rfl))
 (pss_cons (ps_set (i := 4) nd rfl (by first | exact .inl rfl | exact .inr rfl) (pe_and (C8.pe_c c_is_within hr (by decide) rfl (pa_cons (pv 1) (pa_cons pe_int (pa_cons (pe_op op_sub (pe_ix (kix_tup (K := K) rfl) (pv 3) pe_int (fun _ _ => rfl)) pe_int) pa_nil)))) (pe_one (C8.pe_c c_is_within hr (by decide) rfl (pa_cons (pv 2) (pa_cons pe_int (pa_cons (pe_op op_sub (pe_ix (kix_tup (K := K) rfl) (pv 3) pe_int (fun _ _ => rfl)) pe_int) pa_nil)))))))
 (pss_cons (ps_for PassesOwn.never rfl (kpi_enum (K := K) rfl (by rfl) T.n_enumerate (pa_cons (pe_ix (kix_tup (K := K) rfl) (pv 3) pe_int (fun _ _ => rfl)) pa_nil)) (kpg_tup (K := K) (n := 2) rfl rfl (pgs_cons (pg_name (i := 5) nd rfl (by first | exact .inl rfl | exact .inr rfl)) (pgs_cons (pg_name (i := 6) nd rfl (by first | exact .inl rfl | exact .inr rfl)) pgs_nil)))
 (pss_one (ps_if (PW.pt (pw_and (kpt_truth (K := K) rfl (pv 4) (by intro _; rfl)) (pw_and1 (pt_cmpR (kop_in2 (K := K) rfl hr.units) (pe_tup (pa_cons (pv 1) (pa_cons (pv 2) pa_nil))) (pe_tup (pa_cons (pe_slice (ksl_tupA (K := K) rfl) (pv 6) po_none (po_some pe_int)) (pa_cons (pe_back (K := K) rfl (pv 6) (po_some pe_int) (po_some (pe_un un_neg pe_int))) pa_nil))) (by rfl)))))
 (pss_one (ps_ret (C8.pe_mt d__turn hr (by decide) (pv 0) (pa_cons (C8.pe_c c_without_road hr (by decide) rfl (pa_cons (pv 3) (pa_cons (pv 5) pa_nil))) (pa_cons (pe_tup (pa_cons pe_str (pa_cons (pv 1) (pa_cons (pv 2) pa_nil)))) pa_nil)))))
 pss_nil)))
 (pss_one ps_never)))), ?_⟩
  refine ⟨_, rfl, a, dx, _, rfl, ha, rfl, a, h, rfl, hv, fun b p' hp' ⟨dy, tv0, tbl0, sv, c, hb, town, _⟩ => ?_⟩
  rw [hp] at hp'
  injection hp' with hp'
  subst hp'
  obtain ⟨ta, tr, rfl, hta, l, xs, rfl, hl, hx⟩ := id town
  refine ⟨b, CS, dy, _, _, rfl, hb, S.cl, S.town, rfl, ?_⟩
  refine ⟨_, rfl, _, rfl, ta, _, 0, _, rfl, rfl, SqT.of hta, rfl, _, _, rfl, rfl, (u : Int), 0, (h.n : Int) - 1, rfl, ?_⟩
  rw [within_yes hu.1]
  refine ⟨true, rfl, ?_⟩
  refine if_t ?_
  refine ⟨_, rfl, _, rfl, ta, _, 0, _, rfl, rfl, SqT.of hta, rfl, _, _, rfl, rfl, (v : Int), 0, (h.n : Int) - 1, rfl, ?_⟩
  rw [within_yes hu.2]
  refine ⟨_, rfl, ta, _, 1, _, rfl, rfl, SqT.of hta, rfl, l, xs, rfl, SqL.of hl, ?_⟩
  have lx := Paired.len hx
  rw [List.length_map] at lx
  have hil := (List.getElem?_eq_some_iff.mp hrd).1
  refine for_enum (K := K) (a := l) (xs := xs) (fun j σ H' => Same H H' ∧ j ≤ i ∧ ∃ x5 x6, σ = [some (.ref a), some (nV u), some (nV v), some (.ref ta), some (.bl true), x5, x6])
    ⟨Same.refl H, Nat.zero_le _, _, _, rfl⟩ (fun j σ H' _ q => SqL.of (q.1 _ _ hl)) ?_ ?_
  · rintro j x t σ H1 hj ⟨s1, hji, x5, x6, rfl⟩ ht
    obtain ⟨y, hy, q, rfl, hq⟩ := Paired.at_ hx hj
    rw [List.getElem?_map] at hy
    obtain ⟨r, hr2, rfl⟩ := Option.map_eq_some_iff.mp hy
    refine new_ind ht (upd _ t _) rfl fun H2 s2 e2 => ?_
    have s02 := s1.trans s2
    have hq2 := s02 _ _ hq
    refine ⟨t, _, rfl, SqT.of e2, rfl, _, _, rfl, _, _, rfl, rfl, ?_⟩
    refine ⟨_, rfl, true, rfl, ?_⟩
    refine if_t ?_
    refine ⟨_, rfl, _, rfl, by show 2 ≤ sizeLine; decide, fun m hm => ?_⟩
    refine new_ind hm (upd _ m _) rfl fun H3 s3 e3 => ?_
    refine ⟨_, rfl, _, rfl, slT2 (s3 _ _ hq2) fun m2 hm2 => ?_⟩
    refine new_ind hm2 (upd _ m2 _) rfl fun H4 s4 e4 => ?_
    have hq4 := s4 _ _ (s3 _ _ hq2)
    refine ⟨_, rfl, _, rfl, 1, rfl, _, rfl, rfl, rfl, q, _, _, _, rfl, SqT.of hq4, fun m3 hm3 => ?_⟩
    refine new_ind hm3 (upd _ m3 _) rfl fun H5 s5 e5 => ?_
    refine ⟨by show 2 ≤ sizeLine; decide, fun m4 hm4 => ?_⟩
    refine new_ind hm4 (upd _ m4 _) rfl fun H6 s6 e6 => ?_
    refine ⟨u, v, r.1, r.2.1, r.2.1, r.1, m, m4, m2, m3, rfl, rfl, SqT.of (s6 _ _ (s5 _ _ (s4 _ _ e3))), SqT.of e6, SqT.of (s6 _ _ (s5 _ _ e4)), SqT.of (s6 _ _ e5), _, rfl, ite_b (fun c1 => ?_) (fun c1 => ?_)⟩
    · have s06 := s02.trans (s3.trans (s4.trans (s5.trans s6)))
      have okj := tw.ok r (List.mem_of_getElem? hr2)
      have same : r.1 = rd.1 ∧ r.2.1 = rd.2.1 := by
        rcases Bool.or_eq_true_iff.mp c1 with c1 | c1
        · have := of_decide_eq_true c1
          omega
        · have := of_decide_eq_true c1
          omega
      have ej : j = i := asc_at tw.asc hr2 hrd same
      subst ej
      have ha6 := s06 _ _ ha
      refine ⟨_, rfl, a, dx, _, rfl, ha6, rfl, ?_⟩
      refine ⟨_, rfl, _, rfl, h.n, j, p.1, _, rfl, town.mono s06, Nat.le_trans (tw.few n7) (by decide), fun v' H7 s7 t7 => ?_⟩
      refine ⟨_, rfl, _, rfl, by show 3 ≤ sizeLine; decide, fun m5 hm5 => ?_⟩
      refine new_ind hm5 (upd _ m5 _) rfl fun H8 s8 e8 => ?_
      have s08 := s06.trans (s7.trans s8)
      exact ⟨a, h, p.1.eraseIdx j, _, _, rfl, hv.mono s08, t7.mono s8, tw.erase j, hsl, hne, fun H9 o k9 hv9 => k H9 o (s08.kp.trans k9) hv9⟩
    · refine ⟨s02.trans (s3.trans (s4.trans (s5.trans s6))), ?_, _, _, rfl⟩
      rcases Nat.lt_or_ge j i with lt1 | ge1
      · exact lt1
      · have ej : j = i := by omega
        subst ej
        rw [hrd] at hr2
        injection hr2 with hr2
        subst hr2
        rw [Bool.or_eq_false_iff] at c1
        have a1 := of_decide_eq_false c1.1
        have a2 := of_decide_eq_false c1.2
        omega
  · rintro σ H1 ⟨s1, hji, _⟩
    omega
end Ev
end
section
namespace Ev
open PySem L2
variable {P : Program} {w : World} {K : PySem.W.Frag} {mg : Str → Option Value} {base : Heap}

/-! ### House.__init__ -/
def spHouse (CH CS : Addr) : Sp := fun vs H Q _ => ∃ (a dx n reach : Nat) (one : Bool) (rs : List Road) (tv sv : V) (s : List Nat), vs = [.ref a, tv, sv, ruleV one, nV reach] ∧ H a = some (.ins CH dx []) ∧ TownV H tv n rs ∧ Town n rs ∧ 1 ≤ n ∧ n ≤ 7 ∧ TupN H sv s ∧ Stand n s.length s ∧ 1 ≤ s.length ∧ s.length ≤ 2 ∧
  ∀ H' o, Kp a H H' → HouseV CH CS H' a ⟨one, reach, n, s, [(rs, o)], 0, 0⟩ → Q .non H'
theorem scHouse : FnScope ["self", "town", "stand", "rule", "reach", "own"] ["self", "town", "stand", "rule", "reach"] (C8.fnScope (hm 0)) := ⟨rfl, rfl, rfl, by decide +kernel, rfl, by decide +kernel, by decide +kernel⟩
theorem ok_House {CH CS f : Addr} {fd : FuncData} (C : ClsH K CH) (S : ClsS K CS) (F : C8.Fun K "__init__" "House.__init__" (hm 0) f fd) (c_check_town : C8.Cal P w K mg base 3 "check_town" spCheck []) (c_is_stand : C8.Cal P w K mg base 2 "is_stand" spIsStand [])
    (m_State : C8.Mak P w K mg base 1 "State" CS (spState CS) []) (d__table : C8.Met P w K mg base 6 CH "_table" (spTable CH) []) : FnOk P w K mg base C8.CX0 7 f fd ["self", "town", "stand", "rule", "reach"] (spHouse CH CS) := by
  refine C8.fn0 F scHouse (fun vs H Q E h => ?_) (fun cdv A outer s H vs Q E hr h => ?_)
  · obtain ⟨a, dx, n, reach, one, rs, tv, sv, s, rfl, _⟩ := h
    rfl
  obtain ⟨a, dx, n, reach, one, rs, tv, sv, s, rfl, ha, town, tw, h1, h7, hs, st, l1, l2, k⟩ := h
  have nd := scHouse.nd
  refine ⟨_, (pss_cons (ps_expr (C8.pe_c c_check_town hr (by decide) rfl (pa_cons (pv 1) pa_nil)))
 (pss_cons (ps_if (pt_not (pt_val (C8.pe_c c_is_stand hr (by decide) rfl (pa_cons (pv 1) (pa_cons (pv 2) pa_nil))) (by intro _; rfl)))
 (pss_one ps_never)
 pss_nil)
 (pss_cons (ps_fld (pv 0) (pv 3) rfl)
 (pss_cons (ps_fld (pv 0) (pv 4) rfl)
 (pss_cons (ps_set (i := 5) nd rfl (by first | exact .inl rfl | exact .inr rfl) (pe_tup (pa_cons (pe_ix (kix_tup (K := K) rfl) (pv 1) pe_int (fun _ _ => rfl)) (pa_cons (pe_lst (StX.pa_star (pe_ix (kix_tup (K := K) rfl) (pv 1) pe_int (fun _ _ => rfl)) pa_nil)) pa_nil))))
 (pss_cons (ps_fld (pv 0) (pe_lst (pa_cons (C8.pe_mk m_State hr (by decide) rfl (pa_cons (pv 5) (pa_cons (C8.pe_mt d__table hr (by decide) (pv 0) (pa_cons (pv 5) (pa_cons (pv 2) pa_nil))) (pa_cons (pv 2) (pa_cons (pe_lst pa_nil) (pa_cons pe_int pa_nil)))))) pa_nil)) rfl)
 (pss_cons (ps_fld (pv 0) pe_int rfl)
 (pss_one (ps_fld (pv 0) (pe_lst pa_nil) rfl))))))))), ?_⟩
  refine ⟨_, rfl, n, rs, _, rfl, town, tw, h1, h7, fun H1 s1 => ?_⟩
  refine ⟨_, rfl, _, rfl, n, s.length, rs, s, _, _, rfl, town.mono s1, hs.mono s1.tup, st, l1, l2, fun H2 s2 => ⟨true, rfl, ?_⟩⟩
  refine if_f ?_
  have s02 := s1.trans s2
  refine ⟨_, rfl, _, rfl, a, CH, dx, _, rfl, s02 _ _ ha, C.cl, C.rule, (show 0 < 1000 from by decide), ?_⟩
  refine put_ind (upd _ a _) rfl fun H3 k3 e3 => ?_
  refine ⟨_, rfl, _, rfl, a, CH, dx, _, rfl, e3, C.cl, C.reach, (show 1 < 1000 from by decide), ?_⟩
  refine put_ind (upd _ a _) rfl fun H4 k4 e4 => ?_
  have kp4 : Kp a H H4 := fun b o nb q => by
    rw [k4 b nb, k3 b nb]
    exact s02 _ _ q
  have kl4 := kp4.l ha
  have town4 := town.keepL kl4
  have hs4 := hs.keep kl4
  obtain ⟨ta, tr, rfl, hta, l, xs, rfl, hl, hx⟩ := id town4
  have lx := Paired.len hx
  rw [List.length_map] at lx
  have fw := tw.few h7
  refine ⟨_, rfl, ta, _, 0, _, rfl, rfl, SqT.of hta, rfl, ?_⟩
  refine ⟨_, rfl, ta, _, 1, _, rfl, rfl, SqT.of hta, rfl, l, xs, rfl, .inr (SqL.of hl), short (by rw [List.append_nil]; omega), fun q hq => ?_⟩
  refine new_ind hq (upd _ q _) rfl fun H5 s5 e5 => ?_
  rw [List.append_nil] at e5
  refine ⟨by show 2 ≤ sizeLine; decide, fun r hr => ?_⟩
  refine new_ind hr (upd _ r _) rfl fun H6 s6 e6 => ?_
  have own : TownV H6 (.ref r) n rs := ⟨r, .ref q, rfl, e6, q, xs, rfl, s6 _ _ e5, hx.mono (s5.trans s6).tup⟩
  have ha6 := s6 _ _ (s5 _ _ e4)
  have hs6 := hs4.mono (s5.trans s6).tup
  refine ⟨_, rfl, _, rfl, a, dx, _, rfl, ha6, rfl, _, rfl, _, rfl, ?_⟩
  refine ⟨a, dx, _, n, s.length, reach, rs, one, .ref r, sv, s, rfl, ha6, rfl, rfl, own, tw, Nat.le_trans fw (by decide), h7, l1, l2, hs6, rfl, fun v' H7 f s7 rv rk => ?_⟩
  refine ⟨_, rfl, by show 0 ≤ sizeLine; decide, fun c hc => ?_⟩
  refine new_ind hc (upd _ c _) rfl fun H8 s8 e8 => ?_
  refine fun x dz hx8 hz nzx => ?_
  have sx : Same H8 (upd (upd H8 dz (.own x)) x (.ins CS dz [])) := ((Same.refl H8).put hz _).put hx8 _
  have ex : (upd (upd H8 dz (.own x)) x (.ins CS dz [])) x = some (.ins CS dz []) := upd_same
  generalize upd (upd H8 dz (.own x)) x (.ins CS dz []) = H9 at sx ex ⊢
  have s69 := s7.trans (s8.trans sx)
  refine ⟨x, dz, .ref r, v', sv, .ref c, nV 0, stands n s.length, f, s, rfl, ex, rv.mono (s8.trans sx), hs6.mono s69.tup, mem_stands.mpr st, fun H10 k10 e10 => ⟨rfl, ?_⟩⟩
  have s610 : Same H6 H10 := fun b o q => k10 b o (ne_of_none ((s7.trans s8) _ _ q) hx8) (s69 _ _ q)
  have nxc : c ≠ x := ne_of_none e8 hx8
  have hs10 : StAt CS H10 x n rs s (f s) := ⟨dz, .ref r, v', sv, c, e10, own.mono s610, hs6.mono s610.tup, k10 c _ nxc (sx _ _ e8)⟩
  have ha10 := s610 _ _ ha6
  refine ⟨by show 1 ≤ sizeLine; decide, fun L hL => ?_⟩
  refine new_ind hL (upd _ L _) rfl fun H11 s11 e11 => ?_
  have ha11 := s11 _ _ ha10
  refine ⟨_, rfl, a, CH, dx, _, rfl, ha11, C.cl, C.states, (show 2 < 1000 from by decide), ?_⟩
  refine put_ind (upd _ a _) rfl fun H12 k12 e12 => ?_
  refine ⟨_, rfl, a, CH, dx, _, rfl, e12, C.cl, C.at_, (show 3 < 1000 from by decide), ?_⟩
  refine put_ind (upd _ a _) rfl fun H13 k13 e13 => ?_
  refine ⟨by show 0 ≤ sizeLine; decide, fun E hE => ?_⟩
  refine new_ind hE (upd _ E _) rfl fun H14 s14 e14 => ?_
  refine ⟨_, rfl, a, CH, dx, _, rfl, s14 _ _ e13, C.cl, C.entries, (show 4 < 1000 from by decide), ?_⟩
  refine put_ind (upd _ a _) rfl fun H15 k15 e15 => ?_
  have kp11 : Kp a H11 H15 := fun b o nb q => by
    rw [k15 b nb]
    exact s14 _ _ (by rw [k13 b nb, k12 b nb]; exact q)
  have kp : Kp a H H15 := fun b o nb q => kp11 b o nb (s11 _ _ (s610 _ _ (s6 _ _ (s5 _ _ (kp4 b o nb q)))))
  have nL : L ≠ a := by
    rintro rfl
    rw [ha10] at hL
    cases hL
  have nE : E ≠ a := by
    rintro rfl
    rw [e13] at hE
    cases hE
  have nx : x ≠ a := by
    rintro rfl
    rw [(s7.trans s8) _ _ ha6] at hx8
    cases hx8
  refine k H15 (f s) kp ⟨⟨dx, L, E, [x], [], e15.trans rfl, kp11 L _ nL e11, rfl, fun i b p hb hp => ?_, ?_, Nat.le_refl _⟩, Nat.one_pos, ⟨by show 1 ≤ 1000; omega, Nat.zero_le _⟩, fun p hp => ?_, h7, st, ⟨l1, l2⟩⟩
  · match i, hb, hp with
    | 0, hb, hp =>
      injection hb with hb
      injection hp with hp
      subst hb
      subst hp
      have kl : KeepL H10 H15 := fun b o q e => kp11 b o (by
        rintro rfl
        rw [ha10] at e
        injection e with e
        subst e
        exact q) (s11 _ _ e)
      exact hs10.mono kl (by rw [kp11 x _ nx (s11 _ _ e10), e10])
  · rw [k15 E nE]
    exact e14
  · have : p = (rs, f s) := by simpa using hp
    subst this
    exact ⟨tw, rk s st⟩
end Ev
end
section
namespace Ev
open PySem L2
variable {P : Program} {w : World} {K : PySem.W.Frag} {mg : Str → Option Value} {base : Heap}

/-! ### _law_value -/
def spValue : Sp := fun vs H Q _ => ∃ o : Option Nat, vs = [oV o] ∧ Q (nV (val o)) H
theorem scValue : FnScope ["_law_rank_here"] ["_law_rank_here"] (C8.fnScope (top 51)) := ⟨rfl, rfl, rfl, by decide +kernel, rfl, by decide +kernel, by decide +kernel⟩
theorem ok_law_value {f : Addr} {fd : FuncData} (F : C8.Def K mg "_law_value" (top 51) f fd) (b : Binds K fd ["_law_rank_here"] []) : C8.Cal P w K mg base 1 "_law_value" spValue [] := by
  refine C8.cal0 F b .nil scValue (fun vs H Q E h => ?_) (fun cdv A outer s H vs Q E hr h => ?_)
  · obtain ⟨o, rfl, _⟩ := h
    rfl
  obtain ⟨o, rfl, k⟩ := h
  have nd := scValue.nd
  refine ⟨_, (pss_cons (ps_if (pt_cmpR op_isN (pv 0) pe_non (nomark _))
 (pss_one (ps_ret pe_int))
 pss_nil)
 (pss_one (ps_ret (pv 0)))), ?_⟩
  cases o with
  | none => exact ⟨_, rfl, rfl, _, rfl, k⟩
  | some r => exact ⟨_, rfl, rfl, _, rfl, _, rfl, k⟩

theorem Paired.perm {α β : Type} {F : α → β → Prop} {xs ys : List α} (p : xs.Perm ys) : ∀ {ss : List β}, Paired F xs ss → ∃ ts, ts.Perm ss ∧ Paired F ys ts := by
  induction p with
  | nil => exact fun {ss} h => ⟨ss, .refl _, h⟩
  | cons x _ ih =>
    intro ss h
    cases h with
    | cons r t =>
      obtain ⟨ts, p, q⟩ := ih t
      exact ⟨_, p.cons _, .cons r q⟩
  | swap x y l =>
    intro ss h
    cases h with
    | cons r t =>
      cases t with
      | cons r2 t2 => exact ⟨_, List.Perm.swap _ _ _, .cons r2 (.cons r t2)⟩
  | trans _ _ i1 i2 =>
    intro ss h
    obtain ⟨ts, p, q⟩ := i1 h
    obtain ⟨us, p2, q2⟩ := i2 q
    exact ⟨us, p2.trans p, q2⟩

/-! ### _law_stands -/
def spLStands : Sp := fun vs H Q _ => ∃ n h : Nat, vs = [nV n, nV h] ∧ n ≤ 7 ∧ 1 ≤ h ∧ h ≤ 2 ∧ ∀ v' H' ss, Same H H' → ss.Perm (stands n h) → LstT H' v' ss → Q v' H'
theorem scLStands : FnScope ["_law_places", "_law_helpers", "_law_found", "_law_turn", "_law_longer", "_law_stand", "_law_place"] ["_law_places", "_law_helpers"] (C8.fnScope (top 45)) := ⟨rfl, rfl, rfl, by decide +kernel, rfl, by decide +kernel, by decide +kernel⟩
theorem ok_law_stands {f : Addr} {fd : FuncData} (F : C8.Def K mg "_law_stands" (top 45) f fd) (b : Binds K fd ["_law_places", "_law_helpers"] []) (T : Txt K mg) : C8.Cal P w K mg base 1 "_law_stands" spLStands [] := by
  refine C8.cal0 F b .nil scLStands (fun vs H Q E h => ?_) (fun cdv A outer s H vs Q E hr h => ?_)
  · obtain ⟨n, h, rfl, _⟩ := h
    rfl
  obtain ⟨n, h, rfl, hn, h1, h2, k⟩ := h
  have nd := scLStands.nd
  refine ⟨_, (pss_cons (ps_set (i := 2) nd rfl (by first | exact .inl rfl | exact .inr rfl) (pe_lst (pa_cons (pe_tup pa_nil) pa_nil)))
 (pss_cons (ps_for PassesOwn.never rfl (pi_range1 (by rfl) T.n_range (pa_cons (pv 1) pa_nil)) (pg_name (i := 3) nd rfl (by first | exact .inl rfl | exact .inr rfl))
 (pss_cons (ps_set (i := 4) nd rfl (by first | exact .inl rfl | exact .inr rfl) (pe_lst pa_nil))
 (pss_cons (ps_for PassesOwn.never rfl (kpi_list (K := K) rfl (pv 2)) (pg_name (i := 5) nd rfl (by first | exact .inl rfl | exact .inr rfl))
 (pss_one (ps_for PassesOwn.never rfl (pi_range1 (by rfl) T.n_range (pa_cons (pv 0) pa_nil)) (pg_name (i := 6) nd rfl (by first | exact .inl rfl | exact .inr rfl))
 (pss_one (ps_if (PW.pt (pw_or (pt_cmpR op_eq (pe_callB (kcr_len (K := K) rfl) (by rfl) T.n_len bb_len (pa_cons (pv 5) pa_nil)) pe_int (nomark _)) (pw_or1 (pt_cmpR op_le (pe_ix (kix_tup (K := K) rfl) (pv 5) (pe_un un_neg pe_int) (fun _ _ => rfl)) (pv 6) (nomark _)))))
 (pss_one (ps_expr (pe_bm PySem.F.plainAttrs_list PySem.F.slot_list_append PySem.F.type_list_append mt_append (pv 4) (pa_cons (pe_op (kop_catA (K := K) rfl) (pv 5) (pe_tup (pa_cons (pv 6) pa_nil))) pa_nil))))
 pss_nil)))))
 (pss_one (ps_set (i := 2) nd rfl (by first | exact .inl rfl | exact .inr rfl) (pv 4))))))
 (pss_one (ps_ret (pe_callB (cr_sortT (d := h) (B := 7) h1) (by rfl) T.n_sorted bb_sorted (pa_cons (pv 2) pa_nil)))))), ?_⟩
  refine ⟨by show 0 ≤ sizeLine; decide, fun p hp => ?_⟩
  refine new_ind hp (upd _ p _) rfl fun H1 s1 e1 => ?_
  refine ⟨by show 1 ≤ sizeLine; decide, fun F0 hF0 => ?_⟩
  refine new_ind hF0 (upd _ F0 _) rfl fun H2 s2 e2 => ?_
  refine ⟨_, rfl, (h : Int), rfl, by omega, by omega, ?_⟩
  refine for_range (lo := 0) (n := h) (fun t σ H' => Same H H' ∧ ∃ (Fa : Addr) (xs : List V) (x3 x4 x5 x6 : Option V), σ = [some (nV n), some (nV h), some (.ref Fa), x3, x4, x5, x6] ∧ H' Fa = some (.lst xs) ∧ Tups H' xs (stands n t))
    ⟨s1.trans s2, F0, _, _, _, _, _, rfl, e2, .cons ⟨p, rfl, s2 _ _ e1⟩ .nil⟩ ?_ ?_
  · rintro t σ H3 ht ⟨s3, Fa, xs, x3, x4, x5, x6, rfl, hF, hx⟩
    rw [Int.zero_add]
    refine ⟨Nat.zero_le _, fun L hL => ?_⟩
    refine new_ind hL (upd _ L _) rfl fun H4 s4 e4 => ?_
    have nFL : Fa ≠ L := ne_of_none hF hL
    have lenx := Paired.len hx
    refine ⟨_, rfl, Fa, rfl, ⟨xs, SqL.of (s4 _ _ hF)⟩, ?_⟩
    refine for_list (K := K) (a := Fa) (xs := xs) (fun i σ H' => Same H H' ∧ H' Fa = some (.lst xs) ∧ Tups H' xs (stands n t) ∧ ∃ (ys : List V) (x5 x6 : Option V), σ = [some (nV n), some (nV h), some (.ref Fa), some (nV t), some (.ref L), x5, x6] ∧
        H' L = some (.lst ys) ∧ Tups H' ys (((stands n t).take i).flatMap (ext n)))
      ⟨s3.trans s4, s4 _ _ hF, hx.mono s4.tup, [], _, _, rfl, e4, .nil⟩ (fun i σ H' _ q => SqL.of q.2.1) ?_ ?_
    · rintro i x σ H5 hi ⟨s5, hF5, hx5, ys, x5, x6, rfl, hL5, hy5⟩
      obtain ⟨st, hst, tx⟩ := Paired.at_ hx5 hi
      have tk : (stands n t).take (i + 1) = (stands n t).take i ++ [st] := by
        rw [List.take_succ, hst]
        rfl
      have sst : Stand n t st := mem_stands.mp (List.mem_of_getElem? hst)
      have fl := flat_len (n := n) (h := t) hn (by omega) i
      have ly := Paired.len hy5
      refine ⟨_, rfl, (n : Int), rfl, by omega, by omega, ?_⟩
      refine for_range (lo := 0) (n := n) (fun j σ H' => Same H H' ∧ H' Fa = some (.lst xs) ∧ Tups H' xs (stands n t) ∧ TupN H' x st ∧ ∃ (ys : List V) (x6 : Option V), σ = [some (nV n), some (nV h), some (.ref Fa), some (nV t), some (.ref L), some x, x6] ∧
          H' L = some (.lst ys) ∧ Tups H' ys (((stands n t).take i).flatMap (ext n) ++ ((List.range j).filter fun x => decide (low st ≤ x)).map fun x => st ++ [x]))
        ⟨s5, hF5, hx5, tx, ys, _, rfl, hL5, by simpa using hy5⟩ ?_ ?_
      · rintro j σ H6 hj ⟨s6, hF6, hx6, tx6, zs, x6, rfl, hL6, hz6⟩
        rw [Int.zero_add]
        obtain ⟨a, rfl, ha⟩ := id tx6
        have lz := Paired.len hz6
        have lf : (((List.range j).filter fun x => decide (low st ≤ x)).map fun x => st ++ [x]).length ≤ 7 := by
          rw [List.length_map]
          have := List.length_filter_le (fun x => decide (low st ≤ x)) (List.range j)
          rw [List.length_range] at this
          omega
        rw [List.length_append] at lz
        have add : ∀ D : Ends, (∀ σ' H', (Same H H' ∧ H' Fa = some (.lst xs) ∧ Tups H' xs (stands n t) ∧ TupN H' (.ref a) st ∧ ∃ (ys : List V) (x6 : Option V), σ' = [some (nV n), some (nV h), some (.ref Fa), some (nV t), some (.ref L), some (.ref a), x6] ∧
              H' L = some (.lst ys) ∧ Tups H' ys (((stands n t).take i).flatMap (ext n) ++ ((List.range (j + 1)).filter fun x => decide (low st ≤ x)).map fun x => st ++ [x])) → D.nx σ' H') → low st ≤ j → tDrop (tBM K "list" rAppend (tVar 4) (tCons (tOp (rCatA K) (tVar 5) (tTup (tCons (tVar 6) tNil))) tNil)) D
            [some (nV n), some (nV h), some (.ref Fa), some (nV t), some (.ref L), some (.ref a), some (nV j)] H6 := by
          intro DD hD
          intro hlj
          refine ⟨_, rfl, .inl ⟨rfl, _, SqL.of hL6⟩, _, rfl, _, rfl, by show 1 ≤ sizeLine; decide, fun u hu => ?_⟩
          refine new_ind hu (upd _ u _) rfl fun H7 s7 e7 => ?_
          refine catN (t := [j]) (tx6.mono s7.tup) ⟨u, rfl, e7⟩ (by rw [sst.1]; simp; omega) fun v' H8 s8 tv => ?_
          have s68 := s7.trans s8
          have hL8 := s68 _ _ hL6
          have ts : TSame H8 (upd H8 L (.lst (zs ++ [v']))) := TSame.upd hL8 id
          refine ⟨L, zs, v', rfl, rfl, hL8, Nat.lt_of_le_of_lt (m := 1000) (by omega) (by decide), ?_⟩
          refine hD _ _ ⟨(s6.trans s68).put (s3.free hL) _, by rw [upd_ne nFL]; exact s68 _ _ hF6, (hx6.mono s68.tup).mono ts, (tx6.mono s68.tup).mono ts, zs ++ [v'], _, rfl, upd_same, ?_⟩
          rw [List.range_succ, List.filter_append, List.map_append, ← List.append_assoc]
          refine Paired.app ((hz6.mono s68.tup).mono ts) ?_
          rw [List.filter_cons, if_pos (decide_eq_true hlj)]
          exact .cons (tv.mono ts) .nil
        have skip : ¬ low st ≤ j → Tups H6 zs (((stands n t).take i).flatMap (ext n) ++ ((List.range (j + 1)).filter fun x => decide (low st ≤ x)).map fun x => st ++ [x]) := by
          intro nlj
          rw [List.range_succ, List.filter_append, List.filter_cons, if_neg (by simpa using nlj), List.filter_nil, List.append_nil]
          exact hz6
        refine ⟨_, rfl, a, _, rfl, .inr (SqT.of ha), rfl, _, rfl, ite_b (fun c => ?_) (fun c => ?_)⟩
        · have c := of_decide_eq_true c
          injection c with c
          rw [List.length_map] at c
          have e0 : st = [] := List.eq_nil_of_length_eq_zero (by omega)
          have hl0 : low st ≤ j := by
            rw [e0]
            exact Nat.zero_le _
          exact add _ (fun _ _ q => q) hl0
        · have c := of_decide_eq_false c
          have ne : ¬ st = [] := fun e => c (by rw [e]; rfl)
          refine ⟨_, rfl, 1, rfl, lastN tx6 ne ⟨_, rfl, _, _, rfl, rfl, _, rfl, ite_b (fun c2 => ?_) (fun c2 => ?_)⟩⟩
          · have := of_decide_eq_true c2
            exact add _ (fun _ _ q => q) (by omega)
          · have := of_decide_eq_false c2
            exact ⟨s6, hF6, hx6, tx6, zs, _, rfl, hL6, skip (by omega)⟩
      · rintro σ H6 ⟨s6, hF6, hx6, tx6, zs, x6, rfl, hL6, hz6⟩
        refine ⟨s6, hF6, hx6, zs, _, _, rfl, hL6, ?_⟩
        rw [tk, List.flatMap_append, List.flatMap_cons, List.flatMap_nil, List.append_nil, ext_filter]
        exact hz6
    · rintro σ H5 ⟨s5, hF5, hx5, ys, x5, x6, rfl, hL5, hy5⟩
      rw [lenx, List.take_length] at hy5
      exact ⟨_, rfl, s5, L, ys, _, _, _, _, rfl, hL5, hy5⟩
  · rintro σ H3 ⟨s3, Fa, xs, x3, x4, x5, x6, rfl, hF, hx⟩
    have lx := Paired.len hx
    have few := stands_few (n := n) (h := h) hn h2
    refine ⟨_, rfl, Fa, xs, rfl, SqL.of hF, by omega, fun x hx2 => ?_, fun ys q pm _ hq => ?_⟩
    · obtain ⟨i, hi⟩ := List.mem_iff_getElem?.mp hx2
      obtain ⟨s, hs, a, rfl, ha⟩ := Paired.at_ hx hi
      have st := mem_stands.mp (List.mem_of_getElem? hs)
      refine ⟨s.map fun n : Nat => (n : Int), ⟨a, rfl, SqT.of (by rw [← nat_ints]; exact ha)⟩, by rw [List.length_map]; exact st.1, fun m hm => ?_⟩
      obtain ⟨y, hy, rfl⟩ := List.mem_map.mp hm
      have := st.2.2 y hy
      omega
    · refine new_ind hq (upd _ q _) rfl fun H4 s4 e4 => ?_
      obtain ⟨ts, pt, pp⟩ := Paired.perm pm.symm hx
      exact k _ _ ts (s3.trans s4) pt ⟨q, ys, rfl, e4, Tups.mono s4.tup pp⟩
end Ev
end
section
namespace Ev
open PySem L2
variable {P : Program} {w : World} {K : PySem.W.Frag} {mg : Str → Option Value} {base : Heap}

/-! ### _law_orders -/
def LL (H : Hp) (xs : List V) (ss : List (List Nat)) : Prop := Paired (fun x s => ∃ b, x = .ref b ∧ H b = some (.lst (s.map nV))) xs ss
theorem LL.mono {H H' : Hp} (s : Same H H') {xs : List V} {ss : List (List Nat)} (h : LL H xs ss) : LL H' xs ss := Paired.imp (fun _ _ ⟨b, e, q⟩ => ⟨b, e, s _ _ q⟩) h
def ordN (s : List Nat) : List (List Nat) := if s.length < 2 then [s] else permsN s
def spOrders (m : Nat) : Sp := fun vs H Q _ => ∃ (s : List Nat) (v : V), vs = [v] ∧ TupR H v s ∧ s.length < m ∧ s.length ≤ 2 ∧ ∀ a xs H', Same H H' → H' a = some (.lst xs) → LL H' xs (ordN s) → Q (.ref a) H'
theorem scOrders : FnScope ["_law_stand", "_law_found", "_law_k", "_law_rest"] ["_law_stand"] (C8.fnScope (top 46)) := ⟨rfl, rfl, rfl, by decide +kernel, rfl, by decide +kernel, by decide +kernel⟩
theorem two_cut (x y : Nat) {i : Nat} (hi : i < 2) : ∃ u z, [x, y][i]? = some u ∧ [x, y].take i ++ [x, y].drop (i + 1) = [z] ∧ (permsN [x, y]).take (i + 1) = (permsN [x, y]).take i ++ [[u, z]] := by
  have : i = 0 ∨ i = 1 := by omega
  rcases this with rfl | rfl
  · exact ⟨x, y, rfl, rfl, rfl⟩
  · exact ⟨y, x, rfl, rfl, rfl⟩
theorem ok_law_orders {f : Addr} {fd : FuncData} (m : Nat) (F : C8.Def K mg "_law_orders" (top 46) f fd) (b : Binds K fd ["_law_stand"] []) (T : Txt K mg) (c__law_orders : C8.Cal P w K mg base m "_law_orders" (spOrders m) []) : C8.Cal P w K mg base (m + 1) "_law_orders" (spOrders (m + 1)) [] := by
  refine C8.cal0 F b .nil scOrders (fun vs H Q E h => ?_) (fun cdv A outer s H vs Q E hr h => ?_)
  · obtain ⟨s, v, rfl, _⟩ := h
    rfl
  obtain ⟨s, v, rfl, ⟨a, rfl, ha⟩, hm, h2, k⟩ := h
  have nd := scOrders.nd
  refine ⟨_, (pss_cons (ps_if (pt_cmpR op_lt (pe_callB (kcr_len (K := K) rfl) (by rfl) T.n_len bb_len (pa_cons (pv 0) pa_nil)) pe_int (nomark _))
 (pss_one (ps_ret (pe_lst (pa_cons (pe_callTy (kcr_list (K := K) rfl) (by rfl) T.n_list bb_list (pa_cons (pv 0) pa_nil)) pa_nil))))
 pss_nil)
 (pss_cons (ps_set (i := 1) nd rfl (by first | exact .inl rfl | exact .inr rfl) (pe_lst pa_nil))
 (pss_cons (ps_for PassesOwn.never rfl (pi_range1 (by rfl) T.n_range (pa_cons (pe_callB (kcr_len (K := K) rfl) (by rfl) T.n_len bb_len (pa_cons (pv 0) pa_nil)) pa_nil)) (pg_name (i := 2) nd rfl (by first | exact .inl rfl | exact .inr rfl))
 (pss_one (ps_set (i := 1) nd rfl (by first | exact .inl rfl | exact .inr rfl) (pe_op op_cat (pv 1) (pe_lc (own := [("_law_rest", 3)]) rfl nd (kpi_list (K := K) rfl (C8.pe_c c__law_orders hr (Nat.le_refl _) rfl (pa_cons (pe_op (kop_catA (K := K) rfl) (pe_slice (ksl_tupA (K := K) rfl) (pv 0) po_none (po_some (pv 2))) (pe_slice (ksl_tupA (K := K) rfl) (pv 0) (po_some (pe_op op_add (pv 2) pe_int)) po_none)) pa_nil))) (blkOk_by (own := [("_law_rest", 3)]) (by kernel_rfl)) (fun _ _ _ _ _ => (pg_name (i := 3) nd rfl (by first | exact .inl rfl | exact .inr rfl))) (fun _ _ _ _ _ => pts_nil) (fun _ _ _ _ _ => (pe_op op_cat (pe_lst (pa_cons (pe_ix (kix_tup (K := K) rfl) (pv 0) (pv 2) (fun _ _ => rfl)) pa_nil)) (pv 3))))))))
 (pss_one (ps_ret (pv 1)))))), ?_⟩
  refine ⟨_, rfl, a, _, rfl, .inr (.inl ha), _, _, rfl, rfl, _, rfl, ite_b (fun c => ?_) (fun c => ?_)⟩
  · have c := of_decide_eq_true c
    rw [List.length_map] at c
    have c : s.length < 2 := by omega
    refine ⟨_, rfl, a, _, rfl, .inr (.inl ha), fun l hl => ?_⟩
    refine new_ind hl (upd _ l _) rfl fun H1 s1 e1 => ?_
    refine ⟨by show 1 ≤ sizeLine; decide, fun q hq => ?_⟩
    refine new_ind hq (upd _ q _) rfl fun H2 s2 e2 => ?_
    refine k q _ H2 (s1.trans s2) e2 ?_
    unfold ordN
    rw [if_pos c]
    exact .cons ⟨l, rfl, s2 _ _ e1⟩ .nil
  · have c := of_decide_eq_false c
    rw [List.length_map] at c
    have c : s.length = 2 := by omega
    obtain ⟨x, y, rfl⟩ : ∃ x y, s = [x, y] := by
      match s, c with
      | [x, y], _ => exact ⟨x, y, rfl⟩
    refine ⟨by show 0 ≤ sizeLine; decide, fun p hp => ?_⟩
    refine new_ind hp (upd _ p _) rfl fun H1 s1 e1 => ?_
    have sq : ∀ {H' : Hp}, Same H H' → TupR H' (.ref a) [x, y] := fun s => TupR.mono s.tup ⟨a, rfl, ha⟩
    obtain ⟨_, ea, ha1⟩ := (sq s1).sq (K := K)
    cases ea
    refine ⟨_, rfl, a, _, rfl, .inr ha1, (2 : Int), rfl, by decide, by decide, ?_⟩
    refine for_range (lo := 0) (n := 2) (fun i σ H' => Same H H' ∧ ∃ (Fa : Addr) (xs : List V) (x2 x3 : Option V), σ = [some (.ref a), some (.ref Fa), x2, x3] ∧ H' Fa = some (.lst xs) ∧ LL H' xs ((permsN [x, y]).take i))
      ⟨s1, p, [], _, _, rfl, e1, .nil⟩ ?_ ?_
    · rintro i σ H2 hi ⟨s2, Fa, xs, x2, x3, rfl, hF, hx⟩
      rw [Int.zero_add]
      refine ⟨_, rfl, ?_⟩
      refine ⟨_, rfl, _, rfl, _, rfl, ?_⟩
      refine slTo (sq s2) fun v1 H3 s3 t3 => ?_
      refine ⟨_, rfl, _, rfl, _, _, rfl, rfl, _, rfl, ?_⟩
      rw [show (i : Int) + 1 = ((i + 1 : Nat) : Int) from by omega]
      delta tNoPart
      dsimp only
      refine slFrom (sq (s2.trans s3)) fun v2 H4 s4 t4 => ?_
      refine catR (t3.mono s4.tup) t4 (by rw [List.length_take, List.length_drop]; simp; omega) fun v5 H5 s5 t5 => ?_
      have s25 := s3.trans (s4.trans s5)
      obtain ⟨u, z, hu, hz, htk⟩ := two_cut x y hi
      rw [hz] at t5
      refine ⟨[z], v5, rfl, t5, by show 1 < m; have : [x, y].length < m + 1 := hm; simp at this; omega, by show 1 ≤ 2; omega, fun a2 xs2 H6 s6 e6 l6 => ?_⟩
      have l6 : LL H6 xs2 [[z]] := l6
      refine ⟨a2, rfl, ⟨_, SqL.of e6⟩, fun D hD => ?_⟩
      have s26 := s25.trans s6
      refine lc_list (K := K) (a := a2) (xs := xs2) (fun j H' => Same H6 H' ∧ ∃ ys, H' D = some (.lst ys) ∧ LL H' ys (([[u, z]] : List (List Nat)).take j)) ⟨Same.new hD _, [], upd_same, .nil⟩ (fun j H' _ q => SqL.of (q.1 _ _ e6)) ?_ ?_
      · rintro j w H7 hw ⟨s7, ys, e7, l7⟩
        obtain ⟨s', hs', b', rfl, hb'⟩ := Paired.at_ l6 hw
        have ej : j = 0 := by
          have := (List.getElem?_eq_some_iff.mp hs').1
          simp at this
          omega
        subst ej
        injection hs' with hs'
        subst hs'
        obtain ⟨_, ea, ha7⟩ := (sq (s2.trans (s26.trans s7))).sq (K := K)
        cases ea
        refine ⟨rfl, _, rfl, _, rfl, a, _, i, nV u, rfl, rfl, ha7, atI_nat (by rw [List.getElem?_map, hu]; rfl), by show 1 ≤ sizeLine; decide, fun g hg => ?_⟩
        refine new_ind hg (upd _ g _) rfl fun H8 s8 e8 => ?_
        refine ⟨_, rfl, g, b', _, _, rfl, rfl, e8, s8 _ _ (s7 _ _ hb'), by show 2 ≤ sizeLine; decide, fun r hr => ?_⟩
        refine new_ind hr (upd _ r _) rfl fun H9 s9 e9 => ?_
        have hDr : D ≠ r := ne_of_none (s8 _ _ e7) hr
        have ly := Paired.len l7
        have ey : ys = [] := List.eq_nil_of_length_eq_zero ly
        subst ey
        refine ⟨[], s9 _ _ (s8 _ _ e7), by show 0 < sizeLine; decide, (s7.trans (s8.trans s9)).put hD _, [.ref r], upd_same, .cons ⟨r, rfl, ?_⟩ .nil⟩
        rw [upd_ne hDr.symm]
        exact e9
      · rintro H7 ⟨s7, ys, e7, l7⟩
        have lx2 : xs2.length = 1 := Paired.len l6
        rw [lx2] at l7
        have lx := Paired.len hx
        have ly : ys.length = 1 := Paired.len l7
        have hF7 := s7 _ _ (s26 _ _ hF)
        have lp : ((permsN [x, y]).take i).length ≤ 2 := by
          rw [List.length_take]
          exact Nat.min_le_right _ _
        refine ⟨Fa, D, xs, ys, rfl, rfl, hF7, e7, short (by omega), fun r hr => ?_⟩
        refine new_ind hr (upd _ r _) rfl fun H8 s8 e8 => ?_
        have s28 := s26.trans (s7.trans s8)
        refine ⟨s2.trans s28, r, xs ++ ys, _, _, rfl, e8, ?_⟩
        rw [htk]
        exact Paired.app (LL.mono s28 hx) (LL.mono s8 l7)
    · rintro σ H2 ⟨s2, Fa, xs, x2, x3, rfl, hF, hx⟩
      exact ⟨_, rfl, k Fa xs H2 s2 hF hx⟩
end Ev
end
section
namespace Ev
open PySem L2
variable {P : Program} {w : World} {K : PySem.W.Frag} {mg : Str → Option Value} {base : Heap}

/-! ### _law_move -/
theorem scMove : FnScope ["_law_rows", "_law_first", "_law_second", "_law_reach", "_law_least", "_law_order", "_law_steps", "_law_k", "_law_step"] ["_law_rows", "_law_first", "_law_second", "_law_reach"] (C8.fnScope (top 47)) := ⟨rfl, rfl, rfl, by decide +kernel, rfl, by decide +kernel, by decide +kernel⟩
theorem ok_law_move {f : Addr} {fd : FuncData} (F : C8.Def K mg "_law_move" (top 47) f fd) (b : Binds K fd ["_law_rows", "_law_first", "_law_second", "_law_reach"] []) (T : Txt K mg) (c__law_orders : C8.Cal P w K mg base 3 "_law_orders" (spOrders 3) []) : C8.Cal P w K mg base 4 "_law_move" spPaired [] := by
  refine C8.cal0 F b .nil scMove (fun vs H Q E h => ?_) (fun cdv A outer s H vs Q E hr h => ?_)
  · obtain ⟨n, reach, m, s, t, d, a, b, rfl, _⟩ := h
    rfl
  obtain ⟨n, reach, m, s, t, d, av, bv, rfl, tb, ⟨a, rfl, ha⟩, hbt, hl, h12, hs, ht, k⟩ := h
  have nd := scMove.nd
  refine ⟨_, (pss_cons (ps_set (i := 4) nd rfl (by first | exact .inl rfl | exact .inr rfl) pe_non)
 (pss_cons (ps_for PassesOwn.never rfl (kpi_list (K := K) rfl (C8.pe_c c__law_orders hr (by decide) rfl (pa_cons (pv 2) pa_nil))) (pg_name (i := 5) nd rfl (by first | exact .inl rfl | exact .inr rfl))
 (pss_cons (ps_setLc (i := 6) (own := [("_law_k", 7)]) rfl nd rfl rfl (sw_true rfl rfl rfl (by kernel_rfl)) (pi_range1 (by rfl) T.n_range (pa_cons (pe_callB (kcr_len (K := K) rfl) (by rfl) T.n_len bb_len (pa_cons (pv 1) pa_nil)) pa_nil)) (blkOk_by (own := [("_law_k", 7)]) (by kernel_rfl)) (fun _ _ _ _ _ => (pg_name (i := 7) nd rfl (by first | exact .inl rfl | exact .inr rfl))) (fun _ _ _ _ _ => pts_nil) (fun _ _ _ _ _ => (pe_ix (kix_list (K := K) rfl) (pe_ix (kix_list (K := K) rfl) (pv 0) (pe_ix (kix_tup (K := K) rfl) (pv 1) (pv 7) (fun _ _ => rfl)) (fun _ _ => rfl)) (pe_ix (kix_list (K := K) rfl) (pv 5) (pv 7) (fun _ _ => rfl)) (fun _ _ => rfl))))
 (pss_one (ps_if (pt_val (pe_callB (kcr_all rfl (K := K) rfl) (by rfl) T.n_all bb_all (pa_cons (pe_lc (own := [("_law_step", 8)]) rfl nd (kpi_list (K := K) rfl (pv 6)) (blkOk_by (own := [("_law_step", 8)]) (by kernel_rfl)) (fun _ _ _ _ _ => (pg_name (i := 8) nd rfl (by first | exact .inl rfl | exact .inr rfl))) (fun _ _ _ _ _ => pts_nil) (fun _ _ _ _ _ => (pe_and (pe_cmpR op_notN (pv 8) pe_non (nomark _)) (pe_one (pe_cmpR op_le (pv 8) (pv 3) (nomark _)))))) pa_nil)) (by intro _; rfl))
 (pss_one (ps_if (PW.pt (pw_or (pt_cmpR op_isN (pv 4) pe_non (nomark _)) (pw_or1 (pt_cmpR op_lt (pe_callB (kcr_sum rfl (K := K) rfl) (by rfl) T.n_sum bb_sum (pa_cons (pv 6) pa_nil)) (pv 4) (nomark _)))))
 (pss_one (ps_set (i := 4) nd rfl (by first | exact .inl rfl | exact .inr rfl) (pe_callB (kcr_sum rfl (K := K) rfl) (by rfl) T.n_sum bb_sum (pa_cons (pv 6) pa_nil))))
 pss_nil))
 pss_nil))))
 (pss_one (ps_ret (pv 4))))), ?_⟩
  have h2 : t.length ≤ 2 := by omega
  refine ⟨_, rfl, t, _, rfl, hbt.rd, by omega, h2, fun B xs H1 s1 hB hx => ?_⟩
  have eo : ordN t = permsN t := by
    unfold ordN
    match t, h12 with
    | [x], _ => rfl
    | [x, y], _ => rfl
  rw [eo] at hx
  have lx := Paired.len hx
  refine ⟨B, rfl, ⟨xs, SqL.of hB⟩, ?_⟩
  refine for_list (K := K) (a := B) (xs := xs) (fun i σ H' => Same H1 H' ∧ ∃ (o : Option Nat) (x5 x6 x7 x8 : Option V), σ = [some d, some (.ref a), some bv, some (nV reach), some (oV o), x5, x6, x7, x8] ∧ ((∃ l, o = some l) ↔ ∃ u, u ∈ (permsN t).take i ∧ Good m reach s u))
    ⟨Same.refl H1, none, _, _, _, _, rfl, ⟨fun ⟨l, e⟩ => (by cases e), fun ⟨u, hu, _⟩ => (by simp at hu)⟩⟩ (fun i σ H' _ q => SqL.of (q.1 _ _ hB)) ?_ ?_
  · rintro i x σ H2 hi ⟨s2, o, x5, x6, x7, x8, rfl, hio⟩
    obtain ⟨u, hu, q, rfl, hq⟩ := Paired.at_ hx hi
    have hum := List.mem_of_getElem? hu
    have ul := permsN_len hum
    have um := permsN_mem hum
    have tk : (permsN t).take (i + 1) = (permsN t).take i ++ [u] := by
      rw [List.take_succ, hu]
      rfl
    have s02 := s1.trans s2
    obtain ⟨_, ea, ha2⟩ := (TupR.mono s02.tup ⟨a, rfl, ha⟩).sq (K := K)
    cases ea
    have hq2 := s2 _ _ hq
    have lsl : s.length = u.length := by omega
    refine ⟨_, rfl, a, _, rfl, .inr ha2, (s.length : Int), by rw [List.length_map], by omega, by omega, fun D hD => ?_⟩
    refine lc_range (lo := 0) (n := s.length) (fun j H3 => Same H2 H3 ∧ H3 D = some (.lst (((stepsOf m s u).take j).map oV))) ⟨Same.new hD _, by rw [upd_same]; rfl⟩ ?_ ?_
    · rintro j H3 hj ⟨s3, h3⟩
      rw [Int.zero_add]
      obtain ⟨xn, hxn⟩ : ∃ x, s[j]? = some x := ⟨_, List.getElem?_eq_getElem hj⟩
      obtain ⟨yn, hyn⟩ : ∃ y, u[j]? = some y := ⟨_, List.getElem?_eq_getElem (by omega)⟩
      have hst : (stepsOf m s u)[j]? = some (m xn yn) := by
        unfold stepsOf
        rw [List.getElem?_zipWith, hxn, hyn]
      obtain ⟨DT, as, rfl, hDT, hal, hrow⟩ := id (tb.mono (s02.trans s3))
      obtain ⟨_, ea, ha3⟩ := (TupR.mono (s02.trans s3).tup ⟨a, rfl, ha⟩).sq (K := K)
      cases ea
      have hxl := hs xn (List.mem_of_getElem? hxn)
      have hyl := ht yn (um yn (List.mem_of_getElem? hyn))
      have has : as[xn]? = some (as[xn]'(by omega)) := List.getElem?_eq_getElem (by omega)
      refine ⟨rfl, _, rfl, _, rfl, _, rfl, a, _, j, nV xn, rfl, rfl, ha3, atI_nat (by rw [List.getElem?_map, hxn]; rfl), DT, _, xn, .ref (as[xn]'(by omega)), rfl, rfl, SqL.of hDT, atI_nat (by rw [List.getElem?_map, has]; rfl), ?_⟩
      refine ⟨_, rfl, _, rfl, q, _, j, nV yn, rfl, rfl, SqL.of (s3 _ _ hq2), atI_nat (by rw [List.getElem?_map, hyn]; rfl), as[xn]'(by omega), _, yn, oV (m xn yn), rfl, rfl, SqL.of (hrow xn _ has), atI_nat (rowV_at _ hyl), ?_⟩
      refine ⟨_, h3, Nat.lt_of_le_of_lt (m := 1000) ?_ (by decide), s3.put hD _, ?_⟩
      · rw [List.length_map, List.length_take]
        have : (stepsOf m s u).length ≤ 2 := by
          unfold stepsOf
          rw [List.length_zipWith]
          omega
        omega
      · rw [upd_same, List.take_succ, hst, List.map_append]
        rfl
    rintro H4 ⟨s4, h2⟩
    have full : (stepsOf m s u).take s.length = stepsOf m s u := List.take_of_length_le (by
      unfold stepsOf
      rw [List.length_zipWith]
      omega)
    rw [full] at h2
    have t02 := s2.trans s4
    refine ⟨_, rfl, D, rfl, ⟨_, SqL.of h2⟩, fun D2 hD2 => ?_⟩
    refine lc_list (K := K) (a := D) (xs := (stepsOf m s u).map oV) (fun j H5 => Same H4 H5 ∧ H5 D2 = some (.lst ((((stepsOf m s u).take j).map (okStep reach)).map V.bl))) ⟨Same.new hD2 _, upd_same⟩ (fun j H5 _ g => SqL.of (g.1 _ _ h2)) ?_ ?_
    · rintro j x H5 hx ⟨s5, h3⟩
      rw [List.getElem?_map] at hx
      obtain ⟨e, he, rfl⟩ := Option.map_eq_some_iff.mp hx
      have short2 : (stepsOf m s u).length ≤ 2 := by
        unfold stepsOf
        rw [List.length_zipWith]
        omega
      have done : ∀ z : Bool, z = okStep reach e → ∃ acc, H5 D2 = some (.lst acc) ∧ acc.length < sizeLine ∧ Same H4 (upd H5 D2 (.lst (acc ++ [V.bl z]))) ∧ (upd H5 D2 (.lst (acc ++ [V.bl z]))) D2 = some (.lst ((((stepsOf m s u).take (j + 1)).map (okStep reach)).map V.bl)) := by
        intro z ez
        refine ⟨_, h3, Nat.lt_of_le_of_lt (m := 1000) (by rw [List.length_map, List.length_map, List.length_take]; omega) (by decide), s5.put hD2 _, ?_⟩
        rw [upd_same, List.take_succ, he, List.map_append, List.map_append, ez]
        rfl
      refine ⟨rfl, ?_⟩
      refine ⟨_, rfl, rfl, _, rfl, ite_b (fun c1 => ?_) (fun c1 => ?_)⟩
      · obtain ⟨dd, rfl⟩ := notNon c1
        refine ⟨_, rfl, _, rfl, _, _, rfl, rfl, ?_⟩
        refine done _ ?_
        unfold okStep
        exact decide_eq_decide.mpr ⟨fun h => by omega, fun h => by omega⟩
      · have e0 := isNonB c1
        subst e0
        exact done false rfl
    rintro H5 ⟨s5, h3⟩
    rw [List.length_map, List.take_length] at h3
    refine ⟨D2, _, rfl, SqL.of h3, _, rfl, ?_⟩
    rw [List.all_map]
    have t03 := t02.trans s5
    have h23 := s5 _ _ h2
    refine ite_b (fun c1 => ?_) (fun c1 => ?_)
    · have good : Good m reach s u := c1
      obtain ⟨ns, ens⟩ := all_some good
      have hD3 : SqL K H5 D ((ns.map fun n : Nat => (n : Int)).map V.int) := by
        rw [ens, List.map_map] at h23
        have : (ns.map (oV ∘ some)) = ((ns.map fun n : Nat => (n : Int)).map V.int) := by
          rw [List.map_map]
          rfl
        rw [this] at h23
        exact SqL.of h23
      have after : ∀ o' : Option Nat, (∃ l, o' = some l) → ((∃ l, o' = some l) ↔ ∃ u, u ∈ (permsN t).take (i + 1) ∧ Good m reach s u) := fun o' ho' =>
        ⟨fun _ => ⟨u, by rw [tk]; simp, good⟩, fun _ => ho'⟩
      have put : ∃ Mid : Prop, Mid := ⟨True, trivial⟩
      refine ⟨_, rfl, rfl, _, rfl, ite_b (fun c2 => ?_) (fun c2 => ?_)⟩
      · refine ⟨_, rfl, D, _, rfl, hD3, ?_⟩
        exact ⟨t03, some ns.sum, _, _, _, _, by rw [nat_sum]; rfl, after _ ⟨_, rfl⟩⟩
      · obtain ⟨l, rfl⟩ := isNonF c2
        refine ⟨_, rfl, D, _, rfl, hD3, _, rfl, _, _, rfl, rfl, _, rfl, ite_b (fun c3 => ?_) (fun c3 => ?_)⟩
        · refine ⟨_, rfl, D, _, rfl, hD3, ?_⟩
          exact ⟨t03, some ns.sum, _, _, _, _, by rw [nat_sum]; rfl, after _ ⟨_, rfl⟩⟩
        · exact ⟨t03, some l, _, _, _, _, rfl, after _ ⟨_, rfl⟩⟩
    · have bad : ¬ Good m reach s u := fun g => by
        have : (stepsOf m s u).all (id ∘ okStep reach) = true := g
        rw [this] at c1
        cases c1
      refine ⟨t03, o, _, _, _, _, rfl, hio.trans ⟨fun ⟨v, hv, g⟩ => ⟨v, by rw [tk]; simp [hv], g⟩, fun ⟨v, hv, g⟩ => ?_⟩⟩
      rw [tk] at hv
      rcases List.mem_append.mp hv with hv | hv
      · exact ⟨v, hv, g⟩
      · have : v = u := by simpa using hv
        subst this
        exact absurd g bad
  · rintro σ H2 ⟨s2, o, x5, x6, x7, x8, rfl, hio⟩
    rw [lx, List.take_length] at hio
    exact ⟨_, rfl, k o H2 (s1.trans s2) hio⟩
end Ev
end
section
/-! (t, l) not in a list of such pairs -/
namespace Ev
open PySem PySem.Spec PyProof.Rows L2
section
variable {X : Cx} {K : PySem.W.Frag}
def PairL (H : Hp) (x : V) (e : List Nat × Nat) : Prop := ∃ q b, x = .ref q ∧ H q = some (.tup [.ref b, nV e.2]) ∧ H b = some (.tup (e.1.map nV))
def dP (e : List Nat × Nat) : PyData := .tuple [.tuple (dN e.1), .int (e.2 : Int)]
theorem dpP {H : Hp} {x : V} {e : List Nat × Nat} (h : PairL H x e) : Dp K H x (dP e) := by
  obtain ⟨q, b, rfl, hq, hb⟩ := h
  exact .tup (SqT.of hq) (.cons (.tup (SqT.of hb) (dp_nats e.1)) (.cons (.int _) .nil))
theorem dpPs {H : Hp} : ∀ {xs : List V} {es : List (List Nat × Nat)}, Paired (PairL H) xs es → DpAll K H xs (es.map dP)
  | _, _, .nil => .nil
  | _, _, .cons r t => .cons (dpP r) (dpPs t)
theorem eqvP (e f : List Nat × Nat) : PyData.eqv (dP e) (dP f) = decide (e = f) := by
  show (PyData.eqvAll (dN e.1) (dN f.1) && (((e.2 : Int) == (f.2 : Int)) && true)) = _
  rw [eqvAll_nats, Bool.and_true]
  obtain ⟨a, b⟩ := e
  obtain ⟨c, d⟩ := f
  by_cases h1 : a = c
  · subst h1
    by_cases h2 : b = d
    · subst h2
      simp
    · have : ((b : Int) == (d : Int)) = false := beq_false_of_ne (by omega)
      simp [this, h2]
  · simp [h1]
theorem layP (e : List Nat × Nat) : (dP e).canLay0 = true := by
  show (PyData.canLayAll0 (dN e.1) && (true && true)) = true
  rw [lay_nats]
  rfl
theorem depP (e : List Nat × Nat) : (dP e).depth ≤ 3 := by
  have := dep_nats e.1
  show PyData.depthAll [.tuple (dN e.1), .int (e.2 : Int)] + 1 ≤ 3
  show max (PyData.depthAll (dN e.1) + 1) (max 0 0) + 1 ≤ 3
  omega
theorem layPs : ∀ es : List (List Nat × Nat), PyData.canLayAll0 (es.map dP) = true
  | [] => rfl
  | e :: es => by
    show ((dP e).canLay0 && PyData.canLayAll0 (es.map dP)) = true
    rw [layP, layPs es]
    rfl
def rNotInP (K : PySem.W.Frag) : R2 := fun x y H Q => ∃ (e : List Nat × Nat) (L : Addr) (xs : List V) (es : List (List Nat × Nat)), PairL H x e ∧ y = .ref L ∧ SqL K H L xs ∧ Paired (PairL H) xs es ∧ Q (.bl (!decide (e ∈ es))) H
theorem kop_notInP (eK : X.K = K) (hu : X.A.units + 64 < cLine) : OpR X (compareOp .NotIn) (rNotInP K) := by
  subst eK
  intro pins s σ H x y v u Q I rx ry h
  obtain ⟨e, L, xs, es, hx, rfl, hL, hp, q⟩ := h
  obtain ⟨as, r1⟩ := Dp.reads I (dP e) x v (dpP hx) rx
  obtain ⟨bs, r2⟩ := Dp.reads I (.list (es.map dP)) (.ref L) u (.lst hL (dpPs hp)) ry
  have e2 : ((es.map dP).any fun z => PyData.eqv z (dP e)) = decide (e ∈ es) := by
    rw [Bool.eq_iff_iff, List.any_eq_true, decide_eq_true_iff]
    constructor
    · rintro ⟨z, hz, ez⟩
      obtain ⟨f, hf, rfl⟩ := List.mem_map.mp hz
      rw [eqvP] at ez
      exact of_decide_eq_true ez ▸ hf
    · intro he
      exact ⟨dP e, List.mem_map.mpr ⟨e, he, rfl⟩, by rw [eqvP]; exact decide_eq_true rfl⟩
  have d3 := Nat.min_le_right (PyData.depthAll (es.map dP)) (dP e).depth
  have d4 := depP e
  refine SeqAt.notIn_list_reads r2 r1 (layPs es) (layP e) ?_ ⟨.bl _, H, I, ?_, q⟩
  · generalize min (PyData.depthAll (es.map dP)) (dP e).depth = z at d3 ⊢
    generalize (dP e).depth = y at d3 d4
    omega
  · rw [e2]
    rfl
end
end Ev
end
section
namespace Ev
open PySem L2
variable {P : Program} {w : World} {K : PySem.W.Frag} {mg : Str → Option Value} {base : Heap}

/-! ### _law_answers -/
def PLs (H : Hp) (xs : List V) (es : List (List Nat × Nat)) : Prop := Paired (PairL H) xs es
theorem PairL.mono {H H' : Hp} (s : TSame H H') {x : V} {e : List Nat × Nat} (h : PairL H x e) : PairL H' x e := by
  obtain ⟨q, b, e1, hq, hb⟩ := h
  exact ⟨q, b, e1, s _ _ True.intro hq, s _ _ True.intro hb⟩
theorem PLs.mono {H H' : Hp} (s : TSame H H') {xs : List V} {es : List (List Nat × Nat)} (h : PLs H xs es) : PLs H' xs es := Paired.imp (fun _ _ => PairL.mono s) h
def spLAns : Sp := fun vs H Q _ => ∃ (n h c reach : Nat) (one : Bool) (m : Mx) (s : List Nat) (d v : V), vs = [d, v, nV c, ruleV one, nV reach] ∧ TblV H d n m ∧ TupN H v s ∧ Stand n h s ∧ n ≤ 7 ∧ 1 ≤ h ∧ h ≤ 2 ∧ c < n ∧
  ∀ a xs es H', Same H H' → H a = none → H' a = some (.lst xs) → PLs H' xs es → es.length ≤ 1000 → (∀ t, t ∈ es.map (·.1) ↔ Ans (RM m reach) one n s c t) → Q (.ref a) H'
theorem scLAns : FnScope ["_law_rows", "_law_stand", "_law_call", "_law_rule", "_law_reach", "_law_found", "_law_other", "_law_length", "_law_k", "_law_step", "_law_behind"] ["_law_rows", "_law_stand", "_law_call", "_law_rule", "_law_reach"] (C8.fnScope (top 48)) := ⟨rfl, rfl, rfl, by decide +kernel, rfl, by decide +kernel, by decide +kernel⟩
theorem ans_has {R : Nat → Nat → Prop} {one : Bool} {n c : Nat} {s t : List Nat} (a : Ans R one n s c t) : c ∈ t := by
  unfold Ans at a
  split at a
  · rcases a with ⟨h, rfl⟩ | ⟨_, p, _, _, pm, _⟩
    · exact h
    · exact pm.mem_iff.mpr List.mem_cons_self
  · exact a.2.1
theorem erase_same {s : List Nat} {k p c : Nat} (h : s[k]? = some p) : (s.take k ++ s.drop (k + 1) ++ [c]).Perm (c :: s.erase p) := by
  have h1 : (p :: s.eraseIdx k).Perm (p :: s.erase p) := (erase_perm h).trans (List.perm_cons_erase (List.mem_of_getElem? h))
  have h2 := (List.perm_cons p).mp h1
  rw [← List.eraseIdx_eq_take_drop_succ]
  exact List.perm_append_comm.trans (h2.cons c)
theorem ok_law_answers {f : Addr} {fd : FuncData} (F : C8.Def K mg "_law_answers" (top 48) f fd) (b : Binds K fd ["_law_rows", "_law_stand", "_law_call", "_law_rule", "_law_reach"] []) (T : Txt K mg) (c__law_stands : C8.Cal P w K mg base 1 "_law_stands" spLStands [])
    (c__law_move : C8.Cal P w K mg base 4 "_law_move" spPaired []) : C8.Cal P w K mg base 5 "_law_answers" spLAns [] := by
  refine C8.cal0 F b .nil scLAns (fun vs H Q E h => ?_) (fun cdv A outer s H vs Q E hr h => ?_)
  · obtain ⟨n, h, c, reach, one, m, s, d, v, rfl, _⟩ := h
    rfl
  obtain ⟨n, h, c, reach, one, m, s, d, v, rfl, tb, ht, hs, hn, h1, h2, hc, k⟩ := h
  have nd := scLAns.nd
  refine ⟨_, (C8.pss_cut (ps_if (PW.pt (pw_and (pt_cmpR op_eq (pv 3) pe_str (nomark _)) (pw_and1 (pt_cmpR (kop_in_seq (K := K) rfl) (pv 2) (pv 1) (by rfl)))))
 (pss_one (ps_ret (pe_lst (pa_cons (pe_tup (pa_cons (pv 1) (pa_cons pe_int pa_nil))) pa_nil))))
 pss_nil)
 (pss_cons (ps_set (i := 5) nd rfl (by first | exact .inl rfl | exact .inr rfl) (pe_lst pa_nil))
 (pss_cons (ps_for PassesOwn.never rfl (kpi_list (K := K) rfl (C8.pe_c c__law_stands hr (by decide) rfl (pa_cons (pe_callB (kcr_len (K := K) rfl) (by rfl) T.n_len bb_len (pa_cons (pv 0) pa_nil)) (pa_cons (pe_callB (kcr_len (K := K) rfl) (by rfl) T.n_len bb_len (pa_cons (pv 1) pa_nil)) pa_nil)))) (pg_name (i := 6) nd rfl (by first | exact .inl rfl | exact .inr rfl))
 (pss_one (ps_if (pt_cmpR (kop_in_seq (K := K) rfl) (pv 2) (pv 6) (by rfl))
 (pss_one (ps_if (pt_cmpR op_eq (pv 3) pe_str (nomark _))
 (pss_cons (ps_set (i := 7) nd rfl (by first | exact .inl rfl | exact .inr rfl) (C8.pe_c c__law_move hr (by decide) rfl (pa_cons (pv 0) (pa_cons (pv 1) (pa_cons (pv 6) (pa_cons (pv 4) pa_nil))))))
 (pss_one (ps_if (pt_cmpR op_notN (pv 7) pe_non (nomark _))
 (pss_one (ps_expr (pe_bm PySem.F.plainAttrs_list PySem.F.slot_list_append PySem.F.type_list_append mt_append (pv 5) (pa_cons (pe_tup (pa_cons (pv 6) (pa_cons (pv 7) pa_nil))) pa_nil))))
 pss_nil)))
 (pss_one (ps_for PassesOwn.never rfl (pi_range1 (by rfl) T.n_range (pa_cons (pe_callB (kcr_len (K := K) rfl) (by rfl) T.n_len bb_len (pa_cons (pv 1) pa_nil)) pa_nil)) (pg_name (i := 8) nd rfl (by first | exact .inl rfl | exact .inr rfl))
 (pss_cons (ps_set (i := 9) nd rfl (by first | exact .inl rfl | exact .inr rfl) (pe_ix (kix_list (K := K) rfl) (pe_ix (kix_list (K := K) rfl) (pv 0) (pe_ix (kix_tup (K := K) rfl) (pv 1) (pv 8) (fun _ _ => rfl)) (fun _ _ => rfl)) (pv 2) (fun _ _ => rfl)))
 (pss_cons (ps_set (i := 10) nd rfl (by first | exact .inl rfl | exact .inr rfl) (pe_callTy (kcr_tuple (K := K) rfl) (by rfl) T.n_tuple bb_tuple (pa_cons (pe_callB (kcr_sortedIT (K := K) rfl) (by rfl) T.n_sorted bb_sorted (pa_cons (pe_op (kop_catA (K := K) rfl) (pe_op (kop_catA (K := K) rfl) (pe_slice (ksl_tupA (K := K) rfl) (pv 1) po_none (po_some (pv 8))) (pe_slice (ksl_tupA (K := K) rfl) (pv 1) (po_some (pe_op op_add (pv 8) pe_int)) po_none)) (pe_tup (pa_cons (pv 2) pa_nil))) pa_nil)) pa_nil)))
 (pss_one (ps_if (PW.pt (pw_and (pt_cmpR (kop_eqD (K := K) rfl hr.units) (pv 10) (pv 6) (nomark _)) (pw_and (pt_cmpR op_notN (pv 9) pe_non (nomark _)) (pw_and (pt_cmpR op_le (pv 9) (pv 4) (nomark _)) (pw_and1 (pt_cmpR (kop_notInP (K := K) rfl hr.units) (pe_tup (pa_cons (pv 6) (pa_cons (pv 9) pa_nil))) (pv 5) (by rfl)))))))
 (pss_one (ps_expr (pe_bm PySem.F.plainAttrs_list PySem.F.slot_list_append PySem.F.type_list_append mt_append (pv 5) (pa_cons (pe_tup (pa_cons (pv 6) (pa_cons (pv 9) pa_nil))) pa_nil))))
 pss_nil))))))))
 pss_nil)))
 (pss_one (ps_ret (pv 5)))))), ?_⟩
  obtain ⟨a, rfl, ha⟩ := id ht
  have hlen := hs.1
  refine ⟨fun σ H' => H' = H ∧ σ = [some d, some (.ref a), some (nV c), some (ruleV one), some (nV reach), none, none, none, none, none, none] ∧ (one = true → c ∉ s), ?_, ?_⟩
  · refine ⟨_, rfl, rfl, _, rfl, ite_b (fun c0 => ?_) (fun c0 => ?_)⟩
    · have e1 : one = true := by
        cases one with
        | true => rfl
        | false => exact absurd c0 (by decide)
      subst e1
      refine ⟨_, rfl, _, rfl, a, _, rfl, .inr (SqT.of ha), rfl, flatN s, _, rfl, ?_⟩
      show if inV (nV c) (s.map nV) = true then _ else _
      rw [inN]
      refine ite_b (fun c1 => ?_) (fun c1 => ?_)
      · have hcs : c ∈ s := of_decide_eq_true c1
        refine ⟨_, rfl, by show 2 ≤ sizeLine; decide, fun p hp => ?_⟩
        refine new_ind hp (upd _ p _) rfl fun H1 s1 e1 => ?_
        refine ⟨by show 1 ≤ sizeLine; decide, fun q hq => ?_⟩
        refine new_ind hq (upd _ q _) rfl fun H2 s2 e2 => ?_
        refine k q _ [(s, 0)] H2 (s1.trans s2) (s1.free hq) e2 (.cons ⟨p, a, rfl, s2 _ _ e1, (s1.trans s2) _ _ ha⟩ .nil) (by show 1 ≤ 1000; omega) fun u => ?_
        unfold Ans
        rw [if_pos rfl]
        constructor
        · intro hu
          have : u = s := by simpa using hu
          exact .inl ⟨hcs, this⟩
        · intro hu
          rcases hu with ⟨_, rfl⟩ | ⟨hn, _⟩
          · simp
          · exact absurd hcs hn
      · exact ⟨rfl, rfl, fun _ => of_decide_eq_false c1⟩
    · have e1 : one = false := by
        cases one with
        | true => exact absurd c0 (by decide)
        | false => rfl
      subst e1
      exact ⟨rfl, rfl, fun e => by cases e⟩
  rintro σ H' ⟨rfl, rfl, hone⟩
  refine ⟨by show 0 ≤ sizeLine; decide, fun L hL => ?_⟩
  refine new_ind hL (upd _ L _) rfl fun H1 s1 e1 => ?_
  obtain ⟨D, as, rfl, hD, hal, _⟩ := id (tb.mono s1)
  refine ⟨_, rfl, D, _, rfl, .inl (SqL.of hD), ?_⟩
  refine ⟨_, rfl, a, _, rfl, .inr (SqT.of (s1 _ _ ha)), n, h, ?_, hn, h1, h2, fun v' H2 ss s2 pss lt => ?_⟩
  · rw [List.length_map, List.length_map, hal, hlen]
    rfl
  obtain ⟨B, xs, rfl, hB, hx⟩ := lt
  have lx := Paired.len hx
  have few := stands_few (n := n) (h := h) hn h2
  have lss := pss.length_eq
  have mss : ∀ t, t ∈ ss ↔ Stand n h t := fun t => pss.mem_iff.trans mem_stands
  have hLn : H' L = none := hL
  have s02 := s1.trans s2
  have nBL : ∀ (i : Nat) (x : V), xs[i]? = some x → B ≠ L := fun i x hi e => by
    subst e
    have q := s2 _ _ e1
    rw [hB] at q
    injection q with q
    injection q with q
    rw [q] at hi
    cases hi
  refine ⟨B, rfl, ⟨xs, SqL.of hB⟩, ?_⟩
  refine for_list (K := K) (a := B) (xs := xs) (fun i σ G => Same H' G ∧ G B = some (.lst xs) ∧ Tups G xs ss ∧ ∃ (ys : List V) (es : List (List Nat × Nat)) (x6 x7 x8 x9 x10 : Option V), σ = [some (.ref D), some (.ref a), some (nV c), some (ruleV one), some (nV reach), some (.ref L), x6, x7, x8, x9, x10] ∧
      G L = some (.lst ys) ∧ PLs G ys es ∧ es.length ≤ 2 * i ∧ ∀ t, t ∈ es.map (·.1) ↔ t ∈ ss.take i ∧ Ans (RM m reach) one n s c t)
    ⟨s02, hB, hx, [], [], _, _, _, _, _, rfl, s2 _ _ e1, .nil, Nat.zero_le _, fun t => ⟨fun h => (by simp at h), fun ⟨h, _⟩ => (by simp at h)⟩⟩ (fun i σ G _ q => SqL.of q.2.1) ?_ ?_
  · rintro i x σ H3 hi ⟨s3, hB3, hx3, ys, es, x6, x7, x8, x9, x10, rfl, hL3, hp3, hel, hmm⟩
    have nL := nBL i x hi
    obtain ⟨o, ho, tx⟩ := Paired.at_ hx3 hi
    have hil2 : i < xs.length := (List.getElem?_eq_some_iff.mp hi).1
    have so : Stand n h o := (mss o).mp (List.mem_of_getElem? ho)
    have lye := Paired.len hp3
    have tk : ss.take (i + 1) = ss.take i ++ [o] := by
      rw [List.take_succ, ho]
      rfl
    have lem : ∀ es' : List (List Nat × Nat), (∀ t, t ∈ es'.map (·.1) ↔ (t ∈ es.map (·.1) ∨ (t = o ∧ Ans (RM m reach) one n s c t))) → ∀ t, t ∈ es'.map (·.1) ↔ t ∈ ss.take (i + 1) ∧ Ans (RM m reach) one n s c t := by
      intro es' h t
      rw [h t, hmm t, tk, List.mem_append]
      constructor
      · rintro (⟨hx, r⟩ | ⟨rfl, r⟩)
        · exact ⟨.inl hx, r⟩
        · exact ⟨.inr (by simp), r⟩
      · rintro ⟨hx | hx, r⟩
        · exact .inl ⟨hx, r⟩
        · exact .inr ⟨by simpa using hx, r⟩
    obtain ⟨oa, rfl, hoa⟩ := id tx
    refine ⟨_, rfl, _, rfl, oa, _, rfl, .inr (SqT.of hoa), rfl, flatN o, _, rfl, ?_⟩
    show if inV (nV c) (o.map nV) = true then _ else _
    rw [inN]
    refine ite_b (fun c1 => ?_) (fun c1 => ?_)
    · have hco : c ∈ o := of_decide_eq_true c1
      have hlo : s.length = o.length := by rw [hlen, so.1]
      have h12 : o.length = 1 ∨ o.length = 2 := by
        have := so.1
        omega
      refine ⟨_, rfl, rfl, _, rfl, ite_b (fun c0 => ?_) (fun c0 => ?_)⟩
      · have e1 : one = false := by
          cases one with
          | true => exact absurd c0 (by decide)
          | false => rfl
        subst e1
        have ansO : Ans (RM m reach) false n s c o ↔ PairOk m reach s o := by
          unfold Ans
          rw [if_neg (by decide), hlen, pairOk_iff hlo h12]
          exact ⟨fun ⟨_, _, q⟩ => q, fun q => ⟨so, hco, q⟩⟩
        refine ⟨_, rfl, _, rfl, _, rfl, _, rfl, n, reach, m, s, o, _, _, _, rfl, tb.mono s3, (ht.mono s3.tup).rd, tx, hlo, h12, hs.2.2, so.2.2, fun r H4 s4 hr4 => ?_⟩
        refine ⟨_, rfl, rfl, _, rfl, ite_b (fun c2 => ?_) (fun c2 => ?_)⟩
        · obtain ⟨ln, rfl⟩ := notNon c2
          have ok := hr4.mp ⟨ln, rfl⟩
          refine ⟨_, rfl, .inl ⟨rfl, _, SqL.of (s4 _ _ hL3)⟩, ?_⟩
          refine ⟨_, rfl, _, rfl, by show 2 ≤ sizeLine; decide, fun q hq => ?_⟩
          refine new_ind hq (upd _ q _) rfl fun H5 s5 e5 => ?_
          have s35 := s4.trans s5
          have hL5 := s35 _ _ hL3
          refine ⟨L, _, _, rfl, rfl, hL5, Nat.lt_of_le_of_lt (m := 1000) (by omega) (by decide), ?_⟩
          have ts : TSame H5 (upd H5 L (.lst (ys ++ [V.ref q]))) := TSame.upd hL5 id
          refine ⟨(s3.trans s35).put hLn _, ?_, (hx3.mono s35.tup).mono ts, ys ++ [.ref q], es ++ [(o, ln)], _, _, _, _, _, rfl, upd_same, Paired.app ((PLs.mono s35.tup hp3).mono ts) (.cons ⟨q, oa, rfl, ts _ _ True.intro e5, ts _ _ True.intro (s35 _ _ hoa)⟩ .nil), ?_, lem _ fun w => ?_⟩
          · rw [upd_ne nL]
            exact s35 _ _ hB3
          · rw [List.length_append]
            show es.length + 1 ≤ 2 * (i + 1)
            omega
          · rw [List.map_append, List.mem_append]
            constructor
            · rintro (h | h)
              · exact .inl h
              · have : w = o := by simpa using h
                subst this
                exact .inr ⟨rfl, ansO.mpr ok⟩
            · rintro (h | ⟨rfl, _⟩)
              · exact .inl h
              · exact .inr (by simp)
        · have e0 := isNonB c2
          refine ⟨s3.trans s4, s4 _ _ hB3, hx3.mono s4.tup, ys, es, _, _, _, _, _, rfl, s4 _ _ hL3, PLs.mono s4.tup hp3, by omega, lem _ fun w => ⟨.inl, ?_⟩⟩
          rintro (h | ⟨rfl, h⟩)
          · exact h
          · obtain ⟨ln, e⟩ := hr4.mpr (ansO.mp h)
            rw [e0] at e
            cases e
      · have e1 : one = true := by
          cases one with
          | true => rfl
          | false => exact absurd c0 (by decide)
        subst e1
        have ncs := hone rfl
        obtain ⟨_, ea, ha3⟩ := ((ht.mono s3.tup).rd).sq (K := K)
        cases ea
        refine ⟨_, rfl, a, _, rfl, .inr ha3, (s.length : Int), by rw [List.length_map], by omega, by omega, ?_⟩
        refine for_range (lo := 0) (n := s.length) (fun j σ G => (Same H' G ∧ G B = some (.lst xs) ∧ Tups G xs ss ∧ G oa = some (.tup (o.map nV))) ∧ ∃ (ys2 : List V) (es2 : List (List Nat × Nat)) (x8 x9 x10 : Option V), σ = [some (.ref D), some (.ref a), some (nV c), some (ruleV true), some (nV reach), some (.ref L), some (.ref oa), x7, x8, x9, x10] ∧
            G L = some (.lst ys2) ∧ PLs G ys2 es2 ∧ es2.length ≤ 2 * i + j ∧ ∀ t, t ∈ es2.map (·.1) ↔ (t ∈ es.map (·.1) ∨ (t = o ∧ ∃ (g p : Nat), g < j ∧ s[g]? = some p ∧ RM m reach p c ∧ o.Perm (c :: s.erase p))))
          ?_ ?_ ?_
        · exact ⟨⟨s3, hB3, hx3, hoa⟩, ys, es, _, _, _, rfl, hL3, hp3, hel, fun t => ⟨.inl, fun h => h.elim id fun ⟨_, g, p, hg, _⟩ => by omega⟩⟩
        · rintro j σ H4 hj ⟨⟨s04, hB4, hx4, ho4⟩, ys2, es2, x8, x9, x10, rfl, hL4, hp4, hel4, hm4⟩
          rw [Int.zero_add]
          obtain ⟨p, hp⟩ : ∃ p, s[j]? = some p := ⟨_, List.getElem?_eq_getElem hj⟩
          have hpn := hs.2.2 p (List.mem_of_getElem? hp)
          have t4 := (ht.mono s04.tup).rd
          obtain ⟨_, ea, ha4⟩ := t4.sq (K := K)
          cases ea
          obtain ⟨D', as', ea, hD', hal', hrow'⟩ := tb.mono s04
          cases ea
          have has : as'[p]? = some (as'[p]'(by omega)) := List.getElem?_eq_getElem (by omega)
          have lye2 := Paired.len hp4
          refine ⟨_, rfl, _, rfl, _, rfl, a, _, j, nV p, rfl, rfl, ha4, atI_nat (by rw [List.getElem?_map, hp]; rfl), D, _, p, .ref (as'[p]'(by omega)), rfl, rfl, SqL.of hD', atI_nat (by rw [List.getElem?_map, has]; rfl), ?_⟩
          refine ⟨_, rfl, as'[p]'(by omega), _, c, oV (m p c), rfl, rfl, SqL.of (hrow' p _ has), atI_nat (rowV_at _ hc), ?_⟩
          refine ⟨_, rfl, _, rfl, _, rfl, ?_⟩
          refine slTo t4 fun v1 H5 s5 t5 => ?_
          refine ⟨_, rfl, _, rfl, _, _, rfl, rfl, _, rfl, ?_⟩
          rw [show ((j : Nat) : Int) + 1 = ((j + 1 : Nat) : Int) from by omega]
          delta tNoPart
          dsimp only
          refine slFrom (t4.mono s5.tup) fun v2 H6 s6 t6 => ?_
          refine catR (t5.mono s6.tup) t6 (by rw [List.length_take, List.length_drop]; omega) fun v3 H7 s7 t7 => ?_
          refine ⟨_, rfl, by show 1 ≤ sizeLine; decide, fun q hq => ?_⟩
          refine new_ind hq (upd _ q _) rfl fun H8 s8 e8 => ?_
          refine catR (t := [c]) (t7.mono s8.tup) ⟨q, rfl, .inl e8⟩ (by rw [List.length_append, List.length_take, List.length_drop]; simp; omega) fun v5 H9 s9 t9 => ?_
          obtain ⟨ab, rfl, hab⟩ := t9.sq (K := K)
          refine ⟨ab, _, rfl, hab, fun ms l pm pw hl => ?_⟩
          refine new_ind hl (upd _ l _) rfl fun H10 s10 e10 => ?_
          refine ⟨l, _, rfl, .inl ⟨SqL.of e10, fun u hu => ?_⟩⟩
          refine new_ind hu (upd _ u _) rfl fun H11 s11 e11 => ?_
          have pmc : ms.Perm (c :: s.erase p) := pm.trans (erase_same hp)
          have s411 := s5.trans (s6.trans (s7.trans (s8.trans (s9.trans (s10.trans s11)))))
          have s011 := s04.trans s411
          have all : ∀ G, Same H11 G → (Same H' G ∧ G B = some (.lst xs) ∧ Tups G xs ss ∧ G oa = some (.tup (o.map nV))) := fun G sG => ⟨s011.trans sG, sG _ _ (s411 _ _ hB4), hx4.mono (s411.trans sG).tup, sG _ _ (s411 _ _ ho4)⟩
          have hL11 := s411 _ _ hL4
          have hp11 := PLs.mono s411.tup hp4
          have ho11 : H11 oa = some (.tup (o.map nV)) := s411 _ _ ho4
          have stay : ∀ G, Same H11 G → ¬ (ms = o ∧ RM m reach p c) → ∀ x8 x9 x10, (∃ (ys2 : List V) (es2 : List (List Nat × Nat)) (y8 y9 y10 : Option V), [some (.ref D), some (.ref a), some (nV c), some (ruleV true), some (nV reach), some (.ref L), some (.ref oa), x7, x8, x9, x10] = [some (.ref D), some (.ref a), some (nV c), some (ruleV true), some (nV reach), some (.ref L), some (.ref oa), x7, y8, y9, y10] ∧
              G L = some (.lst ys2) ∧ PLs G ys2 es2 ∧ es2.length ≤ 2 * i + (j + 1) ∧ ∀ t, t ∈ es2.map (·.1) ↔ (t ∈ es.map (·.1) ∨ (t = o ∧ ∃ (g p : Nat), g < j + 1 ∧ s[g]? = some p ∧ RM m reach p c ∧ o.Perm (c :: s.erase p)))) := by
            intro G sG hn x8 x9 x10
            refine ⟨ys2, es2, _, _, _, rfl, sG _ _ hL11, PLs.mono sG.tup hp11, by omega, fun t => (hm4 t).trans ⟨?_, ?_⟩⟩
            · rintro (h | ⟨h, g, p', hg, r⟩)
              · exact .inl h
              · exact .inr ⟨h, g, p', by omega, r⟩
            · rintro (h | ⟨h, g, p', hg, hgp, r, pr⟩)
              · exact .inl h
              · rcases Nat.lt_or_ge g j with lt | ge
                · exact .inr ⟨h, g, p', lt, hgp, r, pr⟩
                · have eg : g = j := by omega
                  subst eg
                  rw [hp] at hgp
                  injection hgp with hgp
                  subst hgp
                  exact absurd ⟨sorted_same (pmc.trans pr.symm) pw so.2.1, r⟩ hn
          refine ⟨_, rfl, _, rfl, _, _, .tup (SqT.of e11) (dp_nats _), .tup (SqT.of ho11) (dp_nats _), shaped_tup _, shaped_tup _, _, rfl, ?_⟩
          show if PyData.eqvAll (dN ms) (dN o) = true then _ else _
          rw [eqvAll_nats]
          refine ite_b (fun c2 => ?_) (fun c2 => ?_)
          · have c2 := of_decide_eq_true c2
            subst c2
            refine ⟨_, rfl, rfl, _, rfl, ite_b (fun c3 => ?_) (fun c3 => ?_)⟩
            · obtain ⟨dd, hdd⟩ := notNon c3
              rw [hdd]
              refine ⟨_, rfl, _, rfl, _, _, rfl, rfl, _, rfl, ite_b (fun c4 => ?_) (fun c4 => ?_)⟩
              · have hle : dd ≤ reach := by
                  have := of_decide_eq_true c4
                  omega
                have now : ∃ (g p : Nat), g < j + 1 ∧ s[g]? = some p ∧ RM m reach p c ∧ ms.Perm (c :: s.erase p) := ⟨j, p, by omega, hp, ⟨dd, hdd, hle⟩, pmc⟩
                refine ⟨_, rfl, _, rfl, by show 2 ≤ sizeLine; decide, fun q2 hq2 => ?_⟩
                refine new_ind hq2 (upd _ q2 _) rfl fun H12 s12 e12 => ?_
                have hL12 := s12 _ _ hL11
                refine ⟨_, rfl, (ms, dd), L, _, es2, ⟨q2, oa, rfl, e12, s12 _ _ ho11⟩, rfl, SqL.of hL12, PLs.mono s12.tup hp11, _, rfl, ite_b (fun c5 => ?_) (fun c5 => ?_)⟩
                · refine ⟨_, rfl, .inl ⟨rfl, _, SqL.of hL12⟩, ?_⟩
                  refine ⟨_, rfl, _, rfl, by show 2 ≤ sizeLine; decide, fun q3 hq3 => ?_⟩
                  refine new_ind hq3 (upd _ q3 _) rfl fun H13 s13 e13 => ?_
                  have hL13 := s13 _ _ hL12
                  refine ⟨L, _, _, rfl, rfl, hL13, Nat.lt_of_le_of_lt (m := 1000) (by omega) (by decide), ?_⟩
                  have ts : TSame H13 (upd H13 L (.lst (ys2 ++ [V.ref q3]))) := TSame.upd hL13 id
                  have a13 := all _ (s12.trans s13)
                  refine ⟨?_, ys2 ++ [.ref q3], es2 ++ [(ms, dd)], _, _, _, rfl, upd_same, Paired.app ((PLs.mono (s12.trans s13).tup hp11).mono ts) (.cons ⟨q3, oa, rfl, ts _ _ True.intro e13, ts _ _ True.intro ((s12.trans s13) _ _ ho11)⟩ .nil), ?_, fun w => ?_⟩
                  · refine ⟨a13.1.put hLn _, ?_, a13.2.2.1.mono ts, ts _ _ True.intro a13.2.2.2⟩
                    rw [upd_ne nL]
                    exact a13.2.1
                  · rw [List.length_append]
                    show es2.length + 1 ≤ 2 * i + (j + 1)
                    omega
                  · rw [List.map_append, List.mem_append, hm4 w]
                    constructor
                    · rintro ((h | ⟨h, g, p', hg, r⟩) | h)
                      · exact .inl h
                      · exact .inr ⟨h, g, p', by omega, r⟩
                      · have : w = ms := by simpa using h
                        exact .inr ⟨this, now⟩
                    · rintro (h | ⟨rfl, _⟩)
                      · exact .inl (.inl h)
                      · exact .inr (by simp)
                · -- it is there already
                  have hin : (ms, dd) ∈ es2 := by
                    have : decide ((ms, dd) ∈ es2) = true := by
                      cases h : decide ((ms, dd) ∈ es2) with
                      | true => rfl
                      | false => rw [h] at c5; cases c5
                    exact of_decide_eq_true this
                  have hin2 := (hm4 ms).mp (List.mem_map.mpr ⟨_, hin, rfl⟩)
                  refine ⟨all _ s12, ys2, es2, _, _, _, rfl, hL12, PLs.mono s12.tup hp11, by omega, fun w => (hm4 w).trans ⟨?_, ?_⟩⟩
                  · rintro (h | ⟨h, g, p', hg, r⟩)
                    · exact .inl h
                    · exact .inr ⟨h, g, p', by omega, r⟩
                  · rintro (h | ⟨rfl, _⟩)
                    · exact .inl h
                    · exact hin2
              · refine ⟨all _ (Same.refl _), stay H11 (Same.refl _) (fun h => ?_) _ _ _⟩
                obtain ⟨_, d', e', l'⟩ := h
                rw [hdd] at e'
                injection e' with e'
                have := of_decide_eq_false c4
                omega
            · refine ⟨all _ (Same.refl _), stay H11 (Same.refl _) (fun h => ?_) _ _ _⟩
              obtain ⟨_, d', e', l'⟩ := h
              rw [isNonB c3] at e'
              cases e'
          · exact ⟨all _ (Same.refl _), stay H11 (Same.refl _) (fun h => of_decide_eq_false c2 h.1) _ _ _⟩
        · rintro σ H4 ⟨⟨s04, hB4, hx4, ho4⟩, ys2, es2, x8, x9, x10, rfl, hL4, hp4, hel4, hm4⟩
          refine ⟨s04, hB4, hx4, ys2, es2, _, _, _, _, _, rfl, hL4, hp4, by omega, lem _ fun t => (hm4 t).trans (or_congr_right ?_)⟩
          refine and_congr_right fun et => ?_
          subst et
          unfold Ans
          rw [if_pos rfl]
          constructor
          · rintro ⟨g, p, _, hg, r, pr⟩
            exact .inr ⟨ncs, p, List.mem_of_getElem? hg, r, pr, so.2.1⟩
          · rintro (⟨h, _⟩ | ⟨_, p, hp, r, pr, _⟩)
            · exact absurd h ncs
            · obtain ⟨g, hg⟩ := List.mem_iff_getElem?.mp hp
              exact ⟨g, p, (List.getElem?_eq_some_iff.mp hg).1, hg, r, pr⟩
    · have nco : c ∉ o := of_decide_eq_false c1
      refine ⟨s3, hB3, hx3, ys, es, _, _, _, _, _, rfl, hL3, hp3, by omega, lem _ fun w => ⟨.inl, ?_⟩⟩
      rintro (h | ⟨rfl, h⟩)
      · exact h
      · exact absurd (ans_has h) nco
  · rintro σ H3 ⟨s3, hB3, hx3, ys, es, x6, x7, x8, x9, x10, rfl, hL3, hp3, hel, hmm⟩
    have hmt : ss.take xs.length = ss := by rw [lx, List.take_length]
    rw [hmt] at hmm
    refine ⟨_, rfl, k L ys es H3 s3 hLn hL3 hp3 (by omega) fun t => (hmm t).trans ⟨fun h => h.2, fun h => ⟨(mss t).mpr (ans_stand hs hc h), h⟩⟩⟩
end Ev
end
section
namespace Ev
open PySem L2
variable {P : Program} {w : World} {K : PySem.W.Frag} {mg : Str → Option Value} {base : Heap}

/-! ### _law_ranks -/
def spLRanks : Sp := fun vs H Q _ => ∃ (n h reach : Nat) (one : Bool) (m : Mx) (d : V), vs = [d, nV h, ruleV one, nV reach] ∧ TblV H d n m ∧ n ≤ 7 ∧ 1 ≤ h ∧ h ≤ 2 ∧
  ∀ D H' f kvs, Same H H' → FndAt H' D (stands n h) f kvs → (∀ s, Stand n h s → Rk (fun s c t => Ans (RM m reach) one n s c t) n s (f s)) → Q (.ref D) H'
theorem scLRanks : FnScope ["_law_rows", "_law_helpers", "_law_rule", "_law_reach", "_law_stand", "_law_rank_here", "_law_stands_here", "_law_behind", "_law_found", "_law_told", "_law_fresh", "_law_call", "_law_answers_here", "_law_other", "_law_length"] ["_law_rows", "_law_helpers", "_law_rule", "_law_reach"] (C8.fnScope (top 49)) := ⟨rfl, rfl, rfl, by decide +kernel, rfl, by decide +kernel, by decide +kernel⟩
/-- the answers of a stand to each call: a list of lists of stands -/
def BehV (H : Hp) (v : V) (n : Nat) (B : Nat → List Nat → Prop) : Prop := ∃ (a : Addr) (as : List Addr), v = .ref a ∧ H a = some (.lst (as.map V.ref)) ∧ as.length = n ∧
  ∀ (c : Nat) (b : Addr), as[c]? = some b → ∃ ys ts, H b = some (.lst ys) ∧ Tups H ys ts ∧ ts.length ≤ 1000 ∧ ∀ t, t ∈ ts ↔ B c t
theorem BehV.keep {H H' : Hp} {v : V} {n : Nat} {B : Nat → List Nat → Prop} (h : BehV H v n B) (k : KeepL H H') : BehV H' v n B := by
  obtain ⟨a, as, e, ha, hl, q⟩ := h
  refine ⟨a, as, e, k _ _ True.intro ha, hl, fun c b hb => ?_⟩
  obtain ⟨ys, ts, hy, ht, r⟩ := q c b hb
  exact ⟨ys, ts, k _ _ True.intro hy, Paired.imp (fun _ _ t => t.keep k) ht, r⟩
theorem kk_new {ss : List (List Nat)} (nd : ss.Nodup) {i : Nat} {s : List Nat} (hi : ss[i]? = some s) : s ∉ ss.take i := by
  intro h
  obtain ⟨j, hj⟩ := List.mem_iff_getElem?.mp h
  have hl := (List.getElem?_eq_some_iff.mp hj).1
  rw [List.length_take] at hl
  rw [List.getElem?_take_of_lt (by omega)] at hj
  have := nd_ix nd hi hj
  omega
theorem ok_law_ranks {f : Addr} {fd : FuncData} (F : C8.Def K mg "_law_ranks" (top 49) f fd) (b : Binds K fd ["_law_rows", "_law_helpers", "_law_rule", "_law_reach"] []) (T : Txt K mg) (c__law_stands : C8.Cal P w K mg base 1 "_law_stands" spLStands [])
    (c__law_answers : C8.Cal P w K mg base 5 "_law_answers" spLAns []) : C8.Cal P w K mg base 6 "_law_ranks" spLRanks [] := by
  refine C8.cal0 F b .nil scLRanks (fun vs H Q E h => ?_) (fun cdv A outer s H vs Q E hr h => ?_)
  · obtain ⟨n, h, reach, one, m, d, rfl, _⟩ := h
    rfl
  obtain ⟨n, h, reach, one, m, d, rfl, tb, hn, h1, h2, k⟩ := h
  have nd := scLRanks.nd
  refine ⟨_, (pss_cons (ps_asg (pe_tup (pa_cons (C8.pe_c c__law_stands hr (by decide) rfl (pa_cons (pe_callB (kcr_len (K := K) rfl) (by rfl) T.n_len bb_len (pa_cons (pv 0) pa_nil)) (pa_cons (pv 1) pa_nil))) (pa_cons pe_dnewT (pa_cons pe_dnewT pa_nil)))) (kpg_tup (K := K) (n := 3) rfl rfl (pgs_cons (pg_name (i := 6) nd rfl (by first | exact .inl rfl | exact .inr rfl)) (pgs_cons (pg_name (i := 7) nd rfl (by first | exact .inl rfl | exact .inr rfl)) (pgs_cons (pg_name (i := 8) nd rfl (by first | exact .inl rfl | exact .inr rfl)) pgs_nil)))))
 (pss_cons (ps_for PassesOwn.never rfl (kpi_list (K := K) rfl (pv 6)) (pg_name (i := 4) nd rfl (by first | exact .inl rfl | exact .inr rfl))
 (pss_cons (ps_setLc (i := 9) (own := [("_law_call", 11)]) rfl nd rfl rfl (sw_true rfl rfl rfl (by kernel_rfl)) (pi_range1 (by rfl) T.n_range (pa_cons (pe_callB (kcr_len (K := K) rfl) (by rfl) T.n_len bb_len (pa_cons (pv 0) pa_nil)) pa_nil)) (blkOk_by (own := [("_law_call", 11)]) (by kernel_rfl)) (fun _ _ _ _ _ => (pg_name (i := 11) nd rfl (by first | exact .inl rfl | exact .inr rfl))) (fun _ _ _ _ _ => pts_nil) (fun _ _ _ _ _ => (C8.pe_c c__law_answers hr (by decide) rfl (pa_cons (pv 0) (pa_cons (pv 4) (pa_cons (pv 11) (pa_cons (pv 2) (pa_cons (pv 3) pa_nil))))))))
 (pss_one (ps_dput (hu_of hr) (pv 7) (pv 4) (pe_lc (own := [("_law_answers_here", 12)]) rfl nd (kpi_list (K := K) rfl (pv 9)) (blkOk_by (own := [("_law_answers_here", 12)]) (by kernel_rfl)) (fun _ _ _ _ _ => (pg_name (i := 12) nd rfl (by first | exact .inl rfl | exact .inr rfl))) (fun _ _ _ _ _ => pts_nil) (fun _ _ _ _ _ => (pe_lc (own := [("_law_other", 13), ("_law_length", 14)]) rfl nd (kpi_list (K := K) rfl (pv 12)) (blkOk_by (own := [("_law_other", 13), ("_law_length", 14)]) (by kernel_rfl)) (fun _ _ _ _ _ => (kpg_tup (K := K) (n := 2) rfl rfl (pgs_cons (pg_name (i := 13) nd rfl (by first | exact .inl rfl | exact .inr rfl)) (pgs_cons (pg_name (i := 14) nd rfl (by first | exact .inl rfl | exact .inr rfl)) pgs_nil)))) (fun _ _ _ _ _ => pts_nil) (fun _ _ _ _ _ => (pv 13))))) rfl))))
 (pss_cons (ps_for PassesOwn.never rfl (pi_range2 (by rfl) T.n_range (pa_cons pe_int (pa_cons (pe_op op_add (pe_callB (kcr_len (K := K) rfl) (by rfl) T.n_len bb_len (pa_cons (pv 6) pa_nil)) pe_int) pa_nil))) (pg_name (i := 5) nd rfl (by first | exact .inl rfl | exact .inr rfl))
 (pss_cons (ps_set (i := 10) nd rfl (by first | exact .inl rfl | exact .inr rfl) (pe_lst pa_nil))
 (pss_cons (ps_for PassesOwn.never rfl (kpi_list (K := K) rfl (pv 6)) (pg_name (i := 4) nd rfl (by first | exact .inl rfl | exact .inr rfl))
 (pss_one (ps_if (PW.pt (pw_and (pt_cmp (pc_dnotin (hu_of hr) (pv 4) (pv 8)) (by rfl)) (pw_and1 (pt_val (pe_callB (kcr_any rfl (K := K) rfl) (by rfl) T.n_any bb_any (pa_cons (pe_lc (own := [("_law_answers_here", 12)]) rfl nd (kpi_list (K := K) rfl (pe_dget (hu_of hr) (pv 7) (pv 4) (fun _ _ => rfl))) (blkOk_by (own := [("_law_answers_here", 12)]) (by kernel_rfl)) (fun _ _ _ _ _ => (pg_name (i := 12) nd rfl (by first | exact .inl rfl | exact .inr rfl))) (fun _ _ _ _ _ => pts_nil) (fun _ _ _ _ _ => (pe_callB (kcr_all rfl (K := K) rfl) (by rfl) T.n_all bb_all (pa_cons (pe_lc (own := [("_law_other", 13)]) rfl nd (kpi_list (K := K) rfl (pv 12)) (blkOk_by (own := [("_law_other", 13)]) (by kernel_rfl)) (fun _ _ _ _ _ => (pg_name (i := 13) nd rfl (by first | exact .inl rfl | exact .inr rfl))) (fun _ _ _ _ _ => pts_nil) (fun _ _ _ _ _ => (pe_cmp (pc_din (hu_of hr) (pv 13) (pv 8)) (by rfl)))) pa_nil)))) pa_nil)) (by intro _; rfl)))))
 (pss_one (ps_expr (pe_bm PySem.F.plainAttrs_list PySem.F.slot_list_append PySem.F.type_list_append mt_append (pv 10) (pa_cons (pv 4) pa_nil))))
 pss_nil)))
 (pss_one (ps_for PassesOwn.never rfl (kpi_list (K := K) rfl (pv 10)) (pg_name (i := 4) nd rfl (by first | exact .inl rfl | exact .inr rfl))
 (pss_one (ps_dput (hu_of hr) (pv 8) (pv 4) (pv 5) rfl)))))))
 (pss_one (ps_ret (pv 8)))))), ?_⟩
  obtain ⟨DT, asT, rfl, hDT, halT, _⟩ := id tb
  refine ⟨_, rfl, DT, _, rfl, .inl (SqL.of hDT), _, rfl, n, h, by rw [List.length_map, halT]; rfl, hn, h1, h2, fun v' H1 ss s1 pss lt => ?_⟩
  obtain ⟨B, xs, rfl, hB, hx⟩ := lt
  have lx := Paired.len hx
  have few := stands_few (n := n) (h := h) hn h2
  have lss := pss.length_eq
  have ssn : ss.Nodup := pss.nodup_iff.mpr (stands_nodup n h)
  have mss : ∀ t, t ∈ ss ↔ Stand n h t := fun t => pss.mem_iff.trans mem_stands
  refine fun Bh hBh => ?_
  refine new_ind hBh (upd _ Bh _) rfl fun H2 s2 e2 => ?_
  refine fun Fa hFa => ?_
  refine new_ind hFa (upd _ Fa _) rfl fun H3 s3 e3 => ?_
  refine ⟨by show 3 ≤ sizeLine; decide, fun q hq => ?_⟩
  refine new_ind hq (upd _ q _) rfl fun H4 s4 e4 => ?_
  refine ⟨q, _, rfl, SqT.of e4, rfl, _, _, rfl, _, _, rfl, _, _, rfl, rfl, ?_⟩
  have s14 := s2.trans (s3.trans s4)
  have nBF : Bh ≠ Fa := ne_of_none e2 hFa
  have hBh0 := s1.free hBh
  have hFa0 := (s1.trans s2).free hFa
  refine ⟨_, rfl, B, rfl, ⟨_, SqL.of (s14 _ _ hB)⟩, ?_⟩
  refine for_list (K := K) (a := B) (xs := xs) (fun i σ G => Same H G ∧ G B = some (.lst xs) ∧ Tups G xs ss ∧ G Fa = some (.dT []) ∧ ∃ (kvs : List (List Key × V)) (x4 x5 x9 x10 x11 x12 x13 x14 : Option V), σ = [some (.ref DT), some (nV h), some (ruleV one), some (nV reach), x4, x5, some (.ref B), some (.ref Bh), some (.ref Fa), x9, x10, x11, x12, x13, x14] ∧
      G Bh = some (.dT kvs) ∧ kvs.map (·.1) = (ss.take i).map kk ∧ ∀ (j : Nat) p s, kvs[j]? = some p → ss[j]? = some s → BehV G p.2 n fun c t => Ans (RM m reach) one n s c t)
    ⟨s1.trans s14, s14 _ _ hB, hx.mono s14.tup, s4 _ _ e3, [], _, _, _, _, _, _, _, _, rfl, s4 _ _ (s3 _ _ e2), rfl, fun j p s hj => by simp at hj⟩ (fun i σ G _ q => SqL.of q.2.1) ?_ ?_
  · rintro i x σ H5 hi ⟨s5, hB5, hx5, hF5, kvs, x4, x5, x9, x10, x11, x12, x13, x14, rfl, hBh5, ek, hbeh⟩
    obtain ⟨s, hs, tx⟩ := Paired.at_ hx5 hi
    have sst : Stand n h s := (mss s).mp (List.mem_of_getElem? hs)
    have hil : i < ss.length := (List.getElem?_eq_some_iff.mp hs).1
    have tb5 := tb.mono s5
    obtain ⟨_, asT, ea, hDT5, halT, _⟩ := id tb5
    cases ea
    refine ⟨_, rfl, DT, _, rfl, .inl (SqL.of hDT5), (n : Int), by rw [List.length_map, halT], by omega, by omega, fun A2 hA2 => ?_⟩
    refine lc_range (lo := 0) (n := n) (fun c G => Same H5 G ∧ ∃ as : List Addr, G A2 = some (.lst (as.map V.ref)) ∧ as.length = c ∧ ∀ (g : Nat) (e : Addr), as[g]? = some e → ∃ ys es, G e = some (.lst ys) ∧ PLs G ys es ∧ es.length ≤ 1000 ∧ ¬ e = A2 ∧ ∀ t, t ∈ es.map (·.1) ↔ Ans (RM m reach) one n s g t)
      ⟨Same.new hA2 _, [], upd_same, rfl, fun g e he => by simp at he⟩ ?_ ?_
    · rintro c G6 hc ⟨s6, as, hA6, hal, hall⟩
      rw [Int.zero_add]
      refine ⟨rfl, ?_⟩
      refine ⟨_, rfl, _, rfl, _, rfl, _, rfl, _, rfl, n, h, c, reach, one, m, s, _, x, rfl, tb5.mono s6, tx.mono s6.tup, sst, hn, h1, h2, hc, fun a ys es G7 s7 hn7 ha hp lp hm => ?_⟩
      have hA7 := s7 _ _ hA6
      have na : a ≠ A2 := (ne_of_none hA6 hn7).symm
      have ts : TSame G7 (upd G7 A2 (.lst (as.map V.ref ++ [V.ref a]))) := TSame.upd hA7 id
      refine ⟨_, hA7, Nat.lt_of_le_of_lt (m := 1000) (by rw [List.length_map]; omega) (by decide), (s6.trans s7).put hA2 _, as ++ [a], by rw [upd_same, List.map_append]; rfl, by rw [List.length_append, hal]; rfl, fun g e he => ?_⟩
      rcases Nat.lt_or_ge g as.length with lt | ge
      · rw [List.getElem?_append_left lt] at he
        obtain ⟨ys', es', hy', hp', hl', ne', hm'⟩ := hall g e he
        exact ⟨ys', es', by rw [upd_ne ne']; exact s7 _ _ hy', PLs.mono ts (PLs.mono s7.tup hp'), hl', ne', hm'⟩
      · have eg : g = as.length := by
          have := (List.getElem?_eq_some_iff.mp he).1
          rw [List.length_append] at this
          simp at this
          omega
        rw [List.getElem?_append_right ge, eg, Nat.sub_self] at he
        have e' : a = e := by simpa using he
        subst e'
        refine ⟨ys, es, by rw [upd_ne na]; exact ha, PLs.mono ts hp, lp, na, fun t => ?_⟩
        rw [eg, hal]
        exact hm t
    · rintro G6 ⟨s6, as, hA6, hal, hall⟩
      refine ⟨_, rfl, A2, rfl, ⟨_, SqL.of hA6⟩, fun D2 hD2 => ?_⟩
      refine lc_list (K := K) (a := A2) (xs := as.map V.ref) (fun c G => Same G6 G ∧ ∃ bs : List Addr, G D2 = some (.lst (bs.map V.ref)) ∧ bs.length = c ∧ ∀ (g : Nat) (e : Addr), bs[g]? = some e → ∃ ys ts, G e = some (.lst ys) ∧ Tups G ys ts ∧ ts.length ≤ 1000 ∧ ¬ e = D2 ∧ ∀ t, t ∈ ts ↔ Ans (RM m reach) one n s g t)
        ⟨Same.new hD2 _, [], upd_same, rfl, fun g e he => by simp at he⟩ (fun c G _ q => SqL.of (q.1 _ _ hA6)) ?_ ?_
      · rintro c y G7 hc ⟨s7, bs, hD7, hbl, hbs⟩
        rw [List.getElem?_map] at hc
        obtain ⟨e, he, rfl⟩ := Option.map_eq_some_iff.mp hc
        obtain ⟨ys, es, hy, hp, hel, _, hm⟩ := hall c e he
        have hy7 := s7 _ _ hy
        refine ⟨rfl, ?_⟩
        refine ⟨_, rfl, e, rfl, ⟨_, SqL.of hy7⟩, fun D3 hD3 => ?_⟩
        refine lc_list (K := K) (a := e) (xs := ys) (fun g G => Same G7 G ∧ ∃ zs, G D3 = some (.lst zs) ∧ Tups G zs ((es.take g).map (·.1))) ⟨Same.new hD3 _, [], upd_same, .nil⟩ (fun g G _ q => SqL.of (q.1 _ _ hy7)) ?_ ?_
        · rintro g z G8 hz ⟨s8, zs, hD8, tz⟩
          obtain ⟨pr, hpr, q', b', rfl, hq', hb'⟩ := Paired.at_ (PLs.mono (s7.trans s8).tup hp) hz
          have lz := Paired.len tz
          rw [List.length_map, List.length_take] at lz
          have ts : TSame G8 (upd G8 D3 (.lst (zs ++ [V.ref b']))) := TSame.upd hD8 id
          refine ⟨q', _, rfl, SqT.of hq', rfl, _, _, rfl, _, _, rfl, rfl, rfl, ?_⟩
          refine ⟨_, rfl, _, hD8, Nat.lt_of_le_of_lt (m := 1000) (by omega) (by decide), s8.put hD3 _, _, upd_same, ?_⟩
          rw [List.take_succ, hpr, List.map_append]
          exact Paired.app (tz.mono ts) (.cons ⟨b', rfl, ts _ _ True.intro hb'⟩ .nil)
        · rintro G8 ⟨s8, zs, hD8, tz⟩
          rw [Paired.len hp, List.take_length] at tz
          have hD8' := s8 _ _ hD7
          have nD : D3 ≠ D2 := (ne_of_none hD7 hD3).symm
          have ts : TSame G8 (upd G8 D2 (.lst (bs.map V.ref ++ [V.ref D3]))) := TSame.upd hD8' id
          have hbn : bs.length < n := by
            have := (List.getElem?_eq_some_iff.mp he).1
            omega
          refine ⟨_, hD8', Nat.lt_of_le_of_lt (m := 1000) (by rw [List.length_map]; omega) (by decide), (s7.trans s8).put hD2 _, bs ++ [D3], by rw [upd_same, List.map_append]; rfl, by rw [List.length_append, hbl]; rfl, fun g e he => ?_⟩
          rcases Nat.lt_or_ge g bs.length with lt | ge
          · rw [List.getElem?_append_left lt] at he
            obtain ⟨ys', ts', hy', hp', hl', ne', hm'⟩ := hbs g e he
            exact ⟨ys', ts', by rw [upd_ne ne']; exact s8 _ _ hy', (hp'.mono s8.tup).mono ts, hl', ne', hm'⟩
          · have eg : g = bs.length := by
              have := (List.getElem?_eq_some_iff.mp he).1
              rw [List.length_append] at this
              simp at this
              omega
            rw [List.getElem?_append_right ge, eg, Nat.sub_self] at he
            have e' : D3 = e := by simpa using he
            subst e'
            refine ⟨zs, _, by rw [upd_ne nD]; exact hD8, tz.mono ts, by rw [List.length_map]; exact hel, nD, fun t => ?_⟩
            rw [eg, hbl]
            exact hm t
      · rintro G7 ⟨s7, bs, hD7, hbl, hbs⟩
        rw [List.length_map, hal] at hbl
        have s57 := s6.trans s7
        obtain ⟨sa, rfl, hsa⟩ := tx.mono s57.tup
        have hBh7 := s57 _ _ hBh5
        have lk : kvs.length = i := by
          have := congrArg List.length ek
          rw [List.length_map, List.length_map, List.length_take] at this
          omega
        have new : valV kvs (kk s) = none := by
          cases e : valV kvs (kk s) with
          | none => rfl
          | some v =>
            have h3 : kk s ∈ kvs.map (·.1) := List.mem_map.mpr ⟨_, valV_in e, rfl⟩
            rw [ek] at h3
            obtain ⟨s', hs', ee⟩ := List.mem_map.mp h3
            rw [kk_inj ee] at hs'
            exact absurd hs' (kk_new ssn hs)
        refine ⟨_, rfl, _, rfl, Bh, _, rfl, DPut.t (k := kk s) hBh7 (by rw [kk_map]; exact hsa) (Nat.lt_of_le_of_lt (m := 1000) (by omega) (by decide)), ?_⟩
        rw [putK_new _ new]
        have kl : KeepL G7 (upd G7 Bh (.dT (kvs ++ [(kk s, V.ref D2)]))) := KeepL.upd fun o e => by
          rw [hBh7] at e
          injection e with e
          subst e
          exact id
        have nB : B ≠ Bh := ne_of hB5 hBh5 fun q => nomatch q
        refine ⟨(s5.trans s57).put hBh0 _, ?_, Paired.imp (fun _ _ t => t.keep kl) (hx5.mono s57.tup), ?_, kvs ++ [(kk s, .ref D2)], _, _, _, _, _, _, _, _, rfl, upd_same, ?_, fun j p s' hj hs' => ?_⟩
        · rw [upd_ne nB]
          exact s57 _ _ hB5
        · rw [upd_ne nBF.symm]
          exact s57 _ _ hF5
        · rw [List.map_append, ek, List.take_succ, hs, List.map_append]
          rfl
        · rcases Nat.lt_or_ge j kvs.length with lt | ge
          · rw [List.getElem?_append_left lt] at hj
            exact ((hbeh j p s' hj hs').keep s57.keepL).keep kl
          · have eg : j = kvs.length := by
              have := (List.getElem?_eq_some_iff.mp hj).1
              rw [List.length_append] at this
              simp at this
              omega
            rw [List.getElem?_append_right ge, eg, Nat.sub_self] at hj
            have e' : (kk s, V.ref D2) = p := by simpa using hj
            subst e'
            rw [eg, lk, hs] at hs'
            injection hs' with hs'
            subst hs'
            refine BehV.keep ⟨D2, bs, rfl, hD7, hbl, fun c b hb => ?_⟩ kl
            obtain ⟨ys, ts, hy, ht, hl, _, hm⟩ := hbs c b hb
            exact ⟨ys, ts, hy, ht, hl, hm⟩
  · rintro σ G0 ⟨s0, hB0, hx0, hF0, kvs, x4, x5, x9, x10, x11, x12, x13, x14, rfl, hBh, ek, hbeh⟩
    have eall : ss.take xs.length = ss := by rw [lx, List.take_length]
    rw [eall] at ek
    have lk : kvs.length = ss.length := by
      have := congrArg List.length ek
      rwa [List.length_map, List.length_map] at this
    have hcl : Closed (fun s c t => Ans (RM m reach) one n s c t) n h := fun s c t hs hc a => ans_stand hs hc a
    refine ⟨_, rfl, B, _, rfl, .inl (SqL.of hB0), _, _, rfl, rfl, (1 : Int), (xs.length : Int) + 1, rfl, ⟨by omega, by omega, by omega, by omega⟩, ?_⟩
    have en : (((xs.length : Nat) : Int) + 1 - 1).toNat = ss.length := by omega
    rw [en]
    have nFB : B ≠ Fa := ne_of hB0 hF0 fun q => nomatch q
    have kpl : ∀ {G : Hp}, Kp Fa G0 G → KeepL G0 G := fun kp b o p q => kp b o (by
      rintro rfl
      rw [hF0] at q
      injection q with q
      subst q
      exact p) q
    refine for_range (lo := 1) (n := ss.length) (fun r σ G => Kp Fa G0 G ∧ ∃ (f : List Nat → Option Nat) (kvs' : List (List Key × V)) (x4 x5 x9 x10 x11 x12 x13 x14 : Option V), σ = [some (.ref DT), some (nV h), some (ruleV one), some (nV reach), x4, x5, some (.ref B), some (.ref Bh), some (.ref Fa), x9, x10, x11, x12, x13, x14] ∧
        FndAt G Fa (stands n h) f kvs' ∧ Fd (fun s c t => Ans (RM m reach) one n s c t) n h r f)
      ⟨fun b o _ q => q, fun _ => none, [], _, _, _, _, _, _, _, _, rfl, ⟨hF0, fun s _ => rfl, [], rfl, .nil, fun s hs => (by cases hs), [], rfl⟩, fd_zero⟩ ?_ ?_
    · rintro r σ G1 hr1 ⟨kp1, f, kvs1, x4, x5, x9, x10, x11, x12, x13, x14, rfl, hF1, fd⟩
      rw [show (1 : Int) + (r : Int) = ((r + 1 : Nat) : Int) from by omega]
      refine ⟨by show 0 ≤ sizeLine; decide, fun L hL => ?_⟩
      refine new_ind hL (upd _ L _) rfl fun G2 s2' e2' => ?_
      have hB1 := kp1 _ _ nFB hB0
      have hx1 : Tups G1 xs ss := Paired.imp (fun _ _ t => t.keep (kpl kp1)) hx0
      have hBh1 := kp1 _ _ nBF hBh
      have nFL : Fa ≠ L := ne_of_none hF1.1 hL
      refine ⟨_, rfl, B, rfl, ⟨_, SqL.of (s2' _ _ hB1)⟩, ?_⟩
      refine for_list (K := K) (a := B) (xs := xs) (fun i σ G => Same G1 G ∧ ∃ (frs : List (List Nat)) (ys : List V) (x4 x9 x11 x12 x13 x14 : Option V), σ = [some (.ref DT), some (nV h), some (ruleV one), some (nV reach), x4, some (nV (r + 1)), some (.ref B), some (.ref Bh), some (.ref Fa), x9, some (.ref L), x11, x12, x13, x14] ∧
          G L = some (.lst ys) ∧ Tups G ys frs ∧ frs.length ≤ i ∧ frs.Sublist (ss.take i) ∧ ∀ s, s ∈ frs ↔ s ∈ ss.take i ∧ New (fun s c t => Ans (RM m reach) one n s c t) n f s)
        ⟨s2', [], [], _, _, _, _, _, _, rfl, e2', .nil, Nat.zero_le _, List.nil_sublist _, fun s => ⟨fun q => (by cases q), fun q => (by simp at q)⟩⟩ (fun i σ G _ q => SqL.of (q.1 _ _ hB1)) ?_ ?_
      · rintro i x σ G3 hi ⟨s3', frs, ys, x4, x9, x11, x12, x13, x14, rfl, hL3, tx3, lfr, sub, hfr⟩
        obtain ⟨s, hs, sa, rfl, hsa⟩ := Paired.at_ hx1 hi
        have hsm := List.mem_of_getElem? hs
        have sst : Stand n h s := (mss s).mp hsm
        have hst : s ∈ stands n h := mem_stands.mpr sst
        have his : i < ss.length := (List.getElem?_eq_some_iff.mp hs).1
        have hsa3 := s3' _ _ hsa
        have hF3 : FndAt G3 Fa (stands n h) f kvs1 := hF1.mono (by rw [s3' _ _ hF1.1, hF1.1])
        have tk : ss.take (i + 1) = ss.take i ++ [s] := by
          rw [List.take_succ, hs]
          rfl
        have stay : ¬ New (fun s c t => Ans (RM m reach) one n s c t) n f s → (∀ t, t ∈ frs ↔ t ∈ ss.take (i + 1) ∧ New (fun s c t => Ans (RM m reach) one n s c t) n f t) := fun nn t => by
          rw [hfr t, tk, List.mem_append]
          constructor
          · rintro ⟨a, b⟩
            exact ⟨.inl a, b⟩
          · rintro ⟨a | a, b⟩
            · exact ⟨a, b⟩
            · have : t = s := by simpa using a
              subst this
              exact absurd b nn
        have sub' : frs.Sublist (ss.take (i + 1)) := by
          rw [tk]
          exact sub.trans (List.sublist_append_left _ _)
        refine ⟨_, rfl, _, rfl, Fa, _, rfl, DGet.t (k := kk s) hF3.1 (by rw [kk_map]; exact hsa3), _, rfl, ?_⟩
        rw [hF3.2.1 s hst]
        refine ite_b (fun c1 => ?_) (fun c1 => ?_)
        · have fs : f s = none := by
            cases e : f s with
            | none => rfl
            | some r => rw [e] at c1; cases c1
          obtain ⟨pr, hpr⟩ : ∃ p, kvs[i]? = some p := ⟨_, List.getElem?_eq_getElem (by omega)⟩
          have ekp : pr.1 = kk s := by
            have h1 : (kvs.map (·.1))[i]? = some pr.1 := by rw [List.getElem?_map, hpr]; rfl
            rw [ek, List.getElem?_map, hs] at h1
            injection h1 with h1
            exact h1.symm
          have hv : valV kvs (kk s) = some pr.2 := by
            rw [← ekp]
            refine valV_nd ?_ (List.mem_of_getElem? hpr)
            rw [ek]
            exact kk_nodup ssn
          have kl03 : KeepL G0 G3 := (kpl kp1).trans s3'.keepL
          obtain ⟨av, as, eav, hav, hal, hall⟩ := (hbeh i pr s hpr hs).keep kl03
          refine ⟨_, rfl, _, rfl, Bh, pr.2, rfl, ?_, ?_⟩
          · have g := DGet.t (k := kk s) (s3' _ _ hBh1) (show G3 sa = some (.tup ((kk s).map kV)) by rw [kk_map]; exact hsa3)
            rw [hv] at g
            exact g
          rw [eav]
          refine ⟨av, rfl, ⟨_, SqL.of hav⟩, fun D2 hD2 => ?_⟩
          classical
          let okc : Nat → Bool := fun c => decide (∀ t, Ans (RM m reach) one n s c t → (f t).isSome = true)
          refine lc_list (K := K) (a := av) (xs := as.map V.ref) (fun c G => Same G3 G ∧ G D2 = some (.lst (((List.range c).map okc).map V.bl))) ⟨Same.new hD2 _, upd_same⟩ (fun c G _ q => SqL.of (q.1 _ _ hav)) ?_ ?_
          · rintro c x G4 hc ⟨s4', e4'⟩
            rw [List.getElem?_map] at hc
            obtain ⟨e, he, rfl⟩ := Option.map_eq_some_iff.mp hc
            obtain ⟨zs, ts, hz, tz, hzl, hzm⟩ := hall c e he
            have hcn : c < n := by
              have := (List.getElem?_eq_some_iff.mp he).1
              omega
            have lz := Paired.len tz
            have hz4 := s4' _ _ hz
            refine ⟨rfl, ?_⟩
            refine ⟨_, rfl, e, rfl, ⟨_, SqL.of hz4⟩, fun D3 hD3 => ?_⟩
            refine lc_list (K := K) (a := e) (xs := zs) (fun g G => Same G4 G ∧ G D3 = some (.lst (((ts.take g).map fun t => (f t).isSome).map V.bl))) ⟨Same.new hD3 _, upd_same⟩ (fun g G _ q => SqL.of (q.1 _ _ hz4)) ?_ ?_
            · rintro g z G5 hg ⟨s5', e5'⟩
              obtain ⟨t, ht, b', rfl, hb'⟩ := Paired.at_ tz hg
              have hts : t ∈ stands n h := mem_stands.mpr (hcl s c t sst hcn ((hzm t).mp (List.mem_of_getElem? ht)))
              have s35 := s4'.trans s5'
              have hF5 : FndAt G5 Fa (stands n h) f kvs1 := hF3.mono (by rw [s35 _ _ hF3.1, hF3.1])
              refine ⟨rfl, ?_⟩
              refine ⟨_, rfl, _, rfl, Fa, _, rfl, DGet.t (k := kk t) hF5.1 (by rw [kk_map]; exact s35 _ _ hb'), ?_⟩
              rw [hF5.2.1 _ hts]
              refine ⟨_, e5', Nat.lt_of_le_of_lt (m := 1000) ?_ (by decide), s5'.put hD3 _, ?_⟩
              · rw [List.length_map, List.length_map, List.length_take]
                exact Nat.le_trans (Nat.min_le_right _ _) hzl
              · rw [upd_same, List.take_succ, ht, List.map_append, List.map_append]
                show _ = some (HO.lst (_ ++ [V.bl (f t).isSome]))
                rw [Option.isSome_map]
            · rintro G5 ⟨s5', e5'⟩
              rw [lz, List.take_length] at e5'
              refine ⟨D3, _, rfl, SqL.of e5', _, s5' _ _ e4', ?_, (s4'.trans s5').put hD2 _, ?_⟩
              · exact Nat.lt_of_le_of_lt (m := 1000) (by rw [List.length_map, List.length_map, List.length_range]; omega) (by decide)
              · rw [upd_same, List.range_succ, List.map_append, List.map_append]
                have ea : ((ts.map fun t => (f t).isSome).all id) = okc c := by
                  rw [Bool.eq_iff_iff, List.all_eq_true]
                  show _ ↔ decide _ = true
                  rw [decide_eq_true_iff]
                  constructor
                  · intro q t ht
                    exact q _ (List.mem_map.mpr ⟨t, (hzm t).mpr ht, rfl⟩)
                  · intro q z hz
                    obtain ⟨t, ht, rfl⟩ := List.mem_map.mp hz
                    exact q _ ((hzm t).mp ht)
                rw [ea]
                rfl
          · rintro G4 ⟨s4', e4'⟩
            rw [List.length_map, hal] at e4'
            have hL4 := s4' _ _ hL3
            have new_iff : ((List.range n).map okc).any id = true ↔ New (fun s c t => Ans (RM m reach) one n s c t) n f s := by
              rw [List.any_eq_true]
              constructor
              · rintro ⟨z, hz, ez⟩
                obtain ⟨c, hc, rfl⟩ := List.mem_map.mp hz
                have hc := List.mem_range.mp hc
                exact ⟨fs, c, hc, of_decide_eq_true ez⟩
              · rintro ⟨_, c, hc, q⟩
                exact ⟨true, List.mem_map.mpr ⟨c, List.mem_range.mpr hc, decide_eq_true q⟩, rfl⟩
            refine ⟨D2, _, rfl, SqL.of e4', _, rfl, ite_b (fun c2 => ?_) (fun c2 => ?_)⟩
            · have nw := new_iff.mp c2
              have ly := Paired.len tx3
              refine ⟨_, rfl, .inl ⟨rfl, _, SqL.of hL4⟩, _, rfl, L, ys, _, rfl, rfl, hL4, Nat.lt_of_le_of_lt (m := 1000) (by omega) (by decide), ?_⟩
              have ts : TSame G4 (upd G4 L (.lst (ys ++ [V.ref sa]))) := TSame.upd hL4 id
              refine ⟨(s3'.trans s4').put hL _, frs ++ [s], _, _, _, _, _, _, _, rfl, upd_same, Paired.app ((tx3.mono s4'.tup).mono ts) (.cons ⟨sa, rfl, ts _ _ True.intro (s4' _ _ hsa3)⟩ .nil), ?_, ?_, fun t => ?_⟩
              · rw [List.length_append]
                show frs.length + 1 ≤ i + 1
                omega
              · rw [tk]
                exact sub.append (List.Sublist.refl _)
              · rw [List.mem_append, hfr t, tk, List.mem_append]
                constructor
                · rintro (⟨a, b⟩ | a)
                  · exact ⟨.inl a, b⟩
                  · have : t = s := by simpa using a
                    subst this
                    exact ⟨.inr a, nw⟩
                · rintro ⟨a | a, b⟩
                  · exact .inl ⟨a, b⟩
                  · exact .inr a
            · have nn : ¬ New (fun s c t => Ans (RM m reach) one n s c t) n f s := fun nw => by
                rw [new_iff.mpr nw] at c2
                cases c2
              exact ⟨s3'.trans s4', frs, ys, _, _, _, _, _, _, rfl, hL4, tx3.mono s4'.tup, by omega, sub', stay nn⟩
        · have nn : ¬ New (fun s c t => Ans (RM m reach) one n s c t) n f s := fun nw => by
            rw [nw.1] at c1
            cases c1
          exact ⟨s3', frs, ys, _, _, _, _, _, _, rfl, hL3, tx3, by omega, sub', stay nn⟩
      · rintro σ G3 ⟨s3', frs, ys, x4, x9, x11, x12, x13, x14, rfl, hL3, tx3, lfr, sub, hfr⟩
        rw [eall] at sub hfr
        have fnd : frs.Nodup := ssn.sublist sub
        have ly := Paired.len tx3
        refine ⟨_, rfl, L, rfl, ⟨_, SqL.of hL3⟩, ?_⟩
        have hF3 : FndAt G3 Fa (stands n h) f kvs1 := hF1.mono (by rw [s3' _ _ hF1.1, hF1.1])
        refine for_list (K := K) (a := L) (xs := ys) (fun i σ G => Kp Fa G0 G ∧ G L = some (.lst ys) ∧ Tups G ys frs ∧ ∃ (kvs' : List (List Key × V)) (x4 x9 x11 x12 x13 x14 : Option V), σ = [some (.ref DT), some (nV h), some (ruleV one), some (nV reach), x4, some (nV (r + 1)), some (.ref B), some (.ref Bh), some (.ref Fa), x9, some (.ref L), x11, x12, x13, x14] ∧
            FndAt G Fa (stands n h) (fun s => if s ∈ frs.take i then some (r + 1) else f s) kvs')
          ⟨fun b o nb q => s3' _ _ (kp1 b o nb q), hL3, tx3, kvs1, _, _, _, _, _, _, rfl, by
            have e0 : (fun s => if s ∈ frs.take 0 then some (r + 1) else f s) = f := by
              funext s
              simp
            rw [e0]
            exact hF3⟩ (fun i σ G _ q => SqL.of q.2.1) ?_ ?_
        · rintro i x σ G4 hi ⟨kp4, hL4, tx4, kvs', x4, x9, x11, x12, x13, x14, rfl, hF4⟩
          obtain ⟨s, hs, sa, rfl, hsa⟩ := Paired.at_ tx4 hi
          have hsf := List.mem_of_getElem? hs
          have hnew := (hfr s).mp hsf
          have hst : s ∈ stands n h := mem_stands.mpr ((mss s).mp hnew.1)
          have tk : frs.take (i + 1) = frs.take i ++ [s] := by
            rw [List.take_succ, hs]
            rfl
          have nin : s ∉ frs.take i := kk_new fnd hs
          have hgs : (fun s => if s ∈ frs.take i then some (r + 1) else f s) s = none := by
            show (if s ∈ frs.take i then some (r + 1) else f s) = none
            rw [if_neg nin]
            exact hnew.2.1
          have hlen := hF4.few (stands_nodup n h)
          refine ⟨_, rfl, _, rfl, _, rfl, Fa, _, rfl, DPut.t (k := kk s) hF4.1 (by rw [kk_map]; exact hsa) (Nat.lt_of_le_of_lt (m := 1000) (by omega) (by decide)), ?_⟩
          have hput := hF4.put hst hgs (r + 1)
          refine ⟨kp4.put, by rw [upd_ne nFL.symm]; exact hL4, tx4.mono (TSame.upd hF4.1 id), putK kvs' (kk s) (nV (r + 1)), _, _, _, _, _, _, rfl, ?_⟩
          have e1 : (fun t => if t = s then some (r + 1) else (fun s => if s ∈ frs.take i then some (r + 1) else f s) t) = fun t => if t ∈ frs.take (i + 1) then some (r + 1) else f t := by
            funext t
            rw [tk]
            by_cases h1 : t = s
            · simp [h1]
            · by_cases h2 : t ∈ frs.take i
              · simp [h1, h2]
              · simp [h1, h2]
          rw [e1] at hput
          exact hput
        · rintro σ G4 ⟨kp4, hL4, tx4, kvs', x4, x9, x11, x12, x13, x14, rfl, hF4⟩
          have ef : frs.take ys.length = frs := by rw [ly, List.take_length]
          rw [ef] at hF4
          exact ⟨kp4, _, kvs', _, _, _, _, _, _, _, _, rfl, hF4, Fd.step hcl fd fun s hs => ⟨fun nw => if_pos ((hfr s).mpr ⟨(mss s).mpr hs, nw⟩), fun nn => if_neg fun q => nn ((hfr s).mp q).2⟩⟩
    · rintro σ G1 ⟨kp1, f, kvs1, x4, x5, x9, x10, x11, x12, x13, x14, rfl, hF1, fd⟩
      refine ⟨_, rfl, k Fa G1 f kvs1 (fun b o q => ?_) hF1 fun s hs => Fd.full hcl mss fd hs⟩
      exact kp1 b o (ne_of_none q hFa0) (s0 _ _ q)
end Ev
end
section
namespace Ev
open PySem L2
variable {P : Program} {w : World} {K : PySem.W.Frag} {mg : Str → Option Value} {base : Heap}

/-! ### _law_ways -/
theorem scLWays : FnScope ["_law_town_here", "_law_rows", "_law_start", "_law_places", "_law_roads", "_law_row", "_law_turn", "_law_first", "_law_second", "_law_length", "_law_one", "_law_other"] ["_law_town_here"] (C8.fnScope (top 44)) := ⟨rfl, rfl, rfl, by decide +kernel, rfl, by decide +kernel, by decide +kernel⟩
theorem rep_none (n : Nat) : (List.replicate n [V.non]).flatten = rowV n fun _ => none := by
  induction n with
  | zero => rfl
  | succ n ih =>
    rw [List.replicate_succ', List.flatten_append, ih]
    unfold rowV
    rw [List.range_succ, List.map_append]
    rfl
/-- the places of a row that is being made -/
theorem row_start {rs : List Road} (s : Nat) : SndR rs s (putR (fun _ => none) s (some 0)) ∧ BdR rs s 0 (putR (fun _ => none) s (some 0)) := by
  refine ⟨fun v d h => ?_, fun v L h => ?_⟩
  · unfold putR at h
    split at h
    · rename_i e
      subst e
      injection h with h
      subst h
      exact .nil _
    · cases h
  · obtain ⟨rfl, rfl⟩ := h
    exact ⟨0, by simp [putR], Nat.le_refl _⟩
/-- all that is done for the first j roads -/
def Both (rs : List Road) (j : Nat) (es : List Road) : Prop := ∀ a b l, (a, b, l) ∈ rs.take j → (a, b, l) ∈ es ∧ (b, a, l) ∈ es
theorem Both.all {rs : List Road} {es : List Road} (h : Both rs rs.length es) : ∀ u v l, Edge rs u v l → (u, v, l) ∈ es := by
  unfold Both at h
  rw [List.take_length] at h
  rintro u v l (e | e)
  · exact (h _ _ _ e).1
  · exact (h _ _ _ e).2
theorem Both.step {rs : List Road} {j a b l : Nat} {es es' : List Road} (h : Both rs j es) (hr : rs[j]? = some (a, b, l)) (sub : ∀ e ∈ es, e ∈ es') (h1 : (a, b, l) ∈ es') (h2 : (b, a, l) ∈ es') : Both rs (j + 1) es' := by
  intro x y z hm
  rw [List.take_succ, hr] at hm
  rcases List.mem_append.mp hm with hm | hm
  · exact ⟨sub _ (h _ _ _ hm).1, sub _ (h _ _ _ hm).2⟩
  · have e : (x, y, z) = (a, b, l) := by simpa using hm
    injection e with e1 e
    injection e with e2 e3
    subst e1 e2 e3
    exact ⟨h1, h2⟩
theorem rowGet {K : PySem.W.Frag} {H : Hp} {R : Addr} {n j : Nat} {r : Rw} (h : H R = some (.lst (rowV n r))) (hj : j < n) {Q : VK} (q : Q (oV (r j)) H) : rIxL K (.ref R) (nV j) H Q := ⟨R, _, j, _, rfl, rfl, SqL.of h, atI_nat (rowV_at _ hj), q⟩
theorem rowGetS {K : PySem.W.Frag} {H : Hp} {R : Addr} {n j x : Nat} {r : Rw} (h : H R = some (.lst (rowV n r))) (hj : j < n) (e : r j = some x) {Q : VK} (q : Q (nV x) H) : rIxL K (.ref R) (nV j) H Q := rowGet h hj (by rw [e]; exact q)
theorem rowSet {H : Hp} {R : Addr} {n j : Nat} {r : Rw} (h : H R = some (.lst (rowV n r))) (hj : j < n) (v : Option Nat) {Q : Hp → Prop} (q : Q (upd H R (.lst (rowV n (putR r j v))))) : rSetL (.ref R) (nV j) (oV v) H Q :=
  ⟨R, _, j, j, rfl, rfl, h, by rw [rowV_len]; exact ixN_nat hj, by rw [rowV_set]; exact q⟩
/-- one way over one road: the row behind it -/
structure RowAt (rs : List Road) (s t n : Nat) (es : List Road) (Hs H : Hp) (R : Addr) (r : Rw) : Prop where
  same : Same Hs H
  row : H R = some (.lst (rowV n r))
  snd : SndR rs s r
  bd : BdR rs s t r
  be : BdE rs s t es r
theorem ok_law_ways {f : Addr} {fd : FuncData} (F : C8.Def K mg "_law_ways" (top 44) f fd) (b : Binds K fd ["_law_town_here"] []) (T : Txt K mg) : C8.Cal P w K mg base 1 "_law_ways" spWays [] := by
  refine C8.cal0 F b .nil scLWays (fun vs H Q E h => ?_) (fun cdv A outer s H vs Q E hr h => ?_)
  · obtain ⟨n, rs, v, rfl, _⟩ := h
    rfl
  obtain ⟨n, rs, v, rfl, ⟨a, r, rfl, ha, l, xs, rfl, hl, hx⟩, tw, h7, k⟩ := h
  have nd := scLWays.nd
  have len := Paired.len hx
  rw [List.length_map] at len
  refine ⟨_, (pss_cons (ps_asg (pv 0) (kpg_tup (K := K) (n := 2) rfl rfl (pgs_cons (pg_name (i := 3) nd rfl (by first | exact .inl rfl | exact .inr rfl)) (pgs_cons (pg_name (i := 4) nd rfl (by first | exact .inl rfl | exact .inr rfl)) pgs_nil))))
 (pss_cons (ps_set (i := 1) nd rfl (by first | exact .inl rfl | exact .inr rfl) (pe_lst pa_nil))
 (pss_cons (ps_for PassesOwn.never rfl (pi_range1 (by rfl) T.n_range (pa_cons (pv 3) pa_nil)) (pg_name (i := 2) nd rfl (by first | exact .inl rfl | exact .inr rfl))
 (pss_cons (ps_set (i := 5) nd rfl (by first | exact .inl rfl | exact .inr rfl) (pe_op op_rep (pe_lst (pa_cons pe_non pa_nil)) (pv 3)))
 (pss_cons (ps_asg pe_int (pg_sub (pv 5) (pv 2) set_list))
 (pss_cons (ps_for PassesOwn.never rfl (pi_range1 (by rfl) T.n_range (pa_cons (pv 3) pa_nil)) (pg_name (i := 6) nd rfl (by first | exact .inl rfl | exact .inr rfl))
 (pss_one (ps_for PassesOwn.never rfl (kpi_list (K := K) rfl (pv 4)) (kpg_tup (K := K) (n := 3) rfl rfl (pgs_cons (pg_name (i := 7) nd rfl (by first | exact .inl rfl | exact .inr rfl)) (pgs_cons (pg_name (i := 8) nd rfl (by first | exact .inl rfl | exact .inr rfl)) (pgs_cons (pg_name (i := 9) nd rfl (by first | exact .inl rfl | exact .inr rfl)) pgs_nil))))
 (pss_one (ps_for PassesOwn.never rfl (kpi_list (K := K) rfl (pe_lst (pa_cons (pe_tup (pa_cons (pv 7) (pa_cons (pv 8) pa_nil))) (pa_cons (pe_tup (pa_cons (pv 8) (pa_cons (pv 7) pa_nil))) pa_nil)))) (kpg_tup (K := K) (n := 2) rfl rfl (pgs_cons (pg_name (i := 10) nd rfl (by first | exact .inl rfl | exact .inr rfl)) (pgs_cons (pg_name (i := 11) nd rfl (by first | exact .inl rfl | exact .inr rfl)) pgs_nil)))
 (pss_one (ps_if (PW.pt (pw_and (pt_cmpR op_notN (pe_ix (kix_list (K := K) rfl) (pv 5) (pv 10) (fun _ _ => rfl)) pe_non (nomark _)) (pw_and1 (PW.pt (pw_or (pt_cmpR op_isN (pe_ix (kix_list (K := K) rfl) (pv 5) (pv 11) (fun _ _ => rfl)) pe_non (nomark _)) (pw_or1 (pt_cmpR op_lt (pe_op op_add (pe_ix (kix_list (K := K) rfl) (pv 5) (pv 10) (fun _ _ => rfl)) (pv 9)) (pe_ix (kix_list (K := K) rfl) (pv 5) (pv 11) (fun _ _ => rfl)) (nomark _))))))))
 (pss_one (ps_asg (pe_op op_add (pe_ix (kix_list (K := K) rfl) (pv 5) (pv 10) (fun _ _ => rfl)) (pv 9)) (pg_sub (pv 5) (pv 11) set_list)))
 pss_nil)))))))
 (pss_one (ps_expr (pe_bm PySem.F.plainAttrs_list PySem.F.slot_list_append PySem.F.type_list_append mt_append (pv 1) (pa_cons (pv 5) pa_nil))))))))
 (pss_one (ps_ret (pv 1)))))), ?_⟩
  refine ⟨_, rfl, a, _, rfl, SqT.of ha, rfl, _, _, rfl, _, _, rfl, rfl, ?_⟩
  refine ⟨by show 0 ≤ sizeLine; decide, fun L hL => ?_⟩
  refine new_ind hL (upd _ L _) rfl fun H1 s1 e1 => ?_
  refine ⟨_, rfl, (n : Int), rfl, by omega, by omega, ?_⟩
  refine for_range (lo := 0) (n := n) (fun i σ H' => Same H H' ∧ ∃ (as : List Addr) (m : Mx) (x2 x5 x6 x7 x8 x9 x10 x11 : Option V), σ = [some (.ref a), some (.ref L), x2, some (nV n), some (.ref l), x5, x6, x7, x8, x9, x10, x11] ∧ as.length = i ∧ ¬ L ∈ as ∧ H' L = some (.lst (as.map V.ref)) ∧
      (∀ (j : Nat) (b : Addr), as[j]? = some b → H' b = some (.lst (rowV n (m j)))) ∧ ∀ j, j < i → SndR rs j (m j) ∧ BdR rs j n (m j))
    ⟨s1, [], fun _ _ => none, _, _, _, _, _, _, _, _, rfl, rfl, by simp, e1, fun j b h => by simp at h, fun j h => by omega⟩ ?_ ?_
  · rintro i σ H2 hi ⟨s2, as, m, x2, x5, x6, x7, x8, x9, x10, x11, rfl, hal, hout, hL2, hrows, hok⟩
    rw [Int.zero_add]
    refine ⟨by show 1 ≤ sizeLine; decide, fun N0 hN0 => ?_⟩
    refine new_ind hN0 (upd _ N0 _) rfl fun H3 s3 e3 => ?_
    refine ⟨_, rfl, N0, n, _, rfl, rfl, e3, by omega, by omega, short (by show 1 * n ≤ 100000; omega), fun R hR => ?_⟩
    rw [show (n : Int).toNat = n from rfl, rep_none]
    refine new_ind hR (upd _ R _) rfl fun H4 s4 e4 => ?_
    have hl3 : H3 l = some (.lst xs) := s3 _ _ (s2 _ _ hl)
    have hL3 := s3 _ _ hL2
    have nRL : R ≠ L := (ne_of_none hL3 hR).symm
    have nRl : R ≠ l := (ne_of_none hl3 hR).symm
    refine ⟨_, rfl, _, rfl, ?_⟩
    refine rowSet e4 hi (some 0) ?_
    have s34 : Same H3 (upd H4 R (.lst (rowV n (putR (fun _ => none) i (some 0))))) := s4.put hR _
    generalize e5 : upd H4 R (.lst (rowV n (putR (fun _ => none) i (some 0)))) = H5 at s34
    have hR5 : H5 R = some (.lst (rowV n (putR (fun _ => none) i (some 0)))) := by rw [← e5, upd_same]
    refine ⟨_, rfl, (n : Int), rfl, by omega, by omega, ?_⟩
    refine for_range (lo := 0) (n := n) (fun t σ H' => ∃ (r : Rw) (x6 x7 x8 x9 x10 x11 : Option V), σ = [some (.ref a), some (.ref L), some (nV i), some (nV n), some (.ref l), some (.ref R), x6, x7, x8, x9, x10, x11] ∧ RowAt rs i t n [] H3 H' R r)
      ⟨_, _, _, _, _, _, _, rfl, s34, hR5, (row_start i).1, (row_start i).2, fun u v l h => by cases h⟩ ?_ ?_
    · rintro t σ H6 ht ⟨r, x6, x7, x8, x9, x10, x11, rfl, ra⟩
      rw [Int.zero_add]
      refine ⟨_, rfl, l, rfl, ⟨_, SqL.of (ra.same _ _ hl3)⟩, ?_⟩
      refine for_list (K := K) (a := l) (xs := xs) (fun j σ H' => ∃ (es : List Road) (r : Rw) (x7 x8 x9 x10 x11 : Option V), σ = [some (.ref a), some (.ref L), some (nV i), some (nV n), some (.ref l), some (.ref R), some (nV t), x7, x8, x9, x10, x11] ∧ RowAt rs i t n es H3 H' R r ∧ Both rs j es)
        ⟨[], r, _, _, _, _, _, rfl, ra, fun a b l h => by simp at h⟩ (fun j σ H' _ ⟨_, _, _, _, _, _, _, _, q, _⟩ => SqL.of (q.same _ _ hl3)) ?_ ?_
      · rintro j x σ H7 hj ⟨es, r, x7, x8, x9, x10, x11, rfl, ra, bo⟩
        obtain ⟨y, hy, tx⟩ := Paired.at_ hx hj
        rw [List.getElem?_map] at hy
        obtain ⟨⟨p, q, z⟩, hrd, rfl⟩ := Option.map_eq_some_iff.mp hy
        obtain ⟨c, rfl, hc⟩ := tx
        have okr := tw.ok _ (List.mem_of_getElem? hrd)
        simp only at okr
        have hpq : Edge rs p q z := .inl (List.mem_of_getElem? hrd)
        have hqp : Edge rs q p z := .inr (List.mem_of_getElem? hrd)
        have hc3 : H3 c = some (.tup [nV p, nV q, nV z]) := s3 _ _ (s2 _ _ hc)
        refine ⟨c, _, rfl, SqT.of (ra.same _ _ hc3), rfl, _, _, rfl, _, _, rfl, _, _, rfl, rfl, ?_⟩
        refine ⟨_, rfl, _, rfl, by show 2 ≤ sizeLine; decide, fun t1 ht1 => ?_⟩
        refine new_ind ht1 (upd _ t1 _) rfl fun H8 s8 e8 => ?_
        refine ⟨_, rfl, _, rfl, by show 2 ≤ sizeLine; decide, fun t2 ht2 => ?_⟩
        refine new_ind ht2 (upd _ t2 _) rfl fun H9 s9 e9 => ?_
        refine ⟨by show 2 ≤ sizeLine; decide, fun M hM => ?_⟩
        refine new_ind hM (upd _ M _) rfl fun H10 s10 e10 => ?_
        have s710 := s8.trans (s9.trans s10)
        have et1 : H10 t1 = some (.tup [nV p, nV q]) := s10 _ _ (s9 _ _ e8)
        have et2 : H10 t2 = some (.tup [nV q, nV p]) := s10 _ _ e9
        have nR1 : t1 ≠ R := (ne_of_none ra.row ht1).symm
        have nR2 : t2 ≠ R := (ne_of_none (s8 _ _ ra.row) ht2).symm
        have nRM : M ≠ R := (ne_of_none (s9 _ _ (s8 _ _ ra.row)) hM).symm
        have ra10 : RowAt rs i t n es H3 H10 R r := ⟨ra.same.trans s710, s710 _ _ ra.row, ra.snd, ra.bd, ra.be⟩
        refine ⟨M, rfl, ⟨_, SqL.of e10⟩, ?_⟩
        refine for_list (K := K) (a := M) (xs := [V.ref t1, .ref t2]) (fun g σ H' => ∃ (es' : List Road) (r : Rw) (x10 x11 : Option V), σ = [some (.ref a), some (.ref L), some (nV i), some (nV n), some (.ref l), some (.ref R), some (nV t), some (nV p), some (nV q), some (nV z), x10, x11] ∧ RowAt rs i t n es' H3 H' R r ∧ H' M = some (.lst [V.ref t1, .ref t2]) ∧
            H' t1 = some (.tup [nV p, nV q]) ∧ H' t2 = some (.tup [nV q, nV p]) ∧ (∀ e ∈ es, e ∈ es') ∧ (1 ≤ g → (p, q, z) ∈ es') ∧ (2 ≤ g → (q, p, z) ∈ es'))
          ⟨es, r, _, _, rfl, ra10, e10, et1, et2, fun e h => h, fun h => by omega, fun h => by omega⟩ (fun g σ H' _ ⟨_, _, _, _, _, _, q, _⟩ => SqL.of q) ?_ ?_
        · rintro g x σ H11 hg ⟨es', r, x10, x11, rfl, ra, hM, hT1, hT2, sub, h1, h2⟩
          have hcase : ∃ (u v : Nat) (T : Addr), x = .ref T ∧ H11 T = some (.tup [nV u, nV v]) ∧ u < n ∧ v < n ∧ Edge rs u v z ∧ ∀ es'' : List Road, (∀ e ∈ (u, v, z) :: es', e ∈ es'') → (1 ≤ g + 1 → (p, q, z) ∈ es'') ∧ (2 ≤ g + 1 → (q, p, z) ∈ es'') := by
            match g, hg with
            | 0, hg =>
              injection hg with hg
              subst hg
              exact ⟨p, q, t1, rfl, hT1, by omega, by omega, hpq, fun es'' h => ⟨fun _ => h _ List.mem_cons_self, fun h => by omega⟩⟩
            | 1, hg =>
              injection hg with hg
              subst hg
              exact ⟨q, p, t2, rfl, hT2, by omega, by omega, hqp, fun es'' h => ⟨fun _ => h _ (List.mem_cons_of_mem _ (h1 (Nat.le_refl _))), fun _ => h _ List.mem_cons_self⟩⟩
          obtain ⟨u, v, T0, rfl, hT, hu, hv, huv, hes⟩ := hcase
          have fin : ∀ (r' : Rw) (G : Hp), RowAt rs i t n ((u, v, z) :: es') H3 G R r' → (∀ b, b ≠ R → G b = H11 b) → ∃ (es'' : List Road) (r : Rw) (x10 x11 : Option V), [some (V.ref a), some (.ref L), some (nV i), some (nV n), some (.ref l), some (.ref R), some (nV t), some (nV p), some (nV q), some (nV z), some (nV u), some (nV v)] = [some (.ref a), some (.ref L), some (nV i), some (nV n), some (.ref l), some (.ref R), some (nV t), some (nV p), some (nV q), some (nV z), x10, x11] ∧ RowAt rs i t n es'' H3 G R r ∧ G M = some (.lst [V.ref t1, .ref t2]) ∧
              G t1 = some (.tup [nV p, nV q]) ∧ G t2 = some (.tup [nV q, nV p]) ∧ (∀ e ∈ es, e ∈ es'') ∧ (1 ≤ g + 1 → (p, q, z) ∈ es'') ∧ (2 ≤ g + 1 → (q, p, z) ∈ es'') := by
            intro r' G ra' kG
            have := hes _ fun e h => h
            exact ⟨_, r', _, _, rfl, ra', by rw [kG M nRM]; exact hM, by rw [kG t1 nR1]; exact hT1, by rw [kG t2 nR2]; exact hT2, fun e h => List.mem_cons_of_mem _ (sub e h), this.1, this.2⟩
          refine ⟨T0, _, rfl, SqT.of hT, rfl, _, _, rfl, _, _, rfl, rfl, ?_⟩
          refine ⟨_, rfl, _, rfl, rowGet ra.row hu ⟨rfl, _, rfl, ite_b (fun c1 => ?_) (fun c1 => ?_)⟩⟩
          · obtain ⟨x, ex⟩ := notNon c1
            have better : (∀ y, r v = some y → x + z < y) → rSetL (.ref R) (nV v) (oV (some (x + z))) H11 fun G => ∃ (es'' : List Road) (r : Rw) (x10 x11 : Option V), [some (V.ref a), some (.ref L), some (nV i), some (nV n), some (.ref l), some (.ref R), some (nV t), some (nV p), some (nV q), some (nV z), some (nV u), some (nV v)] = [some (.ref a), some (.ref L), some (nV i), some (nV n), some (.ref l), some (.ref R), some (nV t), some (nV p), some (nV q), some (nV z), x10, x11] ∧ RowAt rs i t n es'' H3 G R r ∧ G M = some (.lst [V.ref t1, .ref t2]) ∧
                G t1 = some (.tup [nV p, nV q]) ∧ G t2 = some (.tup [nV q, nV p]) ∧ (∀ e ∈ es, e ∈ es'') ∧ (1 ≤ g + 1 → (p, q, z) ∈ es'') ∧ (2 ≤ g + 1 → (q, p, z) ∈ es'') := by
              intro hl
              refine rowSet ra.row hv (some (x + z)) ?_
              obtain ⟨q1, q2, q3⟩ := row_put ra.snd ra.bd ra.be huv ex hl
              exact fin _ _ ⟨ra.same.put hR _, upd_same, q1, q2, q3⟩ fun b hb => upd_ne hb
            refine ⟨_, rfl, _, rfl, rowGet ra.row hv ⟨rfl, _, rfl, ite_b (fun c3 => ?_) (fun c3 => ?_)⟩⟩
            · have e3 := isNonT c3
              refine ⟨_, rfl, _, rfl, rowGetS ra.row hu ex ⟨_, rfl, addN ⟨_, rfl, _, rfl, ?_⟩⟩⟩
              exact better fun y hy => by rw [e3] at hy; cases hy
            · obtain ⟨y, ey⟩ := isNonF c3
              refine ⟨_, rfl, _, rfl, rowGetS ra.row hu ex ⟨_, rfl, addN ⟨_, rfl, _, rfl, rowGetS ra.row hv ey ⟨_, _, rfl, rfl, _, rfl, ite_b (fun c4 => ?_) (fun c4 => ?_)⟩⟩⟩⟩
              · have c4' := of_decide_eq_true c4
                refine ⟨_, rfl, _, rfl, rowGetS ra.row hu ex ⟨_, rfl, addN ⟨_, rfl, _, rfl, ?_⟩⟩⟩
                exact better fun y' hy' => by rw [ey] at hy'; injection hy' with hy'; omega
              · have c4' := of_decide_eq_false c4
                refine fin r H11 ⟨ra.same, ra.row, ra.snd, ra.bd, row_keep ra.bd ra.be fun x' e1 => ?_⟩ fun _ _ => rfl
                rw [ex] at e1
                injection e1 with e1
                exact ⟨y, ey, by omega⟩
          · have e1 := isNonB c1
            exact fin r H11 ⟨ra.same, ra.row, ra.snd, ra.bd, row_keep ra.bd ra.be fun x q => by rw [e1] at q; cases q⟩ fun _ _ => rfl
        · rintro σ H11 ⟨es', r, x10, x11, rfl, ra, hM, hT1, hT2, sub, h1, h2⟩
          exact ⟨es', r, _, _, _, _, _, rfl, ra, bo.step hrd sub (h1 (by show 1 ≤ 2; omega)) (h2 (by show 2 ≤ 2; omega))⟩
      · rintro σ H7 ⟨es, r, x7, x8, x9, x10, x11, rfl, ra, bo⟩
        rw [len] at bo
        exact ⟨r, _, _, _, _, _, _, rfl, ra.same, ra.row, ra.snd, row_turn ra.bd ra.be bo.all, fun u v l h => by cases h⟩
    · rintro σ H6 ⟨r, x6, x7, x8, x9, x10, x11, rfl, ra⟩
      have hL6 := ra.same _ _ hL3
      refine ⟨_, rfl, .inl ⟨rfl, _, SqL.of hL6⟩, _, rfl, L, _, _, rfl, rfl, hL6, Nat.lt_of_le_of_lt (m := 1000) (by rw [List.length_map]; omega) (by decide), ?_⟩
      refine ⟨(s2.trans (s3.trans ra.same)).put hL _, as ++ [R], (fun j => if j = i then r else m j), _, _, _, _, _, _, _, _, rfl, ?_, ?_, ?_, ?_, ?_⟩
      · rw [List.length_append, hal]
        rfl
      · intro h
        rcases List.mem_append.mp h with h | h
        · exact hout h
        · have e : L = R := by simpa using h
          exact nRL e.symm
      · rw [upd_same, List.map_append]
        rfl
      · intro j b h
        by_cases hj : j < as.length
        · rw [List.getElem?_append_left hj] at h
          have nb : b ≠ L := fun e => hout (by rw [← e]; exact List.mem_of_getElem? h)
          have nj : ¬ j = i := by omega
          rw [upd_ne nb]
          show H6 b = some (HO.lst (rowV n (if j = i then r else m j)))
          rw [if_neg nj]
          exact ra.same _ _ (s3 _ _ (hrows j b h))
        · have hj' : j = as.length := by
            have := (List.getElem?_eq_some_iff.mp h).1
            rw [List.length_append] at this
            simp at this
            omega
          rw [List.getElem?_append_right (by omega), hj', Nat.sub_self] at h
          have e : R = b := by simpa using h
          subst e
          rw [upd_ne nRL]
          show H6 R = some (HO.lst (rowV n (if j = i then r else m j)))
          rw [if_pos (by omega)]
          exact ra.row
      · intro j hj
        by_cases e : j = i
        · subst e
          show SndR rs j (if j = j then r else m j) ∧ BdR rs j n (if j = j then r else m j)
          rw [if_pos rfl]
          exact ⟨ra.snd, ra.bd⟩
        · show SndR rs j (if j = i then r else m j) ∧ BdR rs j n (if j = i then r else m j)
          rw [if_neg e]
          exact hok j (by omega)
  · rintro σ H2 ⟨s2, as, m, x2, x5, x6, x7, x8, x9, x10, x11, rfl, hal, hout, hL2, hrows, hok⟩
    refine ⟨_, rfl, k _ _ m s2 ⟨L, as, rfl, hL2, hal, hrows⟩ fun a b ha hb => ?_⟩
    have := row_end tw ha (hok a ha).1 (hok a ha).2
    exact ⟨fun d h => this.1 b d h, fun L h => this.2 b L h⟩
end Ev
end
section
namespace Ev
open PySem L2
variable {P : Program} {w : World} {K : PySem.W.Frag} {mg : Str → Option Value} {base : Heap}

/-! ### _law_draws -/
/-- a list of numbers -/
def NumsV (H : Hp) (v : V) (ds : List Nat) : Prop := ∃ p, v = .ref p ∧ H p = some (.lst (ds.map nV))
theorem NumsV.mono {H H' : Hp} (s : Same H H') {v : V} {ds : List Nat} (h : NumsV H v ds) : NumsV H' v ds := by
  obtain ⟨p, e, q⟩ := h
  exact ⟨p, e, s _ _ q⟩
def spDraws (K : PySem.W.Frag) : Sp := fun vs H Q _ => ∃ (a : Addr) (ns : List Int), vs = [.ref a, nV 50] ∧ SqL K H a (ns.map V.int) ∧ ns.length ≤ 63 ∧ ∀ v' H' ds, Same H H' → NumsV H' v' ds → ds.length = 50 → Q v' H'
theorem scDraws : FnScope ["_law_script", "_law_count", "_law_rests", "_law_draws_here", "_law_k", "_law_value_here", "_law_cell", "_law_at", "_law_mixed"] ["_law_script", "_law_count"] (C8.fnScope (top 42)) := ⟨rfl, rfl, rfl, by decide +kernel, rfl, by decide +kernel, by decide +kernel⟩
def DrI (H : Hp) (a R D : Addr) (len k : Nat) (σ : L2.St) (H' : Hp) : Prop := Same H H' ∧ ∃ (rs : List Int) (ds : List Nat) (x4 x5 x6 x7 x8 : Option V), σ = [some (.ref a), some (nV 50), some (.ref R), some (.ref D), x4, x5, x6, x7, x8] ∧
  H' R = some (.lst (rs.map V.int)) ∧ H' D = some (.lst (ds.map nV)) ∧ rs.length = len ∧ ds.length = k
theorem toNatV {i : Int} (h : 0 ≤ i) : ∃ n : Nat, V.int i = nV n := ⟨i.toNat, by show V.int i = V.int (i.toNat : Int); rw [Int.toNat_of_nonneg h]⟩
theorem ok_law_draws {f : Addr} {fd : FuncData} (F : C8.Def K mg "_law_draws" (top 42) f fd) (b : Binds K fd ["_law_script", "_law_count"] []) (T : Txt K mg) : C8.Cal P w K mg base 1 "_law_draws" (spDraws K) [] := by
  refine C8.cal0 F b .nil scDraws (fun vs H Q E h => ?_) (fun cdv A outer s H vs Q E hr h => ?_)
  · obtain ⟨a, ns, rfl, _⟩ := h
    rfl
  obtain ⟨a, ns, rfl, ha, hl, k⟩ := h
  have nd := scDraws.nd
  refine ⟨_, (pss_cons (ps_setLc (i := 2) (own := [("_law_cell", 6)]) rfl nd rfl rfl (sw_true rfl rfl rfl (by kernel_rfl)) (kpi_list (K := K) rfl (pv 0)) (blkOk_by (own := [("_law_cell", 6)]) (by kernel_rfl)) (fun _ _ _ _ _ => (pg_name (i := 6) nd rfl (by first | exact .inl rfl | exact .inr rfl))) (fun _ _ _ _ _ => pts_nil) (fun _ _ _ _ _ => (pv 6)))
 (pss_cons (ps_set (i := 3) nd rfl (by first | exact .inl rfl | exact .inr rfl) (pe_lst pa_nil))
 (pss_cons (ps_for PassesOwn.never rfl (pi_range1 (by rfl) T.n_range (pa_cons (pv 1) pa_nil)) (pg_name (i := 4) nd rfl (by first | exact .inl rfl | exact .inr rfl))
 (pss_cons (ps_set (i := 5) nd rfl (by first | exact .inl rfl | exact .inr rfl) pe_int)
 (pss_cons (ps_if (pt_cmpR op_gt (pe_callB (kcr_len (K := K) rfl) (by rfl) T.n_len bb_len (pa_cons (pv 2) pa_nil)) pe_int (nomark _))
 (pss_cons (ps_set (i := 7) nd rfl (by first | exact .inl rfl | exact .inr rfl) (pe_op op_mod (pe_callTy call_int1 (by rfl) T.n_int bb_int (pa_cons (pv 4) pa_nil)) (pe_callB (kcr_len (K := K) rfl) (by rfl) T.n_len bb_len (pa_cons (pv 2) pa_nil))))
 (pss_one (ps_if (pt_cmpR op_ge (pe_ix (kix_list (K := K) rfl) (pv 2) (pv 7) (fun _ _ => rfl)) (pe_op op_pow pe_int pe_int) (nomark _))
 (pss_cons (ps_set (i := 5) nd rfl (by first | exact .inl rfl | exact .inr rfl) (pe_op op_mod (pe_callTy call_int1 (by rfl) T.n_int bb_int (pa_cons (pe_ix (kix_list (K := K) rfl) (pv 2) (pv 7) (fun _ _ => rfl)) pa_nil)) pe_int))
 (pss_one (ps_asg (pe_op op_fdiv (pe_ix (kix_list (K := K) rfl) (pv 2) (pv 7) (fun _ _ => rfl)) pe_int) (pg_sub (pv 2) (pv 7) set_list))))
 (pss_cons (ps_set (i := 8) nd rfl (by first | exact .inl rfl | exact .inr rfl) (pe_op op_mod (pe_callTy call_int1 (by rfl) T.n_int bb_int (pa_cons (pe_op op_add (pe_op op_add (pe_op op_mul (pe_ix (kix_list (K := K) rfl) (pv 2) (pv 7) (fun _ _ => rfl)) pe_int) (pe_op op_mul (pv 4) pe_int)) pe_int) pa_nil)) pe_int))
 (pss_cons (ps_set (i := 8) nd rfl (by first | exact .inl rfl | exact .inr rfl) (pe_op op_mod (pe_callTy call_int1 (by rfl) T.n_int bb_int (pa_cons (pe_op op_add (pe_op op_mul (pv 8) pe_int) (pv 7)) pa_nil)) pe_int))
 (pss_one (ps_set (i := 5) nd rfl (by first | exact .inl rfl | exact .inr rfl) (pe_op op_mod (pe_callTy call_int1 (by rfl) T.n_int bb_int (pa_cons (pe_op op_fdiv (pv 8) pe_int) pa_nil)) pe_int))))))))
 pss_nil)
 (pss_one (ps_expr (pe_bm PySem.F.plainAttrs_list PySem.F.slot_list_append PySem.F.type_list_append mt_append (pv 3) (pa_cons (pv 5) pa_nil)))))))
 (pss_one (ps_ret (pv 3)))))), ?_⟩
  refine ⟨_, rfl, a, rfl, ⟨_, ha⟩, fun R hR => ?_⟩
  refine lc_list (K := K) (a := a) (xs := ns.map V.int) (fun i H' => Same H H' ∧ H' R = some (.lst ((ns.take i).map V.int))) ⟨Same.new hR _, upd_same⟩ (fun i H' _ q => q.1.seq ha) ?_ ?_
  · rintro i x H1 hx ⟨s1, e1⟩
    rw [List.getElem?_map] at hx
    obtain ⟨y, hy, rfl⟩ := Option.map_eq_some_iff.mp hx
    refine ⟨rfl, _, rfl, _, e1, Nat.lt_of_le_of_lt (m := 1000) (by rw [List.length_map, List.length_take]; omega) (by decide), s1.put hR _, ?_⟩
    rw [upd_same, List.take_succ, hy, List.map_append]
    rfl
  rintro H1 ⟨s1, e1⟩
  rw [List.length_map, List.take_length] at e1
  refine ⟨by show 0 ≤ sizeLine; decide, fun D hD => ?_⟩
  refine new_ind hD (upd _ D _) rfl fun H2 s2 e2 => ?_
  have nRD : R ≠ D := ne_of_none e1 hD
  have hDn := s1.free hD
  refine ⟨_, rfl, (50 : Int), rfl, by decide, by decide, ?_⟩
  refine for_range (lo := 0) (n := 50) (DrI H a R D ns.length) ⟨s1.trans s2, ns, [], _, _, _, _, _, rfl, s2 _ _ e1, e2, rfl, rfl⟩ ?_ ?_
  · rintro i σ H3 hi ⟨s3, rs, ds, x4, x5, x6, x7, x8, rfl, hR3, hD3, lrs, lds⟩
    rw [Int.zero_add]
    have fin : ∀ (DD : Ends) (rs' : List Int) (z : Int) (x7 x8 : Option V) (H' : Hp), (∀ σ' H'', DrI H a R D ns.length (i + 1) σ' H'' → DD.nx σ' H'') → 0 ≤ z → Same H H' → H' R = some (.lst (rs'.map V.int)) → H' D = some (.lst (ds.map nV)) → rs'.length = ns.length →
        tDrop (tBM K "list" rAppend (tVar 3) (tCons (tVar 5) tNil)) DD [some (.ref a), some (nV 50), some (.ref R), some (.ref D), some (nV i), some (.int z), x6, x7, x8] H' := by
      intro DD rs' z x7 x8 H' hD' hz sH' hR' hDs hlr
      obtain ⟨d, ed⟩ := toNatV hz
      rw [ed]
      refine ⟨_, rfl, .inl ⟨rfl, _, SqL.of hDs⟩, _, rfl, D, _, _, rfl, rfl, hDs, Nat.lt_of_le_of_lt (m := 1000) (by rw [List.length_map]; omega) (by decide), ?_⟩
      refine hD' _ _ ⟨sH'.put hDn _, rs', ds ++ [d], _, _, _, _, _, rfl, by rw [upd_ne nRD]; exact hR', by rw [upd_same, List.map_append]; rfl, hlr, by rw [List.length_append, lds]; rfl⟩
    refine ⟨_, rfl, R, _, rfl, .inl (SqL.of hR3), _, _, rfl, rfl, _, rfl, ite_b (fun c => ?_) (fun c => ?_)⟩
    · have c := of_decide_eq_true c
      rw [List.length_map] at c
      have hpos : 0 < rs.length := by omega
      refine ⟨_, rfl, .inl ⟨_, rfl, _, rfl, R, _, rfl, .inl (SqL.of hR3), _, _, rfl, rfl, by rw [List.length_map]; omega, ?_⟩⟩
      rw [List.length_map]
      have hat : i % rs.length < rs.length := Nat.mod_lt _ hpos
      have eat : ((i : Int) % (rs.length : Int)) = ((i % rs.length : Nat) : Int) := (Int.natCast_emod _ _).symm
      delta gName
      dsimp only
      rw [eat]
      generalize i % rs.length = at_ at hat
      obtain ⟨y, hy⟩ : ∃ y, rs[at_]? = some y := ⟨_, List.getElem?_eq_getElem hat⟩
      have hya : atI (rs.map V.int) (at_ : Int) = some (.int y) := atI_nat (by rw [List.getElem?_map, hy]; rfl)
      refine ⟨_, rfl, _, rfl, R, _, _, _, rfl, rfl, SqL.of hR3, hya, _, _, rfl, rfl, ⟨by decide, by decide, by decide⟩, _, _, rfl, rfl, _, rfl, ite_b (fun c1 => ?_) (fun c1 => ?_)⟩
      · refine ⟨_, rfl, _, rfl, R, _, _, _, rfl, rfl, SqL.of hR3, hya, .inl ⟨_, rfl, _, _, rfl, rfl, by show (0 : Int) < _; decide, ?_⟩⟩
        refine ⟨_, rfl, _, rfl, R, _, _, _, rfl, rfl, SqL.of hR3, hya, _, _, rfl, rfl, ⟨by decide, by decide⟩, ?_⟩
        refine ⟨_, rfl, _, rfl, R, _, at_, at_, rfl, rfl, hR3, by rw [List.length_map]; exact ixN_nat hat, ?_⟩
        refine fin _ (rs.set at_ (y / 1000)) _ _ _ _ (fun _ _ q => q) (Int.emod_nonneg _ (by decide)) (s3.put hR _) (by rw [upd_same, List.map_set]) (by rw [upd_ne nRD.symm]; exact hD3) (by rw [List.length_set]; exact lrs)
      · refine ⟨_, rfl, _, rfl, R, _, _, _, rfl, rfl, SqL.of hR3, hya, _, _, rfl, rfl, .inr ⟨by decide, by decide⟩, _, rfl, _, _, rfl, rfl, .inr ⟨by decide, by decide⟩, _, _, rfl, rfl, _, _, rfl, rfl, .inl ⟨_, rfl, _, _, rfl, rfl, by show (0 : Int) < _; decide, ?_⟩⟩
        refine ⟨_, rfl, _, _, rfl, rfl, .inr ⟨by decide, by decide⟩, _, rfl, _, _, rfl, rfl, .inl ⟨_, rfl, _, _, rfl, rfl, by show (0 : Int) < _; decide, ?_⟩⟩
        refine ⟨_, rfl, _, _, rfl, rfl, ⟨by decide, by decide⟩, .inl ⟨_, rfl, _, _, rfl, rfl, by show (0 : Int) < _; decide, ?_⟩⟩
        refine fin _ rs _ _ _ _ (fun _ _ q => q) (Int.emod_nonneg _ (by decide)) s3 hR3 hD3 lrs
    · exact fin _ rs 0 _ _ _ (fun _ _ q => q) (Int.le_refl _) s3 hR3 hD3 lrs
  · rintro σ H3 ⟨s3, rs, ds, x4, x5, x6, x7, x8, rfl, hR3, hD3, lrs, lds⟩
    exact ⟨_, rfl, k _ _ ds s3 ⟨D, rfl, hD3⟩ lds⟩
end Ev
end
section
namespace Ev
open PySem L2
variable {P : Program} {w : World} {K : PySem.W.Frag} {mg : Str → Option Value} {base : Heap}

/-! ### _law_town -/
theorem numAt {H : Hp} {v : V} {ds : List Nat} (h : NumsV H v ds) {i d : Nat} (hi : ds[i]? = some d) {Q : VK} (q : Q (nV d) H) : rIxL K v (nV i) H Q := by
  obtain ⟨p, rfl, hp⟩ := h
  exact ⟨p, _, i, _, rfl, rfl, SqL.of hp, atI_nat (by rw [List.getElem?_map, hi]; rfl), q⟩
theorem numIx {ds : List Nat} (h : ds.length = 50) {i : Nat} (hi : i < 50) : ∃ d, ds[i]? = some d := ⟨_, List.getElem?_eq_getElem (by omega)⟩
/-- int(n) % m -/
theorem modN {d m : Nat} (h : 0 < m) {H : Hp} {Q : VK} (q : Q (nV (d % m)) H) : rI (fun _ j => 0 < j) (fun i j => .int (i % j)) (nV d) (nV m) H Q := by
  refine ⟨d, m, rfl, rfl, by omega, ?_⟩
  have e : ((d : Int) % (m : Int)) = ((d % m : Nat) : Int) := (Int.natCast_emod _ _).symm
  show Q (.int ((d : Int) % (m : Int))) H
  rw [e]
  exact q
theorem divN {d m : Nat} (h : 0 < m) (h2 : m < 1000000) {H : Hp} {Q : VK} (q : Q (nV (d / m)) H) : rI CDiv (fun i j => .int (i / j)) (nV d) (nV m) H Q := by
  refine ⟨d, m, rfl, rfl, ⟨by omega, by omega⟩, ?_⟩
  have e : ((d : Int) / (m : Int)) = ((d / m : Nat) : Int) := (Int.natCast_ediv _ _).symm
  show Q (.int ((d : Int) / (m : Int))) H
  rw [e]
  exact q
theorem modC {d m : Nat} {j : Int} {σ : L2.St} (h : 0 < m) {H : Hp} {Q : VK} (q : Q (nV (d % m)) H) (e : j = (m : Int) := by rfl) : tC (.int j) σ H fun y H2 => rI (fun _ j => 0 < j) (fun i j => .int (i % j)) (nV d) y H2 Q := by
  subst e
  exact modN h q
theorem divC {d m : Nat} {j : Int} {σ : L2.St} (h : 0 < m) (h2 : m < 1000000) {H : Hp} {Q : VK} (q : Q (nV (d / m)) H) (e : j = (m : Int) := by rfl) : tC (.int j) σ H fun y H2 => rI CDiv (fun i j => .int (i / j)) (nV d) y H2 Q := by
  subst e
  exact divN h h2 q
theorem addC {x y : Nat} {j : Int} {σ : L2.St} {H : Hp} {Q : VK} (q : Q (nV (x + y)) H) (e : j = (y : Int) := by rfl) : tC (.int j) σ H fun z H2 => rI0 (fun i j => .int (i + j)) (nV x) z H2 Q := by
  subst e
  exact addN q
theorem numC {H : Hp} {v : V} {ds : List Nat} {j : Int} {σ : L2.St} (h : NumsV H v ds) {i d : Nat} (hi : ds[i]? = some d) {Q : VK} (q : Q (nV d) H) (e : j = (i : Int) := by rfl) : tC (.int j) σ H fun y H2 => rIxL K v y H2 Q := by
  subst e
  exact numAt h hi q
def spTown : Sp := fun vs H Q _ => ∃ (v : V) (ds : List Nat), vs = [v, nV 5] ∧ NumsV H v ds ∧ ds.length = 50 ∧ ∀ v' H' n rs, Same H H' → TownV H' v' n rs → Town n rs → 1 ≤ n → n ≤ 5 → Q v' H'
theorem scTown : FnScope ["_law_draws_here", "_law_most", "_law_places", "_law_roads", "_law_k", "_law_first", "_law_second"] ["_law_draws_here", "_law_most"] (C8.fnScope (top 43)) := ⟨rfl, rfl, rfl, by decide +kernel, rfl, by decide +kernel, by decide +kernel⟩
theorem Town.snoc {n : Nat} {rs : List Road} (T : Town n rs) {a b l : Nat} (hb : ∀ r ∈ rs, r.1 < a ∨ (r.1 = a ∧ r.2.1 < b)) (h1 : a < b) (h2 : b < n) (h3 : 1 ≤ l) (h4 : l ≤ 9) : Town n (rs ++ [(a, b, l)]) := by
  refine ⟨fun r hr => ?_, List.pairwise_append.mpr ⟨T.asc, by simp, fun r hr s hs => ?_⟩⟩
  · rcases List.mem_append.mp hr with hr | hr
    · exact T.ok r hr
    · have : r = (a, b, l) := by simpa using hr
      subst this
      exact ⟨h1, h2, h3, h4⟩
  · have : s = (a, b, l) := by simpa using hs
    subst this
    exact hb r hr
def TwI (H : Hp) (d : V) (L : Addr) (n kmax : Nat) (B : Road → Prop) (x5 x6 : Option V) (σ : L2.St) (H' : Hp) : Prop := Same H H' ∧ ∃ (xs : List V) (rs : List Road) (k : Nat), σ = [some d, some (nV 5), some (nV n), some (.ref L), some (nV k), x5, x6] ∧
  H' L = some (.lst xs) ∧ Tups H' xs (rs.map rl) ∧ Town n rs ∧ (∀ r ∈ rs, B r) ∧ k ≤ kmax
theorem ok_law_town {f : Addr} {fd : FuncData} (F : C8.Def K mg "_law_town" (top 43) f fd) (b : Binds K fd ["_law_draws_here", "_law_most"] []) (T : Txt K mg) : C8.Cal P w K mg base 1 "_law_town" spTown [] := by
  refine C8.cal0 F b .nil scTown (fun vs H Q E h => ?_) (fun cdv A outer s H vs Q E hr h => ?_)
  · obtain ⟨v, ds, rfl, _⟩ := h
    rfl
  obtain ⟨v, ds, rfl, hv, hl, k⟩ := h
  have nd := scTown.nd
  refine ⟨_, (pss_cons (ps_set (i := 2) nd rfl (by first | exact .inl rfl | exact .inr rfl) (pe_op op_add pe_int (pe_op op_mod (pe_callTy call_int1 (by rfl) T.n_int bb_int (pa_cons (pe_ix (kix_list (K := K) rfl) (pv 0) pe_int (fun _ _ => rfl)) pa_nil)) (pv 1))))
 (pss_cons (ps_set (i := 3) nd rfl (by first | exact .inl rfl | exact .inr rfl) (pe_lst pa_nil))
 (pss_cons (ps_set (i := 4) nd rfl (by first | exact .inl rfl | exact .inr rfl) pe_int)
 (pss_cons (ps_for PassesOwn.never rfl (pi_range1 (by rfl) T.n_range (pa_cons (pv 2) pa_nil)) (pg_name (i := 5) nd rfl (by first | exact .inl rfl | exact .inr rfl))
 (pss_one (ps_for PassesOwn.never rfl (pi_range2 (by rfl) T.n_range (pa_cons (pe_op op_add (pv 5) pe_int) (pa_cons (pv 2) pa_nil))) (pg_name (i := 6) nd rfl (by first | exact .inl rfl | exact .inr rfl))
 (pss_cons (ps_if (pt_cmpR op_lt (pe_op op_mod (pe_callTy call_int1 (by rfl) T.n_int bb_int (pa_cons (pe_ix (kix_list (K := K) rfl) (pv 0) (pv 4) (fun _ _ => rfl)) pa_nil)) pe_int) pe_int (nomark _))
 (pss_one (ps_expr (pe_bm PySem.F.plainAttrs_list PySem.F.slot_list_append PySem.F.type_list_append mt_append (pv 3) (pa_cons (pe_tup (pa_cons (pv 5) (pa_cons (pv 6) (pa_cons (pe_op op_add pe_int (pe_op op_mod (pe_callTy call_int1 (by rfl) T.n_int bb_int (pa_cons (pe_op op_fdiv (pe_ix (kix_list (K := K) rfl) (pv 0) (pv 4) (fun _ _ => rfl)) pe_int) pa_nil)) (pe_ix (kix_list (K := K) rfl) (pe_lst (pa_cons pe_int (pa_cons pe_int pa_nil))) (pe_op op_mod (pe_callTy call_int1 (by rfl) T.n_int bb_int (pa_cons (pe_op op_fdiv (pe_ix (kix_list (K := K) rfl) (pv 0) (pv 4) (fun _ _ => rfl)) pe_int) pa_nil)) pe_int) (fun _ _ => rfl)))) pa_nil)))) pa_nil))))
 pss_nil)
 (pss_one (ps_set (i := 4) nd rfl (by first | exact .inl rfl | exact .inr rfl) (pe_op op_add (pv 4) pe_int)))))))
 (pss_one (ps_ret (pe_tup (pa_cons (pv 2) (pa_cons (pv 3) pa_nil))))))))), ?_⟩
  obtain ⟨d0, hd0⟩ := numIx hl (i := 0) (by omega)
  refine ⟨_, rfl, numAt hv hd0 (.inl ⟨_, rfl, _, rfl, modN (m := 5) (by decide) (addN (x := 1) ?_)⟩)⟩
  have hn : d0 % 5 < 5 := Nat.mod_lt _ (by decide)
  generalize d0 % 5 = m0 at hn
  obtain ⟨n, en⟩ : ∃ n, n = 1 + m0 := ⟨_, rfl⟩
  rw [← en]
  have n1 : 1 ≤ n ∧ n ≤ 5 := by omega
  refine ⟨by show 0 ≤ sizeLine; decide, fun L hL => ?_⟩
  refine new_ind hL (upd _ L _) rfl fun H1 s1 e1 => ?_
  refine ⟨_, rfl, (n : Int), rfl, by omega, by omega, ?_⟩
  refine for_range (lo := 0) (n := n) (fun i σ H' => ∃ x5 x6, TwI H v L n (1 + 5 * i) (fun r => r.1 < i) x5 x6 σ H')
    ⟨_, _, s1, [], [], 1, rfl, e1, .nil, ⟨fun r h => (by cases h), .nil⟩, fun r h => (by cases h), by omega⟩ ?_ ?_
  · rintro i σ H2 hi ⟨x5, x6, s2, xs, rs, kk, rfl, hL2, hx, tw, hB, hk⟩
    rw [Int.zero_add]
    refine ⟨_, rfl, _, _, rfl, rfl, _, rfl, (i : Int) + 1, (n : Int), rfl, ⟨by omega, by omega, by omega, by omega⟩, ?_⟩
    refine for_range (lo := (i : Int) + 1) (n := ((n : Int) - ((i : Int) + 1)).toNat) (fun j σ H' => ∃ x6, TwI H v L n (1 + 5 * i + j) (fun r => r.1 < i ∨ (r.1 = i ∧ r.2.1 < i + 1 + j)) (some (nV i)) x6 σ H')
      ⟨_, s2, xs, rs, kk, rfl, hL2, hx, tw, fun r h => .inl (hB r h), by omega⟩ ?_ ?_
    · rintro j σ H3 hj ⟨x6, s3, xs, rs, kk, rfl, hL3, hx, tw, hB, hk⟩
      rw [show (i : Int) + 1 + (j : Int) = ((i + 1 + j : Nat) : Int) from by omega]
      have hq : i + 1 + j < n := by omega
      obtain ⟨d, hd⟩ := numIx hl (i := kk) (by omega)
      have hv3 := hv.mono s3
      refine ⟨_, rfl, _, rfl, numAt hv3 hd (.inl ⟨_, rfl, ?_⟩)⟩
      refine modC (m := 5) (by decide) ?_
      refine ⟨_, _, rfl, rfl, _, rfl, ite_b (fun c => ?_) (fun c => ?_)⟩
      · -- roads.append((first, second, ..))
        refine ⟨_, rfl, .inl ⟨rfl, _, SqL.of hL3⟩, _, rfl, _, rfl, _, rfl, _, rfl, numAt hv3 hd (divC (m := 5) (by decide) (by decide) (.inl ⟨_, rfl, ?_⟩))⟩
        refine ⟨by show 2 ≤ sizeLine; decide, fun M hM => ?_⟩
        refine new_ind hM (upd _ M _) rfl fun H4 s4 e4 => ?_
        have hv4 := hv3.mono s4
        refine ⟨_, rfl, _, rfl, numAt hv4 hd (divC (m := 45) (by decide) (by decide) (.inl ⟨_, rfl, modC (m := 2) (by decide) ?_⟩))⟩
        have hz : ∃ z : Nat, 0 < z ∧ z ≤ 9 ∧ ([nV 3, nV 9] : List V)[d / 45 % 2]? = some (nV z) := by
          have : d / 45 % 2 = 0 ∨ d / 45 % 2 = 1 := by omega
          rcases this with e | e
          · exact ⟨3, by omega, by omega, by rw [e]; rfl⟩
          · exact ⟨9, by omega, by omega, by rw [e]; rfl⟩
        obtain ⟨z, hz0, hz9, ez⟩ := hz
        refine ⟨M, _, _, nV z, rfl, rfl, SqL.of e4, atI_nat ez, modN hz0 (addN (x := 1) ?_)⟩
        have hlt := Nat.mod_lt (d / 5) hz0
        refine ⟨by show 3 ≤ sizeLine; decide, fun q hq4 => ?_⟩
        refine new_ind hq4 (upd _ q _) rfl fun H5 s5 e5 => ?_
        have s35 := s4.trans s5
        have hL5 := s35 _ _ hL3
        have lx := Paired.len hx
        rw [List.length_map] at lx
        have fw := tw.few (by omega)
        refine ⟨L, _, _, rfl, rfl, hL5, Nat.lt_of_le_of_lt (m := 1000) (by omega) (by decide), ?_⟩
        have ts : TSame H5 (upd H5 L (.lst (xs ++ [V.ref q]))) := TSame.upd hL5 id
        refine ⟨_, rfl, addC (y := 1) ⟨_, (s3.trans s35).put hL _, xs ++ [.ref q], rs ++ [(i, i + 1 + j, 1 + d / 5 % z)], kk + 1, rfl, upd_same, ?_, ?_, ?_, ?_⟩⟩
        · rw [List.map_append]
          exact Paired.app ((hx.mono s35.tup).mono ts) (.cons ⟨q, rfl, ts _ _ True.intro e5⟩ .nil)
        · exact tw.snoc hB (by omega) hq (by omega) (by omega)
        · intro r hr
          rcases List.mem_append.mp hr with hr | hr
          · rcases hB r hr with h | h
            · exact .inl h
            · exact .inr ⟨h.1, by omega⟩
          · have : r = (i, i + 1 + j, 1 + d / 5 % z) := by simpa using hr
            subst this
            exact .inr ⟨rfl, by show i + 1 + j < i + 1 + (j + 1); omega⟩
        · omega
      · refine ⟨_, rfl, addC (y := 1) ⟨_, s3, xs, rs, kk + 1, rfl, hL3, hx, tw, fun r hr => ?_, by omega⟩⟩
        rcases hB r hr with h | h
        · exact .inl h
        · exact .inr ⟨h.1, by omega⟩
    · rintro σ H3 ⟨x6, s3, xs, rs, kk, rfl, hL3, hx, tw, hB, hk⟩
      refine ⟨_, _, s3, xs, rs, kk, rfl, hL3, hx, tw, fun r hr => ?_, by omega⟩
      rcases hB r hr with h | h
      · omega
      · omega
  · rintro σ H2 ⟨x5, x6, s2, xs, rs, kk, rfl, hL2, hx, tw, hB, hk⟩
    refine ⟨_, rfl, _, rfl, by show 2 ≤ sizeLine; decide, fun q hq => ?_⟩
    refine new_ind hq (upd _ q _) rfl fun H3 s3 e3 => ?_
    exact k _ _ n rs (s2.trans s3) ⟨q, .ref L, rfl, e3, L, xs, rfl, s3 _ _ hL2, hx.mono s3.tup⟩ tw n1.1 n1.2

/-! ### _law_world -/
def spWorld : Sp := fun vs H Q _ => ∃ (v : V) (ds : List Nat), vs = [v] ∧ NumsV H v ds ∧ ds.length = 50 ∧ ∀ q tv n rs sv s one reach H', Same H H' → H' q = some (.tup [tv, sv, ruleV one, nV reach]) → TownV H' tv n rs → Town n rs → 1 ≤ n → n ≤ 5 → TupN H' sv s → Stand n s.length s → 1 ≤ s.length → s.length ≤ 2 → Q (.ref q) H'
theorem scWorld : FnScope ["_law_draws_here", "_law_town_here", "_law_stands_here"] ["_law_draws_here"] (C8.fnScope (top 50)) := ⟨rfl, rfl, rfl, by decide +kernel, rfl, by decide +kernel, by decide +kernel⟩
theorem stands_pos {n : Nat} (hn : 1 ≤ n) (h : Nat) : 0 < (stands n h).length := by
  have : List.replicate h 0 ∈ stands n h := mem_stands.mpr ⟨List.length_replicate, List.pairwise_replicate.mpr (.inr (Nat.le_refl _)), fun x hx => by
    have := List.eq_of_mem_replicate hx
    omega⟩
  exact List.length_pos_of_mem this
theorem ok_law_world {f : Addr} {fd : FuncData} (F : C8.Def K mg "_law_world" (top 50) f fd) (b : Binds K fd ["_law_draws_here"] []) (T : Txt K mg) (c__law_town : C8.Cal P w K mg base 1 "_law_town" spTown []) (c__law_stands : C8.Cal P w K mg base 1 "_law_stands" spLStands []) : C8.Cal P w K mg base 2 "_law_world" spWorld [] := by
  refine C8.cal0 F b .nil scWorld (fun vs H Q E h => ?_) (fun cdv A outer s H vs Q E hr h => ?_)
  · obtain ⟨v, ds, rfl, _⟩ := h
    rfl
  obtain ⟨v, ds, rfl, hv, hl, k⟩ := h
  have nd := scWorld.nd
  refine ⟨_, (pss_cons (ps_set (i := 1) nd rfl (by first | exact .inl rfl | exact .inr rfl) (C8.pe_c c__law_town hr (by decide) rfl (pa_cons (pv 0) (pa_cons pe_int pa_nil))))
 (pss_cons (ps_set (i := 2) nd rfl (by first | exact .inl rfl | exact .inr rfl) (C8.pe_c c__law_stands hr (by decide) rfl (pa_cons (pe_ix (kix_tup (K := K) rfl) (pv 1) pe_int (fun _ _ => rfl)) (pa_cons (pe_op op_add pe_int (pe_op op_mod (pe_callTy call_int1 (by rfl) T.n_int bb_int (pa_cons (pe_ix (kix_list (K := K) rfl) (pv 0) pe_int (fun _ _ => rfl)) pa_nil)) pe_int)) pa_nil))))
 (pss_one (ps_ret (pe_tup (pa_cons (pv 1) (pa_cons (pe_ix (kix_list (K := K) rfl) (pv 2) (pe_op op_mod (pe_callTy call_int1 (by rfl) T.n_int bb_int (pa_cons (pe_ix (kix_list (K := K) rfl) (pv 0) pe_int (fun _ _ => rfl)) pa_nil)) (pe_callB (kcr_len (K := K) rfl) (by rfl) T.n_len bb_len (pa_cons (pv 2) pa_nil))) (fun _ _ => rfl)) (pa_cons (pe_ix (kix_list (K := K) rfl) (pe_lst (pa_cons pe_str (pa_cons pe_str pa_nil))) (pe_op op_mod (pe_callTy call_int1 (by rfl) T.n_int bb_int (pa_cons (pe_ix (kix_list (K := K) rfl) (pv 0) pe_int (fun _ _ => rfl)) pa_nil)) pe_int) (fun _ _ => rfl)) (pa_cons (pe_ix (kix_list (K := K) rfl) (pe_lst (pa_cons (pe_op op_add pe_int (pe_op op_mod (pe_callTy call_int1 (by rfl) T.n_int bb_int (pa_cons (pe_ix (kix_list (K := K) rfl) (pv 0) pe_int (fun _ _ => rfl)) pa_nil)) pe_int)) (pa_cons (pe_op op_mod (pe_callTy call_int1 (by rfl) T.n_int bb_int (pa_cons (pe_ix (kix_list (K := K) rfl) (pv 0) pe_int (fun _ _ => rfl)) pa_nil)) pe_int) (pa_cons pe_int pa_nil)))) (pe_op op_mod (pe_callTy call_int1 (by rfl) T.n_int bb_int (pa_cons (pe_op op_fdiv (pe_ix (kix_list (K := K) rfl) (pv 0) pe_int (fun _ _ => rfl)) pe_int) pa_nil)) pe_int) (fun _ _ => rfl)) pa_nil))))))))), ?_⟩
  refine ⟨_, rfl, v, ds, rfl, hv, hl, fun tv H1 n rs s1 town tw n1 n5 => ?_⟩
  have hv1 := hv.mono s1
  obtain ⟨ta, tr, rfl, hta, _⟩ := id town
  obtain ⟨d12, hd12⟩ := numIx hl (i := 12) (by omega)
  obtain ⟨d13, hd13⟩ := numIx hl (i := 13) (by omega)
  obtain ⟨d14, hd14⟩ := numIx hl (i := 14) (by omega)
  obtain ⟨d15, hd15⟩ := numIx hl (i := 15) (by omega)
  refine ⟨_, rfl, ta, _, 0, _, rfl, rfl, SqT.of hta, rfl, ?_⟩
  refine ⟨_, rfl, numAt hv1 hd12 (.inl ⟨_, rfl, modC (m := 2) (by decide) (addN (x := 1) ?_)⟩)⟩
  have hh : d12 % 2 < 2 := Nat.mod_lt _ (by decide)
  generalize d12 % 2 = m0 at hh
  refine ⟨n, 1 + m0, rfl, by omega, by omega, by omega, fun sv H2 ss s2 pss lt => ?_⟩
  obtain ⟨B, xs, rfl, hB, hx⟩ := lt
  have lx := Paired.len hx
  have lss := pss.length_eq
  have pos := stands_pos n1 (1 + m0)
  have hv2 := hv1.mono s2
  have town2 := town.mono s2
  refine ⟨_, rfl, ?_⟩
  refine ⟨_, rfl, _, rfl, numAt hv2 hd13 (.inl ⟨_, rfl, _, rfl, B, _, rfl, .inl (SqL.of hB), modN (m := xs.length) (by omega) ?_⟩)⟩
  have hat : d13 % xs.length < xs.length := Nat.mod_lt _ (by omega)
  generalize d13 % xs.length = at_ at hat
  obtain ⟨y, hy⟩ : ∃ y, xs[at_]? = some y := ⟨_, List.getElem?_eq_getElem hat⟩
  obtain ⟨st, hst, ty⟩ := Paired.at_ hx hy
  have sst : Stand n (1 + m0) st := mem_stands.mp (pss.mem_iff.mp (List.mem_of_getElem? hst))
  refine ⟨B, _, _, y, rfl, rfl, SqL.of hB, atI_nat hy, ?_⟩
  refine ⟨by show 2 ≤ sizeLine; decide, fun M hM => ?_⟩
  refine new_ind hM (upd _ M _) rfl fun H3 s3 e3 => ?_
  refine ⟨_, rfl, numAt (hv2.mono s3) hd14 (.inl ⟨_, rfl, modC (m := 2) (by decide) ?_⟩)⟩
  have hrl : ∃ one : Bool, ([V.str "one", .str "all"] : List V)[d14 % 2]? = some (ruleV one) := by
    have : d14 % 2 = 0 ∨ d14 % 2 = 1 := by omega
    rcases this with e | e
    · exact ⟨true, by rw [e]; rfl⟩
    · exact ⟨false, by rw [e]; rfl⟩
  obtain ⟨one, hone⟩ := hrl
  refine ⟨M, _, _, _, rfl, rfl, SqL.of e3, atI_nat hone, ?_⟩
  refine ⟨_, rfl, numAt (hv2.mono s3) hd15 (.inl ⟨_, rfl, modC (m := 5) (by decide) (addN (x := 1) ?_)⟩)⟩
  refine ⟨_, rfl, numAt (hv2.mono s3) hd15 (.inl ⟨_, rfl, modC (m := 13) (by decide) ?_⟩)⟩
  refine ⟨by show 3 ≤ sizeLine; decide, fun N hN => ?_⟩
  refine new_ind hN (upd _ N _) rfl fun H4 s4 e4 => ?_
  refine ⟨_, rfl, numC ((hv2.mono s3).mono s4) hd15 (divC (m := 13) (by decide) (by decide) (.inl ⟨_, rfl, modC (m := 3) (by decide) ?_⟩))⟩
  have hre : ∃ reach : Nat, ([nV (1 + d15 % 5), nV (d15 % 13), nV 60] : List V)[d15 / 13 % 3]? = some (nV reach) := by
    have : d15 / 13 % 3 = 0 ∨ d15 / 13 % 3 = 1 ∨ d15 / 13 % 3 = 2 := by omega
    rcases this with e | e | e
    · exact ⟨_, by rw [e]; rfl⟩
    · exact ⟨_, by rw [e]; rfl⟩
    · exact ⟨_, by rw [e]; rfl⟩
  obtain ⟨reach, hreach⟩ := hre
  refine ⟨N, _, _, _, rfl, rfl, SqL.of e4, atI_nat hreach, ?_⟩
  refine ⟨by show 4 ≤ sizeLine; decide, fun q hq => ?_⟩
  refine new_ind hq (upd _ q _) rfl fun H5 s5 e5 => ?_
  have s25 := s3.trans (s4.trans s5)
  refine k q _ n rs y st one reach H5 (s1.trans (s2.trans s25)) e5 (town2.mono s25) tw n1 n5 (ty.mono s25.tup) ?_ ?_ ?_
  · rw [sst.1]
    exact sst
  · rw [sst.1]
    omega
  · rw [sst.1]
    omega
end Ev
end
section
namespace Ev
open PySem L2
variable {P : Program} {w : World} {K : PySem.W.Frag} {mg : Str → Option Value} {base : Heap}

/-! ### _law_rank -/
theorem bt_iff {A A' : AR} {n h : Nat} (hA : Closed A n h) (hm : ∀ s c t, Stand n h s → c < n → (A s c t ↔ A' s c t)) : ∀ k s, Stand n h s → (Bt A n k s ↔ Bt A' n k s)
  | 0, _, _ => Iff.rfl
  | k + 1, s, hs => by
    refine or_congr (bt_iff hA hm k s hs) (exists_congr fun c => and_congr_right fun hc => forall_congr' fun t => ⟨fun q a => ?_, fun q a => ?_⟩)
    · have a' := (hm s c t hs hc).mpr a
      exact (bt_iff hA hm k t (hA s c t hs hc a')).mp (q a')
    · exact (bt_iff hA hm k t (hA s c t hs hc a)).mpr (q ((hm s c t hs hc).mp a))
theorem rk_iff {A A' : AR} {n h : Nat} (hA : Closed A n h) (hm : ∀ s c t, Stand n h s → c < n → (A s c t ↔ A' s c t)) {s : List Nat} (hs : Stand n h s) : ∀ {o : Option Nat}, Rk A n s o → Rk A' n s o
  | none, q => fun k b => q k ((bt_iff hA hm k s hs).mpr b)
  | some r, q => ⟨q.1, (bt_iff hA hm r s hs).mp q.2.1, fun b => q.2.2 ((bt_iff hA hm (r - 1) s hs).mpr b)⟩
def spLRank : Sp := fun vs H Q _ => ∃ (n reach : Nat) (rs : List Road) (one : Bool) (s : List Nat) (v tv : V), vs = [tv, v, ruleV one, nV reach] ∧ TownV H tv n rs ∧ Town n rs ∧ n ≤ 7 ∧ TupN H v s ∧ Stand n s.length s ∧ 1 ≤ s.length ∧ s.length ≤ 2 ∧
  ∀ H' o, Same H H' → Rk (AN rs reach one n) n s o → Q (oV o) H'
theorem scLRank : FnScope ["_law_town_here", "_law_stand", "_law_rule", "_law_reach", "_law_ranks_here"] ["_law_town_here", "_law_stand", "_law_rule", "_law_reach"] (C8.fnScope (top 52)) := ⟨rfl, rfl, rfl, by decide +kernel, rfl, by decide +kernel, by decide +kernel⟩
theorem ok_law_rank {f : Addr} {fd : FuncData} (F : C8.Def K mg "_law_rank" (top 52) f fd) (b : Binds K fd ["_law_town_here", "_law_stand", "_law_rule", "_law_reach"] []) (T : Txt K mg) (c__law_ways : C8.Cal P w K mg base 1 "_law_ways" spWays [])
    (c__law_ranks : C8.Cal P w K mg base 6 "_law_ranks" spLRanks []) : C8.Cal P w K mg base 7 "_law_rank" spLRank [] := by
  refine C8.cal0 F b .nil scLRank (fun vs H Q E h => ?_) (fun cdv A outer s H vs Q E hr h => ?_)
  · obtain ⟨n, reach, rs, one, s, v, tv, rfl, _⟩ := h
    rfl
  obtain ⟨n, reach, rs, one, s, v, tv, rfl, town, tw, hn, hv, st, l1, l2, k⟩ := h
  have nd := scLRank.nd
  refine ⟨_, (pss_cons (ps_set (i := 4) nd rfl (by first | exact .inl rfl | exact .inr rfl) (C8.pe_c c__law_ranks hr (by decide) rfl (pa_cons (C8.pe_c c__law_ways hr (by decide) rfl (pa_cons (pv 0) pa_nil)) (pa_cons (pe_callB (kcr_len (K := K) rfl) (by rfl) T.n_len bb_len (pa_cons (pv 1) pa_nil)) (pa_cons (pv 2) (pa_cons (pv 3) pa_nil))))))
 (pss_cons (ps_if (pt_cmp (pc_din (hu_of hr) (pv 1) (pv 4)) (by rfl))
 (pss_one (ps_ret (pe_dget (hu_of hr) (pv 4) (pv 1) (fun _ _ => rfl))))
 pss_nil)
 (pss_one (ps_ret pe_non)))), ?_⟩
  obtain ⟨a, rfl, ha⟩ := id hv
  refine ⟨_, rfl, n, rs, _, rfl, town, tw, hn, fun v' H1 m s1 tb tbl => ?_⟩
  have ha1 := s1 _ _ ha
  refine ⟨_, rfl, a, _, rfl, .inr (SqT.of ha1), _, rfl, _, rfl, n, s.length, reach, one, m, v', by rw [List.length_map]; rfl, tb, hn, l1, l2, fun D H2 f kvs s2 hF hrk => ?_⟩
  have ha2 := s2 _ _ ha1
  have hst := mem_stands.mpr st
  have hs12 := s1.trans s2
  have rk : Rk (AN rs reach one n) n s (f s) := rk_iff (fun s c t hs hc a => ans_stand hs hc a) (fun s c t hs hc => ans_near tbl hs hc) st (hrk s st)
  refine ⟨_, rfl, _, rfl, D, _, rfl, DGet.t (k := kk s) hF.1 (by rw [kk_map]; exact ha2), _, rfl, ?_⟩
  rw [hF.2.1 s hst]
  refine ite_b (fun c1 => ?_) (fun c1 => ?_)
  · cases e : f s with
    | none => rw [e] at c1; cases c1
    | some r =>
      refine ⟨_, rfl, _, rfl, D, nV r, rfl, ?_, ?_⟩
      · have g := DGet.t (k := kk s) hF.1 (show H2 a = some (.tup ((kk s).map kV)) by rw [kk_map]; exact ha2)
        rw [hF.2.1 s hst, e] at g
        exact g
      · rw [e] at rk
        exact k H2 (some r) hs12 rk
  · cases e : f s with
    | some r => rw [e] at c1; cases c1
    | none =>
      rw [e] at rk
      exact k H2 none hs12 rk
end Ev
end
section
/-! towns as data, the frame of a house, two numbers sorted -/
namespace Ev
open PySem PySem.Spec PyProof.Rows L2
section
variable {K : PySem.W.Frag}
def dR (r : Road) : PyData := .tuple (dN (rl r))
theorem dp_roads {H : Hp} : ∀ {xs : List V} {rs : List Road}, Tups H xs (rs.map rl) → DpAll K H xs (rs.map dR)
  | _, [], .nil => .nil
  | _, r :: rs, .cons ⟨a, e, h⟩ t => by
    subst e
    exact .cons (.tup (SqT.of h) (dp_nats _)) (dp_roads t)
theorem eqv_road (r s : Road) : PyData.eqv (dR r) (dR s) = decide (r = s) := by
  show PyData.eqvAll (dN (rl r)) (dN (rl s)) = _
  rw [eqvAll_nats]
  refine decide_eq_decide.mpr ⟨fun h => ?_, fun h => by rw [h]⟩
  injection h with h1 h
  injection h with h2 h
  injection h with h3 _
  exact Prod.ext h1 (Prod.ext h2 h3)
theorem eqv_roads : ∀ rs : List Road, PyData.eqvAll (rs.map dR) (rs.map dR) = true
  | [] => rfl
  | r :: rs => by
    show (PyData.eqv (dR r) (dR r) && PyData.eqvAll (rs.map dR) (rs.map dR)) = true
    rw [eqv_road, eqv_roads rs]
    simp
theorem lay_roads : ∀ rs : List Road, PyData.canLayAll0 (rs.map dR) = true
  | [] => rfl
  | r :: rs => by
    show ((dR r).canLay0 && PyData.canLayAll0 (rs.map dR)) = true
    have h : (dR r).canLay0 = true := by
      show PyData.canLayAll0 (dN (rl r)) = true
      exact lay_nats _
    rw [h, lay_roads rs]
    rfl
theorem dep_road (r : Road) : (dR r).depth ≤ 2 := by
  have := dep_nats (rl r)
  show PyData.depthAll (dN (rl r)) + 1 ≤ 2
  omega
theorem dep_roads : ∀ rs : List Road, PyData.depthAll (rs.map dR) ≤ 2
  | [] => by
    show PyData.depthAll [] ≤ 2
    simp [PyData.depthAll]
  | r :: rs => by
    have h1 := dep_road r
    have h2 := dep_roads rs
    show PyData.depthAll (dR r :: rs.map dR) ≤ 2
    simp only [PyData.depthAll]
    omega
theorem shaped_road (r : Road) : SeqAt.shaped (dR r) = true := shaped_tup _
theorem shaped_roads (rs : List Road) : SeqAt.shaped (.list (rs.map dR)) = true := by
  have := dep_roads rs
  have := lay_roads rs
  unfold SeqAt.shaped
  rw [Bool.and_eq_true]
  refine ⟨?_, decide_eq_true ?_⟩
  · simp [PyData.canLay0, this]
  · simp only [PyData.depth]
    omega
def dT (n : Nat) (rs : List Road) : PyData := .tuple [.int (n : Int), .list (rs.map dR)]
theorem dp_town {H : Hp} {v : V} {n : Nat} {rs : List Road} (t : TownV H v n rs) : Dp K H v (dT n rs) := by
  obtain ⟨a, r, rfl, ha, l, xs, rfl, hl, hx⟩ := t
  exact .tup (SqT.of ha) (.cons (.int _) (.cons (.lst (SqL.of hl) (dp_roads hx)) .nil))
theorem eqv_town (n : Nat) (rs : List Road) : PyData.eqv (dT n rs) (dT n rs) = true := by
  show (PyData.eqv (.int (n : Int)) (.int (n : Int)) && (PyData.eqvAll (rs.map dR) (rs.map dR) && true)) = true
  rw [eqv_roads]
  simp [PyData.eqv]
theorem shaped_town (n : Nat) (rs : List Road) : SeqAt.shaped (dT n rs) = true := by
  have h1 := dep_roads rs
  have h2 := lay_roads rs
  unfold SeqAt.shaped
  rw [Bool.and_eq_true]
  refine ⟨?_, decide_eq_true ?_⟩
  · show (PyData.canLay0 (.int (n : Int)) && (PyData.canLayAll0 (rs.map dR) && true)) = true
    rw [h2]
    rfl
  · show (PyData.depthAll [.int (n : Int), .list (rs.map dR)]) + 1 ≤ 64
    simp only [PyData.depthAll, PyData.depth]
    omega
/-- a != b of two equal towns -/
theorem townNe {H : Hp} {v u : V} {n : Nat} {rs : List Road} {Q : VK} (a : TownV H v n rs) (b : TownV H u n rs) (q : Q (.bl false) H) : rNeD K v u H Q :=
  ⟨_, _, dp_town a, dp_town b, shaped_town _ _, shaped_town _ _, by rw [eqv_town]; exact q⟩
theorem tupNe {H : Hp} {v u : V} {s : List Nat} {Q : VK} (a : TupN H v s) (b : TupN H u s) (q : Q (.bl false) H) : rNeD K v u H Q := by
  obtain ⟨x, rfl, hx⟩ := a
  obtain ⟨y, rfl, hy⟩ := b
  refine ⟨_, _, .tup (SqT.of hx) (dp_nats s), .tup (SqT.of hy) (dp_nats s), shaped_tup _, shaped_tup _, ?_⟩
  show Q (.bl (!PyData.eqvAll (dN s) (dN s))) H
  rw [eqvAll_nats, decide_eq_true rfl]
  exact q
end
theorem neSelf {o : Option Nat} {H : Hp} {Q : VK} (q : Q (.bl false) H) : rNe (oV o) (oV o) H Q := by
  cases o with
  | none => exact ⟨rfl, q⟩
  | some r =>
    refine ⟨rfl, ?_⟩
    rw [decide_eq_true rfl]
    exact q
theorem neBl {b : Bool} {H : Hp} {Q : VK} (q : Q (.bl false) H) : rNe (.bl b) (.bl b) H Q := by
  refine ⟨rfl, ?_⟩
  rw [decide_eq_true rfl]
  exact q
/-! the frame of a house -/
theorem NumsV.keepL {H H' : Hp} (k : KeepL H H') {v : V} {ds : List Nat} (h : NumsV H v ds) : NumsV H' v ds := by
  obtain ⟨p, e, q⟩ := h
  exact ⟨p, e, k _ _ True.intro q⟩
theorem HouseV.at_ {CH CS : Addr} {H : Hp} {a : Addr} {h : Hs} (v : HouseV CH CS H a h) : ∃ dx L E, H a = some (.ins CH dx (fsH h.one h.reach L h.i E)) := by
  obtain ⟨⟨dx, L, E, as, es, ha, _⟩, _⟩ := v
  exact ⟨dx, L, E, ha⟩
theorem HouseV.kl {CH CS : Addr} {H H' : Hp} {a : Addr} {h : Hs} (v : HouseV CH CS H a h) (k : Kp a H H') : KeepL H H' := by
  obtain ⟨dx, L, E, ha⟩ := v.at_
  exact k.l ha
/-- more roads, no lesser rank -/
theorem an_mono {rs ss : List Road} (hs : ∀ r, r ∈ rs → r ∈ ss) {n reach : Nat} {one : Bool} {s : List Nat} {o p : Option Nat} (st : Stand n s.length s) (hn : n ≤ 7) (h2 : s.length ≤ 2) (a : Rk (AN rs reach one n) n s o) (b : Rk (AN ss reach one n) n s p) : val o ≤ val p :=
  rk_mono (A := AN rs reach one n) (A' := AN ss reach one n) (h := s.length) (S := stands n s.length) (fun s c t hs hc a => ans_stand hs hc a) (fun _ => mem_stands) (Nat.le_trans (stands_few hn h2) (by decide)) (fun s c t _ a => ans_mono (fun _ _ => Near.mono hs) a) st a b
/-! two numbers sorted -/
theorem sorted2 {x y : Nat} {ns : List Int} (p : ns.Perm [(x : Int), (y : Int)]) (w : ns.Pairwise (· ≤ ·)) : ∃ u v : Nat, ns = [(u : Int), (v : Int)] ∧ u ≤ v ∧ ((u = x ∧ v = y) ∨ (u = y ∧ v = x)) := by
  have hl := p.length_eq
  match ns, hl with
  | [a, b], _ =>
    have hab : a ≤ b := by
      have := List.pairwise_cons.mp w
      exact this.1 b (by simp)
    have h1 := p.mem_iff (a := a)
    have h2 := p.mem_iff (a := b)
    have h3 := p.mem_iff (a := (x : Int))
    have h4 := p.mem_iff (a := (y : Int))
    simp at h1 h2 h3 h4
    have key : (a = x ∧ b = y) ∨ (a = y ∧ b = x) := by omega
    rcases key with ⟨rfl, rfl⟩ | ⟨rfl, rfl⟩
    · exact ⟨x, y, rfl, by omega, .inl ⟨rfl, rfl⟩⟩
    · exact ⟨y, x, rfl, by omega, .inr ⟨rfl, rfl⟩⟩
theorem cut_mid (xs : List V) {i j : Nat} (h : i ≤ j) (h2 : j ≤ xs.length) : cutV xs (some (i : Int)) (some (j : Int)) = (xs.drop i).take (j - i) := by
  unfold cutV
  rw [HT.sIx_nat, HT.sIx_nat, Nat.min_eq_left h2, Nat.min_eq_left (by omega)]
end Ev
end
section
namespace Ev
open PySem L2
variable {P : Program} {w : World} {K : PySem.W.Frag} {mg : Str → Option Value} {base : Heap}

/-! ### law -/
def spLaw (K : PySem.W.Frag) : Sp := fun vs H Q _ => ∃ (a : Addr) (ns : List Int), vs = [.ref a] ∧ SqL K H a (ns.map V.int) ∧ ns.length ≤ 63 ∧ ∀ H', Q (.bl true) H'
theorem scLaw : FnScope ["_law_script", "_law_draws_here", "_law_house", "_law_k", "_law_town_here", "_law_stand", "_law_rule", "_law_reach", "_law_part", "_law_ends", "_law_there", "_law_before", "_law_rank_here", "_law_roads", "_law_told", "_law_road"] ["_law_script"] (C8.fnScope (top 53)) := ⟨rfl, rfl, rfl, by decide +kernel, rfl, by decide +kernel, by decide +kernel⟩
/-- what a turn finds -/
structure LawI (CH CS : Addr) (n reach : Nat) (one : Bool) (s ds : List Nat) (a : Addr) (dv tv sv : V) (G : Hp) : Prop where
  dr : NumsV G dv ds
  st : TupN G sv s
  tw : ∃ ta tr, tv = .ref ta ∧ G ta = some (.tup [nV n, tr])
theorem LawI.keepL {CH CS : Addr} {n reach : Nat} {one : Bool} {s ds : List Nat} {a : Addr} {dv tv sv : V} {G G' : Hp} (h : LawI CH CS n reach one s ds a dv tv sv G) (k : KeepL G G') : LawI CH CS n reach one s ds a dv tv sv G' := by
  obtain ⟨h1, h2, ta, tr, e, h3⟩ := h
  exact ⟨h1.keepL k, h2.keep k, ta, tr, e, k _ _ True.intro h3⟩
theorem ok_law {CH CS f fI : Addr} {fd fdI : FuncData} (F : C8.Fun K "law" "law" (top 53) f fd) (T : Txt K mg) (MH : Mk K CH fI) (mgH : mg "House" = some (.ref CH)) (GH : FnOk P w K mg base C8.CX0 7 fI fdI ["self", "town", "stand", "rule", "reach"] (spHouse CH CS))
    (bH : KBn K fdI ["self", "town", "stand", "rule", "reach"] 3 ["rule", "reach"] (fun us ws => us ++ ws) (fun vs zs => vs ++ zs))
    (c__law_draws : C8.Cal P w K mg base 1 "_law_draws" (spDraws K) []) (c__law_world : C8.Cal P w K mg base 2 "_law_world" spWorld []) (c__law_value : C8.Cal P w K mg base 1 "_law_value" spValue []) (c__law_rank : C8.Cal P w K mg base 7 "_law_rank" spLRank [])
    (d_town : C8.Met P w K mg base 2 CH "town" (spTownM CH CS) []) (d_rank : C8.Met P w K mg base 2 CH "rank" (spRankM CH CS) []) (d_stand : C8.Met P w K mg base 2 CH "stand" (spStandM CH CS) []) (d_calls : C8.Met P w K mg base 2 CH "calls" (spCallsM CH CS) []) (d_way : C8.Met P w K mg base 2 CH "way" (spWayM CH CS) [])
    (d_undo : C8.Met P w K mg base 1 CH "undo" (spUndo CH CS) []) (d_build : C8.Met P w K mg base 8 CH "build" (spBuild CH CS) []) (d_shut : C8.Met P w K mg base 8 CH "shut" (spShut CH CS) []) (p_is_safe : Prp P w K mg base 2 CH "is_safe" (spSafe CH CS)) (p_can_undo : Prp P w K mg base 1 CH "can_undo" (spCanUndo CH CS)) :
    FnOk P w K mg base C8.CX0 9 f fd ["_law_script"] (spLaw K) := by
  refine C8.fn0 F scLaw (fun vs H Q E h => ?_) (fun cdv A outer s H vs Q E hr h => ?_)
  · obtain ⟨a, ns, rfl, _⟩ := h
    rfl
  obtain ⟨sc, ns, rfl, hS, hlen, k⟩ := h
  have nd := scLaw.nd
  refine ⟨_, (pss_cons (ps_set (i := 1) nd rfl (by first | exact .inl rfl | exact .inr rfl) (C8.pe_c c__law_draws hr (by decide) rfl (pa_cons (pv 0) (pa_cons pe_int pa_nil))))
 (pss_cons (ps_asg (C8.pe_c c__law_world hr (by decide) rfl (pa_cons (pv 1) pa_nil)) (kpg_tup (K := K) (n := 4) rfl rfl (pgs_cons (pg_name (i := 4) nd rfl (by first | exact .inl rfl | exact .inr rfl)) (pgs_cons (pg_name (i := 5) nd rfl (by first | exact .inl rfl | exact .inr rfl)) (pgs_cons (pg_name (i := 6) nd rfl (by first | exact .inl rfl | exact .inr rfl)) (pgs_cons (pg_name (i := 7) nd rfl (by first | exact .inl rfl | exact .inr rfl)) pgs_nil))))))
 (pss_cons (ps_set (i := 2) nd rfl (by first | exact .inl rfl | exact .inr rfl) (pe_makeK (E := C8.E0) MH GH hr rfl mgH bH C8.pass0 (pa_cons (pv 4) (pa_cons (pv 5) pa_nil)) (pk_cons (pv 6) (pk_cons (pv 7) pk_nil))))
 (pss_cons (ps_for PassesOwn.never rfl (pi_range1 (by rfl) T.n_range (pa_cons (pe_op op_mod (pe_callTy call_int1 (by rfl) T.n_int bb_int (pa_cons (pe_ix (kix_list (K := K) rfl) (pv 1) pe_int (fun _ _ => rfl)) pa_nil)) pe_int) pa_nil)) (pg_name (i := 3) nd rfl (by first | exact .inl rfl | exact .inr rfl))
 (pss_cons (ps_set (i := 8) nd rfl (by first | exact .inl rfl | exact .inr rfl) (pe_slice (ksl_list (K := K) rfl) (pv 1) (po_some (pe_op op_add pe_int (pe_op op_mul pe_int (pv 3)))) (po_some (pe_op op_add pe_int (pe_op op_mul pe_int (pv 3))))))
 (pss_cons (ps_par3 (i := 11) (j := 12) (l := 13) rfl nd rfl rfl rfl  (by decide) (by decide) (by decide) rfl rfl rfl  (pa_cons (C8.pe_mt0 d_town hr (by decide) (pv 2)) (pa_cons (C8.pe_mt0 d_rank hr (by decide) (pv 2)) (pa_cons (pe_ix (kix_tup (K := K) rfl) (C8.pe_mt0 d_town hr (by decide) (pv 2)) pe_int (fun _ _ => rfl)) pa_nil))) (by rfl))
 (pss_cons (ps_set (i := 9) nd rfl (by first | exact .inl rfl | exact .inr rfl) (pe_callB (kcr_sortedI (K := K) rfl) (by rfl) T.n_sorted bb_sorted (pa_cons (pe_lst (pa_cons (pe_op op_mod (pe_callTy call_int1 (by rfl) T.n_int bb_int (pa_cons (pe_ix (kix_list (K := K) rfl) (pv 8) pe_int (fun _ _ => rfl)) pa_nil)) (pe_ix (kix_tup (K := K) rfl) (pv 4) pe_int (fun _ _ => rfl))) (pa_cons (pe_op op_mod (pe_callTy call_int1 (by rfl) T.n_int bb_int (pa_cons (pe_ix (kix_list (K := K) rfl) (pv 8) pe_int (fun _ _ => rfl)) pa_nil)) (pe_ix (kix_tup (K := K) rfl) (pv 4) pe_int (fun _ _ => rfl))) pa_nil))) pa_nil)))
 (pss_cons (ps_set (i := 10) nd rfl (by first | exact .inl rfl | exact .inr rfl) (pe_lc (own := [("_law_road", 15)]) rfl nd (kpi_list (K := K) rfl (pv 13)) (blkOk_by (own := [("_law_road", 15)]) (by kernel_rfl)) (fun _ _ _ _ _ => (pg_name (i := 15) nd rfl (by first | exact .inl rfl | exact .inr rfl))) (fun _ _ _ _ _ => (pts_one (pt_cmpR (kop_eqD (K := K) rfl hr.units) (pe_slice (ksl_tupA (K := K) rfl) (pv 15) po_none (po_some pe_int)) (pe_tup (pa_cons (pe_ix (kix_list (K := K) rfl) (pv 9) pe_int (fun _ _ => rfl)) (pa_cons (pe_ix (kix_list (K := K) rfl) (pv 9) pe_int (fun _ _ => rfl)) pa_nil))) (nomark _)))) (fun _ _ _ _ _ => (pv 15))))
 (C8.pss_cut (ps_if (PW.pt (pw_and (pt_cmpR op_lt (pe_ix (kix_list (K := K) rfl) (pv 9) pe_int (fun _ _ => rfl)) (pe_ix (kix_list (K := K) rfl) (pv 9) pe_int (fun _ _ => rfl)) (nomark _)) (pw_and1 (pt_cmpR op_eq (pe_callB (kcr_len (K := K) rfl) (by rfl) T.n_len bb_len (pa_cons (pv 10) pa_nil)) pe_int (nomark _)))))
 (pss_cons (ps_set (i := 14) nd rfl (by first | exact .inl rfl | exact .inr rfl) (C8.pe_mt d_build hr (by decide) (pv 2) (pa_cons (pe_tup (pa_cons (pe_ix (kix_list (K := K) rfl) (pv 9) pe_int (fun _ _ => rfl)) (pa_cons (pe_ix (kix_list (K := K) rfl) (pv 9) pe_int (fun _ _ => rfl)) (pa_cons (pe_op op_add pe_int (pe_op op_mod (pe_callTy call_int1 (by rfl) T.n_int bb_int (pa_cons (pe_ix (kix_list (K := K) rfl) (pv 8) pe_int (fun _ _ => rfl)) pa_nil)) pe_int)) pa_nil)))) pa_nil)))
 (pss_one (ps_if (PW.pt (pw_or (pt_cmpR op_lt (C8.pe_c c__law_value hr (by decide) rfl (pa_cons (C8.pe_mt0 d_rank hr (by decide) (pv 2)) pa_nil)) (C8.pe_c c__law_value hr (by decide) rfl (pa_cons (pv 12) pa_nil)) (nomark _)) (pw_or1 (pt_cmpR op_ne (pe_callB (kcr_len (K := K) rfl) (by rfl) T.n_len bb_len (pa_cons (pe_ix (kix_tup (K := K) rfl) (C8.pe_mt0 d_town hr (by decide) (pv 2)) pe_int (fun _ _ => rfl)) pa_nil)) (pe_op op_add (pe_callB (kcr_len (K := K) rfl) (by rfl) T.n_len bb_len (pa_cons (pv 13) pa_nil)) pe_int) (nomark _)))))
 (pss_one (ps_ret pe_bl))
 pss_nil)))
 (pss_one (ps_if (pt_cmpR op_gt (pe_callB (kcr_len (K := K) rfl) (by rfl) T.n_len bb_len (pa_cons (pv 10) pa_nil)) pe_int (nomark _))
 (pss_cons (ps_set (i := 14) nd rfl (by first | exact .inl rfl | exact .inr rfl) (C8.pe_mt d_shut hr (by decide) (pv 2) (pa_cons (pe_ix (kix_list (K := K) rfl) (pv 9) (pe_op op_mod (pe_callTy call_int1 (by rfl) T.n_int bb_int (pa_cons (pe_ix (kix_list (K := K) rfl) (pv 8) pe_int (fun _ _ => rfl)) pa_nil)) pe_int) (fun _ _ => rfl)) (pa_cons (pe_ix (kix_list (K := K) rfl) (pv 9) (pe_op op_sub pe_int (pe_op op_mod (pe_callTy call_int1 (by rfl) T.n_int bb_int (pa_cons (pe_ix (kix_list (K := K) rfl) (pv 8) pe_int (fun _ _ => rfl)) pa_nil)) pe_int)) (fun _ _ => rfl)) pa_nil))))
 (pss_cons (ps_if (PW.pt (pw_or (pt_cmpR op_gt (C8.pe_c c__law_value hr (by decide) rfl (pa_cons (C8.pe_mt0 d_rank hr (by decide) (pv 2)) pa_nil)) (C8.pe_c c__law_value hr (by decide) rfl (pa_cons (pv 12) pa_nil)) (nomark _)) (pw_or1 (pt_cmpR (kop_neD (K := K) rfl hr.units) (pe_ix (kix_tup (K := K) rfl) (C8.pe_mt0 d_town hr (by decide) (pv 2)) pe_int (fun _ _ => rfl)) (pe_lc (own := [("_law_road", 15)]) rfl nd (kpi_list (K := K) rfl (pv 13)) (blkOk_by (own := [("_law_road", 15)]) (by kernel_rfl)) (fun _ _ _ _ _ => (pg_name (i := 15) nd rfl (by first | exact .inl rfl | exact .inr rfl))) (fun _ _ _ _ _ => (pts_one (pt_cmpR (kop_neD (K := K) rfl hr.units) (pv 15) (pe_ix (kix_list (K := K) rfl) (pv 10) pe_int (fun _ _ => rfl)) (nomark _)))) (fun _ _ _ _ _ => (pv 15))) (nomark _)))))
 (pss_one (ps_ret pe_bl))
 pss_nil)
 (pss_cons (ps_expr (C8.pe_mt d_build hr (by decide) (pv 2) (pa_cons (pe_ix (kix_list (K := K) rfl) (pv 10) pe_int (fun _ _ => rfl)) pa_nil)))
 (pss_cons (ps_if (PW.pt (pw_or (pt_cmpR (kop_neD (K := K) rfl hr.units) (C8.pe_mt0 d_town hr (by decide) (pv 2)) (pv 11) (nomark _)) (pw_or1 (pt_cmpR op_ne (C8.pe_mt0 d_rank hr (by decide) (pv 2)) (pv 12) (nomark _)))))
 (pss_one (ps_ret pe_bl))
 pss_nil)
 (pss_one (ps_expr (C8.pe_mt0 d_undo hr (by decide) (pv 2))))))))
 (pss_one (ps_set (i := 14) nd rfl (by first | exact .inl rfl | exact .inr rfl) (pe_pr p_is_safe hr (by decide) (pv 2) rfl))))))
 (pss_cons (ps_if (PW.pt (pw_or (pt_not (pt_val (pe_callB (kcr_isi (K := K) rfl) (by rfl) T.n_isinstance bb_isinstance (pa_cons (pv 14) (pa_cons (pe_bltn (v := .ty "bool") (by rfl) T.n_bool bb_bool rfl) pa_nil))) (by intro _; rfl))) (pw_or (pt_cmpR op_ne (pv 14) (pe_pr p_is_safe hr (by decide) (pv 2) rfl) (nomark _)) (pw_or (pt_cmpR op_ne (C8.pe_mt0 d_rank hr (by decide) (pv 2)) (C8.pe_c c__law_rank hr (by decide) rfl (pa_cons (C8.pe_mt0 d_town hr (by decide) (pv 2)) (pa_cons (pv 5) (pa_cons (pv 6) (pa_cons (pv 7) pa_nil))))) (nomark _)) (pw_or1 (pt_cmpR (kop_neD (K := K) rfl hr.units) (C8.pe_mt0 d_stand hr (by decide) (pv 2)) (pv 5) (nomark _)))))))
 (pss_one (ps_ret pe_bl))
 pss_nil)
 (pss_one (ps_if (PW.pt (pw_and (pt_val (pe_pr p_can_undo hr (by decide) (pv 2) rfl) (by intro _; rfl)) (pw_and (pt_cmpR op_eq (pe_op op_mod (pe_callTy call_int1 (by rfl) T.n_int bb_int (pa_cons (pe_ix (kix_list (K := K) rfl) (pv 8) pe_int (fun _ _ => rfl)) pa_nil)) pe_int) pe_int (nomark _)) (pw_and1 (pt_cmpR op_lt (pe_ix (kix_list (K := K) rfl) (pv 9) pe_int (fun _ _ => rfl)) (pe_ix (kix_list (K := K) rfl) (pv 9) pe_int (fun _ _ => rfl)) (nomark _))))))
 (pss_cons (ps_expr (C8.pe_mt0 d_undo hr (by decide) (pv 2)))
 (pss_one (ps_if (PW.pt (pw_or (pt_cmpR (kop_neD (K := K) rfl hr.units) (C8.pe_mt0 d_town hr (by decide) (pv 2)) (pv 11) (nomark _)) (pw_or1 (pt_cmpR op_ne (C8.pe_mt0 d_rank hr (by decide) (pv 2)) (pv 12) (nomark _)))))
 (pss_one (ps_ret pe_bl))
 pss_nil)))
 pss_nil)))))))))
 (pss_one (ps_ret (pe_and (pe_cmpR (kop_eqD (K := K) rfl hr.units) (C8.pe_mt0 d_calls hr (by decide) (pv 2)) (pe_lst pa_nil) (nomark _)) (pe_one (pe_cmpR op_eq (C8.pe_mt0 d_way hr (by decide) (pv 2)) pe_int (nomark _)))))))))), ?_⟩
  refine ⟨_, rfl, sc, ns, rfl, hS, hlen, fun dv H1 ds s1 hd1 hdl => ?_⟩
  refine ⟨_, rfl, dv, ds, rfl, hd1, hdl, fun q tv n rs sv st one reach H2 s2 hq town tw n1 n5 hst sst l1 l2 => ?_⟩
  refine ⟨q, _, rfl, SqT.of hq, rfl, _, _, rfl, _, _, rfl, _, _, rfl, _, _, rfl, rfl, ?_⟩
  refine ⟨_, rfl, _, rfl, _, rfl, _, rfl, rfl, rfl, fun a dx na ndx nax => ?_⟩
  have sx : Same H2 (upd (upd H2 dx (.own a)) a (.ins CH dx [])) := ((Same.refl H2).put ndx _).put na _
  have ex : (upd (upd H2 dx (.own a)) a (.ins CH dx [])) a = some (.ins CH dx []) := upd_same
  generalize upd (upd H2 dx (.own a)) a (.ins CH dx []) = H3 at sx ex ⊢
  refine ⟨a, dx, n, reach, one, rs, tv, sv, st, rfl, ex, town.mono sx, tw, n1, by omega, hst.mono sx.tup, sst, l1, l2, fun H4 o kp4 hv4 => ⟨rfl, ?_⟩⟩
  have s24 : Same H2 H4 := fun b u q => kp4 b u (ne_of_none q na) (sx b u q)
  have hd4 := hd1.mono (s2.trans s24)
  obtain ⟨d20, hd20⟩ := numIx hdl (i := 20) (by omega)
  refine ⟨_, rfl, numAt hd4 hd20 (.inl ⟨_, rfl, modC (m := 6) (by decide) ?_⟩)⟩
  have hc : d20 % 6 < 6 := Nat.mod_lt _ (by decide)
  generalize d20 % 6 = c at hc
  refine ⟨(c : Int), rfl, by omega, by omega, ?_⟩
  obtain ⟨ta, tr, rfl, hta, _⟩ := id (town.mono s24)
  refine for_range (lo := 0) (n := c) (fun i σ G => LawI CH CS n reach one st ds a dv (.ref ta) sv G ∧ ∃ (sts : List (List Road × Option Nat)) (j ne : Nat) (x3 x8 x9 x10 x11 x12 x13 x14 x15 : Option V), σ = [some (.ref sc), some dv, some (.ref a), x3, some (.ref ta), some sv, some (ruleV one), some (nV reach), x8, x9, x10, x11, x12, x13, x14, x15] ∧
      HouseV CH CS G a ⟨one, reach, n, st, sts, j, ne⟩ ∧ sts.length ≤ 1 + 2 * i ∧ ne ≤ 4 * i)
    ⟨⟨hd4, hst.mono s24.tup, ta, tr, rfl, hta⟩, _, _, _, _, _, _, _, _, _, _, _, _, rfl, hv4, by show 1 ≤ 1 + 2 * 0; omega, by omega⟩ ?_ ?_
  · rintro i σ G hi ⟨li, sts, j, ne, x3, x8, x9, x10, x11, x12, x13, x14, x15, rfl, hv, lsts, lne⟩
    rw [Int.zero_add]
    obtain ⟨dx, L, E, ha⟩ := hv.at_
    obtain ⟨dp, rfl, hdp⟩ := li.dr
    obtain ⟨_, _, ea, htaG⟩ := li.tw
    cases ea
    refine ⟨_, rfl, _, rfl, _, _, rfl, rfl, .inl ⟨by decide, by decide⟩, _, _, rfl, rfl, _, rfl, _, rfl, _, _, rfl, rfl, .inl ⟨by decide, by decide⟩, _, _, rfl, rfl, _, rfl, dp, _, rfl, SqL.of hdp, fun P0 hP0 => ?_⟩
    rw [show (21 : Int) + 5 * (i : Int) = ((21 + 5 * i : Nat) : Int) from by omega, show (26 : Int) + 5 * (i : Int) = ((26 + 5 * i : Nat) : Int) from by omega, cut_mid _ (by omega) (by rw [List.length_map]; omega)]
    have hpart : ∃ p0 p1 p2 p3 p4 : Nat, ((ds.map nV).drop (21 + 5 * i)).take (26 + 5 * i - (21 + 5 * i)) = [nV p0, nV p1, nV p2, nV p3, nV p4] := by
      rw [← List.map_drop, ← List.map_take]
      have hl5 : ((ds.drop (21 + 5 * i)).take (26 + 5 * i - (21 + 5 * i))).length = 5 := by
        rw [List.length_take, List.length_drop]
        omega
      generalize (ds.drop (21 + 5 * i)).take (26 + 5 * i - (21 + 5 * i)) = l at hl5
      match l, hl5 with
      | [p0, p1, p2, p3, p4], _ => exact ⟨p0, p1, p2, p3, p4, rfl⟩
    obtain ⟨p0, p1, p2, p3, p4, epart⟩ := hpart
    rw [epart]
    refine new_ind hP0 (upd _ P0 _) rfl fun G1 s1 e1 => ?_
    have hv1 := hv.mono s1
    have ha1 := s1 _ _ ha
    have hj := hv.lt
    obtain ⟨⟨prs, po⟩, hp⟩ : ∃ p, sts[j]? = some p := ⟨_, List.getElem?_eq_getElem hj⟩
    refine ⟨_, rfl, a, dx, _, rfl, ha1, rfl, a, _, rfl, hv1, fun bv G2 pp hpp s2 tb2 => ?_⟩
    have epp : pp = (prs, po) := Option.some.inj (hpp.symm.trans hp)
    subst epp
    have hv2 := hv1.mono s2
    have ha2 := s2 _ _ ha1
    refine ⟨_, rfl, a, dx, _, rfl, ha2, rfl, a, _, rfl, hv2, fun pp hpp => ?_⟩
    have epp : pp = (prs, po) := Option.some.inj (hpp.symm.trans hp)
    subst epp
    refine ⟨_, rfl, a, dx, _, rfl, ha2, rfl, a, _, rfl, hv2, fun bv2 G3 pp hpp s3 tb3 => ?_⟩
    have epp : pp = (prs, po) := Option.some.inj (hpp.symm.trans hp)
    subst epp
    obtain ⟨tb, trd, rfl, htb, RL, xs, rfl, hRL, hxs⟩ := id tb3
    refine ⟨tb, _, 1, _, rfl, rfl, SqT.of htb, rfl, ?_⟩
    refine ⟨_, _, _, rfl, ?_⟩
    have s13 := s2.trans s3
    have s03 := s1.trans s13
    have e13 := s13 _ _ e1
    have hta3 := s03 _ _ htaG
    refine ⟨_, rfl, P0, _, 1, nV p1, rfl, rfl, SqL.of e13, rfl, .inl ⟨_, rfl, _, rfl, ta, _, 0, _, rfl, rfl, SqT.of hta3, rfl, modN (m := n) (by omega) ?_⟩⟩
    refine ⟨_, rfl, P0, _, 2, nV p2, rfl, rfl, SqL.of e13, rfl, .inl ⟨_, rfl, _, rfl, ta, _, 0, _, rfl, rfl, SqT.of hta3, rfl, modN (m := n) (by omega) ?_⟩⟩
    refine ⟨by show 2 ≤ sizeLine; decide, fun e0 he0 => ?_⟩
    refine new_ind he0 (upd _ e0 _) rfl fun G4 s4 e4 => ?_
    refine ⟨e0, [((p1 % n : Nat) : Int), ((p2 % n : Nat) : Int)], rfl, SqL.of e4, fun ns' Er pm pw hEr => ?_⟩
    obtain ⟨u, v, rfl, huv, hor⟩ := sorted2 pm pw
    have hun : u < n ∧ v < n := by
      have h1 := Nat.mod_lt p1 (show 0 < n by omega)
      have h2 := Nat.mod_lt p2 (show 0 < n by omega)
      rcases hor with ⟨rfl, rfl⟩ | ⟨rfl, rfl⟩
      · exact ⟨h1, h2⟩
      · exact ⟨h2, h1⟩
    refine new_ind hEr (upd _ Er _) rfl fun G5 s5 e5 => ?_
    have e5 : G5 Er = some (.lst [nV u, nV v]) := e5
    have s35 := s4.trans s5
    have hRL5 := s35 _ _ hRL
    refine ⟨_, rfl, RL, rfl, ⟨_, SqL.of hRL5⟩, fun Th hTh => ?_⟩
    have twc := (hv.ok _ (List.mem_of_getElem? hp)).1
    have fw : prs.length ≤ 49 := twc.few hv.n7
    have lxs := Paired.len hxs
    rw [List.length_map] at lxs
    refine lc_list (K := K) (a := RL) (xs := xs) (fun g G' => Same G5 G' ∧ ∃ ys, G' Th = some (.lst ys) ∧ Tups G' ys (((prs.take g).filter fun r => decide (r.1 = u ∧ r.2.1 = v)).map rl)) ⟨Same.new hTh _, [], upd_same, .nil⟩ (fun g G' _ q => SqL.of (q.1 _ _ hRL5)) ?_ ?_
    · rintro g x G6 hg ⟨s6, ys, hys, tys⟩
      obtain ⟨y, hy, tx⟩ := Paired.at_ hxs hg
      rw [List.getElem?_map] at hy
      obtain ⟨r, hr2, rfl⟩ := Option.map_eq_some_iff.mp hy
      obtain ⟨q1, rfl, hq1⟩ := tx
      have hq16 := s6 _ _ (s35 _ _ hq1)
      have tk : prs.take (g + 1) = prs.take g ++ [r] := by
        rw [List.take_succ, hr2]
        rfl
      refine ⟨rfl, ?_⟩
      refine ⟨_, rfl, _, rfl, slT2 hq16 fun m1 hm1 => ?_⟩
      refine new_ind hm1 (upd _ m1 _) rfl fun G7 s7 e7 => ?_
      have e57 := s7 _ _ (s6 _ _ e5)
      refine ⟨_, rfl, Er, _, 0, nV u, rfl, rfl, SqL.of e57, rfl, _, rfl, Er, _, 1, nV v, rfl, rfl, SqL.of e57, rfl, by show 2 ≤ sizeLine; decide, fun m2 hm2 => ?_⟩
      refine new_ind hm2 (upd _ m2 _) rfl fun G8 s8 e8 => ?_
      refine ⟨_, _, .tup (SqT.of (s8 _ _ e7)) (dp_nats [r.1, r.2.1]), .tup (SqT.of e8) (dp_nats [u, v]), shaped_tup _, shaped_tup _, _, rfl, ?_⟩
      rw [eqv2]
      have s68 := s7.trans s8
      have hys8 := s68 _ _ hys
      have lys := Paired.len tys
      rw [List.length_map] at lys
      refine ite_b (fun c1 => ?_) (fun c1 => ?_)
      · have c1' := of_decide_eq_true c1
        have ts : TSame G8 (upd G8 Th (.lst (ys ++ [V.ref q1]))) := TSame.upd hys8 id
        refine ⟨_, rfl, ys, hys8, Nat.lt_of_le_of_lt (m := 1000) ?_ (by decide), (s6.trans s68).put hTh _, _, upd_same, ?_⟩
        · rw [lys]
          exact Nat.le_trans (List.length_filter_le _ _) (by rw [List.length_take]; omega)
        · rw [tk, List.filter_append, List.map_append, List.filter_cons, if_pos (decide_eq_true c1')]
          exact Paired.app ((tys.mono s68.tup).mono ts) (.cons ⟨q1, rfl, ts _ _ True.intro (s68 _ _ hq16)⟩ .nil)
      · have c1' := of_decide_eq_false c1
        refine ⟨s6.trans s68, ys, hys8, ?_⟩
        rw [tk, List.filter_append, List.filter_cons, if_neg (by simpa using c1'), List.filter_nil, List.append_nil]
        exact tys.mono s68.tup
    rintro G6 ⟨s6, ys, hys, tys⟩
    rw [lxs, List.take_length] at tys
    have s06 := s03.trans (s35.trans s6)
    have hv6 := hv.mono s06
    have ha6 := s06 _ _ ha
    have e56 := s6 _ _ e5
    have e16 := (s35.trans s6) _ _ e13
    have hRL6 := s6 _ _ hRL5
    have hxs6 := hxs.mono (s35.trans s6).tup
    have lys := Paired.len tys
    rw [List.length_map] at lys
    obtain ⟨flt, eflt⟩ : ∃ flt, prs.filter (fun r => decide (r.1 = u ∧ r.2.1 = v)) = flt := ⟨_, rfl⟩
    rw [eflt] at tys lys
    have rk0 := (hv.ok _ (List.mem_of_getElem? hp)).2
    refine ⟨fun σ G' => ∃ (sts' : List (List Road × Option Nat)) (j' ne' : Nat) (rs' : List Road) (o' : Option Nat) (y15 : Option V), σ = [some (.ref sc), some (.ref dp), some (.ref a), some (nV i), some (.ref ta), some sv, some (ruleV one), some (nV reach), some (.ref P0), some (.ref Er), some (.ref Th), some bv, some (oV po), some (.ref RL), some (.bl (decide (oV o' = V.non))), y15] ∧
        KeepL G6 G' ∧ HouseV CH CS G' a ⟨one, reach, n, st, sts', j', ne'⟩ ∧ sts'.length ≤ 1 + 2 * (i + 1) ∧ ne' + 1 ≤ 4 * (i + 1) ∧ sts'[j']? = some (rs', o') ∧ (u < v → 0 < j' ∧ sts'[j' - 1]? = some (prs, po)), ?_, ?_⟩
    · refine ⟨_, rfl, Er, _, 0, nV u, rfl, rfl, SqL.of e56, rfl, _, rfl, Er, _, 1, nV v, rfl, rfl, SqL.of e56, rfl, _, _, rfl, rfl, _, rfl, ite_b (fun c1 => ?_) (fun c1 => ?_)⟩
      · have c1 := of_decide_eq_true c1
        have c1 : u < v := by omega
        refine ⟨_, rfl, Th, _, rfl, .inl (SqL.of hys), rfl, _, rfl, ite_b (fun c2 => ?_) (fun c2 => ?_)⟩
        · have c2 : V.int ((ys.length : Nat) : Int) = V.int 0 := of_decide_eq_true c2
          injection c2 with c2
          have e0 : flt = [] := List.eq_nil_of_length_eq_zero (by omega)
          subst e0
          have hno : ∀ r ∈ prs, ¬ (r.1 = u ∧ r.2.1 = v) := fun r hr => by
            have := List.filter_eq_nil_iff.mp eflt r hr
            simpa using this
          refine ⟨_, rfl, a, dx, _, rfl, ha6, rfl, _, rfl, Er, _, 0, nV u, rfl, rfl, SqL.of e56, rfl, _, rfl, Er, _, 1, nV v, rfl, rfl, SqL.of e56, rfl, ?_⟩
          refine ⟨_, rfl, P0, _, 3, nV p3, rfl, rfl, SqL.of e16, rfl, .inl ⟨_, rfl, modC (m := 9) (by decide) (addN (x := 1) ?_)⟩⟩
          have h9 := Nat.mod_lt p3 (show 0 < 9 by decide)
          generalize p3 % 9 = w0 at h9
          refine ⟨by show 3 ≤ sizeLine; decide, fun t7 ht7 => ?_⟩
          refine new_ind ht7 (upd _ t7 _) rfl fun G7 s7 e7 => ?_
          have hv7 := hv6.mono s7
          refine ⟨a, _, (prs, po), (u, v, 1 + w0), .ref t7, rfl, hv7, hp, ⟨t7, rfl, e7⟩, ⟨c1, hun.2, by show 1 ≤ 1 + w0; omega, by show 1 + w0 ≤ 9; omega⟩, hno, by show sts.length < 1000; omega, by show ne < 1000; omega, fun G8 o8 kp8 hv8 => ?_⟩
          have hv8 : HouseV CH CS G8 a ⟨one, reach, n, st, sts.take (j + 1) ++ [(ins prs (u, v, 1 + w0), o8)], j + 1, ne + 1⟩ := hv8
          have kl8 : KeepL G6 G8 := s7.keepL.trans (hv7.kl kp8)
          obtain ⟨dx8, L8, E8, ha8⟩ := hv8.at_
          have ltk : (sts.take (j + 1)).length = j + 1 := by
            rw [List.length_take]
            have : j < sts.length := hj
            omega
          have at8 : (sts.take (j + 1) ++ [(ins prs (u, v, 1 + w0), o8)])[j + 1]? = some (ins prs (u, v, 1 + w0), o8) := by
            rw [List.getElem?_append_right (by omega), ltk, Nat.sub_self]
            rfl
          have rk8 := (hv8.ok _ (List.mem_of_getElem? at8)).2
          have hle : val po ≤ val o8 := an_mono (fun r hr => ins_mem hr) sst hv.n7 l2 rk0 rk8
          have fin : ∀ G9, Same G8 G9 → ∃ (sts' : List (List Road × Option Nat)) (j' ne' : Nat) (rs' : List Road) (o' : Option Nat) (y15 : Option V), [some (.ref sc), some (.ref dp), some (.ref a), some (nV i), some (.ref ta), some sv, some (ruleV one), some (nV reach), some (.ref P0), some (.ref Er), some (.ref Th), some bv, some (oV po), some (.ref RL), some (.bl (decide (oV o8 = V.non))), x15] = [some (.ref sc), some (.ref dp), some (.ref a), some (nV i), some (.ref ta), some sv, some (ruleV one), some (nV reach), some (.ref P0), some (.ref Er), some (.ref Th), some bv, some (oV po), some (.ref RL), some (.bl (decide (oV o' = V.non))), y15] ∧
              KeepL G6 G9 ∧ HouseV CH CS G9 a ⟨one, reach, n, st, sts', j', ne'⟩ ∧ sts'.length ≤ 1 + 2 * (i + 1) ∧ ne' + 1 ≤ 4 * (i + 1) ∧ sts'[j']? = some (rs', o') ∧ (u < v → 0 < j' ∧ sts'[j' - 1]? = some (prs, po)) := fun G9 s9 => by
            refine ⟨_, _, _, _, o8, _, rfl, kl8.trans s9.keepL, hv8.mono s9, ?_, by omega, at8, fun _ => ⟨Nat.succ_pos _, ?_⟩⟩
            · rw [List.length_append, ltk]
              have : j < sts.length := hj
              show j + 1 + 1 ≤ _
              omega
            · rw [Nat.add_sub_cancel, List.getElem?_append_left (by omega), List.getElem?_take_of_lt (by omega)]
              exact hp
          refine ⟨_, rfl, a, dx8, _, rfl, ha8, rfl, a, _, rfl, hv8, fun pp hpp => ?_⟩
          have epp := Option.some.inj (hpp.symm.trans at8)
          subst epp
          refine ⟨o8, rfl, _, rfl, po, rfl, _, _, rfl, rfl, _, rfl, ite_b (fun c3 => ?_) (fun c3 => ?_)⟩
          · exfalso
            have := of_decide_eq_true c3
            omega
          · refine ⟨_, rfl, a, dx8, _, rfl, ha8, rfl, a, _, rfl, hv8, fun tv9 G9 pp hpp s9 tb9 => ?_⟩
            have epp := Option.some.inj (hpp.symm.trans at8)
            subst epp
            obtain ⟨tb', tr', rfl, htb', RL', xs', rfl, hRL', hxs'⟩ := tb9
            have lxs' := Paired.len hxs'
            rw [List.length_map, ins_len] at lxs'
            have hRL9 : G9 RL = some (.lst xs) := (kl8.trans s9.keepL) _ _ True.intro hRL6
            refine ⟨tb', _, 1, _, rfl, rfl, SqT.of htb', rfl, RL', _, rfl, .inl (SqL.of hRL'), _, rfl, RL, _, rfl, .inl (SqL.of hRL9), _, _, rfl, rfl, rfl, _, rfl, ite_b (fun c4 => ?_) (fun c4 => ?_)⟩
            · exfalso
              have e1 : xs'.length = xs.length + 1 := lxs'.trans (congrArg (· + 1) lxs.symm)
              rw [e1] at c4
              simp at c4
            · exact fin G9 s9
        · have c2 : ¬ V.int ((ys.length : Nat) : Int) = V.int 0 := of_decide_eq_false c2
          have hne : flt ≠ [] := fun e => c2 (by rw [lys, e]; rfl)
          obtain ⟨r0, rest, eflt2⟩ := List.exists_cons_of_ne_nil hne
          have hr0 : r0 ∈ prs ∧ r0.1 = u ∧ r0.2.1 = v := by
            have h1 : r0 ∈ prs.filter (fun r => decide (r.1 = u ∧ r.2.1 = v)) := by
              rw [eflt, eflt2]
              exact List.mem_cons_self
            have h2 := List.mem_filter.mp h1
            exact ⟨h2.1, of_decide_eq_true h2.2⟩
          obtain ⟨g, hg⟩ := List.mem_iff_getElem?.mp hr0.1
          subst eflt2
          obtain ⟨x0, ysr, rfl, q0, rfl, hq0⟩ : ∃ x0 ysr, ys = x0 :: ysr ∧ TupN G6 x0 (rl r0) := by
            cases tys with
            | cons h _ => exact ⟨_, _, rfl, h⟩
          refine ⟨_, rfl, Th, _, rfl, .inl (SqL.of hys), _, _, rfl, rfl, _, rfl, ite_b (fun c3 => ?_) (fun c3 => ?_)⟩
          · -- house.shut(..)
            have hw : ∃ w1 w2 : Nat, ((w1 = r0.1 ∧ w2 = r0.2.1) ∨ (w1 = r0.2.1 ∧ w2 = r0.1)) ∧ ([nV u, nV v] : List V)[p4 % 2]? = some (nV w1) ∧ ([nV u, nV v] : List V)[1 - p4 % 2]? = some (nV w2) ∧ p4 % 2 ≤ 1 := by
              have : p4 % 2 = 0 ∨ p4 % 2 = 1 := by omega
              rcases this with e | e
              · exact ⟨u, v, .inl ⟨hr0.2.1.symm, hr0.2.2.symm⟩, by rw [e]; rfl, by rw [e]; rfl, by omega⟩
              · exact ⟨v, u, .inr ⟨hr0.2.2.symm, hr0.2.1.symm⟩, by rw [e]; rfl, by rw [e]; rfl, by omega⟩
            obtain ⟨w1, w2, hw12, hw1, hw2, hp4⟩ := hw
            refine ⟨_, rfl, a, dx, _, rfl, ha6, rfl, _, rfl, _, rfl, P0, _, 4, nV p4, rfl, rfl, SqL.of e16, rfl, .inl ⟨_, rfl, modC (m := 2) (by decide) ?_⟩⟩
            refine ⟨Er, _, ((p4 % 2 : Nat) : Int), nV w1, rfl, rfl, SqL.of e56, atI_nat hw1, ?_⟩
            refine ⟨_, rfl, _, rfl, P0, _, 4, nV p4, rfl, rfl, SqL.of e16, rfl, .inl ⟨_, rfl, modC (m := 2) (by decide) ?_⟩⟩
            refine ⟨_, _, rfl, rfl, ?_⟩
            have e2i : (1 : Int) - ((p4 % 2 : Nat) : Int) = ((1 - p4 % 2 : Nat) : Int) := by omega
            refine ⟨Er, _, (1 : Int) - ((p4 % 2 : Nat) : Int), nV w2, rfl, rfl, SqL.of e56, by rw [e2i]; exact atI_nat hw2, ?_⟩
            refine ⟨a, _, (prs, po), g, r0, w1, w2, rfl, hv6, hp, hg, hw12, by show sts.length < 1000; omega, by show ne < 1000; omega, fun G7 o7 kp7 hv7 => ?_⟩
            have hv7 : HouseV CH CS G7 a ⟨one, reach, n, st, sts.take (j + 1) ++ [(prs.eraseIdx g, o7)], j + 1, ne + 1⟩ := hv7
            have kl7 : KeepL G6 G7 := hv6.kl kp7
            obtain ⟨dx7, L7, E7, ha7⟩ := hv7.at_
            have hjs : j < sts.length := hj
            have ltk : (sts.take (j + 1)).length = j + 1 := by
              rw [List.length_take]
              omega
            have at7 : (sts.take (j + 1) ++ [(prs.eraseIdx g, o7)])[j + 1]? = some (prs.eraseIdx g, o7) := by
              rw [List.getElem?_append_right (by omega), ltk, Nat.sub_self]
              rfl
            have rk7 := (hv7.ok _ (List.mem_of_getElem? at7)).2
            have hle : val o7 ≤ val po := an_mono (fun r hr => erase_mem hr) sst hv.n7 l2 rk7 rk0
            refine ⟨_, rfl, a, dx7, _, rfl, ha7, rfl, a, _, rfl, hv7, fun pp hpp => ?_⟩
            have epp := Option.some.inj (hpp.symm.trans at7)
            subst epp
            refine ⟨o7, rfl, _, rfl, po, rfl, _, _, rfl, rfl, _, rfl, ite_b (fun c4 => ?_) (fun c4 => ?_)⟩
            · exfalso
              have := of_decide_eq_true c4
              omega
            refine ⟨_, rfl, a, dx7, _, rfl, ha7, rfl, a, _, rfl, hv7, fun tv8 G8 pp hpp s8 tb8 => ?_⟩
            have epp := Option.some.inj (hpp.symm.trans at7)
            subst epp
            have hv8 := hv7.mono s8
            have kl8 : KeepL G6 G8 := kl7.trans s8.keepL
            obtain ⟨tb', tr', rfl, htb', RL', xs', rfl, hRL', hxs'⟩ := tb8
            have hRL8 : G8 RL = some (.lst xs) := kl8 _ _ True.intro hRL6
            have hTh8 : G8 Th = some (.lst (V.ref q0 :: ysr)) := kl8 _ _ True.intro hys
            have hq08 : G8 q0 = some (.tup ((rl r0).map nV)) := kl8 _ _ True.intro hq0
            have hxs8 : Tups G8 xs (prs.map rl) := Paired.imp (fun _ _ t => t.keep kl8) hxs6
            refine ⟨tb', _, 1, _, rfl, rfl, SqT.of htb', rfl, ?_⟩
            refine ⟨_, rfl, RL, rfl, ⟨_, SqL.of hRL8⟩, fun D hD => ?_⟩
            refine lc_list (K := K) (a := RL) (xs := xs) (fun h G' => Same G8 G' ∧ ∃ ys2, G' D = some (.lst ys2) ∧ Tups G' ys2 (((prs.take h).filter fun r => decide (r ≠ r0)).map rl)) ⟨Same.new hD _, [], upd_same, .nil⟩ (fun h G' _ q => SqL.of (q.1 _ _ hRL8)) ?_ ?_
            · rintro h x G9 hh ⟨s9, ys2, hys2, tys2⟩
              obtain ⟨y, hy, tx⟩ := Paired.at_ hxs8 hh
              rw [List.getElem?_map] at hy
              obtain ⟨r, hr2, rfl⟩ := Option.map_eq_some_iff.mp hy
              obtain ⟨q1, rfl, hq1⟩ := tx
              have hq19 := s9 _ _ hq1
              have tk : prs.take (h + 1) = prs.take h ++ [r] := by
                rw [List.take_succ, hr2]
                rfl
              refine ⟨rfl, ?_⟩
              refine ⟨_, rfl, _, rfl, Th, _, 0, .ref q0, rfl, rfl, SqL.of (s9 _ _ hTh8), atI_nat (j := 0) rfl, _, _, .tup (SqT.of hq19) (dp_nats (rl r)), .tup (SqT.of (s9 _ _ hq08)) (dp_nats (rl r0)), shaped_tup _, shaped_tup _, _, rfl, ?_⟩
              show if (!PyData.eqv (dR r) (dR r0)) = true then _ else _
              rw [eqv_road]
              have lys2 := Paired.len tys2
              rw [List.length_map] at lys2
              refine ite_b (fun c5 => ?_) (fun c5 => ?_)
              · have c5' : r ≠ r0 := by simpa using c5
                have ts : TSame G9 (upd G9 D (.lst (ys2 ++ [V.ref q1]))) := TSame.upd hys2 id
                refine ⟨_, rfl, ys2, hys2, Nat.lt_of_le_of_lt (m := 1000) ?_ (by decide), s9.put hD _, _, upd_same, ?_⟩
                · rw [lys2]
                  exact Nat.le_trans (List.length_filter_le _ _) (by rw [List.length_take]; omega)
                · rw [tk, List.filter_append, List.map_append, List.filter_cons, if_pos (decide_eq_true c5')]
                  exact Paired.app (tys2.mono ts) (.cons ⟨q1, rfl, ts _ _ True.intro hq19⟩ .nil)
              · have c5' : r = r0 := by simpa using c5
                refine ⟨s9, ys2, hys2, ?_⟩
                rw [tk, List.filter_append, List.filter_cons, if_neg (by simp [c5']), List.filter_nil, List.append_nil]
                exact tys2
            rintro G9 ⟨s9, ys2, hys2, tys2⟩
            rw [lxs, List.take_length] at tys2
            have ef : prs.eraseIdx g = prs.filter fun r => decide (r ≠ r0) := erase_filter twc.asc hg
            rw [← ef] at tys2
            refine ⟨_, _, .lst (SqL.of (s9 _ _ hRL')) (dp_roads (hxs'.mono s9.tup)), .lst (SqL.of hys2) (dp_roads tys2), shaped_roads _, shaped_roads _, _, rfl, ?_⟩
            show if (!PyData.eqvAll ((prs.eraseIdx g).map dR) ((prs.eraseIdx g).map dR)) = true then _ else _
            rw [eqv_roads]
            refine if_f ?_
            have hv9 := hv8.mono s9
            have kl9 : KeepL G6 G9 := kl8.trans s9.keepL
            have ha9 := s9 _ _ (s8 _ _ ha7)
            have okr := twc.ok r0 hr0.1
            refine ⟨_, rfl, a, dx7, _, rfl, ha9, rfl, _, rfl, Th, _, 0, .ref q0, rfl, rfl, SqL.of (s9 _ _ hTh8), atI_nat (j := 0) rfl, ?_⟩
            refine ⟨a, _, (prs.eraseIdx g, o7), r0, .ref q0, rfl, hv9, at7, ⟨q0, rfl, s9 _ _ hq08⟩, okr, erase_no twc.asc hg, by show (sts.take (j + 1) ++ [(prs.eraseIdx g, o7)]).length < 1000; rw [List.length_append, ltk]; show j + 1 + 1 < 1000; omega, by show ne + 1 < 1000; omega, fun G10 o10 kp10 hv10 => ?_⟩
            have hv10 : HouseV CH CS G10 a ⟨one, reach, n, st, (sts.take (j + 1) ++ [(prs.eraseIdx g, o7)]).take (j + 1 + 1) ++ [(ins (prs.eraseIdx g) r0, o10)], j + 1 + 1, ne + 1 + 1⟩ := hv10
            rw [ins_erase twc hg] at hv10
            have ltk2 : ((sts.take (j + 1) ++ [(prs.eraseIdx g, o7)]).take (j + 1 + 1)).length = j + 1 + 1 := by
              rw [List.length_take, List.length_append, ltk]
              show min (j + 1 + 1) (j + 1 + 1) = j + 1 + 1
              omega
            have at10 : ((sts.take (j + 1) ++ [(prs.eraseIdx g, o7)]).take (j + 1 + 1) ++ [(prs, o10)])[j + 1 + 1]? = some (prs, o10) := by
              rw [List.getElem?_append_right (by omega), ltk2, Nat.sub_self]
              rfl
            have rk10 := (hv10.ok _ (List.mem_of_getElem? at10)).2
            have eo : o10 = po := rk_uniq rk10 rk0
            subst eo
            have kl10 : KeepL G6 G10 := kl9.trans (hv9.kl kp10)
            obtain ⟨dx10, L10, E10, ha10⟩ := hv10.at_
            refine ⟨_, rfl, a, dx10, _, rfl, ha10, rfl, a, _, rfl, hv10, fun tv11 G11 pp hpp s11 tb11 => ?_⟩
            have epp := Option.some.inj (hpp.symm.trans at10)
            subst epp
            have tbb : TownV G11 bv n prs := (tb2.mono (s3.trans (s35.trans s6))).keepL (kl10.trans s11.keepL)
            have hv11 := hv10.mono s11
            have ha11 := s11 _ _ ha10
            refine ⟨_, rfl, townNe tb11 tbb ⟨_, rfl, ?_⟩⟩
            refine if_f ?_
            refine ⟨_, rfl, a, dx10, _, rfl, ha11, rfl, a, _, rfl, hv11, fun pp hpp => ?_⟩
            have epp := Option.some.inj (hpp.symm.trans at10)
            subst epp
            refine ⟨_, rfl, neSelf ⟨_, rfl, ?_⟩⟩
            refine if_f ?_
            refine ⟨_, rfl, a, dx10, _, rfl, ha11, rfl, a, _, rfl, hv11, by show 0 < j + 1 + 1; omega, by show ne + 1 + 1 < 1000; omega, fun G12 kp12 hv12 => ?_⟩
            have hv12 : HouseV CH CS G12 a ⟨one, reach, n, st, (sts.take (j + 1) ++ [(prs.eraseIdx g, o7)]).take (j + 1 + 1) ++ [(prs, o10)], j + 1, ne + 1 + 1 + 1⟩ := hv12
            refine ⟨_, _, _, prs.eraseIdx g, o7, _, rfl, (kl10.trans s11.keepL).trans (hv11.kl kp12), hv12, ?_, by omega, ?_, fun _ => ⟨Nat.succ_pos _, ?_⟩⟩
            · rw [List.length_append, ltk2]
              show j + 1 + 1 + 1 ≤ _
              omega
            · rw [List.getElem?_append_left (by omega), List.getElem?_take_of_lt (by omega)]
              exact at7
            · rw [Nat.add_sub_cancel, List.getElem?_append_left (by omega), List.getElem?_take_of_lt (by omega), List.getElem?_append_left (by omega), List.getElem?_take_of_lt (by omega)]
              exact hp
          · exfalso
            have := of_decide_eq_false c3
            exact this (by show (0 : Int) < (((V.ref q0 :: ysr).length : Nat) : Int); rw [List.length_cons]; omega)
      · have c1 := of_decide_eq_false c1
        have c1 : ¬ u < v := by omega
        have e0 : flt = [] := by
          rw [← eflt]
          refine List.filter_eq_nil_iff.mpr fun r hr => ?_
          have := twc.ok r hr
          simp
          omega
        subst e0
        have ey : ys = [] := List.eq_nil_of_length_eq_zero lys
        subst ey
        refine ⟨_, rfl, Th, _, rfl, .inl (SqL.of hys), _, _, rfl, rfl, _, rfl, ?_⟩
        refine if_f ?_
        refine ⟨_, rfl, a, dx, _, rfl, ha6, a, _, rfl, hv6, fun pp hpp => ?_⟩
        have epp := Option.some.inj (hpp.symm.trans hp)
        subst epp
        exact ⟨_, _, _, prs, po, _, rfl, fun _ _ _ h => h, hv6, by omega, by omega, hp, fun h => absurd h c1⟩
    · rintro σ G7 ⟨sts', j', ne', rs', o', y15, rfl, kl67, hv7, lsts', lne', hp', hbk⟩
      have kl07 : KeepL G G7 := s06.keepL.trans kl67
      have li7 := li.keepL kl07
      obtain ⟨dx7, L7, E7, ha7⟩ := hv7.at_
      have ok7 := hv7.ok _ (List.mem_of_getElem? hp')
      refine ⟨_, rfl, _, _, _, _, true, rfl, .ty _, .base (.bl _), kit_ty (by decide +kernel), true, rfl, ?_⟩
      refine if_f ?_
      refine ⟨_, rfl, _, rfl, a, dx7, _, rfl, ha7, a, _, rfl, hv7, fun pp hpp => ?_⟩
      have epp := Option.some.inj (hpp.symm.trans hp')
      subst epp
      refine neBl ⟨_, rfl, ?_⟩
      refine if_f ?_
      refine ⟨_, rfl, a, dx7, _, rfl, ha7, rfl, a, _, rfl, hv7, fun pp hpp => ?_⟩
      have epp := Option.some.inj (hpp.symm.trans hp')
      subst epp
      refine ⟨_, rfl, a, dx7, _, rfl, ha7, rfl, a, _, rfl, hv7, fun tv8 G8 pp hpp s8 tb8 => ?_⟩
      have epp := Option.some.inj (hpp.symm.trans hp')
      subst epp
      refine ⟨_, rfl, _, rfl, _, rfl, n, reach, rs', one, st, sv, tv8, rfl, tb8, ok7.1, hv.n7, (li7.keepL s8.keepL).st, sst, l1, l2, fun G9 oo s9 rk9 => ?_⟩
      have eoo : oo = o' := rk_uniq rk9 ok7.2
      subst eoo
      refine neSelf ⟨_, rfl, ?_⟩
      refine if_f ?_
      have s79 := s8.trans s9
      have hv9 := hv7.mono s79
      have ha9 := s79 _ _ ha7
      have li9 := li7.keepL s79.keepL
      refine ⟨_, rfl, a, dx7, _, rfl, ha9, rfl, a, _, rfl, hv9, fun vv tvv => ?_⟩
      refine ⟨_, rfl, tupNe tvv li9.st ⟨_, rfl, ?_⟩⟩
      refine if_f ?_
      have kl69 : KeepL G6 G9 := kl67.trans s79.keepL
      have e19 : G9 P0 = some (.lst [nV p0, nV p1, nV p2, nV p3, nV p4]) := kl69 _ _ True.intro e16
      have e59 : G9 Er = some (.lst [nV u, nV v]) := kl69 _ _ True.intro e56
      have stay : ∃ (sts : List (List Road × Option Nat)) (j ne : Nat) (y3 y8 y9 y10 y11 y12 y13 y14 y15' : Option V), [some (.ref sc), some (.ref dp), some (.ref a), some (nV i), some (.ref ta), some sv, some (ruleV one), some (nV reach), some (.ref P0), some (.ref Er), some (.ref Th), some bv, some (oV po), some (.ref RL), some (.bl (decide (oV oo = V.non))), y15] = [some (.ref sc), some (.ref dp), some (.ref a), y3, some (.ref ta), some sv, some (ruleV one), some (nV reach), y8, y9, y10, y11, y12, y13, y14, y15'] ∧
          HouseV CH CS G9 a ⟨one, reach, n, st, sts, j, ne⟩ ∧ sts.length ≤ 1 + 2 * (i + 1) ∧ ne ≤ 4 * (i + 1) := ⟨sts', j', ne', _, _, _, _, _, _, _, _, _, rfl, hv9, lsts', by omega⟩
      refine ⟨_, rfl, a, dx7, _, rfl, ha9, a, _, rfl, hv9, _, rfl, ite_b (fun c1 => ?_) (fun c1 => ?_)⟩
      · refine ⟨_, rfl, P0, _, 0, nV p0, rfl, rfl, SqL.of e19, rfl, .inl ⟨_, rfl, modC (m := 3) (by decide) ⟨rfl, _, rfl, ite_b (fun c2 => ?_) (fun c2 => ?_)⟩⟩⟩
        · refine ⟨_, rfl, Er, _, 0, nV u, rfl, rfl, SqL.of e59, rfl, _, rfl, Er, _, 1, nV v, rfl, rfl, SqL.of e59, rfl, _, _, rfl, rfl, _, rfl, ite_b (fun c3 => ?_) (fun c3 => ?_)⟩
          · have c3 := of_decide_eq_true c3
            have huv2 : u < v := by omega
            obtain ⟨hj0, hback⟩ := hbk huv2
            refine ⟨_, rfl, a, dx7, _, rfl, ha9, rfl, a, _, rfl, hv9, hj0, by show ne' < 1000; omega, fun G10 kp10 hv10 => ?_⟩
            have hv10 : HouseV CH CS G10 a ⟨one, reach, n, st, sts', j' - 1, ne' + 1⟩ := hv10
            have kl910 : KeepL G9 G10 := hv9.kl kp10
            obtain ⟨dx10, L10, E10, ha10⟩ := hv10.at_
            refine ⟨_, rfl, a, dx10, _, rfl, ha10, rfl, a, _, rfl, hv10, fun tv11 G11 pp hpp s11 tb11 => ?_⟩
            have epp := Option.some.inj (hpp.symm.trans hback)
            subst epp
            have tbb : TownV G11 bv n prs := (tb2.mono (s3.trans (s35.trans s6))).keepL ((kl69.trans kl910).trans s11.keepL)
            have hv11 := hv10.mono s11
            have ha11 := s11 _ _ ha10
            refine ⟨_, rfl, townNe tb11 tbb ⟨_, rfl, ?_⟩⟩
            refine if_f ?_
            refine ⟨_, rfl, a, dx10, _, rfl, ha11, rfl, a, _, rfl, hv11, fun pp hpp => ?_⟩
            have epp := Option.some.inj (hpp.symm.trans hback)
            subst epp
            refine ⟨_, rfl, neSelf ⟨_, rfl, ?_⟩⟩
            refine if_f ?_
            exact ⟨li9.keepL (kl910.trans s11.keepL), sts', j' - 1, ne' + 1, _, _, _, _, _, _, _, _, _, rfl, hv11, lsts', lne'⟩
          · exact ⟨li9, stay⟩
        · exact ⟨li9, stay⟩
      · exact ⟨li9, stay⟩
  · rintro σ G ⟨li, sts, j, ne, x3, x8, x9, x10, x11, x12, x13, x14, x15, rfl, hv, lsts, lne⟩
    obtain ⟨dx, L, E, ha⟩ := hv.at_
    refine ⟨_, rfl, a, dx, _, rfl, ha, rfl, a, _, rfl, hv, fun q G2 s2 eq => ?_⟩
    refine ⟨by show 0 ≤ sizeLine; decide, fun e he => ?_⟩
    refine new_ind he (upd _ e _) rfl fun G3 s3 e3 => ?_
    refine ⟨_, _, .lst (SqL.of (s3 _ _ eq)) .nil, .lst (SqL.of e3) .nil, shaped_lst [], shaped_lst [], ?_⟩
    refine ⟨true, rfl, ?_⟩
    refine if_t ?_
    have hv3 := hv.mono (s2.trans s3)
    refine ⟨_, rfl, a, dx, _, rfl, (s2.trans s3) _ _ ha, rfl, a, _, rfl, hv3, ?_⟩
    exact ⟨rfl, k _⟩
end Ev
end
section
namespace Ev
open PySem L2
/-! ### what the top has left, def by def -/
def fnE (x qual : Str) (st : Stmt) (kV dc pm : Value) (an : Option Addr) (cd ct : Value) : FuncData := PySem.W.fnOf x qual (C8.fnArgs st) (C8.fnBody st) (C8.fnScope st) .none kV dc pm an cd ct
/-- a def of the module -/
def GFn (K : PySem.W.Frag) (x : Str) (st : Stmt) : Prop := ∃ (f : Addr) (oc : Value) (od : Option Addr) (kV dc pm : Value) (an : Option Addr) (cd ct : Value) (sl : Array (Option Value)),
  PySem.W.nsIn K mainGlobals x = some (some (.ref f)) ∧ K.lookup f = some ⟨oc, od, .func (fnE x x st kV dc pm an cd ct), sl⟩ ∧ PySem.W.codeIn K cd x = true ∧ PySem.W.keepIn K (.ref f) = true
theorem GFn.mk' {K : PySem.W.Frag} {x : Str} {st : Stmt} {f : Addr} {oc : Value} {od : Option Addr} {kV dc pm : Value} {an : Option Addr} {cd ct : Value} {sl : Array (Option Value)} (a : PySem.W.nsIn K mainGlobals x = some (some (.ref f)))
    (l : K.lookup f = some ⟨oc, od, .func (PySem.W.fnOf x x (C8.fnArgs st) (C8.fnBody st) (C8.fnScope st) .none kV dc pm an cd ct), sl⟩) (c : PySem.W.codeIn K cd x = true) (k : PySem.W.keepIn K (.ref f) = true) : GFn K x st := ⟨f, oc, od, kV, dc, pm, an, cd, ct, sl, a, l, c, k⟩
theorem GFn.get {K : PySem.W.Frag} {x : Str} {st : Stmt} {h : Heap} {mg : Str → Option Value} (g : GFn K x st) (X : K.In h) (G : h.Ns mainGlobals mg) : ∃ (f : Addr) (kV dc pm : Value) (an : Option Addr) (cd ct : Value), C8.Def K mg x st f (fnE x x st kV dc pm an cd ct) := by
  obtain ⟨f, oc, od, kV, dc, pm, an, cd, ct, sl, a, l, c, k⟩ := g
  exact ⟨f, kV, dc, pm, an, cd, ct, ⟨⟨oc, od, .none, kV, dc, pm, an, cd, ct, sl, rfl, l, c⟩, PySem.W.mg_of X G a, k⟩⟩
/-- a def of a class -/
def MFn (K : PySem.W.Frag) (C : Addr) (m qual : Str) (st : Stmt) : Prop := ∃ (f : Addr) (oc : Value) (od : Option Addr) (kV dc pm : Value) (an : Option Addr) (cd ct : Value) (sl : Array (Option Value)),
  PySem.W.findIn K (.ref C) m = some (some (.ref f)) ∧ PySem.W.isFn K (.ref f) = true ∧ K.lookup f = some ⟨oc, od, .func (fnE m qual st kV dc pm an cd ct), sl⟩ ∧ PySem.W.codeIn K cd qual = true ∧ PySem.W.keepIn K (.ref f) = true
theorem MFn.mk' {K : PySem.W.Frag} {C : Addr} {m qual : Str} {st : Stmt} {f : Addr} {oc : Value} {od : Option Addr} {kV dc pm : Value} {an : Option Addr} {cd ct : Value} {sl : Array (Option Value)} (a : PySem.W.findIn K (.ref C) m = some (some (.ref f))) (i : PySem.W.isFn K (.ref f) = true)
    (l : K.lookup f = some ⟨oc, od, .func (PySem.W.fnOf m qual (C8.fnArgs st) (C8.fnBody st) (C8.fnScope st) .none kV dc pm an cd ct), sl⟩) (c : PySem.W.codeIn K cd qual = true) (k : PySem.W.keepIn K (.ref f) = true) : MFn K C m qual st := ⟨f, oc, od, kV, dc, pm, an, cd, ct, sl, a, i, l, c, k⟩
theorem MFn.get {K : PySem.W.Frag} {C : Addr} {m qual : Str} {st : Stmt} (g : MFn K C m qual st) : ∃ (f : Addr) (kV dc pm : Value) (an : Option Addr) (cd ct : Value), Meth K C m f ∧ C8.Fun K m qual st f (fnE m qual st kV dc pm an cd ct) := by
  obtain ⟨f, oc, od, kV, dc, pm, an, cd, ct, sl, a, i, l, c, k⟩ := g
  exact ⟨f, kV, dc, pm, an, cd, ct, ⟨a, i, k⟩, ⟨oc, od, .none, kV, dc, pm, an, cd, ct, sl, rfl, l, c⟩⟩
/-- a property of a class -/
def PFn (K : PySem.W.Frag) (C : Addr) (m qual : Str) (st : Stmt) : Prop := ∃ (p f : Addr) (oc : Value) (od : Option Addr) (kV dc pm : Value) (an : Option Addr) (cd ct : Value) (sl : Array (Option Value)),
  PropOf K C m p f ∧ K.lookup f = some ⟨oc, od, .func (fnE m qual st kV dc pm an cd ct), sl⟩ ∧ PySem.W.codeIn K cd qual = true
theorem PFn.mk' {K : PySem.W.Frag} {C : Addr} {m qual : Str} {st : Stmt} {p f : Addr} {rest : List Value} {oc : Value} {od : Option Addr} {kV dc pm : Value} {an : Option Addr} {cd ct : Value} {sl : Array (Option Value)} (a : PySem.W.findIn K (.ref C) m = some (some (.ref p)))
    (g : PySem.W.specialIn K (.ref p) "__get__" = some (some (.builtin "property.__get__"))) (t : PySem.W.takesIn K (.ref p) = some true) (r : PySem.W.recIn K p "property" = some (.ref f :: rest))
    (l : K.lookup f = some ⟨oc, od, .func (PySem.W.fnOf m qual (C8.fnArgs st) (C8.fnBody st) (C8.fnScope st) .none kV dc pm an cd ct), sl⟩) (c : PySem.W.codeIn K cd qual = true) : PFn K C m qual st := ⟨p, f, oc, od, kV, dc, pm, an, cd, ct, sl, ⟨a, g, t, rest, r⟩, l, c⟩
theorem PFn.get {K : PySem.W.Frag} {C : Addr} {m qual : Str} {st : Stmt} (g : PFn K C m qual st) : ∃ (p f : Addr) (kV dc pm : Value) (an : Option Addr) (cd ct : Value), PropOf K C m p f ∧ C8.Fun K m qual st f (fnE m qual st kV dc pm an cd ct) := by
  obtain ⟨p, f, oc, od, kV, dc, pm, an, cd, ct, sl, a, l, c⟩ := g
  exact ⟨p, f, kV, dc, pm, an, cd, ct, a, ⟨oc, od, .none, kV, dc, pm, an, cd, ct, sl, rfl, l, c⟩⟩
/-- a class of the module -/
structure CFn (K : PySem.W.Frag) (x : Str) (C : Addr) : Prop where
  at_ : PySem.W.nsIn K mainGlobals x = some (some (.ref C))
  pg : PySem.W.plainGet K C Str.empty = true
  hd : PySem.W.hasDictIn K C = true
  po : PySem.W.plainOver K C = true
  sa : PySem.W.findIn K (.ref C) "__setattr__" = some (some (.builtin "object.__setattr__"))
  mk_ : PySem.W.makesIn K C = true
  kc : PySem.W.keepIn K (.ref C) = true
theorem CFn.cl {K : PySem.W.Frag} {x : Str} {C : Addr} (c : CFn K x C) : Cls K C := ⟨c.pg, c.hd, c.po, c.sa⟩
/-- names, constants -/
structure NFn (K : PySem.W.Frag) : Prop where
  n_len : PySem.W.nsIn K mainGlobals "len" = some none
  n_range : PySem.W.nsIn K mainGlobals "range" = some none
  n_enumerate : PySem.W.nsIn K mainGlobals "enumerate" = some none
  n_zip : PySem.W.nsIn K mainGlobals "zip" = some none
  n_isinstance : PySem.W.nsIn K mainGlobals "isinstance" = some none
  n_int : PySem.W.nsIn K mainGlobals "int" = some none
  n_bool : PySem.W.nsIn K mainGlobals "bool" = some none
  n_tuple : PySem.W.nsIn K mainGlobals "tuple" = some none
  n_list : PySem.W.nsIn K mainGlobals "list" = some none
  n_set : PySem.W.nsIn K mainGlobals "set" = some none
  n_dict : PySem.W.nsIn K mainGlobals "dict" = some none
  n_sorted : PySem.W.nsIn K mainGlobals "sorted" = some none
  n_all : PySem.W.nsIn K mainGlobals "all" = some none
  n_any : PySem.W.nsIn K mainGlobals "any" = some none
  n_max : PySem.W.nsIn K mainGlobals "max" = some none
  n_sum : PySem.W.nsIn K mainGlobals "sum" = some none
  perm : PySem.W.nsIn K mainGlobals "permutations" = some (some (.type "itertools.permutations"))
  cMOST : ∃ u, PySem.W.nsIn K mainGlobals "MOST" = some (some u) ∧ RelV (.int 7) u
  cLONGEST : ∃ u, PySem.W.nsIn K mainGlobals "LONGEST" = some (some u) ∧ RelV (.int 9) u
  cMOST_HELPERS : ∃ u, PySem.W.nsIn K mainGlobals "MOST_HELPERS" = some (some u) ∧ RelV (.int 3) u
theorem NFn.txt {K : PySem.W.Frag} {h : Heap} {mg : Str → Option Value} (n : NFn K) (X : K.In h) (G : h.Ns mainGlobals mg) : Txt K mg where
  n_len := PySem.W.mg_none_of X G n.n_len
  n_range := PySem.W.mg_none_of X G n.n_range
  n_enumerate := PySem.W.mg_none_of X G n.n_enumerate
  n_zip := PySem.W.mg_none_of X G n.n_zip
  n_isinstance := PySem.W.mg_none_of X G n.n_isinstance
  n_int := PySem.W.mg_none_of X G n.n_int
  n_bool := PySem.W.mg_none_of X G n.n_bool
  n_tuple := PySem.W.mg_none_of X G n.n_tuple
  n_list := PySem.W.mg_none_of X G n.n_list
  n_set := PySem.W.mg_none_of X G n.n_set
  n_dict := PySem.W.mg_none_of X G n.n_dict
  n_sorted := PySem.W.mg_none_of X G n.n_sorted
  n_all := PySem.W.mg_none_of X G n.n_all
  n_any := PySem.W.mg_none_of X G n.n_any
  n_max := PySem.W.mg_none_of X G n.n_max
  n_sum := PySem.W.mg_none_of X G n.n_sum
  mPerm := PySem.W.mg_of X G n.perm
  cMOST := let ⟨u, e, r⟩ := n.cMOST; ⟨u, PySem.W.mg_of X G e, r⟩
  cLONGEST := let ⟨u, e, r⟩ := n.cLONGEST; ⟨u, PySem.W.mg_of X G e, r⟩
  cMOST_HELPERS := let ⟨u, e, r⟩ := n.cMOST_HELPERS; ⟨u, PySem.W.mg_of X G e, r⟩
theorem NFn.mk' {K : PySem.W.Frag} {t0 t1 t2 : Tok} (a0 : PySem.W.nsIn K mainGlobals "len" = some none) (a1 : PySem.W.nsIn K mainGlobals "range" = some none) (a2 : PySem.W.nsIn K mainGlobals "enumerate" = some none) (a3 : PySem.W.nsIn K mainGlobals "zip" = some none) (a4 : PySem.W.nsIn K mainGlobals "isinstance" = some none) (a5 : PySem.W.nsIn K mainGlobals "int" = some none) (a6 : PySem.W.nsIn K mainGlobals "bool" = some none) (a7 : PySem.W.nsIn K mainGlobals "tuple" = some none) (a8 : PySem.W.nsIn K mainGlobals "list" = some none) (a9 : PySem.W.nsIn K mainGlobals "set" = some none) (a10 : PySem.W.nsIn K mainGlobals "dict" = some none) (a11 : PySem.W.nsIn K mainGlobals "sorted" = some none) (a12 : PySem.W.nsIn K mainGlobals "all" = some none) (a13 : PySem.W.nsIn K mainGlobals "any" = some none) (a14 : PySem.W.nsIn K mainGlobals "max" = some none) (a15 : PySem.W.nsIn K mainGlobals "sum" = some none) (p : PySem.W.nsIn K mainGlobals "permutations" = some (some (.type "itertools.permutations"))) (c0 : PySem.W.nsIn K mainGlobals "MOST" = some (some (.int 7 t0))) (c1 : PySem.W.nsIn K mainGlobals "LONGEST" = some (some (.int 9 t1))) (c2 : PySem.W.nsIn K mainGlobals "MOST_HELPERS" = some (some (.int 3 t2))) : NFn K := ⟨a0, a1, a2, a3, a4, a5, a6, a7, a8, a9, a10, a11, a12, a13, a14, a15, p, ⟨_, c0, _, rfl⟩, ⟨_, c1, _, rfl⟩, ⟨_, c2, _, rfl⟩⟩
/-- all of it -/
structure All (K : PySem.W.Frag) (CH CS : Addr) : Prop where
  ch : CFn K "House" CH
  cs : CFn K "State" CS
  nn : NFn K
  h_rule : NoAttr K CH "_rule"
  h_reach : NoAttr K CH "_reach"
  h_states : NoAttr K CH "_states"
  h_at : NoAttr K CH "_at"
  h_entries : NoAttr K CH "_entries"
  s_town : NoAttr K CS "town"
  s_table : NoAttr K CS "table"
  s_stand : NoAttr K CS "stand"
  s_beaten : NoAttr K CS "beaten"
  s_calls : NoAttr K CS "calls"
  s_length : NoAttr K CS "length"
  g_is_within : GFn K "is_within" sWithin
  g_is_road : GFn K "is_road" sIsRoad
  g_check_town : GFn K "check_town" sCheck
  g_ways : GFn K "ways" sWays
  g_without_road : GFn K "without_road" sWithout
  g_with_road : GFn K "with_road" sWith
  g_all_stands : GFn K "all_stands" sAllStands
  g_stands_of : GFn K "stands_of" sStandsOf
  g_paired_length : GFn K "paired_length" sPaired
  g_sent : GFn K "sent" sSent
  g_answers_by_one : GFn K "answers_by_one" sByOne
  g_answers_by_all : GFn K "answers_by_all" sByAll
  g_steps_of : GFn K "steps_of" sSteps
  g_ranked : GFn K "ranked" sRanked
  g_all_steps : GFn K "all_steps" sAllSteps
  g_ranks : GFn K "ranks" sRanks
  g_is_stand : GFn K "is_stand" sIsStand
  g__law_draws : GFn K "_law_draws" (top 42)
  g__law_town : GFn K "_law_town" (top 43)
  g__law_ways : GFn K "_law_ways" (top 44)
  g__law_stands : GFn K "_law_stands" (top 45)
  g__law_orders : GFn K "_law_orders" (top 46)
  g__law_move : GFn K "_law_move" (top 47)
  g__law_answers : GFn K "_law_answers" (top 48)
  g__law_ranks : GFn K "_law_ranks" (top 49)
  g__law_world : GFn K "_law_world" (top 50)
  g__law_value : GFn K "_law_value" (top 51)
  g__law_rank : GFn K "_law_rank" (top 52)
  law_ : GFn K "law" (top 53)
  m_Hinit : MFn K CH "__init__" "House.__init__" (hm 0)
  m_Sinit : MFn K CS "__init__" "State.__init__" sStateInit
  m__table : MFn K CH "_table" "House._table" (hm 1)
  m__state : MFn K CH "_state" "House._state" (hm 2)
  m__enter : MFn K CH "_enter" "House._enter" (hm 3)
  m__turn : MFn K CH "_turn" "House._turn" (hm 8)
  m_shut : MFn K CH "shut" "House.shut" (hm 9)
  m_build : MFn K CH "build" "House.build" (hm 10)
  m_undo : MFn K CH "undo" "House.undo" (hm 11)
  m_town : MFn K CH "town" "House.town" (hm 16)
  m_stand : MFn K CH "stand" "House.stand" (hm 17)
  m_calls : MFn K CH "calls" "House.calls" (hm 18)
  m_way : MFn K CH "way" "House.way" (hm 19)
  m_rank : MFn K CH "rank" "House.rank" (hm 20)
  p_is_safe : PFn K CH "is_safe" "House.is_safe" (hm 22)
  p_can_undo : PFn K CH "can_undo" "House.can_undo" (hm 23)
section
variable {P : Program} {w : World} {K : PySem.W.Frag} {mg : Str → Option Value} {base : Heap}
theorem orders0 {f : Addr} {fd : FuncData} (F : C8.Def K mg "_law_orders" (top 46) f fd) (b : Binds K fd ["_law_stand"] []) : C8.Cal P w K mg base 0 "_law_orders" (spOrders 0) [] :=
  ⟨f, fd, _, [], ⟨fun vs H Q E h => (by obtain ⟨s, v, _, _, l, _⟩ := h; omega), fun A outer s H args us vs Q E hr he hb hv h => (by obtain ⟨s, v, _, _, l, _⟩ := h; omega)⟩, F.mgf, F.kp, b, .nil⟩
theorem all_mk {CH CS fa : Addr} {h : Heap} (Z : All K CH CS) (X : K.In h) (G : h.Ns mainGlobals mg) (hfa : mg "law" = some (.ref fa)) :
    ∃ fd : FuncData, (∀ (s : Shared) (v : Value), BindsTo s fd ⟨[v], []⟩ [("_law_script", v)]) ∧ ∀ base : Heap, FnOk P w K mg base C8.CX0 9 fa fd ["_law_script"] (spLaw K) := by
  have T := Z.nn.txt X G
  have C : ClsH K CH := ⟨Z.ch.cl, Z.h_rule, Z.h_reach, Z.h_states, Z.h_at, Z.h_entries⟩
  have S : ClsS K CS := ⟨Z.cs.cl, Z.s_town, Z.s_table, Z.s_stand, Z.s_beaten, Z.s_calls, Z.s_length⟩
  have mgH := PySem.W.mg_of X G Z.ch.at_
  have mgS := PySem.W.mg_of X G Z.cs.at_
  obtain ⟨f_is_within, kV_is_within, _, _, _, _, _, F_is_within⟩ := Z.g_is_within.get X G
  have b_is_within := F_is_within.fn.binds rfl (ps := ["value", "low", "high"]) fun _ _ _ _ _ _ us hl => match us, hl with | [_, _, _], _ => rfl
  obtain ⟨f_is_road, kV_is_road, _, _, _, _, _, F_is_road⟩ := Z.g_is_road.get X G
  have b_is_road := F_is_road.fn.binds rfl (ps := ["places", "road"]) fun _ _ _ _ _ _ us hl => match us, hl with | [_, _], _ => rfl
  obtain ⟨f_check_town, kV_check_town, _, _, _, _, _, F_check_town⟩ := Z.g_check_town.get X G
  have b_check_town := F_check_town.fn.binds rfl (ps := ["town"]) fun _ _ _ _ _ _ us hl => match us, hl with | [_], _ => rfl
  obtain ⟨f_ways, kV_ways, _, _, _, _, _, F_ways⟩ := Z.g_ways.get X G
  have b_ways := F_ways.fn.binds rfl (ps := ["town"]) fun _ _ _ _ _ _ us hl => match us, hl with | [_], _ => rfl
  obtain ⟨f_without_road, kV_without_road, _, _, _, _, _, F_without_road⟩ := Z.g_without_road.get X G
  have b_without_road := F_without_road.fn.binds rfl (ps := ["town", "at"]) fun _ _ _ _ _ _ us hl => match us, hl with | [_, _], _ => rfl
  obtain ⟨f_with_road, kV_with_road, _, _, _, _, _, F_with_road⟩ := Z.g_with_road.get X G
  have b_with_road := F_with_road.fn.binds rfl (ps := ["town", "road"]) fun _ _ _ _ _ _ us hl => match us, hl with | [_, _], _ => rfl
  obtain ⟨f_all_stands, kV_all_stands, _, _, _, _, _, F_all_stands⟩ := Z.g_all_stands.get X G
  have b_all_stands := F_all_stands.fn.binds rfl (ps := ["places", "helpers"]) fun _ _ _ _ _ _ us hl => match us, hl with | [_, _], _ => rfl
  obtain ⟨f_stands_of, kV_stands_of, _, _, _, _, _, F_stands_of⟩ := Z.g_stands_of.get X G
  have b_stands_of := F_stands_of.fn.binds rfl (ps := ["town", "helpers"]) fun _ _ _ _ _ _ us hl => match us, hl with | [_, _], _ => rfl
  obtain ⟨f_paired_length, kV_paired_length, _, _, _, _, _, F_paired_length⟩ := Z.g_paired_length.get X G
  have b_paired_length := F_paired_length.fn.binds rfl (ps := ["table", "first", "second", "reach"]) fun _ _ _ _ _ _ us hl => match us, hl with | [_, _, _, _], _ => rfl
  obtain ⟨f_sent, kV_sent, _, _, _, _, _, F_sent⟩ := Z.g_sent.get X G
  have b_sent := F_sent.fn.binds rfl (ps := ["stand", "place", "call"]) fun _ _ _ _ _ _ us hl => match us, hl with | [_, _, _], _ => rfl
  obtain ⟨f_answers_by_one, kV_answers_by_one, _, _, _, _, _, F_answers_by_one⟩ := Z.g_answers_by_one.get X G
  have b_answers_by_one := F_answers_by_one.fn.binds rfl (ps := ["table", "stand", "call", "reach"]) fun _ _ _ _ _ _ us hl => match us, hl with | [_, _, _, _], _ => rfl
  obtain ⟨f_answers_by_all, kV_answers_by_all, _, _, _, _, _, F_answers_by_all⟩ := Z.g_answers_by_all.get X G
  have b_answers_by_all := F_answers_by_all.fn.binds rfl (ps := ["table", "stand", "call", "reach"]) fun _ _ _ _ _ _ us hl => match us, hl with | [_, _, _, _], _ => rfl
  obtain ⟨f_steps_of, kV_steps_of, _, _, _, _, _, F_steps_of⟩ := Z.g_steps_of.get X G
  have b_steps_of := F_steps_of.fn.binds rfl (ps := ["town", "stands", "rule", "reach", "calls"]) fun _ _ _ _ _ _ us hl => match us, hl with | [_, _, _, _, _], _ => rfl
  obtain ⟨f_ranked, kV_ranked, _, _, _, _, _, F_ranked⟩ := Z.g_ranked.get X G
  have b_ranked := F_ranked.fn.binds rfl (ps := ["steps"]) fun _ _ _ _ _ _ us hl => match us, hl with | [_], _ => rfl
  obtain ⟨f_all_steps, kV_all_steps, _, _, _, _, _, F_all_steps⟩ := Z.g_all_steps.get X G
  have b_all_steps := F_all_steps.fn.binds rfl (ps := ["town", "helpers", "rule", "reach", "calls"]) fun _ _ _ _ _ _ us hl => match us, hl with | [_, _, _, _, _], _ => rfl
  obtain ⟨f_ranks, kV_ranks, dc_ranks, pm_ranks, an_ranks, cd_ranks, ct_ranks, F_ranks⟩ := Z.g_ranks.get X G
  obtain ⟨f_is_stand, kV_is_stand, _, _, _, _, _, F_is_stand⟩ := Z.g_is_stand.get X G
  have b_is_stand := F_is_stand.fn.binds rfl (ps := ["town", "value"]) fun _ _ _ _ _ _ us hl => match us, hl with | [_, _], _ => rfl
  obtain ⟨f__law_draws, kV__law_draws, _, _, _, _, _, F__law_draws⟩ := Z.g__law_draws.get X G
  have b__law_draws := F__law_draws.fn.binds rfl (ps := ["_law_script", "_law_count"]) fun _ _ _ _ _ _ us hl => match us, hl with | [_, _], _ => rfl
  obtain ⟨f__law_town, kV__law_town, _, _, _, _, _, F__law_town⟩ := Z.g__law_town.get X G
  have b__law_town := F__law_town.fn.binds rfl (ps := ["_law_draws_here", "_law_most"]) fun _ _ _ _ _ _ us hl => match us, hl with | [_, _], _ => rfl
  obtain ⟨f__law_ways, kV__law_ways, _, _, _, _, _, F__law_ways⟩ := Z.g__law_ways.get X G
  have b__law_ways := F__law_ways.fn.binds rfl (ps := ["_law_town_here"]) fun _ _ _ _ _ _ us hl => match us, hl with | [_], _ => rfl
  obtain ⟨f__law_stands, kV__law_stands, _, _, _, _, _, F__law_stands⟩ := Z.g__law_stands.get X G
  have b__law_stands := F__law_stands.fn.binds rfl (ps := ["_law_places", "_law_helpers"]) fun _ _ _ _ _ _ us hl => match us, hl with | [_, _], _ => rfl
  obtain ⟨f__law_orders, kV__law_orders, _, _, _, _, _, F__law_orders⟩ := Z.g__law_orders.get X G
  have b__law_orders := F__law_orders.fn.binds rfl (ps := ["_law_stand"]) fun _ _ _ _ _ _ us hl => match us, hl with | [_], _ => rfl
  obtain ⟨f__law_move, kV__law_move, _, _, _, _, _, F__law_move⟩ := Z.g__law_move.get X G
  have b__law_move := F__law_move.fn.binds rfl (ps := ["_law_rows", "_law_first", "_law_second", "_law_reach"]) fun _ _ _ _ _ _ us hl => match us, hl with | [_, _, _, _], _ => rfl
  obtain ⟨f__law_answers, kV__law_answers, _, _, _, _, _, F__law_answers⟩ := Z.g__law_answers.get X G
  have b__law_answers := F__law_answers.fn.binds rfl (ps := ["_law_rows", "_law_stand", "_law_call", "_law_rule", "_law_reach"]) fun _ _ _ _ _ _ us hl => match us, hl with | [_, _, _, _, _], _ => rfl
  obtain ⟨f__law_ranks, kV__law_ranks, _, _, _, _, _, F__law_ranks⟩ := Z.g__law_ranks.get X G
  have b__law_ranks := F__law_ranks.fn.binds rfl (ps := ["_law_rows", "_law_helpers", "_law_rule", "_law_reach"]) fun _ _ _ _ _ _ us hl => match us, hl with | [_, _, _, _], _ => rfl
  obtain ⟨f__law_world, kV__law_world, _, _, _, _, _, F__law_world⟩ := Z.g__law_world.get X G
  have b__law_world := F__law_world.fn.binds rfl (ps := ["_law_draws_here"]) fun _ _ _ _ _ _ us hl => match us, hl with | [_], _ => rfl
  obtain ⟨f__law_value, kV__law_value, _, _, _, _, _, F__law_value⟩ := Z.g__law_value.get X G
  have b__law_value := F__law_value.fn.binds rfl (ps := ["_law_rank_here"]) fun _ _ _ _ _ _ us hl => match us, hl with | [_], _ => rfl
  obtain ⟨f__law_rank, kV__law_rank, _, _, _, _, _, F__law_rank⟩ := Z.g__law_rank.get X G
  have b__law_rank := F__law_rank.fn.binds rfl (ps := ["_law_town_here", "_law_stand", "_law_rule", "_law_reach"]) fun _ _ _ _ _ _ us hl => match us, hl with | [_, _, _, _], _ => rfl
  obtain ⟨fl, kVl, dcl, pml, anl, cdl, ctl, FL⟩ := Z.law_.get X G
  have efl : fl = fa := by
    have := FL.mgf.symm.trans hfa
    injection this with this
    injection this
  subst efl
  obtain ⟨f_Hinit, kV_Hinit, dc_Hinit, pm_Hinit, an_Hinit, cd_Hinit, ct_Hinit, me_Hinit, F_Hinit⟩ := Z.m_Hinit.get
  obtain ⟨f_Sinit, kV_Sinit, _, _, _, _, _, me_Sinit, F_Sinit⟩ := Z.m_Sinit.get
  have b_Sinit := F_Sinit.binds rfl (ps := ["self", "town", "table", "stand", "calls", "length"]) fun _ _ _ _ _ _ us hl => match us, hl with | [_, _, _, _, _, _], _ => rfl
  obtain ⟨f_m_table, kV_m_table, _, _, _, _, _, me__table, F_m_table⟩ := Z.m__table.get
  have b_m_table := F_m_table.binds rfl (ps := ["self", "town", "stand"]) fun _ _ _ _ _ _ us hl => match us, hl with | [_, _, _], _ => rfl
  obtain ⟨f_m_state, kV_m_state, _, _, _, _, _, me__state, F_m_state⟩ := Z.m__state.get
  have b_m_state := F_m_state.binds rfl (ps := ["self"]) fun _ _ _ _ _ _ us hl => match us, hl with | [_], _ => rfl
  obtain ⟨f_m_enter, kV_m_enter, _, _, _, _, _, me__enter, F_m_enter⟩ := Z.m__enter.get
  have b_m_enter := F_m_enter.binds rfl (ps := ["self", "state", "entry"]) fun _ _ _ _ _ _ us hl => match us, hl with | [_, _, _], _ => rfl
  obtain ⟨f_m_turn, kV_m_turn, _, _, _, _, _, me__turn, F_m_turn⟩ := Z.m__turn.get
  have b_m_turn := F_m_turn.binds rfl (ps := ["self", "town", "entry"]) fun _ _ _ _ _ _ us hl => match us, hl with | [_, _, _], _ => rfl
  obtain ⟨f_mshut, kV_mshut, _, _, _, _, _, me_shut, F_mshut⟩ := Z.m_shut.get
  have b_mshut := F_mshut.binds rfl (ps := ["self", "first", "second"]) fun _ _ _ _ _ _ us hl => match us, hl with | [_, _, _], _ => rfl
  obtain ⟨f_mbuild, kV_mbuild, _, _, _, _, _, me_build, F_mbuild⟩ := Z.m_build.get
  have b_mbuild := F_mbuild.binds rfl (ps := ["self", "road"]) fun _ _ _ _ _ _ us hl => match us, hl with | [_, _], _ => rfl
  obtain ⟨f_mundo, kV_mundo, _, _, _, _, _, me_undo, F_mundo⟩ := Z.m_undo.get
  have b_mundo := F_mundo.binds rfl (ps := ["self"]) fun _ _ _ _ _ _ us hl => match us, hl with | [_], _ => rfl
  obtain ⟨f_mtown, kV_mtown, _, _, _, _, _, me_town, F_mtown⟩ := Z.m_town.get
  have b_mtown := F_mtown.binds rfl (ps := ["self"]) fun _ _ _ _ _ _ us hl => match us, hl with | [_], _ => rfl
  obtain ⟨f_mstand, kV_mstand, _, _, _, _, _, me_stand, F_mstand⟩ := Z.m_stand.get
  have b_mstand := F_mstand.binds rfl (ps := ["self"]) fun _ _ _ _ _ _ us hl => match us, hl with | [_], _ => rfl
  obtain ⟨f_mcalls, kV_mcalls, _, _, _, _, _, me_calls, F_mcalls⟩ := Z.m_calls.get
  have b_mcalls := F_mcalls.binds rfl (ps := ["self"]) fun _ _ _ _ _ _ us hl => match us, hl with | [_], _ => rfl
  obtain ⟨f_mway, kV_mway, _, _, _, _, _, me_way, F_mway⟩ := Z.m_way.get
  have b_mway := F_mway.binds rfl (ps := ["self"]) fun _ _ _ _ _ _ us hl => match us, hl with | [_], _ => rfl
  obtain ⟨f_mrank, kV_mrank, _, _, _, _, _, me_rank, F_mrank⟩ := Z.m_rank.get
  have b_mrank := F_mrank.binds rfl (ps := ["self"]) fun _ _ _ _ _ _ us hl => match us, hl with | [_], _ => rfl
  obtain ⟨p_is_safe, f_pis_safe, kV_pis_safe, _, _, _, _, _, pr_is_safe, F_pis_safe⟩ := Z.p_is_safe.get
  have b_pis_safe := F_pis_safe.binds rfl (ps := ["self"]) fun _ _ _ _ _ _ us hl => match us, hl with | [_], _ => rfl
  obtain ⟨p_can_undo, f_pcan_undo, kV_pcan_undo, _, _, _, _, _, pr_can_undo, F_pcan_undo⟩ := Z.p_can_undo.get
  have b_pcan_undo := F_pcan_undo.binds rfl (ps := ["self"]) fun _ _ _ _ _ _ us hl => match us, hl with | [_], _ => rfl
  have kb_ranks : KBn K (fnE "ranks" "ranks" sRanks kV_ranks dc_ranks pm_ranks an_ranks cd_ranks ct_ranks) ["town", "helpers", "rule", "reach", "calls"] 2 ["rule", "reach", "calls"] (fun us ws => us ++ ws) (fun vs zs => vs ++ zs) := ⟨fun s us ws _ h1 h2 => match us, ws, h1, h2 with | [_, _], [_, _, _], _, _ => .of_eq rfl, fun a b => a.append b⟩
  have kb_Hinit : KBn K (fnE "__init__" "House.__init__" (hm 0) kV_Hinit dc_Hinit pm_Hinit an_Hinit cd_Hinit ct_Hinit) ["self", "town", "stand", "rule", "reach"] 3 ["rule", "reach"] (fun us ws => us ++ ws) (fun vs zs => vs ++ zs) := ⟨fun s us ws _ h1 h2 => match us, ws, h1, h2 with | [_, _, _], [_, _], _, _ => .of_eq rfl, fun a b => a.append b⟩
  refine ⟨_, fun s v => .of_eq (fd := fnE "law" "law" (top 53) kVl dcl pml anl cdl ctl) rfl, fun base => ?_⟩
  have c_is_within := ok_is_within (P := P) (w := w) (base := base) F_is_within b_is_within T
  have c_is_road := ok_is_road F_is_road b_is_road T c_is_within
  have c_check_town := ok_check_town F_check_town b_check_town T c_is_within c_is_road
  have c_without_road := ok_without_road (P := P) (w := w) (base := base) F_without_road b_without_road T
  have c_with_road := ok_with_road F_with_road b_with_road T c_is_road
  have c_ways := ok_ways (P := P) (w := w) (base := base) F_ways b_ways T
  have c_all_stands := ok_all_stands (P := P) (w := w) (base := base) F_all_stands b_all_stands T
  have c_stands_of := ok_stands_of F_stands_of b_stands_of T (allE c_all_stands)
  have c_paired_length := ok_paired_length (P := P) (w := w) (base := base) F_paired_length b_paired_length T
  have c_sent := ok_sent (P := P) (w := w) (base := base) F_sent b_sent T
  have c_one := ok_answers_by_one F_answers_by_one b_answers_by_one T c_sent
  have c_all := ok_answers_by_all F_answers_by_all b_answers_by_all T (allT c_all_stands) c_paired_length
  have at_one : C8.CalAt P w K mg base 2 f_answers_by_one (spAnsE true) := calAt_imp (fun _ _ _ _ h => ansE h) (calAt_un (calAt_of c_one F_answers_by_one.mgf))
  have at_all : C8.CalAt P w K mg base 2 f_answers_by_all (spAnsE false) := calAt_imp (fun _ _ _ _ h => ansE h) (calAt_un (calAt_of c_all F_answers_by_all.mgf))
  have c_steps_of := ok_steps_of F_steps_of b_steps_of T c_ways ⟨_, F_answers_by_one.mgf, rfl⟩ ⟨_, F_answers_by_all.mgf, rfl⟩ at_one at_all
  have c_all_steps := ok_all_steps F_all_steps b_all_steps T c_stands_of c_steps_of
  have c_ranked := ok_ranked (P := P) (w := w) (base := base) F_ranked b_ranked T
  have c_ranks := ok_ranks F_ranks kb_ranks T c_all_steps c_ranked
  have c_is_stand := ok_is_stand F_is_stand b_is_stand T c_is_within
  have m_State := ok_State (P := P) (w := w) (base := base) S ⟨Z.cs.mk_, me_Sinit.at_, me_Sinit.fn, Z.cs.kc⟩ mgS F_Sinit b_Sinit T
  have d__table := ok_table C me__table F_m_table b_m_table T c_ranks
  have d__state := ok_state (P := P) (w := w) (mg := mg) (base := base) (CS := CS) C me__state F_m_state b_m_state
  have d_town := ok_town C S me_town F_mtown b_mtown d__state
  have d_stand := ok_stand C S me_stand F_mstand b_mstand d__state
  have d_calls := ok_calls C S me_calls F_mcalls b_mcalls d__state
  have d_way := ok_way C S me_way F_mway b_mway d__state
  have d_rank := ok_rank C S me_rank F_mrank b_mrank d__state
  have q_safe := ok_safe C S pr_is_safe F_pis_safe b_pis_safe d__state
  have q_undo := ok_can_undo (P := P) (w := w) (mg := mg) (base := base) (CS := CS) C pr_can_undo F_pcan_undo b_pcan_undo
  have d_undo := ok_undo (P := P) (w := w) (mg := mg) (base := base) (CS := CS) C me_undo F_mundo b_mundo
  have d__enter := ok_enter (P := P) (w := w) (mg := mg) (base := base) (CS := CS) C me__enter F_m_enter b_m_enter
  have d__turn := ok_turn C S me__turn F_m_turn b_m_turn d__state d__enter m_State d__table q_safe
  have d_build := ok_build C S me_build F_mbuild b_mbuild d__state d__turn c_with_road
  have d_shut := ok_shut C S me_shut F_mshut b_mshut T d__state d__turn c_is_within c_without_road
  have GH := ok_House C S F_Hinit c_check_town c_is_stand m_State d__table
  have c_value := ok_law_value (P := P) (w := w) (base := base) F__law_value b__law_value
  have c_stands := ok_law_stands (P := P) (w := w) (base := base) F__law_stands b__law_stands T
  have c_o1 := ok_law_orders 0 F__law_orders b__law_orders T (orders0 (P := P) (w := w) (base := base) F__law_orders b__law_orders)
  have c_o2 := ok_law_orders 1 F__law_orders b__law_orders T c_o1
  have c_o3 := ok_law_orders 2 F__law_orders b__law_orders T c_o2
  have c_move := ok_law_move F__law_move b__law_move T c_o3
  have c_answers := ok_law_answers F__law_answers b__law_answers T c_stands c_move
  have c_lranks := ok_law_ranks F__law_ranks b__law_ranks T c_stands c_answers
  have c_lways := ok_law_ways (P := P) (w := w) (base := base) F__law_ways b__law_ways T
  have c_lrank := ok_law_rank F__law_rank b__law_rank T c_lways c_lranks
  have c_draws := ok_law_draws (P := P) (w := w) (base := base) F__law_draws b__law_draws T
  have c_town := ok_law_town (P := P) (w := w) (base := base) F__law_town b__law_town T
  have c_world := ok_law_world F__law_world b__law_world T c_town c_stands
  exact ok_law FL.fn T ⟨Z.ch.mk_, me_Hinit.at_, me_Hinit.fn, Z.ch.kc⟩ mgH GH kb_Hinit c_draws c_world c_value c_lrank d_town d_rank d_stand d_calls d_way d_undo d_build d_shut q_safe q_undo
end
theorem walk {l : PySem.W.OpenLaw} {q : Program} {loose : List Str} {XP : (Str → Option Value) → Heap → Prop} {YP : World → Heap → Prop} {d : DefRec} {K : Params → PySem.W.Frag} (hn : l.most = some 63) (hdf : d.params.defaults = [])
    (hY : ∀ (w : World) (h : Heap), YP w h → (K w.params).In h)
    (F : ∀ (w : World) (mg : Str → Option Value) (fa : Addr) (h : Heap), (K w.params).In h → h.Ns mainGlobals mg → mg d.name = some (.ref fa) →
      ∃ fd : FuncData, (∀ (s : Shared) (u : Value), BindsTo s fd ⟨[u], []⟩ [("_law_script", u)]) ∧ ∀ base : Heap, (K w.params).In base → base.Ns mainGlobals mg → FnOk l.prog w (K w.params) mg base C8.CX0 9 fa fd ["_law_script"] (spLaw (K w.params))) :
    PySem.W.WalkO q loose XP YP l.row.toRowW d [] (fun f vs => PySem.call f vs) :=
  L2.walk_of (n := 63) (k := 9) (x := "_law_script") (CX := fun _ => C8.CX0) (sp := fun w => spLaw (K w.params)) hn (by decide) hdf ⟨rfl, by decide, by decide⟩ hY F (fun _ _ a ns hl _ hS => ⟨a, ns, rfl, hS, hl, fun _ => rfl⟩) fun _ _ _ _ _ z => z
theorem all_go {l : PySem.W.OpenLaw} {w : World} {K : PySem.W.Frag} {h : Heap} {mg : Str → Option Value} {fa CH CS : Addr} (X : K.In h) (G : h.Ns mainGlobals mg) (hfa : mg "law" = some (.ref fa)) (Z : All K CH CS) :
    ∃ fd : FuncData, (∀ (s : Shared) (v : Value), BindsTo s fd ⟨[v], []⟩ [("_law_script", v)]) ∧ ∀ base : Heap, K.In base → base.Ns mainGlobals mg → FnOk l.prog w K mg base C8.CX0 9 fa fd ["_law_script"] (spLaw K) := by
  obtain ⟨fd, hb, hF⟩ := all_mk (P := l.prog) (w := w) Z X G hfa
  exact ⟨fd, hb, fun base _ _ => hF base⟩
end Ev
end
open PySem PySem.W PyProof.Rows in
set_option maxRecDepth 100000 in
set_option maxHeartbeats 0 in
theorem PySem.Challenge.cw_evernear_k78_whole_roads_of_a_house_holds : PySem.Challenge.rw_evernear_k78_whole_roads_of_a_house.Holds := by
  w_on; o_law; k_head; (case hw => w_witness2)
  k_fill
  refine Ev.walk (l := PySem.Challenge.rw_evernear_k78_whole_roads_of_a_house) rfl rfl (fun w h Y => PySem.W.kIn_of Y) ?F
  case F =>
    intro w mg fa h KX G hmg
    refine' Ev.all_go KX G hmg ?Z
    case Z =>
      refine' Ev.All.mk ?z0 ?z1 ?z2 ?z3 ?z4 ?z5 ?z6 ?z7 ?z8 ?z9 ?z10 ?z11 ?z12 ?z13 ?z14 ?z15 ?z16 ?z17 ?z18 ?z19 ?z20 ?z21 ?z22 ?z23 ?z24 ?z25 ?z26 ?z27 ?z28 ?z29 ?z30 ?z31 ?z32 ?z33 ?z34 ?z35 ?z36 ?z37 ?z38 ?z39 ?z40 ?z41 ?z42 ?z43 ?z44 ?z45 ?z46 ?z47 ?z48 ?z49 ?z50 ?z51 ?z52 ?z53 ?z54 ?z55 ?z56 ?z57 ?z58
      case z0 =>
        refine' Ev.CFn.mk ?w0 ?w1 ?w2 ?w3 ?w4 ?w5 ?w6
        (case w0 => k_is)
        (case w1 => k_is)
        (case w2 => k_is)
        (case w3 => k_is)
        (case w4 => k_is)
        (case w5 => k_is)
        (case w6 => k_is)
      case z1 =>
        refine' Ev.CFn.mk ?w7 ?w8 ?w9 ?w10 ?w11 ?w12 ?w13
        (case w7 => k_is)
        (case w8 => k_is)
        (case w9 => k_is)
        (case w10 => k_is)
        (case w11 => k_is)
        (case w12 => k_is)
        (case w13 => k_is)
      case z2 =>
        refine' Ev.NFn.mk' ?w14 ?w15 ?w16 ?w17 ?w18 ?w19 ?w20 ?w21 ?w22 ?w23 ?w24 ?w25 ?w26 ?w27 ?w28 ?w29 ?w30 ?w31 ?w32 ?w33
        (case w14 => k_is)
        (case w15 => k_is)
        (case w16 => k_is)
        (case w17 => k_is)
        (case w18 => k_is)
        (case w19 => k_is)
        (case w20 => k_is)
        (case w21 => k_is)
        (case w22 => k_is)
        (case w23 => k_is)
        (case w24 => k_is)
        (case w25 => k_is)
        (case w26 => k_is)
        (case w27 => k_is)
        (case w28 => k_is)
        (case w29 => k_is)
        (case w30 => k_is)
        (case w31 => k_is)
        (case w32 => k_is)
        (case w33 => k_is)
      (case z3 =>
        show PySem.W.findIn _ _ _ = _
        k_is)
      (case z4 =>
        show PySem.W.findIn _ _ _ = _
        k_is)
      (case z5 =>
        show PySem.W.findIn _ _ _ = _
        k_is)
      (case z6 =>
        show PySem.W.findIn _ _ _ = _
        k_is)
      (case z7 =>
        show PySem.W.findIn _ _ _ = _
        k_is)
      (case z8 =>
        show PySem.W.findIn _ _ _ = _
        k_is)
      (case z9 =>
        show PySem.W.findIn _ _ _ = _
        k_is)
      (case z10 =>
        show PySem.W.findIn _ _ _ = _
        k_is)
      (case z11 =>
        show PySem.W.findIn _ _ _ = _
        k_is)
      (case z12 =>
        show PySem.W.findIn _ _ _ = _
        k_is)
      (case z13 =>
        show PySem.W.findIn _ _ _ = _
        k_is)
      case z14 =>
        refine' Ev.GFn.mk' ?w34 ?w35 ?w36 ?w37
        (case w34 => k_is)
        (case w35 => k_is)
        (case w36 => k_is)
        (case w37 => k_is)
      case z15 =>
        refine' Ev.GFn.mk' ?w38 ?w39 ?w40 ?w41
        (case w38 => k_is)
        (case w39 => k_is)
        (case w40 => k_is)
        (case w41 => k_is)
      case z16 =>
        refine' Ev.GFn.mk' ?w42 ?w43 ?w44 ?w45
        (case w42 => k_is)
        (case w43 => k_is)
        (case w44 => k_is)
        (case w45 => k_is)
      case z17 =>
        refine' Ev.GFn.mk' ?w46 ?w47 ?w48 ?w49
        (case w46 => k_is)
        (case w47 => k_is)
        (case w48 => k_is)
        (case w49 => k_is)
      case z18 =>
        refine' Ev.GFn.mk' ?w50 ?w51 ?w52 ?w53
        (case w50 => k_is)
        (case w51 => k_is)
        (case w52 => k_is)
        (case w53 => k_is)
      case z19 =>
        refine' Ev.GFn.mk' ?w54 ?w55 ?w56 ?w57
        (case w54 => k_is)
        (case w55 => k_is)
        (case w56 => k_is)
        (case w57 => k_is)
      case z20 =>
        refine' Ev.GFn.mk' ?w58 ?w59 ?w60 ?w61
        (case w58 => k_is)
        (case w59 => k_is)
        (case w60 => k_is)
        (case w61 => k_is)
      case z21 =>
        refine' Ev.GFn.mk' ?w62 ?w63 ?w64 ?w65
        (case w62 => k_is)
        (case w63 => k_is)
        (case w64 => k_is)
        (case w65 => k_is)
      case z22 =>
        refine' Ev.GFn.mk' ?w66 ?w67 ?w68 ?w69
        (case w66 => k_is)
        (case w67 => k_is)
        (case w68 => k_is)
        (case w69 => k_is)
      case z23 =>
        refine' Ev.GFn.mk' ?w70 ?w71 ?w72 ?w73
        (case w70 => k_is)
        (case w71 => k_is)
        (case w72 => k_is)
        (case w73 => k_is)
      case z24 =>
        refine' Ev.GFn.mk' ?w74 ?w75 ?w76 ?w77
        (case w74 => k_is)
        (case w75 => k_is)
        (case w76 => k_is)
        (case w77 => k_is)
      case z25 =>
        refine' Ev.GFn.mk' ?w78 ?w79 ?w80 ?w81
        (case w78 => k_is)
        (case w79 => k_is)
        (case w80 => k_is)
        (case w81 => k_is)
      case z26 =>
        refine' Ev.GFn.mk' ?w82 ?w83 ?w84 ?w85
        (case w82 => k_is)
        (case w83 => k_is)
        (case w84 => k_is)
        (case w85 => k_is)
      case z27 =>
        refine' Ev.GFn.mk' ?w86 ?w87 ?w88 ?w89
        (case w86 => k_is)
        (case w87 => k_is)
        (case w88 => k_is)
        (case w89 => k_is)
      case z28 =>
        refine' Ev.GFn.mk' ?w90 ?w91 ?w92 ?w93
        (case w90 => k_is)
        (case w91 => k_is)
        (case w92 => k_is)
        (case w93 => k_is)
      case z29 =>
        refine' Ev.GFn.mk' ?w94 ?w95 ?w96 ?w97
        (case w94 => k_is)
        (case w95 => k_is)
        (case w96 => k_is)
        (case w97 => k_is)
      case z30 =>
        refine' Ev.GFn.mk' ?w98 ?w99 ?w100 ?w101
        (case w98 => k_is)
        (case w99 => k_is)
        (case w100 => k_is)
        (case w101 => k_is)
      case z31 =>
        refine' Ev.GFn.mk' ?w102 ?w103 ?w104 ?w105
        (case w102 => k_is)
        (case w103 => k_is)
        (case w104 => k_is)
        (case w105 => k_is)
      case z32 =>
        refine' Ev.GFn.mk' ?w106 ?w107 ?w108 ?w109
        (case w106 => k_is)
        (case w107 => k_is)
        (case w108 => k_is)
        (case w109 => k_is)
      case z33 =>
        refine' Ev.GFn.mk' ?w110 ?w111 ?w112 ?w113
        (case w110 => k_is)
        (case w111 => k_is)
        (case w112 => k_is)
        (case w113 => k_is)
      case z34 =>
        refine' Ev.GFn.mk' ?w114 ?w115 ?w116 ?w117
        (case w114 => k_is)
        (case w115 => k_is)
        (case w116 => k_is)
        (case w117 => k_is)
      case z35 =>
        refine' Ev.GFn.mk' ?w118 ?w119 ?w120 ?w121
        (case w118 => k_is)
        (case w119 => k_is)
        (case w120 => k_is)
        (case w121 => k_is)
      case z36 =>
        refine' Ev.GFn.mk' ?w122 ?w123 ?w124 ?w125
        (case w122 => k_is)
        (case w123 => k_is)
        (case w124 => k_is)
        (case w125 => k_is)
      case z37 =>
        refine' Ev.GFn.mk' ?w126 ?w127 ?w128 ?w129
        (case w126 => k_is)
        (case w127 => k_is)
        (case w128 => k_is)
        (case w129 => k_is)
      case z38 =>
        refine' Ev.GFn.mk' ?w130 ?w131 ?w132 ?w133
        (case w130 => k_is)
        (case w131 => k_is)
        (case w132 => k_is)
        (case w133 => k_is)
      case z39 =>
        refine' Ev.GFn.mk' ?w134 ?w135 ?w136 ?w137
        (case w134 => k_is)
        (case w135 => k_is)
        (case w136 => k_is)
        (case w137 => k_is)
      case z40 =>
        refine' Ev.GFn.mk' ?w138 ?w139 ?w140 ?w141
        (case w138 => k_is)
        (case w139 => k_is)
        (case w140 => k_is)
        (case w141 => k_is)
      case z41 =>
        refine' Ev.GFn.mk' ?w142 ?w143 ?w144 ?w145
        (case w142 => k_is)
        (case w143 => k_is)
        (case w144 => k_is)
        (case w145 => k_is)
      case z42 =>
        refine' Ev.GFn.mk' ?w146 ?w147 ?w148 ?w149
        (case w146 => k_is)
        (case w147 => k_is)
        (case w148 => k_is)
        (case w149 => k_is)
      case z43 =>
        refine' Ev.MFn.mk' ?w150 ?w151 ?w152 ?w153 ?w154
        (case w150 => k_is)
        (case w151 => k_is)
        (case w152 => k_is)
        (case w153 => k_is)
        (case w154 => k_is)
      case z44 =>
        refine' Ev.MFn.mk' ?w155 ?w156 ?w157 ?w158 ?w159
        (case w155 => k_is)
        (case w156 => k_is)
        (case w157 => k_is)
        (case w158 => k_is)
        (case w159 => k_is)
      case z45 =>
        refine' Ev.MFn.mk' ?w160 ?w161 ?w162 ?w163 ?w164
        (case w160 => k_is)
        (case w161 => k_is)
        (case w162 => k_is)
        (case w163 => k_is)
        (case w164 => k_is)
      case z46 =>
        refine' Ev.MFn.mk' ?w165 ?w166 ?w167 ?w168 ?w169
        (case w165 => k_is)
        (case w166 => k_is)
        (case w167 => k_is)
        (case w168 => k_is)
        (case w169 => k_is)
      case z47 =>
        refine' Ev.MFn.mk' ?w170 ?w171 ?w172 ?w173 ?w174
        (case w170 => k_is)
        (case w171 => k_is)
        (case w172 => k_is)
        (case w173 => k_is)
        (case w174 => k_is)
      case z48 =>
        refine' Ev.MFn.mk' ?w175 ?w176 ?w177 ?w178 ?w179
        (case w175 => k_is)
        (case w176 => k_is)
        (case w177 => k_is)
        (case w178 => k_is)
        (case w179 => k_is)
      case z49 =>
        refine' Ev.MFn.mk' ?w180 ?w181 ?w182 ?w183 ?w184
        (case w180 => k_is)
        (case w181 => k_is)
        (case w182 => k_is)
        (case w183 => k_is)
        (case w184 => k_is)
      case z50 =>
        refine' Ev.MFn.mk' ?w185 ?w186 ?w187 ?w188 ?w189
        (case w185 => k_is)
        (case w186 => k_is)
        (case w187 => k_is)
        (case w188 => k_is)
        (case w189 => k_is)
      case z51 =>
        refine' Ev.MFn.mk' ?w190 ?w191 ?w192 ?w193 ?w194
        (case w190 => k_is)
        (case w191 => k_is)
        (case w192 => k_is)
        (case w193 => k_is)
        (case w194 => k_is)
      case z52 =>
        refine' Ev.MFn.mk' ?w195 ?w196 ?w197 ?w198 ?w199
        (case w195 => k_is)
        (case w196 => k_is)
        (case w197 => k_is)
        (case w198 => k_is)
        (case w199 => k_is)
      case z53 =>
        refine' Ev.MFn.mk' ?w200 ?w201 ?w202 ?w203 ?w204
        (case w200 => k_is)
        (case w201 => k_is)
        (case w202 => k_is)
        (case w203 => k_is)
        (case w204 => k_is)
      case z54 =>
        refine' Ev.MFn.mk' ?w205 ?w206 ?w207 ?w208 ?w209
        (case w205 => k_is)
        (case w206 => k_is)
        (case w207 => k_is)
        (case w208 => k_is)
        (case w209 => k_is)
      case z55 =>
        refine' Ev.MFn.mk' ?w210 ?w211 ?w212 ?w213 ?w214
        (case w210 => k_is)
        (case w211 => k_is)
        (case w212 => k_is)
        (case w213 => k_is)
        (case w214 => k_is)
      case z56 =>
        refine' Ev.MFn.mk' ?w215 ?w216 ?w217 ?w218 ?w219
        (case w215 => k_is)
        (case w216 => k_is)
        (case w217 => k_is)
        (case w218 => k_is)
        (case w219 => k_is)
      case z57 =>
        refine' Ev.PFn.mk' ?w220 ?w221 ?w222 ?w223 ?w224 ?w225
        (case w220 => k_is)
        (case w221 => k_is)
        (case w222 => k_is)
        (case w223 => k_is)
        (case w224 => k_is)
        (case w225 => k_is)
      case z58 =>
        refine' Ev.PFn.mk' ?w226 ?w227 ?w228 ?w229 ?w230 ?w231
        (case w226 => k_is)
        (case w227 => k_is)
        (case w228 => k_is)
        (case w229 => k_is)
        (case w230 => k_is)
        (case w231 => k_is)
