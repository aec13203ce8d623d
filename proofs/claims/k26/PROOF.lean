import PyProof.Rows.All
import Wide.All
import OpenK.AllK
import Wide.FinOn
import KE.KStateDown
import KE.KDictKeyed
import KE.KDictLaw
import Lean
import HandS.ForMost
import HandS.More
import HandS.Deep
import HandS.SortInts
import HandS.Strs
import HandS.SetFor
import HandS.Small
import HandS.Codes
import HandS.TupAny
import HandS.TupMul
import HandS.TryOnly
import HandS.ExcOwn
import HandS.WordsExc
import HandS.Defaults
import KE.DataMinMax
import KE.KeyNested
import HandS.Walk
import KE.KSortedM
import HandS.Ends
import HandS.Words
import HandS.Head0
import HandS.Head1
import HandS.Head2
import HandS.HeadEnd
import HandS.HeadHook1
import HandS.HeadHook2
import PySem.Challenge.RW_firstbreak_k26_fewest_by_all_tests
/-! The game: tests that part classes, answers counted make by make; plain Lean. -/
namespace K26

/-- at most one is in -/
def Few (S : Nat → Bool) : Prop := ∀ i j, S i = true → S j = true → i = j
def cutB (B : Nat → Nat → Bool) (m : Nat) (S : Nat → Bool) : Nat → Bool := fun j => S j && B m j
def cutW (B : Nat → Nat → Bool) (m : Nat) (S : Nat → Bool) : Nat → Bool := fun j => S j && !B m j
def Useful (B : Nat → Nat → Bool) (m : Nat) (S : Nat → Bool) : Prop := (∃ i, S i = true ∧ B m i = true) ∧ (∃ i, S i = true ∧ B m i = false)

/-- S is settled by tests of M that cost c, within q -/
inductive Solv (M : List Nat) (B : Nat → Nat → Bool) (c : Nat → Nat) : (Nat → Bool) → Nat → Prop
  | done {S q} : Few S → Solv M B c S q
  | ask {S q} (m p : Nat) : m ∈ M → Useful B m S → c m + p = q → Solv M B c (cutB B m S) p → Solv M B c (cutW B m S) p → Solv M B c S q

section
variable {M : List Nat} {B : Nat → Nat → Bool} {c c' : Nat → Nat} {S S' : Nat → Bool} {q q' m : Nat}
theorem cutB_iff {j : Nat} : cutB B m S j = true ↔ S j = true ∧ B m j = true := by simp [cutB]
theorem cutW_iff {j : Nat} : cutW B m S j = true ↔ S j = true ∧ B m j = false := by simp [cutW]
theorem Few.sub (h : Few S) (hs : ∀ j, S' j = true → S j = true) : Few S' := fun i j hi hj => h i j (hs i hi) (hs j hj)
theorem Solv.mono (h : Solv M B c S q) : ∀ {q'}, q ≤ q' → Solv M B c S q' := by
  induction h with
  | done f => intro q' _; exact .done f
  | ask m p hm hu he h1 h2 ih1 ih2 =>
    rename_i S q
    intro q' hq
    exact .ask m (p + (q' - q)) hm hu (by omega) (ih1 (by omega)) (ih2 (by omega))
theorem Solv.sub (h : Solv M B c S q) : ∀ {S'}, (∀ j, S' j = true → S j = true) → Solv M B c S' q := by
  induction h with
  | done f => intro S' hs; exact .done (f.sub hs)
  | ask m p hm hu he h1 h2 ih1 ih2 =>
    rename_i S q
    intro S' hs
    by_cases u1 : ∃ i, S' i = true ∧ B m i = true
    · by_cases u2 : ∃ i, S' i = true ∧ B m i = false
      · refine .ask m p hm ⟨u1, u2⟩ he (ih1 fun j hj => ?_) (ih2 fun j hj => ?_)
        · rw [cutB_iff] at hj ⊢; exact ⟨hs j hj.1, hj.2⟩
        · rw [cutW_iff] at hj ⊢; exact ⟨hs j hj.1, hj.2⟩
      · refine (ih1 (S' := S') fun j hj => ?_).mono (by omega)
        rw [cutB_iff]
        refine ⟨hs j hj, ?_⟩
        cases e : B m j with
        | true => rfl
        | false => exact absurd ⟨j, hj, e⟩ u2
    · refine (ih2 (S' := S') fun j hj => ?_).mono (by omega)
      rw [cutW_iff]
      refine ⟨hs j hj, ?_⟩
      cases e : B m j with
      | false => rfl
      | true => exact absurd ⟨j, hj, e⟩ u1
/-- a test need not be useful -/
theorem Solv.ask' {p : Nat} (hm : m ∈ M) (hq : c m + p ≤ q) (h1 : Solv M B c (cutB B m S) p) (h2 : Solv M B c (cutW B m S) p) : Solv M B c S q := by
  by_cases u1 : ∃ i, S i = true ∧ B m i = true
  · by_cases u2 : ∃ i, S i = true ∧ B m i = false
    · exact Solv.mono (.ask m p hm ⟨u1, u2⟩ rfl h1 h2) hq
    · refine (h1.sub (S' := S) fun j hj => ?_).mono (by omega)
      rw [cutB_iff]
      refine ⟨hj, ?_⟩
      cases e : B m j with
      | true => rfl
      | false => exact absurd ⟨j, hj, e⟩ u2
  · refine (h2.sub (S' := S) fun j hj => ?_).mono (by omega)
    rw [cutW_iff]
    refine ⟨hj, ?_⟩
    cases e : B m j with
    | false => rfl
    | true => exact absurd ⟨j, hj, e⟩ u1
/-- the cost of a test that tells nothing is of no matter -/
theorem Solv.irr (h : Solv M B c S q) (m : Nat) (hc : ∀ x, x ≠ m → c x = c' x) (hn : ∀ i j, S i = true → S j = true → B m i = B m j) : Solv M B c' S q := by
  induction h with
  | done f => exact .done f
  | ask x p hm hu he h1 h2 ih1 ih2 =>
    rename_i S q
    have hx : x ≠ m := by
      rintro rfl
      obtain ⟨⟨i, hi, bi⟩, ⟨j, hj, bj⟩⟩ := hu
      have := hn i j hi hj
      rw [bi, bj] at this
      cases this
    refine .ask x p hm hu (by rw [← hc x hx]; exact he) (ih1 fun i j hi hj => ?_) (ih2 fun i j hi hj => ?_)
    · rw [cutB_iff] at hi hj; exact hn i j hi.1 hj.1
    · rw [cutW_iff] at hi hj; exact hn i j hi.1 hj.1
/-- one test dearer by one -/
theorem Solv.incr (h : Solv M B c' S q) (m : Nat) (hm : c m = c' m + 1) (hc : ∀ x, x ≠ m → c' x = c x) : Solv M B c S (q + 1) := by
  induction h with
  | done f => exact .done f
  | ask x p hx hu he h1 h2 ih1 ih2 =>
    rename_i S q
    by_cases e : x = m
    · subst e
      refine .ask x p hx hu (by omega) (h1.irr x hc fun i j hi hj => ?_) (h2.irr x hc fun i j hi hj => ?_)
      · rw [cutB_iff] at hi hj; rw [hi.2, hj.2]
      · rw [cutW_iff] at hi hj; rw [hi.2, hj.2]
    · exact .ask x (p + 1) hx hu (by rw [← hc x e]; omega) ih1 ih2
/-- all tests at one price -/
theorem Solv.price {t : Nat} (h : Solv M B (fun _ => t) S q) : ∃ d, t * d ≤ q ∧ Solv M B (fun _ => 1) S d := by
  induction h with
  | done f => exact ⟨0, by simp, .done f⟩
  | ask m p hm hu he h1 h2 ih1 ih2 =>
    obtain ⟨d1, e1, s1⟩ := ih1
    obtain ⟨d2, e2, s2⟩ := ih2
    refine ⟨1 + max d1 d2, ?_, .ask m (max d1 d2) hm hu rfl (s1.mono (by omega)) (s2.mono (by omega))⟩
    rw [Nat.mul_add, Nat.mul_one]
    have : t * max d1 d2 ≤ p := by
      by_cases g : d1 ≤ d2
      · rw [Nat.max_eq_right g]; exact e2
      · rw [Nat.max_eq_left (by omega)]; exact e1
    omega
/-- other tests that part alike -/
theorem Solv.swap {M' : List Nat} {U : Nat → Bool} (h : Solv M B c S q) (hc : ∀ x y, c x = c y) (hU : ∀ j, S j = true → U j = true)
    (hM : ∀ m ∈ M, Useful B m U → ∃ m' ∈ M', ∀ j, U j = true → B m' j = B m j) : Solv M' B c S q := by
  induction h with
  | done f => exact .done f
  | ask x p hx hu he h1 h2 ih1 ih2 =>
    rename_i S q
    have hu' : Useful B x U := by
      obtain ⟨⟨i, hi, bi⟩, ⟨j, hj, bj⟩⟩ := hu
      exact ⟨⟨i, hU i hi, bi⟩, ⟨j, hU j hj, bj⟩⟩
    obtain ⟨y, hy, e⟩ := hM x hx hu'
    refine Solv.ask' (m := y) (p := p) hy (by rw [hc y x]; omega) ((ih1 fun j hj => hU j (cutB_iff.mp hj).1).sub fun j hj => ?_) ((ih2 fun j hj => hU j (cutW_iff.mp hj).1).sub fun j hj => ?_)
    · rw [cutB_iff] at hj ⊢; exact ⟨hj.1, by rw [← e j (hU j hj.1)]; exact hj.2⟩
    · rw [cutW_iff] at hj ⊢; exact ⟨hj.1, by rw [← e j (hU j hj.1)]; exact hj.2⟩
end

/-- the least number of tests -/
def IsVal (M : List Nat) (B : Nat → Nat → Bool) (S : Nat → Bool) (d : Nat) : Prop := Solv M B (fun _ => 1) S d ∧ ∀ e, Solv M B (fun _ => 1) S e → d ≤ e
theorem IsVal.uniq {M B S d e} (h : IsVal M B S d) (h' : IsVal M B S e) : d = e := Nat.le_antisymm (h.2 e h'.1) (h'.2 d h.1)

/-! ### answers counted make by make -/
section
variable (M : List Nat) (B : Nat → Nat → Bool) (U : Nat → Bool) (k kb : Nat)
/-- the classes that can be it -/
def aliveC (cnt : Nat → Nat × Nat) : Nat → Bool := fun j => U j && M.all fun m => if B m j then decide ((cnt m).1 ≤ k) else decide ((cnt m).2 ≤ kb)
def incW (cnt : Nat → Nat × Nat) (m : Nat) : Nat → Nat × Nat := fun x => if x = m then ((cnt x).1 + 1, (cnt x).2) else cnt x
def incB (cnt : Nat → Nat × Nat) (m : Nat) : Nat → Nat × Nat := fun x => if x = m then ((cnt x).1, (cnt x).2 + 1) else cnt x
inductive Told : (Nat → Nat × Nat) → Nat → Prop
  | done {cnt q} : Few (aliveC M B U k kb cnt) → Told cnt q
  | ask {cnt p} (m : Nat) : m ∈ M → (cnt m).1 ≤ k → (cnt m).2 ≤ kb → Told (incW cnt m) p → Told (incB cnt m) p → Told cnt (p + 1)
end
section
variable {M : List Nat} {B : Nat → Nat → Bool} {U : Nat → Bool} {k kb : Nat} {cnt : Nat → Nat × Nat} {m j q : Nat}
theorem alive_iff : aliveC M B U k kb cnt j = true ↔ U j = true ∧ ∀ m ∈ M, (B m j = true → (cnt m).1 ≤ k) ∧ (B m j = false → (cnt m).2 ≤ kb) := by
  unfold aliveC
  rw [Bool.and_eq_true, List.all_eq_true]
  refine and_congr Iff.rfl (forall_congr' fun m => imp_congr Iff.rfl ?_)
  cases e : B m j <;> simp
theorem incW_same : incW cnt m m = ((cnt m).1 + 1, (cnt m).2) := by simp [incW]
theorem incB_same : incB cnt m m = ((cnt m).1, (cnt m).2 + 1) := by simp [incB]
theorem incW_ne {x : Nat} (h : x ≠ m) : incW cnt m x = cnt x := by simp [incW, h]
theorem incB_ne {x : Nat} (h : x ≠ m) : incB cnt m x = cnt x := by simp [incB, h]
theorem alive_incW (h : aliveC M B U k kb (incW cnt m) j = true) : aliveC M B U k kb cnt j = true := by
  rw [alive_iff] at h ⊢
  refine ⟨h.1, fun x hx => ?_⟩
  have q := h.2 x hx
  by_cases e : x = m
  · subst e
    rw [incW_same] at q
    exact ⟨fun b => by have := q.1 b; simp only at this; omega, q.2⟩
  · rw [incW_ne e] at q; exact q
theorem alive_incB (h : aliveC M B U k kb (incB cnt m) j = true) : aliveC M B U k kb cnt j = true := by
  rw [alive_iff] at h ⊢
  refine ⟨h.1, fun x hx => ?_⟩
  have q := h.2 x hx
  by_cases e : x = m
  · subst e
    rw [incB_same] at q
    exact ⟨q.1, fun b => by have := q.2 b; simp only at this; omega⟩
  · rw [incB_ne e] at q; exact q
/-- the price of a make: what it still takes until it is settled -/
def cost (k kb : Nat) (cnt : Nat → Nat × Nat) (m : Nat) : Nat := k + kb + 1 - (cnt m).1 - (cnt m).2
theorem Told.mono {p : Nat} (h : Told M B U k kb cnt p) : ∀ {q}, p ≤ q → Told M B U k kb cnt q := by
  induction h with
  | done f => intro q _; exact .done f
  | ask m hm h1 h2 _ _ ih1 ih2 =>
    intro q hq
    obtain ⟨r, rfl⟩ : ∃ r, q = r + 1 := ⟨q - 1, by omega⟩
    exact .ask m hm h1 h2 (ih1 (by omega)) (ih2 (by omega))
/-- so many do -/
theorem told_up {S : Nat → Bool} {d : Nat} (h : Solv M B (fun _ => 1) S d) : ∀ (cnt : Nat → Nat × Nat) (q : Nat), (∀ j, aliveC M B U k kb cnt j = true → S j = true) → (k + kb + 1) * d ≤ q → Told M B U k kb cnt q := by
  induction h with
  | done f => intro cnt q hs _; exact .done (f.sub hs)
  | ask m p hm hu he h1 h2 ih1 ih2 =>
    rename_i S d
    have inner : ∀ (r : Nat) (cnt : Nat → Nat × Nat) (q : Nat), (∀ j, aliveC M B U k kb cnt j = true → S j = true) → (k < (cnt m).1 ∨ kb < (cnt m).2 ∨ cost k kb cnt m ≤ r) → (k + kb + 1) * p + r ≤ q → Told M B U k kb cnt q := by
      intro r
      induction r with
      | zero =>
        intro cnt q hs hr hq
        by_cases w1 : k < (cnt m).1
        · refine ih2 cnt q (fun j hj => ?_) (by omega)
          rw [cutW_iff]
          refine ⟨hs j hj, ?_⟩
          cases e : B m j with
          | false => rfl
          | true => have := ((alive_iff.mp hj).2 m hm).1 e; omega
        · by_cases w2 : kb < (cnt m).2
          · refine ih1 cnt q (fun j hj => ?_) (by omega)
            rw [cutB_iff]
            refine ⟨hs j hj, ?_⟩
            cases e : B m j with
            | true => rfl
            | false => have := ((alive_iff.mp hj).2 m hm).2 e; omega
          · unfold cost at hr; omega
      | succ r ihr =>
        intro cnt q hs hr hq
        by_cases w1 : k < (cnt m).1
        · exact ihr cnt q hs (.inl w1) (by omega)
        · by_cases w2 : kb < (cnt m).2
          · exact ihr cnt q hs (.inr (.inl w2)) (by omega)
          · obtain ⟨q', rfl⟩ : ∃ q', q = q' + 1 := ⟨q - 1, by omega⟩
            refine .ask m hm (by omega) (by omega) (ihr _ _ (fun j hj => hs j (alive_incW hj)) (.inr (.inr ?_)) (by omega)) (ihr _ _ (fun j hj => hs j (alive_incB hj)) (.inr (.inr ?_)) (by omega))
            · unfold cost at hr ⊢; rw [incW_same]; simp only; omega
            · unfold cost at hr ⊢; rw [incB_same]; simp only; omega
    intro cnt q hs hq
    refine inner (k + kb + 1) cnt q hs (.inr (.inr (by unfold cost; omega))) ?_
    have e : (k + kb + 1) * d = (k + kb + 1) * p + (k + kb + 1) := by rw [← he, Nat.mul_add]; omega
    omega
/-- no fewer do -/
theorem told_low (h : Told M B U k kb cnt q) : Solv M B (cost k kb cnt) (aliveC M B U k kb cnt) q := by
  induction h with
  | done f => exact .done f
  | ask m hm h1 h2 h3 h4 ih1 ih2 =>
    rename_i cnt p
    have cW : ∀ x, x ≠ m → cost k kb (incW cnt m) x = cost k kb cnt x := fun x hx => by unfold cost; rw [incW_ne hx]
    have cB : ∀ x, x ≠ m → cost k kb (incB cnt m) x = cost k kb cnt x := fun x hx => by unfold cost; rw [incB_ne hx]
    by_cases w1 : (cnt m).1 < k
    · have e : aliveC M B U k kb (incW cnt m) = aliveC M B U k kb cnt := by
        funext j
        rw [Bool.eq_iff_iff]
        refine ⟨alive_incW, fun hj => ?_⟩
        rw [alive_iff] at hj ⊢
        refine ⟨hj.1, fun x hx => ?_⟩
        by_cases e : x = m
        · subst e; rw [incW_same]; exact ⟨fun _ => by simp only; omega, (hj.2 x hx).2⟩
        · rw [incW_ne e]; exact hj.2 x hx
      rw [e] at ih1
      exact ih1.incr m (by unfold cost; rw [incW_same]; simp only; omega) cW
    · by_cases w2 : (cnt m).2 < kb
      · have e : aliveC M B U k kb (incB cnt m) = aliveC M B U k kb cnt := by
          funext j
          rw [Bool.eq_iff_iff]
          refine ⟨alive_incB, fun hj => ?_⟩
          rw [alive_iff] at hj ⊢
          refine ⟨hj.1, fun x hx => ?_⟩
          by_cases e : x = m
          · subst e; rw [incB_same]; exact ⟨(hj.2 x hx).1, fun _ => by simp only; omega⟩
          · rw [incB_ne e]; exact hj.2 x hx
        rw [e] at ih2
        exact ih2.incr m (by unfold cost; rw [incB_same]; simp only; omega) cB
      · refine Solv.ask' (m := m) (p := p) hm (by unfold cost; omega) ?_ ?_
        · refine (Solv.irr (ih2.sub (S' := cutB B m (aliveC M B U k kb cnt)) fun j hj => ?_) m cB fun i j hi hj => ?_)
          · rw [cutB_iff] at hj
            obtain ⟨hj, bj⟩ := hj
            rw [alive_iff] at hj ⊢
            refine ⟨hj.1, fun x hx => ?_⟩
            by_cases e : x = m
            · subst e; rw [incB_same]; exact ⟨(hj.2 x hx).1, fun z => by rw [bj] at z; cases z⟩
            · rw [incB_ne e]; exact hj.2 x hx
          · rw [cutB_iff] at hi hj; rw [hi.2, hj.2]
        · refine (Solv.irr (ih1.sub (S' := cutW B m (aliveC M B U k kb cnt)) fun j hj => ?_) m cW fun i j hi hj => ?_)
          · rw [cutW_iff] at hj
            obtain ⟨hj, bj⟩ := hj
            rw [alive_iff] at hj ⊢
            refine ⟨hj.1, fun x hx => ?_⟩
            by_cases e : x = m
            · subst e; rw [incW_same]; exact ⟨(fun z => by rw [bj] at z; cases z), (hj.2 x hx).2⟩
            · rw [incW_ne e]; exact hj.2 x hx
          · rw [cutW_iff] at hi hj; rw [hi.2, hj.2]
/-- o3 -/
theorem told_iff {D : Nat} (hz : ∀ m, cnt m = (0, 0)) (h : IsVal M B U D) : Told M B U k kb cnt q ↔ (k + kb + 1) * D ≤ q := by
  constructor
  · intro t
    have s := told_low t
    have e1 : cost k kb cnt = fun _ => k + kb + 1 := by funext m; unfold cost; rw [hz]; simp
    have e2 : aliveC M B U k kb cnt = U := by
      funext j
      rw [Bool.eq_iff_iff, alive_iff]
      refine ⟨fun x => x.1, fun x => ⟨x, fun m _ => by rw [hz]; simp⟩⟩
    rw [e1, e2] at s
    obtain ⟨d, h1, h2⟩ := s.price
    exact Nat.le_trans (Nat.mul_le_mul_left _ (h.2 d h2)) h1
  · intro hq
    exact told_up h.1 cnt q (fun j hj => (alive_iff.mp hj).1) hq
end

/-! ### bounds of the value -/
theorem solv_count {M B} {S : Nat → Bool} {d : Nat} (h : Solv M B (fun _ => 1) S d) : ∀ l : List Nat, l.Nodup → (∀ x ∈ l, S x = true) → l.length ≤ 2 ^ d := by
  induction h with
  | done f =>
    rename_i S q
    intro l hn hl
    have h1 : l.length ≤ 1 := by
      match l, hn, hl with
      | [], _, _ => simp
      | [_], _, _ => simp
      | a :: b :: r, hn, hl =>
        have e := f a b (hl a (by simp)) (hl b (by simp))
        subst e
        simp at hn
    exact Nat.le_trans h1 (Nat.one_le_two_pow)
  | ask m p hm hu he h1 h2 ih1 ih2 =>
    rename_i S q
    intro l hn hl
    have e1 := ih1 (l.filter fun x => B m x) (hn.filter _) fun x hx => by
      rw [List.mem_filter] at hx; rw [cutB_iff]; exact ⟨hl x hx.1, hx.2⟩
    have e2 := ih2 (l.filter fun x => !B m x) (hn.filter _) fun x hx => by
      rw [List.mem_filter] at hx; rw [cutW_iff]; exact ⟨hl x hx.1, by simpa using hx.2⟩
    have e3 : l.length = (l.filter fun x => B m x).length + (l.filter fun x => !B m x).length := by
      rw [← List.countP_eq_length_filter, ← List.countP_eq_length_filter, List.length_eq_countP_add_countP (fun x => B m x)]
      congr 1
      exact List.countP_congr fun x _ => by simp
    have e4 : 2 ^ q = 2 ^ p + 2 ^ p := by rw [← he, Nat.pow_add]; omega
    omega
end K26

/-! Histories, classes, tests, as plain lists. -/
namespace K26

abbrev Hist := List (List Nat)
def par (h : Hist) (k : Nat) : List Nat := h.getD k []
def upStep (h : Hist) (k : Nat) (S : List Nat) : List Nat := if S.contains k then S ++ (par h k).filter (fun p => !S.contains p) else S
/-- the makes k - 1, .., 0 looked at in turn -/
def upL (h : Hist) : Nat → List Nat → List Nat
  | 0, S => S
  | k + 1, S => upL h k (upStep h k S)
/-- c is among the ancestors of m -/
def anc (h : Hist) (m c : Nat) : Bool := (upL h (m + 1) [m]).contains c
def tstb (n : Nat) (sk : List Nat) : List Nat := (List.range n).filter fun m => !sk.contains m
def markL (h : Hist) (sk : List Nat) (c : Nat) : List Bool := (tstb h.length sk).map fun m => anc h m c
abbrev Grp := List (List Bool × List Nat)
def grpIns (mk : List Bool) (c : Nat) : Grp → Grp
  | [] => [(mk, [c])]
  | p :: r => if p.1 = mk then (p.1, p.2 ++ [c]) :: r else p :: grpIns mk c r
def grpTo (mk : Nat → List Bool) : Nat → Grp
  | 0 => []
  | n + 1 => grpIns (mk n) n (grpTo mk n)
def grp (h : Hist) (sk : List Nat) : Grp := grpTo (markL h sk) h.length
def clsM (h : Hist) (sk : List Nat) : List (List Nat) := (grp h sk).map (·.2)
def rep (cls : List (List Nat)) (j : Nat) : Nat := (cls.getD j []).headD 0
/-- the class j is broken by m -/
def Bm (h : Hist) (cls : List (List Nat)) (m j : Nat) : Bool := anc h m (rep cls j)
def rowM (h : Hist) (cls : List (List Nat)) (m : Nat) : List Nat := (List.range cls.length).filter (Bm h cls m)
def tstStep (h : Hist) (cls : List (List Nat)) (acc : List Nat) (m : Nat) : List Nat :=
  if 0 < (rowM h cls m).length ∧ (rowM h cls m).length < cls.length ∧ (acc.map (rowM h cls)).contains (rowM h cls m) = false then acc ++ [m] else acc
def testsM (h : Hist) (sk : List Nat) (cls : List (List Nat)) : List Nat := (tstb h.length sk).foldl (tstStep h cls) []
/-- the makes that some, but not all candidates break, not skipped -/
def nothM (h : Hist) (sk : List Nat) : List Nat := (List.range h.length).filter fun m => !sk.contains m && (decide (0 < ((List.range h.length).filter fun c => anc h m c).length) && decide (((List.range h.length).filter fun c => anc h m c).length < h.length))

/-! ### groups -/
section
variable {mk : Nat → List Bool}
/-- what the first n have made -/
structure GrpOk (mk : Nat → List Bool) (n : Nat) (G : Grp) : Prop where
  nodup : (G.map (·.1)).Nodup
  ne : ∀ p ∈ G, p.2 ≠ []
  key : ∀ p ∈ G, ∀ c ∈ p.2, mk c = p.1 ∧ c < n
  all : ∀ c, c < n → ∃ p ∈ G, p.1 = mk c
  len : G.length ≤ n
  cl : ∀ p ∈ G, p.2.length ≤ n
theorem grpIns_keys (x : List Bool) (c : Nat) : ∀ G : Grp, (x ∈ G.map (·.1) → (grpIns x c G).map (·.1) = G.map (·.1)) ∧ (x ∉ G.map (·.1) → (grpIns x c G).map (·.1) = G.map (·.1) ++ [x])
  | [] => ⟨fun h => by simp at h, fun _ => rfl⟩
  | p :: r => by
    obtain ⟨h1, h2⟩ := grpIns_keys x c r
    unfold grpIns
    by_cases e : p.1 = x
    · rw [if_pos e]
      exact ⟨fun _ => rfl, fun hn => absurd (by simp [e]) hn⟩
    · rw [if_neg e]
      refine ⟨fun hm => ?_, fun hn => ?_⟩
      · rw [List.map_cons, List.mem_cons] at hm
        rw [List.map_cons, List.map_cons, h1 (hm.resolve_left fun z => e z.symm)]
      · rw [List.map_cons, List.mem_cons, not_or] at hn
        rw [List.map_cons, List.map_cons, h2 hn.2, List.cons_append]
theorem grpIns_mem (x : List Bool) (c : Nat) : ∀ (G : Grp) (p : List Bool × List Nat), p ∈ grpIns x c G → p ∈ G ∨ (p = (x, [c])) ∨ ∃ l, (x, l) ∈ G ∧ p = (x, l ++ [c])
  | [], p, h => by
    have e : p = (x, [c]) := by simpa [grpIns] using h
    exact .inr (.inl e)
  | y :: r, p, h => by
    unfold grpIns at h
    by_cases e : y.1 = x
    · rw [if_pos e, List.mem_cons] at h
      rcases h with h | h
      · refine .inr (.inr ⟨y.2, ?_, by rw [h, e]⟩)
        rw [← e]
        exact List.mem_cons_self
      · exact .inl (List.mem_cons_of_mem _ h)
    · rw [if_neg e, List.mem_cons] at h
      rcases h with h | h
      · exact .inl (by rw [h]; exact List.mem_cons_self)
      · rcases grpIns_mem x c r p h with q | q | ⟨l, q, q2⟩
        · exact .inl (List.mem_cons_of_mem _ q)
        · exact .inr (.inl q)
        · exact .inr (.inr ⟨l, List.mem_cons_of_mem _ q, q2⟩)
theorem grpIns_len (x : List Bool) (c : Nat) : ∀ G : Grp, (grpIns x c G).length ≤ G.length + 1
  | [] => by simp [grpIns]
  | p :: r => by
    unfold grpIns
    split
    · simp
    · have := grpIns_len x c r
      simp only [List.length_cons]; omega
theorem grpTo_ok (mk : Nat → List Bool) : ∀ n, GrpOk mk n (grpTo mk n)
  | 0 => ⟨by simp [grpTo], by simp [grpTo], by simp [grpTo], fun c h => by omega, by simp [grpTo], by simp [grpTo]⟩
  | n + 1 => by
    have ih := grpTo_ok mk n
    obtain ⟨k1, k2⟩ := grpIns_keys (mk n) n (grpTo mk n)
    refine ⟨?_, ?_, ?_, ?_, ?_, ?_⟩
    · show ((grpIns (mk n) n (grpTo mk n)).map (·.1)).Nodup
      by_cases hm : mk n ∈ (grpTo mk n).map (·.1)
      · rw [k1 hm]; exact ih.nodup
      · rw [k2 hm, List.nodup_append]
        refine ⟨ih.nodup, by simp, fun a ha b hb => ?_⟩
        rw [List.mem_singleton] at hb
        rintro rfl
        exact hm (hb ▸ ha)
    · intro p hp
      rcases grpIns_mem _ _ _ p hp with q | q | ⟨l, q, e⟩
      · exact ih.ne p q
      · rw [q]; simp
      · rw [e]; simp
    · intro p hp c hc
      rcases grpIns_mem _ _ _ p hp with q | q | ⟨l, q, e⟩
      · exact ⟨(ih.key p q c hc).1, Nat.lt_succ_of_lt (ih.key p q c hc).2⟩
      · rw [q] at hc ⊢
        have : c = n := by simpa using hc
        subst this
        exact ⟨rfl, Nat.lt_succ_self _⟩
      · rw [e] at hc ⊢
        rcases List.mem_append.mp hc with z | z
        · exact ⟨(ih.key _ q c z).1, Nat.lt_succ_of_lt (ih.key _ q c z).2⟩
        · have : c = n := by simpa using z
          subst this
          exact ⟨rfl, Nat.lt_succ_self _⟩
    · intro c hc
      have mem : mk c ∈ (grpTo mk (n + 1)).map (·.1) := by
        show mk c ∈ (grpIns (mk n) n (grpTo mk n)).map (·.1)
        by_cases hcn : c < n
        · obtain ⟨p, hp, e⟩ := ih.all c hcn
          have m1 : mk c ∈ (grpTo mk n).map (·.1) := List.mem_map.mpr ⟨p, hp, e⟩
          by_cases hm : mk n ∈ (grpTo mk n).map (·.1)
          · rw [k1 hm]; exact m1
          · rw [k2 hm]; exact List.mem_append_left _ m1
        · have : c = n := by omega
          subst this
          by_cases hm : mk c ∈ (grpTo mk c).map (·.1)
          · rw [k1 hm]; exact hm
          · rw [k2 hm]; simp
      obtain ⟨p, hp, e⟩ := List.mem_map.mp mem
      exact ⟨p, hp, e⟩
    · have := grpIns_len (mk n) n (grpTo mk n)
      have := ih.len
      show (grpIns (mk n) n (grpTo mk n)).length ≤ n + 1
      omega
    · intro p hp
      rcases grpIns_mem _ _ _ p hp with q | q | ⟨l, q, e⟩
      · exact Nat.le_succ_of_le (ih.cl p q)
      · rw [q]; simp
      · have := ih.cl _ q
        rw [e]; simp at this ⊢; exact this
end

section
variable {h : Hist} {sk : List Nat}
theorem cls_len : (clsM h sk).length ≤ h.length := by unfold clsM grp; rw [List.length_map]; exact (grpTo_ok _ _).len
theorem cls_pos (hp : 0 < h.length) : 0 < (clsM h sk).length := by
  obtain ⟨p, hp, _⟩ := (grpTo_ok (markL h sk) h.length).all 0 hp
  unfold clsM grp
  rw [List.length_map]
  exact List.length_pos_of_mem hp
theorem cls_at {j : Nat} (hj : j < (clsM h sk).length) : ∃ p, (grp h sk)[j]? = some p ∧ (clsM h sk)[j]? = some p.2 ∧ p ∈ grp h sk := by
  unfold clsM at hj
  rw [List.length_map] at hj
  refine ⟨(grp h sk)[j], List.getElem?_eq_getElem hj, ?_, List.getElem_mem hj⟩
  unfold clsM
  rw [List.getElem?_map, List.getElem?_eq_getElem hj]
  rfl
theorem rep_of {cls : List (List Nat)} {j : Nat} {l : List Nat} (e : cls[j]? = some l) (hl : l ≠ []) : rep cls j ∈ l ∧ l[0]? = some (rep cls j) := by
  unfold rep
  rw [List.getD_eq_getElem?_getD, e]
  cases l with
  | nil => exact absurd rfl hl
  | cons a r => exact ⟨by simp, rfl⟩
theorem rep_ok {j : Nat} (hj : j < (clsM h sk).length) : rep (clsM h sk) j < h.length ∧ ∃ p, (grp h sk)[j]? = some p ∧ markL h sk (rep (clsM h sk) j) = p.1 := by
  obtain ⟨p, e1, e2, hp⟩ := cls_at hj
  have g := grpTo_ok (markL h sk) h.length
  have := g.key p hp _ (rep_of e2 (g.ne p hp)).1
  exact ⟨this.2, p, e1, this.1⟩
/-- two classes are parted by a make that is not skipped -/
theorem sep {i j : Nat} (hi : i < (clsM h sk).length) (hj : j < (clsM h sk).length) (hne : i ≠ j) : ∃ m ∈ tstb h.length sk, Bm h (clsM h sk) m i ≠ Bm h (clsM h sk) m j := by
  obtain ⟨_, p, e1, k1⟩ := rep_ok hi
  obtain ⟨_, q, e2, k2⟩ := rep_ok hj
  have g := grpTo_ok (markL h sk) h.length
  have hk : p.1 ≠ q.1 := by
    intro e
    refine hne ?_
    have a1 : ((grp h sk).map (·.1))[i]? = some p.1 := by rw [List.getElem?_map, e1]; rfl
    have a2 : ((grp h sk).map (·.1))[j]? = some p.1 := by rw [List.getElem?_map, e2, e]; rfl
    obtain ⟨l1, b1⟩ := List.getElem?_eq_some_iff.mp a1
    obtain ⟨l2, b2⟩ := List.getElem?_eq_some_iff.mp a2
    exact (List.getElem_inj g.nodup).mp (b1.trans b2.symm)
  have hm : markL h sk (rep (clsM h sk) i) ≠ markL h sk (rep (clsM h sk) j) := by rw [k1, k2]; exact hk
  apply Classical.byContradiction
  intro no
  apply hm
  unfold markL
  refine List.map_congr_left fun m hm' => ?_
  apply Classical.byContradiction
  intro ne
  exact no ⟨m, hm', ne⟩
theorem mem_row {cls : List (List Nat)} {m j : Nat} : j ∈ rowM h cls m ↔ j < cls.length ∧ Bm h cls m j = true := by unfold rowM; rw [List.mem_filter, List.mem_range]
theorem row_lt {cls : List (List Nat)} {m : Nat} : (rowM h cls m).length < cls.length ↔ ∃ j, j < cls.length ∧ Bm h cls m j = false := by
  unfold rowM
  have e : ((List.range cls.length).filter (Bm h cls m)).length < (List.range cls.length).length ↔ ∃ x ∈ List.range cls.length, ¬ Bm h cls m x = true := List.length_filter_lt_length_iff_exists
  rw [List.length_range] at e
  rw [e]
  refine exists_congr fun j => ?_
  rw [List.mem_range, Bool.not_eq_true]
theorem row_pos {cls : List (List Nat)} {m : Nat} : 0 < (rowM h cls m).length ↔ ∃ j, j < cls.length ∧ Bm h cls m j = true := by
  constructor
  · intro hp
    obtain ⟨x, hx⟩ := List.exists_mem_of_length_pos hp
    exact ⟨x, mem_row.mp hx⟩
  · rintro ⟨j, hj⟩
    exact List.length_pos_of_mem (mem_row.mpr hj)
/-- what the tests are behind some makes -/
structure TstOk (h : Hist) (cls : List (List Nat)) (ms T : List Nat) : Prop where
  sub : ∀ m ∈ T, m ∈ ms ∧ 0 < (rowM h cls m).length ∧ (rowM h cls m).length < cls.length
  all : ∀ m ∈ ms, 0 < (rowM h cls m).length → (rowM h cls m).length < cls.length → ∃ x ∈ T, rowM h cls x = rowM h cls m
theorem tstStep_ok {cls : List (List Nat)} {ms T : List Nat} {m : Nat} (o : TstOk h cls ms T) : TstOk h cls (ms ++ [m]) (tstStep h cls T m) := by
  unfold tstStep
  split
  · rename_i c
    obtain ⟨c1, c2, c3⟩ := c
    refine ⟨fun x hx => ?_, fun x hx p1 p2 => ?_⟩
    · rcases List.mem_append.mp hx with z | z
      · exact ⟨List.mem_append_left _ (o.sub x z).1, (o.sub x z).2⟩
      · rw [List.mem_singleton] at z; subst z
        exact ⟨by simp, c1, c2⟩
    · rcases List.mem_append.mp hx with z | z
      · obtain ⟨y, hy, e⟩ := o.all x z p1 p2
        exact ⟨y, List.mem_append_left _ hy, e⟩
      · rw [List.mem_singleton] at z; subst z
        exact ⟨x, by simp, rfl⟩
  · rename_i c
    refine ⟨fun x hx => ⟨List.mem_append_left _ (o.sub x hx).1, (o.sub x hx).2⟩, fun x hx p1 p2 => ?_⟩
    rcases List.mem_append.mp hx with z | z
    · exact o.all x z p1 p2
    · rw [List.mem_singleton] at z; subst z
      have c3 : (T.map (rowM h cls)).contains (rowM h cls x) = true := by
        cases e : (T.map (rowM h cls)).contains (rowM h cls x) with
        | true => rfl
        | false => exact absurd ⟨p1, p2, e⟩ c
      rw [List.contains_iff_mem] at c3
      obtain ⟨y, hy, e⟩ := List.mem_map.mp c3
      exact ⟨y, hy, e⟩
theorem foldl_tst {cls : List (List Nat)} : ∀ (l ms T : List Nat), TstOk h cls ms T → TstOk h cls (ms ++ l) (l.foldl (tstStep h cls) T)
  | [], ms, T, o => by rw [List.append_nil]; exact o
  | m :: l, ms, T, o => by
    have := foldl_tst l (ms ++ [m]) (tstStep h cls T m) (tstStep_ok o)
    rw [List.append_assoc] at this
    exact this
theorem tests_ok (h : Hist) (sk : List Nat) (cls : List (List Nat)) : TstOk h cls (tstb h.length sk) (testsM h sk cls) := by
  have := foldl_tst (h := h) (cls := cls) (tstb h.length sk) [] [] ⟨fun _ hx => (nomatch hx), fun _ hx => (nomatch hx)⟩
  rw [List.nil_append] at this
  exact this
/-- the classes in at first -/
def inU (n : Nat) : Nat → Bool := fun j => decide (j < n)
theorem inU_iff {n j : Nat} : inU n j = true ↔ j < n := by simp [inU]
theorem row_eq {cls : List (List Nat)} {x m j : Nat} (e : rowM h cls x = rowM h cls m) (hj : j < cls.length) : Bm h cls x j = Bm h cls m j := by
  rw [Bool.eq_iff_iff]
  have a : j ∈ rowM h cls x ↔ j ∈ rowM h cls m := by rw [e]
  rw [mem_row, mem_row] at a
  constructor
  · intro z; exact (a.mp ⟨hj, z⟩).2
  · intro z; exact (a.mpr ⟨hj, z⟩).2
/-- two classes are parted by one of the tests -/
theorem tests_sep {i j : Nat} (hi : i < (clsM h sk).length) (hj : j < (clsM h sk).length) (hne : i ≠ j) : ∃ m ∈ testsM h sk (clsM h sk), Bm h (clsM h sk) m i ≠ Bm h (clsM h sk) m j := by
  obtain ⟨m, hm, ne⟩ := sep hi hj hne
  have o := tests_ok h sk (clsM h sk)
  have two : (∃ j, j < (clsM h sk).length ∧ Bm h (clsM h sk) m j = true) ∧ ∃ j, j < (clsM h sk).length ∧ Bm h (clsM h sk) m j = false := by
    cases e1 : Bm h (clsM h sk) m i with
    | true =>
      cases e2 : Bm h (clsM h sk) m j with
      | true => rw [e1, e2] at ne; exact absurd rfl ne
      | false => exact ⟨⟨i, hi, e1⟩, ⟨j, hj, e2⟩⟩
    | false =>
      cases e2 : Bm h (clsM h sk) m j with
      | true => exact ⟨⟨j, hj, e2⟩, ⟨i, hi, e1⟩⟩
      | false => rw [e1, e2] at ne; exact absurd rfl ne
  obtain ⟨x, hx, e⟩ := o.all m hm (row_pos.mpr two.1) (row_lt.mpr two.2)
  exact ⟨x, hx, by rw [row_eq e hi, row_eq e hj]; exact ne⟩
theorem mem_tstb {n m : Nat} : m ∈ tstb n sk ↔ m < n ∧ m ∉ sk := by
  unfold tstb
  rw [List.mem_filter, List.mem_range, Bool.not_eq_true', ← Bool.not_eq_true, List.contains_iff_mem]
theorem mem_noth {m : Nat} : m ∈ nothM h sk ↔ m < h.length ∧ m ∉ sk ∧ (∃ c, c < h.length ∧ anc h m c = true) ∧ ∃ c, c < h.length ∧ anc h m c = false := by
  unfold nothM
  rw [List.mem_filter, List.mem_range, Bool.and_eq_true, Bool.and_eq_true, decide_eq_true_eq, decide_eq_true_eq, Bool.not_eq_true', ← Bool.not_eq_true, List.contains_iff_mem]
  refine and_congr Iff.rfl (and_congr Iff.rfl (and_congr ?_ ?_))
  · constructor
    · intro hp
      obtain ⟨x, hx⟩ := List.exists_mem_of_length_pos hp
      rw [List.mem_filter, List.mem_range] at hx
      exact ⟨x, hx⟩
    · rintro ⟨c, hc⟩
      exact List.length_pos_of_mem (List.mem_filter.mpr ⟨List.mem_range.mpr hc.1, hc.2⟩)
  · have e : ((List.range h.length).filter fun c => anc h m c).length < (List.range h.length).length ↔ ∃ x ∈ List.range h.length, ¬ anc h m x = true := List.length_filter_lt_length_iff_exists
    rw [List.length_range] at e
    rw [e]
    refine exists_congr fun j => ?_
    rw [List.mem_range, Bool.not_eq_true]
/-- the value by the program's tests is the value by the law's makes -/
theorem val_swap {d : Nat} (v : IsVal (testsM h sk (clsM h sk)) (Bm h (clsM h sk)) (inU (clsM h sk).length) d) : IsVal (nothM h sk) (Bm h (clsM h sk)) (inU (clsM h sk).length) d := by
  have o := tests_ok h sk (clsM h sk)
  refine ⟨v.1.swap (U := inU (clsM h sk).length) (fun _ _ => rfl) (fun _ z => z) fun m hm _ => ⟨m, ?_, fun _ _ => rfl⟩, fun e he => v.2 e (he.swap (U := inU (clsM h sk).length) (fun _ _ => rfl) (fun _ z => z) fun m hm hu => ?_)⟩
  · obtain ⟨h1, h2, h3⟩ := o.sub m hm
    rw [mem_tstb] at h1
    obtain ⟨i, hi, bi⟩ := row_pos.mp h2
    obtain ⟨j, hj, bj⟩ := row_lt.mp h3
    exact mem_noth.mpr ⟨h1.1, h1.2, ⟨_, (rep_ok hi).1, bi⟩, ⟨_, (rep_ok hj).1, bj⟩⟩
  · obtain ⟨h1, h2, _⟩ := mem_noth.mp hm
    obtain ⟨⟨i, hi, bi⟩, ⟨j, hj, bj⟩⟩ := hu
    obtain ⟨x, hx, e⟩ := o.all m (mem_tstb.mpr ⟨h1, h2⟩) (row_pos.mpr ⟨i, inU_iff.mp hi, bi⟩) (row_lt.mpr ⟨j, inU_iff.mp hj, bj⟩)
    exact ⟨x, hx, fun y hy => row_eq e (inU_iff.mp hy)⟩
end

/-! ### the value is less than the number of classes -/
theorem solv_some {M : List Nat} {B : Nat → Nat → Bool} : ∀ (n : Nat) (l : List Nat) (S : Nat → Bool), l.length ≤ n → (∀ x, S x = true → x ∈ l) → (∀ i j, S i = true → S j = true → i ≠ j → ∃ m ∈ M, B m i ≠ B m j) → Solv M B (fun _ => 1) S (n - 1) := by
  intro n
  induction n with
  | zero =>
    intro l S hl hS _
    have : l = [] := List.eq_nil_of_length_eq_zero (by omega)
    subst this
    exact .done fun i j hi _ => absurd (hS i hi) (by simp)
  | succ n ih =>
    intro l S hl hS hsep
    by_cases f : Few S
    · exact .done f
    · have : ∃ i j, S i = true ∧ S j = true ∧ i ≠ j := by
        apply Classical.byContradiction
        intro no
        exact f fun i j hi hj => Classical.byContradiction fun ne => no ⟨i, j, hi, hj, ne⟩
      obtain ⟨i, j, hi, hj, ne⟩ := this
      obtain ⟨m, hm, nb⟩ := hsep i j hi hj ne
      have two : ∃ a b, S a = true ∧ S b = true ∧ B m a = true ∧ B m b = false := by
        cases e1 : B m i with
        | true =>
          cases e2 : B m j with
          | true => rw [e1, e2] at nb; exact absurd rfl nb
          | false => exact ⟨i, j, hi, hj, e1, e2⟩
        | false =>
          cases e2 : B m j with
          | true => exact ⟨j, i, hj, hi, e2, e1⟩
          | false => rw [e1, e2] at nb; exact absurd rfl nb
      obtain ⟨a, b, ha, hb, ba, bb⟩ := two
      have hla := hS a ha
      have hlb := hS b hb
      have n0 : n ≠ 0 := by
        rintro rfl
        have hne : a ≠ b := by rintro rfl; rw [ba] at bb; cases bb
        match l, hl, hla, hlb with
        | [x], _, p, q => simp at p q; exact hne (p.trans q.symm)
        | [], _, p, _ => simp at p
      refine .ask m (n - 1) hm ⟨⟨a, ha, ba⟩, ⟨b, hb, bb⟩⟩ (by omega) (ih (l.erase b) _ ?_ (fun x hx => ?_) fun x y hx hy => hsep x y (cutB_iff.mp hx).1 (cutB_iff.mp hy).1) (ih (l.erase a) _ ?_ (fun x hx => ?_) fun x y hx hy => hsep x y (cutW_iff.mp hx).1 (cutW_iff.mp hy).1)
      · rw [List.length_erase_of_mem hlb]; omega
      · rw [cutB_iff] at hx
        have : x ≠ b := by rintro rfl; rw [hx.2] at bb; cases bb
        exact (List.mem_erase_of_ne this).mpr (hS x hx.1)
      · rw [List.length_erase_of_mem hla]; omega
      · rw [cutW_iff] at hx
        have : x ≠ a := by rintro rfl; rw [hx.2] at ba; cases ba
        exact (List.mem_erase_of_ne this).mpr (hS x hx.1)
theorem val_lt {h : Hist} {sk : List Nat} {d : Nat} (v : IsVal (testsM h sk (clsM h sk)) (Bm h (clsM h sk)) (inU (clsM h sk).length) d) : d ≤ (clsM h sk).length - 1 :=
  v.2 _ (solv_some _ (List.range (clsM h sk).length) _ (by simp) (fun x hx => by rw [List.mem_range]; exact inU_iff.mp hx) fun i j hi hj ne => tests_sep (inU_iff.mp hi) (inU_iff.mp hj) ne)

/-! ### the long chains -/
def chain (n : Nat) : Hist := (List.range n).map fun k => if k = 0 then [] else [k - 1]
theorem chain_len (n : Nat) : (chain n).length = n := by simp [chain]
theorem chain15 : (clsM (chain 15) []).length = 15 := by decide +kernel
theorem chain14 : (clsM (chain 14) []).length = 14 := by decide +kernel
theorem chain14_tests : testsM (chain 14) [] (clsM (chain 14) []) = List.range 13 := by decide +kernel
theorem chain14_B : ∀ m, m < 13 → ∀ j, j < 14 → Bm (chain 14) (clsM (chain 14) []) m j = decide (j ≤ m) := by decide +kernel
theorem solv_span {B : Nat → Nat → Bool} (hB : ∀ m, m < 13 → ∀ j, j < 14 → B m j = decide (j ≤ m)) : ∀ (d a : Nat) (S : Nat → Bool), (∀ j, S j = true → a ≤ j ∧ j < a + 2 ^ d ∧ j < 14) → Solv (List.range 13) B (fun _ => 1) S d := by
  intro d
  induction d with
  | zero =>
    intro a S hS
    exact .done fun i j hi hj => by have := hS i hi; have := hS j hj; simp at *; omega
  | succ d ih =>
    intro a S hS
    have e2 : 2 ^ (d + 1) = 2 ^ d + 2 ^ d := by rw [Nat.pow_succ]; omega
    have p2 : 1 ≤ 2 ^ d := Nat.one_le_two_pow
    by_cases hm : a + 2 ^ d - 1 < 13
    · refine Solv.ask' (m := a + 2 ^ d - 1) (p := d) (List.mem_range.mpr hm) (by omega) (ih a _ fun j hj => ?_) (ih (a + 2 ^ d) _ fun j hj => ?_)
      · rw [cutB_iff] at hj
        obtain ⟨h1, h2, h3⟩ := hS j hj.1
        have := hj.2
        rw [hB _ hm j h3] at this
        simp at this
        exact ⟨h1, by omega, h3⟩
      · rw [cutW_iff] at hj
        obtain ⟨h1, h2, h3⟩ := hS j hj.1
        have := hj.2
        rw [hB _ hm j h3] at this
        simp at this
        exact ⟨by omega, by omega, h3⟩
    · exact (ih a S fun j hj => by obtain ⟨h1, h2, h3⟩ := hS j hj; exact ⟨h1, by omega, h3⟩).mono (by omega)
theorem chain14_val {d : Nat} (v : IsVal (testsM (chain 14) [] (clsM (chain 14) [])) (Bm (chain 14) (clsM (chain 14) [])) (inU (clsM (chain 14) []).length) d) : d = 4 := by
  have up := v.2 4 (by
    rw [chain14_tests, chain14]
    exact solv_span chain14_B 4 0 _ fun j hj => by have := inU_iff.mp hj; exact ⟨by omega, by omega, this⟩)
  have low := solv_count v.1 (List.range 14) List.nodup_range fun x hx => by rw [chain14]; exact inU_iff.mpr (List.mem_range.mp hx)
  rw [List.length_range] at low
  have : d ≠ 0 ∧ d ≠ 1 ∧ d ≠ 2 ∧ d ≠ 3 := by
    refine ⟨?_, ?_, ?_, ?_⟩ <;> (rintro rfl; simp at low)
  omega
end K26

/-! The states as lists of truths, and what the search finds; plain Lean. -/
namespace K26
/-- the state's numbers: which classes are in -/
def stS (S : List Bool) : Nat → Bool := fun j => S.getD j false
def lowL (S : List Bool) (r : List Nat) : List Bool := (List.range S.length).map fun k => S.getD k false && !r.contains k
def notIn (n : Nat) (r : List Nat) : List Nat := (List.range n).filter fun k => !r.contains k
def onesL (S : List Bool) : List Nat := (List.range S.length).filter fun k => S.getD k false
def useL (S : List Bool) (row : List Nat) : Bool := decide (0 < ((onesL S).filter fun k => row.contains k).length) && decide (((onesL S).filter fun k => row.contains k).length < (onesL S).length)
/-- the row of a test -/
def rowB (B : Nat → Nat → Bool) (n m : Nat) : List Nat := (List.range n).filter (B m)
theorem lowL_len (S : List Bool) (r : List Nat) : (lowL S r).length = S.length := by simp [lowL]
theorem stS_lt {S : List Bool} {j : Nat} (h : stS S j = true) : j < S.length := by
  unfold stS at h
  rw [List.getD_eq_getElem?_getD] at h
  cases e : S[j]? with
  | none => rw [e] at h; cases h
  | some b => exact (List.getElem?_eq_some_iff.mp e).1
theorem stS_low (S : List Bool) (r : List Nat) (j : Nat) : stS (lowL S r) j = (stS S j && !r.contains j) := by
  by_cases hj : j < S.length
  · unfold lowL stS
    rw [List.getD_eq_getElem?_getD, List.getElem?_map, List.getElem?_range hj]
    rfl
  · have e1 : stS S j = false := by
      cases e : stS S j with
      | false => rfl
      | true => exact absurd (stS_lt e) hj
    have e2 : stS (lowL S r) j = false := by
      cases e : stS (lowL S r) j with
      | false => rfl
      | true => exact absurd (lowL_len S r ▸ stS_lt e) hj
    rw [e1, e2]; rfl
theorem mem_rowB {B : Nat → Nat → Bool} {n m j : Nat} : (rowB B n m).contains j = (decide (j < n) && B m j) := by
  rw [Bool.eq_iff_iff, List.contains_iff_mem]
  unfold rowB
  rw [List.mem_filter, List.mem_range]
  simp
theorem low_W {S : List Bool} {B : Nat → Nat → Bool} {m : Nat} : stS (lowL S (rowB B S.length m)) = cutW B m (stS S) := by
  funext j
  rw [stS_low, mem_rowB]
  unfold cutW
  cases e : stS S j with
  | false => rfl
  | true => simp [decide_eq_true (stS_lt e)]
theorem low_B {S : List Bool} {B : Nat → Nat → Bool} {m : Nat} : stS (lowL S (notIn S.length (rowB B S.length m))) = cutB B m (stS S) := by
  funext j
  rw [stS_low]
  unfold cutB
  cases e : stS S j with
  | false => rfl
  | true =>
    have hj := stS_lt e
    have : (notIn S.length (rowB B S.length m)).contains j = !B m j := by
      rw [Bool.eq_iff_iff, List.contains_iff_mem]
      unfold notIn
      rw [List.mem_filter, List.mem_range, mem_rowB, decide_eq_true hj, Bool.true_and]
      exact ⟨fun z => z.2, fun z => ⟨hj, z⟩⟩
    rw [this, Bool.not_not]
theorem mem_ones {S : List Bool} {j : Nat} : j ∈ onesL S ↔ stS S j = true := by
  unfold onesL
  rw [List.mem_filter, List.mem_range]
  exact ⟨fun z => z.2, fun z => ⟨stS_lt z, z⟩⟩
theorem ones_nodup (S : List Bool) : (onesL S).Nodup := List.nodup_range.filter _
theorem few_iff {S : List Bool} : (onesL S).length ≤ 1 ↔ Few (stS S) := by
  constructor
  · intro h i j hi hj
    have mi := mem_ones.mpr hi
    have mj := mem_ones.mpr hj
    match e : onesL S, h, mi, mj with
    | [], _, mi, _ => simp at mi
    | [a], _, mi, mj => simp at mi mj; rw [mi, mj]
    | _ :: _ :: _, h, _, _ => simp at h
  · intro f
    have nd := ones_nodup S
    match e : onesL S, nd with
    | [], _ => simp
    | [_], _ => simp
    | a :: b :: r, nd =>
      have ha : stS S a = true := mem_ones.mp (by rw [e]; simp)
      have hb : stS S b = true := mem_ones.mp (by rw [e]; simp)
      have := f a b ha hb
      subst this
      simp at nd
theorem use_iff {S : List Bool} {B : Nat → Nat → Bool} {m : Nat} : useL S (rowB B S.length m) = true ↔ Useful B m (stS S) := by
  unfold useL
  rw [Bool.and_eq_true, decide_eq_true_eq, decide_eq_true_eq]
  unfold Useful
  refine and_congr ?_ ?_
  · constructor
    · intro hp
      obtain ⟨x, hx⟩ := List.exists_mem_of_length_pos hp
      rw [List.mem_filter, mem_ones, mem_rowB, Bool.and_eq_true] at hx
      exact ⟨x, hx.1, hx.2.2⟩
    · rintro ⟨j, hj, hb⟩
      refine List.length_pos_of_mem (a := j) ?_
      rw [List.mem_filter, mem_ones, mem_rowB, Bool.and_eq_true]
      exact ⟨hj, decide_eq_true (stS_lt hj), hb⟩
  · rw [List.length_filter_lt_length_iff_exists]
    constructor
    · rintro ⟨x, hx, nx⟩
      rw [mem_ones] at hx
      rw [mem_rowB, decide_eq_true (stS_lt hx), Bool.true_and, Bool.not_eq_true] at nx
      exact ⟨x, hx, nx⟩
    · rintro ⟨j, hj, hb⟩
      refine ⟨j, mem_ones.mpr hj, ?_⟩
      rw [mem_rowB, hb]; simp
theorem ones_lowW {S : List Bool} {B : Nat → Nat → Bool} {m : Nat} (u : Useful B m (stS S)) : (onesL (lowL S (rowB B S.length m))).length < (onesL S).length := by
  have e : onesL (lowL S (rowB B S.length m)) = (onesL S).filter fun k => !B m k := by
    unfold onesL
    rw [lowL_len, List.filter_filter]
    refine List.filter_congr fun k hk => ?_
    have := congrFun (low_W (S := S) (B := B) (m := m)) k
    unfold stS cutW at this
    rw [this, Bool.and_comm]
  rw [e, List.length_filter_lt_length_iff_exists]
  obtain ⟨j, hj, hb⟩ := u.1
  exact ⟨j, mem_ones.mpr hj, by rw [hb]; simp⟩
theorem ones_lowB {S : List Bool} {B : Nat → Nat → Bool} {m : Nat} (u : Useful B m (stS S)) : (onesL (lowL S (notIn S.length (rowB B S.length m)))).length < (onesL S).length := by
  have e : onesL (lowL S (notIn S.length (rowB B S.length m))) = (onesL S).filter fun k => B m k := by
    unfold onesL
    rw [lowL_len, List.filter_filter]
    refine List.filter_congr fun k hk => ?_
    have := congrFun (low_B (S := S) (B := B) (m := m)) k
    unfold stS cutB at this
    rw [this, Bool.and_comm]
  rw [e, List.length_filter_lt_length_iff_exists]
  obtain ⟨j, hj, hb⟩ := u.2
  exact ⟨j, mem_ones.mpr hj, by rw [hb]; simp⟩
/-- any two that are in are parted by a test -/
def Sep (M : List Nat) (B : Nat → Nat → Bool) (S : Nat → Bool) : Prop := ∀ i j, S i = true → S j = true → i ≠ j → ∃ m ∈ M, B m i ≠ B m j
theorem Sep.sub {M B S S'} (h : Sep M B S) (hs : ∀ j, S' j = true → S j = true) : Sep M B S' := fun i j hi hj => h i j (hs i hi) (hs j hj)
/-- the best of the first tests -/
def Best (M : List Nat) (B : Nat → Nat → Bool) (S : Nat → Bool) (i : Nat) (best : Int) : Prop :=
  (best = -1 ∧ ∀ m ∈ M.take i, ¬ Useful B m S) ∨ ∃ b : Nat, best = b ∧ Solv M B (fun _ => 1) S b ∧ ∀ m ∈ M.take i, Useful B m S → ∀ p, Solv M B (fun _ => 1) (cutB B m S) p → Solv M B (fun _ => 1) (cutW B m S) p → b ≤ 1 + p
theorem take_mem {M : List Nat} {i m x : Nat} (hm : M[i]? = some m) : x ∈ M.take (i + 1) ↔ x ∈ M.take i ∨ x = m := by
  rw [List.take_add_one, hm, List.mem_append]
  simp
theorem best_skip {M B S i best m} (b : Best M B S i best) (hm : M[i]? = some m) (nu : ¬ Useful B m S) : Best M B S (i + 1) best := by
  rcases b with ⟨e, h⟩ | ⟨b, e, s, h⟩
  · refine .inl ⟨e, fun x hx => ?_⟩
    rcases (take_mem hm).mp hx with z | z
    · exact h x z
    · exact z ▸ nu
  · refine .inr ⟨b, e, s, fun x hx u => ?_⟩
    rcases (take_mem hm).mp hx with z | z
    · exact h x z u
    · exact absurd (z ▸ u) nu
theorem best_take {M B S i best m d1 d2} (b : Best M B S i best) (hm : M[i]? = some m) (u : Useful B m S) (v1 : IsVal M B (cutB B m S) d1) (v2 : IsVal M B (cutW B m S) d2) :
    (best < 0 ∨ (1 + (max d1 d2 : Nat) : Int) < best → Best M B S (i + 1) (1 + (max d1 d2 : Nat))) ∧ (¬ (best < 0 ∨ (1 + (max d1 d2 : Nat) : Int) < best) → Best M B S (i + 1) best) := by
  have mm : m ∈ M := List.mem_of_getElem? hm
  have sv : Solv M B (fun _ => 1) S (1 + max d1 d2) := .ask m (max d1 d2) mm u rfl (v1.1.mono (Nat.le_max_left _ _)) (v2.1.mono (Nat.le_max_right _ _))
  have low : ∀ p, Solv M B (fun _ => 1) (cutB B m S) p → Solv M B (fun _ => 1) (cutW B m S) p → 1 + max d1 d2 ≤ 1 + p := fun p h1 h2 => by
    have := v1.2 p h1
    have := v2.2 p h2
    omega
  constructor
  · intro c
    refine .inr ⟨1 + max d1 d2, by simp, sv, fun x hx ux p h1 h2 => ?_⟩
    rcases (take_mem hm).mp hx with z | z
    · rcases b with ⟨e, h⟩ | ⟨b, e, s, h⟩
      · exact absurd ux (h x z)
      · have := h x z ux p h1 h2
        omega
    · subst z
      exact low p h1 h2
  · intro c
    rcases b with ⟨e, h⟩ | ⟨b, e, s, h⟩
    · exact absurd (.inl (by omega)) c
    · refine .inr ⟨b, e, s, fun x hx ux p h1 h2 => ?_⟩
      rcases (take_mem hm).mp hx with z | z
      · exact h x z ux p h1 h2
      · subst z
        have := low p h1 h2
        have : ¬ ((1 + (max d1 d2 : Nat) : Int) < best) := fun z => c (.inr z)
        omega
theorem best_end {M B S best} (b : Best M B S M.length best) (sp : Sep M B S) (nf : ¬ Few S) : ∃ d : Nat, best = d ∧ IsVal M B S d := by
  rw [Best, List.take_length] at b
  rcases b with ⟨e, h⟩ | ⟨d, e, s, h⟩
  · exfalso
    apply nf
    intro i j hi hj
    apply Classical.byContradiction
    intro ne
    obtain ⟨m, hm, nb⟩ := sp i j hi hj ne
    refine h m hm ?_
    cases e1 : B m i with
    | true =>
      cases e2 : B m j with
      | true => rw [e1, e2] at nb; exact absurd rfl nb
      | false => exact ⟨⟨i, hi, e1⟩, ⟨j, hj, e2⟩⟩
    | false =>
      cases e2 : B m j with
      | true => exact ⟨⟨j, hj, e2⟩, ⟨i, hi, e1⟩⟩
      | false => rw [e1, e2] at nb; exact absurd rfl nb
  · refine ⟨d, e, s, fun x hx => ?_⟩
    cases hx with
    | done f => exact absurd f nf
    | ask m p hm hu he h1 h2 =>
      have := h m hm hu p h1 h2
      omega
theorem few_val {M B S} (f : Few S) : IsVal M B S 0 := ⟨.done f, fun _ _ => Nat.zero_le _⟩
/-! ### how many there can be -/
theorem nodup_le : ∀ (N : Nat) (l : List Nat), l.Nodup → (∀ x ∈ l, x < N) → l.length ≤ N
  | 0, l, _, h => by
    cases l with
    | nil => simp
    | cons a r => exact absurd (h a (by simp)) (by omega)
  | N + 1, l, hn, h => by
    have ih := nodup_le N (l.filter fun x => decide (x ≠ N)) (hn.filter _) fun x hx => by
      rw [List.mem_filter, decide_eq_true_eq] at hx
      have := h x hx.1
      omega
    by_cases hm : N ∈ l
    · have e : l.erase N = l.filter fun x => decide (x ≠ N) := by
        rw [hn.erase_eq_filter]
        refine List.filter_congr fun x _ => ?_
        by_cases z : x = N <;> simp [bne, z]
      have := List.length_erase_of_mem hm
      rw [e] at this
      omega
    · have e : (l.filter fun x => decide (x ≠ N)) = l := List.filter_eq_self.mpr fun x hx => decide_eq_true fun z => hm (z ▸ hx)
      rw [e] at ih
      omega
theorem nodup_code {α : Type} {l : List α} {N : Nat} (code : α → Nat) (hn : l.Nodup) (hi : ∀ x ∈ l, ∀ y ∈ l, code x = code y → x = y) (hb : ∀ x ∈ l, code x < N) : l.length ≤ N := by
  have := nodup_le N (l.map code) ?_ fun x hx => by
    obtain ⟨y, hy, rfl⟩ := List.mem_map.mp hx
    exact hb y hy
  · rw [List.length_map] at this; exact this
  · rw [List.Nodup, List.pairwise_map]
    exact (List.Pairwise.and_mem.mp hn).imp fun {a b} h e => h.2.2 (hi a h.1 b h.2.1 e)
def bits : List Bool → Nat
  | [] => 0
  | b :: r => (if b then 1 else 0) + 2 * bits r
theorem bits_lt : ∀ l : List Bool, bits l < 2 ^ l.length
  | [] => by simp [bits]
  | b :: r => by
    have := bits_lt r
    rw [bits, List.length_cons, Nat.pow_succ]
    split <;> omega
theorem bits_inj : ∀ a b : List Bool, a.length = b.length → bits a = bits b → a = b
  | [], [], _, _ => rfl
  | [], _ :: _, h, _ => by simp at h
  | _ :: _, [], h, _ => by simp at h
  | x :: a, y :: b, h, e => by
    rw [bits, bits] at e
    have hl : a.length = b.length := by simpa using h
    cases x <;> cases y <;> simp at e
    · rw [bits_inj a b hl (by omega)]
    · omega
    · omega
    · rw [bits_inj a b hl (by omega)]
end K26

set_option Elab.async false
set_option linter.all false
set_option maxRecDepth 100000
set_option maxHeartbeats 4000000
/-! The base of the walk: the text by places, what stands in the heap, short rules. -/
namespace K26
open PySem PySem.Spec PyProof.Rows L2
def top (i : Nat) : Stmt := PySem.Challenge.pw_firstbreak_k26_fewest_by_all_tests.main.body.getD i (.Pass ⟨0, 0, 0, 0⟩)
abbrev s_ancestors : Stmt := top 4
abbrev s_testable : Stmt := top 6
abbrev s_classes : Stmt := top 7
abbrev s_broken_by : Stmt := top 8
abbrev s_tests : Stmt := top 9
abbrev s_start : Stmt := top 11
abbrev s_lowered : Stmt := top 12
abbrev s_against_row : Stmt := top 13
abbrev s_check_size : Stmt := top 16
abbrev s_rows_of : Stmt := top 17
abbrev s_ones_in : Stmt := top 18
abbrev s_is_useful : Stmt := top 19
abbrev s_both_after : Stmt := top 20
abbrev s_value : Stmt := top 21
abbrev s_fewest_from : Stmt := top 22
abbrev s_fewest : Stmt := top 23
abbrev s_fewest_by_make : Stmt := top 25
abbrev s_L_cell : Stmt := top 27
abbrev s_L_digits : Stmt := top 28
abbrev s_L_draw : Stmt := top 29
abbrev s_L_parents : Stmt := top 30
abbrev s_L_history : Stmt := top 31
abbrev s_L_above : Stmt := top 32
abbrev s_L_breaks : Stmt := top 33
abbrev s_L_skips : Stmt := top 34
abbrev s_L_classes : Stmt := top 35
abbrev s_L_alive : Stmt := top 36
abbrev s_L_key : Stmt := top 37
abbrev s_L_told : Stmt := top 38
abbrev s_L_long_chain : Stmt := top 39
abbrev s_L_asked : Stmt := top 40
abbrev s_law : Stmt := top 41
/-- a def of the text at f -/
abbrev FnP (K : PySem.W.Frag) (x : PySem.Str) (st : Stmt) (f : Addr) (fd : FuncData) : Prop := FunD K x x (defArgs st) (defBody st) (defScope st) [] [] f fd
/-- the built-ins that the program calls are the built-ins -/
structure Blt (mg : PySem.Str → Option Value) : Prop where
  len : mg "len" = none
  range : mg "range" = none
  tuple : mg "tuple" = none
  sorted : mg "sorted" = none
  max : mg "max" = none
  int : mg "int" = none
  set : mg "set" = none
  dict : mg "dict" = none
/-- a def ready to be called by its name -/
structure Fn (P : Program) (w : World) (K : PySem.W.Frag) (mg : PySem.Str → Option Value) (base : Heap) (CX : CXT) (k : Nat) (x : PySem.Str) (ps : List PySem.Str) (sp : Sp) : Prop where
  ex : ∃ f fd, mg x = some (.ref f) ∧ PySem.W.keepIn K (.ref f) = true ∧ Binds K fd ps [] ∧ FnOk P w K mg base CX k f fd ps sp
section
variable {X : Cx} {CX : CXT} {k : Nat} {ps : List PySem.Str} {sp : Sp} {E : XK} {x : PySem.Str} {p pos : Pos} {e : Expr} {es : List Expr} {t : TA}
theorem pe_fn (F : Fn X.prog X.w X.K X.mg X.base CX k x ps sp) (hr : Room k X.A) (hx : Passes CX X E) (ha : PA X (e :: es) t) (hg : Gl X x := by rfl) (hdb : (x == ("__debug__" : PySem.Str)) = false := by decide) (he : starEach (e :: es) X.env = (false, eval e X.env) :: starEach es X.env := by rfl)
    (hpl : (backTo pos (starEach es X.env)).any (·.1) = false := by rfl) : PE X (.Call (.Name x p) (e :: es) [] pos) (tCall sp [] E t) := by
  obtain ⟨f, fd, hm, kp, b, G⟩ := F.ex
  exact pe_call G hr hg hm kp b .nil hx ha hdb he hpl
theorem pe_fnS {E : L2.St → XK} (F : Fn X.prog X.w X.K X.mg X.base CX k x ps sp) (hr : Room k X.A) (hx : ∀ σ, PassesAt CX X σ (E σ)) (ha : PA X (e :: es) t) (hg : Gl X x := by rfl) (hdb : (x == ("__debug__" : PySem.Str)) = false := by decide) (he : starEach (e :: es) X.env = (false, eval e X.env) :: starEach es X.env := by rfl)
    (hpl : (backTo pos (starEach es X.env)).any (·.1) = false := by rfl) : PE X (.Call (.Name x p) (e :: es) [] pos) (tCallS sp E t) := by
  obtain ⟨f, fd, hm, kp, b, G⟩ := F.ex
  exact pe_callS G hr hg hm kp b hx ha hdb he hpl
end
theorem Fn.imp {P : Program} {w : World} {K : PySem.W.Frag} {mg : PySem.Str → Option Value} {base : Heap} {CX : CXT} {k : Nat} {x : PySem.Str} {ps : List PySem.Str} {sp sp' : Sp} (F : Fn P w K mg base CX k x ps sp) (h : ∀ vs H Q E, sp' vs H Q E → sp vs H Q E) : Fn P w K mg base CX k x ps sp' := by
  obtain ⟨f, fd, hm, kp, b, G⟩ := F.ex
  exact ⟨f, fd, hm, kp, b, G.imp h⟩

/-! ### rules whose readings name K alone (for a comprehension's block) -/
section
variable {X : Cx}
theorem o_in (K : PySem.W.Frag) (hK : X.K = K := by rfl) : OpR X (compareOp .In) (rIn K false) := hK ▸ op_in_seq
theorem o_ni (K : PySem.W.Frag) (hK : X.K = K := by rfl) : OpR X (compareOp .NotIn) (rIn K true) := hK ▸ op_notIn_seq
theorem x_tup (K : PySem.W.Frag) (hK : X.K = K := by rfl) : IxR X (rIxT K) := hK ▸ ix_tup
theorem x_lst (K : PySem.W.Frag) (hK : X.K = K := by rfl) : IxR X (rIxL K) := hK ▸ ix_list
theorem o_eqD (K : PySem.W.Frag) (hu : X.A.units + 64 < cLine) (hK : X.K = K := by rfl) : OpR X (compareOp .Eq) (rEqD K) := hK ▸ op_eqD hu
def rTupOf (K : PySem.W.Frag) : List V → Hp → VK → Prop := fun xs H Q => ∃ p ys, xs = [.ref p] ∧ ((SqL K H p ys ∧ ∀ l, H l = none → Q (.ref l) (upd H l (.tup ys))) ∨ (SqT K H p ys ∧ Q (.ref p) H))
theorem c_tup (K : PySem.W.Frag) (hK : X.K = K := by rfl) : CallR X (.type "tuple") (rTupOf K) := by subst hK; exact call_tuple_of
end

/-! ### ints -/
abbrev iv (n : Nat) : V := .int (n : Int)
theorem inV_iv (k : Nat) : ∀ l : List Nat, inV (iv k) (l.map iv) = l.contains k
  | [] => rfl
  | a :: l => by
    have ih := inV_iv k l
    unfold inV at ih ⊢
    rw [List.map_cons, List.any_cons, List.contains_cons, ih]
    congr 1
    show ((a : Int) == (k : Int)) = (k == a)
    rw [Bool.eq_iff_iff]
    simp only [beq_iff_eq]
    omega
theorem inV_int (k : Int) : ∀ l : List Int, inV (.int k) (l.map V.int) = l.contains k
  | [] => rfl
  | a :: l => by
    have ih := inV_int k l
    unfold inV at ih ⊢
    rw [List.map_cons, List.any_cons, List.contains_cons, ih]
    congr 1
    show (a == k) = (k == a)
    rw [Bool.eq_iff_iff]
    simp only [beq_iff_eq]
    exact eq_comm
theorem flat_iv : ∀ l : List Nat, (l.map iv).all flatV = true
  | [] => rfl
  | _ :: l => flat_iv l
theorem flat_int : ∀ l : List Int, (l.map V.int).all flatV = true
  | [] => rfl
  | _ :: l => flat_int l
theorem ivs_int (l : List Nat) : l.map iv = (l.map fun n : Nat => (n : Int)).map V.int := by rw [List.map_map]; rfl
theorem szl {n : Nat} (h : n ≤ 16777216) : n ≤ sizeLine := by rw [sizeLine_eq]; exact h
theorem szl' {n : Nat} (h : n < 16777216) : n < sizeLine := by rw [sizeLine_eq]; exact h

/-! ### heaps -/
theorem same_new {H : Hp} {p : Addr} {o : HO} (h : H p = none) : Same H (upd H p o) := fun b x e => by
  rw [upd_ne (ne_of_none e h)]
  exact e
theorem _root_.L2.Same.nw {H H' : Hp} {p : Addr} {o : HO} (s : Same H H') (h : H' p = none) : Same H (upd H' p o) := s.trans (same_new h)
/-- what was not there ahead of H may be written -/
theorem _root_.L2.Same.ow {H H' : Hp} {p : Addr} {o : HO} (s : Same H H') (h : H p = none) : Same H (upd H' p o) := fun b x e => by
  rw [upd_ne (ne_of_none e h)]
  exact s b x e
theorem _root_.L2.Same.tp {K : PySem.W.Frag} {H H' : Hp} {a : Addr} {xs : List V} (e : Same H H') (h : SqT K H a xs) : SqT K H' a xs := by
  rcases h with (h | ⟨o, h⟩) | h
  · exact .inl (.inl (e _ _ h))
  · exact .inl (.inr ⟨o, e _ _ h⟩)
  · exact .inr h

/-! ### what stands where -/
/-- a tuple of ints -/
def TupN (H : Hp) (v : V) (l : List Nat) : Prop := ∃ a, v = .ref a ∧ H a = some (.tup (l.map iv))
theorem TupN.same {H H' : Hp} {v : V} {l : List Nat} (t : TupN H v l) (s : Same H H') : TupN H' v l := by
  obtain ⟨a, e, h⟩ := t
  exact ⟨a, e, s _ _ h⟩
/-- one make: its name, its parents -/
def MkAt (H : Hp) (b : Addr) (ps : List Nat) : Prop := ∃ nm p, H b = some (.tup [.str nm, .ref p]) ∧ H p = some (.tup (ps.map iv))
/-- a history -/
def HistAt (H : Hp) (v : V) (h : Hist) : Prop := ∃ a m bs, v = .ref a ∧ H a = some (.tup [.str "history", .ref m]) ∧ H m = some (.tup (bs.map V.ref)) ∧ Paired (MkAt H) bs h
theorem _root_.PySem.Paired.imp26 {α β : Type} {R S : α → β → Prop} : ∀ {l : List α} {r : List β}, Paired R l r → (∀ a b, R a b → S a b) → Paired S l r
  | _, _, .nil, _ => .nil
  | _, _, .cons x t, f => .cons (f _ _ x) (PySem.Paired.imp26 t f)
theorem _root_.PySem.Paired.getR26 {α β : Type} {R : α → β → Prop} : ∀ {l : List α} {r : List β} {i : Nat} {y : β}, Paired R l r → r[i]? = some y → ∃ x, l[i]? = some x ∧ R x y
  | _, _, _, _, .nil, h => by simp at h
  | _, _, 0, _, .cons x t, h => by simp at h; subst h; exact ⟨_, rfl, x⟩
  | _, _, i + 1, y, .cons x t, h => by
    obtain ⟨z, h1, h2⟩ := PySem.Paired.getR26 (i := i) (y := y) t (by simpa using h)
    exact ⟨z, by simpa using h1, h2⟩
theorem _root_.PySem.Paired.getL26 {α β : Type} {R : α → β → Prop} : ∀ {l : List α} {r : List β} {i : Nat} {x : α}, Paired R l r → l[i]? = some x → ∃ y, r[i]? = some y ∧ R x y
  | _, _, _, _, .nil, h => by simp at h
  | _, _, 0, _, .cons x t, h => by simp at h; subst h; exact ⟨_, rfl, x⟩
  | _, _, i + 1, y, .cons x t, h => by
    obtain ⟨z, h1, h2⟩ := PySem.Paired.getL26 (i := i) (x := y) t (by simpa using h)
    exact ⟨z, by simpa using h1, h2⟩
theorem _root_.PySem.Paired.snoc26 {α β : Type} {R : α → β → Prop} : ∀ {l : List α} {r : List β} {a : α} {b : β}, Paired R l r → R a b → Paired R (l ++ [a]) (r ++ [b])
  | _, _, _, _, .nil, h => .cons h .nil
  | _, _, _, _, .cons x t, h => .cons x (PySem.Paired.snoc26 t h)
theorem MkAt.same {H H' : Hp} {b : Addr} {ps : List Nat} (s : Same H H') (h : MkAt H b ps) : MkAt H' b ps := by
  obtain ⟨nm, p, h1, h2⟩ := h
  exact ⟨nm, p, s _ _ h1, s _ _ h2⟩
theorem HistAt.same {H H' : Hp} {v : V} {h : Hist} (t : HistAt H v h) (s : Same H H') : HistAt H' v h := by
  obtain ⟨a, m, bs, e, h1, h2, h3⟩ := t
  exact ⟨a, m, bs, e, s _ _ h1, s _ _ h2, h3.imp26 fun _ _ => MkAt.same s⟩
/-- tuples of ints at some addresses -/
def TupA (H : Hp) (b : Addr) (l : List Nat) : Prop := H b = some (.tup (l.map iv))
/-- a tuple of tuples of ints -/
def TTup (H : Hp) (v : V) (ls : List (List Nat)) : Prop := ∃ a bs, v = .ref a ∧ H a = some (.tup (bs.map V.ref)) ∧ Paired (TupA H) bs ls
theorem TTup.same {H H' : Hp} {v : V} {ls : List (List Nat)} (t : TTup H v ls) (s : Same H H') : TTup H' v ls := by
  obtain ⟨a, bs, e, h1, h2⟩ := t
  exact ⟨a, bs, e, s _ _ h1, h2.imp26 fun _ _ h => s _ _ h⟩
/-- small histories -/
def Small (h : Hist) : Prop := h.length ≤ 24 ∧ ∀ ps ∈ h, ps.length ≤ 24
/-! ### data, compared deep -/
def bD (l : List Bool) : PyData := .list (l.map .bool)
def nD (l : List Nat) : PyData := .list (l.map fun n => .int (n : Nat))
theorem lay_map {α : Type} {f : α → PyData} (hf : ∀ x, (f x).canLay0 = true) : ∀ l : List α, PyData.canLayAll0 (l.map f) = true
  | [] => rfl
  | x :: l => by rw [List.map_cons, PyData.canLayAll0, hf x, lay_map hf l]; rfl
theorem depth_map {α : Type} {f : α → PyData} {d : Nat} (hf : ∀ x, (f x).depth ≤ d) : ∀ l : List α, PyData.depthAll (l.map f) ≤ d
  | [] => Nat.zero_le _
  | x :: l => by rw [List.map_cons, PyData.depthAll]; exact Nat.max_le.mpr ⟨hf x, depth_map hf l⟩
theorem bD_lay (l : List Bool) : (bD l).canLay0 = true := by unfold bD; rw [PyData.canLay0]; exact lay_map (fun _ => rfl) l
theorem nD_lay (l : List Nat) : (nD l).canLay0 = true := by unfold nD; rw [PyData.canLay0]; exact lay_map (fun _ => rfl) l
theorem bD_depth (l : List Bool) : (bD l).depth ≤ 2 := by
  unfold bD; rw [PyData.depth]
  have := depth_map (f := PyData.bool) (d := 1) (fun _ => by simp [PyData.depth]) l
  omega
theorem nD_depth (l : List Nat) : (nD l).depth ≤ 2 := by
  unfold nD; rw [PyData.depth]
  have := depth_map (f := fun n : Nat => PyData.int (n : Nat)) (d := 1) (fun _ => by simp [PyData.depth]) l
  omega
theorem shaped_bD (l : List Bool) : SeqAt.shaped (bD l) = true := by unfold SeqAt.shaped; rw [bD_lay, decide_eq_true (by have := bD_depth l; omega)]; rfl
theorem shaped_nD (l : List Nat) : SeqAt.shaped (nD l) = true := by unfold SeqAt.shaped; rw [nD_lay, decide_eq_true (by have := nD_depth l; omega)]; rfl
theorem shaped_bDs (ls : List (List Bool)) : SeqAt.shaped (.list (ls.map bD)) = true := by
  unfold SeqAt.shaped
  rw [PyData.canLay0, lay_map bD_lay ls, PyData.depth, decide_eq_true (by have := depth_map bD_depth ls; omega)]
  rfl
theorem shaped_nDs (ls : List (List Nat)) : SeqAt.shaped (.list (ls.map nD)) = true := by
  unfold SeqAt.shaped
  rw [PyData.canLay0, lay_map nD_lay ls, PyData.depth, decide_eq_true (by have := depth_map nD_depth ls; omega)]
  rfl
theorem eqvAll_map {α : Type} [DecidableEq α] {f : α → PyData} (hf : ∀ x y, PyData.eqv (f x) (f y) = decide (x = y)) : ∀ a b : List α, PyData.eqvAll (a.map f) (b.map f) = decide (a = b)
  | [], [] => by simp [PyData.eqvAll]
  | [], _ :: _ => by simp [PyData.eqvAll]
  | _ :: _, [] => by simp [PyData.eqvAll]
  | x :: a, y :: b => by
    rw [List.map_cons, List.map_cons, PyData.eqvAll, hf, eqvAll_map hf a b, Bool.eq_iff_iff]
    simp
theorem eqv_bD (a b : List Bool) : PyData.eqv (bD a) (bD b) = decide (a = b) := by
  unfold bD; rw [PyData.eqv]
  refine eqvAll_map (fun x y => ?_) a b
  rw [PyData.eqv]
  cases x <;> cases y <;> rfl
theorem eqv_nD (a b : List Nat) : PyData.eqv (nD a) (nD b) = decide (a = b) := by
  unfold nD; rw [PyData.eqv]
  refine eqvAll_map (fun x y => ?_) a b
  rw [PyData.eqv, Bool.eq_iff_iff]
  simp only [beq_iff_eq, decide_eq_true_eq]
  omega
theorem dpAll_map {K : PySem.W.Frag} {H : Hp} {α : Type} {g : α → V} {f : α → PyData} (hf : ∀ x, Dp K H (g x) (f x)) : ∀ l : List α, DpAll K H (l.map g) (l.map f)
  | [] => .nil
  | x :: l => .cons (hf x) (dpAll_map hf l)
theorem dp_bD {K : PySem.W.Frag} {H : Hp} {a : Addr} {l : List Bool} (h : H a = some (.lst (l.map V.bl))) : Dp K H (.ref a) (bD l) := .lst (SqL.of h) (dpAll_map (fun b => .bl b) l)
theorem dp_nD {K : PySem.W.Frag} {H : Hp} {a : Addr} {l : List Nat} (h : H a = some (.lst (l.map iv))) : Dp K H (.ref a) (nD l) := .lst (SqL.of h) (dpAll_map (α := Nat) (g := iv) (f := fun n : Nat => .int (n : Nat)) (fun n => .int _) l)
/-- a list of ints, of bools, at an address -/
def LstB (H : Hp) (a : Addr) (l : List Bool) : Prop := H a = some (.lst (l.map V.bl))
def LstA (H : Hp) (a : Addr) (l : List Nat) : Prop := H a = some (.lst (l.map iv))
theorem dp_bDs {K : PySem.W.Frag} {H : Hp} : ∀ {as : List Addr} {ls : List (List Bool)}, Paired (LstB H) as ls → DpAll K H (as.map V.ref) (ls.map bD)
  | _, _, .nil => .nil
  | _, _, .cons x t => .cons (dp_bD x) (dp_bDs t)
theorem dp_nDs {K : PySem.W.Frag} {H : Hp} : ∀ {as : List Addr} {ls : List (List Nat)}, Paired (LstA H) as ls → DpAll K H (as.map V.ref) (ls.map nD)
  | _, _, .nil => .nil
  | _, _, .cons x t => .cons (dp_nD x) (dp_nDs t)
theorem any_bD (x : List Bool) (ls : List (List Bool)) : ((ls.map bD).any fun z => PyData.eqv z (bD x)) = ls.contains x := by
  rw [List.any_map, Bool.eq_iff_iff, List.any_eq_true, List.contains_iff_mem]
  constructor
  · rintro ⟨y, hy, e⟩
    have e : PyData.eqv (bD y) (bD x) = true := e
    rw [eqv_bD] at e
    exact of_decide_eq_true e ▸ hy
  · intro hx
    refine ⟨x, hx, ?_⟩
    show PyData.eqv (bD x) (bD x) = true
    rw [eqv_bD]
    exact decide_eq_true rfl
theorem any_nD (x : List Nat) (ls : List (List Nat)) : ((ls.map nD).any fun z => PyData.eqv z (nD x)) = ls.contains x := by
  rw [List.any_map, Bool.eq_iff_iff, List.any_eq_true, List.contains_iff_mem]
  constructor
  · rintro ⟨y, hy, e⟩
    have e : PyData.eqv (nD y) (nD x) = true := e
    rw [eqv_nD] at e
    exact of_decide_eq_true e ▸ hy
  · intro hx
    refine ⟨x, hx, ?_⟩
    show PyData.eqv (nD x) (nD x) = true
    rw [eqv_nD]
    exact decide_eq_true rfl

/-! ### loops over range(n) -/
theorem for_rng {n : Nat} {g : TG} {tb : TS} {D : Ends} {σ : L2.St} {H : Hp} (Pv : Nat → L2.St → Hp → Prop) (h0 : Pv 0 σ H)
    (hs : ∀ (i : Nat) σ H, i < n → Pv i σ H → g (iv i) σ H fun σ2 H2 => tb { D with nx := Pv (i + 1), ct := Pv (i + 1), bk := D.nx } σ2 H2) (hd : ∀ σ H, Pv n σ H → D.nx σ H) :
    ∃ W : Nat → Nat → L2.St → Hp → Prop, (∃ m, W 0 m σ H) ∧ ∀ i m σ H, W i m σ H →
      ((Itr 0 n).stop i H ∧ D.nx σ H) ∨ ((Itr 0 n).go i H ∧ ∃ N : L2.St → Hp → Prop, (∀ σ' H', N σ' H' → ∃ m', m' < m ∧ W (i + 1) m' σ' H') ∧ ∀ x H', (Itr 0 n).yld i H x H' → g x σ H' fun σ2 H2 => tb { D with nx := N, ct := N, bk := D.nx } σ2 H2) :=
  for_range (lo := 0) (n := n) Pv h0 (fun i σ H hi p => by
    rw [Int.zero_add]
    exact hs i σ H hi p) hd
theorem lc_rng {n : Nat} {g : TG} {tt : TT} {te : TE} {vs : List Nat} {σ : L2.St} {H1 : Hp} {D : Addr} {Qd : Hp → Prop} (Pv : Nat → Hp → Prop) (h0 : Pv 0 (upd H1 D (.lst [])))
    (hs : ∀ (i : Nat) H, i < n → Pv i H → g (iv i) (wipe σ vs) H fun σ2 H2 => wipe σ2 vs = wipe σ vs ∧ tt σ2 H2 fun b H3 =>
      if b = true then te σ2 H3 fun y H4 => ∃ acc, H4 D = some (.lst acc) ∧ acc.length < sizeLine ∧ Pv (i + 1) (upd H4 D (.lst (acc ++ [y]))) else Pv (i + 1) H3) (hd : ∀ H, Pv n H → Qd H) :
    ∃ W : Nat → Nat → Hp → Prop, (∃ m, W 0 m (upd H1 D (.lst []))) ∧ ∀ i m H, W i m H →
      ((Itr 0 n).stop i H ∧ Qd H) ∨ ((Itr 0 n).go i H ∧ ∃ Nx : Hp → Prop, (∀ H', Nx H' → ∃ m', m' < m ∧ W (i + 1) m' H') ∧ ∀ x H', (Itr 0 n).yld i H x H' → g x (wipe σ vs) H' fun σ2 H2 => wipe σ2 vs = wipe σ vs ∧ tt σ2 H2 fun b H3 =>
        if b = true then te σ2 H3 fun y H4 => ∃ acc, H4 D = some (.lst acc) ∧ acc.length < sizeLine ∧ Nx (upd H4 D (.lst (acc ++ [y]))) else Nx H3) :=
  lc_range (lo := 0) (n := n) Pv h0 (fun i H hi p => by
    rw [Int.zero_add]
    exact hs i H hi p) hd
theorem getD_snoc_lt {α : Type} {l : List α} {a d : α} {j : Nat} (h : j < l.length) : (l ++ [a]).getD j d = l.getD j d := by
  rw [List.getD_eq_getElem?_getD, List.getD_eq_getElem?_getD, List.getElem?_append_left h]
theorem filter_succ (p : Nat → Bool) (n : Nat) : (List.range (n + 1)).filter p = (List.range n).filter p ++ if p n = true then [n] else [] := by
  rw [List.range_succ, List.filter_append, List.filter_cons]
  split <;> rfl
theorem fl_true {p : Nat → Bool} {n : Nat} (h : p n = true) : (List.range (n + 1)).filter p = (List.range n).filter p ++ [n] := by rw [filter_succ, if_pos h]
theorem fl_false {p : Nat → Bool} {n : Nat} (h : ¬ p n = true) : (List.range (n + 1)).filter p = (List.range n).filter p := by rw [filter_succ, if_neg h, List.append_nil]
theorem fl_le (p : Nat → Bool) (n : Nat) : ((List.range n).filter p).length ≤ n := by
  have := List.length_filter_le p (List.range n)
  rw [List.length_range] at this
  exact this
/-- len of a tuple's tuple: the places of a history -/
theorem len_refs (bs : List Addr) : (((bs.map V.ref).length : Nat) : Int) = (bs.length : Int) := by rw [List.length_map]
theorem map_take {α β : Type} (f : α → β) (l : List α) (i : Nat) : (l.take i).map f = (l.map f).take i := List.map_take
end K26

set_option Elab.async false
set_option linter.all false
set_option maxRecDepth 100000
set_option maxHeartbeats 4000000
namespace K26
open PySem PySem.Spec PyProof.Rows L2
/-! ### t * 1 -/
theorem tuple_mul1 (l : Addr) (items : Array Value) (n : Nat) (dd : Option Addr) (sl : Array (Option Value)) (u : Tok) :
    Meets (Builtin.«tuple.__mul__» ⟨[.ref l, .int 1 u], []⟩) (fun _ R s => s.heap.get? l = some { cls := .type "tuple", dict := dd, data := .seq items n, slots := sl } ∧ R (.ok (.ret (Value.ref l))) s) :=
  .of_wp fun prog w A R s h => by
    obtain ⟨hp, g, d, tk, os⟩ := s
    obtain ⟨hl, h⟩ := h
    have f1 := AutoSeq1.idx_int
    wp_walk using wpAny_loadPart' hl
    repeat (first
      | (refine wpAny_ite_true (by simp) ?_; wp_walk using wpAny_loadPart' hl)
      | (refine wpAny_ite_false (by simp) ?_; wp_walk using wpAny_loadPart' hl))
    exact ⟨_, rfl, h⟩
section
variable {X : Cx}
/-- t * k, t a tuple of one thing, k from 1 on -/
def rRep1 (K : PySem.W.Frag) : R2 := fun x y H Q => ∃ (l : Addr) (n : Nat) (e : V), x = V.ref l ∧ y = V.int n ∧ SqT K H l [e] ∧ 1 ≤ n ∧ n ≤ 1000 ∧ (n = 1 → Q (.ref l) H) ∧ (2 ≤ n → ∀ p, H p = none → Q (.ref p) (upd H p (.tup (List.replicate n e))))
theorem flat_rep {α : Type} (e : α) : ∀ n : Nat, (List.replicate n [e]).flatten = List.replicate n e
  | 0 => rfl
  | n + 1 => by rw [List.replicate_succ, List.flatten_cons, flat_rep e n]; rfl
theorem op_rep1 : OpR X (binaryOp .Mult) (rRep1 X.K) := by
  intro pins s σ H x y v u Q I rx ry h
  obtain ⟨l, n, e, rfl, rfl, hT, h1, h2, q1, q2⟩ := h
  by_cases hn : n = 1
  · subst hn
    cases rx
    obtain ⟨t, rfl⟩ := ry
    obtain ⟨its, r, ⟨⟨cls, dd, data, sl⟩, ho, hc, m, hd⟩, hs⟩ := I.tuple hT
    simp only at hc hd
    subst hc hd
    refine wpAny_binaryOp_repeat_ref (T := "tuple") (U := "int") (by decide) ⟨_, ho, rfl⟩ (fun s' => typeIs_int s' _ t) noFill_tuple_mul F.fills_int_mul F.slot_int_rmul repeat_tuple F.slot_int_index.lookup
      (call_meets F.slot_int_rmul (typeIs_int s _ t) F.entry_int_rmul (F.args_int_rmul_2 _ _) (int_rmul_tuple _ t l its.toArray m dd sl)
        ⟨ho, rfl, ⟨_, ho, rfl⟩, call_meets F.slot_tuple_mul ⟨_, ho, rfl⟩ F.entry_tuple_mul (F.args_tuple_mul_2 _ _) (tuple_mul1 l its.toArray m dd sl t) ⟨ho, ?_⟩⟩)
    exact ⟨.ref l, H, I, rfl, q1 rfl⟩
  · refine op_repT pins s σ H _ _ v u Q I rx ry ⟨l, (n : Int), [e], rfl, rfl, hT, by simp, by omega, by omega, by simp, fun p hp => ?_⟩
    have := q2 (by omega) p hp
    rw [show ((n : Int).toNat) = n from rfl, flat_rep]
    exact this

/-! ### max of a tuple of ints -/
def rMaxT (K : PySem.W.Frag) : List V → Hp → VK → Prop := fun vs H Q => ∃ (a : Addr) (n : Int) (ns : List Int), vs = [V.ref a] ∧ SqT K H a ((n :: ns).map V.int) ∧ Q (.int (ns.foldl max n)) H
theorem readsAll_ints {h : Heap} : ∀ {its : List Value} {ns : List Int}, Vals (ns.map V.int) its → ∃ as, ReadsAll h its (ns.map PyData.int) as
  | _, [], .nil => ⟨_, .nil⟩
  | _, n :: ns, .cons r t => by
    obtain ⟨k, rfl⟩ := r
    obtain ⟨as, ih⟩ := readsAll_ints (h := h) t
    exact ⟨_, .cons (.int n k) ih⟩
theorem alike_ints (ns : List Int) : PySem.W.AlikeAll (ns.map PyData.int) := by
  refine ⟨fun x hx y hy => ?_, fun x hx => ?_⟩
  · obtain ⟨i, _, rfl⟩ := List.mem_map.mp hx
    obtain ⟨j, _, rfl⟩ := List.mem_map.mp hy
    rfl
  · obtain ⟨i, _, rfl⟩ := List.mem_map.mp hx
    intro e
    cases e
theorem cr_maxT (hc : X.calm = true) (hu : X.A.units + 65 < cLine) : CallR X (.builtin "max") (rMaxT X.K) := by
  intro pins s σ H vs us Q I r h
  obtain ⟨a, n, ns, rfl, hT, q⟩ := h
  obtain ⟨its, rv, ht, hz⟩ := I.tuple hT
  rw [Vals.ref1 r]
  obtain ⟨as, hr⟩ := readsAll_ints (h := s.heap) rv
  have dp : PyData.depthAll ((n :: ns).map PyData.int) ≤ 1 := depth_map (f := PyData.int) (fun _ => by simp [PyData.depth]) _
  refine PySem.W.max_tuple_data (I.ok.hd hc) ht (x := .int n) (xs := ns.map .int) (by simpa using hr) (alike_ints (n :: ns)) (by have e : PyData.depthAll (PyData.int n :: List.map PyData.int ns) ≤ 1 := dp; omega) fun i v h' tk bs hv hrd hk => ?_
  rw [PySem.W.maxD_ints] at hrd
  cases hrd with
  | int _ t => exact ⟨.int _, H, I.kept hk, ⟨t, rfl⟩, q⟩
/-! ### raise C() of an own class without __init__ -/
theorem pmk_own0 {C : Addr} {bmB : List Value} {B newId initId : String} {x : PySem.Str} {p pos : Pos} (F : ExcBaseFacts B newId initId bmB) (q : PySem.W.excIn X.K C bmB newId = true) (gC : X.mg x = some (.ref C))
    (kC : PySem.W.keepIn X.K (.ref C) = true) (r : Raises X (.ref C)) (hg : Gl X x := by rfl) (hdb : (x == ("__debug__" : PySem.Str)) = false := by decide) :
    PMk X (.Call (.Name x p) [] [] pos) (fun _ H Q => Q (.ref C) none H) := by
  intro pins s σ H Q I h
  refine wpAny_Call_Name_kw (ld_glob I hg gC ?_ hdb)
  refine PySem.W.callWith_K0 I.kIn kC ?_
  obtain ⟨bm, N, nm, qn, bs, hdct, sn, sub, ab, col, dd, k0, k1, k2, k3, k5, mN, hC, hN, hni, T⟩ := exc_obj I.kIn q
  refine wpAny_call_exc_subT F T hC hN hni (fun h' e hm => mk_of I hm r h (I.hok.gone hm.new)) (by rw [sizeLine_eq]; simp)
end
/-- what is known of the error's class -/
structure Exc26 (K : PySem.W.Frag) (mg : PySem.Str → Option Value) (C : Addr) : Prop where
  g : mg "TooGreat" = some (.ref C)
  x : PySem.W.excIn K C [.type "ValueError", .type "Exception", .type "BaseException", .type "object"] "ValueError.__new__" = true
  k : PySem.W.keepIn K (.ref C) = true
  b : PySem.W.subIn K (.ref C) (.type "BaseException") = some true
  t : PySem.W.typeIn K (.ref C) = some (.type "type")
  e : PySem.W.exmOne K (.ref C) (.ref C) = some true
  m : ∃ t, mg "MOST_STATES" = some (.int 20000 t)
end K26

set_option Elab.async false
set_option linter.all false
set_option maxRecDepth 100000
set_option maxHeartbeats 4000000
namespace K26
open PySem PySem.Spec PyProof.Rows L2
section
variable {P : Program} {w : World} {K : PySem.W.Frag} {mg : PySem.Str → Option Value} {base : Heap} {f : Addr} {fd : FuncData}
/-! ### ancestors -/
theorem sc_ancestors : FnScope ["history", "m", "found", "k", "parent"] ["history", "m"] (defScope s_ancestors) := ⟨rfl, rfl, rfl, by decide +kernel, rfl, by decide +kernel, by decide +kernel⟩
def spAnc : Sp := fun vs H Q _ => ∃ (hv : V) (h : Hist) (m : Nat), vs = [hv, iv m] ∧ HistAt H hv h ∧ m < h.length ∧ Small h ∧
  ∀ H' p (ns : List Int), Same H H' → H' p = some (.tup (ns.map V.int)) → (∀ x : Int, x ∈ ns ↔ ∃ c : Nat, x = c ∧ anc h m c = true) → Q (.ref p) H'
/-- what is found behind i turns -/
def AncAt (h : Hist) (m i : Nat) (l : List Nat) : Prop := l.length ≤ 1 + 24 * i ∧ ∃ L : List Nat, (∀ c, c ∈ l ↔ c ∈ L) ∧ upL h (m + 1 - i) L = upL h (m + 1) [m]
theorem anc_step {h : Hist} {m i : Nat} {l l' : List Nat} (hi : i < m + 1) (a : AncAt h m i l) (hl : l'.length ≤ l.length + 24) (hm : ∀ c, c ∈ l' ↔ c ∈ l ∨ (m - i ∈ l ∧ c ∈ par h (m - i))) : AncAt h m (i + 1) l' := by
  obtain ⟨h1, L, h2, h3⟩ := a
  refine ⟨by omega, upStep h (m - i) L, fun c => ?_, ?_⟩
  · rw [hm]
    unfold upStep
    by_cases hc : m - i ∈ L
    · rw [if_pos (by rw [List.contains_iff_mem]; exact hc), List.mem_append, List.mem_filter, h2, h2]
      constructor
      · rintro (z | ⟨_, z⟩)
        · exact .inl z
        · by_cases q : c ∈ L
          · exact .inl q
          · exact .inr ⟨z, by simp [q]⟩
      · rintro (z | ⟨z, _⟩)
        · exact .inl z
        · exact .inr ⟨hc, z⟩
    · rw [if_neg (by rw [List.contains_iff_mem]; exact hc), h2, h2]
      constructor
      · rintro (z | ⟨z, _⟩)
        · exact z
        · exact absurd z hc
      · exact .inl
  · rw [← h3]
    have e : m + 1 - i = (m - i) + 1 := by omega
    rw [e]
    have e2 : m + 1 - (i + 1) = m - i := by omega
    rw [e2]
    rfl
theorem anc_end {h : Hist} {m : Nat} {l : List Nat} (a : AncAt h m (m + 1) l) (c : Nat) : c ∈ l ↔ anc h m c = true := by
  obtain ⟨_, L, h2, h3⟩ := a
  rw [Nat.sub_self] at h3
  unfold anc
  rw [← h3, List.contains_iff_mem, h2]
  rfl
/-- the makes of a history, one by one -/
theorem hist_make {H : Hp} {hv : V} {h : Hist} (hh : HistAt H hv h) {k : Nat} (hk : k < h.length) : ∃ (a m : Addr) (bs : List Addr) (b : Addr) (nm : PySem.Str) (p : Addr), hv = .ref a ∧ H a = some (.tup [.str "history", .ref m]) ∧ H m = some (.tup (bs.map V.ref)) ∧ bs.length = h.length ∧ bs[k]? = some b ∧
    H b = some (.tup [.str nm, .ref p]) ∧ H p = some (.tup ((par h k).map iv)) ∧ (bs.map V.ref)[k]? = some (V.ref b) := by
  obtain ⟨a, m, bs, e, h1, h2, h3⟩ := hh
  obtain ⟨b, hb, nm, p, h4, h5⟩ := h3.getR26 (i := k) (y := h[k]) (List.getElem?_eq_getElem hk)
  refine ⟨a, m, bs, b, nm, p, e, h1, h2, h3.length, hb, h4, ?_, by rw [List.getElem?_map, hb]; rfl⟩
  unfold par
  rw [List.getD_eq_getElem?_getD, List.getElem?_eq_getElem hk]
  exact h5
theorem par_len {h : Hist} (sm : Small h) (k : Nat) : (par h k).length ≤ 24 := by
  unfold par
  rw [List.getD_eq_getElem?_getD]
  by_cases hk : k < h.length
  · rw [List.getElem?_eq_getElem hk]
    exact sm.2 _ (List.getElem_mem hk)
  · rw [List.getElem?_eq_none (by omega)]
    exact Nat.zero_le _
theorem ok_ancestors (F : FnP K "ancestors" s_ancestors f fd) (T : Blt mg) : FnOk P w K mg base CX0 1 f fd ["history", "m"] spAnc := by
  refine F.ok sc_ancestors (fun vs H Q E h => ?_) (fun cdv A outer s H vs Q E hr h => ?_)
  · obtain ⟨hv, h, m, rfl, _⟩ := h
    rfl
  · obtain ⟨hv, h, m, rfl, hh, hm, sm, q⟩ := h
    refine ⟨_, PSs.nox (pss_cons (ps_set (i := 2) sc_ancestors.nd rfl (.inl rfl) (pe_lst (pa_cons (pv 1) pa_nil)))
      (pss_cons (ps_for PassesOwn.never rfl (pi_range3 rfl T.range (pa_cons (pv 1) (pa_cons (pe_un un_neg pe_int) (pa_cons (pe_un un_neg pe_int) pa_nil)))) (pg_name (i := 3) sc_ancestors.nd rfl (.inl rfl))
        (pss_one (ps_if (pt_cmpR op_in_seq (pv 3) (pv 2) rfl)
          (pss_one (ps_for PassesOwn.never rfl (pi_tup (pe_ix ix_tup (pe_ix ix_tup (pe_ix ix_tup (pv 0) pe_int (fun _ _ => rfl)) (pv 3) (fun _ _ => rfl)) pe_int (fun _ _ => rfl))) (pg_name (i := 4) sc_ancestors.nd rfl (.inl rfl))
            (pss_one (ps_if (pt_cmpR op_notIn_seq (pv 4) (pv 2) rfl)
              (pss_one (ps_expr (pe_bm PySem.F.plainAttrs_list PySem.F.slot_list_append PySem.F.type_list_append mt_append (pv 2) (pa_cons (pv 4) pa_nil)))) pss_nil)))) pss_nil)))
      (pss_one (ps_ret (pe_callTy call_tuple_of rfl T.tuple (by decide +kernel) (pa_cons (pe_callB cr_sortedI rfl T.sorted (by decide +kernel) (pa_cons (pv 2) pa_nil)) pa_nil)))))), ?_⟩
    -- found = [m]
    refine ⟨iv m, rfl, by show 1 ≤ sizeLine; exact szl (by omega), fun F0 nF => ?_⟩
    -- for k in range(m, -1, -1)
    refine ⟨iv m, rfl, 1, rfl, 1, rfl, (m : Int), -1, -1, m + 1, rfl, ?_, for_rangeC (lo := (m : Int)) (c := -1) (n := m + 1)
      (fun i σ H' => ∃ y3 y4 l, σ = [some hv, some (iv m), some (.ref F0), y3, y4] ∧ Same H H' ∧ H' F0 = some (.lst (l.map iv)) ∧ AncAt h m i l) ?_ ?_ ?_⟩
    · have := sm.1
      have e : (m + 1 : Nat) = ((m : Int) - (-1)).toNat := by omega
      rw [e]
      exact RgC.neg (by omega) (by omega) (by omega) (by omega)
    · exact ⟨none, none, [m], rfl, same_new nF, upd_same, by simp, [m], fun _ => Iff.rfl, rfl⟩
    · rintro i σ H1 hi ⟨y3, y4, l, rfl, s1, eF, an⟩
      have e1 : ((m : Int) + (i : Nat) * -1) = ((m - i : Nat) : Int) := by omega
      rw [e1]
      -- if k in found
      refine ⟨iv (m - i), rfl, .ref F0, rfl, F0, l.map iv, rfl, .inl (SqL.of eF), rfl, flat_iv l, _, rfl, ?_⟩
      show if (inV (iv (m - i)) (l.map iv)) = true then _ else _
      rw [inV_iv]
      refine ite2 (fun c => ?_) (fun c => ?_)
      · rw [List.contains_iff_mem] at c
        -- for parent in history[1][k][1]
        obtain ⟨a, mm, bs, b, nm, p, rfl, h1, h2, hl, hb, h4, h5, h6⟩ := hist_make (hh.same s1) (k := m - i) (by omega)
        refine ⟨.ref a, rfl, a, _, 1, .ref mm, rfl, rfl, SqT.of h1, rfl, ?_⟩
        refine ⟨iv (m - i), rfl, mm, _, ((m - i : Nat) : Int), .ref b, rfl, rfl, SqT.of h2, atI_nat h6, ?_⟩
        refine ⟨b, _, 1, .ref p, rfl, rfl, SqT.of h4, rfl, ?_⟩
        refine ⟨p, rfl, ⟨_, SqT.of h5⟩, for_tup (K := K) (a := p) (xs := (par h (m - i)).map iv)
          (fun j σ H' => ∃ y4 l', σ = [some (.ref a), some (iv m), some (.ref F0), some (iv (m - i)), y4] ∧ Same H H' ∧ H' F0 = some (.lst (l'.map iv)) ∧ H' p = some (.tup ((par h (m - i)).map iv)) ∧ l'.length ≤ l.length + j ∧ ∀ c, c ∈ l' ↔ c ∈ l ∨ c ∈ (par h (m - i)).take j)
          ⟨y4, l, rfl, s1, eF, h5, Nat.le_refl _, fun c => by simp⟩ (fun j σ H' _ z => ?_) (fun j x σ H' hx z => ?_) (fun σ H' z => ?_)⟩
        · obtain ⟨_, _, _, _, _, z, _⟩ := z
          exact SqT.of z
        · obtain ⟨y4, l', rfl, s2, eF2, ep2, hl2, hm2⟩ := z
          rw [List.getElem?_map] at hx
          obtain ⟨c0, hc0, rfl⟩ : ∃ c0, (par h (m - i))[j]? = some c0 ∧ x = iv c0 := by
            cases e : (par h (m - i))[j]? with
            | none => rw [e] at hx; cases hx
            | some c0 => rw [e] at hx; exact ⟨c0, rfl, (Option.some.inj hx).symm⟩
          have htk : ∀ c, c ∈ (par h (m - i)).take (j + 1) ↔ c ∈ (par h (m - i)).take j ∨ c = c0 := fun c => by
            rw [List.take_add_one, hc0, List.mem_append]; simp
          refine ⟨iv c0, rfl, .ref F0, rfl, F0, l'.map iv, rfl, .inl (SqL.of eF2), rfl, flat_iv l', _, rfl, ?_⟩
          show if (!inV (iv c0) (l'.map iv)) = true then _ else _
          rw [inV_iv]
          refine ite2 (fun c => ?_) (fun c => ?_)
          · refine ⟨.ref F0, rfl, .inl ⟨rfl, _, .inl (.inl eF2)⟩, iv c0, rfl, F0, _, iv c0, rfl, rfl, eF2, ?_, ?_⟩
            · rw [List.length_map]
              have := an.1
              have := par_len sm (m - i)
              have : j < (par h (m - i)).length := (List.getElem?_eq_some_iff.mp hc0).1
              have := sm.1
              exact szl' (by omega)
            · refine ⟨some (iv c0), l' ++ [c0], rfl, s2.ow nF, ?_, ?_, by simp; omega, fun c => ?_⟩
              · rw [upd_same, List.map_append]; rfl
              · rw [upd_ne (ne_of ep2 eF2 (by intro z; cases z))]; exact ep2
              · rw [List.mem_append, hm2, htk, List.mem_singleton]
                exact or_assoc
          · refine ⟨some (iv c0), l', rfl, s2, eF2, ep2, by omega, fun x => ?_⟩
            rw [htk, hm2]
            have hc : c0 ∈ l' := by
              cases e : l'.contains c0 with
              | true => exact List.contains_iff_mem.mp e
              | false => rw [e] at c; exact absurd rfl c
            constructor
            · rintro (z | z)
              · exact .inl z
              · exact .inr (.inl z)
            · rintro (z | z | z)
              · exact .inl z
              · exact .inr z
              · subst z; exact (hm2 _).mp hc
        · obtain ⟨y4, l', rfl, s2, eF2, ep2, hl2, hm2⟩ := z
          rw [List.length_map] at hl2 hm2
          refine ⟨_, y4, l', rfl, s2, eF2, anc_step (by omega) an (by have := par_len sm (m - i); omega) fun c' => ?_⟩
          rw [hm2, List.take_length]
          constructor
          · rintro (z | z)
            · exact .inl z
            · exact .inr ⟨c, z⟩
          · rintro (z | ⟨_, z⟩)
            · exact .inl z
            · exact .inr z
      · rw [List.contains_iff_mem] at c
        refine ⟨_, y4, l, rfl, s1, eF, anc_step (by omega) an (by omega) fun c' => ?_⟩
        constructor
        · exact .inl
        · rintro (z | ⟨z, _⟩)
          · exact z
          · exact absurd z c
    · rintro σ H1 ⟨y3, y4, l, rfl, s1, eF, an⟩
      -- return tuple(sorted(found))
      refine ⟨.ref F0, rfl, F0, l.map fun n : Nat => (n : Int), rfl, ?_, fun ns' p perm _ np => ?_⟩
      · rw [← ivs_int]; exact SqL.of eF
      · refine ⟨p, ns'.map V.int, rfl, .inl ⟨SqL.of upd_same, fun p2 np2 => ?_⟩⟩
        refine q _ p2 ns' ((s1.nw np).nw np2) upd_same fun x => ?_
        rw [perm.mem_iff, List.mem_map]
        constructor
        · rintro ⟨c, hc, rfl⟩
          exact ⟨c, rfl, (anc_end an c).mp hc⟩
        · rintro ⟨c, rfl, hc⟩
          exact ⟨c, (anc_end an c).mpr hc, rfl⟩
end
end K26

set_option Elab.async false
set_option linter.all false
set_option maxRecDepth 100000
set_option maxHeartbeats 4000000
namespace K26
open PySem PySem.Spec PyProof.Rows L2
section
variable {P : Program} {w : World} {K : PySem.W.Frag} {mg : PySem.Str → Option Value} {base : Heap} {f : Addr} {fd : FuncData}
/-! ### testable -/
theorem sc_testable : FnScope ["history", "skipped", "m"] ["history", "skipped"] (defScope s_testable) := ⟨rfl, rfl, rfl, by decide +kernel, rfl, by decide +kernel, by decide +kernel⟩
def spTstb : Sp := fun vs H Q _ => ∃ (hv sv : V) (h : Hist) (sk : List Nat), vs = [hv, sv] ∧ HistAt H hv h ∧ TupN H sv sk ∧ Small h ∧
  ∀ H' p, Same H H' → H p = none → H' p = some (.lst ((tstb h.length sk).map iv)) → Q (.ref p) H'
theorem ok_testable (F : FnP K "testable" s_testable f fd) (T : Blt mg) : FnOk P w K mg base CX0 1 f fd ["history", "skipped"] spTstb := by
  refine F.ok sc_testable (fun vs H Q E h => ?_) (fun cdv A outer s H vs Q E hr h => ?_)
  · obtain ⟨hv, sv, h, sk, rfl, _⟩ := h
    rfl
  · obtain ⟨hv, sv, h, sk, rfl, hh, ht, sm, q⟩ := h
    refine ⟨_, PSs.nox (pss_one (ps_ret (pe_lc (own := [("m", 2)]) (g := gName 2) rfl sc_testable.nd
      (pi_range1 rfl T.range (pa_cons (pe_callB call_len_seq rfl T.len PySem.boot_len (pa_cons (pe_ix ix_tup (pv 0) pe_int (fun _ _ => rfl)) pa_nil)) pa_nil))
      (blkOk_by (own := [("m", 2)]) (N := ["history", "skipped", "m"]) (sc := defScope s_testable) (by decide +kernel))
      (fun _ _ _ _ _ => pg_name (i := 2) sc_testable.nd rfl (Or.inl rfl)) (fun _ _ _ _ _ => pts_one (pt_cmpR (o_ni K) (pv 2) (pv 1) rfl)) (fun _ _ _ _ _ => pv 2)))), ?_⟩
    obtain ⟨a, m, bs, rfl, h1, h2, h3⟩ := hh
    obtain ⟨sa, rfl, hs⟩ := ht
    have hl := h3.length
    refine ⟨.ref a, rfl, a, _, 1, .ref m, rfl, rfl, SqT.of h1, rfl, m, _, rfl, .inr (SqT.of h2), ((bs.map V.ref).length : Nat), rfl, ?_, ?_, fun D nD => ?_⟩
    · omega
    · rw [List.length_map]; have := sm.1; omega
    have e : ((bs.map V.ref).length : Int).toNat = h.length := by rw [List.length_map, hl]; rfl
    rw [e]
    refine lc_rng (n := h.length) (fun i H' => Same H H' ∧ H' D = some (.lst ((tstb i sk).map iv))) ⟨same_new nD, upd_same⟩ (fun i H' hi z => ?_) fun H' z => q H' D z.1 nD z.2
    obtain ⟨s1, eD⟩ := z
    refine ⟨rfl, iv i, rfl, .ref sa, rfl, sa, sk.map iv, rfl, .inr (SqT.of (s1 _ _ hs)), rfl, flat_iv sk, _, rfl, ?_⟩
    show if (!inV (iv i) (sk.map iv)) = true then _ else _
    rw [inV_iv]
    refine ite2 (fun c => ?_) (fun c => ?_)
    · refine ⟨iv i, rfl, _, eD, ?_, s1.ow nD, ?_⟩
      · rw [List.length_map]
        have := fl_le (fun m => !sk.contains m) i
        have := sm.1
        exact szl' (by unfold tstb; omega)
      · rw [upd_same]
        unfold tstb
        rw [fl_true c, List.map_append]
        rfl
    · refine ⟨s1, ?_⟩
      unfold tstb
      rw [fl_false c]
      exact eD
/-! ### broken_by -/
theorem sc_broken_by : FnScope ["history", "found", "m", "row", "k"] ["history", "found", "m"] (defScope s_broken_by) := ⟨rfl, rfl, rfl, by decide +kernel, rfl, by decide +kernel, by decide +kernel⟩
def spBrk : Sp := fun vs H Q _ => ∃ (hv cv : V) (h : Hist) (cls : List (List Nat)) (m : Nat), vs = [hv, cv, iv m] ∧ HistAt H hv h ∧ TTup H cv cls ∧ (∀ l ∈ cls, l ≠ []) ∧ cls.length ≤ 24 ∧ m < h.length ∧ Small h ∧
  ∀ H' p, Same H H' → H p = none → H' p = some (.lst ((rowM h cls m).map iv)) → Q (.ref p) H'
theorem anc_contains {h : Hist} {m : Nat} {ns : List Int} (hn : ∀ x : Int, x ∈ ns ↔ ∃ c : Nat, x = c ∧ anc h m c = true) (c : Nat) : inV (iv c) (ns.map V.int) = anc h m c := by
  rw [inV_int, Bool.eq_iff_iff, List.contains_iff_mem, hn]
  constructor
  · rintro ⟨c', e, z⟩
    have : c = c' := by omega
    exact this ▸ z
  · exact fun z => ⟨c, rfl, z⟩
theorem ttup_at {H : Hp} {bs : List Addr} {cls : List (List Nat)} (hp : Paired (TupA H) bs cls) (ne : ∀ l ∈ cls, l ≠ []) {j : Nat} (hj : j < cls.length) : ∃ b l, (bs.map V.ref)[j]? = some (V.ref b) ∧ H b = some (.tup (l.map iv)) ∧ cls[j]? = some l ∧ (l.map iv)[0]? = some (iv (rep cls j)) := by
  have hc : cls[j]? = some cls[j] := List.getElem?_eq_getElem hj
  obtain ⟨b, hb, hh⟩ := hp.getR26 hc
  refine ⟨b, cls[j], by rw [List.getElem?_map, hb]; rfl, hh, hc, ?_⟩
  rw [List.getElem?_map, (rep_of hc (ne _ (List.getElem_mem hj))).2]
  rfl
theorem ok_broken_by (F : FnP K "broken_by" s_broken_by f fd) (T : Blt mg) (A1 : Fn P w K mg base CX0 1 "ancestors" ["history", "m"] spAnc) : FnOk P w K mg base CX0 2 f fd ["history", "found", "m"] spBrk := by
  refine F.ok sc_broken_by (fun vs H Q E h => ?_) (fun cdv A outer s H vs Q E hr h => ?_)
  · obtain ⟨hv, cv, h, cls, m, rfl, _⟩ := h
    rfl
  · obtain ⟨hv, cv, h, cls, m, rfl, hh, hc, ne, hcl, hm, sm, q⟩ := h
    refine ⟨_, PSs.nox (pss_cons (ps_set (i := 3) sc_broken_by.nd rfl (.inr rfl) (pe_fn A1 hr pass0 (pa_cons (pv 0) (pa_cons (pv 2) pa_nil))))
      (pss_one (ps_ret (pe_lc (own := [("k", 4)]) (g := gName 4) rfl sc_broken_by.nd
        (pi_range1 rfl T.range (pa_cons (pe_callB call_len_seq rfl T.len PySem.boot_len (pa_cons (pv 1) pa_nil)) pa_nil))
        (blkOk_by (own := [("k", 4)]) (N := ["history", "found", "m", "row", "k"]) (sc := defScope s_broken_by) (by decide +kernel))
        (fun _ _ _ _ _ => pg_name (i := 4) sc_broken_by.nd rfl (Or.inl rfl)) (fun _ _ _ _ _ => pts_one (pt_cmpR (o_in K) (pe_ix (x_tup K) (pe_ix (x_tup K) (pv 1) (pv 4) (fun _ _ => rfl)) pe_int (fun _ _ => rfl)) (pv 3) rfl)) (fun _ _ _ _ _ => pv 4))))), ?_⟩
    refine ⟨hv, rfl, iv m, rfl, hv, h, m, rfl, hh, hm, sm, fun H1 r ns s1 er hn => ?_⟩
    obtain ⟨a, bs, rfl, h1, h2⟩ := hc.same s1
    have hl := h2.length
    refine ⟨.ref a, rfl, a, _, rfl, .inr (SqT.of h1), ((bs.map V.ref).length : Nat), rfl, ?_, ?_, fun D nD => ?_⟩
    · omega
    · rw [List.length_map]; omega
    have e : ((bs.map V.ref).length : Int).toNat = cls.length := by rw [List.length_map, hl]; rfl
    rw [e]
    refine lc_rng (n := cls.length) (fun i H' => Same H1 H' ∧ H' D = some (.lst (((List.range i).filter (Bm h cls m)).map iv))) ⟨same_new nD, upd_same⟩ (fun i H' hi z => ?_) fun H' z => q H' D (s1.trans z.1) (s1.free nD) z.2
    obtain ⟨s2, eD⟩ := z
    obtain ⟨b, l, hb, hbl, hcl', hz⟩ := ttup_at h2 ne hi
    refine ⟨rfl, .ref a, rfl, iv i, rfl, a, _, (i : Int), .ref b, rfl, rfl, SqT.of (s2 _ _ h1), atI_nat hb, b, _, ((0 : Nat) : Int), iv (rep cls i), rfl, rfl, SqT.of (s2 _ _ hbl), atI_nat hz, .ref r, rfl, r, ns.map V.int, rfl, .inr (SqT.of (s2 _ _ er)), rfl, flat_int ns, _, rfl, ?_⟩
    show if inV (iv (rep cls i)) (ns.map V.int) = true then _ else _
    rw [anc_contains hn]
    refine ite2 (fun c => ?_) (fun c => ?_)
    · refine ⟨iv i, rfl, _, eD, ?_, s2.ow nD, ?_⟩
      · rw [List.length_map]
        have := fl_le (Bm h cls m) i
        exact szl' (by omega)
      · rw [upd_same, fl_true (show Bm h cls m i = true from c), List.map_append]
        rfl
    · refine ⟨s2, ?_⟩
      rw [fl_false (show ¬ Bm h cls m i = true from c)]
      exact eD
end
end K26

set_option Elab.async false
set_option linter.all false
set_option maxRecDepth 100000
set_option maxHeartbeats 4000000
namespace K26
open PySem PySem.Spec PyProof.Rows L2
theorem hu65 {k : Nat} {A : Around} (hr : Room k A) : A.units + 65 < cLine := by have := hr.un; omega
theorem first_at {α : Type} [DecidableEq α] {x : α} : ∀ {l : List α}, x ∈ l → ∃ j : Nat, l[j]? = some x ∧ ∀ m : Nat, m < j → ∀ z, l[m]? = some z → z ≠ x
  | [], h => by simp at h
  | a :: l, h => by
    by_cases e : a = x
    · exact ⟨0, by simp [e], fun m hm => by omega⟩
    · obtain ⟨j, h1, h2⟩ := first_at ((List.mem_cons.mp h).resolve_left fun z => e z.symm)
      refine ⟨j + 1, by simpa using h1, fun m hm z hz => ?_⟩
      cases m with
      | zero => simp at hz; exact hz ▸ e
      | succ m => exact h2 m (by omega) z (by simpa using hz)
theorem grpIns_at {x : List Bool} {c : Nat} : ∀ {G : Grp} {j : Nat} {l : List Nat}, G[j]? = some (x, l) → (∀ m, m < j → ∀ z, (G.map (·.1))[m]? = some z → z ≠ x) → grpIns x c G = G.set j (x, l ++ [c])
  | [], _, _, h, _ => by simp at h
  | p :: r, 0, l, h, _ => by
    have e : p = (x, l) := by simpa using h
    subst e
    unfold grpIns
    rw [if_pos rfl]
    rfl
  | p :: r, j + 1, l, h, hn => by
    have np : p.1 ≠ x := hn 0 (by omega) p.1 rfl
    unfold grpIns
    rw [if_neg np, grpIns_at (G := r) (j := j) (l := l) (by simpa using h) fun m hm z hz => hn (m + 1) (by omega) z (by simpa using hz)]
    rfl
theorem grpIns_new {x : List Bool} {c : Nat} : ∀ {G : Grp}, x ∉ G.map (·.1) → grpIns x c G = G ++ [(x, [c])]
  | [], _ => rfl
  | p :: r, h => by
    rw [List.map_cons, List.mem_cons, not_or] at h
    unfold grpIns
    rw [if_neg (fun z => h.1 z.symm), grpIns_new h.2]
    rfl
theorem paired_set {α β : Type} {R : α → β → Prop} : ∀ {l : List α} {r : List β} {a : α} {b : β} (j : Nat), Paired R l r → R a b → Paired R (l.set j a) (r.set j b)
  | _, _, _, _, _, .nil, _ => .nil
  | _, _, _, _, 0, .cons _ t, h => .cons h t
  | _, _, _, _, j + 1, .cons x t, h => .cons x (paired_set j t h)
theorem ixN_nat {n j : Nat} (h : j < n) : ixN n (j : Int) = some j := by
  unfold ixN
  rw [if_pos (by omega), if_pos (by omega)]
  rfl
theorem tYes_of {σ : L2.St} {H : Hp} {A B : Hp → Prop} (h : A H) : tYes σ H (fun b H3 => if b = true then A H3 else B H3) := by
  show if true = true then A H else B H
  rw [if_pos rfl]
  exact h
theorem up_ne {H : Hp} {a b : Addr} {o u : HO} (h : H b = some o) (n : b ≠ a) : upd H a u b = some o := by rw [upd_ne n]; exact h
section
variable {P : Program} {w : World} {K : PySem.W.Frag} {mg : PySem.Str → Option Value} {base : Heap} {f : Addr} {fd : FuncData}
/-! ### classes -/
abbrev nClasses : List PySem.Str := ["history", "skipped", "rows", "marks", "found", "c", "mark", "at", "m", "row"]
theorem sc_classes : FnScope nClasses ["history", "skipped"] (defScope s_classes) := ⟨rfl, rfl, rfl, by decide +kernel, rfl, by decide +kernel, by decide +kernel⟩
def spCls : Sp := fun vs H Q _ => ∃ (hv sv : V) (h : Hist) (sk : List Nat), vs = [hv, sv] ∧ HistAt H hv h ∧ TupN H sv sk ∧ Small h ∧
  ∀ H' p, Same H H' → TTup H' (.ref p) (clsM h sk) → Q (.ref p) H'
/-- the ancestors' tuple of m -/
def AncT (H : Hp) (h : Hist) (r : Addr) (m : Nat) : Prop := ∃ ns : List Int, H r = some (.tup (ns.map V.int)) ∧ ∀ x : Int, x ∈ ns ↔ ∃ c : Nat, x = c ∧ anc h m c = true
theorem AncT.keep {H H' : Hp} {h : Hist} {r : Addr} {m : Nat} (t : AncT H h r m) (k : ∀ xs, H r = some (.tup xs) → H' r = some (.tup xs)) : AncT H' h r m := by
  obtain ⟨ns, e, hn⟩ := t
  exact ⟨ns, k _ e, hn⟩
/-- what classes holds behind i turns: marks at M, found at F0 -/
def ClsAt (h : Hist) (sk : List Nat) (M F0 : Addr) (i : Nat) (H' : Hp) : Prop := ∃ ms fs, H' M = some (.lst (ms.map V.ref)) ∧ H' F0 = some (.lst (fs.map V.ref)) ∧
  Paired (fun a l => a ≠ M ∧ a ≠ F0 ∧ LstB H' a l) ms ((grpTo (markL h sk) i).map (·.1)) ∧ Paired (TupA H') fs ((grpTo (markL h sk) i).map (·.2))
theorem ok_classes (F : FnP K "classes" s_classes f fd) (T : Blt mg) (A1 : Fn P w K mg base CX0 1 "ancestors" ["history", "m"] spAnc) (A2 : Fn P w K mg base CX0 1 "testable" ["history", "skipped"] spTstb) : FnOk P w K mg base CX0 2 f fd ["history", "skipped"] spCls := by
  refine F.ok sc_classes (fun vs H Q E h => ?_) (fun cdv A outer s H vs Q E hr h => ?_)
  · obtain ⟨hv, sv, h, sk, rfl, _⟩ := h
    rfl
  · obtain ⟨hv, sv, h, sk, rfl, hh, ht, sm, q⟩ := h
    refine ⟨_, PSs.nox (pss_cons (ps_setLc (i := 2) (own := [("m", 8)]) (g := gName 8) rfl sc_classes.nd rfl rfl (sw_true rfl rfl rfl (by decide +kernel)) (pi_list (pe_fn A2 hr pass0 (pa_cons (pv 0) (pa_cons (pv 1) pa_nil))))
        (blkOk_by (own := [("m", 8)]) (N := nClasses) (sc := defScope s_classes) (by decide +kernel)) (fun _ _ _ _ _ => pg_name (i := 8) sc_classes.nd rfl (Or.inl rfl)) (fun _ _ _ _ _ => pts_nil) (fun _ _ _ _ _ => pe_fn A1 hr pass0 (pa_cons (pv 0) (pa_cons (pv 8) pa_nil))))
      (pss_cons (ps_set (i := 3) sc_classes.nd rfl (.inl rfl) (pe_lst pa_nil))
      (pss_cons (ps_set (i := 4) sc_classes.nd rfl (.inl rfl) (pe_lst pa_nil))
      (pss_cons (ps_for PassesOwn.never rfl (pi_range1 rfl T.range (pa_cons (pe_callB call_len_seq rfl T.len PySem.boot_len (pa_cons (pe_ix ix_tup (pv 0) pe_int (fun _ _ => rfl)) pa_nil)) pa_nil)) (pg_name (i := 5) sc_classes.nd rfl (.inr rfl))
        (pss_cons (ps_setLc (i := 6) (own := [("row", 9)]) (g := gName 9) rfl sc_classes.nd rfl rfl (sw_true rfl rfl rfl (by decide +kernel)) (pi_list (pv 2))
            (blkOk_by (own := [("row", 9)]) (N := nClasses) (sc := defScope s_classes) (by decide +kernel)) (fun _ _ _ _ _ => pg_name (i := 9) sc_classes.nd rfl (Or.inl rfl)) (fun _ _ _ _ _ => pts_nil) (fun _ _ _ _ _ => pe_cmpR (o_in K) (pv 5) (pv 9) rfl))
        (pss_one (ps_if (pt_cmpR (op_inD (hu65 hr)) (pv 6) (pv 3) rfl)
          (pss_cons (ps_set (i := 7) sc_classes.nd rfl (.inl rfl) (pe_bm PySem.F.plainAttrs_list PySem.F.slot_list_index PySem.F.type_list_index (mt_indexD (hu65 hr)) (pv 3) (pa_cons (pv 6) pa_nil)))
          (pss_one (ps_asg (pe_op op_catT (pe_ix ix_list (pv 4) (pv 7) (fun _ _ => rfl)) (pe_tup (pa_cons (pv 5) pa_nil))) (pg_sub (pv 4) (pv 7) set_list))))
          (pss_cons (ps_expr (pe_bm PySem.F.plainAttrs_list PySem.F.slot_list_append PySem.F.type_list_append mt_append (pv 3) (pa_cons (pv 6) pa_nil)))
          (pss_one (ps_expr (pe_bm PySem.F.plainAttrs_list PySem.F.slot_list_append PySem.F.type_list_append mt_append (pv 4) (pa_cons (pe_tup (pa_cons (pv 5) pa_nil)) pa_nil)))))))))
      (pss_one (ps_ret (pe_callTy call_tuple_of rfl T.tuple (by decide +kernel) (pa_cons (pv 4) pa_nil)))))))), ?_⟩
    have hn := sm.1
    -- rows = [ancestors(history, m) for m in testable(history, skipped)]
    refine ⟨hv, rfl, sv, rfl, hv, sv, h, sk, rfl, hh, ht, sm, fun H1 tl s1 ntl etl => ?_⟩
    refine ⟨tl, rfl, ⟨_, SqL.of etl⟩, fun R nR => ?_⟩
    have lenT : (tstb h.length sk).length ≤ 24 := by
      have := fl_le (fun m => !sk.contains m) h.length
      unfold tstb; omega
    refine lc_list (K := K) (a := tl) (xs := (tstb h.length sk).map iv) (fun i H' => Same H1 H' ∧ ∃ rs, H' R = some (.lst (rs.map V.ref)) ∧ Paired (AncT H' h) rs ((tstb h.length sk).take i))
      ⟨same_new nR, [], upd_same, .nil⟩ (fun i H' _ z => SqL.of (z.1 _ _ etl)) (fun i x H' hx z => ?_) (fun H2 z => ?_)
    · obtain ⟨s2, rs, eR, hp⟩ := z
      rw [List.getElem?_map] at hx
      obtain ⟨m, hm, rfl⟩ : ∃ m, (tstb h.length sk)[i]? = some m ∧ x = iv m := by
        cases e : (tstb h.length sk)[i]? with
        | none => rw [e] at hx; cases hx
        | some c0 => rw [e] at hx; exact ⟨c0, rfl, (Option.some.inj hx).symm⟩
      have hmt : m < h.length := (mem_tstb.mp (List.mem_of_getElem? hm)).1
      refine ⟨rfl, tYes_of ?_⟩
      refine ⟨hv, rfl, iv m, rfl, hv, h, m, rfl, hh.same (s1.trans s2), hmt, sm, fun H3 r ns s3 er hns => ?_⟩
      have hi : i < (tstb h.length sk).length := (List.getElem?_eq_some_iff.mp hm).1
      have eR3 := s3 _ _ eR
      have rl : rs.length ≤ 24 := by rw [hp.length, List.length_take]; omega
      refine ⟨_, eR3, by rw [List.length_map]; exact szl' (by omega), (s2.trans s3).ow nR, rs ++ [r], ?_, ?_⟩
      · rw [upd_same, List.map_append]; rfl
      · rw [List.take_add_one, hm]
        refine Paired.snoc26 (hp.imp26 fun a b t => t.keep fun xs e => up_ne (s3 _ _ e) (ne_of (s3 _ _ e) eR3 (by intro z; cases z))) ⟨ns, up_ne er (ne_of er eR3 (by intro z; cases z)), hns⟩
    · obtain ⟨s2, rs, eR, hp⟩ := z
      rw [List.length_map, List.take_length] at hp
      -- marks = []; found = []
      refine ⟨Nat.zero_le _, fun M nM => ⟨Nat.zero_le _, fun F0 nF => ?_⟩⟩
      have s12 := s1.trans s2
      have hp : Paired (fun r m => AncT H2 h r m) rs (tstb h.length sk) := hp
      have nMF : M ≠ F0 := ne_of_none upd_same nF
      -- for c in range(len(history[1]))
      obtain ⟨a, m, bs, rfl, h1, h2, h3⟩ := hh.same s12
      have hl := h3.length
      have nF2 : H2 F0 = none := by
        rw [upd_ne (Ne.symm nMF)] at nF
        exact nF
      have sA : Same H2 (upd (upd H2 M (.lst [])) F0 (.lst [])) := (same_new nM).nw nF
      refine ⟨.ref a, rfl, a, _, 1, .ref m, rfl, rfl, SqT.of (sA _ _ h1), rfl, m, _, rfl, .inr (SqT.of (sA _ _ h2)), ((bs.map V.ref).length : Nat), rfl, ?_, ?_, ?_⟩
      · omega
      · rw [List.length_map]; omega
      have e : ((bs.map V.ref).length : Int).toNat = h.length := by rw [List.length_map, hl]; rfl
      rw [e]
      refine for_rng (n := h.length) (fun i σ H' => ∃ y5 y6 y7 y8 y9, σ = [some (.ref a), some sv, some (.ref R), some (.ref M), some (.ref F0), y5, y6, y7, y8, y9] ∧ Same H2 H' ∧ ClsAt h sk M F0 i H') ?_ (fun i σ H3 hi z => ?_) (fun σ H3 z => ?_)
      · exact ⟨none, none, none, none, none, rfl, sA, [], [], up_ne upd_same nMF, upd_same, .nil, .nil⟩
      · obtain ⟨y5, y6, y7, y8, y9, rfl, s3, ms, fs, eM, eF, pm, pf⟩ := z
        have g := grpTo_ok (markL h sk) i
        have lenM : ms.length ≤ 24 := by rw [pm.length, List.length_map]; have := g.len; omega
        have lenF : fs.length ≤ 24 := by rw [pf.length, List.length_map]; have := g.len; omega
        -- mark = [c in row for row in rows]
        refine ⟨.ref R, rfl, R, rfl, ⟨_, SqL.of (s3 _ _ eR)⟩, fun D nD => ?_⟩
        refine lc_list (K := K) (a := R) (xs := rs.map V.ref) (fun j H' => Same H3 H' ∧ H' D = some (.lst (((tstb h.length sk).take j).map fun m => V.bl (anc h m i)))) ⟨same_new nD, upd_same⟩
          (fun j H' _ z => SqL.of (z.1 _ _ (s3 _ _ eR))) (fun j x H' hx z => ?_) (fun H4 z => ?_)
        · obtain ⟨s4, eD⟩ := z
          rw [List.getElem?_map] at hx
          obtain ⟨r, hrj, rfl⟩ : ∃ r, rs[j]? = some r ∧ x = V.ref r := by
            cases e : rs[j]? with
            | none => rw [e] at hx; cases hx
            | some c0 => rw [e] at hx; exact ⟨c0, rfl, (Option.some.inj hx).symm⟩
          obtain ⟨mj, hmj, ns, en, hns⟩ := hp.getL26 hrj
          refine ⟨rfl, tYes_of ?_⟩
          refine ⟨iv i, rfl, .ref r, rfl, r, ns.map V.int, rfl, .inr (SqT.of (s4 _ _ (s3 _ _ en))), rfl, flat_int ns, _, eD, ?_, s4.ow nD, ?_⟩
          · rw [List.length_map, List.length_take]; exact szl' (by omega)
          · have ec : (if false = true then !inV (iv i) (ns.map V.int) else inV (iv i) (ns.map V.int)) = anc h mj i := by
              rw [if_neg Bool.false_ne_true]
              exact anc_contains hns i
            rw [upd_same, List.take_add_one, hmj, List.map_append, ec]
            rfl
        · obtain ⟨s4, eD⟩ := z
          have eD : H4 D = some (.lst ((markL h sk i).map V.bl)) := by
            rw [List.length_map, hp.length, List.take_length] at eD
            rw [eD]
            unfold markL
            rw [List.map_map]
            rfl
          have nDM : D ≠ M := (ne_of_none eM nD).symm
          have nDF : D ≠ F0 := (ne_of_none eF nD).symm
          have eM4 := s4 _ _ eM
          have eF4 := s4 _ _ eF
          have pm4 : Paired (fun a l => a ≠ M ∧ a ≠ F0 ∧ LstB H4 a l) ms ((grpTo (markL h sk) i).map (·.1)) := pm.imp26 fun a l t => ⟨t.1, t.2.1, s4 _ _ t.2.2⟩
          have pf4 : Paired (TupA H4) fs ((grpTo (markL h sk) i).map (·.2)) := pf.imp26 fun a l t => s4 _ _ t
          have dm : Dp K H4 (.ref M) (.list (((grpTo (markL h sk) i).map (·.1)).map bD)) := .lst (SqL.of eM4) (dp_bDs (pm4.imp26 fun a l t => t.2.2))
          -- if mark in marks
          refine ⟨.ref D, rfl, .ref M, rfl, bD (markL h sk i), _, dp_bD eD, dm, shaped_bD _, shaped_bDs _, _, rfl, ?_⟩
          rw [any_bD]
          refine ite2 (fun c => ?_) (fun c => ?_)
          · rw [List.contains_iff_mem] at c
            obtain ⟨j, hj, hfirst⟩ := first_at c
            obtain ⟨pj, hpj, hpk⟩ : ∃ pj : List Bool × List Nat, (grpTo (markL h sk) i)[j]? = some pj ∧ pj.1 = markL h sk i := by
              rw [List.getElem?_map] at hj
              cases e : (grpTo (markL h sk) i)[j]? with
              | none => rw [e] at hj; cases hj
              | some c0 => rw [e] at hj; exact ⟨c0, rfl, Option.some.inj hj⟩
            obtain ⟨k0, l0⟩ := pj
            have hpk : k0 = markL h sk i := hpk
            subst hpk
            have hl0 : ((grpTo (markL h sk) i).map (·.2))[j]? = some l0 := by rw [List.getElem?_map, hpj]; rfl
            obtain ⟨fa, hfa, efa⟩ := pf4.getR26 hl0
            have hjl : j < fs.length := (List.getElem?_eq_some_iff.mp hfa).1
            -- at = marks.index(mark)
            refine ⟨.ref M, rfl, .inl ⟨rfl, _, .inl (.inl eM4)⟩, .ref D, rfl, M, .ref D, bD (markL h sk i), _, j, bD (markL h sk i), rfl, rfl, dm, dp_bD eD, shaped_bDs _, shaped_bD _, ?_, ?_, ?_, ?_⟩
            · rw [List.getElem?_map, hj]; rfl
            · rw [eqv_bD]; exact decide_eq_true rfl
            · intro x z' hx hz'
              rw [List.getElem?_map] at hz'
              cases e : ((grpTo (markL h sk) i).map (·.1))[x]? with
              | none => rw [e] at hz'; cases hz'
              | some b =>
                rw [e] at hz'
                rw [← Option.some.inj hz', eqv_bD]
                exact decide_eq_false (hfirst x hx b e)
            -- found[at] = found[at] + (c,)
            refine ⟨.ref F0, rfl, iv j, rfl, F0, _, (j : Int), .ref fa, rfl, rfl, SqL.of eF4, atI_nat (by rw [List.getElem?_map, hfa]; rfl), iv i, rfl, by show 1 ≤ sizeLine; exact szl (by omega), fun u nu => ?_⟩
            have efa' : upd H4 u (.tup [iv i]) fa = some (.tup (l0.map iv)) := up_ne efa (ne_of_none efa nu)
            have l0len : l0.length ≤ 24 := by
              have : l0.length ≤ i := g.cl _ (List.mem_of_getElem? hpj)
              omega
            refine ⟨fa, u, l0.map iv, [iv i], rfl, rfl, SqT.of efa', SqT.of upd_same, ?_, ?_, (fun z => by cases z), fun _ p3 np3 => ?_⟩
            · intro z; exact g.ne _ (List.mem_of_getElem? hpj) (List.map_eq_nil_iff.mp z)
            · rw [List.length_map]; exact szl (by simp; omega)
            have s5 : Same H4 (upd (upd H4 u (.tup [iv i])) p3 (.tup (l0.map iv ++ [iv i]))) := (same_new nu).nw np3
            have eF5 := s5 _ _ eF4
            have np3F : p3 ≠ F0 := (ne_of_none (up_ne eF4 (ne_of_none eF4 nu)) np3).symm
            refine ⟨.ref F0, rfl, iv j, rfl, F0, fs.map V.ref, (j : Int), j, rfl, rfl, eF5, by rw [List.length_map]; exact ixN_nat hjl, ?_⟩
            have nFM : M ≠ F0 := nMF
            refine ⟨_, _, _, _, _, rfl, ?_, ms, fs.set j p3, ?_, ?_, ?_, ?_⟩
            · exact ((s3.trans s4).trans s5).ow nF2
            · exact up_ne (s5 _ _ eM4) nMF
            · rw [upd_same, List.map_set]
            · rw [show grpTo (markL h sk) (i + 1) = grpIns (markL h sk i) i (grpTo (markL h sk) i) from rfl, (grpIns_keys _ i _).1 c]
              exact pm4.imp26 fun b l t => ⟨t.1, t.2.1, up_ne (s5 _ _ t.2.2) t.2.1⟩
            · rw [show grpTo (markL h sk) (i + 1) = grpIns (markL h sk i) i (grpTo (markL h sk) i) from rfl, grpIns_at hpj hfirst, List.map_set]
              refine paired_set j (pf4.imp26 fun b l t => up_ne (s5 _ _ t) (ne_of (s5 _ _ t) eF5 (by intro z; cases z))) ?_
              show upd _ F0 _ p3 = _
              refine up_ne ?_ np3F
              rw [upd_same, List.map_append]
              rfl
          · have c : markL h sk i ∉ (grpTo (markL h sk) i).map (·.1) := fun z => c (List.contains_iff_mem.mpr z)
            -- marks.append(mark)
            refine ⟨.ref M, rfl, .inl ⟨rfl, _, .inl (.inl eM4)⟩, .ref D, rfl, M, _, .ref D, rfl, rfl, eM4, by rw [List.length_map]; exact szl' (by omega), ?_⟩
            -- found.append((c,))
            have eF5 : upd H4 M (.lst (ms.map V.ref ++ [.ref D])) F0 = some (.lst (fs.map V.ref)) := up_ne eF4 (Ne.symm nMF)
            refine ⟨.ref F0, rfl, .inl ⟨rfl, _, .inl (.inl eF5)⟩, iv i, rfl, by show 1 ≤ sizeLine; exact szl (by omega), fun u nu => ?_⟩
            have eF6 := same_new nu (o := .tup [iv i]) _ _ eF5
            refine ⟨F0, _, .ref u, rfl, rfl, eF6, by rw [List.length_map]; exact szl' (by omega), ?_⟩
            have nuM : u ≠ M := (ne_of_none upd_same nu).symm
            have nuF : u ≠ F0 := (ne_of_none eF5 nu).symm
            have nu4 : H4 u = none := by rw [upd_ne nuM] at nu; exact nu
            refine ⟨_, _, _, _, _, rfl, ?_, ms ++ [D], fs ++ [u], ?_, ?_, ?_, ?_⟩
            · have nM2 : H2 M = none := nM
              exact (((s3.trans s4).ow nM2).nw nu).ow nF2
            · rw [upd_ne nMF, upd_ne (Ne.symm nuM), upd_same, List.map_append]; rfl
            · rw [upd_same, List.map_append]; rfl
            · rw [show grpTo (markL h sk) (i + 1) = grpIns (markL h sk i) i (grpTo (markL h sk) i) from rfl, (grpIns_keys _ i _).2 c]
              refine Paired.snoc26 (pm4.imp26 fun b l t => ⟨t.1, t.2.1, ?_⟩) ⟨nDM, nDF, ?_⟩
              · exact up_ne (up_ne (up_ne t.2.2 t.1) (ne_of_none t.2.2 nu4)) t.2.1
              · exact up_ne (up_ne (up_ne eD nDM) (ne_of_none eD nu4)) nDF
            · rw [show grpTo (markL h sk) (i + 1) = grpIns (markL h sk i) i (grpTo (markL h sk) i) from rfl, grpIns_new c, List.map_append]
              refine Paired.snoc26 (pf4.imp26 fun b l t => ?_) ?_
              · exact up_ne (up_ne (up_ne t (ne_of t eM4 (by intro z; cases z))) (ne_of_none t nu4)) (ne_of t eF4 (by intro z; cases z))
              · exact up_ne upd_same nuF
      · obtain ⟨y5, y6, y7, y8, y9, rfl, s3, ms, fs, eM, eF, pm, pf⟩ := z
        -- return tuple(found)
        refine ⟨.ref F0, rfl, F0, fs.map V.ref, rfl, .inl ⟨SqL.of eF, fun p np => ?_⟩⟩
        exact q _ p ((s12.trans s3).nw np) ⟨p, fs, rfl, upd_same, pf.imp26 fun b l t => up_ne t (ne_of_none t np)⟩
end
end K26

set_option Elab.async false
set_option linter.all false
set_option maxRecDepth 100000
set_option maxHeartbeats 4000000
namespace K26
open PySem PySem.Spec PyProof.Rows L2
theorem getMap {α β : Type} {f : α → β} {l : List α} {i : Nat} {x : β} (h : (l.map f)[i]? = some x) : ∃ y, l[i]? = some y ∧ x = f y := by
  rw [List.getElem?_map] at h
  cases e : l[i]? with
  | none => rw [e] at h; cases h
  | some y => rw [e] at h; exact ⟨y, rfl, (Option.some.inj h).symm⟩
theorem fold_take {α β : Type} {g : β → α → β} {l : List α} {i : Nat} {x : α} (b : β) (h : l[i]? = some x) : (l.take (i + 1)).foldl g b = g ((l.take i).foldl g b) x := by
  rw [List.take_add_one, h, List.foldl_append]
  rfl
theorem tst_len {h : Hist} {cls : List (List Nat)} : ∀ (l T : List Nat), (l.foldl (tstStep h cls) T).length ≤ T.length + l.length
  | [], T => by simp
  | m :: l, T => by
    have := tst_len (h := h) (cls := cls) l (tstStep h cls T m)
    have : (tstStep h cls T m).length ≤ T.length + 1 := by unfold tstStep; split <;> simp
    rw [List.foldl_cons, List.length_cons]
    omega
section
variable {P : Program} {w : World} {K : PySem.W.Frag} {mg : PySem.Str → Option Value} {base : Heap} {f : Addr} {fd : FuncData}
/-! ### tests -/
abbrev nTests : List PySem.Str := ["history", "skipped", "found", "rows", "makes", "m", "row"]
theorem sc_tests : FnScope nTests ["history", "skipped"] (defScope s_tests) := ⟨rfl, rfl, rfl, by decide +kernel, rfl, by decide +kernel, by decide +kernel⟩
def spTests : Sp := fun vs H Q _ => ∃ (hv sv : V) (h : Hist) (sk : List Nat), vs = [hv, sv] ∧ HistAt H hv h ∧ TupN H sv sk ∧ Small h ∧
  ∀ H' p, Same H H' → H' p = some (.tup ((testsM h sk (clsM h sk)).map iv)) → Q (.ref p) H'
theorem cls_ne {h : Hist} {sk : List Nat} : ∀ l ∈ clsM h sk, l ≠ [] := by
  intro l hl
  unfold clsM grp at hl
  obtain ⟨p, hp, rfl⟩ := List.mem_map.mp hl
  exact (grpTo_ok _ _).ne p hp
theorem ok_tests (F : FnP K "tests" s_tests f fd) (T : Blt mg) (A2 : Fn P w K mg base CX0 1 "testable" ["history", "skipped"] spTstb) (A3 : Fn P w K mg base CX0 2 "classes" ["history", "skipped"] spCls) (A4 : Fn P w K mg base CX0 2 "broken_by" ["history", "found", "m"] spBrk) :
    FnOk P w K mg base CX0 3 f fd ["history", "skipped"] spTests := by
  refine F.ok sc_tests (fun vs H Q E h => ?_) (fun cdv A outer s H vs Q E hr h => ?_)
  · obtain ⟨hv, sv, h, sk, rfl, _⟩ := h
    rfl
  · obtain ⟨hv, sv, h, sk, rfl, hh, ht, sm, q⟩ := h
    have hr1 : Room 1 _ := hr.mono (by decide)
    refine ⟨_, PSs.nox (pss_cons (ps_set (i := 2) sc_tests.nd rfl (.inl rfl) (pe_fn A3 hr pass0 (pa_cons (pv 0) (pa_cons (pv 1) pa_nil))))
      (pss_cons (ps_set (i := 3) sc_tests.nd rfl (.inl rfl) (pe_lst pa_nil))
      (pss_cons (ps_set (i := 4) sc_tests.nd rfl (.inl rfl) (pe_lst pa_nil))
      (pss_cons (ps_for PassesOwn.never rfl (pi_list (pe_fn A2 hr1 pass0 (pa_cons (pv 0) (pa_cons (pv 1) pa_nil)))) (pg_name (i := 5) sc_tests.nd rfl (.inl rfl))
        (pss_cons (ps_set (i := 6) sc_tests.nd rfl (.inl rfl) (pe_fn A4 hr pass0 (pa_cons (pv 0) (pa_cons (pv 2) (pa_cons (pv 5) pa_nil)))))
        (pss_one (ps_if (PW.pt (pw_and (pt_chain op_lt op_lt pe_int (pe_callB call_len_seq rfl T.len PySem.boot_len (pa_cons (pv 6) pa_nil)) (pe_callB call_len_seq rfl T.len PySem.boot_len (pa_cons (pv 2) pa_nil))) (pw_and1 (pt_cmpR (op_notInD (hu65 hr)) (pv 6) (pv 3) rfl))))
          (pss_cons (ps_expr (pe_bm PySem.F.plainAttrs_list PySem.F.slot_list_append PySem.F.type_list_append mt_append (pv 3) (pa_cons (pv 6) pa_nil)))
          (pss_one (ps_expr (pe_bm PySem.F.plainAttrs_list PySem.F.slot_list_append PySem.F.type_list_append mt_append (pv 4) (pa_cons (pv 5) pa_nil))))) pss_nil))))
      (pss_one (ps_ret (pe_callTy call_tuple_of rfl T.tuple (by decide +kernel) (pa_cons (pv 4) pa_nil)))))))), ?_⟩
    have hn := sm.1
    -- found = classes(history, skipped)
    refine ⟨hv, rfl, sv, rfl, hv, sv, h, sk, rfl, hh, ht, sm, fun H1 cl s1 tc => ?_⟩
    have cl24 : (clsM h sk).length ≤ 24 := Nat.le_trans cls_len hn
    -- rows = []; makes = []
    refine ⟨Nat.zero_le _, fun Rw nR => ⟨Nat.zero_le _, fun Mk nM => ?_⟩⟩
    have nMR : Rw ≠ Mk := ne_of_none upd_same nM
    have nM1 : H1 Mk = none := by rw [upd_ne (Ne.symm nMR)] at nM; exact nM
    have sA : Same H1 (upd (upd H1 Rw (.lst [])) Mk (.lst [])) := (same_new nR).nw nM
    -- for m in testable(history, skipped)
    refine ⟨hv, rfl, sv, rfl, hv, sv, h, sk, rfl, (hh.same s1).same sA, (ht.same s1).same sA, sm, fun H2 tl s2 ntl etl => ?_⟩
    have lenT : (tstb h.length sk).length ≤ 24 := by
      have := fl_le (fun m => !sk.contains m) h.length
      unfold tstb; omega
    refine ⟨tl, rfl, ⟨_, SqL.of etl⟩, for_list (K := K) (a := tl) (xs := (tstb h.length sk).map iv)
      (fun i σ H' => ∃ y5 y6 ra, σ = [some hv, some sv, some (.ref cl), some (.ref Rw), some (.ref Mk), y5, y6] ∧ Same H1 H' ∧ H' tl = some (.lst ((tstb h.length sk).map iv)) ∧ H' Rw = some (.lst (ra.map V.ref)) ∧
        H' Mk = some (.lst ((((tstb h.length sk).take i).foldl (tstStep h (clsM h sk)) []).map iv)) ∧
        Paired (fun a l => a ≠ Rw ∧ a ≠ Mk ∧ LstA H' a l) ra ((((tstb h.length sk).take i).foldl (tstStep h (clsM h sk)) []).map (rowM h (clsM h sk)))) ?_ (fun i σ H' _ z => ?_) (fun i x σ H' hx z => ?_) (fun σ H' z => ?_)⟩
    · exact ⟨none, none, [], rfl, sA.trans s2, etl, s2 _ _ (up_ne upd_same nMR), s2 _ _ upd_same, .nil⟩
    · obtain ⟨_, _, _, _, _, z, _⟩ := z
      exact SqL.of z
    · obtain ⟨m, hm, rfl⟩ := getMap hx
      have hmt : m < h.length := (mem_tstb.mp (List.mem_of_getElem? hm)).1
      have hil : i < (tstb h.length sk).length := (List.getElem?_eq_some_iff.mp hm).1
      obtain ⟨y5, y6, ra, rfl, s3, etl3, eR, eM, pr⟩ := z
      rw [fold_take [] hm]
      generalize hacc : ((tstb h.length sk).take i).foldl (tstStep h (clsM h sk)) [] = acc at eM pr ⊢
      have accl : acc.length ≤ i := by
        rw [← hacc]
        have := tst_len (h := h) (cls := clsM h sk) ((tstb h.length sk).take i) []
        rw [List.length_take] at this
        simp at this; omega
      -- row = broken_by(history, found, m)
      refine ⟨hv, rfl, .ref cl, rfl, iv m, rfl, hv, .ref cl, h, clsM h sk, m, rfl, (hh.same s1).same s3, tc.same s3, cls_ne, cl24, hmt, sm, fun H4 r s4 nr er => ?_⟩
      obtain ⟨a, bs, ea, h1, h2⟩ := (tc.same s3).same s4
      cases ea
      have nrR : r ≠ Rw := (ne_of_none eR nr).symm
      have nrM : r ≠ Mk := (ne_of_none eM nr).symm
      have eR4 := s4 _ _ eR
      have eM4 := s4 _ _ eM
      have etl4 := s4 _ _ etl3
      have pr4 := pr.imp26 (S := fun a l => a ≠ Rw ∧ a ≠ Mk ∧ LstA H4 a l) fun a l t => ⟨t.1, t.2.1, s4 _ _ t.2.2⟩
      have skip : ¬ (0 < (rowM h (clsM h sk) m).length ∧ (rowM h (clsM h sk) m).length < (clsM h sk).length ∧ (acc.map (rowM h (clsM h sk))).contains (rowM h (clsM h sk) m) = false) →
          ∃ y5 y6 ra, [some hv, some sv, some (V.ref cl), some (V.ref Rw), some (V.ref Mk), some (iv m), some (V.ref r)] = [some hv, some sv, some (V.ref cl), some (V.ref Rw), some (V.ref Mk), y5, y6] ∧ Same H1 H4 ∧ H4 tl = some (.lst ((tstb h.length sk).map iv)) ∧ H4 Rw = some (.lst (ra.map V.ref)) ∧
        H4 Mk = some (.lst ((tstStep h (clsM h sk) acc m).map iv)) ∧ Paired (fun a l => a ≠ Rw ∧ a ≠ Mk ∧ LstA H4 a l) ra ((tstStep h (clsM h sk) acc m).map (rowM h (clsM h sk))) := fun c => by
        have e : tstStep h (clsM h sk) acc m = acc := by unfold tstStep; rw [if_neg c]
        rw [e]
        exact ⟨_, _, ra, rfl, s3.trans s4, etl4, eR4, eM4, pr4⟩
      -- if 0 < len(row) < len(found) and row not in rows
      refine ⟨.ref r, rfl, r, _, rfl, .inl (SqL.of er), 0, _, rfl, rfl, _, rfl, ite2 (fun c1 => ?_) (fun c1 => ?_)⟩
      · refine ⟨.ref cl, rfl, cl, _, rfl, .inr (SqT.of h1), _, _, rfl, rfl, _, rfl, ite2 (fun c2 => ?_) (fun c2 => ?_)⟩
        · refine ⟨.ref r, rfl, .ref Rw, rfl, nD (rowM h (clsM h sk) m), _, dp_nD er, .lst (SqL.of eR4) (dp_nDs (pr4.imp26 fun a l t => t.2.2)), shaped_nD _, shaped_nDs _, _, rfl, ?_⟩
          rw [any_nD]
          have k1 : 0 < (rowM h (clsM h sk) m).length := by have := of_decide_eq_true c1; rw [List.length_map] at this; omega
          have k2 : (rowM h (clsM h sk) m).length < (clsM h sk).length := by have := of_decide_eq_true c2; rw [List.length_map, List.length_map, h2.length] at this; omega
          refine ite2 (fun c3 => ?_) (fun c3 => ?_)
          · have k3 : (acc.map (rowM h (clsM h sk))).contains (rowM h (clsM h sk) m) = false := by simpa using c3
            have e : tstStep h (clsM h sk) acc m = acc ++ [m] := by unfold tstStep; rw [if_pos ⟨k1, k2, k3⟩]
            rw [e]
            -- rows.append(row); makes.append(m)
            refine ⟨.ref Rw, rfl, .inl ⟨rfl, _, .inl (.inl eR4)⟩, .ref r, rfl, Rw, _, .ref r, rfl, rfl, eR4, ?_, ?_⟩
            · rw [List.length_map, pr.length, List.length_map]; exact szl' (by omega)
            have eM5 : upd H4 Rw (.lst (ra.map V.ref ++ [.ref r])) Mk = some (.lst (acc.map iv)) := up_ne eM4 (Ne.symm nMR)
            refine ⟨.ref Mk, rfl, .inl ⟨rfl, _, .inl (.inl eM5)⟩, iv m, rfl, Mk, _, iv m, rfl, rfl, eM5, ?_, ?_⟩
            · rw [List.length_map]; exact szl' (by omega)
            have ntR : tl ≠ Rw := by
              intro z
              rw [z, s2 _ _ (up_ne upd_same nMR : upd (upd H1 Rw (.lst [])) Mk (.lst []) Rw = _)] at etl
              rw [z] at ntl
              rw [up_ne upd_same nMR] at ntl
              cases ntl
            have ntM : tl ≠ Mk := by
              intro z
              rw [z, upd_same] at ntl
              cases ntl
            refine ⟨_, _, ra ++ [r], rfl, ((s3.trans s4).ow nR).ow nM1, up_ne (up_ne etl4 ntR) ntM, ?_, ?_, ?_⟩
            · rw [upd_ne nMR, upd_same, List.map_append]; rfl
            · rw [upd_same, List.map_append]; rfl
            · rw [List.map_append]
              refine Paired.snoc26 (pr4.imp26 fun a l t => ⟨t.1, t.2.1, up_ne (up_ne t.2.2 t.1) t.2.1⟩) ⟨nrR, nrM, up_ne (up_ne er nrR) nrM⟩
          · refine skip fun ⟨_, _, k3⟩ => c3 ?_
            rw [k3]; rfl
        · refine skip fun ⟨_, k2, _⟩ => c2 ?_
          rw [List.length_map, List.length_map, h2.length]
          exact decide_eq_true (by omega)
      · refine ⟨false, rfl, ?_⟩
        refine skip fun ⟨k1, _, _⟩ => c1 ?_
        rw [List.length_map]
        exact decide_eq_true (by omega)
    · obtain ⟨y5, y6, ra, rfl, s3, etl3, eR, eM, pr⟩ := z
      rw [List.length_map, List.take_length] at eM
      refine ⟨.ref Mk, rfl, Mk, _, rfl, .inl ⟨SqL.of eM, fun p np => ?_⟩⟩
      exact q _ p ((s1.trans s3).nw np) upd_same
end
end K26

set_option Elab.async false
set_option linter.all false
set_option maxRecDepth 100000
set_option maxHeartbeats 4000000
namespace K26
open PySem PySem.Spec PyProof.Rows L2
/-- a state's numbers: 0 in, -1 out -/
def svI (b : Bool) : Int := if b then 0 else -1
abbrev sv (b : Bool) : V := .int (svI b)
def StAt (H : Hp) (v : V) (S : List Bool) : Prop := ∃ a, v = .ref a ∧ H a = some (.tup (S.map sv))
theorem StAt.same {H H' : Hp} {v : V} {S : List Bool} (t : StAt H v S) (s : Same H H') : StAt H' v S := by
  obtain ⟨a, e, h⟩ := t
  exact ⟨a, e, s _ _ h⟩
theorem st_at {S : List Bool} {k : Nat} (hk : k < S.length) : (S.map sv)[k]? = some (sv (S.getD k false)) := by
  rw [List.getElem?_map, List.getD_eq_getElem?_getD, List.getElem?_eq_getElem hk]
  rfl
theorem map_succ {α : Type} (g : Nat → α) (n : Nat) : (List.range (n + 1)).map g = (List.range n).map g ++ [g n] := by rw [List.range_succ, List.map_append]; rfl
section
variable {P : Program} {w : World} {K : PySem.W.Frag} {mg : PySem.Str → Option Value} {base : Heap} {f : Addr} {fd : FuncData}
/-! ### start -/
theorem sc_start : FnScope ["history", "skipped", "k"] ["history", "skipped", "k"] (defScope s_start) := ⟨rfl, rfl, rfl, by decide +kernel, rfl, by decide +kernel, by decide +kernel⟩
def spStart : Sp := fun vs H Q _ => ∃ (hv kv : V) (h : Hist) (sk : List Nat), vs = [hv, kv, .int 0] ∧ HistAt H hv h ∧ TupN H kv sk ∧ Small h ∧ 0 < h.length ∧
  ∀ H' p, Same H H' → H' p = some (.tup ((List.replicate (clsM h sk).length true).map sv)) → Q (.ref p) H'
theorem ok_start (F : FnP K "start" s_start f fd) (T : Blt mg) (A3 : Fn P w K mg base CX0 2 "classes" ["history", "skipped"] spCls) : FnOk P w K mg base CX0 3 f fd ["history", "skipped", "k"] spStart := by
  refine F.ok sc_start (fun vs H Q E h => ?_) (fun cdv A outer s H vs Q E hr h => ?_)
  · obtain ⟨hv, kv, h, sk, rfl, _⟩ := h
    rfl
  · obtain ⟨hv, kv, h, sk, rfl, hh, ht, sm, hp, q⟩ := h
    refine ⟨_, PSs.nox (pss_one (ps_ret (pe_op op_rep1 (pe_tup (pa_cons (pv 2) pa_nil)) (pe_callB call_len_seq rfl T.len PySem.boot_len (pa_cons (pe_fn A3 hr pass0 (pa_cons (pv 0) (pa_cons (pv 1) pa_nil))) pa_nil))))), ?_⟩
    refine ⟨.int 0, rfl, by show 1 ≤ sizeLine; exact szl (by omega), fun t nt => ?_⟩
    refine ⟨hv, rfl, kv, rfl, hv, kv, h, sk, rfl, hh.same (same_new nt), ht.same (same_new nt), sm, fun H1 cl s1 tc => ?_⟩
    obtain ⟨a, bs, ea, h1, h2⟩ := tc
    cases ea
    have hl : (bs.map V.ref).length = (clsM h sk).length := by rw [List.length_map, h2.length]
    have c1 : 1 ≤ (clsM h sk).length := cls_pos hp
    have c2 : (clsM h sk).length ≤ 24 := Nat.le_trans cls_len sm.1
    have et := s1 _ _ upd_same
    refine ⟨cl, _, rfl, .inr (SqT.of h1), t, (clsM h sk).length, .int 0, rfl, by rw [hl], SqT.of et, c1, by omega, fun e => ?_, fun e p np => ?_⟩
    · refine q _ t ((same_new nt).trans s1) ?_
      rw [et, e]
      rfl
    · refine q _ p (((same_new nt).trans s1).nw np) ?_
      rw [upd_same, List.map_replicate]
      rfl
/-! ### lowered -/
theorem sc_lowered : FnScope ["state", "row", "k"] ["state", "row"] (defScope s_lowered) := ⟨rfl, rfl, rfl, by decide +kernel, rfl, by decide +kernel, by decide +kernel⟩
def spLow : Sp := fun vs H Q _ => ∃ (v : V) (r : Addr) (S : List Bool) (row : List Nat), vs = [v, .ref r] ∧ StAt H v S ∧ H r = some (.lst (row.map iv)) ∧ S.length ≤ 24 ∧
  ∀ H' p, Same H H' → H' p = some (.tup ((lowL S row).map sv)) → Q (.ref p) H'
theorem low_int (b c : Bool) : (if (svI b - if c = true then 1 else 0) > -1 then svI b - (if c = true then 1 else 0) else -1) = svI (b && !c) := by cases b <;> cases c <;> decide
theorem ok_lowered (F : FnP K "lowered" s_lowered f fd) (T : Blt mg) : FnOk P w K mg base CX0 1 f fd ["state", "row"] spLow := by
  refine F.ok sc_lowered (fun vs H Q E h => ?_) (fun cdv A outer s H vs Q E hr h => ?_)
  · obtain ⟨v, r, S, row, rfl, _⟩ := h
    rfl
  · obtain ⟨v, r, S, row, rfl, hs, er, hl, q⟩ := h
    obtain ⟨a, rfl, ea⟩ := hs
    refine ⟨_, PSs.nox (pss_one (ps_ret (pe_callTy call_tuple_of rfl T.tuple (by decide +kernel) (pa_cons (pe_lc (own := [("k", 2)]) (g := gName 2) rfl sc_lowered.nd
      (pi_range1 rfl T.range (pa_cons (pe_callB call_len_seq rfl T.len PySem.boot_len (pa_cons (pv 0) pa_nil)) pa_nil))
      (blkOk_by (own := [("k", 2)]) (N := ["state", "row", "k"]) (sc := defScope s_lowered) (by decide +kernel))
      (fun _ _ _ _ _ => pg_name (i := 2) sc_lowered.nd rfl (Or.inl rfl)) (fun _ _ _ _ _ => pts_nil)
      (fun _ _ _ _ _ => pe_callB (call_max2 rfl) rfl T.max (by decide +kernel) (pa_cons (pe_un un_neg pe_int) (pa_cons (pe_op op_sub (pe_ix (x_tup K) (pv 0) (pv 2) (fun _ _ => rfl)) (pe_callTy call_int1 rfl T.int (by decide +kernel) (pa_cons (pe_cmpR (o_in K) (pv 2) (pv 1) rfl) pa_nil))) pa_nil)))) pa_nil)))), ?_⟩
    refine ⟨.ref a, rfl, a, _, rfl, .inr (SqT.of ea), ((S.map sv).length : Nat), rfl, ?_, ?_, fun D nD => ?_⟩
    · omega
    · rw [List.length_map]; omega
    have e : ((S.map sv).length : Int).toNat = S.length := by rw [List.length_map]; rfl
    rw [e]
    refine lc_rng (n := S.length) (fun i H' => Same H H' ∧ H' D = some (.lst (((List.range i).map fun k => S.getD k false && !row.contains k).map sv))) ⟨same_new nD, upd_same⟩ (fun i H' hi z => ?_) fun H' z => ?_
    · obtain ⟨s1, eD⟩ := z
      refine ⟨rfl, tYes_of ?_⟩
      refine ⟨1, rfl, .ref a, rfl, iv i, rfl, a, _, (i : Int), sv (S.getD i false), rfl, rfl, SqT.of (s1 _ _ ea), atI_nat (st_at hi), iv i, rfl, .ref r, rfl, r, row.map iv, rfl, .inl (SqL.of (s1 _ _ er)), rfl, flat_iv row, ?_⟩
      refine .inr ⟨row.contains i, ?_, svI (S.getD i false), (if row.contains i = true then 1 else 0), rfl, rfl, -1, _, rfl, _, eD, ?_, s1.ow nD, ?_⟩
      · rw [if_neg Bool.false_ne_true, inV_iv]
      · rw [List.length_map, List.length_map, List.length_range]; exact szl' (by omega)
      · rw [upd_same, map_succ, List.map_append]
        refine congrArg (fun z => some (HO.lst (_ ++ [V.int z]))) ?_
        exact low_int _ _
    · obtain ⟨s1, eD⟩ := z
      refine ⟨D, _, rfl, .inl ⟨SqL.of eD, fun p np => ?_⟩⟩
      exact q _ p (s1.nw np) upd_same
/-! ### against_row -/
theorem sc_against_row : FnScope ["many", "row", "word", "k"] ["many", "row", "word"] (defScope s_against_row) := ⟨rfl, rfl, rfl, by decide +kernel, rfl, by decide +kernel, by decide +kernel⟩
def spAg : Sp := fun vs H Q _ => ∃ (n : Nat) (r : Addr) (row : List Nat) (wd : Bool), vs = [iv n, .ref r, .str (if wd = true then "works" else "broken")] ∧ H r = some (.lst (row.map iv)) ∧ n ≤ 24 ∧
  ∀ H' p, Same H H' → H' p = some (.lst ((if wd = true then row else notIn n row).map iv)) → Q (.ref p) H'
theorem ok_against_row (F : FnP K "against_row" s_against_row f fd) (T : Blt mg) : FnOk P w K mg base CX0 1 f fd ["many", "row", "word"] spAg := by
  refine F.ok sc_against_row (fun vs H Q E h => ?_) (fun cdv A outer s H vs Q E hr h => ?_)
  · obtain ⟨n, r, row, wd, rfl, _⟩ := h
    rfl
  · obtain ⟨n, r, row, wd, rfl, er, hn, q⟩ := h
    refine ⟨_, PSs.nox (pss_cons (ps_if (pt_cmpR op_eq (pv 2) pe_str (nomark _)) (pss_one (ps_ret (pv 1))) pss_nil)
      (pss_one (ps_ret (pe_lc (own := [("k", 3)]) (g := gName 3) rfl sc_against_row.nd (pi_range1 rfl T.range (pa_cons (pv 0) pa_nil))
      (blkOk_by (own := [("k", 3)]) (N := ["many", "row", "word", "k"]) (sc := defScope s_against_row) (by decide +kernel))
      (fun _ _ _ _ _ => pg_name (i := 3) sc_against_row.nd rfl (Or.inl rfl)) (fun _ _ _ _ _ => pts_one (pt_cmpR (o_ni K) (pv 3) (pv 1) rfl)) (fun _ _ _ _ _ => pv 3))))), ?_⟩
    cases wd with
    | true =>
      refine ⟨_, rfl, rfl, _, rfl, ?_⟩
      refine ite2 (fun _ => ?_) (fun c => ?_)
      · exact ⟨.ref r, rfl, q _ r (Same.refl _) er⟩
      · exact absurd (decide_eq_true rfl) c
    | false =>
      refine ⟨_, rfl, rfl, _, rfl, ?_⟩
      refine ite2 (fun c => ?_) (fun _ => ?_)
      · exact absurd (of_decide_eq_true c) (by decide +kernel)
      · refine ⟨iv n, rfl, (n : Int), rfl, by omega, by omega, fun D nD => ?_⟩
        refine lc_rng (n := n) (fun i H' => Same H H' ∧ H' D = some (.lst ((notIn i row).map iv))) ⟨same_new nD, upd_same⟩ (fun i H' hi z => ?_) fun H' z => q _ D z.1 z.2
        obtain ⟨s1, eD⟩ := z
        refine ⟨rfl, iv i, rfl, .ref r, rfl, r, row.map iv, rfl, .inl (SqL.of (s1 _ _ er)), rfl, flat_iv row, _, rfl, ?_⟩
        show if (!inV (iv i) (row.map iv)) = true then _ else _
        rw [inV_iv]
        refine ite2 (fun c => ?_) (fun c => ?_)
        · refine ⟨iv i, rfl, _, eD, ?_, s1.ow nD, ?_⟩
          · rw [List.length_map]
            have := fl_le (fun k => !row.contains k) i
            exact szl' (by unfold notIn; omega)
          · rw [upd_same]
            unfold notIn
            rw [fl_true c, List.map_append]
            rfl
        · refine ⟨s1, ?_⟩
          unfold notIn
          rw [fl_false c]
          exact eD
/-! ### ones_in -/
theorem sc_ones_in : FnScope ["state", "k"] ["state"] (defScope s_ones_in) := ⟨rfl, rfl, rfl, by decide +kernel, rfl, by decide +kernel, by decide +kernel⟩
def spOnes : Sp := fun vs H Q _ => ∃ (v : V) (S : List Bool), vs = [v] ∧ StAt H v S ∧ S.length ≤ 24 ∧ ∀ H' p, Same H H' → H' p = some (.lst ((onesL S).map iv)) → Q (.ref p) H'
theorem ok_ones_in (F : FnP K "ones_in" s_ones_in f fd) (T : Blt mg) : FnOk P w K mg base CX0 1 f fd ["state"] spOnes := by
  refine F.ok sc_ones_in (fun vs H Q E h => ?_) (fun cdv A outer s H vs Q E hr h => ?_)
  · obtain ⟨v, S, rfl, _⟩ := h
    rfl
  · obtain ⟨v, S, rfl, hs, hl, q⟩ := h
    obtain ⟨a, rfl, ea⟩ := hs
    refine ⟨_, PSs.nox (pss_one (ps_ret (pe_lc (own := [("k", 1)]) (g := gName 1) rfl sc_ones_in.nd
      (pi_range1 rfl T.range (pa_cons (pe_callB call_len_seq rfl T.len PySem.boot_len (pa_cons (pv 0) pa_nil)) pa_nil))
      (blkOk_by (own := [("k", 1)]) (N := ["state", "k"]) (sc := defScope s_ones_in) (by decide +kernel))
      (fun _ _ _ _ _ => pg_name (i := 1) sc_ones_in.nd rfl (Or.inl rfl)) (fun _ _ _ _ _ => pts_one (pt_cmpR op_ge (pe_ix (x_tup K) (pv 0) (pv 1) (fun _ _ => rfl)) pe_int (nomark _))) (fun _ _ _ _ _ => pv 1)))), ?_⟩
    refine ⟨.ref a, rfl, a, _, rfl, .inr (SqT.of ea), ((S.map sv).length : Nat), rfl, ?_, ?_, fun D nD => ?_⟩
    · omega
    · rw [List.length_map]; omega
    have e : ((S.map sv).length : Int).toNat = S.length := by rw [List.length_map]; rfl
    rw [e]
    refine lc_rng (n := S.length) (fun i H' => Same H H' ∧ H' D = some (.lst (((List.range i).filter fun k => S.getD k false).map iv))) ⟨same_new nD, upd_same⟩ (fun i H' hi z => ?_) fun H' z => q _ D z.1 z.2
    obtain ⟨s1, eD⟩ := z
    refine ⟨rfl, .ref a, rfl, iv i, rfl, a, _, (i : Int), sv (S.getD i false), rfl, rfl, SqT.of (s1 _ _ ea), atI_nat (st_at hi), svI (S.getD i false), 0, rfl, rfl, _, rfl, ?_⟩
    have ed : decide ((0 : Int) ≤ svI (S.getD i false)) = S.getD i false := by cases S.getD i false <;> decide
    rw [ed]
    refine ite2 (fun c => ?_) (fun c => ?_)
    · refine ⟨iv i, rfl, _, eD, ?_, s1.ow nD, ?_⟩
      · rw [List.length_map]
        have := fl_le (fun k => S.getD k false) i
        exact szl' (by omega)
      · rw [upd_same, fl_true (p := fun k => S.getD k false) c, List.map_append]
        rfl
    · refine ⟨s1, ?_⟩
      rw [fl_false (p := fun k => S.getD k false) c]
      exact eD
/-! ### is_useful -/
theorem sc_is_useful : FnScope ["state", "row", "inside", "many", "k"] ["state", "row"] (defScope s_is_useful) := ⟨rfl, rfl, rfl, by decide +kernel, rfl, by decide +kernel, by decide +kernel⟩
def spUse : Sp := fun vs H Q _ => ∃ (v : V) (r : Addr) (S : List Bool) (row : List Nat), vs = [v, .ref r] ∧ StAt H v S ∧ H r = some (.lst (row.map iv)) ∧ S.length ≤ 24 ∧ ∀ H', Same H H' → Q (.bl (useL S row)) H'
theorem ok_is_useful (F : FnP K "is_useful" s_is_useful f fd) (T : Blt mg) (A5 : Fn P w K mg base CX0 1 "ones_in" ["state"] spOnes) : FnOk P w K mg base CX0 2 f fd ["state", "row"] spUse := by
  refine F.ok sc_is_useful (fun vs H Q E h => ?_) (fun cdv A outer s H vs Q E hr h => ?_)
  · obtain ⟨v, r, S, row, rfl, _⟩ := h
    rfl
  · obtain ⟨v, r, S, row, rfl, hs, er, hl, q⟩ := h
    refine ⟨_, PSs.nox (pss_cons (ps_set (i := 2) sc_is_useful.nd rfl (.inl rfl) (pe_fn A5 hr pass0 (pa_cons (pv 0) pa_nil)))
      (pss_cons (ps_set (i := 3) sc_is_useful.nd rfl (.inl rfl) (pe_callB call_len_seq rfl T.len PySem.boot_len (pa_cons (pe_lc (own := [("k", 4)]) (g := gName 4) rfl sc_is_useful.nd (pi_list (pv 2))
        (blkOk_by (own := [("k", 4)]) (N := ["state", "row", "inside", "many", "k"]) (sc := defScope s_is_useful) (by decide +kernel))
        (fun _ _ _ _ _ => pg_name (i := 4) sc_is_useful.nd rfl (Or.inl rfl)) (fun _ _ _ _ _ => pts_one (pt_cmpR (o_in K) (pv 4) (pv 1) rfl)) (fun _ _ _ _ _ => pv 4)) pa_nil)))
      (pss_one (ps_ret (pe_chain op_lt op_lt pe_int (pv 3) (pe_callB call_len_seq rfl T.len PySem.boot_len (pa_cons (pv 2) pa_nil))))))), ?_⟩
    refine ⟨v, rfl, v, S, rfl, hs, hl, fun H1 i0 s1 ei => ?_⟩
    have ol : (onesL S).length ≤ 24 := Nat.le_trans (fl_le (fun k => S.getD k false) S.length) hl
    refine ⟨.ref i0, rfl, i0, rfl, ⟨_, SqL.of ei⟩, fun D nD => ?_⟩
    refine lc_list (K := K) (a := i0) (xs := (onesL S).map iv) (fun i H' => Same H1 H' ∧ H' D = some (.lst ((((onesL S).take i).filter fun k => row.contains k).map iv))) ⟨same_new nD, upd_same⟩ (fun i H' _ z => SqL.of (z.1 _ _ ei)) (fun i x H' hx z => ?_) (fun H' z => ?_)
    · obtain ⟨c0, hc0, rfl⟩ := getMap hx
      obtain ⟨s2, eD⟩ := z
      refine ⟨rfl, iv c0, rfl, .ref r, rfl, r, row.map iv, rfl, .inl (SqL.of (s2 _ _ (s1 _ _ er))), rfl, flat_iv row, _, rfl, ?_⟩
      show if (inV (iv c0) (row.map iv)) = true then _ else _
      rw [inV_iv, List.take_add_one, hc0, List.filter_append]
      refine ite2 (fun c => ?_) (fun c => ?_)
      · refine ⟨iv c0, rfl, _, eD, ?_, s2.ow nD, ?_⟩
        · rw [List.length_map]
          have := List.length_filter_le (fun k => row.contains k) ((onesL S).take i)
          rw [List.length_take] at this
          exact szl' (by omega)
        · have e1 : List.filter (fun k => row.contains k) (some c0).toList = [c0] := by
            show List.filter (fun k => row.contains k) [c0] = [c0]
            rw [List.filter_cons, if_pos c]; rfl
          rw [upd_same, e1, List.map_append]
          rfl
      · refine ⟨s2, ?_⟩
        have e1 : List.filter (fun k => row.contains k) (some c0).toList = [] := by
          show List.filter (fun k => row.contains k) [c0] = []
          rw [List.filter_cons, if_neg c]; rfl
        rw [e1, List.append_nil]
        exact eD
    · obtain ⟨s2, eD⟩ := z
      rw [List.length_map, List.take_length] at eD
      refine ⟨D, _, rfl, .inl (SqL.of eD), ?_⟩
      -- return 0 < many < len(inside)
      refine ⟨_, rfl, 0, _, rfl, rfl, _, rfl, ?_⟩
      refine ite2 (fun c1 => ?_) (fun c1 => ?_)
      · refine ⟨.ref i0, rfl, i0, _, rfl, .inl (SqL.of (s2 _ _ ei)), _, _, rfl, rfl, ?_⟩
        have := q _ (s1.trans s2)
        unfold useL at this
        have k1 := of_decide_eq_true c1
        rw [List.length_map] at k1
        rw [decide_eq_true (show 0 < ((onesL S).filter fun k => row.contains k).length by omega), Bool.true_and] at this
        rw [List.length_map, List.length_map]
        show Q (V.bl (decide ((((onesL S).filter fun k => row.contains k).length : Int) < ((onesL S).length : Int)))) H'
        have e : decide ((((onesL S).filter fun k => row.contains k).length : Int) < ((onesL S).length : Int)) = decide (((onesL S).filter fun k => row.contains k).length < (onesL S).length) := by
          rw [decide_eq_decide]; omega
        rw [e]
        exact this
      · have := q _ (s1.trans s2)
        unfold useL at this
        have k1 : ¬ (0 < ((onesL S).filter fun k => row.contains k).length) := fun k1 => c1 (decide_eq_true (by rw [List.length_map]; omega))
        rw [decide_eq_false k1, Bool.false_and] at this
        exact this
/-! ### both_after -/
theorem sc_both_after : FnScope ["state", "row", "many"] ["state", "row"] (defScope s_both_after) := ⟨rfl, rfl, rfl, by decide +kernel, rfl, by decide +kernel, by decide +kernel⟩
def spBoth : Sp := fun vs H Q _ => ∃ (v : V) (r : Addr) (S : List Bool) (row : List Nat), vs = [v, .ref r] ∧ StAt H v S ∧ H r = some (.lst (row.map iv)) ∧ S.length ≤ 24 ∧
  ∀ H' p a b, Same H H' → H' p = some (.lst [.ref a, .ref b]) → H' a = some (.tup ((lowL S (notIn S.length row)).map sv)) → H' b = some (.tup ((lowL S row).map sv)) → Q (.ref p) H'
theorem ok_both_after (F : FnP K "both_after" s_both_after f fd) (T : Blt mg) (A6 : Fn P w K mg base CX0 1 "lowered" ["state", "row"] spLow) (A7 : Fn P w K mg base CX0 1 "against_row" ["many", "row", "word"] spAg) : FnOk P w K mg base CX0 2 f fd ["state", "row"] spBoth := by
  refine F.ok sc_both_after (fun vs H Q E h => ?_) (fun cdv A outer s H vs Q E hr h => ?_)
  · obtain ⟨v, r, S, row, rfl, _⟩ := h
    rfl
  · obtain ⟨v, r, S, row, rfl, hs, er, hl, q⟩ := h
    refine ⟨_, PSs.nox (pss_cons (ps_set (i := 2) sc_both_after.nd rfl (.inl rfl) (pe_callB call_len_seq rfl T.len PySem.boot_len (pa_cons (pv 0) pa_nil)))
      (pss_one (ps_ret (pe_lst (pa_cons (pe_fn A6 hr pass0 (pa_cons (pv 0) (pa_cons (pe_fn A7 hr pass0 (pa_cons (pv 2) (pa_cons (pv 1) (pa_cons pe_str pa_nil)))) pa_nil)))
        (pa_cons (pe_fn A6 hr pass0 (pa_cons (pv 0) (pa_cons (pe_fn A7 hr pass0 (pa_cons (pv 2) (pa_cons (pv 1) (pa_cons pe_str pa_nil)))) pa_nil))) pa_nil)))))), ?_⟩
    obtain ⟨a, rfl, ea⟩ := hs
    refine ⟨.ref a, rfl, a, _, rfl, .inr (SqT.of ea), ?_⟩
    rw [List.length_map]
    refine ⟨.ref a, rfl, iv S.length, rfl, .ref r, rfl, S.length, r, row, false, rfl, er, hl, fun H1 g1 s1 e1 => ?_⟩
    refine ⟨.ref a, g1, S, _, rfl, ⟨a, rfl, s1 _ _ ea⟩, e1, hl, fun H2 p1 s2 e2 => ?_⟩
    have s12 := s1.trans s2
    refine ⟨.ref a, rfl, iv S.length, rfl, .ref r, rfl, S.length, r, row, true, rfl, s12 _ _ er, hl, fun H3 g3 s3 e3 => ?_⟩
    have s13 := s12.trans s3
    refine ⟨.ref a, g3, S, _, rfl, ⟨a, rfl, s13 _ _ ea⟩, e3, hl, fun H4 p4 s4 e4 => ?_⟩
    refine ⟨by show 2 ≤ sizeLine; exact szl (by omega), fun p np => ?_⟩
    exact q _ p p1 p4 ((s13.trans s4).nw np) upd_same (same_new np _ _ (s4 _ _ (s3 _ _ e2))) (same_new np _ _ e4)
/-! ### rows_of -/
theorem sc_rows_of : FnScope ["history", "skipped", "found", "m"] ["history", "skipped"] (defScope s_rows_of) := ⟨rfl, rfl, rfl, by decide +kernel, rfl, by decide +kernel, by decide +kernel⟩
/-- a pair of a test and its row -/
def RowAt (H : Hp) (rw_ : Nat → List Nat) (t : Addr) (m : Nat) : Prop := ∃ l, H t = some (.tup [iv m, .ref l]) ∧ H l = some (.lst ((rw_ m).map iv))
def RowsAt (H : Hp) (v : V) (rw_ : Nat → List Nat) (ms : List Nat) : Prop := ∃ a ts, v = .ref a ∧ H a = some (.lst (ts.map V.ref)) ∧ Paired (RowAt H rw_) ts ms
theorem RowsAt.same {H H' : Hp} {v : V} {rw_ : Nat → List Nat} {ms : List Nat} (t : RowsAt H v rw_ ms) (s : Same H H') : RowsAt H' v rw_ ms := by
  obtain ⟨a, ts, e, h1, h2⟩ := t
  exact ⟨a, ts, e, s _ _ h1, h2.imp26 fun b m ⟨l, h3, h4⟩ => ⟨l, s _ _ h3, s _ _ h4⟩⟩
def spRows : Sp := fun vs H Q _ => ∃ (hv kv : V) (h : Hist) (sk : List Nat), vs = [hv, kv] ∧ HistAt H hv h ∧ TupN H kv sk ∧ Small h ∧
  ∀ H' p, Same H H' → RowsAt H' (.ref p) (rowM h (clsM h sk)) (testsM h sk (clsM h sk)) → Q (.ref p) H'
theorem ok_rows_of (F : FnP K "rows_of" s_rows_of f fd) (T : Blt mg) (A3 : Fn P w K mg base CX0 2 "classes" ["history", "skipped"] spCls) (A4 : Fn P w K mg base CX0 2 "broken_by" ["history", "found", "m"] spBrk) (A8 : Fn P w K mg base CX0 3 "tests" ["history", "skipped"] spTests) :
    FnOk P w K mg base CX0 4 f fd ["history", "skipped"] spRows := by
  refine F.ok sc_rows_of (fun vs H Q E h => ?_) (fun cdv A outer s H vs Q E hr h => ?_)
  · obtain ⟨hv, kv, h, sk, rfl, _⟩ := h
    rfl
  · obtain ⟨hv, kv, h, sk, rfl, hh, ht, sm, q⟩ := h
    have hr2 : Room 2 _ := hr.mono (by decide)
    refine ⟨_, PSs.nox (pss_cons (ps_set (i := 2) sc_rows_of.nd rfl (.inr rfl) (pe_fn A3 hr2 pass0 (pa_cons (pv 0) (pa_cons (pv 1) pa_nil))))
      (pss_one (ps_ret (pe_lc (own := [("m", 3)]) (g := gName 3) rfl sc_rows_of.nd (pi_tup (pe_fn A8 hr pass0 (pa_cons (pv 0) (pa_cons (pv 1) pa_nil))))
        (blkOk_by (own := [("m", 3)]) (N := ["history", "skipped", "found", "m"]) (sc := defScope s_rows_of) (by decide +kernel))
        (fun _ _ _ _ _ => pg_name (i := 3) sc_rows_of.nd rfl (Or.inl rfl)) (fun _ _ _ _ _ => pts_nil) (fun _ _ _ _ _ => pe_tup (pa_cons (pv 3) (pa_cons (pe_fn A4 hr2 pass0 (pa_cons (pv 0) (pa_cons (pv 2) (pa_cons (pv 3) pa_nil)))) pa_nil))))))), ?_⟩
    refine ⟨hv, rfl, kv, rfl, hv, kv, h, sk, rfl, hh, ht, sm, fun H1 cl s1 tc => ?_⟩
    refine ⟨hv, rfl, kv, rfl, hv, kv, h, sk, rfl, hh.same s1, ht.same s1, sm, fun H2 tl s2 et => ?_⟩
    have cl24 : (clsM h sk).length ≤ 24 := Nat.le_trans cls_len sm.1
    have o := tests_ok h sk (clsM h sk)
    have tl24 : (testsM h sk (clsM h sk)).length ≤ 24 := by
      have a1 := tst_len (h := h) (cls := clsM h sk) (tstb h.length sk) []
      have a2 := fl_le (fun m => !sk.contains m) h.length
      have := sm.1
      unfold testsM
      rw [List.length_nil] at a1
      have a3 : (tstb h.length sk).length ≤ h.length := a2
      omega
    refine ⟨tl, rfl, ⟨_, SqT.of et⟩, fun D nD => ?_⟩
    refine lc_tup (K := K) (a := tl) (xs := (testsM h sk (clsM h sk)).map iv) (fun i H' => Same H2 H' ∧ ∃ ts, H' D = some (.lst (ts.map V.ref)) ∧ Paired (fun t m => ∃ l, l ≠ D ∧ H' t = some (.tup [iv m, .ref l]) ∧ H' l = some (.lst ((rowM h (clsM h sk) m).map iv))) ts ((testsM h sk (clsM h sk)).take i))
      ⟨same_new nD, [], upd_same, .nil⟩ (fun i H' _ z => SqT.of (z.1 _ _ et)) (fun i x H' hx z => ?_) (fun H' z => ?_)
    · obtain ⟨m, hm, rfl⟩ := getMap hx
      obtain ⟨s3, ts, eD, hp⟩ := z
      have hmt : m < h.length := (mem_tstb.mp (o.sub m (List.mem_of_getElem? hm)).1).1
      have hil : i < (testsM h sk (clsM h sk)).length := (List.getElem?_eq_some_iff.mp hm).1
      refine ⟨rfl, tYes_of ?_⟩
      refine ⟨iv m, rfl, hv, rfl, .ref cl, rfl, iv m, rfl, hv, .ref cl, h, clsM h sk, m, rfl, ((hh.same s1).same s2).same s3, (tc.same s2).same s3, cls_ne, cl24, hmt, sm, fun H4 r s4 nr er => ?_⟩
      refine ⟨by show 2 ≤ sizeLine; exact szl (by omega), fun t nt => ?_⟩
      have eD4 := s4 _ _ eD
      have eD5 := same_new nt (o := .tup [iv m, .ref r]) _ _ eD4
      have tsl : ts.length ≤ 24 := by rw [hp.length, List.length_take]; omega
      have ntD : t ≠ D := (ne_of_none eD4 nt).symm
      have nrD : r ≠ D := (ne_of_none eD nr).symm
      refine ⟨_, eD5, by rw [List.length_map]; exact szl' (by omega), ((s3.trans s4).nw nt).ow nD, ts ++ [t], ?_, ?_⟩
      · rw [upd_same, List.map_append]; rfl
      · rw [List.take_add_one, hm]
        refine Paired.snoc26 (hp.imp26 fun b x ⟨l, h1, h2, h3⟩ => ⟨l, h1, ?_, ?_⟩) ⟨r, nrD, ?_, ?_⟩
        · have := same_new nt (o := .tup [iv m, .ref r]) _ _ (s4 _ _ h2)
          exact up_ne this (ne_of this eD5 (by intro z; cases z))
        · exact up_ne (same_new nt _ _ (s4 _ _ h3)) h1
        · exact up_ne upd_same ntD
        · exact up_ne (same_new nt _ _ er) nrD
    · obtain ⟨s3, ts, eD, hp⟩ := z
      rw [List.length_map, List.take_length] at hp
      exact q _ D ((s1.trans s2).trans s3) ⟨D, ts, rfl, eD, hp.imp26 fun b x ⟨l, _, h2, h3⟩ => ⟨l, h2, h3⟩⟩
end
end K26

set_option Elab.async false
set_option linter.all false
set_option maxRecDepth 100000
set_option maxHeartbeats 4000000
namespace K26
open PySem PySem.Spec PyProof.Rows L2
theorem fold_max (z : List Int) (hz : ∀ y ∈ z, y ≤ 0) : ∀ n : Int, n ≤ 0 → (z ++ [0]).foldl max n = 0 := by
  intro n hn
  have key : ∀ (z : List Int) (n : Int), (∀ y ∈ z, y ≤ 0) → n ≤ 0 → z.foldl max n ≤ 0 := by
    intro z
    induction z with
    | nil => intro n _ h; exact h
    | cons a r ih => intro n h1 h2; exact ih _ (fun y hy => h1 y (List.mem_cons_of_mem _ hy)) (by have := h1 a (by simp); omega)
  rw [List.foldl_append]
  have := key z n hz hn
  show max (z.foldl max n) 0 = 0
  omega
/-- all that was tracked but at k is as it was -/
def But (k : Addr) (H H' : Hp) : Prop := ∀ b o, b ≠ k → H b = some o → H' b = some o
theorem But.refl (k : Addr) (H : Hp) : But k H H := fun _ _ _ h => h
theorem But.trans {k : Addr} {H H1 H2 : Hp} (a : But k H H1) (b : But k H1 H2) : But k H H2 := fun c o n h => b c o n (a c o n h)
theorem But.of {k : Addr} {H H' : Hp} (s : Same H H') : But k H H' := fun b o _ h => s b o h
theorem But.put {k : Addr} {H H' : Hp} {o : HO} (a : But k H H') : But k H (upd H' k o) := fun b x n h => by rw [upd_ne n]; exact a b x n h
section
variable {P : Program} {w : World} {K : PySem.W.Frag} {mg : PySem.Str → Option Value} {base : Heap} {f : Addr} {fd : FuncData} {C : Addr}
/-! ### check_size -/
theorem sc_check_size : FnScope ["state", "many", "k"] ["state"] (defScope s_check_size) := ⟨rfl, rfl, rfl, by decide +kernel, rfl, by decide +kernel, by decide +kernel⟩
def spChk (C : Addr) : Sp := fun vs H Q E => ∃ (v : V) (S : List Bool), vs = [v] ∧ StAt H v S ∧ 0 < S.length ∧ S.length ≤ 24 ∧ (2 ^ S.length ≤ 20000 → ∀ H', Same H H' → Q .non H') ∧ (20000 < 2 ^ S.length → ∀ H', Same H H' → E (.ref C) none H')
theorem ok_check_size (F : FnP K "check_size" s_check_size f fd) (T : Blt mg) (X : Exc26 K mg C) : FnOk P w K mg base (L2.CX P w) 1 f fd ["state"] (spChk C) := by
  refine F.ok sc_check_size (fun vs H Q E h => ?_) (fun cdv A outer s H vs Q E hr h => ?_)
  · obtain ⟨v, S, rfl, _⟩ := h
    rfl
  · obtain ⟨v, S, rfl, hs, h0, hl, q, qe⟩ := h
    obtain ⟨a, rfl, ea⟩ := hs
    obtain ⟨tm, hm⟩ := X.m
    refine ⟨_, pss_cons (ps_set (i := 1) sc_check_size.nd rfl (.inl rfl) pe_int)
      (pss_cons (ps_for (passes_of rfl) rfl (pi_range1 rfl T.range (pa_cons (pe_callB call_len_seq rfl T.len PySem.boot_len (pa_cons (pv 0) pa_nil)) pa_nil)) (pg_name (i := 2) sc_check_size.nd rfl (.inl rfl))
        (pss_one (ps_set (i := 1) sc_check_size.nd rfl (.inl rfl) (pe_op op_mul (pv 1) (pe_op op_add (pe_callB (cr_maxT rfl (hu65 hr)) rfl T.max (by decide +kernel) (pa_cons (pe_op op_catT (pv 0) (pe_tup (pa_cons pe_int pa_nil))) pa_nil)) pe_int)))))
      (pss_one (ps_if (pt_cmpR op_gt (pv 1) (pe_glob (v := .int 20000) rfl hm ⟨_, rfl⟩) (nomark _)) (pss_one (ps_raise rfl (takes_of rfl rfl rfl rfl) (pmk_own0 PySem.F.excBase_ValueError X.x X.g X.k (raises_own X.b X.t)))) pss_nil))), ?_⟩
    refine ⟨.ref a, rfl, a, _, rfl, .inr (SqT.of ea), ((S.map sv).length : Nat), rfl, ?_, ?_, ?_⟩
    · omega
    · rw [List.length_map]; omega
    have e : ((S.map sv).length : Int).toNat = S.length := by rw [List.length_map]; rfl
    rw [e]
    refine for_rng (n := S.length) (fun i σ H' => ∃ y2, σ = [some (.ref a), some (iv (2 ^ i)), y2] ∧ Same H H') ⟨none, rfl, Same.refl _⟩ (fun i σ H' hi z => ?_) (fun σ H' z => ?_)
    · obtain ⟨y2, rfl, s1⟩ := z
      refine ⟨iv (2 ^ i), rfl, .ref a, rfl, by show 1 ≤ sizeLine; exact szl (by omega), fun t nt => ?_⟩
      obtain ⟨b0, S0, rfl⟩ : ∃ b0 S0, S = b0 :: S0 := by
        cases S with
        | nil => simp at h0
        | cons b r => exact ⟨b, r, rfl⟩
      refine ⟨a, t, _, _, rfl, rfl, SqT.of (same_new nt _ _ (s1 _ _ ea)), SqT.of upd_same, by simp, by rw [List.length_map]; exact szl (by simp at hl ⊢; omega), (fun z => by cases z), fun _ p np => ?_⟩
      refine ⟨p, svI b0, (S0.map svI) ++ [0], rfl, ?_, ?_⟩
      · refine SqT.of ?_
        rw [upd_same, List.map_cons, List.map_cons, List.map_append, List.map_map]
        rfl
      · have em : ((S0.map svI) ++ [0]).foldl max (svI b0) = 0 := fold_max (S0.map svI) (fun y hy => by
          obtain ⟨b, _, rfl⟩ := List.mem_map.mp hy
          cases b <;> decide) _ (by cases b0 <;> decide)
        refine ⟨((S0.map svI) ++ [0]).foldl max (svI b0), 2, rfl, rfl, ((2 ^ i : Nat) : Int), _, rfl, rfl, ?_, ?_⟩
        · rw [em]; exact .inr (by decide)
        · rw [em]
          refine ⟨some (iv i), ?_, (s1.nw nt).nw np⟩
          show [some (V.ref a), some (V.int (((2 ^ i : Nat) : Int) * (0 + 2))), some (iv i)] = _
          rw [show ((2 ^ i : Nat) : Int) * (0 + 2) = ((2 ^ (i + 1) : Nat) : Int) by rw [Nat.pow_succ]; omega]
    · obtain ⟨y2, rfl, s1⟩ := z
      refine ⟨iv (2 ^ S.length), rfl, ((2 ^ S.length : Nat) : Int), 20000, rfl, rfl, _, rfl, ite2 (fun c => ?_) (fun c => ?_)⟩
      · exact qe (by have := of_decide_eq_true c; omega) _ s1
      · exact q (by have : ¬ ((20000 : Int) < ((2 ^ S.length : Nat) : Int)) := fun z => c (decide_eq_true z); omega) _ s1
end
end K26

set_option Elab.async false
set_option linter.all false
set_option maxRecDepth 100000
set_option maxHeartbeats 4000000
namespace K26
open PySem PySem.Spec PyProof.Rows L2
theorem RowsAt.but {k : Addr} {H H' : Hp} {v : V} {rw_ : Nat → List Nat} {ms : List Nat} {kvs : List (List Key × V)} (t : RowsAt H v rw_ ms) (ek : H k = some (.dT kvs)) (s : But k H H') : RowsAt H' v rw_ ms := by
  obtain ⟨a, ts, e, h1, h2⟩ := t
  refine ⟨a, ts, e, s _ _ (ne_of h1 ek (by intro z; cases z)) h1, h2.imp26 fun b m ⟨l, h3, h4⟩ => ⟨l, s _ _ (ne_of h3 ek (by intro z; cases z)) h3, s _ _ (ne_of h4 ek (by intro z; cases z)) h4⟩⟩
/-- a state as a key -/
def keyS (S : List Bool) : List Key := S.map fun b => Sum.inl (svI b)
theorem keyS_kV (S : List Bool) : (keyS S).map kV = S.map sv := by unfold keyS; rw [List.map_map]; rfl
theorem svI_inj {a b : Bool} (h : svI a = svI b) : a = b := by cases a <;> cases b <;> first | rfl | exact absurd h (by decide)
theorem keyS_inj : ∀ {S S' : List Bool}, keyS S = keyS S' → S = S'
  | [], [], _ => rfl
  | [], _ :: _, h => by cases h
  | _ :: _, [], h => by cases h
  | a :: S, b :: S', h => by
    have h : (Sum.inl (svI a) : Key) :: keyS S = Sum.inl (svI b) :: keyS S' := h
    injection h with h1 h2
    rw [svI_inj (Sum.inl.inj h1), keyS_inj h2]
/-- what was found of states: each right -/
def KnownOk (ms : List Nat) (B : Nat → Nat → Bool) (n : Nat) (kvs : List (List Key × V)) : Prop := (kvs.map (·.1)).Nodup ∧ ∀ k ∈ kvs.map (·.1), ∃ S d, S.length = n ∧ k = keyS S ∧ valV kvs k = some (iv d) ∧ IsVal ms B (stS S) d
theorem known_nil {ms B n} : KnownOk ms B n [] := ⟨List.nodup_nil, fun k hk => by simp at hk⟩
theorem known_get {ms B n kvs} {S : List Bool} {v : V} (h : KnownOk ms B n kvs) (e : valV kvs (keyS S) = some v) : ∃ d, v = iv d ∧ IsVal ms B (stS S) d := by
  obtain ⟨S', d, _, hk, hv, hi⟩ := h.2 _ (valV_in e)
  have := keyS_inj hk
  subst this
  rw [e] at hv
  exact ⟨d, Option.some.inj hv, hi⟩
theorem keys_put {κ : Type} [DecidableEq κ] (kvs : List (κ × V)) (k : κ) (v : V) : (k ∈ kvs.map (·.1) → (putK kvs k v).map (·.1) = kvs.map (·.1)) ∧ (k ∉ kvs.map (·.1) → (putK kvs k v).map (·.1) = kvs.map (·.1) ++ [k]) := by
  have ea : (kvs.any fun kv => decide (kv.1 = k)) = true ↔ k ∈ kvs.map (·.1) := by
    rw [List.any_eq_true, List.mem_map]
    constructor
    · rintro ⟨x, hx, e⟩; exact ⟨x, hx, of_decide_eq_true e⟩
    · rintro ⟨x, hx, e⟩; exact ⟨x, hx, decide_eq_true e⟩
  unfold putK
  constructor
  · intro h
    rw [if_pos (ea.mpr h), List.map_map]
    refine List.map_congr_left fun x _ => ?_
    show (if x.1 = k then (x.1, v) else x).1 = x.1
    split <;> rfl
  · intro h
    rw [if_neg (fun z => h (ea.mp z)), List.map_append]
    rfl
theorem known_put {ms B n kvs} {S : List Bool} {d : Nat} (h : KnownOk ms B n kvs) (hl : S.length = n) (hv : IsVal ms B (stS S) d) : KnownOk ms B n (putK kvs (keyS S) (iv d)) := by
  obtain ⟨k1, k2⟩ := keys_put kvs (keyS S) (iv d)
  have mem : ∀ k, k ∈ (putK kvs (keyS S) (iv d)).map (·.1) → k ∈ kvs.map (·.1) ∨ k = keyS S := fun k hk => by
    by_cases hm : keyS S ∈ kvs.map (·.1)
    · rw [k1 hm] at hk; exact .inl hk
    · rw [k2 hm] at hk
      rcases List.mem_append.mp hk with z | z
      · exact .inl z
      · exact .inr (List.mem_singleton.mp z)
  refine ⟨?_, fun k hk => ?_⟩
  · by_cases hm : keyS S ∈ kvs.map (·.1)
    · rw [k1 hm]; exact h.1
    · rw [k2 hm]; exact nd_snoc h.1 hm
  · by_cases e : k = keyS S
    · subst e
      exact ⟨S, d, hl, rfl, by rw [valV_put, if_pos rfl], hv⟩
    · obtain ⟨S', d', hl', hk', hv', hi'⟩ := h.2 k ((mem k hk).resolve_right e)
      exact ⟨S', d', hl', hk', by rw [valV_put, if_neg e]; exact hv', hi'⟩
theorem known_len {ms B n kvs} (h : KnownOk ms B n kvs) (hn : n ≤ 14) : kvs.length ≤ 16384 := by
  have e1 : (kvs.map (·.1)).length = kvs.length := List.length_map _
  rw [← e1]
  refine nodup_code (N := 16384) (fun k : List Key => bits (k.map fun x => decide (x = Sum.inl 0))) h.1 (fun x hx y hy e => ?_) fun x hx => ?_
  · obtain ⟨S, d, hl, rfl, _⟩ := h.2 x hx
    obtain ⟨S', d', hl', rfl, _⟩ := h.2 y hy
    have dec : ∀ S : List Bool, (keyS S).map (fun x => decide (x = Sum.inl 0)) = S := fun S => by
      unfold keyS
      rw [List.map_map]
      refine (List.map_congr_left (g := id) fun b _ => ?_).trans (List.map_id _)
      cases b <;> decide
    have e : bits ((keyS S).map fun x => decide (x = Sum.inl 0)) = bits ((keyS S').map fun x => decide (x = Sum.inl 0)) := e
    rw [dec, dec] at e
    rw [bits_inj S S' (hl.trans hl'.symm) e]
  · obtain ⟨S, d, hl, rfl, _⟩ := h.2 x hx
    have := bits_lt ((keyS S).map fun x => decide (x = Sum.inl 0))
    have e2 : ((keyS S).map fun x => decide (x = Sum.inl 0)).length = n := by unfold keyS; rw [List.length_map, List.length_map]; exact hl
    rw [e2] at this
    exact Nat.lt_of_lt_of_le this (Nat.le_trans (Nat.pow_le_pow_right (by decide) hn) (by decide))
section
variable {P : Program} {w : World} {K : PySem.W.Frag} {mg : PySem.Str → Option Value} {base : Heap} {f : Addr} {fd : FuncData} {C : Addr}
/-! ### value -/
abbrev nValue : List PySem.Str := ["rows", "state", "known", "best", "m", "row", "most", "other"]
theorem sc_value : FnScope nValue ["rows", "state", "known"] (defScope s_value) := ⟨rfl, rfl, rfl, by decide +kernel, rfl, by decide +kernel, by decide +kernel⟩
/-- states of fewer than c classes in -/
def spVal (c : Nat) : Sp := fun vs H Q _ => ∃ (rv v : V) (kd : Addr) (S : List Bool) (kvs : List (List Key × V)) (ms : List Nat) (B : Nat → Nat → Bool), vs = [rv, v, .ref kd] ∧ RowsAt H rv (rowB B S.length) ms ∧ StAt H v S ∧ S.length ≤ 14 ∧ ms.length ≤ 24 ∧ (onesL S).length < c ∧
  Sep ms B (stS S) ∧ H kd = some (.dT kvs) ∧ KnownOk ms B S.length kvs ∧ ∀ H' kvs' d, But kd H H' → H' kd = some (.dT kvs') → KnownOk ms B S.length kvs' → IsVal ms B (stS S) d → Q (iv d) H'
theorem ok_value (c : Nat) (F : FnP K "value" s_value f fd) (T : Blt mg) (A5 : Fn P w K mg base CX0 1 "ones_in" ["state"] spOnes) (A9 : Fn P w K mg base CX0 2 "is_useful" ["state", "row"] spUse) (A10 : Fn P w K mg base CX0 2 "both_after" ["state", "row"] spBoth)
    (AV : Fn P w K mg base CX0 (3 + c) "value" ["rows", "state", "known"] (spVal c)) : FnOk P w K mg base CX0 (3 + c + 1) f fd ["rows", "state", "known"] (spVal (c + 1)) := by
  refine F.ok sc_value (fun vs H Q E h => ?_) (fun cdv A outer s H vs Q E hr h => ?_)
  · obtain ⟨rv, v, kd, S, kvs, ms, B, rfl, _⟩ := h
    rfl
  · obtain ⟨rv, v, kd, S, kvs, ms, B, rfl, hrows, hst, hl, hml, hc, hsep, ek, hk, q⟩ := h
    have hr1 : Room 1 _ := hr.mono (by omega)
    have hr2 : Room 2 _ := hr.mono (by omega)
    refine ⟨_, PSs.nox (pss_cons (ps_if (pt_cmpR op_le (pe_callB call_len_seq rfl T.len PySem.boot_len (pa_cons (pe_fn A5 hr1 pass0 (pa_cons (pv 1) pa_nil)) pa_nil)) pe_int (nomark _)) (pss_one (ps_ret pe_int)) pss_nil)
      (pss_cons (ps_if (pt_cmp (pc_dnotin (hu_of hr) (pv 1) (pv 2)) rfl)
        (pss_cons (ps_set (i := 3) sc_value.nd rfl (.inl rfl) (pe_un un_neg pe_int))
        (pss_cons (ps_for PassesOwn.never rfl (pi_list (pv 0)) (pg_tup rfl (pgs_cons (pg_name (i := 4) sc_value.nd rfl (.inl rfl)) (pgs_cons (pg_name (i := 5) sc_value.nd rfl (.inl rfl)) pgs_nil)))
          (pss_one (ps_if (pt_val (pe_fn A9 hr2 pass0 (pa_cons (pv 1) (pa_cons (pv 5) pa_nil))))
            (pss_cons (ps_set (i := 6) sc_value.nd rfl (.inl rfl) (pe_op op_add pe_int (pe_callB (cr_max rfl) rfl T.max (by decide +kernel) (pa_cons (pe_lc (own := [("other", 7)]) (g := gName 7) rfl sc_value.nd (pi_list (pe_fn A10 hr2 pass0 (pa_cons (pv 1) (pa_cons (pv 5) pa_nil))))
              (blkOk_by (own := [("other", 7)]) (N := nValue) (sc := defScope s_value) (by decide +kernel)) (fun _ _ _ _ _ => pg_name (i := 7) sc_value.nd rfl (Or.inl rfl)) (fun _ _ _ _ _ => pts_nil)
              (fun _ _ _ _ _ => pe_fn AV hr pass0 (pa_cons (pv 0) (pa_cons (pv 7) (pa_cons (pv 2) pa_nil))))) pa_nil))))
            (pss_one (ps_if (PW.pt (pw_or (pt_cmpR op_lt (pv 3) pe_int (nomark _)) (pw_or1 (pt_cmpR op_lt (pv 6) (pv 3) (nomark _))))) (pss_one (ps_set (i := 3) sc_value.nd rfl (.inl rfl) (pv 6))) pss_nil))) pss_nil)))
        (pss_one (ps_dput (hu_of hr) (pv 2) (pv 1) (pv 3) rfl)))) pss_nil)
      (pss_one (ps_ret (pe_dget (hu_of hr) (pv 2) (pv 1) (fun _ _ => rfl)))))), ?_⟩
    obtain ⟨a, rfl, ea⟩ := hst
    -- if len(ones_in(state)) <= 1
    refine ⟨.ref a, rfl, .ref a, S, rfl, ⟨a, rfl, ea⟩, by omega, fun H1 o1 s1 eo => ?_⟩
    refine ⟨o1, _, rfl, .inl (SqL.of eo), _, _, rfl, rfl, _, rfl, ?_⟩
    have ek1 := s1 _ _ ek
    have ea1 := s1 _ _ ea
    have ea1' : H1 a = some (.tup ((keyS S).map kV)) := by rw [keyS_kV]; exact ea1
    refine ite2 (fun c0 => ?_) (fun c0 => ?_)
    · have f0 : Few (stS S) := few_iff.mp (by have := of_decide_eq_true c0; rw [List.length_map] at this; omega)
      exact q H1 kvs 0 (But.of s1) ek1 hk (few_val f0)
    · have nf : ¬ Few (stS S) := fun z => c0 (decide_eq_true (by have := few_iff.mpr z; rw [List.length_map]; omega))
      -- if state not in known
      refine ⟨.ref a, rfl, .ref kd, rfl, kd, _, rfl, DGet.t (k := keyS S) ek1 ea1', _, rfl, ?_⟩
      cases eg : valV kvs (keyS S) with
      | some y =>
        refine iteF ?_
        obtain ⟨d, rfl, hd⟩ := known_get hk eg
        refine ⟨.ref kd, rfl, .ref a, rfl, kd, iv d, rfl, ?_, q H1 kvs d (But.of s1) ek1 hk hd⟩
        rw [← eg]
        exact DGet.t (k := keyS S) ek1 ea1'
      | none =>
        refine iteT ?_
        refine ⟨1, rfl, ?_⟩
        -- for m, row in rows
        obtain ⟨R, ts, rfl, eR, hts⟩ := hrows
        have hts1 := hts.imp26 (S := RowAt H1 (rowB B S.length)) fun b m ⟨l, h3, h4⟩ => ⟨l, s1 _ _ h3, s1 _ _ h4⟩
        have eR1 := s1 _ _ eR
        refine ⟨.ref R, rfl, R, rfl, ⟨_, SqL.of eR1⟩, for_list (K := K) (a := R) (xs := ts.map V.ref)
          (fun i σ H' => ∃ best y4 y5 y6 kvs', σ = [some (.ref R), some (.ref a), some (.ref kd), some (.int best), y4, y5, y6, none] ∧ But kd H1 H' ∧ H' kd = some (.dT kvs') ∧ KnownOk ms B S.length kvs' ∧ Best ms B (stS S) i best) ?_ (fun i σ H' _ z => ?_) (fun i x σ H' hx z => ?_) (fun σ H' z => ?_)⟩
        · exact ⟨-1, none, none, none, kvs, rfl, But.refl _ _, ek1, hk, .inl ⟨rfl, fun m hm => by simp at hm⟩⟩
        · obtain ⟨_, _, _, _, _, _, b, _⟩ := z
          exact SqL.of (b _ _ (ne_of eR1 ek1 (by intro z; cases z)) eR1)
        · obtain ⟨t, ht, rfl⟩ := getMap hx
          obtain ⟨best, y4, y5, y6, kvs', rfl, b1, ek2, hk2, hb⟩ := z
          obtain ⟨m, hm, l, h3, h4⟩ := hts1.getL26 ht
          have h3' := b1 _ _ (ne_of h3 ek1 (by intro z; cases z)) h3
          have h4' := b1 _ _ (ne_of h4 ek1 (by intro z; cases z)) h4
          have ea2 := b1 _ _ (ne_of ea1 ek1 (by intro z; cases z)) ea1
          refine ⟨t, _, rfl, SqT.of h3', rfl, iv m, [.ref l], rfl, .ref l, [], rfl, rfl, ?_⟩
          -- if is_useful(state, row)
          refine ⟨.ref a, rfl, .ref l, rfl, .ref a, l, S, _, rfl, ⟨a, rfl, ea2⟩, h4', by omega, fun H3 s3 => ⟨_, rfl, ?_⟩⟩
          have ek3 := s3 _ _ ek2
          refine ite2 (fun u => ?_) (fun u => ?_)
          · have u : Useful B m (stS S) := use_iff.mp u
            refine ⟨.ref a, rfl, .ref l, rfl, .ref a, l, S, _, rfl, ⟨a, rfl, s3 _ _ ea2⟩, s3 _ _ h4', by omega, fun H4 p x y s4 ep ex ey => ?_⟩
            have ek4 := s4 _ _ ek3
            refine ⟨p, rfl, ⟨_, SqL.of ep⟩, fun D nD => ?_⟩
            have b4 : But kd H1 H4 := (b1.trans (But.of s3)).trans (But.of s4)
            have rows4 : RowsAt H4 (.ref R) (rowB B S.length) ms := RowsAt.but (H := H1) ⟨R, ts, rfl, eR1, hts1⟩ ek1 b4
            refine lc_list (K := K) (a := p) (xs := [.ref x, .ref y]) (fun j H' => But kd H4 H' ∧ (∃ kvs'', H' kd = some (.dT kvs'') ∧ KnownOk ms B S.length kvs'') ∧
                ∃ ds : List Nat, ds.length = j ∧ H' D = some (.lst (ds.map iv)) ∧ (∀ d, ds[0]? = some d → IsVal ms B (cutB B m (stS S)) d) ∧ (∀ d, ds[1]? = some d → IsVal ms B (cutW B m (stS S)) d))
              ⟨But.of (same_new nD), ⟨kvs', same_new nD _ _ ek4, hk2⟩, [], rfl, upd_same, fun d h => by simp at h, fun d h => by simp at h⟩ (fun j H' _ z => SqL.of (z.1 _ _ (ne_of ep ek4 (by intro z; cases z)) ep)) (fun j z0 H' hz z => ?_) (fun H' z => ?_)
            · obtain ⟨b5, ⟨kvs5, ek5, hk5⟩, ds, dl, eD, d0, d1⟩ := z
              refine ⟨rfl, tYes_of ?_⟩
              -- value(rows, other, known)
              have step : ∀ (o : Addr) (S' : List Bool), H4 o = some (.tup (S'.map sv)) → S'.length = S.length → (onesL S').length < (onesL S).length → (∀ i, stS S' i = true → stS S i = true) → z0 = .ref o →
                  (∀ d, IsVal ms B (stS S') d → (∀ e, (ds ++ [d])[0]? = some e → IsVal ms B (cutB B m (stS S)) e) ∧ (∀ e, (ds ++ [d])[1]? = some e → IsVal ms B (cutW B m (stS S)) e)) →
                  spVal c [.ref R, z0, .ref kd] H' (fun y H5 => ∃ acc, H5 D = some (.lst acc) ∧ acc.length < sizeLine ∧ But kd H4 (upd H5 D (.lst (acc ++ [y]))) ∧ (∃ kvs'', upd H5 D (.lst (acc ++ [y])) kd = some (.dT kvs'') ∧ KnownOk ms B S.length kvs'') ∧
                    ∃ ds : List Nat, ds.length = j + 1 ∧ upd H5 D (.lst (acc ++ [y])) D = some (.lst (ds.map iv)) ∧ (∀ d, ds[0]? = some d → IsVal ms B (cutB B m (stS S)) d) ∧ (∀ d, ds[1]? = some d → IsVal ms B (cutW B m (stS S)) d)) E0 := by
                rintro o S' eo' hS' hlt hsub rfl hd
                refine ⟨.ref R, .ref o, kd, S', kvs5, ms, B, rfl, ?_, ⟨o, rfl, b5 _ _ (ne_of eo' ek4 (by intro z; cases z)) eo'⟩, by omega, hml, by omega, hsep.sub hsub, ek5, by rw [hS']; exact hk5, fun H6 kvs6 d b6 ek6 hk6 hv => ?_⟩
                · rw [hS']; exact rows4.but ek4 b5
                · have nkD : kd ≠ D := ne_of ek5 eD (by intro z; cases z)
                  have eD6 := b6 _ _ (Ne.symm nkD) eD
                  refine ⟨_, eD6, by rw [List.length_map, dl]; have := (List.getElem?_eq_some_iff.mp hz).1; simp at this; exact szl' (by omega), ?_, ⟨kvs6, up_ne ek6 nkD, by rw [← hS']; exact hk6⟩, ds ++ [d], by simp [dl], ?_, (hd d hv).1, (hd d hv).2⟩
                  · intro b o nb hb
                    have : b ≠ D := ne_of_none hb nD
                    rw [upd_ne this]
                    exact b6 _ _ nb (b5 _ _ nb hb)
                  · rw [upd_same, List.map_append]; rfl
              match j, hz with
              | 0, hz =>
                have hz : V.ref x = z0 := Option.some.inj hz
                refine ⟨.ref R, rfl, z0, rfl, .ref kd, rfl, ?_⟩
                refine step x _ ex (lowL_len _ _) (ones_lowB u) (fun i hi => ?_) hz.symm fun d hv => ⟨fun e he => ?_, fun e he => ?_⟩
                · rw [low_B] at hi; exact (cutB_iff.mp hi).1
                · have : ds = [] := List.eq_nil_of_length_eq_zero dl
                  subst this
                  rw [low_B] at hv
                  have : d = e := Option.some.inj he
                  exact this ▸ hv
                · have : ds = [] := List.eq_nil_of_length_eq_zero dl
                  subst this
                  simp at he
              | 1, hz =>
                have hz : V.ref y = z0 := Option.some.inj hz
                refine ⟨.ref R, rfl, z0, rfl, .ref kd, rfl, ?_⟩
                obtain ⟨d00, rfl⟩ : ∃ d00, ds = [d00] := by
                  match ds, dl with
                  | [d00], _ => exact ⟨d00, rfl⟩
                refine step y _ ey (lowL_len _ _) (ones_lowW u) (fun i hi => ?_) hz.symm fun d hv => ⟨fun e he => ?_, fun e he => ?_⟩
                · rw [low_W] at hi; exact (cutW_iff.mp hi).1
                · exact d0 e he
                · rw [low_W] at hv
                  have : d = e := Option.some.inj he
                  exact this ▸ hv
              | j + 2, hz => simp at hz
            · obtain ⟨b5, ⟨kvs5, ek5, hk5⟩, ds, dl, eD, d0, d1⟩ := z
              obtain ⟨e1, e2, rfl⟩ : ∃ e1 e2, ds = [e1, e2] := by
                match ds, dl with
                | [e1, e2], _ => exact ⟨e1, e2, rfl⟩
              have v1 := d0 e1 rfl
              have v2 := d1 e2 rfl
              refine ⟨D, [(e1 : Int), (e2 : Int)], rfl, SqL.of eD, by simp, fun mx hmx hmy => ?_⟩
              have emx : mx = ((max e1 e2 : Nat) : Int) := by
                have a1 := hmy e1 (by simp)
                have a2 := hmy e2 (by simp)
                simp at hmx
                rcases hmx with z | z <;> omega
              subst emx
              refine ⟨1, _, rfl, rfl, ?_⟩
              obtain ⟨bt1, bt2⟩ := best_take hb hm u v1 v2
              have b6 := b4.trans b5
              -- if best < 0 or most < best
              refine ⟨_, rfl, best, 0, rfl, rfl, _, rfl, ite2 (fun c1 => ?_) (fun c1 => ?_)⟩
              · refine iteT ⟨_, rfl, _, _, _, _, kvs5, rfl, b6, ek5, hk5, bt1 (.inl (of_decide_eq_true c1))⟩
              · refine ⟨_, rfl, _, rfl, _, _, rfl, rfl, _, rfl, ite2 (fun c2 => ?_) (fun c2 => ?_)⟩
                · exact ⟨_, rfl, _, _, _, _, kvs5, rfl, b6, ek5, hk5, bt1 (.inr (of_decide_eq_true c2))⟩
                · refine ⟨_, _, _, _, kvs5, rfl, b6, ek5, hk5, bt2 ?_⟩
                  rintro (z | z)
                  · exact c1 (decide_eq_true z)
                  · exact c2 (decide_eq_true z)
          · refine ⟨best, _, _, _, kvs', rfl, b1.trans (But.of s3), ek3, hk2, best_skip hb hm fun z => u (use_iff.mpr z)⟩
        · obtain ⟨best, y4, y5, y6, kvs', rfl, b1, ek2, hk2, hb⟩ := z
          rw [List.length_map, hts.length] at hb
          obtain ⟨d, rfl, hv⟩ := best_end hb hsep nf
          have ea2' : H' a = some (.tup ((keyS S).map kV)) := b1 _ _ (ne_of ea1 ek1 (by intro z; cases z)) ea1'
          have kl := known_len hk2 hl
          -- known[state] = best
          refine ⟨iv d, rfl, .ref kd, rfl, .ref a, rfl, kd, _, rfl, DPut.t (k := keyS S) ek2 ea2' (szl' (by omega)), ?_⟩
          have ne : a ≠ kd := ne_of ea2' ek2 (by intro z; cases z)
          refine ⟨.ref kd, rfl, .ref a, rfl, kd, iv d, rfl, ?_, q _ _ d ((But.of s1).trans b1).put upd_same (known_put hk2 rfl hv) hv⟩
          have := DGet.t (k := keyS S) (H := upd H' kd (.dT (putK kvs' (keyS S) (iv d)))) (a := kd) (b := a) upd_same (up_ne ea2' ne)
          rw [valV_put, if_pos rfl] at this
          exact this
end
end K26

set_option Elab.async false
set_option linter.all false
set_option maxRecDepth 100000
set_option maxHeartbeats 4000000
namespace K26
open PySem PySem.Spec PyProof.Rows L2
theorem stS_all (n : Nat) : stS (List.replicate n true) = inU n := by
  funext j
  unfold stS inU
  rw [List.getD_eq_getElem?_getD, List.getElem?_replicate]
  by_cases h : j < n
  · rw [if_pos h, decide_eq_true h]; rfl
  · rw [if_neg h, decide_eq_false h]; rfl
theorem pow14 {n : Nat} (h : n ≤ 24) : 2 ^ n ≤ 20000 ↔ n ≤ 14 := by
  constructor
  · intro z
    apply Classical.byContradiction
    intro hn
    have : 2 ^ 15 ≤ 2 ^ n := Nat.pow_le_pow_right (by decide) (by omega)
    omega
  · intro z
    have : 2 ^ n ≤ 2 ^ 14 := Nat.pow_le_pow_right (by decide) z
    omega
/-- how many tests a make takes at most -/
def timesOf (k : Nat) (two : Bool) : Nat := if two = true then 2 * k + 1 else k + 1
abbrev ruleS (two : Bool) : V := .str (if two = true then "two" else "one")
section
variable {P : Program} {w : World} {K : PySem.W.Frag} {mg : PySem.Str → Option Value} {base : Heap} {f : Addr} {fd : FuncData} {C : Addr}
/-- nothing is let out of the call of a def that may raise, where it does not -/
theorem passX {X : Cx} {E : XK} (tk : Takes X (fun cls d _ H => E cls d H)) : Passes (L2.CX X.prog X.w) X E := passes_call tk fun _ _ _ _ z => z
/-! ### fewest_from -/
theorem sc_fewest_from : FnScope ["history", "skipped", "state"] ["history", "skipped", "state"] (defScope s_fewest_from) := ⟨rfl, rfl, rfl, by decide +kernel, rfl, by decide +kernel, by decide +kernel⟩
/-- what the search of a history's first state ends with -/
def FewEnd (C : Addr) (h : Hist) (sk : List Nat) (H : Hp) (Q : Nat → Hp → Prop) (E : XK) : Prop :=
  ((clsM h sk).length ≤ 14 → ∀ H' d, Same H H' → IsVal (testsM h sk (clsM h sk)) (Bm h (clsM h sk)) (inU (clsM h sk).length) d → Q d H') ∧ (14 < (clsM h sk).length → ∀ H', Same H H' → E (.ref C) none H')
def spFrom (C : Addr) : Sp := fun vs H Q E => ∃ (hv kv v : V) (h : Hist) (sk : List Nat), vs = [hv, kv, v] ∧ HistAt H hv h ∧ TupN H kv sk ∧ StAt H v (List.replicate (clsM h sk).length true) ∧ Small h ∧ 0 < h.length ∧ FewEnd C h sk H (fun d => Q (iv d)) E
theorem ok_fewest_from (F : FnP K "fewest_from" s_fewest_from f fd) (AC : Fn P w K mg base (L2.CX P w) 1 "check_size" ["state"] (spChk C)) (AR : Fn P w K mg base CX0 4 "rows_of" ["history", "skipped"] spRows)
    (AV : Fn P w K mg base CX0 18 "value" ["rows", "state", "known"] (spVal 15)) : FnOk P w K mg base (L2.CX P w) 19 f fd ["history", "skipped", "state"] (spFrom C) := by
  refine F.ok sc_fewest_from (fun vs H Q E h => ?_) (fun cdv A outer s H vs Q E hr h => ?_)
  · obtain ⟨hv, kv, v, h, sk, rfl, _⟩ := h
    rfl
  · obtain ⟨hv, kv, v, h, sk, rfl, hh, ht, hs, sm, hp, q, qe⟩ := h
    have hr1 : Room 1 _ := hr.mono (by decide)
    have hr4 : Room 4 _ := hr.mono (by decide)
    refine ⟨_, pss_cons (ps_expr (pe_fn (E := E) AC hr1 (passX (takes_of rfl rfl rfl rfl)) (pa_cons (pv 2) pa_nil)))
      (pss_one (ps_ret (pe_fn AV hr pass0 (pa_cons (pe_fn AR hr4 pass0 (pa_cons (pv 0) (pa_cons (pv 1) pa_nil))) (pa_cons (pv 2) (pa_cons pe_dnewT pa_nil)))))), ?_⟩
    have cn : (clsM h sk).length ≤ 24 := Nat.le_trans cls_len sm.1
    have c0 := cls_pos (sk := sk) hp
    refine ⟨v, rfl, v, _, rfl, hs, by rw [List.length_replicate]; exact c0, by rw [List.length_replicate]; exact cn, fun z H1 s1 => ?_, fun z H1 s1 => ?_⟩
    · rw [List.length_replicate, pow14 cn] at z
      refine ⟨hv, rfl, kv, rfl, hv, kv, h, sk, rfl, hh.same s1, ht.same s1, sm, fun H2 p s2 hrw => ?_⟩
      refine ⟨v, rfl, fun D nD => ?_⟩
      have s12 := s1.trans s2
      have o := tests_ok h sk (clsM h sk)
      have tl24 : (testsM h sk (clsM h sk)).length ≤ 24 := by
        have a1 := tst_len (h := h) (cls := clsM h sk) (tstb h.length sk) []
        have a2 := fl_le (fun m => !sk.contains m) h.length
        have := sm.1
        unfold testsM
        rw [List.length_nil] at a1
        have a3 : (tstb h.length sk).length ≤ h.length := a2
        omega
      have ol : (onesL (List.replicate (clsM h sk).length true)).length < 15 := by
        have := fl_le (fun k => (List.replicate (clsM h sk).length true).getD k false) (List.replicate (clsM h sk).length true).length
        rw [List.length_replicate] at this
        have e : (onesL (List.replicate (clsM h sk).length true)).length ≤ (clsM h sk).length := by
          unfold onesL
          rw [List.length_replicate]
          exact this
        omega
      refine ⟨.ref p, v, D, List.replicate (clsM h sk).length true, [], testsM h sk (clsM h sk), Bm h (clsM h sk), rfl, ?_, (hs.same s12).same (same_new nD), by rw [List.length_replicate]; exact z, tl24, ol, ?_, upd_same, known_nil, fun H3 kvs' d b ek hk hv => ?_⟩
      · rw [List.length_replicate]
        exact hrw.same (same_new nD)
      · rw [stS_all]
        exact fun i j hi hj ne => tests_sep (inU_iff.mp hi) (inU_iff.mp hj) ne
      · rw [stS_all] at hv
        refine q z H3 d (fun b' o hb => ?_) hv
        have := s12 _ _ hb
        exact b _ _ (ne_of_none this nD) (same_new nD _ _ this)
    · rw [List.length_replicate] at z
      refine qe ?_ H1 s1
      have := pow14 cn
      omega
/-! ### fewest -/
theorem sc_fewest : FnScope ["history", "skipped", "k"] ["history", "skipped", "k"] (defScope s_fewest) := ⟨rfl, rfl, rfl, by decide +kernel, rfl, by decide +kernel, by decide +kernel⟩
def spFew (C : Addr) : Sp := fun vs H Q E => ∃ (hv kv : V) (h : Hist) (sk : List Nat), vs = [hv, kv, .int 0] ∧ HistAt H hv h ∧ TupN H kv sk ∧ Small h ∧ 0 < h.length ∧ FewEnd C h sk H (fun d => Q (iv d)) E
theorem ok_fewest (F : FnP K "fewest" s_fewest f fd) (AF : Fn P w K mg base (L2.CX P w) 19 "fewest_from" ["history", "skipped", "state"] (spFrom C)) (AS : Fn P w K mg base CX0 3 "start" ["history", "skipped", "k"] spStart) :
    FnOk P w K mg base (L2.CX P w) 20 f fd ["history", "skipped", "k"] (spFew C) := by
  refine F.ok sc_fewest (fun vs H Q E h => ?_) (fun cdv A outer s H vs Q E hr h => ?_)
  · obtain ⟨hv, kv, h, sk, rfl, _⟩ := h
    rfl
  · obtain ⟨hv, kv, h, sk, rfl, hh, ht, sm, hp, q, qe⟩ := h
    have hr3 : Room 3 _ := hr.mono (by decide)
    refine ⟨_, pss_one (ps_ret (pe_fn (E := E) AF hr (passX (takes_of rfl rfl rfl rfl)) (pa_cons (pv 0) (pa_cons (pv 1) (pa_cons (pe_fn AS hr3 pass0 (pa_cons (pv 0) (pa_cons (pv 1) (pa_cons (pv 2) pa_nil)))) pa_nil))))), ?_⟩
    refine ⟨hv, rfl, kv, rfl, hv, rfl, kv, rfl, .int 0, rfl, hv, kv, h, sk, rfl, hh, ht, sm, hp, fun H1 p s1 ep => ?_⟩
    exact ⟨hv, kv, .ref p, h, sk, rfl, hh.same s1, ht.same s1, ⟨p, rfl, ep⟩, sm, hp, fun z H2 d s2 v => q z H2 d (s1.trans s2) v, fun z H2 s2 => qe z H2 (s1.trans s2)⟩
/-! ### fewest_by_make -/
theorem sc_fewest_by_make : FnScope ["history", "skipped", "k", "rule", "times"] ["history", "skipped", "k", "rule"] (defScope s_fewest_by_make) := ⟨rfl, rfl, rfl, by decide +kernel, rfl, by decide +kernel, by decide +kernel⟩
def spFbm (C : Addr) : Sp := fun vs H Q E => ∃ (hv kv : V) (h : Hist) (sk : List Nat) (k : Nat) (two : Bool), vs = [hv, kv, iv k, ruleS two] ∧ HistAt H hv h ∧ TupN H kv sk ∧ Small h ∧ 0 < h.length ∧ k ≤ 2 ∧ FewEnd C h sk H (fun d => Q (iv (timesOf k two * d))) E
theorem ok_fewest_by_make (F : FnP K "fewest_by_make" s_fewest_by_make f fd) (AF : Fn P w K mg base (L2.CX P w) 20 "fewest" ["history", "skipped", "k"] (spFew C)) : FnOk P w K mg base (L2.CX P w) 21 f fd ["history", "skipped", "k", "rule"] (spFbm C) := by
  refine F.ok sc_fewest_by_make (fun vs H Q E h => ?_) (fun cdv A outer s H vs Q E hr h => ?_)
  · obtain ⟨hv, kv, h, sk, k, two, rfl, _⟩ := h
    rfl
  · obtain ⟨hv, kv, h, sk, k, two, rfl, hh, ht, sm, hp, hk, q, qe⟩ := h
    refine ⟨_, pss_cons (ps_set (i := 4) sc_fewest_by_make.nd rfl (.inl rfl) (pe_ifExp (pt_cmpR op_eq (pv 3) pe_str (nomark _)) (pe_op op_add (pe_op op_mul pe_int (pv 2)) pe_int) (pe_op op_add (pv 2) pe_int)))
      (pss_one (ps_ret (pe_op op_mul (pv 4) (pe_fn (E := E) AF hr (passX (takes_of rfl rfl rfl rfl)) (pa_cons (pv 0) (pa_cons (pv 1) (pa_cons pe_int pa_nil))))))), ?_⟩
    have rest : ∀ t : Int, t = ((timesOf k two : Nat) : Int) → tRet (tOp (rI CMul fun i j => V.int (i * j)) (tVar 4) (tCall (spFew C) [] E (tCons (tVar 0) (tCons (tVar 1) (tCons (tC (.int 0)) tNil))))) { nx := fun _ H' => Q .non H', rt := Q } [some hv, some kv, some (iv k), some (ruleS two), some (.int t)] H := by
      rintro t rfl
      have t5 : timesOf k two ≤ 5 := by unfold timesOf; split <;> omega
      refine ⟨iv (timesOf k two), rfl, hv, rfl, kv, rfl, hv, kv, h, sk, rfl, hh, ht, sm, hp, fun z H1 d s1 v => ?_, fun z H1 s1 => qe z H1 s1⟩
      refine ⟨(timesOf k two : Nat), (d : Nat), rfl, rfl, .inl ⟨by omega, by omega⟩, ?_⟩
      have := q z H1 d s1 v
      have e : ((timesOf k two : Nat) : Int) * ((d : Nat) : Int) = ((timesOf k two * d : Nat) : Int) := by rw [Int.natCast_mul]
      show Q (V.int (((timesOf k two : Nat) : Int) * ((d : Nat) : Int))) H1
      rw [e]
      exact this
    refine ⟨ruleS two, rfl, rfl, _, rfl, ?_⟩
    cases two with
    | true =>
      refine ite2 (fun c => ?_) (fun c => absurd (decide_eq_true rfl) c)
      refine ⟨iv k, rfl, 2, _, rfl, rfl, .inl ⟨by decide, by decide⟩, _, 1, rfl, rfl, ?_⟩
      exact rest ((2 : Int) * ((k : Nat) : Int) + 1) (by unfold timesOf; rw [if_pos rfl]; omega)
    | false =>
      refine ite2 (fun c => absurd (of_decide_eq_true c) (by decide +kernel)) (fun c => ?_)
      refine ⟨iv k, rfl, _, 1, rfl, rfl, ?_⟩
      exact rest (((k : Nat) : Int) + 1) (by unfold timesOf; rw [if_neg Bool.false_ne_true]; omega)
end
end K26

set_option Elab.async false
set_option linter.all false
set_option maxRecDepth 100000
set_option maxHeartbeats 8000000
namespace K26
open PySem PySem.Spec PyProof.Rows L2
/-! set(xs), xs a list of ints: with the order that sorted wants -/
/-- the object of a new set -/
abbrev freshSet (w : World) : Obj := { cls := .type "set", dict := none, data := .set #[] 0 (.fresh 0 0 (!w.params.followText "set-order")) }
/-- the state with a new set -/
abbrev withSet (w : World) (s : Shared) : Shared := { s with heap := s.heap.push (freshSet w) }
/-- what a set made of ns has left behind -/
def SetMade (w : World) (s : Shared) (ns : List Int) (s2 : Shared) : Prop :=
  ∃ (h2 : Heap) (tk c : Nat), s2 = { s with heap := h2, toks := tk } ∧ SetR w h2 s.heap.objs.size (fun j => decide (j ∈ ns)) c ∧ c ≤ ns.length ∧ ∀ b o, s.heap.get? b = some o → h2.get? b = some o
section
variable {P : Program} {w : World} {A : Around} {E : Value → Shared → Prop} {s : Shared} {l : Addr} {its : Array Value} {ns : List Int}
theorem int_here (hit : IntsAre its.toList ns) : ∀ (i : Nat) (v : Value), its[i]? = some v → ∃ k t, ns[i]? = some k ∧ v = .int k t := fun i v hv => by
  have hsz : its.size = ns.length := by simpa using IntsAre.length hit
  have hi : i < ns.length := hsz ▸ (Array.getElem?_eq_some_iff.mp hv).1
  obtain ⟨t, e⟩ := IntsAre.int_at hit i v (by simpa using hv)
  rw [List.getD_eq_getElem?_getD, List.getElem?_eq_getElem hi] at e
  exact ⟨ns[i], t, List.getElem?_eq_getElem hi, e⟩
/-- the loop of set.__init__ over the list's iterator, from its start -/
theorem set_loop {B : Around} {R : Result → Shared → Prop} (hh : B.handled = none) (hl : s.heap.IsList l its) (hit : IntsAre its.toList ns) (hb : ns.length + 1 < scanBound)
    (hR : ∀ s2, SetMade w s ns s2 → R (.ok (.ret .none)) s2) :
    codeAny (model P w) B (.builtin "set.update.loop" ⟨[.ref s.heap.objs.size, .ref (s.heap.objs.size + 1)], []⟩) R
      { s with heap := (s.heap.push (freshSet w)).push { cls := .type "list_iterator", data := .fields #[.ref l, .int 0 0] } } := by
  have hsz : its.size = ns.length := by simpa using IntsAre.length hit
  have lS : l < s.heap.objs.size := let ⟨_, h, _⟩ := hl; Heap.lt_size h
  have z : (s.heap.push (freshSet w)).objs.size = s.heap.objs.size + 1 := Heap.size_push ..
  have neI : l ≠ s.heap.objs.size + 1 := Nat.ne_of_lt (Nat.lt_succ_of_lt lS)
  have nS : s.heap.objs.size ∉ [s.heap.objs.size + 1, l] := fun hm => by
    rcases List.mem_cons.mp hm with e | e
    · exact absurd e (Nat.ne_of_lt (Nat.lt_succ_self _))
    · exact absurd (List.mem_singleton.mp e).symm (Nat.ne_of_lt lS)
  have gS : (s.heap.push (freshSet w)).get? s.heap.objs.size = some (freshSet w) := Heap.get?_push_size _ rfl
  have gS2 : ((s.heap.push (freshSet w)).push { cls := .type "list_iterator", data := .fields #[.ref l, .int 0 0] }).get? s.heap.objs.size = some (freshSet w) := Heap.get?_push_of_some _ gS
  have gI : ((s.heap.push (freshSet w)).push { cls := .type "list_iterator", data := .fields #[.ref l, .int 0 0] }).get? (s.heap.objs.size + 1) = some { cls := .type "list_iterator", data := .fields #[.ref l, .int 0 0] } := by
    rw [← z]
    exact Heap.get?_push_size _ rfl
  have hB : B.in1.handled = none := by simp [hh]
  refine set_update_ints ((Walks.list hB (s.heap.objs.size + 1) l neI its).toS) s.heap.objs.size nS ns hsz hb (int_here hit) (its.size - 0) 0 _ rfl (Nat.zero_le _) ⟨⟨_, gI, rfl, rfl⟩, (hl.push _).push _⟩ ⟨0, Nat.le_refl 0, setR_new_at gS2⟩ fun s2 c hm hc hS => ?_
  obtain ⟨h2, g2, d2, tk, o2⟩ := s2
  obtain rfl : g2 = s.gens := hm.gens
  obtain rfl : d2 = s.drawn := hm.drawn
  obtain rfl : o2 = s.os := hm.os
  refine hR _ ⟨h2, tk, c, rfl, hS, by rw [← hsz]; exact hc, fun b o e => ?_⟩
  have lb := Heap.lt_size e
  refine hm.heap b o (fun q => ?_) (Heap.get?_push_of_some _ (Heap.get?_push_of_some _ e))
  rcases List.mem_cons.mp q with q | q
  · exact absurd q (Nat.ne_of_lt lb)
  · exact absurd (List.mem_singleton.mp q) (Nat.ne_of_lt (Nat.lt_succ_of_lt lb))
/-- set.__init__'s own body -/
theorem set_init {B : Around} {R : Result → Shared → Prop} (hh : B.handled = none) (hl : s.heap.IsList l its) (hit : IntsAre its.toList ns) (hb : ns.length + 1 < scanBound)
    (hR : ∀ s2, SetMade w s ns s2 → R (.ok (.ret .none)) s2) (hE : ∀ e s2, R (.error e) s2 → R (.error e) s2) :
    codeAny (model P w) B (.call (.builtin "set.__init__") ⟨[.ref s.heap.objs.size, .ref l], []⟩) R (withSet w s) := by
  have gS : (s.heap.push (freshSet w)).get? s.heap.objs.size = some (freshSet w) := Heap.get?_push_size _ rfl
  refine codeAny_call_builtin F.called_set.init.plain F.entry_set_init (check_set_init_1 ⟨_, gS, rfl⟩ ?_)
  obtain ⟨⟨oc, od, odt, osl⟩, ho, hc, n, hd⟩ := id hl
  simp only at hc hd
  subst hc hd
  have ho' : (s.heap.push (freshSet w)).get? l = some { cls := .type "list", dict := od, data := .seq its n, slots := osl } := Heap.get?_push_of_some _ ho
  have f1 := F.sub_list_set
  have f2 := F.sub_list_frozenset
  have f3 : (Value.type "list" == Value.type "dict") = false := by decide
  unfold Builtin.«set.__init__» noKeywords Builtin.Frozenset.updateFrom
  generalize hPI : pyIter = PI
  wp_walk
  subst hPI
  refine wpAny_pyIter_list (hl.push _) ?_
  refine wpAny_bind (wpAny_runValue ?_)
  have zz : (s.heap.push (freshSet w)).objs.size = s.heap.objs.size + 1 := Heap.size_push ..
  show codeAny _ _ (.builtin "set.update.loop" ⟨[.ref s.heap.objs.size, .ref (s.heap.push (freshSet w)).objs.size], []⟩) _ { s with heap := (s.heap.push (freshSet w)).push { cls := .type "list_iterator", data := .fields #[.ref l, .int 0 0] } }
  rw [zz]
  refine set_loop (B := B.in1) (by simp [hh]) hl hit hb fun s2 m => ?_
  show wpAny _ _ (pure ()) _ _ _
  refine wpAny_pure ?_
  show wpAny _ _ (ret Value.none) _ _ _
  exact wpAny_pure (hR s2 m)
/-- set(xs) -/
theorem set_call {Q : Value → Shared → Prop} (hh : A.handled = none) (hl : s.heap.IsList l its) (hit : IntsAre its.toList ns) (hb : ns.length + 1 < scanBound) (h : ∀ s2, SetMade w s ns s2 → Q (.ref s.heap.objs.size) s2) :
    wpAny (model P w) A (call (.type "set") [.ref l]) Q E s := by
  obtain ⟨c0, t0, m0⟩ := F.called_set.mro
  have m1 := F.called_set.made
  have m2 := F.called_set.sub
  have m3 := F.called_set.notType
  have m4 := F.called_set.canCreate
  have m5 := F.typeCall_set_1 (.ref l)
  have m6 := F.called_set.init.lookup
  have m7 := F.called_set.init.bind (.ref s.heap.objs.size)
  refine wpAny_call (codeAny_of_tree ?_)
  show wpAny _ _ (callAny (.type "set") _) _ _ _
  refine wpAny_pure ⟨Code.quiet_builtin _ (by decide +kernel), codeAny_builtin F.entry_type_call ?_⟩
  rw [Around.under_plain (weight_type_call_type "set" [.ref l] []) rfl]
  repeat (any_goals (first | assumption | wp_step))
  refine codeAny_mono (code_set_led1 (.ref l) (E := E) (Q₁ := fun o s1 => o = .ref s.heap.objs.size ∧ s1 = withSet w s) ⟨rfl, rfl⟩) fun r s1 hr => ?_
  match r, hr with
  | .ok (.ret o), hr =>
    obtain ⟨rfl, rfl⟩ := hr
    have gS : (s.heap.push (freshSet w)).get? s.heap.objs.size = some (freshSet w) := Heap.get?_push_size _ rfl
    have tS : Shared.TypeIs (withSet w s) (.ref s.heap.objs.size) "set" := ⟨_, gS, rfl⟩
    repeat (any_goals (first | assumption | wp_step))
    refine set_init (B := A.in1) (by simp [hh]) hl hit hb (fun s2 m => ?_) fun _ _ z => z
    repeat (any_goals (first | assumption | wp_step))
    exact h s2 m
  | .error e, hr => exact hr
section
variable {X : Cx}
/-- set(xs) as a value -/
def rSetI (K : PySem.W.Frag) (w : World) : List V → Hp → VK → Prop := fun vs H Q => ∃ (a : Addr) (ns : List Int), vs = [V.ref a] ∧ SqL K H a (ns.map V.int) ∧ ns.length ≤ 1000 ∧
  ∀ p c, H p = none → c ≤ ns.length → Q (.ref p) (upd H p (SetO w p (fun j => decide (j ∈ ns)) c))
theorem cr_setI (hc : X.calm = true) : CallR X (.type "set") (rSetI X.K X.w) := by
  intro pins s σ H vs us Q I r h
  obtain ⟨a, ns, rfl, hs, hn, q⟩ := h
  obtain ⟨its, rv, hl, hz⟩ := I.list hs
  rw [Vals.ref1 r]
  refine set_call (ns := ns) (I.ok.hd hc) hl.isList (by simpa using rv.ints) (by unfold scanBound; omega) fun s2 m => ?_
  obtain ⟨h2, tk, c, rfl, hS, hcl, hk⟩ := m
  exact ⟨.ref _, upd H s.heap.objs.size (SetO X.w s.heap.objs.size (fun j => decide (j ∈ ns)) c), I.laid hk (Nat.le_refl _) (setO_new hS), rfl, q _ c (I.hok.fresh (Nat.le_refl _)) hcl⟩
end
end
end K26

set_option Elab.async false
set_option linter.all false
set_option maxRecDepth 100000
set_option maxHeartbeats 4000000
namespace K26
open PySem PySem.Spec PyProof.Rows L2
section
variable {P : Program} {w : World} {K : PySem.W.Frag} {mg : PySem.Str → Option Value} {base : Heap} {f : Addr} {fd : FuncData} {C : Addr}
/-! ### _law_cell -/
theorem sc_L_cell : FnScope ["_law_script", "_law_k"] ["_law_script", "_law_k"] (defScope s_L_cell) := ⟨rfl, rfl, rfl, by decide +kernel, rfl, by decide +kernel, by decide +kernel⟩
def spCell26 (K : PySem.W.Frag) : Sp := fun vs H Q _ => ∃ (a : Addr) (ns : List Int) (k : Nat), vs = [.ref a, iv k] ∧ SqL K H a (ns.map V.int) ∧ ∀ c : Int, Q (.int c) H
theorem ok_L_cell (F : FnP K "_law_cell" s_L_cell f fd) (T : Blt mg) : FnOk P w K mg base CX0 1 f fd ["_law_script", "_law_k"] (spCell26 K) := by
  refine F.ok sc_L_cell (fun vs H Q E h => ?_) (fun cdv A outer s H vs Q E hr h => ?_)
  · obtain ⟨a, ns, k, rfl, _⟩ := h
    rfl
  · obtain ⟨a, ns, k, rfl, hs, q⟩ := h
    refine ⟨_, PSs.nox (pss_cons (ps_if (pt_cmpR op_lt (pv 1) (pe_callB call_len_seq rfl T.len PySem.boot_len (pa_cons (pv 0) pa_nil)) (nomark _)) (pss_one (ps_ret (pe_ix ix_list (pv 0) (pv 1) (fun _ _ => rfl)))) pss_nil)
      (pss_one (ps_ret pe_int))), ?_⟩
    refine ⟨iv k, rfl, .ref a, rfl, a, _, rfl, .inl hs, _, _, rfl, rfl, _, rfl, ite2 (fun c => ?_) (fun c => q 0)⟩
    have hk : k < ns.length := by have := of_decide_eq_true c; rw [List.length_map] at this; omega
    exact ⟨.ref a, rfl, iv k, rfl, a, _, _, .int ns[k], rfl, rfl, hs, atI_nat (by rw [List.getElem?_map, List.getElem?_eq_getElem hk]; rfl), q _⟩
/-! ### _law_digits -/
abbrev nDigits : List PySem.Str := ["_law_script", "_law_first", "_law_last", "_law_digits_here", "_law_k", "_law_cell_here", "_law_turn", "_law_seed"]
theorem sc_L_digits : FnScope nDigits ["_law_script", "_law_first", "_law_last"] (defScope s_L_digits) := ⟨rfl, rfl, rfl, by decide +kernel, rfl, by decide +kernel, by decide +kernel⟩
def spDig (K : PySem.W.Frag) : Sp := fun vs H Q _ => ∃ (a : Addr) (ns : List Int), vs = [.ref a, .int 0, .int 63] ∧ SqL K H a (ns.map V.int) ∧ ∀ H' p (ds : List Int), Same H H' → H p = none → H' p = some (.lst (ds.map V.int)) → Q (.ref p) H'
theorem ok_L_digits (F : FnP K "_law_digits" s_L_digits f fd) (T : Blt mg) (B1 : Fn P w K mg base CX0 1 "_law_cell" ["_law_script", "_law_k"] (spCell26 K)) : FnOk P w K mg base CX0 2 f fd ["_law_script", "_law_first", "_law_last"] (spDig K) := by
  refine F.ok sc_L_digits (fun vs H Q E h => ?_) (fun cdv A outer s H vs Q E hr h => ?_)
  · obtain ⟨a, ns, rfl, _⟩ := h
    rfl
  · obtain ⟨a, ns, rfl, hs, q⟩ := h
    refine ⟨_, PSs.nox (pss_cons (ps_set (i := 3) sc_L_digits.nd rfl (.inl rfl) (pe_lst pa_nil))
      (pss_cons (ps_for PassesOwn.never rfl (pi_range2 rfl T.range (pa_cons (pv 1) (pa_cons (pv 2) pa_nil))) (pg_name (i := 4) sc_L_digits.nd rfl (.inl rfl))
      (pss_cons (ps_set (i := 5) sc_L_digits.nd rfl (.inl rfl) (pe_fn B1 hr pass0 (pa_cons (pv 0) (pa_cons (pv 4) pa_nil))))
      (pss_cons (ps_if (pt_cmpR op_lt (pv 5) pe_int (nomark _)) (pss_one (ps_set (i := 5) sc_L_digits.nd rfl (.inl rfl) (pe_op op_sub pe_int (pe_op op_mul pe_int (pv 5))))) pss_nil)
      (pss_one (ps_if (pt_cmpR op_ge (pv 5) (pe_op op_pow pe_int pe_int) (nomark _)) (pss_one (ps_for PassesOwn.never rfl (pi_range1 rfl T.range (pa_cons pe_int pa_nil)) (pg_name (i := 6) sc_L_digits.nd rfl (.inl rfl))
      (pss_one (ps_if (pt_cmpR op_gt (pv 5) pe_int (nomark _)) (pss_cons (ps_expr (pe_bm PySem.F.plainAttrs_list PySem.F.slot_list_append PySem.F.type_list_append mt_append (pv 3) (pa_cons (pe_op op_mod (pe_callTy call_int1 rfl T.int (by decide +kernel) (pa_cons (pv 5) pa_nil)) pe_int) pa_nil)))
      (pss_one (ps_set (i := 5) sc_L_digits.nd rfl (.inl rfl) (pe_op op_fdiv (pv 5) pe_int)))) pss_nil)))) (pss_cons (ps_set (i := 7) sc_L_digits.nd rfl (.inl rfl) (pe_op op_mod (pe_callTy call_int1 rfl T.int (by decide +kernel) (pa_cons (pe_op op_add (pe_op op_add (pe_op op_mul (pv 5) pe_int) (pe_op op_mul (pv 4) pe_int)) pe_int) pa_nil)) pe_int))
      (pss_one (ps_for PassesOwn.never rfl (pi_range1 rfl T.range (pa_cons pe_int pa_nil)) (pg_name (i := 6) sc_L_digits.nd rfl (.inl rfl))
      (pss_cons (ps_set (i := 7) sc_L_digits.nd rfl (.inl rfl) (pe_op op_mod (pe_callTy call_int1 rfl T.int (by decide +kernel) (pa_cons (pe_op op_add (pe_op op_add (pe_op op_mul (pv 7) pe_int) (pe_op op_mul pe_int (pv 6))) pe_int) pa_nil)) pe_int))
      (pss_one (ps_expr (pe_bm PySem.F.plainAttrs_list PySem.F.slot_list_append PySem.F.type_list_append mt_append (pv 3) (pa_cons (pe_op op_mod (pe_callTy call_int1 rfl T.int (by decide +kernel) (pa_cons (pe_op op_fdiv (pv 7) pe_int) pa_nil)) pe_int) pa_nil)))))))))))))
      (pss_one (ps_ret (pv 3))))), ?_⟩
    refine ⟨Nat.zero_le _, fun D nD => ?_⟩
    refine ⟨.int 0, rfl, .int 63, rfl, 0, 63, rfl, ⟨by decide, by decide, by decide, by decide⟩, ?_⟩
    refine for_rng (n := 63) (fun i σ H' => ∃ y4 y5 y6 y7 ds, σ = [some (.ref a), some (.int 0), some (.int 63), some (.ref D), y4, y5, y6, y7] ∧ Same H H' ∧ H' D = some (.lst (List.map V.int ds)) ∧ ds.length ≤ 60 * i) ?_ (fun i σ H' hi z => ?_) (fun σ H' z => ?_)
    · exact ⟨none, none, none, none, [], rfl, same_new nD, upd_same, by simp⟩
    · obtain ⟨y4, y5, y6, y7, ds, rfl, s1, eD, hl⟩ := z
      refine ⟨.ref a, rfl, iv i, rfl, a, ns, i, rfl, s1.seq hs, fun c0 => ?_⟩
      refine ⟨.int c0, rfl, c0, 0, rfl, rfl, _, rfl, ?_⟩
      refine ite2 (fun _ => ⟨.int c0, rfl, 2, c0, rfl, rfl, .inl ⟨by decide, by decide⟩, 1, _, rfl, rfl, ?_⟩) (fun _ => ?_)
      all_goals
        refine ⟨_, rfl, 10, 18, rfl, rfl, ⟨by decide, by decide, by decide⟩, _, _, rfl, rfl, _, rfl, ite2 (fun _ => ?_) (fun _ => ?_)⟩
        · refine ⟨60, rfl, by decide, by decide, ?_⟩
          refine for_rng (n := 60) (fun j σ H' => ∃ y4 c y6 y7 ds, σ = [some (.ref a), some (.int 0), some (.int 63), some (.ref D), y4, some (.int c), y6, y7] ∧ Same H H' ∧ H' D = some (.lst (List.map V.int ds)) ∧ ds.length ≤ 60 * i + j) ?_ (fun j σ H' hj z => ?_) (fun σ H' z => ?_)
          · exact ⟨_, _, _, _, ds, rfl, s1, eD, hl⟩
          · obtain ⟨y4, c, y6, y7, ds, rfl, s1, eD, hl⟩ := z
            refine ⟨_, rfl, c, 0, rfl, rfl, _, rfl, ite2 (fun _ => ?_) (fun _ => ⟨_, c, _, _, ds, rfl, s1, eD, by omega⟩)⟩
            refine ⟨.ref D, rfl, .inl ⟨rfl, _, .inl (.inl eD)⟩, _, rfl, .inl ⟨c, rfl, c, 1000, rfl, rfl, by show (0 : Int) < 1000; decide, ?_⟩⟩
            refine ⟨D, _, _, rfl, rfl, eD, by rw [List.length_map]; exact szl' (by omega), ?_⟩
            refine ⟨_, rfl, c, 1000, rfl, rfl, ⟨by decide, by decide⟩, ?_⟩
            exact ⟨_, _, _, _, ds ++ [c % 1000], rfl, s1.ow nD, by rw [upd_same, List.map_append]; rfl, by simp; omega⟩
          · obtain ⟨y4, c, y6, y7, ds, rfl, s1, eD, hl⟩ := z
            exact ⟨_, _, _, _, ds, rfl, s1, eD, by omega⟩
        · refine ⟨_, rfl, _, 48271, rfl, rfl, .inr ⟨by decide, by decide⟩, iv i, rfl, _, 69621, rfl, rfl, .inr ⟨by decide, by decide⟩, _, _, rfl, rfl, _, 11, rfl, rfl, .inl ⟨_, rfl, _, 2147483647, rfl, rfl, by show (0 : Int) < 2147483647; decide, ?_⟩⟩
          refine ⟨12, rfl, by decide, by decide, ?_⟩
          refine for_rng (n := 12) (fun j σ H' => ∃ y4 y5 y6 c ds, σ = [some (.ref a), some (.int 0), some (.int 63), some (.ref D), y4, y5, y6, some (.int c)] ∧ Same H H' ∧ H' D = some (.lst (List.map V.int ds)) ∧ ds.length ≤ 60 * i + j) ?_ (fun j σ H' hj z => ?_) (fun σ H' z => ?_)
          · exact ⟨_, _, _, _, ds, rfl, s1, eD, hl⟩
          · obtain ⟨y4, y5, y6, c, ds, rfl, s1, eD, hl⟩ := z
            refine ⟨_, rfl, c, 16807, rfl, rfl, .inr ⟨by decide, by decide⟩, iv j, rfl, 7, _, rfl, rfl, .inl ⟨by decide, by decide⟩, _, _, rfl, rfl, _, 1, rfl, rfl, .inl ⟨_, rfl, _, 2147483647, rfl, rfl, by show (0 : Int) < 2147483647; decide, ?_⟩⟩
            refine ⟨.ref D, rfl, .inl ⟨rfl, _, .inl (.inl eD)⟩, _, rfl, _, 997, rfl, rfl, ⟨by decide, by decide⟩, .inl ⟨_, rfl, _, 1000, rfl, rfl, by show (0 : Int) < 1000; decide, ?_⟩⟩
            refine ⟨D, _, _, rfl, rfl, eD, by rw [List.length_map]; exact szl' (by omega), ?_⟩
            exact ⟨_, _, _, _, ds ++ [_], rfl, s1.ow nD, by rw [upd_same, List.map_append]; rfl, by simp; omega⟩
          · obtain ⟨y4, y5, y6, c, ds, rfl, s1, eD, hl⟩ := z
            exact ⟨_, _, _, _, ds, rfl, s1, eD, by omega⟩
    · obtain ⟨y4, y5, y6, y7, ds, rfl, s1, eD, hl⟩ := z
      exact ⟨.ref D, rfl, q H' D ds s1 nD eD⟩
end
end K26

set_option Elab.async false
set_option linter.all false
set_option maxRecDepth 100000
set_option maxHeartbeats 4000000
namespace K26
open PySem PySem.Spec PyProof.Rows L2
/-- the box: the digits, the place -/
def BoxAt (H : Hp) (b dl : Addr) : Prop := ∃ ds n, H b = some (.lst [.ref dl, iv n]) ∧ H dl = some (.lst (List.map V.int ds))
theorem box_ne {H : Hp} {b dl : Addr} {ds : List Int} {n : Nat} (h1 : H b = some (.lst [.ref dl, iv n])) (h2 : H dl = some (.lst (List.map V.int ds))) : dl ≠ b := by
  rintro rfl
  rw [h1] at h2
  have := HO.lst.inj (Option.some.inj h2)
  cases ds with
  | nil => cases this
  | cons a r => cases this
theorem BoxAt.same {H H' : Hp} {b dl : Addr} (t : BoxAt H b dl) (s : Same H H') : BoxAt H' b dl := by
  obtain ⟨ds, n, h1, h2⟩ := t
  exact ⟨ds, n, s _ _ h1, s _ _ h2⟩
/-- a list of ints is not the box -/
theorem BoxAt.ne {H : Hp} {b dl a : Addr} {l : List Nat} (t : BoxAt H b dl) (h : H a = some (.lst (l.map iv))) : a ≠ b := by
  obtain ⟨ds, n, h1, h2⟩ := t
  rintro rfl
  rw [h1] at h
  have := HO.lst.inj (Option.some.inj h)
  cases l with
  | nil => cases this
  | cons a r => cases this
theorem BoxAt.there {H : Hp} {b dl : Addr} (t : BoxAt H b dl) : ∃ o, H b = some o := by
  obtain ⟨ds, n, h1, _⟩ := t
  exact ⟨_, h1⟩
theorem BoxAt.there2 {H : Hp} {b dl : Addr} (t : BoxAt H b dl) : ∃ o, H dl = some o := by
  obtain ⟨ds, n, _, h1⟩ := t
  exact ⟨_, h1⟩
section
variable {P : Program} {w : World} {K : PySem.W.Frag} {mg : PySem.Str → Option Value} {base : Heap} {f : Addr} {fd : FuncData} {C : Addr}
/-! ### _law_draw -/
theorem sc_L_draw : FnScope ["_law_box", "_law_many", "_law_at"] ["_law_box", "_law_many"] (defScope s_L_draw) := ⟨rfl, rfl, rfl, by decide +kernel, rfl, by decide +kernel, by decide +kernel⟩
def spDraw : Sp := fun vs H Q _ => ∃ (b dl : Addr) (n : Nat), vs = [.ref b, iv n] ∧ 0 < n ∧ BoxAt H b dl ∧ ∀ H' (r : Nat), r < n → But b H H' → BoxAt H' b dl → Q (iv r) H'
theorem ok_L_draw (F : FnP K "_law_draw" s_L_draw f fd) (T : Blt mg) : FnOk P w K mg base CX0 1 f fd ["_law_box", "_law_many"] spDraw := by
  refine F.ok sc_L_draw (fun vs H Q E h => ?_) (fun cdv A outer s H vs Q E hr h => ?_)
  · obtain ⟨b, dl, n, rfl, _⟩ := h
    rfl
  · obtain ⟨b, dl, n, rfl, hn, hb, q⟩ := h
    refine ⟨_, PSs.nox (pss_cons (ps_set (i := 2) sc_L_draw.nd rfl (.inl rfl) (pe_ix ix_list (pv 0) pe_int (fun _ _ => rfl)))
      (pss_cons (ps_asg (pe_op op_add (pv 2) pe_int) (pg_sub (pv 0) pe_int set_list))
      (pss_cons (ps_if (pt_cmpR op_lt (pv 2) (pe_callB call_len_seq rfl T.len PySem.boot_len (pa_cons (pe_ix ix_list (pv 0) pe_int (fun _ _ => rfl)) pa_nil)) (nomark _))
        (pss_one (ps_ret (pe_op op_mod (pe_callTy call_int1 rfl T.int (by decide +kernel) (pa_cons (pe_ix ix_list (pe_ix ix_list (pv 0) pe_int (fun _ _ => rfl)) (pv 2) (fun _ _ => rfl)) pa_nil)) (pv 1)))) pss_nil)
      (pss_one (ps_ret pe_int))))), ?_⟩
    obtain ⟨ds, m, h1, h2⟩ := hb
    have nd := box_ne h1 h2
    have h2' : upd H b (.lst [.ref dl, .int ((m : Int) + 1)]) dl = some (.lst (List.map V.int ds)) := up_ne h2 nd
    have bx : BoxAt (upd H b (.lst [.ref dl, .int ((m : Int) + 1)])) b dl := ⟨ds, m + 1, upd_same, h2'⟩
    have bt : But b H (upd H b (.lst [.ref dl, .int ((m : Int) + 1)])) := (But.refl b H).put
    refine ⟨.ref b, rfl, b, _, 1, iv m, rfl, rfl, SqL.of h1, rfl, ?_⟩
    refine ⟨iv m, rfl, (m : Int), 1, rfl, rfl, .ref b, rfl, b, _, 1, 1, rfl, rfl, h1, rfl, ?_⟩
    have hs : SqL K (upd H b (.lst [.ref dl, .int ((m : Int) + 1)])) b [.ref dl, .int ((m : Int) + 1)] := SqL.of upd_same
    refine ⟨iv m, rfl, .ref b, rfl, b, _, 0, .ref dl, rfl, rfl, hs, rfl, dl, _, rfl, .inl (SqL.of h2'), _, _, rfl, rfl, _, rfl, ite2 (fun c => ?_) (fun c => ?_)⟩
    · have hm : m < ds.length := by have := of_decide_eq_true c; rw [List.length_map] at this; omega
      refine ⟨.ref b, rfl, b, _, 0, .ref dl, rfl, rfl, hs, rfl, iv m, rfl, dl, _, (m : Int), .int ds[m], rfl, rfl, SqL.of h2', atI_nat (by rw [List.getElem?_map, List.getElem?_eq_getElem hm]; rfl), ?_⟩
      refine .inl ⟨_, rfl, iv n, rfl, _, (n : Int), rfl, rfl, by show (0 : Int) < (n : Int); omega, ?_⟩
      have e1 : 0 ≤ ds[m] % (n : Int) := Int.emod_nonneg _ (by omega)
      have e2 : ds[m] % (n : Int) < (n : Int) := Int.emod_lt_of_pos _ (by omega)
      have := q _ (ds[m] % (n : Int)).toNat (by omega) bt bx
      have e3 : (((ds[m] % (n : Int)).toNat : Nat) : Int) = ds[m] % (n : Int) := Int.toNat_of_nonneg e1
      show Q (V.int (ds[m] % (n : Int))) _
      rw [← e3]
      exact this
    · exact q _ 0 hn bt bx
/-! ### _law_parents -/
theorem sc_L_parents : FnScope ["_law_box", "_law_k", "_law_ends", "_law_at", "_law_one", "_law_other"] ["_law_box", "_law_k", "_law_ends"] (defScope s_L_parents) := ⟨rfl, rfl, rfl, by decide +kernel, rfl, by decide +kernel, by decide +kernel⟩
def spPar : Sp := fun vs H Q _ => ∃ (b dl e : Addr) (k : Nat) (es : List Nat), vs = [.ref b, iv k, .ref e] ∧ 0 < k ∧ BoxAt H b dl ∧ H e = some (.lst (es.map iv)) ∧ es.length ≤ 24 ∧
  ∀ H' p (ps : List Nat), ps.length ≤ 24 → But b H H' → BoxAt H' b dl → H' p = some (.tup (ps.map iv)) → Q (.ref p) H'
theorem cut_iv (es : List Nat) (lo hi : Option Int) : ∃ ps : List Nat, cutV (es.map iv) lo hi = ps.map iv ∧ ps.length ≤ es.length := by
  unfold cutV
  refine ⟨_, by rw [← List.map_drop, ← List.map_take], ?_⟩
  rw [List.length_take, List.length_drop]
  omega
theorem nats_of {ns : List Int} (h : ∀ x ∈ ns, 0 ≤ x) : ns = (ns.map Int.toNat).map (fun n : Nat => (n : Int)) := by
  rw [List.map_map]
  refine ((List.map_congr_left (g := id) fun x hx => ?_).trans (List.map_id _)).symm
  exact Int.toNat_of_nonneg (h x hx)
theorem ok_L_parents (F : FnP K "_law_parents" s_L_parents f fd) (T : Blt mg) (B3 : Fn P w K mg base CX0 1 "_law_draw" ["_law_box", "_law_many"] spDraw) : FnOk P w K mg base CX0 2 f fd ["_law_box", "_law_k", "_law_ends"] spPar := by
  refine F.ok sc_L_parents (fun vs H Q E h => ?_) (fun cdv A outer s H vs Q E hr h => ?_)
  · obtain ⟨b, dl, e, k, es, rfl, _⟩ := h
    rfl
  · obtain ⟨b, dl, e, k, es, rfl, hk, hb, he, hl, q⟩ := h
    refine ⟨_, PSs.nox (pss_cons (ps_if (pt_cmpR op_gt (pe_callB call_len_seq rfl T.len PySem.boot_len (pa_cons (pv 2) pa_nil)) pe_int (nomark _))
        (pss_cons (ps_set (i := 3) sc_L_parents.nd rfl (.inl rfl) (pe_fn B3 hr pass0 (pa_cons (pv 0) (pa_cons (pe_op op_sub (pe_callB call_len_seq rfl T.len PySem.boot_len (pa_cons (pv 2) pa_nil)) pe_int) pa_nil))))
        (pss_one (ps_ret (pe_callTy call_tuple_of rfl T.tuple (by decide +kernel) (pa_cons (pe_slice sl_list (pv 2) (po_some (pv 3)) (po_some (pe_op op_add (pv 3) pe_int))) pa_nil))))) pss_nil)
      (pss_cons (ps_if (pt_cmpR op_eq (pe_fn B3 hr pass0 (pa_cons (pv 0) (pa_cons pe_int pa_nil))) pe_int (nomark _)) (pss_one (ps_ret (pe_tup pa_nil))) pss_nil)
      (pss_cons (ps_set (i := 4) sc_L_parents.nd rfl (.inl rfl) (pe_fn B3 hr pass0 (pa_cons (pv 0) (pa_cons (pv 1) pa_nil))))
      (pss_cons (ps_set (i := 5) sc_L_parents.nd rfl (.inl rfl) (pe_fn B3 hr pass0 (pa_cons (pv 0) (pa_cons (pv 1) pa_nil))))
      (pss_one (ps_ret (pe_callTy call_tuple_of rfl T.tuple (by decide +kernel) (pa_cons (pe_callB (cr_sortedSet rfl) rfl T.sorted (by decide +kernel) (pa_cons (pe_callTy (cr_setI rfl) rfl T.set (by decide +kernel) (pa_cons (pe_lst (pa_cons (pv 4) (pa_cons (pv 5) pa_nil))) pa_nil)) pa_nil)) pa_nil)))))))), ?_⟩
    refine ⟨.ref e, rfl, e, _, rfl, .inl (SqL.of he), _, 2, rfl, rfl, _, rfl, ite2 (fun c => ?_) (fun c => ?_)⟩
    · have c2 : 2 < es.length := by have := of_decide_eq_true c; rw [List.length_map] at this; omega
      refine ⟨.ref b, rfl, .ref e, rfl, e, _, rfl, .inl (SqL.of he), _, 1, rfl, rfl, b, dl, es.length - 1, ?_, by omega, hb, fun H1 r hr1 b1 bx1 => ?_⟩
      · have e1 : (((es.map iv).length : Nat) : Int) - 1 = ((es.length - 1 : Nat) : Int) := by rw [List.length_map]; omega
        show [V.ref b, V.int ((((es.map iv).length : Nat) : Int) - 1)] = _
        rw [e1]
      · have he1 := b1 _ _ (hb.ne he) he
        refine ⟨.ref e, rfl, iv r, rfl, (r : Int), rfl, iv r, rfl, (r : Int), 2, rfl, rfl, _, rfl, e, _, rfl, SqL.of he1, fun p np => ?_⟩
        obtain ⟨ps, e1, e2⟩ := cut_iv es (some (r : Int)) (some ((r : Int) + 2))
        refine ⟨p, _, rfl, .inl ⟨SqL.of upd_same, fun u nu => ?_⟩⟩
        have s2 := (same_new np (o := .lst (cutV (es.map iv) (some (r : Int)) (some ((r : Int) + 2))))).nw nu (o := .tup (cutV (es.map iv) (some (r : Int)) (some ((r : Int) + 2))))
        exact q _ u ps (by omega) (b1.trans (But.of s2)) (bx1.same s2) (by rw [upd_same, e1])
    · refine ⟨.ref b, rfl, b, dl, 6, rfl, by omega, hb, fun H1 r hr1 b1 bx1 => ?_⟩
      refine ⟨rfl, _, rfl, ite2 (fun c => ?_) (fun c => ?_)⟩
      · refine ⟨Nat.zero_le _, fun p np => ?_⟩
        exact q _ p [] (by simp) (b1.trans (But.of (same_new np))) (bx1.same (same_new np)) upd_same
      · refine ⟨.ref b, rfl, iv k, rfl, b, dl, k, rfl, hk, bx1, fun H2 x hx b2 bx2 => ?_⟩
        refine ⟨.ref b, rfl, iv k, rfl, b, dl, k, rfl, hk, bx2, fun H3 y hy b3 bx3 => ?_⟩
        refine ⟨iv x, rfl, iv y, rfl, by show 2 ≤ sizeLine; exact szl (by omega), fun u nu => ?_⟩
        refine ⟨u, [(x : Int), (y : Int)], rfl, SqL.of upd_same, by simp, fun t c nt hc => ?_⟩
        refine ⟨t, _, c, rfl, upd_same, by simp at hc; omega, fun ns p asc mem hlen np => ?_⟩
        refine ⟨p, _, rfl, .inl ⟨SqL.of upd_same, fun v nv => ?_⟩⟩
        have s4 := (((same_new nu).nw nt).nw np).nw nv (o := .tup (ns.map V.int))
        have pos : ∀ z ∈ ns, 0 ≤ z := fun z hz => by
          have := (mem z).mp hz
          simp at this
          omega
        refine q _ v (ns.map Int.toNat) (by rw [List.length_map, hlen]; simp at hc; omega) (((b1.trans b2).trans b3).trans (But.of s4)) (bx3.same s4) ?_
        rw [upd_same, ivs_int, ← nats_of pos]
end
end K26

set_option Elab.async false
set_option linter.all false
set_option maxRecDepth 100000
set_option maxHeartbeats 4000000
namespace K26
open PySem PySem.Spec PyProof.Rows L2
section
variable {P : Program} {w : World} {K : PySem.W.Frag} {mg : PySem.Str → Option Value} {base : Heap} {f : Addr} {fd : FuncData} {C : Addr}
/-! ### _law_history -/
abbrev nHistory : List PySem.Str := ["_law_box", "_law_most", "_law_many", "_law_makes", "_law_ends", "_law_k", "_law_parents_here", "_law_end"]
theorem sc_L_history : FnScope nHistory ["_law_box", "_law_most"] (defScope s_L_history) := ⟨rfl, rfl, rfl, by decide +kernel, rfl, by decide +kernel, by decide +kernel⟩
def spHist : Sp := fun vs H Q _ => ∃ (b dl : Addr) (n : Nat), vs = [.ref b, iv n] ∧ 0 < n ∧ n ≤ 5 ∧ BoxAt H b dl ∧
  ∀ H' p (h : Hist), But b H H' → BoxAt H' b dl → HistAt H' (.ref p) h → 0 < h.length → h.length ≤ n → Small h → Q (.ref p) H'
theorem letters : ∀ k : Nat, k < 5 → ∃ c, (Str.ofString "abcdefghijklmnopqrstuvwx").cps.toList[k]? = some c := by
  intro k hk
  have : (Str.ofString "abcdefghijklmnopqrstuvwx").cps.toList.length = 24 := by decide +kernel
  exact ⟨_, List.getElem?_eq_getElem (by omega)⟩
theorem ok_L_history (F : FnP K "_law_history" s_L_history f fd) (T : Blt mg) (B3 : Fn P w K mg base CX0 1 "_law_draw" ["_law_box", "_law_many"] spDraw) (B4 : Fn P w K mg base CX0 2 "_law_parents" ["_law_box", "_law_k", "_law_ends"] spPar) :
    FnOk P w K mg base CX0 3 f fd ["_law_box", "_law_most"] spHist := by
  refine F.ok sc_L_history (fun vs H Q E h => ?_) (fun cdv A outer s H vs Q E hr h => ?_)
  · obtain ⟨b, dl, n, rfl, _⟩ := h
    rfl
  · obtain ⟨b, dl, n, rfl, hn, hn5, hb, q⟩ := h
    have hr1 : Room 1 _ := hr.mono (by decide)
    refine ⟨_, PSs.nox (pss_cons (ps_set (i := 2) sc_L_history.nd rfl (.inl rfl) (pe_op op_add pe_int (pe_fn B3 hr1 pass0 (pa_cons (pv 0) (pa_cons (pv 1) pa_nil)))))
      (pss_cons (ps_set (i := 3) sc_L_history.nd rfl (.inl rfl) (pe_lst pa_nil))
      (pss_cons (ps_set (i := 4) sc_L_history.nd rfl (.inl rfl) (pe_lst pa_nil))
      (pss_cons (ps_for PassesOwn.never rfl (pi_range1 rfl T.range (pa_cons (pv 2) pa_nil)) (pg_name (i := 5) sc_L_history.nd rfl (.inl rfl))
        (pss_cons (ps_set (i := 6) sc_L_history.nd rfl (.inr rfl) (pe_tup pa_nil))
        (C8.pss_cut (ps_if (pt_cmpR op_eq (pv 5) (pe_op op_sub (pv 2) pe_int) (nomark _))
            (pss_one (ps_set (i := 6) sc_L_history.nd rfl (.inr rfl) (pe_callTy call_tuple_of rfl T.tuple (by decide +kernel) (pa_cons (pv 4) pa_nil))))
            (pss_one (ps_if (pt_cmpR op_gt (pv 5) pe_int (nomark _)) (pss_one (ps_set (i := 6) sc_L_history.nd rfl (.inr rfl) (pe_fn B4 hr pass0 (pa_cons (pv 0) (pa_cons (pv 5) (pa_cons (pv 4) pa_nil)))))) pss_nil)))
        (pss_cons (ps_set (i := 4) sc_L_history.nd rfl (.inl rfl) (pe_op op_cat (pe_lc (own := [("_law_end", 7)]) (g := gName 7) rfl sc_L_history.nd (pi_list (pv 4))
            (blkOk_by (own := [("_law_end", 7)]) (N := nHistory) (sc := defScope s_L_history) (by decide +kernel)) (fun _ _ _ _ _ => pg_name (i := 7) sc_L_history.nd rfl (Or.inl rfl)) (fun _ _ _ _ _ => pts_one (pt_cmpR (o_ni K) (pv 7) (pv 6) rfl)) (fun _ _ _ _ _ => pv 7)) (pe_lst (pa_cons (pv 5) pa_nil))))
        (pss_one (ps_expr (pe_bm PySem.F.plainAttrs_list PySem.F.slot_list_append PySem.F.type_list_append mt_append (pv 3) (pa_cons (pe_tup (pa_cons (pe_op op_add_str pe_str (pe_ix ix_str pe_str (pv 5) (fun _ _ => rfl))) (pa_cons (pv 6) pa_nil))) pa_nil))))))))
      (pss_one (ps_ret (pe_tup (pa_cons pe_str (pa_cons (pe_callTy call_tuple_of rfl T.tuple (by decide +kernel) (pa_cons (pv 3) pa_nil)) pa_nil))))))))), ?_⟩
    -- many = 1 + draw
    refine ⟨.ref b, rfl, iv n, rfl, b, dl, n, rfl, hn, hb, fun H1 r hr' b1 bx1 => ⟨1, (r : Int), rfl, rfl, ?_⟩⟩
    have em : (1 : Int) + ((r : Nat) : Int) = ((r + 1 : Nat) : Int) := by omega
    -- makes = []; ends = []
    refine ⟨Nat.zero_le _, fun Mk nM => ⟨Nat.zero_le _, fun En nE => ?_⟩⟩
    have nME : Mk ≠ En := ne_of_none upd_same nE
    have nE1 : H1 En = none := by rw [upd_ne (Ne.symm nME)] at nE; exact nE
    have sA : Same H1 (upd (upd H1 Mk (.lst [])) En (.lst [])) := (same_new nM).nw nE
    obtain ⟨ob, hob⟩ := bx1.there
    have nbM : Mk ≠ b := (ne_of_none hob nM).symm
    have nbE : En ≠ b := (ne_of_none hob nE1).symm
    obtain ⟨od, hod⟩ := bx1.there2
    have ndM : dl ≠ Mk := ne_of_none hod nM
    refine ⟨V.int (1 + ((r : Nat) : Int)), rfl, 1 + ((r : Nat) : Int), rfl, by omega, by omega, ?_⟩
    have en : (1 + ((r : Nat) : Int)).toNat = r + 1 := by omega
    rw [en]
    refine for_rng (n := r + 1) (fun i σ H' => ∃ y5 y6 e es bs h, σ = [some (.ref b), some (iv n), some (.int (1 + ((r : Nat) : Int))), some (.ref Mk), some (.ref e), y5, y6, none] ∧ But b H1 H' ∧ BoxAt H' b dl ∧ e ≠ Mk ∧ e ≠ b ∧
      H' e = some (.lst (List.map iv es)) ∧ es.length ≤ i ∧ H' Mk = some (.lst (List.map V.ref bs)) ∧ Paired (MkAt H') bs h ∧ h.length = i ∧ ∀ ps ∈ h, ps.length ≤ 24) ?_ (fun i σ H2 hi z => ?_) (fun σ H2 z => ?_)
    · exact ⟨none, none, En, [], [], [], rfl, But.of sA, bx1.same sA, Ne.symm nME, nbE, upd_same, by simp, up_ne upd_same nME, .nil, rfl, fun ps hp => by simp at hp⟩
    · obtain ⟨y5, y6, e, es, bs, h, rfl, b2, bx2, neM, neb, ee, el, eM, hp, hl, h24⟩ := z
      -- parents_here = ()
      refine ⟨Nat.zero_le _, fun u nu => ?_⟩
      -- the parents, on each way
      refine ⟨fun σ' H3 => ∃ (u : Addr) (ps : List Nat), σ' = [some (.ref b), some (iv n), some (.int (1 + ((r : Nat) : Int))), some (.ref Mk), some (.ref e), some (iv i), some (.ref u), none] ∧ But b H2 H3 ∧ BoxAt H3 b dl ∧ H3 u = some (.tup (ps.map iv)) ∧ ps.length ≤ 24, ?_, ?_⟩
      · have su := same_new nu (o := .tup [])
        have bxu := bx2.same su
        have eeu := su _ _ ee
        refine ⟨iv i, rfl, _, rfl, _, 1, rfl, rfl, rfl, _, rfl, ite2 (fun _ => ?_) (fun _ => ?_)⟩
        · refine ⟨.ref e, rfl, e, _, rfl, .inl ⟨SqL.of eeu, fun v nv => ?_⟩⟩
          have sv := su.nw nv (o := .tup (es.map iv))
          exact ⟨v, es, rfl, But.of sv, bx2.same sv, upd_same, by omega⟩
        · refine ⟨iv i, rfl, (i : Int), 0, rfl, rfl, _, rfl, ite2 (fun c => ?_) (fun _ => ?_)⟩
          · have hi0 : 0 < i := by have := of_decide_eq_true c; omega
            refine ⟨.ref b, rfl, iv i, rfl, .ref e, rfl, b, dl, e, i, es, rfl, hi0, bxu, eeu, by omega, fun H3 v ps hps b3 bx3 ev => ?_⟩
            exact ⟨v, ps, rfl, (But.of su).trans b3, bx3, ev, hps⟩
          · exact ⟨u, [], rfl, But.of su, bxu, upd_same, by simp⟩
      · rintro σ' H3 ⟨u, ps, rfl, b3, bx3, eu, hps⟩
        have ee3 := b3 _ _ neb ee
        have eM3 := b3 _ _ nbM eM
        -- ends = [end for end in ends if end not in parents_here] + [k]
        refine ⟨.ref e, rfl, e, rfl, ⟨_, SqL.of ee3⟩, fun D nD => ?_⟩
        refine lc_list (K := K) (a := e) (xs := es.map iv) (fun j H' => Same H3 H' ∧ ∃ fs : List Nat, H' D = some (.lst (fs.map iv)) ∧ fs.length ≤ j) ⟨same_new nD, [], upd_same, by simp⟩ (fun j H' _ z => SqL.of (z.1 _ _ ee3)) (fun j x H' hx z => ?_) (fun H4 z => ?_)
        · obtain ⟨s4, fs, eD, fl⟩ := z
          obtain ⟨c0, hc0, rfl⟩ := getMap hx
          have hj : j < es.length := (List.getElem?_eq_some_iff.mp hc0).1
          refine ⟨rfl, iv c0, rfl, .ref u, rfl, u, ps.map iv, rfl, .inr (SqT.of (s4 _ _ eu)), rfl, flat_iv ps, _, rfl, ?_⟩
          show if (!inV (iv c0) (ps.map iv)) = true then _ else _
          refine ite2 (fun c => ?_) (fun c => ⟨s4, fs, eD, by omega⟩)
          exact ⟨iv c0, rfl, _, eD, by rw [List.length_map]; exact szl' (by omega), s4.ow nD, fs ++ [c0], by rw [upd_same, List.map_append]; rfl, by simp; omega⟩
        · obtain ⟨s4, fs, eD, fl⟩ := z
          rw [List.length_map] at fl
          refine ⟨iv i, rfl, by show 1 ≤ sizeLine; exact szl (by omega), fun x nx => ?_⟩
          have eD5 := same_new nx (o := .lst [iv i]) _ _ eD
          refine ⟨D, x, _, _, rfl, rfl, eD5, upd_same, by rw [List.length_map]; exact szl (by simp; omega), fun y ny => ?_⟩
          have s5 := (s4.nw nx (o := .lst [iv i])).nw ny (o := .lst (fs.map iv ++ [iv i]))
          have eM5 := s5 _ _ eM3
          have nyM : y ≠ Mk := by
            have := (same_new nx (o := .lst [iv i])) _ _ (s4 _ _ eM3)
            exact (ne_of_none this ny).symm
          have ob3 := bx3.there
          obtain ⟨o3, ho3⟩ := ob3
          have nyb : y ≠ b := by
            have := (same_new nx (o := .lst [iv i])) _ _ (s4 _ _ ho3)
            exact (ne_of_none this ny).symm
          -- makes.append((.., parents_here))
          obtain ⟨ch, hch⟩ := letters i (by omega)
          refine ⟨.ref Mk, rfl, .inl ⟨rfl, _, .inl (.inl eM5)⟩, iv i, rfl, Str.ofString "abcdefghijklmnopqrstuvwx", (i : Int), ch, rfl, rfl, ?_, atI_nat hch, Str.ofString "v", ⟨#[ch]⟩, rfl, rfl, ?_, .ref u, rfl, by show 2 ≤ sizeLine; exact szl (by omega), fun t nt => ?_⟩
          · exact szl (by decide +kernel)
          · refine szl ?_
            have e1 : (Str.ofString "v").length = 1 := by decide +kernel
            rw [e1]
            show 1 + 1 ≤ 16777216
            omega
          have eM6 := same_new nt (o := .tup [.str (Str.ofString "v" ++ ⟨#[ch]⟩), .ref u]) _ _ eM5
          have bl : bs.length = i := by rw [hp.length, hl]
          refine ⟨Mk, _, .ref t, rfl, rfl, eM6, by rw [List.length_map]; exact szl' (by omega), ?_⟩
          have s6 := s5.nw nt (o := .tup [.str (Str.ofString "v" ++ ⟨#[ch]⟩), .ref u])
          have ntM : t ≠ Mk := (ne_of_none eM5 nt).symm
          have nty : t ≠ y := (ne_of_none (upd_same : (upd (upd H4 x (.lst [iv i])) y (.lst (fs.map iv ++ [iv i]))) y = _) nt).symm
          -- all tuples of ahead stand
          have tp : ∀ a xs, H2 a = some (.tup xs) → upd (upd (upd (upd H4 x (.lst [iv i])) y (.lst (fs.map iv ++ [iv i]))) t (.tup [.str (Str.ofString "v" ++ ⟨#[ch]⟩), .ref u])) Mk (.lst (bs.map V.ref ++ [.ref t])) a = some (.tup xs) := fun a xs ha => by
            have h1 : a ≠ Mk := ne_of ha eM (by intro z; cases z)
            have hb2 : a ≠ b := by
              obtain ⟨ds, m, hb1, _⟩ := bx2
              exact ne_of ha hb1 (by intro z; cases z)
            exact up_ne (s6 _ _ (b3 _ _ hb2 ha)) h1
          refine ⟨_, _, y, fs ++ [i], bs ++ [t], h ++ [ps], rfl, ?_, ?_, nyM, nyb, ?_, by simp; omega, ?_, ?_, by simp [hl], ?_⟩
          · intro a o na ha
            have : a ≠ Mk := ne_of_none ha nM
            exact up_ne (s6 _ _ (b3 _ _ na (b2 _ _ na ha))) this
          · obtain ⟨ds, m, hb1, hb2⟩ := bx3
            exact ⟨ds, m, up_ne (s6 _ _ hb1) (Ne.symm nbM), up_ne (s6 _ _ hb2) ndM⟩
          · refine up_ne (up_ne ?_ (Ne.symm nty)) nyM
            rw [upd_same, List.map_append]; rfl
          · rw [upd_same, List.map_append]; rfl
          · refine Paired.snoc26 (hp.imp26 fun a l ⟨nm, p, h1, h2⟩ => ⟨nm, p, tp _ _ h1, tp _ _ h2⟩) ⟨_, u, up_ne upd_same ntM, ?_⟩
            exact up_ne (s6 _ _ eu) (ne_of eu eM3 (by intro z; cases z))
          · intro qs hq
            rcases List.mem_append.mp hq with z | z
            · exact h24 qs z
            · rw [List.mem_singleton] at z; subst z; exact hps
    · obtain ⟨y5, y6, e, es, bs, h, rfl, b2, bx2, neM, neb, ee, el, eM, hp, hl, h24⟩ := z
      refine ⟨.ref Mk, rfl, Mk, _, rfl, .inl ⟨SqL.of eM, fun t nt => ?_⟩⟩
      refine ⟨by show 2 ≤ sizeLine; exact szl (by omega), fun p np => ?_⟩
      have s3 := (same_new nt (o := .tup (bs.map V.ref))).nw np (o := .tup [.str "history", .ref t])
      refine q _ p h ((b1.trans b2).trans (But.of s3)) (bx2.same s3) ⟨p, t, bs, rfl, upd_same, up_ne upd_same (ne_of_none upd_same np), hp.imp26 fun _ _ => MkAt.same s3⟩ (by omega) (by omega) ⟨by omega, h24⟩
end
end K26

set_option Elab.async false
set_option linter.all false
set_option maxRecDepth 100000
set_option maxHeartbeats 4000000
namespace K26
open PySem PySem.Spec PyProof.Rows L2
theorem tup_but {H H' : Hp} {b dl a : Addr} {xs : List V} (bx : BoxAt H b dl) (s : But b H H') (h : H a = some (.tup xs)) : H' a = some (.tup xs) := by
  obtain ⟨ds, n, h1, _⟩ := bx
  exact s _ _ (ne_of h h1 (by intro z; cases z)) h
theorem HistAt.but {H H' : Hp} {b dl : Addr} {v : V} {h : Hist} (t : HistAt H v h) (bx : BoxAt H b dl) (s : But b H H') : HistAt H' v h := by
  obtain ⟨a, m, bs, e, h1, h2, h3⟩ := t
  exact ⟨a, m, bs, e, tup_but bx s h1, tup_but bx s h2, h3.imp26 fun _ _ ⟨nm, p, h4, h5⟩ => ⟨nm, p, tup_but bx s h4, tup_but bx s h5⟩⟩
section
variable {P : Program} {w : World} {K : PySem.W.Frag} {mg : PySem.Str → Option Value} {base : Heap} {f : Addr} {fd : FuncData} {C : Addr}
/-! ### _law_above -/
abbrev nAbove : List PySem.Str := ["_law_history_here", "_law_make", "_law_found", "_law_k", "_law_parent"]
theorem sc_L_above : FnScope nAbove ["_law_history_here", "_law_make"] (defScope s_L_above) := ⟨rfl, rfl, rfl, by decide +kernel, rfl, by decide +kernel, by decide +kernel⟩
def spAbove : Sp := fun vs H Q _ => ∃ (hv : V) (h : Hist) (m : Nat), vs = [hv, iv m] ∧ HistAt H hv h ∧ m < h.length ∧ Small h ∧ ∀ H' p (l : List Nat), Same H H' → H' p = some (.lst (l.map iv)) → (∀ c, c ∈ l ↔ anc h m c = true) → Q (.ref p) H'
theorem ok_L_above (F : FnP K "_law_above" s_L_above f fd) (T : Blt mg) : FnOk P w K mg base CX0 1 f fd ["_law_history_here", "_law_make"] spAbove := by
  refine F.ok sc_L_above (fun vs H Q E h => ?_) (fun cdv A outer s H vs Q E hr h => ?_)
  · obtain ⟨hv, h, m, rfl, _⟩ := h
    rfl
  · obtain ⟨hv, h, m, rfl, hh, hm, sm, q⟩ := h
    refine ⟨_, PSs.nox (pss_cons (ps_set (i := 2) sc_L_above.nd rfl (.inr rfl) (pe_lst (pa_cons (pv 1) pa_nil)))
      (pss_cons (ps_for PassesOwn.never rfl (pi_range3 rfl T.range (pa_cons (pv 1) (pa_cons (pe_un un_neg pe_int) (pa_cons (pe_un un_neg pe_int) pa_nil)))) (pg_name (i := 3) sc_L_above.nd rfl (.inl rfl))
        (pss_one (ps_if (pt_cmpR op_in_seq (pv 3) (pv 2) rfl)
          (pss_one (ps_set (i := 2) sc_L_above.nd rfl (.inr rfl) (pe_op op_cat (pv 2) (pe_lc (own := [("_law_parent", 4)]) (g := gName 4) rfl sc_L_above.nd
            (pi_tup (pe_ix ix_tup (pe_ix ix_tup (pe_ix ix_tup (pv 0) pe_int (fun _ _ => rfl)) (pv 3) (fun _ _ => rfl)) pe_int (fun _ _ => rfl)))
            (blkOk_by (own := [("_law_parent", 4)]) (N := nAbove) (sc := defScope s_L_above) (by decide +kernel)) (fun _ _ _ _ _ => pg_name (i := 4) sc_L_above.nd rfl (Or.inl rfl)) (fun _ _ _ _ _ => pts_one (pt_cmpR (o_ni K) (pv 4) (pv 2) rfl)) (fun _ _ _ _ _ => pv 4))))) pss_nil)))
      (pss_one (ps_ret (pv 2))))), ?_⟩
    refine ⟨iv m, rfl, by show 1 ≤ sizeLine; exact szl (by omega), fun F0 nF => ?_⟩
    refine ⟨iv m, rfl, 1, rfl, 1, rfl, (m : Int), -1, -1, m + 1, rfl, ?_, for_rangeC (lo := (m : Int)) (c := -1) (n := m + 1)
      (fun i σ H' => ∃ y3 F1 l, σ = [some hv, some (iv m), some (.ref F1), y3, none] ∧ Same H H' ∧ H' F1 = some (.lst (l.map iv)) ∧ AncAt h m i l) ?_ ?_ ?_⟩
    · have := sm.1
      have e : (m + 1 : Nat) = ((m : Int) - (-1)).toNat := by omega
      rw [e]
      exact RgC.neg (by omega) (by omega) (by omega) (by omega)
    · exact ⟨none, F0, [m], rfl, same_new nF, upd_same, by simp, [m], fun _ => Iff.rfl, rfl⟩
    · rintro i σ H1 hi ⟨y3, F1, l, rfl, s1, eF, an⟩
      have e1 : ((m : Int) + (i : Nat) * -1) = ((m - i : Nat) : Int) := by omega
      rw [e1]
      refine ⟨iv (m - i), rfl, .ref F1, rfl, F1, l.map iv, rfl, .inl (SqL.of eF), rfl, flat_iv l, _, rfl, ?_⟩
      show if (inV (iv (m - i)) (l.map iv)) = true then _ else _
      rw [inV_iv]
      refine ite2 (fun c => ?_) (fun c => ?_)
      · rw [List.contains_iff_mem] at c
        obtain ⟨a, mm, bs, b, nm, p, rfl, h1, h2, hl, hb, h4, h5, h6⟩ := hist_make (hh.same s1) (k := m - i) (by omega)
        refine ⟨.ref F1, rfl, .ref a, rfl, a, _, 1, .ref mm, rfl, rfl, SqT.of h1, rfl, ?_⟩
        refine ⟨iv (m - i), rfl, mm, _, ((m - i : Nat) : Int), .ref b, rfl, rfl, SqT.of h2, atI_nat h6, ?_⟩
        refine ⟨b, _, 1, .ref p, rfl, rfl, SqT.of h4, rfl, ?_⟩
        refine ⟨p, rfl, ⟨_, SqT.of h5⟩, fun D nD => ?_⟩
        have p24 := par_len sm (m - i)
        refine lc_tup (K := K) (a := p) (xs := (par h (m - i)).map iv) (fun j H' => Same H1 H' ∧ ∃ fs : List Nat, H' D = some (.lst (fs.map iv)) ∧ fs.length ≤ j ∧ ∀ c, c ∈ fs ↔ c ∈ (par h (m - i)).take j ∧ c ∉ l) ⟨same_new nD, [], upd_same, by simp, fun c => by simp⟩ (fun j H' _ z => SqT.of (z.1 _ _ h5)) (fun j x H' hx z => ?_) (fun H2 z => ?_)
        · obtain ⟨c0, hc0, rfl⟩ := getMap hx
          obtain ⟨s2, fs, eD, fl, fm⟩ := z
          have hj : j < (par h (m - i)).length := (List.getElem?_eq_some_iff.mp hc0).1
          have htk : ∀ c, c ∈ (par h (m - i)).take (j + 1) ↔ c ∈ (par h (m - i)).take j ∨ c = c0 := fun c => by
            rw [List.take_add_one, hc0, List.mem_append]; simp
          refine ⟨rfl, iv c0, rfl, .ref F1, rfl, F1, l.map iv, rfl, .inl (SqL.of (s2 _ _ eF)), rfl, flat_iv l, _, rfl, ?_⟩
          show if (!inV (iv c0) (l.map iv)) = true then _ else _
          rw [inV_iv]
          refine ite2 (fun d => ?_) (fun d => ?_)
          · have d : c0 ∉ l := by simpa using d
            refine ⟨iv c0, rfl, _, eD, by rw [List.length_map]; exact szl' (by omega), s2.ow nD, fs ++ [c0], by rw [upd_same, List.map_append]; rfl, by simp; omega, fun x => ?_⟩
            rw [List.mem_append, fm, htk, List.mem_singleton]
            constructor
            · rintro (⟨z1, z2⟩ | z)
              · exact ⟨.inl z1, z2⟩
              · subst z; exact ⟨.inr rfl, d⟩
            · rintro ⟨z1 | z1, z2⟩
              · exact .inl ⟨z1, z2⟩
              · exact .inr z1
          · have d : c0 ∈ l := by simpa using d
            refine ⟨s2, fs, eD, by omega, fun x => ?_⟩
            rw [fm, htk]
            constructor
            · rintro ⟨z1, z2⟩; exact ⟨.inl z1, z2⟩
            · rintro ⟨z1 | z1, z2⟩
              · exact ⟨z1, z2⟩
              · subst z1; exact absurd d z2
        · obtain ⟨s2, fs, eD, fl, fm⟩ := z
          rw [List.length_map] at fl fm
          rw [List.take_length] at fm
          have ll := an.1
          refine ⟨F1, D, _, _, rfl, rfl, s2 _ _ eF, eD, by rw [List.length_map, List.length_map]; have := sm.1; exact szl (by omega), fun u nu => ?_⟩
          refine ⟨_, u, l ++ fs, rfl, (s1.trans s2).nw nu, by rw [upd_same, List.map_append], anc_step (by omega) an (by rw [List.length_append]; omega) fun x => ?_⟩
          rw [List.mem_append, fm]
          constructor
          · rintro (z | ⟨z, _⟩)
            · exact .inl z
            · exact .inr ⟨c, z⟩
          · rintro (z | ⟨_, z⟩)
            · exact .inl z
            · by_cases y : x ∈ l
              · exact .inl y
              · exact .inr ⟨z, y⟩
      · rw [List.contains_iff_mem] at c
        refine ⟨_, F1, l, rfl, s1, eF, anc_step (by omega) an (by omega) fun c' => ?_⟩
        constructor
        · exact .inl
        · rintro (z | ⟨z, _⟩)
          · exact z
          · exact absurd z c
    · rintro σ H1 ⟨y3, F1, l, rfl, s1, eF, an⟩
      exact ⟨.ref F1, rfl, q H1 F1 l s1 eF fun c => anc_end an c⟩
/-! ### _law_breaks -/
theorem sc_L_breaks : FnScope ["_law_history_here", "_law_candidate", "_law_make"] ["_law_history_here", "_law_candidate", "_law_make"] (defScope s_L_breaks) := ⟨rfl, rfl, rfl, by decide +kernel, rfl, by decide +kernel, by decide +kernel⟩
def spBrks : Sp := fun vs H Q _ => ∃ (hv : V) (h : Hist) (c m : Nat), vs = [hv, iv c, iv m] ∧ HistAt H hv h ∧ m < h.length ∧ Small h ∧ ∀ H', Same H H' → Q (.bl (anc h m c)) H'
theorem ok_L_breaks (F : FnP K "_law_breaks" s_L_breaks f fd) (B6 : Fn P w K mg base CX0 1 "_law_above" ["_law_history_here", "_law_make"] spAbove) : FnOk P w K mg base CX0 2 f fd ["_law_history_here", "_law_candidate", "_law_make"] spBrks := by
  refine F.ok sc_L_breaks (fun vs H Q E h => ?_) (fun cdv A outer s H vs Q E hr h => ?_)
  · obtain ⟨hv, h, c, m, rfl, _⟩ := h
    rfl
  · obtain ⟨hv, h, c, m, rfl, hh, hm, sm, q⟩ := h
    refine ⟨_, PSs.nox (pss_one (ps_ret (pe_cmpR op_in_seq (pv 1) (pe_fn B6 hr pass0 (pa_cons (pv 0) (pa_cons (pv 2) pa_nil))) rfl))), ?_⟩
    refine ⟨iv c, rfl, hv, rfl, iv m, rfl, hv, h, m, rfl, hh, hm, sm, fun H1 p l s1 ep hl => ?_⟩
    refine ⟨p, l.map iv, rfl, .inl (SqL.of ep), rfl, flat_iv l, ?_⟩
    have e : (if false = true then !inV (iv c) (l.map iv) else inV (iv c) (l.map iv)) = anc h m c := by
      rw [if_neg Bool.false_ne_true, inV_iv, Bool.eq_iff_iff, List.contains_iff_mem]
      exact hl c
    rw [e]
    exact q H1 s1
/-! ### _law_skips -/
theorem sc_L_skips : FnScope ["_law_box", "_law_history_here", "_law_make"] ["_law_box", "_law_history_here"] (defScope s_L_skips) := ⟨rfl, rfl, rfl, by decide +kernel, rfl, by decide +kernel, by decide +kernel⟩
def spSkips : Sp := fun vs H Q _ => ∃ (b dl : Addr) (hv : V) (h : Hist), vs = [.ref b, hv] ∧ BoxAt H b dl ∧ HistAt H hv h ∧ Small h ∧ ∀ H' p (sk : List Nat), But b H H' → BoxAt H' b dl → H' p = some (.tup (sk.map iv)) → Q (.ref p) H'
theorem ok_L_skips (F : FnP K "_law_skips" s_L_skips f fd) (T : Blt mg) (B3 : Fn P w K mg base CX0 1 "_law_draw" ["_law_box", "_law_many"] spDraw) : FnOk P w K mg base CX0 2 f fd ["_law_box", "_law_history_here"] spSkips := by
  refine F.ok sc_L_skips (fun vs H Q E h => ?_) (fun cdv A outer s H vs Q E hr h => ?_)
  · obtain ⟨b, dl, hv, h, rfl, _⟩ := h
    rfl
  · obtain ⟨b, dl, hv, h, rfl, hb, hh, sm, q⟩ := h
    refine ⟨_, PSs.nox (pss_one (ps_ret (pe_callTy call_tuple_of rfl T.tuple (by decide +kernel) (pa_cons (pe_lc (own := [("_law_make", 2)]) (g := gName 2) rfl sc_L_skips.nd
      (pi_range1 rfl T.range (pa_cons (pe_callB call_len_seq rfl T.len PySem.boot_len (pa_cons (pe_ix ix_tup (pv 1) pe_int (fun _ _ => rfl)) pa_nil)) pa_nil))
      (blkOk_by (own := [("_law_make", 2)]) (N := ["_law_box", "_law_history_here", "_law_make"]) (sc := defScope s_L_skips) (by decide +kernel))
      (fun _ _ _ _ _ => pg_name (i := 2) sc_L_skips.nd rfl (Or.inl rfl)) (fun _ _ _ _ _ => pts_one (pt_cmpR op_eq (pe_fn B3 hr pass0 (pa_cons (pv 0) (pa_cons pe_int pa_nil))) pe_int (nomark _))) (fun _ _ _ _ _ => pv 2)) pa_nil)))), ?_⟩
    obtain ⟨a, m, bs, rfl, h1, h2, h3⟩ := hh
    have hl := h3.length
    have hn := sm.1
    refine ⟨.ref a, rfl, a, _, 1, .ref m, rfl, rfl, SqT.of h1, rfl, m, _, rfl, .inr (SqT.of h2), ((bs.map V.ref).length : Nat), rfl, ?_, ?_, fun D nD => ?_⟩
    · omega
    · rw [List.length_map]; omega
    have e : ((bs.map V.ref).length : Int).toNat = h.length := by rw [List.length_map, hl]; rfl
    rw [e]
    obtain ⟨ob, hob⟩ := hb.there
    have nDb : D ≠ b := (ne_of_none hob nD).symm
    refine lc_rng (n := h.length) (fun i H' => But b H H' ∧ BoxAt H' b dl ∧ ∃ sk : List Nat, H' D = some (.lst (sk.map iv)) ∧ sk.length ≤ i) ⟨But.of (same_new nD), hb.same (same_new nD), [], upd_same, by simp⟩ (fun i H' hi z => ?_) fun H' z => ?_
    · obtain ⟨b1, bx1, sk, eD, sl⟩ := z
      refine ⟨rfl, .ref b, rfl, b, dl, 7, rfl, by omega, bx1, fun H2 r hr2 b2 bx2 => ⟨rfl, _, rfl, ite2 (fun c => ?_) (fun c => ?_)⟩⟩
      · have eD2 := b2 _ _ nDb eD
        refine ⟨iv i, rfl, _, eD2, by rw [List.length_map]; exact szl' (by omega), fun x o nx hx => ?_, ?_, sk ++ [i], by rw [upd_same, List.map_append]; rfl, by simp; omega⟩
        · rw [upd_ne (ne_of_none hx nD)]
          exact b2 _ _ nx (b1 _ _ nx hx)
        · obtain ⟨ds, n, hb1, hb2⟩ := bx2
          have ndD : dl ≠ D := by
            obtain ⟨o, ho⟩ := hb.there2
            exact ne_of_none ho nD
          exact ⟨ds, n, up_ne hb1 (Ne.symm nDb), up_ne hb2 ndD⟩
      · exact ⟨b1.trans b2, bx2, sk, b2 _ _ nDb eD, by omega⟩
    · obtain ⟨b1, bx1, sk, eD, sl⟩ := z
      refine ⟨D, _, rfl, .inl ⟨SqL.of eD, fun p np => ?_⟩⟩
      exact q _ p sk (b1.trans (But.of (same_new np))) (bx1.same (same_new np)) upd_same
end
end K26

set_option Elab.async false
set_option linter.all false
set_option maxRecDepth 100000
set_option maxHeartbeats 4000000
namespace K26
open PySem PySem.Spec PyProof.Rows L2
theorem hu65' {k : Nat} {A : Around} (hr : Room k A) : A.units + 64 < cLine := by have := hr.un; omega
/-! ### lists of parts -/
theorem paired_one {α β : Type} {R S : α → β → Prop} : ∀ {l : List α} {r : List β} {j : Nat} {a : α} {b' : β}, Paired R l r → l[j]? = some a → (∀ (i : Nat) x y, i ≠ j → l[i]? = some x → r[i]? = some y → R x y → S x y) → S a b' → Paired S l (r.set j b')
  | _, _, _, _, _, .nil, h, _, _ => by simp at h
  | _, _, 0, _, _, .cons x t, h, hk, hs => by
    simp at h
    subst h
    refine .cons hs ?_
    have aux : ∀ {l : List α} {r : List β} (k : Nat), Paired R l r → (∀ (i : Nat) x y, l[i]? = some x → r[i]? = some y → R x y → S x y) → Paired S l r := by
      intro l r k p hp
      induction p with
      | nil => exact .nil
      | cons x t ih => exact .cons (hp 0 _ _ rfl rfl x) (ih fun i a b ha hb => hp (i + 1) a b (by simpa using ha) (by simpa using hb))
    exact aux 0 t fun i a b ha hb => hk (i + 1) a b (by omega) (by simpa using ha) (by simpa using hb)
  | _, _, j + 1, _, _, .cons x t, h, hk, hs => .cons (hk 0 _ _ (by omega) rfl rfl x) (paired_one (j := j) t (by simpa using h) (fun i a b hi ha hb => hk (i + 1) a b (by omega) (by simpa using ha) (by simpa using hb)) hs)
theorem filter_first {α : Type} {p : α → Bool} : ∀ {l : List α} {j : Nat} {x : α}, l[j]? = some x → p x = true → (∀ m : Nat, m < j → ∀ z, l[m]? = some z → p z = false) → (l.filter p)[0]? = some x
  | [], _, _, h, _, _ => by simp at h
  | a :: l, 0, x, h, hx, _ => by
    simp at h
    subst h
    rw [List.filter_cons, if_pos hx]; rfl
  | a :: l, j + 1, x, h, hx, hn => by
    have ha := hn 0 (by omega) a rfl
    rw [List.filter_cons, if_neg (by rw [ha]; exact Bool.false_ne_true)]
    exact filter_first (j := j) (by simpa using h) hx fun m hm z hz => hn (m + 1) (by omega) z (by simpa using hz)
/-- one part: its row, its class -/
def PartAt (H0 : Hp) (R : Addr) (H : Hp) (a : Addr) (g : List Bool × List Nat) : Prop := ∃ ra la, (a ≠ R ∧ ra ≠ R ∧ la ≠ R) ∧ H a = some (.lst [.ref ra, .ref la]) ∧ H ra = some (.lst (g.1.map V.bl)) ∧ H la = some (.lst (g.2.map iv)) ∧ H0 la = none
def partD (g : List Bool × List Nat) : PyData := .list [bD g.1, nD g.2]
theorem PartAt.same {H0 H H' : Hp} {R a : Addr} {g : List Bool × List Nat} (h : PartAt H0 R H a g) (s : Same H H') : PartAt H0 R H' a g := by
  obtain ⟨ra, la, n, h1, h2, h3, h4⟩ := h
  exact ⟨ra, la, n, s _ _ h1, s _ _ h2, s _ _ h3, h4⟩
theorem dp_part {K : PySem.W.Frag} {H0 H : Hp} {R a : Addr} {g : List Bool × List Nat} (h : PartAt H0 R H a g) : Dp K H (.ref a) (partD g) := by
  obtain ⟨ra, la, _, h1, h2, h3, _⟩ := h
  exact .lst (SqL.of h1) (.cons (dp_bD h2) (.cons (dp_nD h3) .nil))
theorem dp_parts {K : PySem.W.Frag} {H0 H : Hp} {R : Addr} : ∀ {as : List Addr} {gs : Grp}, Paired (PartAt H0 R H) as gs → DpAll K H (as.map V.ref) (gs.map partD)
  | _, _, .nil => .nil
  | _, _, .cons x t => .cons (dp_part x) (dp_parts t)
theorem shaped_parts (gs : Grp) : SeqAt.shaped (.list (gs.map partD)) = true := by
  have lay : ∀ g, (partD g).canLay0 = true := fun g => by
    unfold partD
    rw [PyData.canLay0, PyData.canLayAll0, PyData.canLayAll0, PyData.canLayAll0, bD_lay, nD_lay]; rfl
  have dep : ∀ g, (partD g).depth ≤ 3 := fun g => by
    unfold partD
    rw [PyData.depth, PyData.depthAll, PyData.depthAll, PyData.depthAll]
    have := bD_depth g.1
    have := nD_depth g.2
    omega
  unfold SeqAt.shaped
  rw [PyData.canLay0, lay_map lay gs, PyData.depth, decide_eq_true (by have := depth_map dep gs; omega)]
  rfl
theorem paired_filter {α β : Type} {R : α → β → Prop} (p : α × β → Bool) : ∀ {l : List α} {r : List β}, Paired R l r → Paired R (((l.zip r).filter p).map (·.1)) (((l.zip r).filter p).map (·.2))
  | _, _, .nil => .nil
  | a :: l, b :: r, .cons x t => by
    rw [List.zip_cons_cons, List.filter_cons]
    split
    · exact .cons x (paired_filter p t)
    · exact paired_filter p t
theorem zip_at {α β : Type} {R : α → β → Prop} {l : List α} {r : List β} {j : Nat} {b : β} (hp : Paired R l r) (h : r[j]? = some b) : ∃ a, l[j]? = some a ∧ (l.zip r)[j]? = some (a, b) := by
  obtain ⟨a, ha, _⟩ := hp.getR26 h
  exact ⟨a, ha, by rw [List.getElem?_zip_eq_some]; exact ⟨ha, h⟩⟩
theorem ints_ne {l : List Nat} {xs : List Addr} (h : l ≠ []) : HO.lst (l.map iv) ≠ HO.lst (xs.map V.ref) := by
  intro z
  have := HO.lst.inj z
  cases l with
  | nil => exact h rfl
  | cons a r => cases xs with
    | nil => cases this
    | cons b s => cases this
theorem ints_ne_b {l : List Nat} {k : List Bool} (h : l ≠ []) : HO.lst (l.map iv) ≠ HO.lst (k.map V.bl) := by
  intro z
  have := HO.lst.inj z
  cases l with
  | nil => exact h rfl
  | cons a r => cases k with
    | nil => cases this
    | cons b s => cases this
theorem ivs_inj {a b : List Nat} (h : a.map iv = b.map iv) : a = b := by
  induction a generalizing b with
  | nil => cases b with
    | nil => rfl
    | cons _ _ => cases h
  | cons x a ih => cases b with
    | nil => cases h
    | cons y b =>
      have h : (iv x) :: a.map iv = iv y :: b.map iv := h
      injection h with h1 h2
      have : (x : Int) = (y : Int) := V.int.inj h1
      rw [ih h2, Int.ofNat.inj this]
section
variable {P : Program} {w : World} {K : PySem.W.Frag} {mg : PySem.Str → Option Value} {base : Heap} {f : Addr} {fd : FuncData} {C : Addr}
/-! ### _law_classes -/
abbrev nLClasses : List PySem.Str := ["_law_history_here", "_law_skipped", "_law_rows", "_law_one", "_law_row", "_law_homes", "_law_make", "_law_part"]
theorem sc_L_classes : FnScope nLClasses ["_law_history_here", "_law_skipped"] (defScope s_L_classes) := ⟨rfl, rfl, rfl, by decide +kernel, rfl, by decide +kernel, by decide +kernel⟩
def LTup (H : Hp) (p : Addr) (ls : List (List Nat)) : Prop := ∃ ts, H p = some (.lst (ts.map V.ref)) ∧ Paired (TupA H) ts ls
def spLCls : Sp := fun vs H Q _ => ∃ (hv sv : V) (h : Hist) (sk : List Nat), vs = [hv, sv] ∧ HistAt H hv h ∧ TupN H sv sk ∧ Small h ∧ ∀ H' p, Same H H' → LTup H' p (clsM h sk) → Q (.ref p) H'
theorem ok_L_classes (F : FnP K "_law_classes" s_L_classes f fd) (T : Blt mg) (B7 : Fn P w K mg base CX0 2 "_law_breaks" ["_law_history_here", "_law_candidate", "_law_make"] spBrks) : FnOk P w K mg base CX0 3 f fd ["_law_history_here", "_law_skipped"] spLCls := by
  refine F.ok sc_L_classes (fun vs H Q E h => ?_) (fun cdv A outer s H vs Q E hr h => ?_)
  · obtain ⟨hv, sv, h, sk, rfl, _⟩ := h
    rfl
  · obtain ⟨hv, sv, h, sk, rfl, hh, ht, sm, q⟩ := h
    refine ⟨_, PSs.nox (pss_cons (ps_set (i := 2) sc_L_classes.nd rfl (.inl rfl) (pe_lst pa_nil))
      (pss_cons (ps_for PassesOwn.never rfl (pi_range1 rfl T.range (pa_cons (pe_callB call_len_seq rfl T.len PySem.boot_len (pa_cons (pe_ix ix_tup (pv 0) pe_int (fun _ _ => rfl)) pa_nil)) pa_nil)) (pg_name (i := 3) sc_L_classes.nd rfl (.inr rfl))
        (pss_cons (ps_set (i := 4) sc_L_classes.nd rfl (.inr rfl) (pe_lc (own := [("_law_make", 6)]) (g := gName 6) rfl sc_L_classes.nd (pi_range1 rfl T.range (pa_cons (pe_callB call_len_seq rfl T.len PySem.boot_len (pa_cons (pe_ix ix_tup (pv 0) pe_int (fun _ _ => rfl)) pa_nil)) pa_nil))
            (blkOk_by (own := [("_law_make", 6)]) (N := nLClasses) (sc := defScope s_L_classes) (by decide +kernel)) (fun _ _ _ _ _ => pg_name (i := 6) sc_L_classes.nd rfl (Or.inl rfl)) (fun _ _ _ _ _ => pts_one (pt_cmpR (o_ni K) (pv 6) (pv 1) rfl)) (fun _ _ _ _ _ => pe_fn B7 hr pass0 (pa_cons (pv 0) (pa_cons (pv 3) (pa_cons (pv 6) pa_nil))))))
        (pss_cons (ps_setLc (i := 5) (own := [("_law_part", 7)]) (g := gName 7) rfl sc_L_classes.nd rfl rfl (sw_true rfl rfl rfl (by decide +kernel)) (pi_list (pv 2))
            (blkOk_by (own := [("_law_part", 7)]) (N := nLClasses) (sc := defScope s_L_classes) (by decide +kernel)) (fun _ _ _ _ _ => pg_name (i := 7) sc_L_classes.nd rfl (Or.inl rfl))
            (fun _ _ _ _ _ => pts_one (pt_cmpR (o_eqD K (hu65' hr)) (pe_ix (x_lst K) (pv 7) pe_int (fun _ _ => rfl)) (pv 4) (nomark _))) (fun _ _ _ _ _ => pv 7))
        (pss_one (ps_if (pt_cmpR (op_eqD (hu65' hr)) (pv 5) (pe_lst pa_nil) (nomark _))
          (pss_one (ps_expr (pe_bm PySem.F.plainAttrs_list PySem.F.slot_list_append PySem.F.type_list_append mt_append (pv 2) (pa_cons (pe_lst (pa_cons (pv 4) (pa_cons (pe_lst (pa_cons (pv 3) pa_nil)) pa_nil))) pa_nil))))
          (pss_one (ps_expr (pe_bm PySem.F.plainAttrs_list PySem.F.slot_list_append PySem.F.type_list_append mt_append (pe_ix ix_list (pe_ix ix_list (pv 5) pe_int (fun _ _ => rfl)) pe_int (fun _ _ => rfl)) (pa_cons (pv 3) pa_nil)))))))))
      (pss_one (ps_ret (pe_lc (own := [("_law_part", 7)]) (g := gName 7) rfl sc_L_classes.nd (pi_list (pv 2))
            (blkOk_by (own := [("_law_part", 7)]) (N := nLClasses) (sc := defScope s_L_classes) (by decide +kernel)) (fun _ _ _ _ _ => pg_name (i := 7) sc_L_classes.nd rfl (Or.inl rfl)) (fun _ _ _ _ _ => pts_nil)
            (fun _ _ _ _ _ => pe_callTy (c_tup K) rfl T.tuple (by decide +kernel) (pa_cons (pe_ix (x_lst K) (pv 7) pe_int (fun _ _ => rfl)) pa_nil))))))), ?_⟩
    have hn := sm.1
    -- rows = []
    refine ⟨Nat.zero_le _, fun R nR => ?_⟩
    -- for one in range(len(history[1]))
    obtain ⟨a, m, bs, rfl, h1, h2, h3⟩ := id hh
    obtain ⟨sa, rfl, hs⟩ := ht
    have hl := h3.length
    have sR := same_new nR (o := .lst [])
    refine ⟨.ref a, rfl, a, _, 1, .ref m, rfl, rfl, SqT.of (sR _ _ h1), rfl, m, _, rfl, .inr (SqT.of (sR _ _ h2)), ((bs.map V.ref).length : Nat), rfl, ?_, ?_, ?_⟩
    · omega
    · rw [List.length_map]; omega
    have e : ((bs.map V.ref).length : Int).toNat = h.length := by rw [List.length_map, hl]; rfl
    rw [e]
    refine for_rng (n := h.length) (fun i σ H' => ∃ y3 y4 y5 ps, σ = [some (.ref a), some (.ref sa), some (.ref R), y3, y4, y5, none, none] ∧ Same H H' ∧ H' R = some (.lst (ps.map V.ref)) ∧ Paired (PartAt H R H') ps (grpTo (markL h sk) i)) ?_ (fun i σ H1 hi z => ?_) (fun σ H1 z => ?_)
    · exact ⟨none, none, none, [], rfl, sR, upd_same, .nil⟩
    · obtain ⟨y3, y4, y5, ps, rfl, s1, eR, hp⟩ := z
      have g := grpTo_ok (markL h sk) i
      have pl : ps.length ≤ 24 := by rw [hp.length]; have := g.len; omega
      -- row = [..]
      refine ⟨.ref a, rfl, a, _, 1, .ref m, rfl, rfl, SqT.of (s1 _ _ h1), rfl, m, _, rfl, .inr (SqT.of (s1 _ _ h2)), ((bs.map V.ref).length : Nat), rfl, ?_, ?_, fun D nD => ?_⟩
      · omega
      · rw [List.length_map]; omega
      rw [e]
      refine lc_rng (n := h.length) (fun j H' => Same H1 H' ∧ H' D = some (.lst (((tstb j sk).map fun m => anc h m i).map V.bl))) ⟨same_new nD, upd_same⟩ (fun j H' hj z => ?_) fun H2 z => ?_
      · obtain ⟨s2, eD⟩ := z
        refine ⟨rfl, iv j, rfl, .ref sa, rfl, sa, sk.map iv, rfl, .inr (SqT.of (s2 _ _ (s1 _ _ hs))), rfl, flat_iv sk, _, rfl, ?_⟩
        show if (!inV (iv j) (sk.map iv)) = true then _ else _
        rw [inV_iv]
        refine ite2 (fun c => ?_) (fun c => ?_)
        · refine ⟨.ref a, rfl, iv i, rfl, iv j, rfl, .ref a, h, i, j, rfl, (hh.same s1).same s2, hj, sm, fun H3 s3 => ?_⟩
          refine ⟨_, s3 _ _ eD, ?_, (s2.trans s3).ow nD, ?_⟩
          · rw [List.length_map, List.length_map]
            have := fl_le (fun m => !sk.contains m) j
            exact szl' (by unfold tstb; omega)
          · rw [upd_same]
            unfold tstb
            rw [fl_true c, List.map_append, List.map_append]
            rfl
        · refine ⟨s2, ?_⟩
          unfold tstb
          rw [fl_false c]
          exact eD
      · obtain ⟨s2, eD⟩ := z
        have eD : H2 D = some (.lst ((markL h sk i).map V.bl)) := eD
        have eR2 := s2 _ _ eR
        have hp2 := hp.imp26 (S := PartAt H R H2) fun _ _ t => t.same s2
        -- homes = [part for part in rows if part[0] == row]
        refine ⟨.ref R, rfl, R, rfl, ⟨_, SqL.of eR2⟩, fun O nO => ?_⟩
        refine lc_list (K := K) (a := R) (xs := ps.map V.ref) (fun j H' => Same H2 H' ∧ H' O = some (.lst (((((ps.zip (grpTo (markL h sk) i)).take j).filter fun p => decide (p.2.1 = markL h sk i)).map (·.1)).map V.ref))) ⟨same_new nO, upd_same⟩
          (fun j H' _ z => SqL.of (z.1 _ _ eR2)) (fun j x H' hx z => ?_) (fun H3 z => ?_)
        · obtain ⟨s3, eO⟩ := z
          obtain ⟨pa, hpa, rfl⟩ := getMap hx
          obtain ⟨gj, hgj, pt⟩ := hp2.getL26 hpa
          obtain ⟨ra, la, _, p1, p2, p3, _⟩ := pt.same s3
          have hz : (ps.zip (grpTo (markL h sk) i))[j]? = some (pa, gj) := by rw [List.getElem?_zip_eq_some]; exact ⟨hpa, hgj⟩
          have hjl : j < ps.length := (List.getElem?_eq_some_iff.mp hpa).1
          rw [List.take_add_one, hz, List.filter_append]
          refine ⟨rfl, .ref pa, rfl, pa, _, 0, .ref ra, rfl, rfl, SqL.of p1, rfl, .ref D, rfl, bD gj.1, bD (markL h sk i), dp_bD p2, dp_bD (s3 _ _ eD), shaped_bD _, shaped_bD _, _, rfl, ?_⟩
          rw [eqv_bD]
          have len : ((((ps.zip (grpTo (markL h sk) i)).take j).filter fun p => decide (p.2.1 = markL h sk i)).map (·.1)).length ≤ j := by
            rw [List.length_map]
            refine Nat.le_trans (List.length_filter_le _ _) ?_
            rw [List.length_take]; omega
          refine ite2 (fun c => ?_) (fun c => ?_)
          · have e1 : List.filter (fun p : Addr × List Bool × List Nat => decide (p.2.1 = markL h sk i)) (some (pa, gj)).toList = [(pa, gj)] := by
              show List.filter _ [(pa, gj)] = _
              rw [List.filter_cons, if_pos c]; rfl
            refine ⟨.ref pa, rfl, _, eO, by rw [List.length_map]; exact szl' (by omega), s3.ow nO, ?_⟩
            rw [upd_same, e1, List.map_append, List.map_append]
            rfl
          · have e1 : List.filter (fun p : Addr × List Bool × List Nat => decide (p.2.1 = markL h sk i)) (some (pa, gj)).toList = [] := by
              show List.filter _ [(pa, gj)] = _
              rw [List.filter_cons, if_neg c]; rfl
            rw [e1, List.append_nil]
            exact ⟨s3, eO⟩
        · obtain ⟨s3, eO⟩ := z
          rw [List.length_map, List.take_of_length_le (by rw [List.length_zip]; omega)] at eO
          have hp3 := hp2.imp26 (S := PartAt H R H3) fun _ _ t => t.same s3
          have hf := paired_filter (fun p : Addr × List Bool × List Nat => decide (p.2.1 = markL h sk i)) hp3
          have eR3 := s3 _ _ eR2
          have eD3 := s3 _ _ eD
          have s13 := (s1.trans s2).trans s3
          generalize hgs : (ps.zip (grpTo (markL h sk) i)).filter (fun p => decide (p.2.1 = markL h sk i)) = fs at eO hf
          -- if homes == []
          refine ⟨.ref O, rfl, Nat.zero_le _, fun Z nZ => ?_⟩
          have sZ := same_new nZ (o := .lst [])
          refine ⟨.list ((fs.map (·.2)).map partD), .list [], .lst (SqL.of (sZ _ _ eO)) (dp_parts (hf.imp26 fun _ _ t => t.same sZ)), .lst (SqL.of upd_same) .nil, shaped_parts _, by decide +kernel, _, rfl, ?_⟩
          have eR4 := sZ _ _ eR3
          have nRZ : R ≠ Z := ne_of_none eR3 nZ
          cases fs with
          | nil =>
            have ev : PyData.eqv (.list (List.map partD (List.map (·.2) ([] : List (Addr × List Bool × List Nat))))) (.list []) = true := by decide +kernel
            rw [ev]
            refine iteT ?_
            have hnew : markL h sk i ∉ (grpTo (markL h sk) i).map (·.1) := by
              intro hm
              obtain ⟨gx, hgx, ex⟩ := List.mem_map.mp hm
              obtain ⟨jx, hjx⟩ := List.getElem?_of_mem hgx
              obtain ⟨ax, hax, hzx⟩ := zip_at hp3 hjx
              have : (ax, gx) ∈ (ps.zip (grpTo (markL h sk) i)).filter (fun p => decide (p.2.1 = markL h sk i)) := List.mem_filter.mpr ⟨List.mem_of_getElem? hzx, decide_eq_true ex⟩
              rw [hgs] at this
              simp at this
            -- rows.append([row, [one]])
            refine ⟨.ref R, rfl, .inl ⟨rfl, _, .inl (.inl eR4)⟩, .ref D, rfl, iv i, rfl, by show 1 ≤ sizeLine; exact szl (by omega), fun la nla => ⟨by show 2 ≤ sizeLine; exact szl (by omega), fun pa npa => ?_⟩⟩
            have s5 := (sZ.nw nla (o := .lst [iv i])).nw npa (o := .lst [.ref D, .ref la])
            have eR5 := s5 _ _ eR3
            have nlaR : la ≠ R := (ne_of_none eR4 nla).symm
            have npaR : pa ≠ R := (ne_of_none (same_new nla (o := .lst [iv i]) _ _ eR4) npa).symm
            have npala : la ≠ pa := ne_of_none upd_same npa
            have nDR : D ≠ R := (ne_of_none eR nD).symm
            have Hla : H la = none := ((s13.trans sZ)).free nla
            refine ⟨R, _, .ref pa, rfl, rfl, eR5, by rw [List.length_map]; exact szl' (by omega), ?_⟩
            refine ⟨_, _, _, ps ++ [pa], rfl, (s13.trans s5).ow nR, by rw [upd_same, List.map_append]; rfl, ?_⟩
            rw [show grpTo (markL h sk) (i + 1) = grpIns (markL h sk i) i (grpTo (markL h sk) i) from rfl, grpIns_new hnew]
            refine Paired.snoc26 (hp3.imp26 fun x gx pt => ?_) ⟨D, la, ⟨npaR, nDR, nlaR⟩, up_ne upd_same npaR, up_ne (s5 _ _ eD3) nDR, up_ne (up_ne upd_same npala) nlaR, Hla⟩
            obtain ⟨rx, lx, ⟨n1, n2, n3⟩, p1, p2, p3, p4⟩ := pt
            exact ⟨rx, lx, ⟨n1, n2, n3⟩, up_ne (s5 _ _ p1) n1, up_ne (s5 _ _ p2) n2, up_ne (s5 _ _ p3) n3, p4⟩
          | cons f0 fr =>
            have ev : PyData.eqv (.list (List.map partD (List.map (·.2) (f0 :: fr)))) (.list []) = false := by
              rw [PyData.eqv, List.map_cons, List.map_cons, PyData.eqvAll]
            rw [ev]
            refine iteF ?_
            have hm : markL h sk i ∈ (grpTo (markL h sk) i).map (·.1) := by
              have : f0 ∈ (ps.zip (grpTo (markL h sk) i)).filter (fun p => decide (p.2.1 = markL h sk i)) := by rw [hgs]; exact List.mem_cons_self
              obtain ⟨q1, q2⟩ := List.mem_filter.mp this
              have q3 := (List.of_mem_zip (a := f0.1) (b := f0.2) q1).2
              exact List.mem_map.mpr ⟨f0.2, q3, of_decide_eq_true q2⟩
            obtain ⟨j, hj, hfirst⟩ := first_at hm
            obtain ⟨pj, hpj, hpk⟩ := getMap hj
            obtain ⟨k0, l0⟩ := pj
            have hpk : k0 = markL h sk i := hpk.symm
            subst hpk
            obtain ⟨pa, hpa, hz⟩ := zip_at hp3 hpj
            have hf0 : f0 = (pa, (markL h sk i, l0)) := by
              have := filter_first (p := fun p : Addr × List Bool × List Nat => decide (p.2.1 = markL h sk i)) hz (decide_eq_true rfl) fun x hx z hzx => by
                refine decide_eq_false ?_
                rw [List.getElem?_zip_eq_some] at hzx
                exact hfirst x hx z.2.1 (by rw [List.getElem?_map, hzx.2]; rfl)
              rw [hgs] at this
              exact Option.some.inj this
            subst hf0
            obtain ⟨gx, hgx, pt⟩ := hp3.getL26 hpa
            have : gx = (markL h sk i, l0) := by rw [hpj] at hgx; exact (Option.some.inj hgx).symm
            subst this
            obtain ⟨ra, la, ⟨n1, n2, n3⟩, p1, p2, p3, p4⟩ := pt
            have l0ne : l0 ≠ [] := g.ne _ (List.mem_of_getElem? hpj)
            have l0len : l0.length ≤ i := g.cl _ (List.mem_of_getElem? hpj)
            -- homes[0][1].append(one)
            have p1' := sZ _ _ p1
            have p3' := sZ _ _ p3
            refine ⟨.ref O, rfl, O, _, ((0 : Nat) : Int), .ref pa, rfl, rfl, SqL.of (sZ _ _ eO), atI_nat rfl, pa, _, ((1 : Nat) : Int), .ref la, rfl, rfl, SqL.of p1', atI_nat rfl, .inl ⟨rfl, _, .inl (.inl p3')⟩, iv i, rfl, la, _, iv i, rfl, rfl, p3', by rw [List.length_map]; exact szl' (show l0.length < 16777216 by omega), ?_⟩
            refine ⟨_, _, _, ps, rfl, (s13.trans sZ).ow p4, up_ne eR4 (Ne.symm n3), ?_⟩
            rw [show grpTo (markL h sk) (i + 1) = grpIns (markL h sk i) i (grpTo (markL h sk) i) from rfl, grpIns_at hpj hfirst]
            have nref : ∀ x r l, H3 x = some (.lst [.ref r, .ref l]) → x ≠ la := fun x r l hx => ne_of hx p3 (fun z => ints_ne (xs := [r, l]) l0ne z.symm)
            have nbl : ∀ x (k : List Bool), H3 x = some (.lst (k.map V.bl)) → x ≠ la := fun x k hx => ne_of hx p3 (fun z => ints_ne_b l0ne z.symm)
            refine paired_one hp3 hpa (fun x y gy hxj hy hgy pt => ?_) ⟨ra, la, ⟨n1, n2, n3⟩, up_ne p1' (nref _ _ _ p1), up_ne (sZ _ _ p2) (nbl _ _ p2), by rw [upd_same, List.map_append]; rfl, p4⟩
            obtain ⟨rx, lx, m0, m1, m2, m3, m4⟩ := pt
            refine ⟨rx, lx, m0, up_ne (sZ _ _ m1) (nref _ _ _ m1), up_ne (sZ _ _ m2) (nbl _ _ m2), up_ne (sZ _ _ m3) (ne_of m3 p3 fun z => ?_), m4⟩
            have el : gy.2 = l0 := ivs_inj (HO.lst.inj z)
            have hc := rep_of (cls := [l0]) (j := 0) rfl l0ne
            have k1 := (g.key _ (List.mem_of_getElem? hpj) _ hc.1).1
            have k2 := (g.key _ (List.mem_of_getElem? hgy) _ (by rw [el]; exact hc.1)).1
            have ek : gy.1 = markL h sk i := k2.symm.trans k1
            have a1 : ((grpTo (markL h sk) i).map (·.1))[x]? = some (markL h sk i) := by rw [List.getElem?_map, hgy, ← ek]; rfl
            exact hxj (nd_ix g.nodup a1 hj)
    · obtain ⟨y3, y4, y5, ps, rfl, s1, eR, hp⟩ := z
      have g := grpTo_ok (markL h sk) h.length
      have pl : ps.length ≤ 24 := by rw [hp.length]; have := g.len; omega
      refine ⟨.ref R, rfl, R, rfl, ⟨_, SqL.of eR⟩, fun D nD => ?_⟩
      refine lc_list (K := K) (a := R) (xs := ps.map V.ref) (fun j H' => Same H1 H' ∧ ∃ ts, H' D = some (.lst (ts.map V.ref)) ∧ Paired (TupA H') ts (((grpTo (markL h sk) h.length).map (·.2)).take j)) ⟨same_new nD, [], upd_same, .nil⟩
        (fun j H' _ z => SqL.of (z.1 _ _ eR)) (fun j x H' hx z => ?_) (fun H2 z => ?_)
      · obtain ⟨s2, ts, eD, ht⟩ := z
        obtain ⟨pa, hpa, rfl⟩ := getMap hx
        obtain ⟨gj, hgj, pt⟩ := hp.getL26 hpa
        obtain ⟨ra, la, _, p1, p2, p3, _⟩ := pt.same s2
        have hjl : j < ps.length := (List.getElem?_eq_some_iff.mp hpa).1
        refine ⟨rfl, tYes_of ?_⟩
        refine ⟨.ref pa, rfl, pa, _, 1, .ref la, rfl, rfl, SqL.of p1, rfl, la, _, rfl, .inl ⟨SqL.of p3, fun t nt => ?_⟩⟩
        have eD3 := same_new nt (o := .tup (gj.2.map iv)) _ _ eD
        have ntD : t ≠ D := (ne_of_none eD nt).symm
        have tl : ts.length ≤ 24 := by rw [ht.length, List.length_take]; omega
        refine ⟨_, eD3, by rw [List.length_map]; exact szl' (by omega), (s2.nw nt).ow nD, ts ++ [t], by rw [upd_same, List.map_append]; rfl, ?_⟩
        have hg2 : ((grpTo (markL h sk) h.length).map (·.2))[j]? = some gj.2 := by rw [List.getElem?_map, hgj]; rfl
        rw [List.take_add_one, hg2]
        refine Paired.snoc26 (ht.imp26 fun x l hx => ?_) ?_
        · exact up_ne (same_new nt _ _ hx) (ne_of (same_new nt (o := .tup (gj.2.map iv)) _ _ hx) eD3 (by intro z; cases z))
        · exact up_ne upd_same ntD
      · obtain ⟨s2, ts, eD, ht⟩ := z
        rw [List.length_map, hp.length, List.take_of_length_le (by rw [List.length_map]; exact Nat.le_refl _)] at ht
        exact q H2 D (s1.trans s2) ⟨ts, eD, ht⟩
end
end K26

set_option Elab.async false
set_option linter.all false
set_option maxRecDepth 100000
set_option maxHeartbeats 4000000
/-! The dict of what is already told: its keys are pairs of a tuple of pairs and an int. -/
namespace K26
open PySem PySem.Spec PyProof.Rows L2
def pk (c : Nat × Nat) : NestedKey := .tup [.num (c.1 : Int), .num (c.2 : Int)]
def nk (cs : List (Nat × Nat)) (q : Nat) : NestedKey := .tup [.tup (cs.map pk), .num (q : Int)]
theorem pk_inj {a b : Nat × Nat} (h : pk a = pk b) : a = b := by
  obtain ⟨a1, a2⟩ := a
  obtain ⟨b1, b2⟩ := b
  unfold pk at h
  have h := NestedKey.tup.inj h
  injection h with h1 h2
  injection h2 with h2 _
  have h1 : (a1 : Int) = b1 := NestedKey.num.inj h1
  have h2 : (a2 : Int) = b2 := NestedKey.num.inj h2
  rw [Int.ofNat.inj h1, Int.ofNat.inj h2]
theorem pks_inj : ∀ {a b : List (Nat × Nat)}, a.map pk = b.map pk → a = b
  | [], [], _ => rfl
  | [], _ :: _, h => by cases h
  | _ :: _, [], h => by cases h
  | x :: a, y :: b, h => by
    have h : pk x :: a.map pk = pk y :: b.map pk := h
    injection h with h1 h2
    rw [pk_inj h1, pks_inj h2]
theorem nk_inj {a b : List (Nat × Nat)} {q r : Nat} (h : nk a q = nk b r) : a = b ∧ q = r := by
  unfold nk at h
  have h := NestedKey.tup.inj h
  injection h with h1 h2
  injection h2 with h2 _
  have h2 : (q : Int) = r := NestedKey.num.inj h2
  exact ⟨pks_inj (NestedKey.tup.inj h1), Int.ofNat.inj h2⟩
theorem pk_depth : ∀ l : List (Nat × Nat), NestedKey.depthAll (l.map pk) ≤ 1
  | [] => Nat.zero_le _
  | c :: l => by
    rw [List.map_cons, NestedKey.depthAll]
    refine Nat.max_le.mpr ⟨?_, pk_depth l⟩
    simp [pk, NestedKey.depth, NestedKey.depthAll]
theorem nk_depth (cs : List (Nat × Nat)) (q : Nat) : (nk cs q).depth ≤ 8 := by
  have := pk_depth cs
  simp only [nk, NestedKey.depth, NestedKey.depthAll]
  omega
/-- a pair of numbers, a key -/
def PairAt (H : Hp) (a : Addr) (c : Nat × Nat) : Prop := H a = some (.tup [iv c.1, iv c.2])
def KeyAt (H : Hp) (p : Addr) (cs : List (Nat × Nat)) (q : Nat) : Prop := ∃ t as, H p = some (.tup [.ref t, iv q]) ∧ H t = some (.tup (as.map V.ref)) ∧ Paired (PairAt H) as cs
theorem KeyAt.imp {H H' : Hp} {p : Addr} {cs : List (Nat × Nat)} {q : Nat} (k : KeyAt H p cs q) (s : ∀ a xs, H a = some (.tup xs) → H' a = some (.tup xs)) : KeyAt H' p cs q := by
  obtain ⟨t, as, h1, h2, h3⟩ := k
  exact ⟨t, as, s _ _ h1, s _ _ h2, h3.imp26 fun _ _ z => s _ _ z⟩
theorem tup_here {P : Program} {w : World} {H : Hp} {h : Heap} {a : Addr} {xs : List V} (ok : HOk P w H h) (e : H a = some (.tup xs)) : ∃ its o n, Vals xs its ∧ h.get? a = some o ∧ o.cls = .type "tuple" ∧ o.data = .seq its.toArray n := by
  obtain ⟨_, its, r, o, h1, h2, n, h3⟩ := (show ObjOk P w H h a (.tup xs) from ok a _ e)
  exact ⟨its, o, n, r, h1, h2, h3⟩
theorem pair_is {P : Program} {w : World} {H : Hp} {h : Heap} {a : Addr} {c : Nat × Nat} (ok : HOk P w H h) (e : PairAt H a c) : NestedIs h (pk c) (.ref a) := by
  obtain ⟨its, o, n, r, h1, h2, h3⟩ := tup_here ok e
  cases r with
  | cons r1 r => cases r with
    | cons r2 r => cases r with
      | nil =>
        obtain ⟨t1, rfl⟩ := r1
        obtain ⟨t2, rfl⟩ := r2
        exact .tup h1 h2 h3 (.cons (.int _ _) (.cons (.int _ _) .nil))
theorem pairs_are {P : Program} {w : World} {H : Hp} {h : Heap} (ok : HOk P w H h) : ∀ {as : List Addr} {cs : List (Nat × Nat)} {its : List Value}, Paired (PairAt H) as cs → Vals (as.map V.ref) its → NestedAll h (cs.map pk) its
  | _, _, _, .nil, r => by cases r; exact .nil
  | _, _, _, .cons x t, r => by
    cases r with
    | cons r1 r =>
      cases (show _ = Value.ref _ from r1)
      exact .cons (pair_is ok x) (pairs_are ok t r)
theorem key_is {P : Program} {w : World} {H : Hp} {h : Heap} {p : Addr} {cs : List (Nat × Nat)} {q : Nat} (ok : HOk P w H h) (k : KeyAt H p cs q) : (nestedKind P w).is h (nk cs q) p := by
  obtain ⟨t, as, e1, e2, hp⟩ := k
  obtain ⟨its, o, n, r, h1, h2, h3⟩ := tup_here ok e1
  obtain ⟨jts, u, m, r', k1, k2, k3⟩ := tup_here ok e2
  cases r with
  | cons r1 r => cases r with
    | cons r2 r => cases r with
      | nil =>
        cases (show _ = Value.ref _ from r1)
        obtain ⟨t2, rfl⟩ := r2
        exact ⟨.tup h1 h2 h3 (.cons (.tup k1 k2 k3 (by simpa using pairs_are ok hp r')) (.cons (.int _ _) .nil)), nk_depth cs q⟩
/-- the dict -/
def SeenO (P : Program) (w : World) (d : Addr) (xs : List (NestedKey × Addr × Value)) : HO := .ext fun h => xs.length ≤ sizeLine ∧ (d == sysModules) = false ∧
  ∃ o es ep, h.get? d = some o ∧ o.ExactDict ∧ o.data = .dict es ep ∧ es.toList = xs.map (entryOfKey (nestedKind P w)) ∧ (xs.map (·.1)).Nodup
def SeenIs (P : Program) (w : World) (R : List (Nat × Nat) → Nat → Bool → Prop) (H : Hp) (d : Addr) (xs : List (NestedKey × Addr × Value)) : Prop :=
  H d = some (SeenO P w d xs) ∧ ∀ x ∈ xs, ∃ cs q b, x.1 = nk cs q ∧ KeyAt H x.2.1 cs q ∧ x.2.2 = .bool b ∧ R cs q b
theorem seenO_at {P : Program} {w : World} {H : Hp} {h : Heap} {d : Addr} {xs : List (NestedKey × Addr × Value)} (ok : HOk P w H h) (e : H d = some (SeenO P w d xs)) : xs.length ≤ sizeLine ∧ (d == sysModules) = false ∧
    ∃ o es ep, h.get? d = some o ∧ o.ExactDict ∧ o.data = .dict es ep ∧ es.toList = xs.map (entryOfKey (nestedKind P w)) ∧ (xs.map (·.1)).Nodup := (show ObjOk P w H h d (SeenO P w d xs) from ok d _ e).1
theorem seenO_new {P : Program} {w : World} {H : Hp} {h : Heap} {d : Addr} {xs : List (NestedKey × Addr × Value)} (z : xs.length ≤ sizeLine) (hd : (d == sysModules) = false)
    (e : ∃ o es ep, h.get? d = some o ∧ o.ExactDict ∧ o.data = .dict es ep ∧ es.toList = xs.map (entryOfKey (nestedKind P w)) ∧ (xs.map (·.1)).Nodup) : ObjOk P w H h d (SeenO P w d xs) := by
  refine ⟨⟨z, hd, e⟩, ?_, fun h1 h2 x k => ?_⟩
  · obtain ⟨o, _, _, ho, _⟩ := e
    exact ⟨o, ho⟩
  · obtain ⟨z', hd', o, es, ep, ho, r⟩ := x
    exact ⟨z', hd', o, es, ep, k _ ho, r⟩
theorem seen_dd {P : Program} {w : World} {R : List (Nat × Nat) → Nat → Bool → Prop} {H : Hp} {h : Heap} {d : Addr} {xs : List (NestedKey × Addr × Value)} (ok : HOk P w H h) (S : SeenIs P w R H d xs) :
    xs.length ≤ sizeLine ∧ (d == sysModules) = false ∧ h.DictOfH (nestedKind P w) d xs := by
  obtain ⟨e, all⟩ := S
  obtain ⟨z, hd, o, es, ep, h1, h2, h3, h4, h5⟩ := seenO_at ok e
  refine ⟨z, hd, o, es, ep, h1, h2, h3, h4, fun x hx => ?_, h5⟩
  obtain ⟨cs, q, b, e1, k, _⟩ := all x hx
  rw [e1]
  exact key_is ok k
theorem room_nested {P : Program} {w : World} {A : Around} (hu : A.units + 64 < cLine) : (nestedKind P w).room A.in1 := by
  show A.in1.units + 8 < cLine
  have : A.in1.units ≤ A.units + 1 := Nat.le_of_eq rfl
  omega
abbrev SR := List (Nat × Nat) → Nat → Bool → Prop
abbrev SX := List (NestedKey × Addr × Value)
/-- what is told at a key -/
def sGet (xs : List (NestedKey × Addr × Value)) (cs : List (Nat × Nat)) (q : Nat) : Option (Addr × Value) := atKey xs (nk cs q)
theorem sGet_some {P : Program} {w : World} {R : List (Nat × Nat) → Nat → Bool → Prop} {H : Hp} {d : Addr} {xs : List (NestedKey × Addr × Value)} (S : SeenIs P w R H d xs) {cs : List (Nat × Nat)} {q : Nat} {p : Addr × Value} (h : sGet xs cs q = some p) :
    ∃ b, p.2 = .bool b ∧ R cs q b := by
  unfold sGet atKey at h
  obtain ⟨x, hx, rfl⟩ := Option.map_eq_some_iff.mp h
  have h1 := List.find?_some hx
  have h1 : x.1 = nk cs q := of_decide_eq_true h1
  obtain ⟨cs', q', b, e1, _, e2, r⟩ := S.2 x (List.mem_of_find?_eq_some hx)
  obtain ⟨rfl, rfl⟩ := nk_inj (e1.symm.trans h1)
  exact ⟨b, e2, r⟩
/-- key in seen -/
def rSeenIn (P : Program) (w : World) : R2 := fun y x H Q => ∃ (p d : Addr) (R : SR) (xs : SX) (cs : List (Nat × Nat)) (q : Nat), y = .ref p ∧ x = .ref d ∧ SeenIs P w R H d xs ∧ KeyAt H p cs q ∧ Q (.bl (sGet xs cs q).isSome) H
def tSeenGet (P : Program) (w : World) (td ty : TE) : TE := fun σ H Q => td σ H fun x H1 => ty σ H1 fun y H2 => ∃ (p d : Addr) (R : SR) (xs : SX) (cs : List (Nat × Nat)) (q : Nat), y = .ref p ∧ x = .ref d ∧ SeenIs P w R H2 d xs ∧ KeyAt H2 p cs q ∧ (sGet xs cs q).isSome = true ∧ ∀ b, R cs q b → Q (.bl b) H2
def sSeenPut (P : Program) (w : World) (td ty tv : TE) : TS := fun D σ H => tv σ H fun v H1 => td σ H1 fun x H2 => ty σ H2 fun y H3 => ∃ (p d : Addr) (b : Bool) (R : SR) (xs : SX) (cs : List (Nat × Nat)) (q : Nat), y = .ref p ∧ x = .ref d ∧ v = .bl b ∧ SeenIs P w R H3 d xs ∧ KeyAt H3 p cs q ∧ xs.length < sizeLine ∧ R cs q b ∧
  ∀ ys, (ys.map (·.1)).Nodup → SeenIs P w R (upd H3 d (SeenO P w d ys)) d ys → D.nx σ (upd H3 d (SeenO P w d ys))
def tSeenNew (P : Program) (w : World) : TE := fun _ H Q => ∀ p, H p = none → Q (.ref p) (upd H p (SeenO P w p []))
section
variable {X : Cx} {o i e value : Expr} {pos pos' tpos : Pos} {td ty tv : TE}
theorem op_seenIn (hu : X.A.units + 64 < cLine) : OpR X (compareOp .In) (rSeenIn X.prog X.w) := by
  intro pins s σ H y x v u Q I ry rx h
  obtain ⟨p, d, R, xs, cs, q, rfl, rfl, S, K, h⟩ := h
  obtain rfl : v = Value.ref p := ry
  obtain rfl : u = Value.ref d := rx
  obtain ⟨z, hd, dd⟩ := seen_dd I.hok S
  exact wpAny_in_heap (room_nested hu) (key_is I.hok K) hd dd ⟨.bl (sGet xs cs q).isSome, H, I.tok _, rfl, h⟩
theorem pe_seenGet (hu : X.A.units + 64 < cLine) (ho : PE X o td) (hi : PE X i ty) (hs : NoSl i) : PE X (.Subscript o i pos) (tSeenGet X.prog X.w td ty) := by
  refine ⟨fun pins s σ H Q I h => ?_⟩
  refine subD_of PySem.F.slot_dict_getitem.lookup hs (thn (ho.run pins s σ H _ I h) fun u s1 ⟨x, H1, I1, rx, q1⟩ => thn (hi.run pins s1 σ H1 _ I1 q1) fun iv s2 ⟨y, H2, I2, ry, p, d, R, xs, cs, q, ey, ex, S, K, hg, q2⟩ => ?_)
  subst ex ey
  obtain rfl : u = Value.ref d := rx
  obtain rfl : iv = Value.ref p := ry
  obtain ⟨z, hd, dd⟩ := seen_dd I2.hok S
  obtain ⟨pr, hpr⟩ := Option.isSome_iff_exists.mp hg
  obtain ⟨b, e1, r⟩ := sGet_some S hpr
  refine ⟨dd.typeIs, wpAny_getItem_heap (room_nested hu) (key_is I2.hok K) dd hpr ?_⟩
  exact ⟨.bl b, H2, I2.tok _, e1, q2 b r⟩
theorem ps_seenPut (hu : X.A.units + 64 < cLine) (ho : PE X o td) (hi : PE X i ty) (hv : PE X value tv) (hs : swapsWith value (some (.Subscript o i pos')) pos.line X.env = pure false) :
    PS X (.Assign [.Subscript o i pos'] value pos) (sSeenPut X.prog X.w td ty tv) := by
  refine ⟨fun pins s σ H D I h => ?_⟩
  refine wpAny_Assign_Subscript (thn (hv.run pins s σ H _ I h) fun r s1 ⟨v, H1, I1, rv, q1⟩ => thn (ho.run pins s1 σ H1 _ I1 q1) fun u s2 ⟨x, H2, I2, rx, q2⟩ => thn (hi.run pins s2 σ H2 _ I2 q2) fun iv s3 ⟨y, H3, I3, ry, p, d, b, R, xs, cs, q, ey, ex, ev, S, K, hl, hr, q3⟩ => ?_) hs
  subst ex ey ev
  obtain rfl : u = Value.ref d := rx
  obtain rfl : iv = Value.ref p := ry
  obtain rfl : r = Value.bool b := rv
  obtain ⟨z, hd, dd⟩ := seen_dd I3.hok S
  refine wpAny_setItem_heap (hsz := z) (room_nested hu) (key_is I3.hok K) dd fun h' dd' hs => ?_
  obtain ⟨qo, es, ep, hq, h2, h3, h4, _, h5⟩ := dd'
  have e3 := S.1
  have hlen : (storedH xs (nk cs q) p (Value.bool b)).length ≤ xs.length + 1 := by
    unfold storedH
    split
    · rw [List.length_map]; omega
    · simp
  have tu : ∀ (ys : List (NestedKey × Addr × Value)) a ts, H3 a = some (.tup ts) → upd H3 d (SeenO X.prog X.w d ys) a = some (.tup ts) := fun ys a ts ea => by
    rw [upd_ne (ne_of ea e3 (fun z => nomatch z))]
    exact ea
  have new : SeenIs X.prog X.w R (upd H3 d (SeenO X.prog X.w d (storedH xs (nk cs q) p (Value.bool b)))) d (storedH xs (nk cs q) p (Value.bool b)) := by
    refine ⟨upd_same, fun x hx => ?_⟩
    unfold storedH at hx
    split at hx
    · obtain ⟨x0, hx0, rfl⟩ := List.mem_map.mp hx
      obtain ⟨cs', q', b', e1, k, e2, r⟩ := S.2 x0 hx0
      unfold putAt
      by_cases c : x0.1 = nk cs q
      · rw [if_pos c]
        obtain ⟨rfl, rfl⟩ := nk_inj (e1.symm.trans c)
        exact ⟨cs', q', b, e1, k.imp (tu _), rfl, hr⟩
      · rw [if_neg c]
        exact ⟨cs', q', b', e1, k.imp (tu _), e2, r⟩
    · rcases List.mem_append.mp hx with hx | hx
      · obtain ⟨cs', q', b', e1, k, e2, r⟩ := S.2 x hx
        exact ⟨cs', q', b', e1, k.imp (tu _), e2, r⟩
      · rw [List.mem_singleton] at hx
        subst hx
        exact ⟨cs, q, b, rfl, K.imp (tu _), rfl, hr⟩
  refine ⟨σ, _, d_write I3 (by rw [e3]; exact True.intro) hs ⟨qo, hq⟩ (seenO_new (by omega) hd ⟨qo, es, ep, hq, h2, h3, h4, h5⟩), q3 _ h5 new⟩
theorem pe_seenNew : PE X (.Dict [] [] pos) (tSeenNew X.prog X.w) := ⟨fun pins s σ H Q I h =>
  wpAny_Dict_empty ⟨.ref s.heap.objs.size, _, I.laid (a := s.heap.objs.size) (o := SeenO X.prog X.w s.heap.objs.size []) (t' := s.toks) (fun _ _ q => Heap.get?_push_of_some _ q) (Nat.le_refl _)
    (seenO_new (Nat.zero_le _) (beq_eq_false_iff_ne.mpr (Ne.symm (Nat.ne_of_lt I.big))) ⟨_, #[], 0, Heap.get?_push_size _ rfl, ⟨rfl, rfl, rfl⟩, rfl, rfl, List.nodup_nil⟩), rfl, h _ (I.hok.fresh (Nat.le_refl _))⟩⟩
end
end K26

set_option Elab.async false
set_option linter.all false
set_option maxRecDepth 100000
set_option maxHeartbeats 4000000
namespace K26
open PySem PySem.Spec PyProof.Rows L2
/-! ### what stays: lists and tuples -/
def SL (H H' : Hp) : Prop := (∀ b xs, H b = some (.lst xs) → H' b = some (.lst xs)) ∧ ∀ b xs, H b = some (.tup xs) → H' b = some (.tup xs)
theorem SL.of {H H' : Hp} (s : Same H H') : SL H H' := ⟨fun b xs h => s b _ h, fun b xs h => s b _ h⟩
theorem SL.refl (H : Hp) : SL H H := ⟨fun _ _ h => h, fun _ _ h => h⟩
theorem SL.trans {A B C : Hp} (a : SL A B) (b : SL B C) : SL A C := ⟨fun x xs h => b.1 x xs (a.1 x xs h), fun x xs h => b.2 x xs (a.2 x xs h)⟩
theorem SL.up {H : Hp} {d : Addr} {u o : HO} (h : H d = some u) (n1 : ∀ xs, HO.lst xs ≠ u) (n2 : ∀ xs, HO.tup xs ≠ u) : SL H (upd H d o) :=
  ⟨fun b xs e => by rw [upd_ne (ne_of e h (n1 xs))]; exact e, fun b xs e => by rw [upd_ne (ne_of e h (n2 xs))]; exact e⟩
theorem SL.but {H H' : Hp} {d : Addr} {u : HO} (h : H d = some u) (n1 : ∀ xs, HO.lst xs ≠ u) (n2 : ∀ xs, HO.tup xs ≠ u) (s : But d H H') : SL H H' :=
  ⟨fun b xs e => s b _ (ne_of e h (n1 xs)) e, fun b xs e => s b _ (ne_of e h (n2 xs)) e⟩
theorem same_unlock {H H' : Hp} {d : Addr} {u : HO} {od : Obj} (h : H d = some u) (s : Same (upd H d (.frz od u)) H') : Same H (upd H' d u) := fun b o e => by
  by_cases n : b = d
  · subst n
    rw [h] at e
    cases e
    exact upd_same
  · rw [upd_ne n]
    exact s b o (by rw [upd_ne n]; exact e)
/-! ### the table, the classes, the counts -/
def TabAt (H : Hp) (a : Addr) (h : Hist) : Prop := ∃ rs, H a = some (.lst (rs.map V.ref)) ∧ Paired (fun r c => H r = some (.lst ((List.range h.length).map fun m => V.bl (anc h m c)))) rs (List.range h.length)
theorem TabAt.sl {H H' : Hp} {a : Addr} {h : Hist} (t : TabAt H a h) (s : SL H H') : TabAt H' a h := by
  obtain ⟨rs, h1, h2⟩ := t
  exact ⟨rs, s.1 _ _ h1, h2.imp26 fun _ _ e => s.1 _ _ e⟩
theorem LTup.sl {H H' : Hp} {a : Addr} {ls : List (List Nat)} (t : LTup H a ls) (s : SL H H') : LTup H' a ls := by
  obtain ⟨ts, h1, h2⟩ := t
  exact ⟨ts, s.1 _ _ h1, h2.imp26 fun _ _ e => s.2 _ _ e⟩
theorem TabAt.get {H : Hp} {a : Addr} {h : Hist} (t : TabAt H a h) {c : Nat} (hc : c < h.length) : ∃ (rs : List Addr) (r : Addr), H a = some (.lst (rs.map V.ref)) ∧ (rs.map V.ref)[c]? = some (V.ref r) ∧ H r = some (.lst ((List.range h.length).map fun m => V.bl (anc h m c))) := by
  obtain ⟨rs, h1, h2⟩ := t
  obtain ⟨r, hr, e⟩ := h2.getR26 (i := c) (y := c) (by rw [List.getElem?_range hc])
  exact ⟨rs, r, h1, by rw [List.getElem?_map, hr]; rfl, e⟩
theorem tab_at {h : Hist} {c m : Nat} (hm : m < h.length) : ((List.range h.length).map fun m => V.bl (anc h m c))[m]? = some (V.bl (anc h m c)) := by
  rw [List.getElem?_map, List.getElem?_range hm]; rfl
theorem ik_inj {a b : Nat} (h : (Sum.inl (a : Int) : Key) = Sum.inl (b : Int)) : a = b := Int.ofNat.inj (Sum.inl.inj h)
def kvsOf (M : List Nat) (as : List Addr) : List (Key × V) := (M.zip as).map fun p => (Sum.inl (p.1 : Int), V.ref p.2)
def cntF (M : List Nat) (cs : List (Nat × Nat)) (m : Nat) : Nat × Nat := cs.getD (M.idxOf m) (0, 0)
def CntAt (H : Hp) (d : Addr) (M : List Nat) (cs : List (Nat × Nat)) (as : List Addr) : Prop := H d = some (.dK (kvsOf M as)) ∧ Paired (PairAt H) as cs ∧ M.length = cs.length
theorem idx_at : ∀ {M : List Nat} {i m : Nat}, M.Nodup → M[i]? = some m → M.idxOf m = i
  | [], _, _, _, h => by simp at h
  | a :: M, 0, m, nd, h => by
    have h : a = m := by simpa using h
    subst h
    simp
  | a :: M, i + 1, m, nd, h => by
    have h : M[i]? = some m := by simpa using h
    have hn := List.nodup_cons.mp nd
    have ne : a ≠ m := fun e => hn.1 (e ▸ List.mem_of_getElem? h)
    have ne' : ¬ (a == m) = true := by simpa using ne
    rw [List.idxOf_cons, cond_eq_if, if_neg ne', idx_at hn.2 h]
theorem cntF_at {M : List Nat} {cs : List (Nat × Nat)} {i m : Nat} {c : Nat × Nat} (nd : M.Nodup) (h : M[i]? = some m) (hc : cs[i]? = some c) : cntF M cs m = c := by
  unfold cntF
  rw [idx_at nd h, List.getD_eq_getElem?_getD, hc]
  rfl
theorem kvs_val : ∀ {M : List Nat} {as : List Addr} {i m : Nat} {a : Addr}, M.Nodup → M[i]? = some m → as[i]? = some a → valV (kvsOf M as) (Sum.inl (m : Int)) = some (.ref a)
  | [], _, _, _, _, _, h, _ => by simp at h
  | _ :: _, [], _, _, _, _, _, h => by simp at h
  | x :: M, y :: as, 0, m, a, nd, h, ha => by
    have h : x = m := by simpa using h
    have ha : y = a := by simpa using ha
    subst h ha
    exact valV_pos rfl
  | x :: M, y :: as, i + 1, m, a, nd, h, ha => by
    have h : M[i]? = some m := by simpa using h
    have hn := List.nodup_cons.mp nd
    have ne : x ≠ m := fun e => hn.1 (e ▸ List.mem_of_getElem? h)
    have := kvs_val (as := as) hn.2 h (by simpa using ha)
    refine (valV_neg (p := (Sum.inl (x : Int), V.ref y)) (fun e => ne ?_)).trans this
    exact ik_inj e
theorem kvs_map_no {m : Nat} {v : V} : ∀ {M : List Nat} {as : List Addr}, m ∉ M → ((kvsOf M as).map fun kv => if kv.1 = Sum.inl (m : Int) then (kv.1, v) else kv) = kvsOf M as
  | [], _, _ => by simp [kvsOf]
  | _ :: _, [], _ => by simp [kvsOf]
  | x :: M, y :: as, h => by
    rw [List.mem_cons, not_or] at h
    have ih := kvs_map_no (v := v) (as := as) h.2
    show (if (Sum.inl (x : Int) : Key) = Sum.inl (m : Int) then _ else _) :: ((kvsOf M as).map fun kv => if kv.1 = Sum.inl (m : Int) then (kv.1, v) else kv) = _
    rw [ih, if_neg (fun e => h.1 (ik_inj e).symm)]
    rfl
theorem kvs_map_set {p : Addr} : ∀ {M : List Nat} {as : List Addr} {i m : Nat}, M.Nodup → M[i]? = some m → ((kvsOf M as).map fun kv => if kv.1 = Sum.inl (m : Int) then (kv.1, V.ref p) else kv) = kvsOf M (as.set i p)
  | [], _, _, _, _, h => by simp at h
  | _ :: _, [], _, _, _, _ => by simp [kvsOf]
  | x :: M, y :: as, 0, m, nd, h => by
    have h : x = m := by simpa using h
    subst h
    show (if (Sum.inl (x : Int) : Key) = Sum.inl (x : Int) then _ else _) :: ((kvsOf M as).map fun kv => if kv.1 = Sum.inl (x : Int) then (kv.1, V.ref p) else kv) = _
    rw [if_pos rfl, kvs_map_no (List.nodup_cons.mp nd).1]
    rfl
  | x :: M, y :: as, i + 1, m, nd, h => by
    have h : M[i]? = some m := by simpa using h
    have hn := List.nodup_cons.mp nd
    have ne : x ≠ m := fun e => hn.1 (e ▸ List.mem_of_getElem? h)
    show (if (Sum.inl (x : Int) : Key) = Sum.inl (m : Int) then _ else _) :: ((kvsOf M as).map fun kv => if kv.1 = Sum.inl (m : Int) then (kv.1, V.ref p) else kv) = _
    rw [if_neg (fun e => ne (ik_inj e)), kvs_map_set hn.2 h]
    rfl
theorem kvs_put {M : List Nat} {as : List Addr} {i m : Nat} {p : Addr} (nd : M.Nodup) (h : M[i]? = some m) (hl : as.length = M.length) : putK (kvsOf M as) (Sum.inl (m : Int)) (.ref p) = kvsOf M (as.set i p) := by
  have hi : i < as.length := by rw [hl]; exact (List.getElem?_eq_some_iff.mp h).1
  have e := kvs_val nd h (List.getElem?_eq_getElem hi)
  unfold putK
  rw [valV_any, e]
  exact kvs_map_set nd h
theorem kvs_len {M : List Nat} {as : List Addr} (hl : as.length = M.length) : (kvsOf M as).length = M.length := by
  unfold kvsOf; rw [List.length_map, List.length_zip]; omega
theorem kvs_get {M : List Nat} {as : List Addr} {i : Nat} {k : Key} {v : V} (h : (kvsOf M as)[i]? = some (k, v)) : ∃ m a, M[i]? = some m ∧ as[i]? = some a ∧ k = Sum.inl (m : Int) ∧ v = .ref a := by
  unfold kvsOf at h
  rw [List.getElem?_map] at h
  obtain ⟨⟨m, a⟩, h1, h2⟩ := Option.map_eq_some_iff.mp h
  rw [List.getElem?_zip_eq_some] at h1
  cases h2
  exact ⟨m, a, h1.1, h1.2, rfl, rfl⟩
theorem kvs_keys : ∀ {M : List Nat} {as : List Addr}, as.length = M.length → (kvsOf M as).map (fun x => x.1) = (M.map fun n : Nat => (n : Int)).map Sum.inl
  | [], _, _ => by simp [kvsOf]
  | _ :: _, [], h => by simp at h
  | x :: M, y :: as, h => by
    have ih := kvs_keys (M := M) (as := as) (by simpa using h)
    show (Sum.inl (x : Int) : Key) :: (kvsOf M as).map (fun x => x.1) = _
    rw [ih]
    rfl
def okC (B : Nat → Nat → Bool) (k kb j : Nat) (p : Nat × Nat × Nat) : Bool := if B p.1 j then decide (p.2.1 ≤ k) else decide (p.2.2 ≤ kb)
theorem zip_all {B : Nat → Nat → Bool} {k kb j : Nat} {M : List Nat} {cs : List (Nat × Nat)} (nd : M.Nodup) (hl : M.length = cs.length) :
    (M.zip cs).all (okC B k kb j) = M.all fun m => if B m j then decide ((cntF M cs m).1 ≤ k) else decide ((cntF M cs m).2 ≤ kb) := by
  rw [Bool.eq_iff_iff, List.all_eq_true, List.all_eq_true]
  constructor
  · intro h m hm
    obtain ⟨i, hi⟩ := List.mem_iff_getElem?.mp hm
    have hi' : i < cs.length := by rw [← hl]; exact (List.getElem?_eq_some_iff.mp hi).1
    have hz : (M.zip cs)[i]? = some (m, cs[i]) := by rw [List.getElem?_zip_eq_some]; exact ⟨hi, List.getElem?_eq_getElem hi'⟩
    have := h _ (List.mem_of_getElem? hz)
    rw [cntF_at nd hi (List.getElem?_eq_getElem hi')]
    exact this
  · intro h p hp
    obtain ⟨i, hi⟩ := List.mem_iff_getElem?.mp hp
    obtain ⟨h1, h2⟩ := List.getElem?_zip_eq_some.mp hi
    have := h p.1 (List.mem_of_getElem? h1)
    rw [cntF_at nd h1 h2] at this
    exact this
theorem all_snoc {α : Type} {f : α → Bool} {l : List α} {i : Nat} {x : α} (h : l[i]? = some x) : (l.take (i + 1)).all f = ((l.take i).all f && f x) := by
  rw [List.take_add_one, h, List.all_append]
  simp
theorem asc_nodup {M : List Nat} (h : M.Pairwise (· < ·)) : M.Nodup := h.imp fun h => Nat.ne_of_lt h
theorem kbOf_eq (k : Nat) (two : Bool) : ([iv k, V.int 0] : List V)[if two = true then 0 else 1]? = some (iv (if two = true then k else 0)) := by cases two <;> rfl
abbrev kbOf (k : Nat) (two : Bool) : Nat := if two = true then k else 0
section
variable {P : Program} {w : World} {K : PySem.W.Frag} {mg : PySem.Str → Option Value} {base : Heap} {f : Addr} {fd : FuncData} {C : Addr}
/-! ### _law_alive -/
abbrev nAlive : List PySem.Str := ["_law_table", "_law_classes_here", "_law_counts", "_law_k", "_law_rule", "_law_alive_here", "_law_row", "_law_good", "_law_make", "_law_works", "_law_broken"]
theorem sc_L_alive : FnScope nAlive ["_law_table", "_law_classes_here", "_law_counts", "_law_k", "_law_rule"] (defScope s_L_alive) := ⟨rfl, rfl, rfl, by decide +kernel, rfl, by decide +kernel, by decide +kernel⟩
def aliveN (h : Hist) (sk M : List Nat) (k kb : Nat) (cs : List (Nat × Nat)) : Nat := ((List.range (clsM h sk).length).filter (aliveC M (Bm h (clsM h sk)) (inU (clsM h sk).length) k kb (cntF M cs))).length
def spAlive : Sp := fun vs H Q _ => ∃ (ta cl d : Addr) (k : Nat) (two : Bool) (h : Hist) (sk M : List Nat) (cs : List (Nat × Nat)) (as : List Addr), vs = [.ref ta, .ref cl, .ref d, iv k, ruleS two] ∧ TabAt H ta h ∧ LTup H cl (clsM h sk) ∧ CntAt H d M cs as ∧
  M.Pairwise (· < ·) ∧ (∀ m ∈ M, m < h.length) ∧ Small h ∧ ∀ H', Same H H' → Q (iv (aliveN h sk M k (kbOf k two) cs)) H'
theorem at0 {xs : List V} {v : V} (h : xs[0]? = some v) : atI xs (0 : Int) = some v := atI_nat (j := 0) h
theorem cls_head {h : Hist} {sk : List Nat} {j : Nat} {l : List Nat} (e : (clsM h sk)[j]? = some l) : l[0]? = some (rep (clsM h sk) j) ∧ rep (clsM h sk) j < h.length := by
  have hj : j < (clsM h sk).length := (List.getElem?_eq_some_iff.mp e).1
  obtain ⟨p, e1, e2, hp⟩ := cls_at hj
  have g := grpTo_ok (markL h sk) h.length
  rw [e] at e2
  cases e2
  exact ⟨(rep_of e (g.ne p hp)).2, (rep_ok hj).1⟩
theorem ix_rule (k : Nat) (two : Bool) : atI [iv k, V.int 0] (if decide (ruleS two = V.str "one") = true then (1 : Int) else 0) = some (iv (kbOf k two)) := by
  cases two with
  | true => rw [if_neg (fun z => absurd (of_decide_eq_true z) (by decide +kernel))]; exact at0 rfl
  | false => rw [if_pos (by decide +kernel)]; exact atI_nat (j := 1) rfl
theorem ok_L_alive (F : FnP K "_law_alive" s_L_alive f fd) (T : Blt mg) : FnOk P w K mg base CX0 1 f fd ["_law_table", "_law_classes_here", "_law_counts", "_law_k", "_law_rule"] spAlive := by
  refine F.ok sc_L_alive (fun vs H Q E h => ?_) (fun cdv A outer s H vs Q E hr h => ?_)
  · obtain ⟨ta, cl, d, k, two, h, sk, M, cs, as, rfl, _⟩ := h
    rfl
  · obtain ⟨ta, cl, d, k, two, h, sk, M, cs, as, rfl, ht, hcl, hcn, hasc, hM, sm, q⟩ := h
    refine ⟨_, PSs.nox (pss_cons (ps_set (i := 5) sc_L_alive.nd rfl (.inl rfl) pe_int)
      (pss_cons (ps_for PassesOwn.never rfl (pi_list (pv 1)) (pg_name (i := 6) sc_L_alive.nd rfl (.inl rfl))
        (pss_cons (ps_set (i := 7) sc_L_alive.nd rfl (.inl rfl) pe_bl)
        (pss_cons (ps_lock (ps_for PassesOwn.never rfl (pi_keys (pv 2)) (pg_name (i := 8) sc_L_alive.nd rfl (.inl rfl))
          (pss_cons (ps_asg (pe_dget (hu_of hr) (pv 2) (pv 8) (fun _ _ => rfl)) (pg_tup rfl (pgs_cons (pg_name (i := 9) sc_L_alive.nd rfl (.inl rfl)) (pgs_cons (pg_name (i := 10) sc_L_alive.nd rfl (.inl rfl)) pgs_nil))))
          (pss_one (ps_if (PW.pt (pw_or (PW.pt (pw_and (pt_val (pe_ix ix_list (pe_ix ix_list (pv 0) (pe_ix ix_tup (pv 6) pe_int (fun _ _ => rfl)) (fun _ _ => rfl)) (pv 8) (fun _ _ => rfl))) (pw_and1 (pt_cmpR op_gt (pv 9) (pv 3) (nomark _)))))
              (pw_or1 (PW.pt (pw_and (pt_not (pt_val (pe_ix ix_list (pe_ix ix_list (pv 0) (pe_ix ix_tup (pv 6) pe_int (fun _ _ => rfl)) (fun _ _ => rfl)) (pv 8) (fun _ _ => rfl)))) (pw_and1 (pt_cmpR op_gt (pv 10) (pe_ix ix_list (pe_lst (pa_cons (pv 3) (pa_cons pe_int pa_nil))) (pe_callTy call_int1 rfl T.int (by decide +kernel) (pa_cons (pe_cmpR op_eq (pv 4) pe_str (nomark _)) pa_nil)) (fun _ _ => rfl)) (nomark _))))))))
            (pss_one (ps_set (i := 7) sc_L_alive.nd rfl (.inl rfl) pe_bl)) pss_nil)))))
        (pss_one (ps_set (i := 5) sc_L_alive.nd rfl (.inl rfl) (pe_op op_add (pv 5) (pe_callTy call_int1 rfl T.int (by decide +kernel) (pa_cons (pv 7) pa_nil))))))))
      (pss_one (ps_ret (pv 5))))), ?_⟩
    have hnd := asc_nodup hasc
    obtain ⟨ts, eC, hts⟩ := hcl
    obtain ⟨eD, hps, hlen⟩ := hcn
    have hal : as.length = M.length := by rw [hps.length, hlen]
    refine ⟨.ref cl, rfl, cl, rfl, ⟨_, SqL.of eC⟩, for_list (K := K) (a := cl) (xs := ts.map V.ref)
      (fun j σ H' => ∃ y6 y7 y8 y9 y10, σ = [some (.ref ta), some (.ref cl), some (.ref d), some (iv k), some (ruleS two), some (iv ((List.range j).filter (aliveC M (Bm h (clsM h sk)) (inU (clsM h sk).length) k (kbOf k two) (cntF M cs))).length), y6, y7, y8, y9, y10] ∧ Same H H') ?_ (fun j σ H' _ z => ?_) (fun j x σ H1 hx z => ?_) (fun σ H' z => ?_)⟩
    · exact ⟨none, none, none, none, none, rfl, fun _ _ e => e⟩
    · obtain ⟨_, _, _, _, _, _, s⟩ := z
      exact SqL.of (s _ _ eC)
    · obtain ⟨t, hx', rfl⟩ := getMap hx
      obtain ⟨y6, y7, y8, y9, y10, rfl, s1⟩ := z
      obtain ⟨l, hl, et⟩ := hts.getL26 hx'
      obtain ⟨l0, rl⟩ := cls_head hl
      have hjl : j < (clsM h sk).length := (List.getElem?_eq_some_iff.mp hl).1
      have eD1 := s1 _ _ eD
      refine ⟨d, _, eD1, trivial, fun od => ?_⟩
      refine ⟨.ref d, rfl, d, od, rfl, .inl ⟨_, upd_same, ?_⟩⟩
      have sL : SL H (upd H1 d (.frz od (.dK (kvsOf M as)))) := (SL.of s1).trans (SL.up eD1 (fun _ z => nomatch z) (fun _ z => nomatch z))
      refine for_it walk_keys (fun i σ H' => ∃ y8 y9 y10, σ = [some (.ref ta), some (.ref cl), some (.ref d), some (iv k), some (ruleS two), some (iv ((List.range j).filter (aliveC M (Bm h (clsM h sk)) (inU (clsM h sk).length) k (kbOf k two) (cntF M cs))).length), some (.ref t), some (.bl (((M.zip cs).take i).all (okC (Bm h (clsM h sk)) k (kbOf k two) j))), y8, y9, y10] ∧
          Same (upd H1 d (.frz od (.dK (kvsOf M as)))) H') ?_ (fun i σ H' _ z => ?_) (fun i x σ H2 H2' hi z hy => ?_) (fun σ H2 z => ?_)
      · exact ⟨y8, y9, y10, rfl, fun _ _ e => e⟩
      · obtain ⟨_, _, _, _, s⟩ := z
        exact s _ _ upd_same
      · obtain ⟨rfl, kk, vv, hkv, rfl⟩ := hy
        obtain ⟨y8, y9, y10, rfl, s2⟩ := z
        obtain ⟨m, a, hm, ha, rfl, rfl⟩ := kvs_get hkv
        obtain ⟨c, hc, ea⟩ := hps.getL26 ha
        have sL2 := sL.trans (SL.of s2)
        have eDL := s2 _ _ upd_same
        have hz : (M.zip cs)[i]? = some (m, c) := by rw [List.getElem?_zip_eq_some]; exact ⟨hm, hc⟩
        have hmh := hM m (List.mem_of_getElem? hm)
        obtain ⟨rs, r, eT, hrs, er⟩ := (ht.sl sL2).get rl
        refine ⟨.ref d, rfl, iv m, rfl, d, .ref a, rfl, .inl ⟨_, Sum.inl (m : Int), .inr ⟨od, eDL⟩, rfl, (kvs_val hnd hm ha).symm⟩, a, _, rfl, SqT.of (sL2.2 _ _ ea), rfl, iv c.1, [iv c.2], rfl, iv c.2, [], rfl, rfl, ?_⟩
        have et2 := sL2.2 _ _ et
        have hl0 : (l.map iv)[0]? = some (iv (rep (clsM h sk) j)) := by rw [List.getElem?_map, l0]; rfl
        rw [all_snoc hz]
        -- table[row[0]][make]
        refine ⟨.ref ta, rfl, .ref t, rfl, t, _, 0, iv (rep (clsM h sk) j), rfl, rfl, SqT.of et2, at0 hl0, ta, _, ((rep (clsM h sk) j : Nat) : Int), .ref r, rfl, rfl, SqL.of eT, atI_nat hrs, iv m, rfl, r, _, ((m : Nat) : Int), _, rfl, rfl, SqL.of er, atI_nat (tab_at hmh), _, rfl, ?_⟩
        by_cases hB : anc h m (rep (clsM h sk) j) = true
        · refine ite2 (fun _ => ?_) (fun c0 => absurd hB c0)
          refine ⟨iv c.1, rfl, iv k, rfl, _, _, rfl, rfl, _, rfl, ite2 (fun c1 => ?_) (fun c1 => ?_)⟩
          · have eo : okC (Bm h (clsM h sk)) k (kbOf k two) j (m, c) = false := by
              have hB' : Bm h (clsM h sk) m j = true := hB
              unfold okC
              rw [if_pos hB']
              have c1 := of_decide_eq_true c1
              exact decide_eq_false (by have : (c.1 : Int) > (k : Int) := c1; show ¬ c.1 ≤ k; omega)
            rw [eo, Bool.and_false]
            exact iteT ⟨_, _, _, rfl, s2⟩
          · have eo : okC (Bm h (clsM h sk)) k (kbOf k two) j (m, c) = true := by
              have hB' : Bm h (clsM h sk) m j = true := hB
              unfold okC
              rw [if_pos hB']
              have c1 : ¬ (c.1 : Int) > (k : Int) := fun z => c1 (decide_eq_true z)
              exact decide_eq_true (by show c.1 ≤ k; omega)
            rw [eo, Bool.and_true]
            refine ⟨.ref ta, rfl, .ref t, rfl, t, _, 0, iv (rep (clsM h sk) j), rfl, rfl, SqT.of et2, at0 hl0, ta, _, ((rep (clsM h sk) j : Nat) : Int), .ref r, rfl, rfl, SqL.of eT, atI_nat hrs, iv m, rfl, r, _, ((m : Nat) : Int), _, rfl, rfl, SqL.of er, atI_nat (tab_at hmh), _, rfl, ?_⟩
            refine ite2 (fun c2 => ?_) (fun c2 => ?_)
            · rw [hB] at c2; cases c2
            · exact iteF ⟨_, _, _, rfl, s2⟩
        · refine ite2 (fun c0 => absurd c0 hB) (fun _ => iteF ?_)
          have hBf : anc h m (rep (clsM h sk) j) = false := by simpa using hB
          refine ⟨.ref ta, rfl, .ref t, rfl, t, _, 0, iv (rep (clsM h sk) j), rfl, rfl, SqT.of et2, at0 hl0, ta, _, ((rep (clsM h sk) j : Nat) : Int), .ref r, rfl, rfl, SqL.of eT, atI_nat hrs, iv m, rfl, r, _, ((m : Nat) : Int), _, rfl, rfl, SqL.of er, atI_nat (tab_at hmh), _, rfl, ?_⟩
          refine ite2 (fun _ => ?_) (fun c2 => absurd (by rw [hBf]; rfl) c2)
          refine ⟨iv c.2, rfl, iv k, rfl, by show 2 ≤ sizeLine; exact szl (by omega), fun L nL => ?_⟩
          have sn := same_new nL (o := .lst [iv k, .int 0])
          refine ⟨ruleS two, rfl, rfl, .inr ⟨_, rfl, ?_⟩⟩
          refine ⟨L, _, _, iv (kbOf k two), rfl, rfl, SqL.of upd_same, ix_rule k two, _, _, rfl, rfl, _, rfl, ite2 (fun c1 => ?_) (fun c1 => ?_)⟩
          · have eo : okC (Bm h (clsM h sk)) k (kbOf k two) j (m, c) = false := by
              have hB' : ¬ Bm h (clsM h sk) m j = true := hB
              unfold okC
              rw [if_neg hB']
              have c1 := of_decide_eq_true c1
              exact decide_eq_false (by have : (c.2 : Int) > (kbOf k two : Nat) := c1; show ¬ c.2 ≤ kbOf k two; omega)
            rw [eo, Bool.and_false]
            exact ⟨_, _, _, rfl, s2.trans sn⟩
          · have eo : okC (Bm h (clsM h sk)) k (kbOf k two) j (m, c) = true := by
              have hB' : ¬ Bm h (clsM h sk) m j = true := hB
              unfold okC
              rw [if_neg hB']
              have c1 : ¬ (c.2 : Int) > (kbOf k two : Nat) := fun z => c1 (decide_eq_true z)
              exact decide_eq_true (by show c.2 ≤ kbOf k two; omega)
            rw [eo, Bool.and_true]
            exact ⟨_, _, _, rfl, s2.trans sn⟩
      · obtain ⟨y8, y9, y10, rfl, s2⟩ := z
        refine ⟨s2 _ _ upd_same, ?_⟩
        have sU := same_unlock eD1 s2
        rw [kvs_len hal, List.take_of_length_le (by rw [List.length_zip]; omega), zip_all hnd hlen]
        refine ⟨_, rfl, .bl _, rfl, .inr ⟨_, rfl, _, _, rfl, rfl, ?_⟩⟩
        have ea : aliveC M (Bm h (clsM h sk)) (inU (clsM h sk).length) k (kbOf k two) (cntF M cs) j = M.all fun m => if Bm h (clsM h sk) m j then decide ((cntF M cs m).1 ≤ k) else decide ((cntF M cs m).2 ≤ kbOf k two) := by
          unfold aliveC
          rw [inU_iff.mpr hjl, Bool.true_and]
        rw [← ea]
        have ev : iv ((List.range (j + 1)).filter (aliveC M (Bm h (clsM h sk)) (inU (clsM h sk).length) k (kbOf k two) (cntF M cs))).length = V.int ((((List.range j).filter (aliveC M (Bm h (clsM h sk)) (inU (clsM h sk).length) k (kbOf k two) (cntF M cs))).length : Int) + (if aliveC M (Bm h (clsM h sk)) (inU (clsM h sk).length) k (kbOf k two) (cntF M cs) j = true then (1 : Int) else 0)) := by
          by_cases c : aliveC M (Bm h (clsM h sk)) (inU (clsM h sk).length) k (kbOf k two) (cntF M cs) j = true
          · rw [fl_true c, if_pos c, List.length_append]
            rfl
          · rw [fl_false c, if_neg c, Int.add_zero]
        exact ⟨some (.ref t), some (.bl _), y8, y9, y10, by rw [ev]; rfl, s1.trans sU⟩
    · obtain ⟨_, _, _, _, _, rfl, s⟩ := z
      rw [List.length_map, hts.length]
      exact ⟨_, rfl, q H' s⟩
/-! ### _law_key -/
theorem sc_L_key : FnScope ["_law_counts", "_law_q", "_law_make"] ["_law_counts", "_law_q"] (defScope s_L_key) := ⟨rfl, rfl, rfl, by decide +kernel, rfl, by decide +kernel, by decide +kernel⟩
def spKey : Sp := fun vs H Q _ => ∃ (d : Addr) (q : Nat) (M : List Nat) (cs : List (Nat × Nat)) (as : List Addr), vs = [.ref d, iv q] ∧ CntAt H d M cs as ∧ M.Pairwise (· < ·) ∧ M.length ≤ 24 ∧ ∀ H' p, Same H H' → KeyAt H' p cs q → Q (.ref p) H'
theorem sorted_asc {M : List Nat} {ys : List Int} (hp : ys.Perm (M.map fun n : Nat => (n : Int))) (hs : ys.Pairwise (· ≤ ·)) (hM : M.Pairwise (· < ·)) : ys.map V.int = M.map iv := by
  have h2 : (M.map fun n : Nat => (n : Int)).Pairwise (· ≤ ·) := by
    rw [List.pairwise_map]
    exact hM.imp fun h => by omega
  rw [PySem.W.ksm_same hp hs h2, List.map_map]
  rfl
theorem ok_L_key (F : FnP K "_law_key" s_L_key f fd) (T : Blt mg) : FnOk P w K mg base CX0 1 f fd ["_law_counts", "_law_q"] spKey := by
  refine F.ok sc_L_key (fun vs H Q E h => ?_) (fun cdv A outer s H vs Q E hr h => ?_)
  · obtain ⟨d, q0, M, cs, as, rfl, _⟩ := h
    rfl
  · obtain ⟨d, q0, M, cs, as, rfl, hcn, hasc, hM, q⟩ := h
    refine ⟨_, PSs.nox (pss_one (ps_ret (pe_tup (pa_cons (pe_callTy call_tuple_of rfl T.tuple (by decide +kernel) (pa_cons (pe_lc (own := [("_law_make", 2)]) (g := gName 2) rfl sc_L_key.nd (pi_list (pe_callB (call_sortedDI rfl) rfl T.sorted (by decide +kernel) (pa_cons (pv 0) pa_nil)))
      (blkOk_by (own := [("_law_make", 2)]) (N := ["_law_counts", "_law_q", "_law_make"]) (sc := defScope s_L_key) (by decide +kernel)) (fun _ _ _ _ _ => pg_name (i := 2) sc_L_key.nd rfl (Or.inl rfl)) (fun _ _ _ _ _ => pts_nil) (fun _ _ _ _ _ => pe_dget (hu_of hr) (pv 0) (pv 2) (fun _ _ => rfl))) pa_nil)) (pa_cons (pv 1) pa_nil))))), ?_⟩
    obtain ⟨eD, hps, hlen⟩ := hcn
    have hal : as.length = M.length := by rw [hps.length, hlen]
    have hnd := asc_nodup hasc
    refine ⟨.ref d, rfl, d, _, M.map (fun n : Nat => (n : Int)), rfl, .inl eD, kvs_keys hal, by rw [List.length_map]; omega, fun ys p hp hs np => ?_⟩
    rw [sorted_asc hp hs hasc]
    have sp := same_new np (o := .lst (M.map iv))
    refine ⟨p, rfl, ⟨_, SqL.of upd_same⟩, fun D nD => ?_⟩
    have sD := sp.trans (same_new nD (o := .lst []))
    have pD : p ≠ D := ne_of_none upd_same nD
    refine lc_list (K := K) (a := p) (xs := M.map iv) (fun i H' => Same (upd H p (.lst (M.map iv))) H' ∧ H' D = some (.lst ((as.take i).map V.ref))) ⟨same_new nD, upd_same⟩ (fun i H' _ z => SqL.of (z.1 _ _ upd_same)) (fun i x H' hx z => ?_) (fun H' z => ?_)
    · obtain ⟨m, hm, rfl⟩ := getMap hx
      obtain ⟨s1, eDD⟩ := z
      have hi : i < as.length := by rw [hal]; exact (List.getElem?_eq_some_iff.mp hm).1
      refine ⟨rfl, tYes_of ?_⟩
      refine ⟨.ref d, rfl, iv m, rfl, d, .ref as[i], rfl, .inl ⟨_, Sum.inl (m : Int), .inl (s1 _ _ (sp _ _ eD)), rfl, (kvs_val hnd hm (List.getElem?_eq_getElem hi)).symm⟩, ?_⟩
      refine ⟨_, eDD, by rw [List.length_map, List.length_take]; exact szl' (by omega), s1.ow nD, ?_⟩
      rw [upd_same, List.take_add_one, List.getElem?_eq_getElem hi, List.map_append]
      rfl
    · obtain ⟨s1, eDD⟩ := z
      rw [List.length_map, List.take_of_length_le (by omega)] at eDD
      refine ⟨D, _, rfl, .inl ⟨SqL.of eDD, fun t nt => ?_⟩⟩
      refine ⟨iv q0, rfl, by show 2 ≤ sizeLine; exact szl (by omega), fun v nv => ?_⟩
      have s2 := (sp.trans s1).nw nt (o := .tup (as.map V.ref))
      have s3 := s2.nw nv (o := .tup [.ref t, iv q0])
      refine q _ v s3 ⟨t, as, upd_same, same_new nv _ _ upd_same, hps.imp26 fun a c h => s3 _ _ h⟩
end
end K26

set_option Elab.async false
set_option linter.all false
set_option maxRecDepth 100000
set_option maxHeartbeats 4000000
namespace K26
open PySem PySem.Spec PyProof.Rows L2
/-! ### the counts, one raised -/
theorem idx_ne {M : List Nat} {i m x : Nat} (nd : M.Nodup) (h : M[i]? = some m) (ne : x ≠ m) : M.idxOf x ≠ i := by
  intro e
  have hi : i < M.length := (List.getElem?_eq_some_iff.mp h).1
  have hx : x ∈ M := List.idxOf_lt_length_iff.mp (by omega)
  obtain ⟨j, hj⟩ := List.mem_iff_getElem?.mp hx
  have := idx_at nd hj
  rw [e] at this
  subst this
  rw [h] at hj
  exact ne (Option.some.inj hj).symm
theorem cntF_W {M : List Nat} {cs : List (Nat × Nat)} {i m : Nat} {c : Nat × Nat} (nd : M.Nodup) (h : M[i]? = some m) (hc : cs[i]? = some c) : cntF M (cs.set i (c.1 + 1, c.2)) = incW (cntF M cs) m := by
  have hi : i < cs.length := (List.getElem?_eq_some_iff.mp hc).1
  funext x
  by_cases e : x = m
  · subst e
    rw [incW_same, cntF_at nd h hc, cntF_at nd h (List.getElem?_set_self hi)]
  · rw [incW_ne e]
    unfold cntF
    rw [List.getD_eq_getElem?_getD, List.getD_eq_getElem?_getD, List.getElem?_set_ne (Ne.symm (idx_ne nd h e))]
theorem cntF_B {M : List Nat} {cs : List (Nat × Nat)} {i m : Nat} {c : Nat × Nat} (nd : M.Nodup) (h : M[i]? = some m) (hc : cs[i]? = some c) : cntF M (cs.set i (c.1, c.2 + 1)) = incB (cntF M cs) m := by
  have hi : i < cs.length := (List.getElem?_eq_some_iff.mp hc).1
  funext x
  by_cases e : x = m
  · subst e
    rw [incB_same, cntF_at nd h hc, cntF_at nd h (List.getElem?_set_self hi)]
  · rw [incB_ne e]
    unfold cntF
    rw [List.getD_eq_getElem?_getD, List.getD_eq_getElem?_getD, List.getElem?_set_ne (Ne.symm (idx_ne nd h e))]
theorem few_count {n : Nat} {p : Nat → Bool} (hp : ∀ j, p j = true → j < n) : ((List.range n).filter p).length < 2 ↔ Few p := by
  have mem : ∀ j, p j = true → j ∈ (List.range n).filter p := fun j hj => List.mem_filter.mpr ⟨List.mem_range.mpr (hp j hj), hj⟩
  constructor
  · intro h i j hi hj
    have mi := mem i hi
    have mj := mem j hj
    match e : (List.range n).filter p, h, mi, mj with
    | [], _, mi, _ => simp at mi
    | [a], _, mi, mj => simp at mi mj; rw [mi, mj]
    | _ :: _ :: _, h, _, _ => simp at h; omega
  · intro f
    have nd : ((List.range n).filter p).Nodup := List.Pairwise.filter _ List.nodup_range
    match e : (List.range n).filter p, nd with
    | [], _ => simp
    | [a], _ => simp
    | a :: b :: l, nd =>
      have ha : a ∈ (List.range n).filter p := by rw [e]; simp
      have hb : b ∈ (List.range n).filter p := by rw [e]; simp
      have := f a b (List.mem_filter.mp ha).2 (List.mem_filter.mp hb).2
      subst this
      simp at nd
/-! ### how many keys there can be -/
def decP : NestedKey → Nat
  | .tup [.num a, .num b] => a.toNat * 4 + b.toNat
  | _ => 0
def decL : List NestedKey → Nat
  | [] => 0
  | x :: l => decL l * 16 + decP x
def decK : NestedKey → Nat
  | .tup [.tup l, .num q] => decL l * 11 + q.toNat
  | _ => 0
theorem decP_pk (c : Nat × Nat) : decP (pk c) = c.1 * 4 + c.2 := rfl
theorem decK_nk (cs : List (Nat × Nat)) (q : Nat) : decK (nk cs q) = decL (cs.map pk) * 11 + q := rfl
theorem decL_lt : ∀ {cs : List (Nat × Nat)}, (∀ c ∈ cs, c.1 ≤ 3 ∧ c.2 ≤ 3) → decL (cs.map pk) < 16 ^ cs.length
  | [], _ => by simp [decL]
  | c :: cs, h => by
    have ih := decL_lt (cs := cs) fun x hx => h x (List.mem_cons_of_mem _ hx)
    have hc := h c (by simp)
    have e : decL ((c :: cs).map pk) = decL (cs.map pk) * 16 + (c.1 * 4 + c.2) := rfl
    rw [e, List.length_cons, Nat.pow_succ]
    omega
theorem decL_inj : ∀ {a b : List (Nat × Nat)}, a.length = b.length → (∀ c ∈ a, c.1 ≤ 3 ∧ c.2 ≤ 3) → (∀ c ∈ b, c.1 ≤ 3 ∧ c.2 ≤ 3) → decL (a.map pk) = decL (b.map pk) → a = b
  | [], [], _, _, _, _ => rfl
  | [], _ :: _, h, _, _, _ => by simp at h
  | _ :: _, [], h, _, _, _ => by simp at h
  | c :: a, d :: b, h, ha, hb, e => by
    have hc := ha c (by simp)
    have hd := hb d (by simp)
    have e1 : decL ((c :: a).map pk) = decL (a.map pk) * 16 + (c.1 * 4 + c.2) := rfl
    have e2 : decL ((d :: b).map pk) = decL (b.map pk) * 16 + (d.1 * 4 + d.2) := rfl
    rw [e1, e2] at e
    have ih := decL_inj (a := a) (b := b) (by simpa using h) (fun x hx => ha x (List.mem_cons_of_mem _ hx)) (fun x hx => hb x (List.mem_cons_of_mem _ hx)) (by omega)
    have : c = d := by
      obtain ⟨c1, c2⟩ := c
      obtain ⟨d1, d2⟩ := d
      simp only at hc hd e
      have h1 : c1 = d1 := by omega
      have h2 : c2 = d2 := by omega
      rw [h1, h2]
    rw [this, ih]
abbrev TL (h : Hist) (sk M : List Nat) (k : Nat) (two : Bool) : (Nat → Nat × Nat) → Nat → Prop := Told M (Bm h (clsM h sk)) (inU (clsM h sk).length) k (kbOf k two)
def TR (h : Hist) (sk M : List Nat) (k : Nat) (two : Bool) : SR := fun cs q b => cs.length = M.length ∧ (∀ c ∈ cs, c.1 ≤ 3 ∧ c.2 ≤ 3) ∧ q ≤ 10 ∧ (b = true ↔ TL h sk M k two (cntF M cs) q)
def SeenR (P : Program) (w : World) (h : Hist) (sk M : List Nat) (k : Nat) (two : Bool) (H : Hp) (sn : Addr) : Prop := ∃ xs : SX, SeenIs P w (TR h sk M k two) H sn xs ∧ (xs.map (fun x => x.1)).Nodup
theorem SeenR.same {P : Program} {w : World} {h : Hist} {sk M : List Nat} {k : Nat} {two : Bool} {H H' : Hp} {sn : Addr} (S : SeenR P w h sk M k two H sn) (s : Same H H') : SeenR P w h sk M k two H' sn := by
  obtain ⟨xs, ⟨h1, h2⟩, h3⟩ := S
  refine ⟨xs, ⟨s _ _ h1, fun x hx => ?_⟩, h3⟩
  obtain ⟨cs, q, b, e1, k, e2, r⟩ := h2 x hx
  exact ⟨cs, q, b, e1, k.imp fun a ys e => s _ _ e, e2, r⟩
theorem seen_len {P : Program} {w : World} {h : Hist} {sk M : List Nat} {k : Nat} {two : Bool} {H : Hp} {sn : Addr} {xs : SX} (S : SeenIs P w (TR h sk M k two) H sn xs) (nd : (xs.map (fun x => x.1)).Nodup) (hM : M.length ≤ 5) : xs.length < sizeLine := by
  have e1 : (xs.map (fun x => x.1)).length = xs.length := List.length_map _
  refine szl' ?_
  refine Nat.lt_of_le_of_lt (m := 11534336) ?_ (by decide)
  rw [← e1]
  refine nodup_code (N := 11534336) decK nd (fun x hx y hy e => ?_) fun x hx => ?_
  · obtain ⟨x, hx', rfl⟩ := List.mem_map.mp hx
    obtain ⟨y, hy', rfl⟩ := List.mem_map.mp hy
    obtain ⟨cs, q, _, k1, _, _, l1, b1, q1, _⟩ := S.2 x hx'
    obtain ⟨ds, r, _, k2, _, _, l2, b2, q2, _⟩ := S.2 y hy'
    rw [k1, k2, decK_nk, decK_nk] at e
    rw [k1, k2]
    have : cs = ds := decL_inj (l1.trans l2.symm) b1 b2 (by omega)
    subst this
    have : q = r := by omega
    rw [this]
  · obtain ⟨x, hx', rfl⟩ := List.mem_map.mp hx
    obtain ⟨cs, q, _, k1, _, _, l1, b1, q1, _⟩ := S.2 x hx'
    rw [k1, decK_nk]
    have h1 := decL_lt b1
    have h2 : 16 ^ cs.length ≤ 16 ^ 5 := Nat.pow_le_pow_right (by decide) (by omega)
    have h3 : (16 : Nat) ^ 5 = 1048576 := by decide
    omega
theorem seen_ne {P : Program} {w : World} {H : Hp} {sn b : Addr} {xs : SX} {u : HO} (h : H sn = some (SeenO P w sn xs)) (hb : H b = some u) (n : ∀ d ys, u ≠ SeenO P w d ys) : b ≠ sn := ne_of hb h (n sn xs)
theorem CntAt.but {P : Program} {w : World} {H H' : Hp} {sn d : Addr} {xs : SX} {M : List Nat} {cs : List (Nat × Nat)} {as : List Addr} (c : CntAt H d M cs as) (h : H sn = some (SeenO P w sn xs)) (b : But sn H H') : CntAt H' d M cs as := by
  obtain ⟨h1, h2, h3⟩ := c
  exact ⟨b _ _ (seen_ne h h1 fun _ _ z => nomatch z) h1, h2.imp26 fun a c e => b _ _ (seen_ne h e fun _ _ z => nomatch z) e, h3⟩
theorem CntAt.same {H H' : Hp} {d : Addr} {M : List Nat} {cs : List (Nat × Nat)} {as : List Addr} (c : CntAt H d M cs as) (s : Same H H') : CntAt H' d M cs as := by
  obtain ⟨h1, h2, h3⟩ := c
  exact ⟨s _ _ h1, h2.imp26 fun a c e => s _ _ e, h3⟩
theorem SL.seen {P : Program} {w : World} {H H' : Hp} {sn : Addr} {xs : SX} (h : H sn = some (SeenO P w sn xs)) (b : But sn H H') : SL H H' := SL.but h (fun _ z => nomatch z) (fun _ z => nomatch z) b
section
variable {P : Program} {w : World} {K : PySem.W.Frag} {mg : PySem.Str → Option Value} {base : Heap} {f : Addr} {fd : FuncData} {C : Addr}
/-! ### _law_told -/
abbrev nTold : List PySem.Str := ["_law_table", "_law_classes_here", "_law_counts", "_law_k", "_law_rule", "_law_q", "_law_seen", "_law_key_here", "_law_found", "_law_make", "_law_works", "_law_broken", "_law_one", "_law_other"]
abbrev pTold : List PySem.Str := ["_law_table", "_law_classes_here", "_law_counts", "_law_k", "_law_rule", "_law_q", "_law_seen"]
theorem sc_L_told : FnScope nTold pTold (defScope s_L_told) := ⟨rfl, rfl, rfl, by decide +kernel, rfl, by decide +kernel, by decide +kernel⟩
/-- budgets below c -/
def spTold (P : Program) (w : World) (c : Nat) : Sp := fun vs H Q _ => ∃ (ta cl d sn : Addr) (k q : Nat) (two : Bool) (h : Hist) (sk M : List Nat) (cs : List (Nat × Nat)) (as : List Addr), vs = [.ref ta, .ref cl, .ref d, iv k, ruleS two, iv q, .ref sn] ∧ TabAt H ta h ∧ LTup H cl (clsM h sk) ∧ CntAt H d M cs as ∧
  M.Pairwise (· < ·) ∧ (∀ m ∈ M, m < h.length) ∧ Small h ∧ M.length ≤ 5 ∧ k ≤ 2 ∧ q ≤ 10 ∧ (∀ c ∈ cs, c.1 ≤ 3 ∧ c.2 ≤ 3) ∧ q < c ∧ SeenR P w h sk M k two H sn ∧
  ∀ H' b, But sn H H' → SeenR P w h sk M k two H' sn → (b = true ↔ TL h sk M k two (cntF M cs) q) → Q (.bl b) H'
theorem ok_L_told (c : Nat) (F : FnP K "_law_told" s_L_told f fd) (T : Blt mg) (B1 : Fn P w K mg base CX0 1 "_law_key" ["_law_counts", "_law_q"] spKey) (B2 : Fn P w K mg base CX0 1 "_law_alive" ["_law_table", "_law_classes_here", "_law_counts", "_law_k", "_law_rule"] spAlive)
    (BT : Fn P w K mg base CX0 (3 + c) "_law_told" pTold (spTold P w c)) : FnOk P w K mg base CX0 (3 + c + 1) f fd pTold (spTold P w (c + 1)) := by
  refine F.ok sc_L_told (fun vs H Q E h => ?_) (fun cdv A outer s H vs Q E hr h => ?_)
  · obtain ⟨ta, cl, d, sn, k, q, two, h, sk, M, cs, as, rfl, _⟩ := h
    rfl
  · obtain ⟨ta, cl, d, sn, k, q, two, h, sk, M, cs, as, rfl, htab, hcl, hcn, hasc, hM, sm, hM5, hk2, hq10, hcs, hqc, hS, Qe⟩ := h
    have hr1 : Room 1 _ := hr.mono (by omega)
    refine ⟨_, PSs.nox (pss_cons (ps_set (i := 7) sc_L_told.nd rfl (.inl rfl) (pe_fn B1 hr1 pass0 (pa_cons (pv 2) (pa_cons (pv 5) pa_nil))))
      (pss_cons (ps_if (pt_cmpR (op_seenIn (hu65' hr)) (pv 7) (pv 6) rfl) (pss_one (ps_ret (pe_seenGet (hu65' hr) (pv 6) (pv 7) (fun _ _ => rfl)))) pss_nil)
      (pss_cons (ps_set (i := 8) sc_L_told.nd rfl (.inl rfl) (pe_cmpR op_lt (pe_fn B2 hr1 pass0 (pa_cons (pv 0) (pa_cons (pv 1) (pa_cons (pv 2) (pa_cons (pv 3) (pa_cons (pv 4) pa_nil)))))) pe_int (nomark _)))
      (C8.pss_cut (ps_if (PW.pt (pw_and (pt_not (pt_val (pv 8))) (pw_and1 (pt_cmpR op_gt (pv 5) pe_int (nomark _)))))
        (pss_one (ps_for PassesOwn.never rfl (pi_list (pe_callB (call_sortedDI rfl) rfl T.sorted (by decide +kernel) (pa_cons (pv 2) pa_nil))) (pg_name (i := 9) sc_L_told.nd rfl (.inl rfl))
          (pss_cons (ps_asg (pe_dget (hu_of hr) (pv 2) (pv 9) (fun _ _ => rfl)) (pg_tup rfl (pgs_cons (pg_name (i := 10) sc_L_told.nd rfl (.inl rfl)) (pgs_cons (pg_name (i := 11) sc_L_told.nd rfl (.inl rfl)) pgs_nil))))
          (pss_one (ps_if (PW.pt (pw_and (pt_cmpR op_le (pv 10) (pv 3) (nomark _)) (pw_and (pt_cmpR op_le (pv 11) (pe_ix ix_list (pe_lst (pa_cons (pv 3) (pa_cons pe_int pa_nil))) (pe_callTy call_int1 rfl T.int (by decide +kernel) (pa_cons (pe_cmpR op_eq (pv 4) pe_str (nomark _)) pa_nil)) (fun _ _ => rfl)) (nomark _)) (pw_and1 (pt_not (pt_val (pv 8)))))))
            (pss_cons (ps_set (i := 12) sc_L_told.nd rfl (.inl rfl) (pe_callTy call_dictD rfl T.dict (by decide +kernel) (pa_cons (pv 2) pa_nil)))
            (pss_cons (ps_dput (hu_of hr) (pv 12) (pv 9) (pe_tup (pa_cons (pe_op op_add (pv 10) pe_int) (pa_cons (pv 11) pa_nil))) rfl)
            (pss_cons (ps_set (i := 13) sc_L_told.nd rfl (.inl rfl) (pe_callTy call_dictD rfl T.dict (by decide +kernel) (pa_cons (pv 2) pa_nil)))
            (pss_cons (ps_dput (hu_of hr) (pv 13) (pv 9) (pe_tup (pa_cons (pv 10) (pa_cons (pe_op op_add (pv 11) pe_int) pa_nil))) rfl)
            (pss_cons (ps_set (i := 8) sc_L_told.nd rfl (.inl rfl) (pe_fn BT hr pass0 (pa_cons (pv 0) (pa_cons (pv 1) (pa_cons (pv 12) (pa_cons (pv 3) (pa_cons (pv 4) (pa_cons (pe_op op_sub (pv 5) pe_int) (pa_cons (pv 6) pa_nil)))))))))
            (pss_one (ps_set (i := 8) sc_L_told.nd rfl (.inl rfl) (pe_and (pv 8) (pe_one (pe_fn BT hr pass0 (pa_cons (pv 0) (pa_cons (pv 1) (pa_cons (pv 13) (pa_cons (pv 3) (pa_cons (pv 4) (pa_cons (pe_op op_sub (pv 5) pe_int) (pa_cons (pv 6) pa_nil)))))))))))))))))
            pss_nil))))) pss_nil)
      (pss_cons (ps_seenPut (hu65' hr) (pv 6) (pv 7) (pv 8) rfl)
      (pss_one (ps_ret (pv 8)))))))), ?_⟩
    have hnd := asc_nodup hasc
    obtain ⟨eD, hps, hlen⟩ := id hcn
    have hal : as.length = M.length := by rw [hps.length, hlen]
    refine ⟨.ref d, rfl, iv q, rfl, d, q, M, cs, as, rfl, hcn, hasc, by omega, fun H1 p s1 kp => ?_⟩
    obtain ⟨xs1, S1, nd1⟩ := hS.same s1
    refine ⟨.ref p, rfl, .ref sn, rfl, p, sn, _, xs1, cs, q, rfl, rfl, S1, kp, _, rfl, ite2 (fun c0 => ?_) (fun _ => ?_)⟩
    · refine ⟨.ref sn, rfl, .ref p, rfl, p, sn, _, xs1, cs, q, rfl, rfl, S1, kp, c0, fun b hb => ?_⟩
      exact Qe H1 b (But.of s1) ⟨xs1, S1, nd1⟩ hb.2.2.2
    · have sl1 := SL.of s1
      refine ⟨.ref ta, rfl, .ref cl, rfl, .ref d, rfl, iv k, rfl, ruleS two, rfl, ta, cl, d, k, two, h, sk, M, cs, as, rfl, htab.sl sl1, hcl.sl sl1, hcn.same s1, hasc, hM, sm, fun H2 s2 => ⟨_, _, rfl, rfl, ?_⟩⟩
      have hfew : aliveN h sk M k (kbOf k two) cs < 2 ↔ Few (aliveC M (Bm h (clsM h sk)) (inU (clsM h sk).length) k (kbOf k two) (cntF M cs)) := few_count fun j hj => inU_iff.mp (alive_iff.mp hj).1
      have s12 := s1.trans s2
      refine ⟨fun σ' H' => ∃ (b : Bool) (y9 y10 y11 y12 y13 : Option V), σ' = [some (.ref ta), some (.ref cl), some (.ref d), some (iv k), some (ruleS two), some (iv q), some (.ref sn), some (.ref p), some (.bl b), y9, y10, y11, y12, y13] ∧ But sn H H' ∧ SeenR P w h sk M k two H' sn ∧ KeyAt H' p cs q ∧ (b = true ↔ TL h sk M k two (cntF M cs) q), ?_, ?_⟩
      · have kp2 : KeyAt H2 p cs q := kp.imp fun a ys e => s2 _ _ e
        have S2 : SeenR P w h sk M k two H2 sn := hS.same s12
        refine ⟨_, rfl, _, rfl, ite2 (fun cf => ?_) (fun cf => ?_)⟩
        · -- not yet found
          have nf : ¬ aliveN h sk M k (kbOf k two) cs < 2 := fun z => by
            rw [decide_eq_true (show ((aliveN h sk M k (kbOf k two) cs : Nat) : Int) < 2 by omega)] at cf
            cases cf
          refine ⟨iv q, rfl, _, _, rfl, rfl, _, rfl, ite2 (fun cq => ?_) (fun cq => ?_)⟩
          · have hq0 : (q : Int) > 0 := of_decide_eq_true cq
            obtain ⟨q', rfl⟩ : ∃ q', q = q' + 1 := ⟨q - 1, by omega⟩
            have ebf : V.bl (decide (((aliveN h sk M k (kbOf k two) cs : Nat) : Int) < 2)) = V.bl false := by rw [decide_eq_false (by omega)]
            -- for make in sorted(counts)
            have eD2 := s12 _ _ eD
            refine ⟨.ref d, rfl, d, _, M.map (fun n : Nat => (n : Int)), rfl, .inl eD2, kvs_keys hal, by rw [List.length_map]; omega, fun ys L hp hs nL => ?_⟩
            rw [sorted_asc hp hs hasc]
            have sL := same_new nL (o := .lst (M.map iv))
            have s3 := s12.trans sL
            refine ⟨L, rfl, ⟨_, SqL.of upd_same⟩, ?_⟩
            have bodyW : ∀ {i m : Nat} {c : Nat × Nat}, M[i]? = some m → cs[i]? = some c → (TL h sk M k two (cntF M (cs.set i (c.1 + 1, c.2))) q' ↔ TL h sk M k two (incW (cntF M cs) m) q') := fun h1 h2 => by rw [cntF_W hnd h1 h2]
            have bodyB : ∀ {i m : Nat} {c : Nat × Nat}, M[i]? = some m → cs[i]? = some c → (TL h sk M k two (cntF M (cs.set i (c.1, c.2 + 1))) q' ↔ TL h sk M k two (incB (cntF M cs) m) q') := fun h1 h2 => by rw [cntF_B hnd h1 h2]
            obtain ⟨xs2, S2', nd2⟩ := S2
            have eSn3 := sL _ _ S2'.1
            refine for_list (K := K) (a := L) (xs := M.map iv) (fun i σ H' => ∃ (b : Bool) (y9 y10 y11 y12 y13 : Option V), σ = [some (.ref ta), some (.ref cl), some (.ref d), some (iv k), some (ruleS two), some (iv (q' + 1)), some (.ref sn), some (.ref p), some (.bl b), y9, y10, y11, y12, y13] ∧ But sn (upd H2 L (.lst (M.map iv))) H' ∧ SeenR P w h sk M k two H' sn ∧
              (b = true → TL h sk M k two (cntF M cs) (q' + 1)) ∧ (b = false → ∀ (j : Nat) m, j < i → M[j]? = some m → ¬ ((cntF M cs m).1 ≤ k ∧ (cntF M cs m).2 ≤ kbOf k two ∧ TL h sk M k two (incW (cntF M cs) m) q' ∧ TL h sk M k two (incB (cntF M cs) m) q')))
              ?_ (fun i σ H' _ z => ?_) (fun i x σ H3 hx z => ?_) (fun σ H3 z => ?_)
            · exact ⟨false, none, none, none, none, none, congrArg (fun v => [some (V.ref ta), some (.ref cl), some (.ref d), some (iv k), some (ruleS two), some (iv (q' + 1)), some (.ref sn), some (.ref p), some v, none, none, none, none, none]) ebf, But.refl _ _, ⟨xs2, ⟨eSn3, fun x hx => (let ⟨a1, a2, a3, a4, a5, a6⟩ := S2'.2 x hx; ⟨a1, a2, a3, a4, a5.imp fun a ys e => sL _ _ e, a6⟩)⟩, nd2⟩, (fun z => nomatch z), fun _ j m hj => absurd hj (Nat.not_lt_zero j)⟩
            · obtain ⟨_, _, _, _, _, _, _, b, _⟩ := z
              exact SqL.of (b _ _ (seen_ne eSn3 upd_same fun _ _ z => nomatch z) upd_same)
            · obtain ⟨m, hm, rfl⟩ := getMap hx
              obtain ⟨b, y9, y10, y11, y12, y13, rfl, b3, S3, ht, hf⟩ := z
              have hi : i < as.length := by rw [hal]; exact (List.getElem?_eq_some_iff.mp hm).1
              obtain ⟨c0, hc0, ea⟩ := hps.getL26 (List.getElem?_eq_getElem hi)
              have hcn3 := (hcn.same s3).but eSn3 b3
              have hcb := hcs c0 (List.mem_of_getElem? hc0)
              have hcnt := cntF_at hnd hm hc0
              have sl3 := (SL.of s3).trans (SL.seen eSn3 b3)
              refine ⟨.ref d, rfl, iv m, rfl, d, .ref as[i], rfl, .inl ⟨_, Sum.inl (m : Int), .inl hcn3.1, rfl, (kvs_val hnd hm (List.getElem?_eq_getElem hi)).symm⟩, as[i], _, rfl, SqT.of (sl3.2 _ _ ea), rfl, iv c0.1, [iv c0.2], rfl, iv c0.2, [], rfl, rfl, ?_⟩
              have skip : ¬ (c0.1 ≤ k ∧ c0.2 ≤ kbOf k two ∧ b = false) → (b = false → ∀ (j : Nat) m, j < i + 1 → M[j]? = some m → ¬ ((cntF M cs m).1 ≤ k ∧ (cntF M cs m).2 ≤ kbOf k two ∧ TL h sk M k two (incW (cntF M cs) m) q' ∧ TL h sk M k two (incB (cntF M cs) m) q')) := fun hn hb j m' hj hm' => by
                by_cases e : j = i
                · subst e
                  rw [hm] at hm'
                  cases hm'
                  rintro ⟨g1, g2, _⟩
                  rw [hcnt] at g1 g2
                  exact hn ⟨g1, g2, hb⟩
                · exact hf hb j m' (by omega) hm'
              refine ⟨iv c0.1, rfl, iv k, rfl, _, _, rfl, rfl, _, rfl, ite2 (fun c1 => ?_) (fun c1 => ?_)⟩
              · have c1 : (c0.1 : Int) ≤ (k : Int) := of_decide_eq_true c1
                refine ⟨iv c0.2, rfl, iv k, rfl, by show 2 ≤ sizeLine; exact szl (by omega), fun L2 nL2 => ?_⟩
                have sn2 := same_new nL2 (o := .lst [iv k, .int 0])
                refine ⟨ruleS two, rfl, rfl, .inr ⟨_, rfl, ?_⟩⟩
                refine ⟨L2, _, _, iv (kbOf k two), rfl, rfl, SqL.of upd_same, ix_rule k two, _, _, rfl, rfl, _, rfl, ite2 (fun c2 => ?_) (fun c2 => ?_)⟩
                · have c2 : (c0.2 : Int) ≤ ((kbOf k two : Nat) : Int) := of_decide_eq_true c2
                  refine ⟨.bl b, rfl, b, rfl, ?_⟩
                  by_cases hb0 : b = false
                  · subst hb0
                    refine iteT ?_
                    -- one = dict(counts)
                    have hcn4 := hcn3.same sn2
                    refine ⟨.ref d, rfl, d, _, rfl, .inl hcn4.1, fun p1 n1 => ?_⟩
                    have sB := same_new n1 (o := .dK (kvsOf M as))
                    -- one[make] = (works + 1, broken)
                    refine ⟨iv c0.1, rfl, _, 1, rfl, rfl, iv c0.2, rfl, by show 2 ≤ sizeLine; exact szl (by omega), fun t1 m1 => ?_⟩
                    have ntp1 : t1 ≠ p1 := (ne_of_none upd_same m1).symm
                    have zl : (kvsOf M as).length < sizeLine := by rw [kvs_len hal]; exact szl' (by omega)
                    refine ⟨.ref p1, rfl, iv m, rfl, p1, _, rfl, .inl ⟨_, Sum.inl (m : Int), same_new m1 _ _ upd_same, rfl, zl, rfl⟩, ?_⟩
                    rw [kvs_put hnd hm hal]
                    have sD := (sB.nw m1 (o := .tup [V.int ((c0.1 : Int) + 1), iv c0.2])).ow n1 (o := .dK (kvsOf M (as.set i t1)))
                    generalize hHD : upd (upd (upd (upd H3 L2 (.lst [iv k, .int 0])) p1 (.dK (kvsOf M as))) t1 (.tup [V.int ((c0.1 : Int) + 1), iv c0.2])) p1 (.dK (kvsOf M (as.set i t1))) = HD at *
                    have eD1 : HD p1 = some (.dK (kvsOf M (as.set i t1))) := by rw [← hHD]; exact upd_same
                    have eT1 : PairAt HD t1 (c0.1 + 1, c0.2) := by rw [← hHD]; exact up_ne upd_same ntp1
                    have hcn5 := hcn4.same sD
                    -- other = dict(counts)
                    refine ⟨.ref d, rfl, d, _, rfl, .inl hcn5.1, fun p2 n2 => ?_⟩
                    have sE := same_new n2 (o := .dK (kvsOf M as))
                    refine ⟨iv c0.1, rfl, iv c0.2, rfl, _, 1, rfl, rfl, by show 2 ≤ sizeLine; exact szl (by omega), fun t2 m2 => ?_⟩
                    have ntp2 : t2 ≠ p2 := (ne_of_none upd_same m2).symm
                    refine ⟨.ref p2, rfl, iv m, rfl, p2, _, rfl, .inl ⟨_, Sum.inl (m : Int), same_new m2 _ _ upd_same, rfl, zl, rfl⟩, ?_⟩
                    rw [kvs_put hnd hm hal]
                    have sG := (sE.nw m2 (o := .tup [iv c0.1, V.int ((c0.2 : Int) + 1)])).ow n2 (o := .dK (kvsOf M (as.set i t2)))
                    generalize hHG : upd (upd (upd HD p2 (.dK (kvsOf M as))) t2 (.tup [iv c0.1, V.int ((c0.2 : Int) + 1)])) p2 (.dK (kvsOf M (as.set i t2))) = HG at *
                    have eG2 : HG p2 = some (.dK (kvsOf M (as.set i t2))) := by rw [← hHG]; exact upd_same
                    have eT2 : PairAt HG t2 (c0.1, c0.2 + 1) := by rw [← hHG]; exact up_ne upd_same ntp2
                    have s5G := (sn2.trans sD).trans sG
                    have cn1 : CntAt HG p1 M (cs.set i (c0.1 + 1, c0.2)) (as.set i t1) := ⟨sG _ _ eD1, paired_set i ((hcn5.same sG).2.1) (sG _ _ eT1), by rw [List.length_set]; exact hlen⟩
                    have cn2 : CntAt HG p2 M (cs.set i (c0.1, c0.2 + 1)) (as.set i t2) := ⟨eG2, paired_set i ((hcn5.same sG).2.1) eT2, by rw [List.length_set]; exact hlen⟩
                    have S5 := S3.same s5G
                    have sl5 := sl3.trans (SL.of s5G)
                    have kb2 : kbOf k two ≤ 2 := by unfold kbOf; split <;> omega
                    have cs1 : ∀ c ∈ cs.set i (c0.1 + 1, c0.2), c.1 ≤ 3 ∧ c.2 ≤ 3 := fun c hc => by
                      rcases List.mem_or_eq_of_mem_set hc with z | z
                      · exact hcs c z
                      · subst z; exact ⟨by show c0.1 + 1 ≤ 3; omega, hcb.2⟩
                    have cs2 : ∀ c ∈ cs.set i (c0.1, c0.2 + 1), c.1 ≤ 3 ∧ c.2 ≤ 3 := fun c hc => by
                      rcases List.mem_or_eq_of_mem_set hc with z | z
                      · exact hcs c z
                      · subst z; exact ⟨hcb.1, by show c0.2 + 1 ≤ 3; omega⟩
                    have eq1 : (((q' + 1 : Nat) : Int) - 1) = (q' : Nat) := by omega
                    -- found = told(.., one, ..)
                    refine ⟨.ref ta, rfl, .ref cl, rfl, .ref p1, rfl, iv k, rfl, ruleS two, rfl, iv (q' + 1), rfl, _, 1, rfl, rfl, .ref sn, rfl, ta, cl, p1, sn, k, q', two, h, sk, M, cs.set i (c0.1 + 1, c0.2), as.set i t1, by show [V.ref ta, V.ref cl, V.ref p1, iv k, ruleS two, V.int (((q' + 1 : Nat) : Int) - 1), V.ref sn] = _; rw [eq1],
                      htab.sl sl5, hcl.sl sl5, cn1, hasc, hM, sm, hM5, hk2, by omega, cs1, by omega, S5, fun H6 b1 bu6 S6 hb1 => ?_⟩
                    obtain ⟨xs5, S5', _⟩ := S5
                    have sl6 := sl5.trans (SL.seen S5'.1 bu6)
                    have bu36 := (b3.trans (But.of s5G)).trans bu6
                    refine ⟨.bl b1, rfl, b1, rfl, ite2 (fun z1 => ?_) (fun z1 => ?_)⟩
                    · refine ⟨.ref ta, rfl, .ref cl, rfl, .ref p2, rfl, iv k, rfl, ruleS two, rfl, iv (q' + 1), rfl, _, 1, rfl, rfl, .ref sn, rfl, ta, cl, p2, sn, k, q', two, h, sk, M, cs.set i (c0.1, c0.2 + 1), as.set i t2, by show [V.ref ta, V.ref cl, V.ref p2, iv k, ruleS two, V.int (((q' + 1 : Nat) : Int) - 1), V.ref sn] = _; rw [eq1],
                        htab.sl sl6, hcl.sl sl6, cn2.but S5'.1 bu6, hasc, hM, sm, hM5, hk2, by omega, cs2, by omega, S6, fun H7 b2 bu7 S7 hb2 => ?_⟩
                      refine ⟨b2, _, _, _, _, _, rfl, bu36.trans bu7, S7, fun z2 => ?_, fun z2 j m' hj hm' => ?_⟩
                      · exact .ask m (List.mem_of_getElem? hm) (by rw [hcnt]; omega) (by rw [hcnt]; omega) ((bodyW hm hc0).mp (hb1.mp z1)) ((bodyB hm hc0).mp (hb2.mp z2))
                      · by_cases e : j = i
                        · subst e
                          rw [hm] at hm'
                          cases hm'
                          rintro ⟨_, _, _, g⟩
                          have := hb2.mpr ((bodyB hm hc0).mpr g)
                          rw [z2] at this
                          cases this
                        · exact hf rfl j m' (by omega) hm'
                    · refine ⟨false, _, _, _, _, _, rfl, bu36, S6, (fun z => nomatch z), fun _ j m' hj hm' => ?_⟩
                      by_cases e : j = i
                      · subst e
                        rw [hm] at hm'
                        cases hm'
                        rintro ⟨_, _, g, _⟩
                        exact z1 (hb1.mpr ((bodyW hm hc0).mpr g))
                      · exact hf rfl j m' (by omega) hm'
                  · have hbt : b = true := by simpa using hb0
                    subst hbt
                    refine iteF ?_
                    exact ⟨true, _, _, _, _, _, rfl, b3.trans (But.of sn2), S3.same sn2, ht, fun z => nomatch z⟩
                · have c2 : ¬ (c0.2 : Int) ≤ ((kbOf k two : Nat) : Int) := fun z => c2 (decide_eq_true z)
                  exact ⟨b, _, _, _, _, _, rfl, b3.trans (But.of sn2), S3.same sn2, ht, skip fun z => c2 (by omega)⟩
              · have c1 : ¬ (c0.1 : Int) ≤ (k : Int) := fun z => c1 (decide_eq_true z)
                exact ⟨b, _, _, _, _, _, rfl, b3, S3, ht, skip fun z => c1 (by omega)⟩
            · obtain ⟨b, y9, y10, y11, y12, y13, rfl, b3, S3, ht, hf⟩ := z
              rw [List.length_map] at hf
              refine ⟨b, _, _, _, _, _, rfl, (But.of s3).trans b3, S3, kp2.imp fun a ys e => (SL.seen eSn3 b3).2 _ _ (sL _ _ e), ht, fun t => ?_⟩
              cases b with
              | true => rfl
              | false =>
                exfalso
                cases t with
                | done fw => exact nf (hfew.mpr fw)
                | ask m hm h1 h2 t1 t2 =>
                  obtain ⟨j, hj⟩ := List.mem_iff_getElem?.mp hm
                  exact hf rfl j m (List.getElem?_eq_some_iff.mp hj).1 hj ⟨h1, h2, t1, t2⟩
          · have hq0 : ¬ (q : Int) > 0 := fun z => cq (decide_eq_true z)
            have ebf : V.bl (decide (((aliveN h sk M k (kbOf k two) cs : Nat) : Int) < 2)) = V.bl false := by rw [decide_eq_false (by omega)]
            refine ⟨false, none, none, none, none, none, congrArg (fun v => [some (V.ref ta), some (.ref cl), some (.ref d), some (iv k), some (ruleS two), some (iv q), some (.ref sn), some (.ref p), some v, none, none, none, none, none]) ebf, But.of s12, S2, kp2, (fun z => nomatch z), fun t => ?_⟩
            exfalso
            have : q = 0 := by omega
            subst this
            cases t with
            | done fw => exact nf (hfew.mpr fw)
        · have yf : ((aliveN h sk M k (kbOf k two) cs : Nat) : Int) < 2 := Classical.byContradiction fun z => cf (by rw [decide_eq_false z]; rfl)
          have ebt : V.bl (decide (((aliveN h sk M k (kbOf k two) cs : Nat) : Int) < 2)) = V.bl true := by rw [decide_eq_true yf]
          refine ⟨true, none, none, none, none, none, congrArg (fun v => [some (V.ref ta), some (.ref cl), some (.ref d), some (iv k), some (ruleS two), some (iv q), some (.ref sn), some (.ref p), some v, none, none, none, none, none]) ebt, But.of s12, S2, kp2, fun _ => .done (hfew.mp (by omega)), fun _ => rfl⟩
      · rintro σ' H' ⟨b, y9, y10, y11, y12, y13, rfl, b1, ⟨xs, S, nd⟩, kp', hb⟩
        refine ⟨.bl b, rfl, .ref sn, rfl, .ref p, rfl, p, sn, b, _, xs, cs, q, rfl, rfl, rfl, S, kp', seen_len S nd hM5, ⟨hlen.symm, hcs, hq10, hb⟩, fun ys ndy S' => ⟨.bl b, rfl, ?_⟩⟩
        exact Qe _ b b1.put ⟨ys, S', ndy⟩ hb
end
end K26

set_option Elab.async false
set_option linter.all false
set_option maxRecDepth 100000
set_option maxHeartbeats 4000000
namespace K26
open PySem PySem.Spec PyProof.Rows L2
theorem letters26 : ∀ k : Nat, k < 26 → ∃ c, (Str.ofString "abcdefghijklmnopqrstuvwxyz").cps.toList[k]? = some c := by
  intro k hk
  have : (Str.ofString "abcdefghijklmnopqrstuvwxyz").cps.toList.length = 26 := by decide +kernel
  exact ⟨_, List.getElem?_eq_getElem (by omega)⟩
theorem chain_at {n j : Nat} (h : j < n) : (chain n)[j]? = some (if j = 0 then [] else [j - 1]) := by
  unfold chain
  rw [List.getElem?_map, List.getElem?_range h]; rfl
theorem chain_small {n : Nat} (h : n ≤ 15) : Small (chain n) := by
  refine ⟨by rw [chain_len]; omega, fun ps hp => ?_⟩
  obtain ⟨j, hj⟩ := List.mem_iff_getElem?.mp hp
  have hl := (List.getElem?_eq_some_iff.mp hj).1
  rw [chain_len] at hl
  rw [chain_at hl] at hj
  cases hj
  split <;> simp
section
variable {P : Program} {w : World} {K : PySem.W.Frag} {mg : PySem.Str → Option Value} {base : Heap} {f : Addr} {fd : FuncData} {C : Addr}
/-! ### _law_long_chain -/
theorem sc_L_long : FnScope ["_law_many", "_law_letters", "_law_k"] ["_law_many"] (defScope s_L_long_chain) := ⟨rfl, rfl, rfl, by decide +kernel, rfl, by decide +kernel, by decide +kernel⟩
def spLong : Sp := fun vs H Q _ => ∃ n : Nat, vs = [iv n] ∧ n ≤ 15 ∧ ∀ H' p, Same H H' → HistAt H' (.ref p) (chain n) → Q (.ref p) H'
theorem long_step {H H5 : Hp} {D t p3 : Addr} {bs : List Addr} {nm : PySem.Str} {ls : List (List Nat)} {l : List Nat} (s : Same H H5) (nD : H D = none) (eD : H5 D = some (.lst (bs.map V.ref))) (et : H5 t = some (.tup [.str nm, .ref p3])) (ep : H5 p3 = some (.tup (l.map iv))) (hp : Paired (MkAt H5) bs ls) :
    Same H (upd H5 D (.lst (bs.map V.ref ++ [.ref t]))) ∧ ∃ bs' : List Addr, upd H5 D (.lst (bs.map V.ref ++ [.ref t])) D = some (.lst (bs'.map V.ref)) ∧ Paired (MkAt (upd H5 D (.lst (bs.map V.ref ++ [.ref t])))) bs' (ls ++ [l]) := by
  have tp : ∀ a xs, H5 a = some (.tup xs) → upd H5 D (.lst (bs.map V.ref ++ [.ref t])) a = some (.tup xs) := fun a xs ha => up_ne ha (ne_of ha eD (by intro z; cases z))
  refine ⟨s.ow nD, bs ++ [t], by rw [upd_same, List.map_append]; rfl, Paired.snoc26 (hp.imp26 fun a l ⟨nm, p, h1, h2⟩ => ⟨nm, p, tp _ _ h1, tp _ _ h2⟩) ⟨nm, p3, tp _ _ et, tp _ _ ep⟩⟩
theorem ok_L_long (F : FnP K "_law_long_chain" s_L_long_chain f fd) (T : Blt mg) : FnOk P w K mg base CX0 1 f fd ["_law_many"] spLong := by
  refine F.ok sc_L_long (fun vs H Q E h => ?_) (fun cdv A outer s H vs Q E hr h => ?_)
  · obtain ⟨n, rfl, _⟩ := h
    rfl
  · obtain ⟨n, rfl, hn, q⟩ := h
    refine ⟨_, PSs.nox (pss_cons (ps_set (i := 1) sc_L_long.nd rfl (.inr rfl) pe_str)
      (pss_one (ps_ret (pe_tup (pa_cons pe_str (pa_cons (pe_callTy call_tuple_of rfl T.tuple (by decide +kernel) (pa_cons (pe_lc (own := [("_law_k", 2)]) (g := gName 2) rfl sc_L_long.nd (pi_range1 rfl T.range (pa_cons (pv 0) pa_nil))
        (blkOk_by (own := [("_law_k", 2)]) (N := ["_law_many", "_law_letters", "_law_k"]) (sc := defScope s_L_long_chain) (by decide +kernel)) (fun _ _ _ _ _ => pg_name (i := 2) sc_L_long.nd rfl (Or.inl rfl)) (fun _ _ _ _ _ => pts_nil)
        (fun _ _ _ _ _ => pe_tup (pa_cons (pe_ix ix_str (pv 1) (pv 2) (fun _ _ => rfl)) (pa_cons (pe_callTy (c_tup K) rfl T.tuple (by decide +kernel) (pa_cons (pe_op op_rep (pe_lst (pa_cons (pe_op op_sub (pv 2) pe_int) pa_nil)) (pe_callTy call_int1 rfl T.int (by decide +kernel) (pa_cons (pe_cmpR op_gt (pv 2) pe_int (nomark _)) pa_nil))) pa_nil)) pa_nil)))) pa_nil)) pa_nil)))))), ?_⟩
    refine ⟨iv n, rfl, (n : Int), rfl, by omega, by omega, fun D nD => ?_⟩
    refine lc_rng (n := n) (fun j H' => Same H H' ∧ ∃ bs, H' D = some (.lst (bs.map V.ref)) ∧ Paired (MkAt H') bs ((chain n).take j)) ⟨same_new nD, [], upd_same, .nil⟩ (fun j H' hj z => ?_) (fun H' z => ?_)
    · obtain ⟨s1, bs, eD, hp⟩ := z
      obtain ⟨ch, hch⟩ := letters26 j (by omega)
      have bl : bs.length ≤ j := by rw [hp.length, List.length_take]; omega
      refine ⟨rfl, tYes_of ?_⟩
      refine ⟨_, rfl, iv j, rfl, Str.ofString "abcdefghijklmnopqrstuvwxyz", (j : Int), ch, rfl, rfl, szl (by decide +kernel), atI_nat hch, ?_⟩
      refine ⟨iv j, rfl, _, 1, rfl, rfl, by show 1 ≤ sizeLine; exact szl (by omega), fun L0 n0 => ?_⟩
      refine ⟨iv j, rfl, _, 0, rfl, rfl, .inr ⟨_, rfl, ?_⟩⟩
      have s2 := same_new n0 (o := .lst [V.int ((j : Int) - 1)])
      have bnd : ∀ b : Bool, -(2 ^ 63) ≤ (if b = true then (1 : Int) else 0) ∧ (if b = true then (1 : Int) else 0) < 2 ^ 63 ∧ ([V.int ((j : Int) - 1)] : List V).length * (if b = true then (1 : Int) else 0).toNat ≤ sizeLine := fun b => by cases b <;> exact ⟨by decide, by decide, szl (by show 1 * _ ≤ 16777216; decide)⟩
      obtain ⟨g1, g2, g3⟩ := bnd (decide ((j : Int) > 0))
      refine ⟨L0, _, _, rfl, rfl, upd_same, g1, g2, g3, fun p2 n2 => ?_⟩
      have s3 := s2.nw n2 (o := .lst (List.replicate (if decide ((j : Int) > 0) = true then (1 : Int) else 0).toNat [V.int ((j : Int) - 1)]).flatten)
      refine ⟨p2, _, rfl, .inl ⟨SqL.of upd_same, fun p3 n3 => ?_⟩⟩
      have s4 := s3.nw n3 (o := .tup (List.replicate (if decide ((j : Int) > 0) = true then (1 : Int) else 0).toNat [V.int ((j : Int) - 1)]).flatten)
      refine ⟨by show 2 ≤ sizeLine; exact szl (by omega), fun t nt => ?_⟩
      have s5 := s4.nw nt (o := .tup [.str ⟨#[ch]⟩, .ref p3])
      have eD5 := s5 _ _ eD
      have ep : (List.replicate (if decide ((j : Int) > 0) = true then (1 : Int) else 0).toNat [V.int ((j : Int) - 1)]).flatten = (if j = 0 then [] else [j - 1]).map iv := by
        by_cases e : j = 0
        · subst e; rfl
        · rw [if_neg e, if_pos (decide_eq_true (by omega))]
          show [V.int ((j : Int) - 1)] = [iv (j - 1)]
          have : (j : Int) - 1 = ((j - 1 : Nat) : Int) := by omega
          rw [this]
      have ep3 := same_new nt (o := .tup [.str ⟨#[ch]⟩, .ref p3]) _ _ (upd_same : upd (upd (upd H' L0 (.lst [V.int ((j : Int) - 1)])) p2 (.lst (List.replicate (if decide ((j : Int) > 0) = true then (1 : Int) else 0).toNat [V.int ((j : Int) - 1)]).flatten)) p3 (.tup (List.replicate (if decide ((j : Int) > 0) = true then (1 : Int) else 0).toNat [V.int ((j : Int) - 1)]).flatten) p3 = _)
      rw [List.take_add_one, chain_at hj]
      exact ⟨_, eD5, by rw [List.length_map]; exact szl' (by omega), long_step (s1.trans s5) nD eD5 upd_same (ep3.trans (by rw [ep])) (hp.imp26 fun _ _ => MkAt.same s5)⟩
    · obtain ⟨s1, bs, eD, hp⟩ := z
      rw [List.take_of_length_le (by rw [chain_len]; exact Nat.le_refl _)] at hp
      refine ⟨D, _, rfl, .inl ⟨SqL.of eD, fun t nt => ?_⟩⟩
      refine ⟨by show 2 ≤ sizeLine; exact szl (by omega), fun p np => ?_⟩
      have s2 := same_new nt (o := .tup (bs.map V.ref))
      have s3 := s2.nw np (o := .tup [.str "history", .ref t])
      exact q _ p (s1.trans s3) ⟨p, t, bs, rfl, upd_same, same_new np _ _ upd_same, hp.imp26 fun _ _ => MkAt.same s3⟩
/-! ### _law_asked -/
theorem sc_L_asked : FnScope ["_law_many", "_law_k", "_law_rule"] ["_law_many", "_law_k", "_law_rule"] (defScope s_L_asked) := ⟨rfl, rfl, rfl, by decide +kernel, rfl, by decide +kernel, by decide +kernel⟩
def spAsk : Sp := fun vs H Q _ => ∃ (n k : Nat) (two : Bool), vs = [iv n, iv k, ruleS two] ∧ k ≤ 2 ∧ ((n = 15 ∧ ∀ H', Same H H' → Q (.int (-1)) H') ∨ (n = 14 ∧ ∀ H', Same H H' → Q (iv (timesOf k two * 4)) H'))
theorem ok_L_asked (F : FnP K "_law_asked" s_L_asked f fd) (T : Blt mg) (X : Exc26 K mg C) (AL : Fn P w K mg base CX0 1 "_law_long_chain" ["_law_many"] spLong) (AF : Fn P w K mg base (L2.CX P w) 21 "fewest_by_make" ["history", "skipped", "k", "rule"] (spFbm C)) :
    FnOk P w K mg base CX0 22 f fd ["_law_many", "_law_k", "_law_rule"] spAsk := by
  refine F.ok sc_L_asked (fun vs H Q E h => ?_) (fun cdv A outer s H vs Q E hr h => ?_)
  · obtain ⟨n, k, two, rfl, _⟩ := h
    rfl
  · obtain ⟨n, k, two, rfl, hk, hq⟩ := h
    have hr1 : Room 1 _ := hr.mono (by decide)
    refine ⟨_, PSs.nox (pss_one (ps_try_only rfl rfl ⟨rfl, by decide, .inl X.g⟩ takes0 (fun W pn xe tk _ => pss_one (ps_ret (pe_fnS AF hr (fun σ => passAt tk σ) (pa_cons (pe_fn AL hr1 pass0 (pa_cons (pv 0) pa_nil)) (pa_cons (pe_tup pa_nil) (pa_cons (pv 1) (pa_cons (pv 2) pa_nil)))))))
      (fun a oe cls d pn _ _ => pss_one (ps_ret (pe_un un_neg pe_int))))), ?_⟩
    have hn : n ≤ 15 := by rcases hq with ⟨rfl, _⟩ | ⟨rfl, _⟩ <;> decide
    refine ⟨iv n, rfl, n, rfl, hn, fun H1 p s1 hh => ?_⟩
    refine ⟨Nat.zero_le _, fun t nt => ?_⟩
    have st := same_new nt (o := .tup [])
    refine ⟨iv k, rfl, ruleS two, rfl, .ref p, .ref t, chain n, [], k, two, rfl, hh.same st, ⟨t, rfl, upd_same⟩, chain_small hn, by rw [chain_len]; rcases hq with ⟨rfl, _⟩ | ⟨rfl, _⟩ <;> decide, hk, fun z H2 d s2 v => ?_, fun z H2 s2 => ?_⟩
    · rcases hq with ⟨rfl, q⟩ | ⟨rfl, q⟩
      · rw [chain15] at z; omega
      · have := chain14_val v
        subst this
        exact q H2 ((s1.trans st).trans s2)
    · rcases hq with ⟨rfl, q⟩ | ⟨rfl, q⟩
      · refine ⟨true, X.e, (fun _ a ha => ?_), fun z => nomatch z⟩
        exact ⟨1, rfl, q H2 ((s1.trans st).trans s2)⟩
      · rw [chain14] at z; omega
end
end K26

set_option Elab.async false
set_option linter.all false
set_option maxRecDepth 100000
set_option maxHeartbeats 4000000
namespace K26
open PySem PySem.Spec PyProof.Rows L2
theorem kvs_none {m : Nat} : ∀ {M : List Nat} {as : List Addr}, m ∉ M → valV (kvsOf M as) (Sum.inl (m : Int)) = none
  | [], _, _ => by simp [kvsOf, valV_nil]
  | _ :: _, [], _ => by simp [kvsOf, valV_nil]
  | x :: M, y :: as, h => by
    rw [List.mem_cons, not_or] at h
    exact (valV_neg (p := (Sum.inl (x : Int), V.ref y)) (fun e => h.1 (ik_inj e).symm)).trans (kvs_none h.2)
theorem kvs_snoc {M : List Nat} {as : List Addr} {m : Nat} {a : Addr} (hl : M.length = as.length) : kvsOf (M ++ [m]) (as ++ [a]) = kvsOf M as ++ [(Sum.inl (m : Int), V.ref a)] := by
  unfold kvsOf
  rw [List.zip_append hl, List.map_append]
  rfl
theorem cntF_zero {M : List Nat} {n m : Nat} : cntF M (List.replicate n (0, 0)) m = (0, 0) := by
  unfold cntF
  rw [List.getD_eq_getElem?_getD, List.getElem?_replicate]
  split <;> rfl
def pN (h : Hist) (sk : List Nat) (m : Nat) : Bool := !sk.contains m && (decide (0 < ((List.range h.length).filter fun c => anc h m c).length) && decide (((List.range h.length).filter fun c => anc h m c).length < h.length))
theorem filter_asc {n : Nat} {p : Nat → Bool} : ((List.range n).filter p).Pairwise (· < ·) := List.Pairwise.filter _ List.pairwise_lt_range
theorem times_eq (k : Nat) (two : Bool) : timesOf k two = k + kbOf k two + 1 := by cases two <;> simp [timesOf, kbOf] <;> omega
theorem ix_rule2 (k : Nat) (two : Bool) : atI [V.int ((2 : Int) * ((k : Nat) : Int) + 1), V.int (((k : Nat) : Int) + 1)] (if decide (ruleS two = V.str "one") = true then (1 : Int) else 0) = some (iv (timesOf k two)) := by
  cases two with
  | true =>
    rw [if_neg (fun z => absurd (of_decide_eq_true z) (by decide +kernel)), at0 (v := V.int ((2 : Int) * ((k : Nat) : Int) + 1)) rfl]
    have : ((2 : Int) * ((k : Nat) : Int) + 1) = ((timesOf k true : Nat) : Int) := by unfold timesOf; rw [if_pos rfl]; omega
    rw [this]
  | false =>
    rw [if_pos (by decide +kernel), show ((1 : Int)) = ((1 : Nat) : Int) from rfl, atI_nat (j := 1) (v := V.int (((k : Nat) : Int) + 1)) rfl]
    have : (((k : Nat) : Int) + 1) = ((timesOf k false : Nat) : Int) := by unfold timesOf; rw [if_neg Bool.false_ne_true]; omega
    rw [this]
theorem most10 {k d n : Nat} {two : Bool} (hk : k < 3) (hn : n ≤ 5 - k) (hd : d ≤ n - 1) : timesOf k two * d ≤ 10 := by
  have h1 : timesOf k two ≤ 2 * k + 1 := by cases two <;> simp [timesOf] <;> omega
  have h2 : d ≤ 4 - k := by omega
  have h3 : timesOf k two * d ≤ (2 * k + 1) * (4 - k) := Nat.mul_le_mul h1 h2
  match k, hk, h3 with
  | 0, _, h3 => omega
  | 1, _, h3 => omega
  | 2, _, h3 => omega
theorem same_but {A B C : Hp} {d : Addr} (s : Same A B) (n : A d = none) (b : But d B C) : Same A C := fun x o e => b x o (ne_of_none e n) (s x o e)
abbrev nLaw : List PySem.Str := ["_law_script", "_law_box", "_law_k", "_law_history_here", "_law_many", "_law_skipped", "_law_classes_here", "_law_make", "_law_table", "_law_nothing", "_law_rule", "_law_least", "_law_seen", "_law_one"]
def scopeOf : Stmt → Scope
  | Stmt.Assign _ (Expr.ListComp _ _ sc _) _ => sc
  | _ => defScope s_law
def mkScopeOf : Stmt → Scope
  | Stmt.Assign _ (Expr.ListComp (Expr.ListComp _ _ sc _) _ _ _) _ => sc
  | _ => defScope s_law
def tblScope0 : Scope := scopeOf ((defBody s_law).getD 6 (.Pass ⟨0, 0, 0, 0⟩))
def mkScope : Scope := mkScopeOf ((defBody s_law).getD 6 (.Pass ⟨0, 0, 0, 0⟩))
/-- within the outer comprehension: what it has from the def stands in cells -/
def tblScope : Scope := { tblScope0 with names := tblScope0.names.map fun p => if p.2 = .free then (p.1, .cell) else p }
theorem tblOk : BlkOk nLaw tblScope mkScope [("_law_make", 7)] := blkOk_by (by decide +kernel)
section
variable {P : Program} {w : World} {K : PySem.W.Frag} {mg : PySem.Str → Option Value} {base : Heap} {f : Addr} {fd : FuncData} {C : Addr}
theorem sc_law : FnScope nLaw ["_law_script"] (defScope s_law) := ⟨rfl, rfl, rfl, by decide +kernel, rfl, by decide +kernel, by decide +kernel⟩
def spLaw (K : PySem.W.Frag) : Sp := fun vs H Q _ => ∃ (a : Addr) (ns : List Int), vs = [.ref a] ∧ SqL K H a (ns.map V.int) ∧ ∀ H', Q (.bl true) H'
theorem ok_law (F : FnP K "law" s_law f fd) (T : Blt mg) (B2 : Fn P w K mg base CX0 2 "_law_digits" ["_law_script", "_law_first", "_law_last"] (spDig K)) (B3 : Fn P w K mg base CX0 1 "_law_draw" ["_law_box", "_law_many"] spDraw)
    (B5 : Fn P w K mg base CX0 3 "_law_history" ["_law_box", "_law_most"] spHist) (B7 : Fn P w K mg base CX0 2 "_law_breaks" ["_law_history_here", "_law_candidate", "_law_make"] spBrks) (B8 : Fn P w K mg base CX0 2 "_law_skips" ["_law_box", "_law_history_here"] spSkips)
    (B9 : Fn P w K mg base CX0 3 "_law_classes" ["_law_history_here", "_law_skipped"] spLCls) (BT : Fn P w K mg base CX0 14 "_law_told" pTold (spTold P w 11)) (BA : Fn P w K mg base CX0 22 "_law_asked" ["_law_many", "_law_k", "_law_rule"] spAsk)
    (AF : Fn P w K mg base (L2.CX P w) 21 "fewest_by_make" ["history", "skipped", "k", "rule"] (spFbm C)) : FnOk P w K mg base CX0 23 f fd ["_law_script"] (spLaw K) := by
  refine F.ok sc_law (fun vs H Q E h => ?_) (fun cdv A outer s H vs Q E hr h => ?_)
  · obtain ⟨a, ns, rfl, _⟩ := h
    rfl
  · obtain ⟨a, ns, rfl, hs, q⟩ := h
    have hr1 : Room 1 _ := hr.mono (by decide)
    have hr2 : Room 2 _ := hr.mono (by decide)
    have hr3 : Room 3 _ := hr.mono (by decide)
    have hrT : Room 14 _ := hr.mono (by decide)
    have hrF : Room 21 _ := hr.mono (by decide)
    refine ⟨_, PSs.nox (pss_cons (ps_set (i := 1) sc_law.nd rfl (.inl rfl) (pe_lst (pa_cons (pe_fn B2 hr2 pass0 (pa_cons (pv 0) (pa_cons pe_int (pa_cons pe_int pa_nil)))) (pa_cons pe_int pa_nil))))
      (pss_cons (ps_set (i := 2) sc_law.nd rfl (.inl rfl) (pe_fn B3 hr1 pass0 (pa_cons (pv 1) (pa_cons pe_int pa_nil))))
      (pss_cons (ps_set (i := 3) sc_law.nd rfl (.inr rfl) (pe_fn B5 hr3 pass0 (pa_cons (pv 1) (pa_cons (pe_op op_sub pe_int (pv 2)) pa_nil))))
      (pss_cons (ps_set (i := 4) sc_law.nd rfl (.inr rfl) (pe_callB call_len_seq rfl T.len PySem.boot_len (pa_cons (pe_ix ix_tup (pv 3) pe_int (fun _ _ => rfl)) pa_nil)))
      (pss_cons (ps_set (i := 5) sc_law.nd rfl (.inl rfl) (pe_fn B8 hr2 pass0 (pa_cons (pv 1) (pa_cons (pv 3) pa_nil))))
      (pss_cons (ps_set (i := 6) sc_law.nd rfl (.inl rfl) (pe_fn B9 hr3 pass0 (pa_cons (pv 3) (pa_cons (pv 5) pa_nil))))
      (pss_cons (ps_set (i := 8) sc_law.nd rfl (.inr rfl) (pe_lc (own := [("_law_one", 13)]) (g := gName 13) rfl sc_law.nd (pi_range1 rfl T.range (pa_cons (pv 4) pa_nil))
          (blkOk_by (own := [("_law_one", 13)]) (N := nLaw) (sc := defScope s_law) (by decide +kernel)) (fun _ _ _ _ _ => pg_name (i := 13) sc_law.nd rfl (Or.inr rfl)) (fun _ _ _ _ _ => pts_nil)
          (fun _ _ _ _ _ => pe_lc (own := [("_law_make", 7)]) (g := gName 7) rfl sc_law.nd (pi_range1 rfl T.range (pa_cons (pv 4) pa_nil))
            (tblOk : BlkOk nLaw tblScope mkScope [("_law_make", 7)]) (fun _ _ _ _ _ => pg_name (i := 7) sc_law.nd rfl (Or.inl rfl)) (fun _ _ _ _ _ => pts_nil)
            (fun _ _ _ _ _ => pe_fn B7 hr2 pass0 (pa_cons (pv 3) (pa_cons (pv 13) (pa_cons (pv 7) pa_nil)))))))
      (pss_cons (ps_set (i := 9) sc_law.nd rfl (.inl rfl) pe_dnewK)
      (pss_cons (ps_for PassesOwn.never rfl (pi_range1 rfl T.range (pa_cons (pv 4) pa_nil)) (pg_name (i := 7) sc_law.nd rfl (.inr rfl))
        (pss_one (ps_if (PW.pt (pw_and (pt_cmpR op_notIn_seq (pv 7) (pv 5) rfl) (pw_and1 (pt_chain op_lt op_lt pe_int (pe_callB call_len_seq rfl T.len PySem.boot_len (pa_cons (pe_lc (own := [("_law_one", 13)]) (g := gName 13) rfl sc_law.nd (pi_range1 rfl T.range (pa_cons (pv 4) pa_nil))
            (blkOk_by (own := [("_law_one", 13)]) (N := nLaw) (sc := defScope s_law) (by decide +kernel)) (fun _ _ _ _ _ => pg_name (i := 13) sc_law.nd rfl (Or.inl rfl)) (fun _ _ _ _ _ => pts_one (pt_val (pe_ix (x_lst K) (pe_ix (x_lst K) (pv 8) (pv 13) (fun _ _ => rfl)) (pv 7) (fun _ _ => rfl)))) (fun _ _ _ _ _ => pv 13)) pa_nil)) (pv 4)))))
          (pss_one (ps_dput (hu_of hr) (pv 9) (pv 7) (pe_tup (pa_cons pe_int (pa_cons pe_int pa_nil))) rfl)) pss_nil)))
      (pss_cons (ps_for PassesOwn.never rfl (pi_list (pe_lst (pa_cons pe_str (pa_cons pe_str pa_nil)))) (pg_name (i := 10) sc_law.nd rfl (.inl rfl))
        (pss_cons (ps_set (i := 11) sc_law.nd rfl (.inl rfl) (pe_fn (E := E0) AF hrF (passX takes0) (pa_cons (pv 3) (pa_cons (pv 5) (pa_cons (pv 2) (pa_cons (pv 10) pa_nil))))))
        (pss_cons (ps_set (i := 12) sc_law.nd rfl (.inl rfl) pe_seenNew)
        (pss_cons (ps_if (pt_not (pt_val (pe_fn BT hrT pass0 (pa_cons (pv 8) (pa_cons (pv 6) (pa_cons (pv 9) (pa_cons (pv 2) (pa_cons (pv 10) (pa_cons (pv 11) (pa_cons (pv 12) pa_nil))))))))))
          (pss_one (ps_ret pe_bl)) pss_nil)
        (C8.pss_cut (ps_if (PW.pt (pw_and (pt_cmpR op_gt (pv 11) pe_int (nomark _)) (pw_and1 (pt_val (pe_fn BT hrT pass0 (pa_cons (pv 8) (pa_cons (pv 6) (pa_cons (pv 9) (pa_cons (pv 2) (pa_cons (pv 10) (pa_cons (pe_op op_sub (pv 11) pe_int) (pa_cons (pv 12) pa_nil))))))))))))
          (pss_one (ps_ret pe_bl)) pss_nil)
        (pss_one (ps_if (PW.pt (pw_or (pt_cmpR op_ne (pe_fn BA hr pass0 (pa_cons pe_int (pa_cons (pv 2) (pa_cons (pv 10) pa_nil)))) (pe_un un_neg pe_int) (nomark _))
            (pw_or1 (pt_cmpR op_ne (pe_fn BA hr pass0 (pa_cons pe_int (pa_cons (pv 2) (pa_cons (pv 10) pa_nil)))) (pe_op op_mul pe_int (pe_ix ix_list (pe_lst (pa_cons (pe_op op_add (pe_op op_mul pe_int (pv 2)) pe_int) (pa_cons (pe_op op_add (pv 2) pe_int) pa_nil))) (pe_callTy call_int1 rfl T.int (by decide +kernel) (pa_cons (pe_cmpR op_eq (pv 10) pe_str (nomark _)) pa_nil)) (fun _ _ => rfl))) (nomark _)))))
          (pss_one (ps_ret pe_bl)) pss_nil)))))))
      (pss_one (ps_ret pe_bl)))))))))))), ?_⟩
    -- box = [digits(script, 0, 63), 0]
    refine ⟨.ref a, rfl, a, ns, rfl, hs, fun H1 dl ds s1 _ ed => ?_⟩
    refine ⟨by show 2 ≤ sizeLine; exact szl (by omega), fun b nb => ?_⟩
    have bx1 : BoxAt (upd H1 b (.lst [.ref dl, .int 0])) b dl := ⟨ds, 0, upd_same, same_new nb _ _ ed⟩
    -- k = draw(box, 3)
    refine ⟨.ref b, rfl, b, dl, 3, rfl, by decide, bx1, fun H2 k hk b2 bx2 => ?_⟩
    -- history
    have ek : (5 : Int) - (k : Int) = ((5 - k : Nat) : Int) := by omega
    refine ⟨.ref b, rfl, iv k, rfl, _, _, rfl, rfl, b, dl, 5 - k, by show [V.ref b, V.int ((5 : Int) - (k : Int))] = _; rw [ek], by omega, by omega, bx2, fun H3 hp h b3 bx3 hh hpos hlen sm => ?_⟩
    -- many = len(history[1])
    obtain ⟨ha, m, bs, eh, h1, h2, h3⟩ := id hh
    cases eh
    have em : (((bs.map V.ref).length : Nat) : Int) = (h.length : Nat) := by rw [List.length_map, h3.length]
    refine ⟨.ref hp, rfl, hp, _, 1, .ref m, rfl, rfl, SqT.of h1, rfl, m, _, rfl, .inr (SqT.of h2), ?_⟩
    rw [em]
    -- skipped = skips(box, history)
    refine ⟨.ref b, rfl, .ref hp, rfl, b, dl, .ref hp, h, rfl, bx3, hh, sm, fun H4 sv sk b4 bx4 esk => ?_⟩
    have hh4 := hh.but bx3 b4
    -- classes
    refine ⟨.ref hp, rfl, .ref sv, rfl, .ref hp, .ref sv, h, sk, rfl, hh4, ⟨sv, rfl, esk⟩, sm, fun H5 cl s5 hcl => ?_⟩
    have hh5 := hh4.same s5
    have esk5 := s5 _ _ esk
    have hn := sm.1
    -- table
    refine ⟨iv h.length, rfl, (h.length : Int), rfl, by omega, by omega, fun D nD => ?_⟩
    refine lc_rng (n := h.length) (fun c H' => Same H5 H' ∧ ∃ rs : List Addr, H' D = some (.lst (rs.map V.ref)) ∧ Paired (fun r c => r ≠ D ∧ H' r = some (.lst ((List.range h.length).map fun m => V.bl (anc h m c)))) rs (List.range c)) ⟨same_new nD, [], upd_same, .nil⟩ (fun c H' hc z => ?_) (fun H6 z => ?_)
    · obtain ⟨s6, rs, eD, hr⟩ := z
      have rl : rs.length = c := by rw [hr.length, List.length_range]
      refine ⟨rfl, tYes_of ?_⟩
      refine ⟨iv h.length, rfl, (h.length : Int), rfl, by omega, by omega, fun R nR => ?_⟩
      refine lc_rng (n := h.length) (fun j H'' => Same H' H'' ∧ H'' R = some (.lst ((List.range j).map fun m => V.bl (anc h m c)))) ⟨same_new nR, upd_same⟩ (fun j H'' hj z => ?_) (fun H'' z => ?_)
      · obtain ⟨s7, eR⟩ := z
        refine ⟨rfl, tYes_of ?_⟩
        refine ⟨.ref hp, rfl, iv c, rfl, iv j, rfl, .ref hp, h, c, j, rfl, (hh5.same s6).same s7, hj, sm, fun H8 s8 => ?_⟩
        refine ⟨_, s8 _ _ eR, by rw [List.length_map, List.length_range]; exact szl' (by omega), (s7.trans s8).ow nR, ?_⟩
        rw [upd_same, List.range_succ, List.map_append]
        rfl
      · obtain ⟨s7, eR⟩ := z
        have eD7 := s7 _ _ eD
        have nRD : R ≠ D := (ne_of_none eD nR).symm
        refine ⟨_, eD7, by rw [List.length_map, rl]; exact szl' (by omega), (s6.trans s7).ow nD, rs ++ [R], by rw [upd_same, List.map_append]; rfl, ?_⟩
        rw [List.range_succ]
        exact Paired.snoc26 (hr.imp26 fun r c ⟨n1, e1⟩ => ⟨n1, up_ne (s7 _ _ e1) n1⟩) ⟨nRD, up_ne eR nRD⟩
    · obtain ⟨s6, rs, eD, hr⟩ := z
      have htab : TabAt H6 D h := ⟨rs, eD, hr.imp26 fun _ _ z => z.2⟩
      have s56 := s5.trans s6
      have hh6 := hh5.same s6
      have esk6 := s6 _ _ esk5
      have hcl6 := hcl.sl (SL.of s6)
      -- nothing = {}
      refine fun N nN => ?_
      -- for make in range(many)
      refine ⟨iv h.length, rfl, (h.length : Int), rfl, by omega, by omega, ?_⟩
      refine for_rng (n := h.length) (fun i σ H' => ∃ (y7 y13 : Option V) (as : List Addr), σ = [some (.ref a), some (.ref b), some (iv k), some (.ref hp), some (iv h.length), some (.ref sv), some (.ref cl), y7, some (.ref D), some (.ref N), none, none, none, y13] ∧ Same H6 H' ∧
        H' N = some (.dK (kvsOf ((List.range i).filter (pN h sk)) as)) ∧
        Paired (PairAt H') as (List.replicate ((List.range i).filter (pN h sk)).length (0, 0)))
        ?_ (fun i σ H7 hi z => ?_) (fun σ H7 z => ?_)
      · exact ⟨none, none, [], rfl, same_new nN, upd_same, .nil⟩
      · obtain ⟨y7, y13, as, rfl, s7, eN, hps⟩ := z
        have hNn := eN
        have sl7 := SL.of s7
        have eskL := s7 _ _ esk6
        have htab7 := htab.sl sl7
        have fle : ((List.range i).filter (pN h sk)).length ≤ i := fl_le _ i
        refine ⟨iv i, rfl, .ref sv, rfl, sv, sk.map iv, rfl, .inr (SqT.of eskL), rfl, flat_iv sk, _, rfl, ?_⟩
        show if (!inV (iv i) (sk.map iv)) = true then _ else _
        rw [inV_iv]
        have skip : ∀ (z : Option V) H8, Same H7 H8 → ¬ pN h sk i = true → ∃ (y7 y13 : Option V) (as : List Addr), [some (V.ref a), some (V.ref b), some (iv k), some (V.ref hp), some (iv h.length), some (V.ref sv), some (V.ref cl), some (iv i), some (V.ref D), some (V.ref N), none, none, none, z] = [some (V.ref a), some (.ref b), some (iv k), some (.ref hp), some (iv h.length), some (.ref sv), some (.ref cl), y7, some (.ref D), some (.ref N), none, none, none, y13] ∧ Same H6 H8 ∧
            H8 N = some (.dK (kvsOf ((List.range (i + 1)).filter (pN h sk)) as)) ∧ Paired (PairAt H8) as (List.replicate ((List.range (i + 1)).filter (pN h sk)).length (0, 0)) := fun z H8 s8 np => by
          rw [fl_false np]
          exact ⟨_, _, as, rfl, s7.trans s8, s8 _ _ eN, hps.imp26 fun _ _ e => s8 _ _ e⟩
        refine ite2 (fun c1 => ?_) (fun c1 => ?_)
        · refine ⟨iv h.length, rfl, (h.length : Int), rfl, by omega, by omega, fun R nR => ?_⟩
          refine lc_rng (n := h.length) (fun c H' => Same H7 H' ∧ H' R = some (.lst (((List.range c).filter fun c => anc h i c).map iv))) ⟨same_new nR, upd_same⟩ (fun c H' hc z => ?_) (fun H8 z => ?_)
          · obtain ⟨s8, eR⟩ := z
            obtain ⟨rs, r, eT, hrs, er⟩ := (htab7.sl (SL.of s8)).get hc
            refine ⟨rfl, .ref D, rfl, iv c, rfl, D, _, ((c : Nat) : Int), .ref r, rfl, rfl, SqL.of eT, atI_nat hrs, iv i, rfl, r, _, ((i : Nat) : Int), _, rfl, rfl, SqL.of er, atI_nat (tab_at hi), _, rfl, ite2 (fun c2 => ?_) (fun c2 => ?_)⟩
            · refine ⟨iv c, rfl, _, eR, by rw [List.length_map]; exact szl' (by have := fl_le (fun c => anc h i c) c; omega), s8.ow nR, ?_⟩
              rw [upd_same, fl_true c2, List.map_append]
              rfl
            · rw [fl_false c2]
              exact ⟨s8, eR⟩
          · obtain ⟨s8, eR⟩ := z
            refine ⟨R, _, rfl, .inl (SqL.of eR), 0, _, rfl, rfl, _, rfl, ite2 (fun c2 => ?_) (fun c2 => ?_)⟩
            · have c2 : (0 : Int) < (((List.range h.length).filter fun c => anc h i c).map iv).length := of_decide_eq_true c2
              refine ⟨iv h.length, rfl, _, _, rfl, rfl, _, rfl, ite2 (fun c3 => ?_) (fun c3 => ?_)⟩
              · have c3 : (((((List.range h.length).filter fun c => anc h i c).map iv).length : Nat) : Int) < (h.length : Int) := of_decide_eq_true c3
                rw [List.length_map] at c2 c3
                have pi : pN h sk i = true := by
                  unfold pN
                  rw [c1, decide_eq_true (show 0 < ((List.range h.length).filter fun c => anc h i c).length by omega), decide_eq_true (show ((List.range h.length).filter fun c => anc h i c).length < h.length by omega)]
                  rfl
                -- nothing[make] = (0, 0)
                refine ⟨by show 2 ≤ sizeLine; exact szl (by omega), fun t nt => ?_⟩
                have st := s8.nw nt (o := .tup [V.int 0, V.int 0])
                have eN9 := st _ _ eN
                have al : as.length = ((List.range i).filter (pN h sk)).length := by rw [hps.length, List.length_replicate]
                have ni : i ∉ (List.range i).filter (pN h sk) := fun z => by
                  have := List.mem_range.mp (List.mem_filter.mp z).1
                  omega
                refine ⟨.ref N, rfl, iv i, rfl, N, _, rfl, .inl ⟨_, Sum.inl (i : Int), eN9, rfl, by rw [kvs_len al]; exact szl' (by omega), rfl⟩, ?_⟩
                rw [putK_new _ (kvs_none ni), ← kvs_snoc al.symm, fl_true pi]
                have tp : ∀ x ys, upd H8 t (.tup [V.int 0, V.int 0]) x = some (.tup ys) → upd (upd H8 t (.tup [V.int 0, V.int 0])) N (.dK (kvsOf ((List.range i).filter (pN h sk) ++ [i]) (as ++ [t]))) x = some (.tup ys) := fun x ys e => up_ne e (ne_of e eN9 (by intro z; cases z))
                refine ⟨_, _, as ++ [t], rfl, (s7.trans st).ow nN, upd_same, ?_⟩
                rw [List.length_append, List.length_singleton, List.replicate_succ']
                exact Paired.snoc26 (hps.imp26 fun x c e => tp _ _ (st _ _ e)) (tp _ _ upd_same)
              · refine skip _ H8 s8 fun pi => c3 ?_
                unfold pN at pi
                rw [Bool.and_eq_true, Bool.and_eq_true] at pi
                have := of_decide_eq_true pi.2.2
                rw [List.length_map]
                exact decide_eq_true (by omega)
            · refine ⟨false, rfl, ?_⟩
              refine skip _ H8 s8 fun pi => c2 ?_
              unfold pN at pi
              rw [Bool.and_eq_true, Bool.and_eq_true] at pi
              have := of_decide_eq_true pi.2.1
              rw [List.length_map]
              exact decide_eq_true (by omega)
        · refine skip _ H7 (fun _ _ e => e) fun pi => c1 ?_
          unfold pN at pi
          rw [Bool.and_eq_true] at pi
          exact pi.1
      · obtain ⟨y7, y13, as, rfl, s7, eN, hps⟩ := z
        have hcn : CntAt H7 N (nothM h sk) (List.replicate (nothM h sk).length (0, 0)) as := ⟨eN, hps, by rw [List.length_replicate]⟩
        refine ⟨by show 2 ≤ sizeLine; exact szl (by omega), fun L nL => ?_⟩
        have sL := same_new nL (o := .lst [V.str "two", V.str "one"])
        refine ⟨L, rfl, ⟨_, SqL.of upd_same⟩, ?_⟩
        refine for_list (K := K) (a := L) (xs := [V.str "two", V.str "one"]) (fun i σ H' => ∃ (z7 z10 z11 z12 z13 : Option V), σ = [some (.ref a), some (.ref b), some (iv k), some (.ref hp), some (iv h.length), some (.ref sv), some (.ref cl), z7, some (.ref D), some (.ref N), z10, z11, z12, z13] ∧ Same (upd H7 L (.lst [V.str "two", V.str "one"])) H')
          ?_ (fun i σ H' _ z => ?_) (fun i x σ H8 hx z => ?_) (fun σ H8 z => ?_)
        · exact ⟨_, _, _, _, _, rfl, fun _ _ e => e⟩
        · obtain ⟨_, _, _, _, _, _, s8⟩ := z
          exact SqL.of (s8 _ _ upd_same)
        · obtain ⟨z7, z10, z11, z12, z13, rfl, s8⟩ := z
          obtain ⟨two, rfl⟩ : ∃ two, x = ruleS two := by
            match i, hx with
            | 0, hx => exact ⟨true, (Option.some.inj hx).symm⟩
            | 1, hx => exact ⟨false, (Option.some.inj hx).symm⟩
            | i + 2, hx => simp at hx
          have s68 := (s7.trans sL).trans s8
          have s78 := sL.trans s8
          have ncl : (clsM h sk).length ≤ 5 - k := Nat.le_trans cls_len hlen
          -- least = fewest_by_make(history, skipped, k, rule)
          refine ⟨.ref hp, rfl, .ref sv, rfl, iv k, rfl, ruleS two, rfl, .ref hp, .ref sv, h, sk, k, two, rfl, hh6.same s68, ⟨sv, rfl, s68 _ _ esk6⟩, sm, hpos, by omega, fun _ H9 d s9 v => ?_, fun z _ _ => absurd z (by omega)⟩
          have hd := val_lt v
          have hq10 : timesOf k two * d ≤ 10 := most10 hk ncl hd
          have told : ∀ q, TL h sk (nothM h sk) k two (cntF (nothM h sk) (List.replicate (nothM h sk).length (0, 0))) q ↔ timesOf k two * d ≤ q := fun q => by
            rw [times_eq]
            exact told_iff (fun m => cntF_zero) (val_swap v)
          dsimp only
          generalize timesOf k two * d = least at hq10 told ⊢
          have hM5 : (nothM h sk).length ≤ 5 := by
            have := fl_le (pN h sk) h.length
            have e : nothM h sk = (List.range h.length).filter (pN h sk) := rfl
            rw [e]; omega
          have hcs3 : ∀ c ∈ List.replicate (nothM h sk).length ((0, 0) : Nat × Nat), c.1 ≤ 3 ∧ c.2 ≤ 3 := fun c hc => by
            rw [List.eq_of_mem_replicate hc]; exact ⟨by decide, by decide⟩
          have s69 := s68.trans s9
          have s79 := s78.trans s9
          -- seen = {}
          refine fun sn nsn => ?_
          have s10 := same_new nsn (o := SeenO P w sn [])
          have S0 : SeenR P w h sk (nothM h sk) k two (upd H9 sn (SeenO P w sn [])) sn := ⟨[], ⟨upd_same, fun x hx => nomatch hx⟩, List.nodup_nil⟩
          have hMlt : ∀ m ∈ nothM h sk, m < h.length := fun m hm => (mem_noth.mp hm).1
          have sl10 := SL.of (s69.trans s10)
          -- told(.., least, seen)
          refine ⟨.ref D, rfl, .ref cl, rfl, .ref N, rfl, iv k, rfl, ruleS two, rfl, iv least, rfl, .ref sn, rfl, D, cl, N, sn, k, least, two, h, sk, nothM h sk, List.replicate (nothM h sk).length (0, 0), as, rfl, htab.sl sl10, hcl6.sl sl10, hcn.same (s79.trans s10),
            filter_asc, hMlt, sm, hM5, by omega, hq10, hcs3, by omega, S0, fun H11 b1 bu1 S1 hb1 => ⟨_, rfl, ?_⟩⟩
          have e1 : b1 = true := hb1.mpr ((told least).mpr (Nat.le_refl _))
          subst e1
          refine iteF ?_
          have s9n : Same H9 H11 := same_but s10 nsn bu1
          -- the second question
          refine ⟨fun σ' H' => σ' = [some (.ref a), some (.ref b), some (iv k), some (.ref hp), some (iv h.length), some (.ref sv), some (.ref cl), z7, some (.ref D), some (.ref N), some (ruleS two), some (iv least), some (.ref sn), z13] ∧ Same H9 H', ?_, ?_⟩
          · refine ⟨iv least, rfl, _, _, rfl, rfl, _, rfl, ite2 (fun c1 => ?_) (fun c1 => ⟨rfl, s9n⟩)⟩
            have c1 : (least : Int) > 0 := of_decide_eq_true c1
            have eq1 : (least : Int) - 1 = ((least - 1 : Nat) : Int) := by omega
            have sl11 := (SL.of s69).trans (SL.of s9n)
            refine ⟨.ref D, rfl, .ref cl, rfl, .ref N, rfl, iv k, rfl, ruleS two, rfl, iv least, rfl, _, 1, rfl, rfl, .ref sn, rfl, D, cl, N, sn, k, least - 1, two, h, sk, nothM h sk, List.replicate (nothM h sk).length (0, 0), as, by show [V.ref D, V.ref cl, V.ref N, iv k, ruleS two, V.int ((least : Int) - 1), V.ref sn] = _; rw [eq1],
              htab.sl sl11, hcl6.sl sl11, hcn.same (s79.trans s9n), filter_asc, hMlt, sm, hM5, by omega, by omega, hcs3, by omega, S1, fun H12 b2 bu2 S2 hb2 => ⟨_, rfl, ite2 (fun c2 => ?_) (fun c2 => ?_)⟩⟩
            · have := (told (least - 1)).mp (hb2.mp c2)
              omega
            · exact ⟨rfl, same_but (s10.trans (fun x o e => e)) nsn (bu1.trans bu2)⟩
          · rintro σ' H' ⟨rfl, s9'⟩
            -- asked(15, ..) != -1 or asked(14, ..) != 4 * ..
            refine ⟨iv k, rfl, ruleS two, rfl, 15, k, two, rfl, by omega, .inl ⟨rfl, fun H13 s13 => ?_⟩⟩
            refine ⟨1, rfl, rfl, _, rfl, ite2 (fun c1 => ?_) (fun c1 => ?_)⟩
            · exfalso
              rw [decide_eq_true rfl] at c1
              cases c1
            · refine ⟨iv k, rfl, ruleS two, rfl, 14, k, two, rfl, by omega, .inr ⟨rfl, fun H14 s14 => ?_⟩⟩
              refine ⟨iv k, rfl, 2, _, rfl, rfl, .inl ⟨by decide, by decide⟩, _, 1, rfl, rfl, iv k, rfl, _, 1, rfl, rfl, by show 2 ≤ sizeLine; exact szl (by omega), fun L2 n2 => ?_⟩
              have s15 := same_new n2 (o := .lst [V.int ((2 : Int) * ((k : Nat) : Int) + 1), V.int (((k : Nat) : Int) + 1)])
              refine ⟨ruleS two, rfl, rfl, .inr ⟨_, rfl, ?_⟩⟩
              refine ⟨L2, _, _, iv (timesOf k two), rfl, rfl, SqL.of upd_same, ix_rule2 k two, 4, _, rfl, rfl, .inl ⟨by decide, by decide⟩, rfl, _, rfl, ite2 (fun c2 => ?_) (fun c2 => ?_)⟩
              · exfalso
                have e4 : ((timesOf k two * 4 : Nat) : Int) = 4 * ((timesOf k two : Nat) : Int) := by omega
                rw [decide_eq_true (show V.int ((timesOf k two * 4 : Nat) : Int) = V.int (4 * ((timesOf k two : Nat) : Int)) by rw [e4])] at c2
                cases c2
              · exact ⟨_, _, _, _, _, rfl, ((((s8.trans s9).trans s9').trans s13).trans s14).trans s15⟩
        · exact q _
end
end K26

set_option Elab.async false
set_option linter.all false
set_option maxRecDepth 100000
set_option maxHeartbeats 0
/-! The head: the facts by names, the run of the top; all defs put together; the row. -/
namespace K26
open PySem PySem.Spec PyProof.Rows L2
def d_ancestors : He.DefD := ⟨("ancestors", none), "ancestors", "ancestors", defArgs s_ancestors, defBody s_ancestors, defScope s_ancestors, [], []⟩
def d_testable : He.DefD := ⟨("testable", none), "testable", "testable", defArgs s_testable, defBody s_testable, defScope s_testable, [], []⟩
def d_classes : He.DefD := ⟨("classes", none), "classes", "classes", defArgs s_classes, defBody s_classes, defScope s_classes, [], []⟩
def d_broken_by : He.DefD := ⟨("broken_by", none), "broken_by", "broken_by", defArgs s_broken_by, defBody s_broken_by, defScope s_broken_by, [], []⟩
def d_tests : He.DefD := ⟨("tests", none), "tests", "tests", defArgs s_tests, defBody s_tests, defScope s_tests, [], []⟩
def d_start : He.DefD := ⟨("start", none), "start", "start", defArgs s_start, defBody s_start, defScope s_start, [], []⟩
def d_lowered : He.DefD := ⟨("lowered", none), "lowered", "lowered", defArgs s_lowered, defBody s_lowered, defScope s_lowered, [], []⟩
def d_against_row : He.DefD := ⟨("against_row", none), "against_row", "against_row", defArgs s_against_row, defBody s_against_row, defScope s_against_row, [], []⟩
def d_check_size : He.DefD := ⟨("check_size", none), "check_size", "check_size", defArgs s_check_size, defBody s_check_size, defScope s_check_size, [], []⟩
def d_rows_of : He.DefD := ⟨("rows_of", none), "rows_of", "rows_of", defArgs s_rows_of, defBody s_rows_of, defScope s_rows_of, [], []⟩
def d_ones_in : He.DefD := ⟨("ones_in", none), "ones_in", "ones_in", defArgs s_ones_in, defBody s_ones_in, defScope s_ones_in, [], []⟩
def d_is_useful : He.DefD := ⟨("is_useful", none), "is_useful", "is_useful", defArgs s_is_useful, defBody s_is_useful, defScope s_is_useful, [], []⟩
def d_both_after : He.DefD := ⟨("both_after", none), "both_after", "both_after", defArgs s_both_after, defBody s_both_after, defScope s_both_after, [], []⟩
def d_value : He.DefD := ⟨("value", none), "value", "value", defArgs s_value, defBody s_value, defScope s_value, [], []⟩
def d_fewest_from : He.DefD := ⟨("fewest_from", none), "fewest_from", "fewest_from", defArgs s_fewest_from, defBody s_fewest_from, defScope s_fewest_from, [], []⟩
def d_fewest : He.DefD := ⟨("fewest", none), "fewest", "fewest", defArgs s_fewest, defBody s_fewest, defScope s_fewest, [], []⟩
def d_fewest_by_make : He.DefD := ⟨("fewest_by_make", none), "fewest_by_make", "fewest_by_make", defArgs s_fewest_by_make, defBody s_fewest_by_make, defScope s_fewest_by_make, [], []⟩
def d_L_cell : He.DefD := ⟨("_law_cell", none), "_law_cell", "_law_cell", defArgs s_L_cell, defBody s_L_cell, defScope s_L_cell, [], []⟩
def d_L_digits : He.DefD := ⟨("_law_digits", none), "_law_digits", "_law_digits", defArgs s_L_digits, defBody s_L_digits, defScope s_L_digits, [], []⟩
def d_L_draw : He.DefD := ⟨("_law_draw", none), "_law_draw", "_law_draw", defArgs s_L_draw, defBody s_L_draw, defScope s_L_draw, [], []⟩
def d_L_parents : He.DefD := ⟨("_law_parents", none), "_law_parents", "_law_parents", defArgs s_L_parents, defBody s_L_parents, defScope s_L_parents, [], []⟩
def d_L_history : He.DefD := ⟨("_law_history", none), "_law_history", "_law_history", defArgs s_L_history, defBody s_L_history, defScope s_L_history, [], []⟩
def d_L_above : He.DefD := ⟨("_law_above", none), "_law_above", "_law_above", defArgs s_L_above, defBody s_L_above, defScope s_L_above, [], []⟩
def d_L_breaks : He.DefD := ⟨("_law_breaks", none), "_law_breaks", "_law_breaks", defArgs s_L_breaks, defBody s_L_breaks, defScope s_L_breaks, [], []⟩
def d_L_skips : He.DefD := ⟨("_law_skips", none), "_law_skips", "_law_skips", defArgs s_L_skips, defBody s_L_skips, defScope s_L_skips, [], []⟩
def d_L_classes : He.DefD := ⟨("_law_classes", none), "_law_classes", "_law_classes", defArgs s_L_classes, defBody s_L_classes, defScope s_L_classes, [], []⟩
def d_L_alive : He.DefD := ⟨("_law_alive", none), "_law_alive", "_law_alive", defArgs s_L_alive, defBody s_L_alive, defScope s_L_alive, [], []⟩
def d_L_key : He.DefD := ⟨("_law_key", none), "_law_key", "_law_key", defArgs s_L_key, defBody s_L_key, defScope s_L_key, [], []⟩
def d_L_told : He.DefD := ⟨("_law_told", none), "_law_told", "_law_told", defArgs s_L_told, defBody s_L_told, defScope s_L_told, [], []⟩
def d_L_long_chain : He.DefD := ⟨("_law_long_chain", none), "_law_long_chain", "_law_long_chain", defArgs s_L_long_chain, defBody s_L_long_chain, defScope s_L_long_chain, [], []⟩
def d_L_asked : He.DefD := ⟨("_law_asked", none), "_law_asked", "_law_asked", defArgs s_L_asked, defBody s_L_asked, defScope s_L_asked, [], []⟩
def d_law : He.DefD := ⟨("law", none), "law", "law", defArgs s_law, defBody s_law, defScope s_law, [], []⟩
def fn : List He.DefD := [d_ancestors, d_testable, d_classes, d_broken_by, d_tests, d_start, d_lowered, d_against_row, d_check_size, d_rows_of, d_ones_in, d_is_useful, d_both_after, d_value, d_fewest_from, d_fewest, d_fewest_by_make, d_L_cell, d_L_digits, d_L_draw, d_L_parents, d_L_history, d_L_above, d_L_breaks, d_L_skips, d_L_classes, d_L_alive, d_L_key, d_L_told, d_L_long_chain, d_L_asked, d_law]
def fa : List He.Fa := ([.free "len", .free "range", .free "tuple", .free "sorted", .free "max", .free "int", .free "set", .free "dict", .int "MOST_STATES" 20000, .exc "TooGreat", .exm "TooGreat" "TooGreat" true, .glo "TooGreat"] : List He.Fa) ++ ([.glo "ancestors", .glo "testable", .glo "classes", .glo "broken_by", .glo "tests", .glo "start", .glo "lowered", .glo "against_row", .glo "check_size", .glo "rows_of", .glo "ones_in", .glo "is_useful"] : List He.Fa) ++ ([.glo "both_after", .glo "value", .glo "fewest_from", .glo "fewest", .glo "fewest_by_make", .glo "_law_cell", .glo "_law_digits", .glo "_law_draw", .glo "_law_parents", .glo "_law_history", .glo "_law_above", .glo "_law_breaks"] : List He.Fa) ++ ([.glo "_law_skips", .glo "_law_classes", .glo "_law_alive", .glo "_law_key", .glo "_law_told", .glo "_law_long_chain", .glo "_law_asked", .glo "law"] : List He.Fa)
def loose : List PySem.Str := (["BreakError", "TooGreat", "MOST_STATES", "ancestors", "testable", "classes", "broken_by", "tests", "start", "lowered"] : List PySem.Str) ++ (["against_row", "check_size", "rows_of", "ones_in", "is_useful", "both_after", "value", "fewest_from", "fewest", "fewest_by_make"] : List PySem.Str) ++ (["_law_cell", "_law_digits", "_law_draw", "_law_parents", "_law_history", "_law_above", "_law_breaks", "_law_skips", "_law_classes", "_law_alive"] : List PySem.Str) ++ (["_law_key", "_law_told", "_law_long_chain", "_law_asked"] : List PySem.Str)
abbrev R : PySem.W.OpenRow := PySem.W.OpenLaw.row PySem.Challenge.rw_firstbreak_k26_fewest_by_all_tests
abbrev hk : PySem.W.Hook := He.hookD 4 fa fn
def ob (s : PySem.W.SharedT) : He.AlD := He.obsDG 4 fa fn (HandSHeadRun.getT s)
theorem ob_eq (s : PySem.W.SharedT) : ob s = hk.obs s.abs := He.obsDG_eq (HandSHeadRun.getT_eq s)
theorem run (w : World) : HandSHeadRun.RunEq R (PySem.W.view R.prog [41]) hk ob 4000 loose w := by
  intro os
  kernel_rfl
theorem mkFn {P : Program} {w : World} {K : PySem.W.Frag} {mg : PySem.Str → Option Value} {base : Heap} {CX : CXT} {k : Nat} {x : PySem.Str} {st : Stmt} {f : Addr} {fd : FuncData} {ps : List PySem.Str} {sp : Sp} (F : FnP K x st f fd) (g : mg x = some (.ref f)) (b : Binds K fd ps [])
    (G : FnOk P w K mg base CX k f fd ps sp) : Fn P w K mg base CX k x ps sp := ⟨f, fd, g, F.kp, b, G⟩
theorem facts {P : Program} {w : World} {K : PySem.W.Frag} {h : Heap} {mg : PySem.Str → Option Value} {f : Addr} (XH : K.In h) (G : h.Ns mainGlobals mg) (hfa : mg ("law" : PySem.Str) = some (.ref f)) (c : He.SaysD fa fn K) :
    ∃ fd : FuncData, (∀ (s : Shared) (v : Value), BindsTo s fd ⟨[v], []⟩ [("_law_script", v)]) ∧ ∀ base : Heap, K.In base → base.Ns mainGlobals mg → FnOk P w K mg base CX0 23 f fd ["_law_script"] (spLaw K) := by
  have T : Blt mg := ⟨He.free_ok XH G (c.fact 0 (f := .free "len") rfl), He.free_ok XH G (c.fact 1 (f := .free "range") rfl), He.free_ok XH G (c.fact 2 (f := .free "tuple") rfl), He.free_ok XH G (c.fact 3 (f := .free "sorted") rfl), He.free_ok XH G (c.fact 4 (f := .free "max") rfl), He.free_ok XH G (c.fact 5 (f := .free "int") rfl), He.free_ok XH G (c.fact 6 (f := .free "set") rfl), He.free_ok XH G (c.fact 7 (f := .free "dict") rfl)⟩
  obtain ⟨x1, x2, x3, x4⟩ := He.exc_ok (c.fact 9 (f := .exc "TooGreat") rfl)
  have X : Exc26 K mg (He.ga K "TooGreat") := ⟨He.glo_ok XH G (c.fact 11 (f := .glo "TooGreat") rfl), x1, x2, x3, x4, He.exm_ok (c.fact 10 (f := .exm "TooGreat" "TooGreat" true) rfl), He.int_ok XH G (c.fact 8 (f := .int "MOST_STATES" 20000) rfl)⟩
  generalize He.ga K "TooGreat" = C at X
  obtain ⟨fd, F⟩ := c.def_ 31 (d := d_law) rfl
  have e := hfa.symm.trans (He.glo_ok XH G (c.fact 43 (f := .glo "law") rfl))
  cases e
  have b := FunD.bindsA (ps := ["_law_script"]) F fun _ _ _ _ _ _ us hl => match us, hl with | [_], _ => rfl
  refine ⟨fd, fun s v => b s [v] rfl, fun base _ _ => ?_⟩
  obtain ⟨fd_ancestors, E_ancestors⟩ := c.def_ 0 (d := d_ancestors) rfl
  have F_ancestors : FnP K "ancestors" s_ancestors (He.ga K "ancestors") fd_ancestors := E_ancestors
  have g_ancestors := He.glo_ok XH G (c.fact 12 (f := .glo "ancestors") rfl)
  have Q_ancestors : Fn P w K mg base CX0 1 "ancestors" ["history", "m"] spAnc := mkFn F_ancestors g_ancestors (FunD.bindsN (ps := ["history", "m"]) F_ancestors fun _ _ _ _ _ _ us hl => match us, hl with | [_, _], _ => rfl) (ok_ancestors F_ancestors T)
  obtain ⟨fd_testable, E_testable⟩ := c.def_ 1 (d := d_testable) rfl
  have F_testable : FnP K "testable" s_testable (He.ga K "testable") fd_testable := E_testable
  have g_testable := He.glo_ok XH G (c.fact 13 (f := .glo "testable") rfl)
  have Q_testable : Fn P w K mg base CX0 1 "testable" ["history", "skipped"] spTstb := mkFn F_testable g_testable (FunD.bindsN (ps := ["history", "skipped"]) F_testable fun _ _ _ _ _ _ us hl => match us, hl with | [_, _], _ => rfl) (ok_testable F_testable T)
  obtain ⟨fd_classes, E_classes⟩ := c.def_ 2 (d := d_classes) rfl
  have F_classes : FnP K "classes" s_classes (He.ga K "classes") fd_classes := E_classes
  have g_classes := He.glo_ok XH G (c.fact 14 (f := .glo "classes") rfl)
  have Q_classes : Fn P w K mg base CX0 2 "classes" ["history", "skipped"] spCls := mkFn F_classes g_classes (FunD.bindsN (ps := ["history", "skipped"]) F_classes fun _ _ _ _ _ _ us hl => match us, hl with | [_, _], _ => rfl) (ok_classes F_classes T Q_ancestors Q_testable)
  obtain ⟨fd_broken_by, E_broken_by⟩ := c.def_ 3 (d := d_broken_by) rfl
  have F_broken_by : FnP K "broken_by" s_broken_by (He.ga K "broken_by") fd_broken_by := E_broken_by
  have g_broken_by := He.glo_ok XH G (c.fact 15 (f := .glo "broken_by") rfl)
  have Q_broken_by : Fn P w K mg base CX0 2 "broken_by" ["history", "found", "m"] spBrk := mkFn F_broken_by g_broken_by (FunD.bindsN (ps := ["history", "found", "m"]) F_broken_by fun _ _ _ _ _ _ us hl => match us, hl with | [_, _, _], _ => rfl) (ok_broken_by F_broken_by T Q_ancestors)
  obtain ⟨fd_tests, E_tests⟩ := c.def_ 4 (d := d_tests) rfl
  have F_tests : FnP K "tests" s_tests (He.ga K "tests") fd_tests := E_tests
  have g_tests := He.glo_ok XH G (c.fact 16 (f := .glo "tests") rfl)
  have Q_tests : Fn P w K mg base CX0 3 "tests" ["history", "skipped"] spTests := mkFn F_tests g_tests (FunD.bindsN (ps := ["history", "skipped"]) F_tests fun _ _ _ _ _ _ us hl => match us, hl with | [_, _], _ => rfl) (ok_tests F_tests T Q_testable Q_classes Q_broken_by)
  obtain ⟨fd_start, E_start⟩ := c.def_ 5 (d := d_start) rfl
  have F_start : FnP K "start" s_start (He.ga K "start") fd_start := E_start
  have g_start := He.glo_ok XH G (c.fact 17 (f := .glo "start") rfl)
  have Q_start : Fn P w K mg base CX0 3 "start" ["history", "skipped", "k"] spStart := mkFn F_start g_start (FunD.bindsN (ps := ["history", "skipped", "k"]) F_start fun _ _ _ _ _ _ us hl => match us, hl with | [_, _, _], _ => rfl) (ok_start F_start T Q_classes)
  obtain ⟨fd_lowered, E_lowered⟩ := c.def_ 6 (d := d_lowered) rfl
  have F_lowered : FnP K "lowered" s_lowered (He.ga K "lowered") fd_lowered := E_lowered
  have g_lowered := He.glo_ok XH G (c.fact 18 (f := .glo "lowered") rfl)
  have Q_lowered : Fn P w K mg base CX0 1 "lowered" ["state", "row"] spLow := mkFn F_lowered g_lowered (FunD.bindsN (ps := ["state", "row"]) F_lowered fun _ _ _ _ _ _ us hl => match us, hl with | [_, _], _ => rfl) (ok_lowered F_lowered T)
  obtain ⟨fd_against_row, E_against_row⟩ := c.def_ 7 (d := d_against_row) rfl
  have F_against_row : FnP K "against_row" s_against_row (He.ga K "against_row") fd_against_row := E_against_row
  have g_against_row := He.glo_ok XH G (c.fact 19 (f := .glo "against_row") rfl)
  have Q_against_row : Fn P w K mg base CX0 1 "against_row" ["many", "row", "word"] spAg := mkFn F_against_row g_against_row (FunD.bindsN (ps := ["many", "row", "word"]) F_against_row fun _ _ _ _ _ _ us hl => match us, hl with | [_, _, _], _ => rfl) (ok_against_row F_against_row T)
  obtain ⟨fd_check_size, E_check_size⟩ := c.def_ 8 (d := d_check_size) rfl
  have F_check_size : FnP K "check_size" s_check_size (He.ga K "check_size") fd_check_size := E_check_size
  have g_check_size := He.glo_ok XH G (c.fact 20 (f := .glo "check_size") rfl)
  have Q_check_size : Fn P w K mg base (L2.CX P w) 1 "check_size" ["state"] (spChk C) := mkFn F_check_size g_check_size (FunD.bindsN (ps := ["state"]) F_check_size fun _ _ _ _ _ _ us hl => match us, hl with | [_], _ => rfl) (ok_check_size F_check_size T X)
  obtain ⟨fd_rows_of, E_rows_of⟩ := c.def_ 9 (d := d_rows_of) rfl
  have F_rows_of : FnP K "rows_of" s_rows_of (He.ga K "rows_of") fd_rows_of := E_rows_of
  have g_rows_of := He.glo_ok XH G (c.fact 21 (f := .glo "rows_of") rfl)
  have Q_rows_of : Fn P w K mg base CX0 4 "rows_of" ["history", "skipped"] spRows := mkFn F_rows_of g_rows_of (FunD.bindsN (ps := ["history", "skipped"]) F_rows_of fun _ _ _ _ _ _ us hl => match us, hl with | [_, _], _ => rfl) (ok_rows_of F_rows_of T Q_classes Q_broken_by Q_tests)
  obtain ⟨fd_ones_in, E_ones_in⟩ := c.def_ 10 (d := d_ones_in) rfl
  have F_ones_in : FnP K "ones_in" s_ones_in (He.ga K "ones_in") fd_ones_in := E_ones_in
  have g_ones_in := He.glo_ok XH G (c.fact 22 (f := .glo "ones_in") rfl)
  have Q_ones_in : Fn P w K mg base CX0 1 "ones_in" ["state"] spOnes := mkFn F_ones_in g_ones_in (FunD.bindsN (ps := ["state"]) F_ones_in fun _ _ _ _ _ _ us hl => match us, hl with | [_], _ => rfl) (ok_ones_in F_ones_in T)
  obtain ⟨fd_is_useful, E_is_useful⟩ := c.def_ 11 (d := d_is_useful) rfl
  have F_is_useful : FnP K "is_useful" s_is_useful (He.ga K "is_useful") fd_is_useful := E_is_useful
  have g_is_useful := He.glo_ok XH G (c.fact 23 (f := .glo "is_useful") rfl)
  have Q_is_useful : Fn P w K mg base CX0 2 "is_useful" ["state", "row"] spUse := mkFn F_is_useful g_is_useful (FunD.bindsN (ps := ["state", "row"]) F_is_useful fun _ _ _ _ _ _ us hl => match us, hl with | [_, _], _ => rfl) (ok_is_useful F_is_useful T Q_ones_in)
  obtain ⟨fd_both_after, E_both_after⟩ := c.def_ 12 (d := d_both_after) rfl
  have F_both_after : FnP K "both_after" s_both_after (He.ga K "both_after") fd_both_after := E_both_after
  have g_both_after := He.glo_ok XH G (c.fact 24 (f := .glo "both_after") rfl)
  have Q_both_after : Fn P w K mg base CX0 2 "both_after" ["state", "row"] spBoth := mkFn F_both_after g_both_after (FunD.bindsN (ps := ["state", "row"]) F_both_after fun _ _ _ _ _ _ us hl => match us, hl with | [_, _], _ => rfl) (ok_both_after F_both_after T Q_lowered Q_against_row)
  obtain ⟨fd_value, E_value⟩ := c.def_ 13 (d := d_value) rfl
  have F_value : FnP K "value" s_value (He.ga K "value") fd_value := E_value
  have g_value := He.glo_ok XH G (c.fact 25 (f := .glo "value") rfl)
  have b_value : Binds K fd_value ["rows", "state", "known"] [] := (FunD.bindsN (ps := ["rows", "state", "known"]) F_value fun _ _ _ _ _ _ us hl => match us, hl with | [_, _, _], _ => rfl)
  have QV : ∀ c : Nat, Fn P w K mg base CX0 (3 + c) "value" ["rows", "state", "known"] (spVal c) := fun c => by
    induction c with
    | zero =>
      have no : ∀ vs H Q E, spVal 0 vs H Q E → False := fun vs H Q E z => by
        obtain ⟨_, _, _, _, _, _, _, _, _, _, _, _, z, _⟩ := z
        exact absurd z (Nat.not_lt_zero _)
      exact mkFn F_value g_value b_value ⟨fun vs H Q E z => (no vs H Q E z).elim, fun _ _ _ _ _ _ _ _ _ _ _ _ _ z => (no _ _ _ _ z).elim⟩
    | succ c ih => exact mkFn F_value g_value b_value (ok_value c F_value T Q_ones_in Q_is_useful Q_both_after ih)
  have Q_value := QV 15
  obtain ⟨fd_fewest_from, E_fewest_from⟩ := c.def_ 14 (d := d_fewest_from) rfl
  have F_fewest_from : FnP K "fewest_from" s_fewest_from (He.ga K "fewest_from") fd_fewest_from := E_fewest_from
  have g_fewest_from := He.glo_ok XH G (c.fact 26 (f := .glo "fewest_from") rfl)
  have Q_fewest_from : Fn P w K mg base (L2.CX P w) 19 "fewest_from" ["history", "skipped", "state"] (spFrom C) := mkFn F_fewest_from g_fewest_from (FunD.bindsN (ps := ["history", "skipped", "state"]) F_fewest_from fun _ _ _ _ _ _ us hl => match us, hl with | [_, _, _], _ => rfl) (ok_fewest_from F_fewest_from Q_check_size Q_rows_of Q_value)
  obtain ⟨fd_fewest, E_fewest⟩ := c.def_ 15 (d := d_fewest) rfl
  have F_fewest : FnP K "fewest" s_fewest (He.ga K "fewest") fd_fewest := E_fewest
  have g_fewest := He.glo_ok XH G (c.fact 27 (f := .glo "fewest") rfl)
  have Q_fewest : Fn P w K mg base (L2.CX P w) 20 "fewest" ["history", "skipped", "k"] (spFew C) := mkFn F_fewest g_fewest (FunD.bindsN (ps := ["history", "skipped", "k"]) F_fewest fun _ _ _ _ _ _ us hl => match us, hl with | [_, _, _], _ => rfl) (ok_fewest F_fewest Q_fewest_from Q_start)
  obtain ⟨fd_fewest_by_make, E_fewest_by_make⟩ := c.def_ 16 (d := d_fewest_by_make) rfl
  have F_fewest_by_make : FnP K "fewest_by_make" s_fewest_by_make (He.ga K "fewest_by_make") fd_fewest_by_make := E_fewest_by_make
  have g_fewest_by_make := He.glo_ok XH G (c.fact 28 (f := .glo "fewest_by_make") rfl)
  have Q_fewest_by_make : Fn P w K mg base (L2.CX P w) 21 "fewest_by_make" ["history", "skipped", "k", "rule"] (spFbm C) := mkFn F_fewest_by_make g_fewest_by_make (FunD.bindsN (ps := ["history", "skipped", "k", "rule"]) F_fewest_by_make fun _ _ _ _ _ _ us hl => match us, hl with | [_, _, _, _], _ => rfl) (ok_fewest_by_make F_fewest_by_make Q_fewest)
  obtain ⟨fd_L_cell, E_L_cell⟩ := c.def_ 17 (d := d_L_cell) rfl
  have F_L_cell : FnP K "_law_cell" s_L_cell (He.ga K "_law_cell") fd_L_cell := E_L_cell
  have g_L_cell := He.glo_ok XH G (c.fact 29 (f := .glo "_law_cell") rfl)
  have Q_L_cell : Fn P w K mg base CX0 1 "_law_cell" ["_law_script", "_law_k"] (spCell26 K) := mkFn F_L_cell g_L_cell (FunD.bindsN (ps := ["_law_script", "_law_k"]) F_L_cell fun _ _ _ _ _ _ us hl => match us, hl with | [_, _], _ => rfl) (ok_L_cell F_L_cell T)
  obtain ⟨fd_L_digits, E_L_digits⟩ := c.def_ 18 (d := d_L_digits) rfl
  have F_L_digits : FnP K "_law_digits" s_L_digits (He.ga K "_law_digits") fd_L_digits := E_L_digits
  have g_L_digits := He.glo_ok XH G (c.fact 30 (f := .glo "_law_digits") rfl)
  have Q_L_digits : Fn P w K mg base CX0 2 "_law_digits" ["_law_script", "_law_first", "_law_last"] (spDig K) := mkFn F_L_digits g_L_digits (FunD.bindsN (ps := ["_law_script", "_law_first", "_law_last"]) F_L_digits fun _ _ _ _ _ _ us hl => match us, hl with | [_, _, _], _ => rfl) (ok_L_digits F_L_digits T Q_L_cell)
  obtain ⟨fd_L_draw, E_L_draw⟩ := c.def_ 19 (d := d_L_draw) rfl
  have F_L_draw : FnP K "_law_draw" s_L_draw (He.ga K "_law_draw") fd_L_draw := E_L_draw
  have g_L_draw := He.glo_ok XH G (c.fact 31 (f := .glo "_law_draw") rfl)
  have Q_L_draw : Fn P w K mg base CX0 1 "_law_draw" ["_law_box", "_law_many"] spDraw := mkFn F_L_draw g_L_draw (FunD.bindsN (ps := ["_law_box", "_law_many"]) F_L_draw fun _ _ _ _ _ _ us hl => match us, hl with | [_, _], _ => rfl) (ok_L_draw F_L_draw T)
  obtain ⟨fd_L_parents, E_L_parents⟩ := c.def_ 20 (d := d_L_parents) rfl
  have F_L_parents : FnP K "_law_parents" s_L_parents (He.ga K "_law_parents") fd_L_parents := E_L_parents
  have g_L_parents := He.glo_ok XH G (c.fact 32 (f := .glo "_law_parents") rfl)
  have Q_L_parents : Fn P w K mg base CX0 2 "_law_parents" ["_law_box", "_law_k", "_law_ends"] spPar := mkFn F_L_parents g_L_parents (FunD.bindsN (ps := ["_law_box", "_law_k", "_law_ends"]) F_L_parents fun _ _ _ _ _ _ us hl => match us, hl with | [_, _, _], _ => rfl) (ok_L_parents F_L_parents T Q_L_draw)
  obtain ⟨fd_L_history, E_L_history⟩ := c.def_ 21 (d := d_L_history) rfl
  have F_L_history : FnP K "_law_history" s_L_history (He.ga K "_law_history") fd_L_history := E_L_history
  have g_L_history := He.glo_ok XH G (c.fact 33 (f := .glo "_law_history") rfl)
  have Q_L_history : Fn P w K mg base CX0 3 "_law_history" ["_law_box", "_law_most"] spHist := mkFn F_L_history g_L_history (FunD.bindsN (ps := ["_law_box", "_law_most"]) F_L_history fun _ _ _ _ _ _ us hl => match us, hl with | [_, _], _ => rfl) (ok_L_history F_L_history T Q_L_draw Q_L_parents)
  obtain ⟨fd_L_above, E_L_above⟩ := c.def_ 22 (d := d_L_above) rfl
  have F_L_above : FnP K "_law_above" s_L_above (He.ga K "_law_above") fd_L_above := E_L_above
  have g_L_above := He.glo_ok XH G (c.fact 34 (f := .glo "_law_above") rfl)
  have Q_L_above : Fn P w K mg base CX0 1 "_law_above" ["_law_history_here", "_law_make"] spAbove := mkFn F_L_above g_L_above (FunD.bindsN (ps := ["_law_history_here", "_law_make"]) F_L_above fun _ _ _ _ _ _ us hl => match us, hl with | [_, _], _ => rfl) (ok_L_above F_L_above T)
  obtain ⟨fd_L_breaks, E_L_breaks⟩ := c.def_ 23 (d := d_L_breaks) rfl
  have F_L_breaks : FnP K "_law_breaks" s_L_breaks (He.ga K "_law_breaks") fd_L_breaks := E_L_breaks
  have g_L_breaks := He.glo_ok XH G (c.fact 35 (f := .glo "_law_breaks") rfl)
  have Q_L_breaks : Fn P w K mg base CX0 2 "_law_breaks" ["_law_history_here", "_law_candidate", "_law_make"] spBrks := mkFn F_L_breaks g_L_breaks (FunD.bindsN (ps := ["_law_history_here", "_law_candidate", "_law_make"]) F_L_breaks fun _ _ _ _ _ _ us hl => match us, hl with | [_, _, _], _ => rfl) (ok_L_breaks F_L_breaks Q_L_above)
  obtain ⟨fd_L_skips, E_L_skips⟩ := c.def_ 24 (d := d_L_skips) rfl
  have F_L_skips : FnP K "_law_skips" s_L_skips (He.ga K "_law_skips") fd_L_skips := E_L_skips
  have g_L_skips := He.glo_ok XH G (c.fact 36 (f := .glo "_law_skips") rfl)
  have Q_L_skips : Fn P w K mg base CX0 2 "_law_skips" ["_law_box", "_law_history_here"] spSkips := mkFn F_L_skips g_L_skips (FunD.bindsN (ps := ["_law_box", "_law_history_here"]) F_L_skips fun _ _ _ _ _ _ us hl => match us, hl with | [_, _], _ => rfl) (ok_L_skips F_L_skips T Q_L_draw)
  obtain ⟨fd_L_classes, E_L_classes⟩ := c.def_ 25 (d := d_L_classes) rfl
  have F_L_classes : FnP K "_law_classes" s_L_classes (He.ga K "_law_classes") fd_L_classes := E_L_classes
  have g_L_classes := He.glo_ok XH G (c.fact 37 (f := .glo "_law_classes") rfl)
  have Q_L_classes : Fn P w K mg base CX0 3 "_law_classes" ["_law_history_here", "_law_skipped"] spLCls := mkFn F_L_classes g_L_classes (FunD.bindsN (ps := ["_law_history_here", "_law_skipped"]) F_L_classes fun _ _ _ _ _ _ us hl => match us, hl with | [_, _], _ => rfl) (ok_L_classes F_L_classes T Q_L_breaks)
  obtain ⟨fd_L_alive, E_L_alive⟩ := c.def_ 26 (d := d_L_alive) rfl
  have F_L_alive : FnP K "_law_alive" s_L_alive (He.ga K "_law_alive") fd_L_alive := E_L_alive
  have g_L_alive := He.glo_ok XH G (c.fact 38 (f := .glo "_law_alive") rfl)
  have Q_L_alive : Fn P w K mg base CX0 1 "_law_alive" ["_law_table", "_law_classes_here", "_law_counts", "_law_k", "_law_rule"] spAlive := mkFn F_L_alive g_L_alive (FunD.bindsN (ps := ["_law_table", "_law_classes_here", "_law_counts", "_law_k", "_law_rule"]) F_L_alive fun _ _ _ _ _ _ us hl => match us, hl with | [_, _, _, _, _], _ => rfl) (ok_L_alive F_L_alive T)
  obtain ⟨fd_L_key, E_L_key⟩ := c.def_ 27 (d := d_L_key) rfl
  have F_L_key : FnP K "_law_key" s_L_key (He.ga K "_law_key") fd_L_key := E_L_key
  have g_L_key := He.glo_ok XH G (c.fact 39 (f := .glo "_law_key") rfl)
  have Q_L_key : Fn P w K mg base CX0 1 "_law_key" ["_law_counts", "_law_q"] spKey := mkFn F_L_key g_L_key (FunD.bindsN (ps := ["_law_counts", "_law_q"]) F_L_key fun _ _ _ _ _ _ us hl => match us, hl with | [_, _], _ => rfl) (ok_L_key F_L_key T)
  obtain ⟨fd_L_told, E_L_told⟩ := c.def_ 28 (d := d_L_told) rfl
  have F_L_told : FnP K "_law_told" s_L_told (He.ga K "_law_told") fd_L_told := E_L_told
  have g_L_told := He.glo_ok XH G (c.fact 40 (f := .glo "_law_told") rfl)
  have b_L_told : Binds K fd_L_told pTold [] := (FunD.bindsN (ps := pTold) F_L_told fun _ _ _ _ _ _ us hl => match us, hl with | [_, _, _, _, _, _, _], _ => rfl)
  have QT : ∀ c : Nat, Fn P w K mg base CX0 (3 + c) "_law_told" pTold (spTold P w c) := fun c => by
    induction c with
    | zero =>
      have no : ∀ vs H Q E, spTold P w 0 vs H Q E → False := fun vs H Q E z => by
        obtain ⟨_, _, _, _, _, _, _, _, _, _, _, _, _, _, _, _, _, _, _, _, _, _, _, z, _⟩ := z
        exact absurd z (Nat.not_lt_zero _)
      exact mkFn F_L_told g_L_told b_L_told ⟨fun vs H Q E z => (no vs H Q E z).elim, fun _ _ _ _ _ _ _ _ _ _ _ _ _ z => (no _ _ _ _ z).elim⟩
    | succ c ih => exact mkFn F_L_told g_L_told b_L_told (ok_L_told c F_L_told T Q_L_key Q_L_alive ih)
  have Q_L_told := QT 11
  obtain ⟨fd_L_long_chain, E_L_long_chain⟩ := c.def_ 29 (d := d_L_long_chain) rfl
  have F_L_long_chain : FnP K "_law_long_chain" s_L_long_chain (He.ga K "_law_long_chain") fd_L_long_chain := E_L_long_chain
  have g_L_long_chain := He.glo_ok XH G (c.fact 41 (f := .glo "_law_long_chain") rfl)
  have Q_L_long_chain : Fn P w K mg base CX0 1 "_law_long_chain" ["_law_many"] spLong := mkFn F_L_long_chain g_L_long_chain (FunD.bindsN (ps := ["_law_many"]) F_L_long_chain fun _ _ _ _ _ _ us hl => match us, hl with | [_], _ => rfl) (ok_L_long F_L_long_chain T)
  obtain ⟨fd_L_asked, E_L_asked⟩ := c.def_ 30 (d := d_L_asked) rfl
  have F_L_asked : FnP K "_law_asked" s_L_asked (He.ga K "_law_asked") fd_L_asked := E_L_asked
  have g_L_asked := He.glo_ok XH G (c.fact 42 (f := .glo "_law_asked") rfl)
  have Q_L_asked : Fn P w K mg base CX0 22 "_law_asked" ["_law_many", "_law_k", "_law_rule"] spAsk := mkFn F_L_asked g_L_asked (FunD.bindsN (ps := ["_law_many", "_law_k", "_law_rule"]) F_L_asked fun _ _ _ _ _ _ us hl => match us, hl with | [_, _, _], _ => rfl) (ok_L_asked F_L_asked T X Q_L_long_chain Q_fewest_by_make)
  exact ok_law F T Q_L_digits Q_L_draw Q_L_history Q_L_breaks Q_L_skips Q_L_classes Q_L_told Q_L_asked Q_fewest_by_make
end K26
open PySem PySem.W PySem.Calls PyProof.Rows
theorem PySem.Challenge.cw_firstbreak_k26_fewest_by_all_tests_holds : PySem.Challenge.rw_firstbreak_k26_fewest_by_all_tests.Holds := by
  w_on; o_law
  refine HandSHeadRun.head_any (r := OpenLaw.row PySem.Challenge.rw_firstbreak_k26_fewest_by_all_tests) (q := view (OpenLaw.row PySem.Challenge.rw_firstbreak_k26_fewest_by_all_tests).prog [41]) (H := K26.hk) (ob := K26.ob) (M := 4000) (loose := K26.loose) (d := HandSHeadRun.topDef (OpenLaw.row PySem.Challenge.rw_firstbreak_k26_fewest_by_all_tests).prog 41) (kwd := []) K26.ob_eq
    (by kernel_rfl) (fun s => by kernel_rfl) K26.run (by kernel_rfl) (by kernel_rfl) (by kernel_rfl) (by rfl) (by first | assumption | decide +kernel) (by decide +kernel) ⟨rfl, rfl, rfl, rfl, rfl, by decide +kernel⟩ ?hw ?hc
  case hw => w_witness2
  case hc =>
    refine L2.walk_ofE (l := PySem.Challenge.rw_firstbreak_k26_fewest_by_all_tests) (n := 63) (k := 23) (x := "_law_script") (CX := L2.CX0) rfl (by decide) (by kernel_rfl) ⟨rfl, by decide, by decide⟩ ?F (fun _ _ _ _ z => z)
    intro w mg fa h Y G hmg0
    obtain ⟨K, KX, c⟩ := Y
    have hmg : mg ("law" : PySem.Str) = some (.ref fa) := by
      have e : (HandSHeadRun.topDef (OpenLaw.row PySem.Challenge.rw_firstbreak_k26_fewest_by_all_tests).prog 41).name = ("law" : PySem.Str) := by kernel_rfl
      rw [← e]
      exact hmg0
    obtain ⟨fd, hb, hF⟩ := K26.facts (P := (PySem.Challenge.rw_firstbreak_k26_fewest_by_all_tests).prog) (w := w) KX G hmg c
    exact ⟨K, fd, K26.spLaw K, KX, hb, fun H a ns hl _ hS => ⟨a, ns, rfl, hS, fun _ => rfl⟩, hF⟩
