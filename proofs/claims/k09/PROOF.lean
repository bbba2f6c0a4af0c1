import PyProof.Rows.All
import Wide.All
import OpenK.AllK
import Wide.FinOn
import HandS.ForMost
import HandS.AnyAll
import HandS.GenList
import KE.GoesNew
import KE.KTupSum
import HandS.Strs
import HandS.SetFor
import PySem.Challenge.RW_damworks_k09_whole_best_plans
import HandS.ForExc
import HandS.Flow
import HandS.Gcd
import HandS.IsInst
import HandS.Style
import HandS.TupAny
import HandS.TupSets
import HandS.Defaults
import HandS.Evl
import HandS.ExcIs
import HandS.Lambda
import HandS.Head0
import HandS.Head1
import HandS.Head2
import HandS.Head3
import HandS.HeadEnd
import HandS.HeadHook1
import HandS.HeadHook2
import HandS.HeadHook3
import HandS.HeadHook4
import HandS.HeadWalk
set_option Elab.async false
set_option linter.all false
set_option maxRecDepth 100000
set_option maxHeartbeats 0
section
/-! The mathematics of best plans, in plain Lean: no program in sight. Months 0 .. n-1; a: inflows, g: what is given, h: levels. -/
namespace Dam

/-- Python's min and max of two -/
def pmin (i j : Int) : Int := if j < i then j else i
def pmax (i j : Int) : Int := if j > i then j else i
theorem pmin_le_left (i j : Int) : pmin i j ≤ i := by unfold pmin; split <;> omega
theorem pmin_le_right (i j : Int) : pmin i j ≤ j := by unfold pmin; split <;> omega
theorem pmin_eq (i j : Int) : pmin i j = i ∨ pmin i j = j := by unfold pmin; split <;> simp
theorem pmax_ge_left (i j : Int) : i ≤ pmax i j := by unfold pmax; split <;> omega
theorem pmax_ge_right (i j : Int) : j ≤ pmax i j := by unfold pmax; split <;> omega
theorem pmax_eq (i j : Int) : pmax i j = i ∨ pmax i j = j := by unfold pmax; split <;> simp

/-- sums of the first k -/
def P (x : Nat → Int) : Nat → Int
  | 0 => 0
  | k + 1 => P x k + x k
theorem P_mono {x : Nat → Int} (hx : ∀ k, 0 ≤ x k) {i j : Nat} (h : i ≤ j) : P x i ≤ P x j := by
  induction h with
  | refl => exact Int.le_refl _
  | step _ ih => have := hx (by assumption); simp only [P]; rename_i m _; have := hx m; omega
theorem P_congr {x y : Nat → Int} {k : Nat} (h : ∀ i, i < k → x i = y i) : P x k = P y k := by
  induction k with
  | zero => rfl
  | succ k ih => simp only [P]; rw [ih (fun i hi => h i (by omega)), h k (by omega)]

structure In where
  n : Nat
  C : Int
  s : Int
  e : Int
  a : Nat → Int
structure In.Ok (I : In) : Prop where
  n : 1 ≤ I.n
  s0 : 0 ≤ I.s
  sC : I.s ≤ I.C
  e0 : 0 ≤ I.e
  eC : I.e ≤ I.C
  a0 : ∀ k, 0 ≤ I.a k

/-- what can be held ahead of month f at most -/
def In.top (I : In) (f : Nat) : Int := if f = 0 then I.s else I.C
def In.fin (I : In) (l : Nat) : Int := if l + 1 = I.n then I.e else 0
/-- the program's water_of -/
def In.water (I : In) (f l : Nat) : Int := I.top f + (P I.a (l + 1) - P I.a f) - I.fin l
/-- months f .. l of g -/
def S (g : Nat → Int) (f l : Nat) : Int := P g (l + 1) - P g f
def In.gap (I : In) (g : Nat → Int) (f l : Nat) : Int := I.water f l - S g f l
def spans (n : Nat) : List (Nat × Nat) := (List.range n).flatMap fun f => (List.range (n - f)).map fun j => (f, f + j)
theorem mem_spans {n f l : Nat} : (f, l) ∈ spans n ↔ f ≤ l ∧ l < n := by
  unfold spans
  simp only [List.mem_flatMap, List.mem_range, List.mem_map, Prod.mk.injEq]
  constructor
  · rintro ⟨f', h1, j, h2, rfl, rfl⟩; omega
  · rintro ⟨h1, h2⟩; exact ⟨f, by omega, l - f, by omega, rfl, by omega⟩
/-- the rooms of the spans about month m -/
def In.gaps (I : In) (g : Nat → Int) (m : Nat) : List Int := ((spans I.n).filter fun p => decide (p.1 ≤ m) && decide (m ≤ p.2)).map fun p => I.gap g p.1 p.2
/-- the least of a list -/
def least : List Int → Int
  | [] => 0
  | [x] => x
  | x :: y :: r => pmin x (least (y :: r))
theorem least_le : ∀ (l : List Int) (x : Int), x ∈ l → least l ≤ x
  | [], x, h => by simp at h
  | [y], x, h => by simp at h; subst h; exact Int.le_refl _
  | y :: z :: r, x, h => by
    rcases List.mem_cons.mp h with h | h
    · subst h; exact pmin_le_left _ _
    · exact Int.le_trans (pmin_le_right _ _) (least_le (z :: r) x h)
theorem least_mem : ∀ (l : List Int), l ≠ [] → least l ∈ l
  | [], h => absurd rfl h
  | [y], _ => by simp [least]
  | y :: z :: r, _ => by
    have ih := least_mem (z :: r) (by simp)
    show pmin y (least (z :: r)) ∈ _
    rcases pmin_eq y (least (z :: r)) with e | e
    · rw [e]; simp
    · rw [e]; exact List.mem_cons_of_mem _ ih
theorem least_uniq {l : List Int} {m : Int} (h1 : m ∈ l) (h2 : ∀ y ∈ l, m ≤ y) : m = least l := by
  have h3 := least_le l m h1
  have h4 := h2 _ (least_mem l (by intro e; rw [e] at h1; simp at h1))
  omega
def In.room (I : In) (g : Nat → Int) (m : Nat) : Int := least (I.gaps g m)
theorem mem_gaps {I : In} {g : Nat → Int} {m : Nat} {x : Int} : x ∈ I.gaps g m ↔ ∃ f l, f ≤ m ∧ m ≤ l ∧ l < I.n ∧ x = I.gap g f l := by
  unfold In.gaps
  simp only [List.mem_map, List.mem_filter, Bool.and_eq_true, decide_eq_true_eq, Prod.exists]
  constructor
  · rintro ⟨f, l, ⟨h1, h2, h3⟩, rfl⟩
    exact ⟨f, l, h2, h3, (mem_spans.mp h1).2, rfl⟩
  · rintro ⟨f, l, h1, h2, h3, rfl⟩
    exact ⟨f, l, ⟨mem_spans.mpr ⟨by omega, h3⟩, h1, h2⟩, rfl⟩
theorem room_le {I : In} {g : Nat → Int} {m f l : Nat} (h1 : f ≤ m) (h2 : m ≤ l) (h3 : l < I.n) : I.room g m ≤ I.gap g f l := least_le _ _ (mem_gaps.mpr ⟨f, l, h1, h2, h3, rfl⟩)
theorem room_at {I : In} {g : Nat → Int} {m : Nat} (h : m < I.n) : ∃ f l, f ≤ m ∧ m ≤ l ∧ l < I.n ∧ I.room g m = I.gap g f l := by
  have h1 : I.gaps g m ≠ [] := fun e => by
    have : I.gap g m m ∈ I.gaps g m := mem_gaps.mpr ⟨m, m, by omega, by omega, h, rfl⟩
    rw [e] at this; simp at this
  exact mem_gaps.mp (least_mem _ h1)

/-- a piece: price, month, amount -/
abbrev Tr := Int × Nat × Int
def setAt (g : Nat → Int) (m : Nat) (v : Int) : Nat → Int := fun k => if k = m then v else g k
def In.step (I : In) (g : Nat → Int) (t : Tr) : Nat → Int := setAt g t.2.1 (g t.2.1 + pmin t.2.2 (I.room g t.2.1))
def In.greedy (I : In) (g : Nat → Int) (L : List Tr) : Nat → Int := L.foldl I.step g

theorem P_setAt (g : Nat → Int) (m : Nat) (v : Int) (k : Nat) : P (setAt g m v) k = P g k + (if m < k then v - g m else 0) := by
  induction k with
  | zero => simp [P]
  | succ k ih =>
    simp only [P, ih, setAt]
    by_cases h : k = m
    · subst h; simp; omega
    · simp only [h, if_false]
      by_cases h2 : m < k
      · rw [if_pos h2, if_pos (by omega)]; omega
      · rw [if_neg h2, if_neg (by omega)]; omega
theorem S_setAt_in {g : Nat → Int} {m : Nat} {v : Int} {f l : Nat} (h1 : f ≤ m) (h2 : m ≤ l) : S (setAt g m v) f l = S g f l + (v - g m) := by
  unfold S; rw [P_setAt, P_setAt, if_pos (by omega), if_neg (by omega)]; omega
theorem S_setAt_out {g : Nat → Int} {m : Nat} {v : Int} {f l : Nat} (h0 : f ≤ l) (h1 : ¬ (f ≤ m ∧ m ≤ l)) : S (setAt g m v) f l = S g f l := by
  unfold S; rw [P_setAt, P_setAt]
  by_cases h : m < f
  · rw [if_pos (by omega), if_pos h]; omega
  · rw [if_neg (by omega), if_neg h]; omega

/-- the amounts of month k among pieces whose price is one of p -/
def amt (p : Int → Bool) (k : Nat) : List Tr → Int
  | [] => 0
  | t :: r => (if t.2.1 = k ∧ p t.1 = true then t.2.2 else 0) + amt p k r
theorem amt_append (p : Int → Bool) (k : Nat) : ∀ L M : List Tr, amt p k (L ++ M) = amt p k L + amt p k M
  | [], M => by simp [amt]
  | t :: L, M => by simp only [List.cons_append, amt, amt_append p k L M]; omega
theorem amt_nonneg {p : Int → Bool} {k : Nat} : ∀ {L : List Tr}, (∀ t ∈ L, 0 ≤ t.2.2) → 0 ≤ amt p k L
  | [], _ => Int.le_refl _
  | t :: L, h => by
    have h1 := amt_nonneg (p := p) (k := k) (L := L) fun u hu => h u (List.mem_cons_of_mem _ hu)
    have h2 := h t List.mem_cons_self
    simp only [amt]; split <;> omega
theorem amt_mono {p q : Int → Bool} {k : Nat} : ∀ {L : List Tr}, (∀ t ∈ L, 0 ≤ t.2.2) → (∀ t ∈ L, p t.1 = true → q t.1 = true) → amt p k L ≤ amt q k L
  | [], _, _ => Int.le_refl _
  | t :: L, h, hq => by
    have h1 := amt_mono (p := p) (q := q) (k := k) (L := L) (fun u hu => h u (List.mem_cons_of_mem _ hu)) fun u hu => hq u (List.mem_cons_of_mem _ hu)
    have h2 := h t List.mem_cons_self
    have h3 := hq t List.mem_cons_self
    simp only [amt]
    by_cases e : t.2.1 = k ∧ p t.1 = true
    · rw [if_pos e, if_pos ⟨e.1, h3 e.2⟩]; omega
    · rw [if_neg e]; split <;> omega
theorem amt_perm {p : Int → Bool} {k : Nat} {L M : List Tr} (h : L.Perm M) : amt p k L = amt p k M := by
  induction h with
  | nil => rfl
  | cons _ _ ih => simp only [amt, ih]
  | swap => simp only [amt]; omega
  | trans _ _ a b => rw [a, b]
def geP (v : Int) : Int → Bool := fun w => decide (v ≤ w)
def gtP (v : Int) : Int → Bool := fun w => decide (v < w)
def allP : Int → Bool := fun _ => true

/-- a tight span about j that stopped month j at the price v -/
structure Tight (I : In) (L : List Tr) (g : Nat → Int) (j : Nat) (v : Int) (f l : Nat) : Prop where
  fj : f ≤ j
  jl : j ≤ l
  ln : l < I.n
  tight : I.gap g f l = 0
  below : ∀ k, f ≤ k → k ≤ l → g k ≤ amt (geP v) k L
  lo : amt (gtP v) j L ≤ g j
  hi : g j < amt (geP v) j L

/-- behind the pieces Lp of L -/
structure GI (I : In) (L Lp : List Tr) (g : Nat → Int) : Prop where
  room : ∀ f l, f ≤ l → l < I.n → 0 ≤ I.gap g f l
  g0 : ∀ k, 0 ≤ g k
  up : ∀ k, g k ≤ amt allP k Lp
  stop : ∀ j, j < I.n → g j = amt allP j Lp ∨ ∃ v f l, Tight I L g j v f l

theorem GI.next {I : In} {L Lp Lr : List Tr} {g : Nat → Int} {t : Tr} (hL : L = Lp ++ t :: Lr) (pos : ∀ t ∈ L, 1 ≤ t.2.2) (mon : ∀ t ∈ L, t.2.1 < I.n)
    (hd : ∀ u ∈ Lp, t.1 ≤ u.1) (hd2 : ∀ u ∈ Lr, u.1 ≤ t.1) (G : GI I L Lp g) : GI I L (Lp ++ [t]) (I.step g t) := by
  obtain ⟨w, m, A⟩ := t
  have tm : (w, m, A) ∈ L := by rw [hL]; simp
  have hm : m < I.n := mon _ tm
  have hA : 1 ≤ A := pos _ tm
  have nn : ∀ t ∈ L, 0 ≤ t.2.2 := fun t ht => by have := pos t ht; omega
  have r0 : 0 ≤ I.room g m := by
    obtain ⟨f, l, h1, h2, h3, h4⟩ := room_at (g := g) hm
    rw [h4]; exact G.room f l (by omega) h3
  generalize hx : pmin A (I.room g m) = x
  have x0 : 0 ≤ x := by rw [← hx]; unfold pmin; split <;> omega
  have xA : x ≤ A := by rw [← hx]; exact pmin_le_left _ _
  have xr : x ≤ I.room g m := by rw [← hx]; exact pmin_le_right _ _
  have est : I.step g (w, m, A) = setAt g m (g m + x) := by show setAt g m (g m + pmin A (I.room g m)) = _; rw [hx]
  rw [est]
  have gapin : ∀ f l, f ≤ m → m ≤ l → I.gap (setAt g m (g m + x)) f l = I.gap g f l - x := fun f l h1 h2 => by
    unfold In.gap; rw [S_setAt_in h1 h2]; omega
  have gapout : ∀ f l, f ≤ l → ¬ (f ≤ m ∧ m ≤ l) → I.gap (setAt g m (g m + x)) f l = I.gap g f l := fun f l h0 h1 => by
    unfold In.gap; rw [S_setAt_out h0 h1]
  have amtS : ∀ k, amt allP k (Lp ++ [(w, m, A)]) = amt allP k Lp + (if k = m then A else 0) := fun k => by
    rw [amt_append]
    simp only [amt, allP]
    by_cases e : m = k
    · subst e; simp
    · rw [if_neg (by intro z; exact e z.1), if_neg (fun z => e z.symm)]; omega
  have atk : ∀ k, k ≠ m → setAt g m (g m + x) k = g k := fun k hk => if_neg hk
  have atm : setAt g m (g m + x) m = g m + x := if_pos rfl
  -- a span that was tight stays so
  have keepT : ∀ j v f l, (j = m → x = 0) → Tight I L g j v f l → Tight I L (setAt g m (g m + x)) j v f l := fun j v f l hj T => by
    by_cases hin : f ≤ m ∧ m ≤ l
    · have z : x = 0 := by
        have := room_le (I := I) (g := g) hin.1 hin.2 T.ln
        rw [T.tight] at this; omega
      have es : setAt g m (g m + x) = g := by funext k; unfold setAt; split <;> rename_i e <;> first | (subst e; omega) | rfl
      rw [es]; exact T
    · have hjm : j ≠ m := fun z => hin ⟨by rw [← z]; exact T.fj, by rw [← z]; exact T.jl⟩
      refine ⟨T.fj, T.jl, T.ln, ?_, fun k h1 h2 => ?_, ?_, ?_⟩
      · rw [gapout f l (by have := T.fj; have := T.jl; omega) hin]; exact T.tight
      · rw [atk k fun z => hin ⟨by rw [← z]; exact h1, by rw [← z]; exact h2⟩]; exact T.below k h1 h2
      · rw [atk j hjm]; exact T.lo
      · rw [atk j hjm]; exact T.hi
  refine ⟨fun f l h1 h2 => ?_, fun k => ?_, fun k => ?_, fun j hj => ?_⟩
  · by_cases hin : f ≤ m ∧ m ≤ l
    · rw [gapin f l hin.1 hin.2]
      have := room_le (I := I) (g := g) hin.1 hin.2 h2
      omega
    · rw [gapout f l h1 hin]; exact G.room f l h1 h2
  · by_cases e : k = m
    · subst e; rw [atm]; have := G.g0 k; omega
    · rw [atk k e]; exact G.g0 k
  · rw [amtS]
    have h := G.up k
    by_cases e : k = m
    · subst e; rw [atm, if_pos rfl]; omega
    · rw [atk k e, if_neg e]; omega
  · rw [amtS]
    by_cases e : j = m
    · subst e
      rw [atm, if_pos rfl]
      rcases G.stop j hj with h | ⟨v, f, l, T⟩
      · by_cases hxA : x = A
        · left; omega
        · right
          have hxr : x = I.room g j := by
            rcases pmin_eq A (I.room g j) with z | z
            · rw [hx] at z; exact absurd z hxA
            · rw [hx] at z; exact z
          obtain ⟨f, l, h1, h2, h3, h4⟩ := room_at (g := g) hm
          -- what is processed has prices from w on
          have cover : ∀ k, amt allP k (Lp ++ [(w, j, A)]) ≤ amt (geP w) k L := fun k => by
            have e1 : L = (Lp ++ [(w, j, A)]) ++ Lr := by rw [hL]; simp
            have e2 : amt allP k (Lp ++ [(w, j, A)]) ≤ amt (geP w) k (Lp ++ [(w, j, A)]) := by
              refine amt_mono (fun t ht => nn t (by rw [e1]; exact List.mem_append_left _ ht)) fun t ht _ => ?_
              rcases List.mem_append.mp ht with z | z
              · exact decide_eq_true (hd t z)
              · rw [List.mem_singleton.mp z]; exact decide_eq_true (Int.le_refl _)
            have e3 : 0 ≤ amt (geP w) k Lr := amt_nonneg fun t ht => nn t (by rw [e1]; exact List.mem_append_right _ ht)
            have e4 := amt_append (geP w) k (Lp ++ [(w, j, A)]) Lr
            rw [e1, e4]; omega
          refine ⟨w, f, l, h1, h2, h3, ?_, fun k k1 k2 => ?_, ?_, ?_⟩
          · rw [gapin f l h1 h2, ← h4, hxr]; omega
          · have h6 := cover k
            rw [amtS] at h6
            by_cases e : k = j
            · subst e; rw [atm]; rw [if_pos rfl] at h6; omega
            · rw [atk k e]; rw [if_neg e] at h6; have := G.up k; omega
          · -- the pieces dearer than w are all processed
            have e1 : amt (gtP w) j L = amt (gtP w) j Lp + amt (gtP w) j ((w, j, A) :: Lr) := by rw [hL, amt_append]
            have e2 : amt (gtP w) j ((w, j, A) :: Lr) = 0 := by
              have : ∀ M : List Tr, (∀ u ∈ M, u.1 ≤ w) → amt (gtP w) j M = 0 := by
                intro M
                induction M with
                | nil => intro _; rfl
                | cons u M ih =>
                  intro h
                  have hu := h u List.mem_cons_self
                  simp only [amt]
                  rw [ih fun z hz => h z (List.mem_cons_of_mem _ hz), if_neg (fun z => by
                    have := of_decide_eq_true z.2
                    omega)]; omega
              refine this _ fun u hu => ?_
              rcases List.mem_cons.mp hu with z | z
              · rw [z]; exact Int.le_refl _
              · exact hd2 u z
            have e3 : amt (gtP w) j Lp ≤ amt allP j Lp := amt_mono (fun t ht => nn t (by rw [hL]; exact List.mem_append_left _ ht)) fun _ _ _ => rfl
            rw [atm, e1, e2]; omega
          · have h6 := cover j
            rw [amtS, if_pos rfl] at h6
            rw [atm]; omega
      · right
        have z : x = 0 := by
          have := room_le (I := I) (g := g) T.fj T.jl T.ln
          rw [T.tight] at this; omega
        have T2 := keepT j v f l (fun _ => z) T
        exact ⟨v, f, l, T2⟩
    · rw [if_neg e, atk j e]
      rcases G.stop j hj with h | ⟨v, f, l, T⟩
      · left; omega
      · right; exact ⟨v, f, l, keepT j v f l (fun z => absurd z e) T⟩

theorem GI.all {I : In} {L : List Tr} (pos : ∀ t ∈ L, 1 ≤ t.2.2) (mon : ∀ t ∈ L, t.2.1 < I.n) (srt : L.Pairwise fun t u => u.1 ≤ t.1) :
    ∀ (Lr Lp : List Tr) (g : Nat → Int), L = Lp ++ Lr → GI I L Lp g → GI I L L (I.greedy g Lr) := by
  intro Lr
  induction Lr with
  | nil => intro Lp g h G; rw [List.append_nil] at h; rw [← h] at G; exact G
  | cons t Lr ih =>
    intro Lp g h G
    rw [h] at srt
    obtain ⟨_, s2, s3⟩ := List.pairwise_append.mp srt
    rw [← h] at srt
    exact ih (Lp ++ [t]) (I.step g t) (by rw [h]; simp) (GI.next h pos mon (fun u hu => s3 u hu t List.mem_cons_self) (fun u hu => (List.pairwise_cons.mp s2).1 u hu) G)
end Dam
end

section
namespace Dam

/-! ### levels -/
/-- what is held ahead of month k when g is given and what is above C is spilled -/
def In.lv (I : In) (g : Nat → Int) : Nat → Int
  | 0 => I.s
  | k + 1 => let x := I.lv g k + I.a k; let gv := pmin (g k) x; x - gv - pmax 0 (x - gv - I.C)
def In.gv (I : In) (g : Nat → Int) (k : Nat) : Int := pmin (g k) (I.lv g k + I.a k)
def In.sp (I : In) (g : Nat → Int) (k : Nat) : Int := pmax 0 (I.lv g k + I.a k - I.gv g k - I.C)
theorem In.lv_succ (I : In) (g : Nat → Int) (k : Nat) : I.lv g (k + 1) = I.lv g k + I.a k - I.gv g k - I.sp g k := rfl
/-- the plan -/
def In.rel (I : In) (g : Nat → Int) (k : Nat) : Int := I.gv g k + I.sp g k

section
variable {I : In} {g : Nat → Int}
theorem lv_le (ok : I.Ok) (k : Nat) : I.lv g k ≤ I.C := by
  cases k with
  | zero => exact ok.sC
  | succ k => rw [In.lv_succ]; have := pmax_ge_right 0 (I.lv g k + I.a k - I.gv g k - I.C); unfold In.sp; omega
theorem top_ge (ok : I.Ok) (k : Nat) : I.lv g k ≤ I.top k := by
  unfold In.top
  split
  · rename_i e; subst e; exact Int.le_refl _
  · exact lv_le ok k

/-- the given demands can be given -/
structure Fits (I : In) (g : Nat → Int) : Prop where
  room : ∀ f l, f ≤ l → l < I.n → 0 ≤ I.gap g f l
  g0 : ∀ k, 0 ≤ g k

theorem lv_at (ok : I.Ok) (F : Fits I g) : ∀ k, k ≤ I.n → (∃ f, f ≤ k ∧ I.lv g k = I.top f + (P I.a k - P I.a f) - (P g k - P g f)) ∧ 0 ≤ I.lv g k ∧ (∀ i, i < k → I.gv g i = g i) := by
  intro k
  induction k with
  | zero => intro _; exact ⟨⟨0, Nat.le_refl _, by simp [In.lv, In.top]⟩, ok.s0, fun i hi => absurd hi (Nat.not_lt_zero _)⟩
  | succ k ih =>
    intro hk
    obtain ⟨⟨f, hf, e⟩, h0, hg⟩ := ih (by omega)
    have hr := F.room f k hf (by omega)
    have he : 0 ≤ I.fin k := by unfold In.fin; split; exact ok.e0; exact Int.le_refl _
    have hx : 0 ≤ I.lv g k + I.a k - g k := by
      unfold In.gap In.water S at hr
      simp only [P] at hr
      omega
    have hgv : I.gv g k = g k := by unfold In.gv pmin; rw [if_neg (by omega)]
    have hC : 0 ≤ I.C := by have := ok.s0; have := ok.sC; omega
    refine ⟨?_, ?_, fun i hi => ?_⟩
    · rw [In.lv_succ, hgv]
      unfold In.sp
      rw [hgv]
      rcases pmax_eq 0 (I.lv g k + I.a k - g k - I.C) with z | z
      · refine ⟨f, by omega, ?_⟩
        rw [z]; simp only [P]; omega
      · refine ⟨k + 1, Nat.le_refl _, ?_⟩
        rw [z]; unfold In.top; rw [if_neg (by omega)]; omega
    · rw [In.lv_succ, hgv]
      unfold In.sp
      rw [hgv]
      rcases pmax_eq 0 (I.lv g k + I.a k - g k - I.C) with z | z <;> rw [z] <;> omega
    · by_cases e2 : i = k
      · subst e2; exact hgv
      · exact hg i (by omega)
theorem gv_eq (ok : I.Ok) (F : Fits I g) {k : Nat} (h : k < I.n) : I.gv g k = g k := (lv_at ok F I.n (Nat.le_refl _)).2.2 k h
theorem lv_nonneg (ok : I.Ok) (F : Fits I g) {k : Nat} (h : k ≤ I.n) : 0 ≤ I.lv g k := (lv_at ok F k h).2.1
theorem lv_end (ok : I.Ok) (F : Fits I g) : I.e ≤ I.lv g I.n := by
  obtain ⟨⟨f, hf, e⟩, _, _⟩ := lv_at ok F I.n (Nat.le_refl _)
  rw [e]
  by_cases h : f = I.n
  · subst h
    unfold In.top
    rw [if_neg (by have := ok.n; omega)]
    have := ok.eC
    omega
  · obtain ⟨m, hm⟩ : ∃ m, I.n = m + 1 := ⟨I.n - 1, by have := ok.n; omega⟩
    have hr := F.room f m (by omega) (by omega)
    unfold In.gap In.water In.fin S at hr
    rw [if_pos hm.symm] at hr
    rw [hm]; omega
theorem sp_nonneg (k : Nat) : 0 ≤ I.sp g k := pmax_ge_left _ _
theorem rel_nonneg (ok : I.Ok) (F : Fits I g) {k : Nat} (h : k < I.n) : 0 ≤ I.rel g k := by
  unfold In.rel; rw [gv_eq ok F h]; have := F.g0 k; have := sp_nonneg (I := I) (g := g) k; omega
theorem lv_rel (k : Nat) : I.lv g (k + 1) = I.lv g k + I.a k - I.rel g k := by rw [In.lv_succ]; unfold In.rel; omega
/-- what is spilled leaves a full dam -/
theorem sp_full (k : Nat) (h : 0 < I.sp g k) : I.lv g (k + 1) = I.C := by
  rw [In.lv_succ]
  unfold In.sp at h ⊢
  rcases pmax_eq 0 (I.lv g k + I.a k - I.gv g k - I.C) with z | z
  · rw [z] at h; omega
  · rw [z]; omega
theorem lv_sum (ok : I.Ok) (F : Fits I g) {f : Nat} : ∀ l, f ≤ l → l ≤ I.n → I.lv g l = I.lv g f + (P I.a l - P I.a f) - (P g l - P g f) - (P (I.sp g) l - P (I.sp g) f) := by
  intro l h
  induction h with
  | refl => intro _; omega
  | @step m hm ih =>
    intro hl
    have hl' : m + 1 ≤ I.n := hl
    have e := ih (by omega)
    rw [In.lv_succ, gv_eq ok F (show m < I.n by omega)]
    simp only [P]
    omega

/-- what a tight span says of the levels -/
theorem tight_says (ok : I.Ok) (F : Fits I g) {f l : Nat} (hfl : f ≤ l) (hl : l < I.n) (ht : I.gap g f l = 0) :
    I.lv g f = I.top f ∧ I.lv g (l + 1) = I.fin l ∧ ∀ k, f ≤ k → k ≤ l → I.sp g k = 0 := by
  have e := lv_sum ok F (f := f) (l + 1) (by omega) (by omega)
  have h1 := top_ge (g := g) ok f
  have hs : 0 ≤ P (I.sp g) (l + 1) - P (I.sp g) f := by
    have := P_mono (x := I.sp g) (fun k => sp_nonneg k) (show f ≤ l + 1 by omega); omega
  have h2 : I.fin l ≤ I.lv g (l + 1) := by
    unfold In.fin
    split
    · rename_i z; rw [z]; exact lv_end ok F
    · exact lv_nonneg ok F (by omega)
  unfold In.gap In.water S at ht
  have hs0 : P (I.sp g) (l + 1) - P (I.sp g) f = 0 := by omega
  refine ⟨by omega, by omega, fun k k1 k2 => ?_⟩
  have a1 := P_mono (x := I.sp g) (fun k => sp_nonneg k) k1
  have a2 := P_mono (x := I.sp g) (fun k => sp_nonneg k) (show k + 1 ≤ l + 1 by omega)
  have a3 := sp_nonneg (I := I) (g := g) k
  have e2 : P (I.sp g) (k + 1) = P (I.sp g) k + I.sp g k := rfl
  omega
end

/-! ### the worth of a month -/
abbrev Pc := Int × Int
/-- what a release is worth -/
def worth : List Pc → Int → Int
  | [], _ => 0
  | (A, w) :: r, x => let sh := if x < A then x else A; sh * w + worth r (x - sh)
/-- amounts whose price is one of q -/
def cap (q : Int → Bool) : List Pc → Int
  | [] => 0
  | (A, w) :: r => (if q w = true then A else 0) + cap q r
/-- amounts times what the prices are more than p -/
def over (p : Int) : List Pc → Int
  | [] => 0
  | (A, w) :: r => A * pmax 0 (w - p) + over p r
structure Pieces (ps : List Pc) : Prop where
  pos : ∀ x ∈ ps, 1 ≤ x.1 ∧ 1 ≤ x.2
  desc : ps.Pairwise fun x y => y.2 < x.2
theorem Pieces.tail {x : Pc} {r : List Pc} (h : Pieces (x :: r)) : Pieces r := ⟨fun y hy => h.pos y (List.mem_cons_of_mem _ hy), (List.pairwise_cons.mp h.desc).2⟩
theorem cap_zero {q : Int → Bool} : ∀ {ps : List Pc}, (∀ x ∈ ps, q x.2 = false) → cap q ps = 0
  | [], _ => rfl
  | (A, w) :: r, h => by
    have h1 := h (A, w) List.mem_cons_self
    have h1' : q w = false := h1
    simp only [cap]
    rw [cap_zero fun x hx => h x (List.mem_cons_of_mem _ hx), h1']
    simp
theorem cap_nonneg {q : Int → Bool} : ∀ {ps : List Pc}, (∀ x ∈ ps, 1 ≤ x.1) → 0 ≤ cap q ps
  | [], _ => Int.le_refl _
  | (A, w) :: r, h => by
    have h1 : 1 ≤ A := h (A, w) List.mem_cons_self
    have h2 := cap_nonneg (q := q) (ps := r) fun x hx => h x (List.mem_cons_of_mem _ hx)
    simp only [cap]; split <;> omega
theorem worth_slack : ∀ (ps : List Pc) (p x : Int), Pieces ps → 0 ≤ p → 0 ≤ x → cap (gtP p) ps ≤ x → (p = 0 ∨ x ≤ cap (geP p) ps) → worth ps x = p * x + over p ps
  | [], p, x, _, hp, hx, _, h2 => by
    simp only [worth, over]
    rcases h2 with h | h
    · subst h; simp
    · have : x = 0 := by simp only [cap] at h; omega
      subst this; simp
  | (A, w) :: r, p, x, hP, hp, hx, h1, h2 => by
    have hA : 1 ≤ A ∧ 1 ≤ w := hP.pos (A, w) List.mem_cons_self
    have hd := (List.pairwise_cons.mp hP.desc).1
    have hr := hP.tail
    have posr : ∀ x ∈ r, 1 ≤ x.1 := fun x hx => (hr.pos x hx).1
    simp only [worth, over]
    by_cases c1 : p < w
    · have e1 : cap (gtP p) ((A, w) :: r) = A + cap (gtP p) r := by simp [cap, gtP, c1]
      have e2 : cap (geP p) ((A, w) :: r) = A + cap (geP p) r := by simp [cap, geP, show p ≤ w by omega]
      have n1 := cap_nonneg (q := gtP p) posr
      rw [e1] at h1
      rw [e2] at h2
      have c2 : ¬ x < A := by omega
      rw [if_neg c2]
      rw [worth_slack r p (x - A) hr hp (by omega) (by omega) (by omega)]
      have e3 : pmax 0 (w - p) = w - p := by unfold pmax; rw [if_pos (by omega)]
      rw [e3]
      grind
    · have z1 : cap (gtP p) r = 0 := cap_zero fun y hy => by have := hd y hy; have e : (A, w).2 = w := rfl; unfold gtP; simp; omega
      have e3 : pmax 0 (w - p) = 0 := by unfold pmax; rw [if_neg (by omega)]
      rw [e3]
      have z2 : cap (geP p) r = 0 := cap_zero fun y hy => by have := hd y hy; have e : (A, w).2 = w := rfl; unfold geP; simp; omega
      by_cases c3 : w = p
      · subst c3
        have e2 : cap (geP w) ((A, w) :: r) = A := by simp only [cap]; rw [z2, show geP w w = true from decide_eq_true (Int.le_refl _)]; simp
        rw [e2] at h2
        have hxA : x ≤ A := by omega
        have hsh : (if x < A then x else A) = x := by split <;> omega
        rw [hsh]
        rw [worth_slack r w (x - x) hr hp (by omega) (by omega) (by omega)]
        grind
      · have e2 : cap (geP p) ((A, w) :: r) = 0 := by simp [cap, geP, show ¬ p ≤ w by omega]; exact z2
        rw [e2] at h2
        have hx0 : x = 0 := by omega
        subst hx0
        rw [if_pos (by omega)]
        rw [worth_slack r p (0 - 0) hr hp (by omega) (by omega) (by omega)]
        grind
/-- the dearest price of a pair that x does not give in full, 0 for none -/
def openP : List Pc → Int → Int → Int
  | [], _, best => best
  | (A, w) :: r, x, best => openP r (pmax 0 (x - A)) (if x < A then pmax best w else best)
theorem openP_best : ∀ (ps : List Pc) (x best : Int), (∀ y ∈ ps, y.2 ≤ best) → openP ps x best = best
  | [], _, _, _ => rfl
  | (A, w) :: r, x, best, h => by
    have hw : w ≤ best := h (A, w) List.mem_cons_self
    have e : (if x < A then pmax best w else best) = best := by split; unfold pmax; rw [if_neg (by omega)]; rfl
    simp only [openP]
    rw [e]
    exact openP_best r _ best fun y hy => h y (List.mem_cons_of_mem _ hy)
/-- the open price o: pairs dearer than o are given in full; o is 0, or what is given does not fill those from o on -/
theorem openP_says : ∀ (ps : List Pc) (x : Int), Pieces ps → 0 ≤ x → 0 ≤ openP ps x 0 ∧ cap (gtP (openP ps x 0)) ps ≤ x ∧ (openP ps x 0 = 0 ∨ x < cap (geP (openP ps x 0)) ps)
  | [], x, _, hx => ⟨Int.le_refl _, hx, .inl rfl⟩
  | (A, w) :: r, x, hP, hx => by
    have hA : 1 ≤ A ∧ 1 ≤ w := hP.pos (A, w) List.mem_cons_self
    have hd := (List.pairwise_cons.mp hP.desc).1
    have hr := hP.tail
    have posr : ∀ x ∈ r, 1 ≤ x.1 := fun x hx => (hr.pos x hx).1
    simp only [openP]
    by_cases c : x < A
    · have e : (if x < A then pmax 0 w else 0) = w := by rw [if_pos c]; unfold pmax; rw [if_pos (by omega)]
      rw [e, openP_best r _ w fun y hy => by have : y.2 < w := hd y hy; omega]
      have z1 : cap (gtP w) ((A, w) :: r) = 0 := cap_zero fun y hy => by
        rcases List.mem_cons.mp hy with rfl | hy
        · simp [gtP]
        · have : y.2 < w := hd y hy; simp [gtP]; omega
      have z2 : cap (geP w) ((A, w) :: r) = A + cap (geP w) r := by simp [cap, geP]
      have n1 := cap_nonneg (q := geP w) posr
      exact ⟨by omega, by omega, .inr (by omega)⟩
    · rw [if_neg c]
      have e : pmax 0 (x - A) = x - A := by unfold pmax; split <;> omega
      rw [e]
      obtain ⟨h1, h2, h3⟩ := openP_says r (x - A) hr (by omega)
      generalize openP r (x - A) 0 = o at h1 h2 h3
      have hw : o < w := by
        rcases h3 with h | h
        · omega
        · by_cases q : o < w
          · exact q
          · have z : cap (geP o) r = 0 := cap_zero fun y hy => by have : y.2 < w := hd y hy; simp [geP]; omega
            omega
      have e1 : cap (gtP o) ((A, w) :: r) = A + cap (gtP o) r := by simp [cap, gtP, hw]
      have e2 : cap (geP o) ((A, w) :: r) = A + cap (geP o) r := by simp [cap, geP, show o ≤ w by omega]
      refine ⟨h1, by omega, ?_⟩
      rcases h3 with h | h
      · exact .inl h
      · exact .inr (by omega)
end Dam
end

section
namespace Dam

/-! ### prices -/
section
variable (I : In) (g : Nat → Int)
def In.up1 (f : Nat → Int) (m : Nat) : Nat → Int := if I.lv g (m + 1) < I.C then setAt f m (pmax (f m) (f (m + 1))) else f
def In.up2 (f : Nat → Int) (m : Nat) : Nat → Int := if I.lv g (m + 1) > 0 then setAt f (m + 1) (pmax (f (m + 1)) (f m)) else f
def In.up (f : Nat → Int) (m : Nat) : Nat → Int := I.up2 g (I.up1 g f m) m
def In.turnTo (f : Nat → Int) (m : Nat) : Nat → Int := (List.range m).foldl (I.up g) f
def In.turn (f : Nat → Int) : Nat → Int := I.turnTo g f (I.n - 1)
def In.turns (f : Nat → Int) (t : Nat) : Nat → Int := Nat.rec f (fun _ h => I.turn g h) t
def RRight (j k : Nat) : Prop := k ≤ j ∧ ∀ i, k ≤ i → i < j → I.lv g (i + 1) < I.C
def RLeft (j k : Nat) : Prop := j ≤ k ∧ ∀ i, j ≤ i → i < k → 0 < I.lv g (i + 1)
def Reach (j k : Nat) : Prop := RRight I g j k ∨ RLeft I g j k
end
section
variable {I : In} {g o f : Nat → Int}
theorem turnTo_succ (m : Nat) : I.turnTo g f (m + 1) = I.up g (I.turnTo g f m) m := by
  unfold In.turnTo; rw [List.range_succ, List.foldl_append]; rfl
theorem Reach.self (k : Nat) : Reach I g k k := .inl ⟨Nat.le_refl _, fun i h1 h2 => by omega⟩
theorem Reach.back {j m : Nat} (h : Reach I g j (m + 1)) (hl : I.lv g (m + 1) < I.C) : Reach I g j m := by
  rcases h with ⟨h1, h2⟩ | ⟨h1, h2⟩
  · refine .inl ⟨by omega, fun i i1 i2 => ?_⟩
    by_cases e : i = m
    · subst e; exact hl
    · exact h2 i (by omega) i2
  · by_cases e : j = m + 1
    · refine .inl ⟨by omega, fun i i1 i2 => ?_⟩
      have : i = m := by omega
      subst this; exact hl
    · exact .inr ⟨by omega, fun i i1 i2 => h2 i i1 (by omega)⟩
theorem Reach.on {j m : Nat} (h : Reach I g j m) (hl : I.lv g (m + 1) > 0) : Reach I g j (m + 1) := by
  rcases h with ⟨h1, h2⟩ | ⟨h1, h2⟩
  · by_cases e : j = m
    · refine .inr ⟨by omega, fun i i1 i2 => ?_⟩
      have : i = m := by omega
      subst this; exact hl
    · exact .inl ⟨by omega, fun i i1 i2 => h2 i (by omega) i2⟩
  · refine .inr ⟨by omega, fun i i1 i2 => ?_⟩
    by_cases e : i = m
    · subst e; exact hl
    · exact h2 i i1 (by omega)
theorem up1_ge (m k : Nat) : f k ≤ I.up1 g f m k := by
  unfold In.up1
  split
  · unfold setAt
    split
    · rename_i e; subst e; exact pmax_ge_left _ _
    · exact Int.le_refl _
  · exact Int.le_refl _
theorem up2_ge (m k : Nat) : f k ≤ I.up2 g f m k := by
  unfold In.up2
  split
  · unfold setAt
    split
    · rename_i e; subst e; exact pmax_ge_left _ _
    · exact Int.le_refl _
  · exact Int.le_refl _
theorem up_ge (m k : Nat) : f k ≤ I.up g f m k := Int.le_trans (up1_ge m k) (up2_ge m k)
theorem turnTo_ge (m k : Nat) : f k ≤ I.turnTo g f m k := by
  induction m with
  | zero => exact Int.le_refl _
  | succ m ih => rw [turnTo_succ]; exact Int.le_trans ih (up_ge m k)
theorem turns_ge (t k : Nat) : f k ≤ I.turns g f t k := by
  induction t with
  | zero => exact Int.le_refl _
  | succ t ih => exact Int.le_trans ih (turnTo_ge _ k)
/-- every price is an open price that can be reached -/
def From (I : In) (g o f : Nat → Int) : Prop := ∀ k, k < I.n → ∃ j, j < I.n ∧ Reach I g j k ∧ f k = o j
theorem From.up1 (h : From I g o f) {m : Nat} (hm : m + 1 < I.n) : From I g o (I.up1 g f m) := by
  unfold In.up1
  split
  · rename_i hl
    intro k hk
    unfold setAt
    split
    · rename_i e; subst e
      rcases pmax_eq (f k) (f (k + 1)) with z | z
      · rw [z]; exact h k hk
      · rw [z]
        obtain ⟨j, j1, j2, j3⟩ := h (k + 1) hm
        exact ⟨j, j1, j2.back hl, j3⟩
    · exact h k hk
  · exact h
theorem From.up2 (h : From I g o f) {m : Nat} (hm : m + 1 < I.n) : From I g o (I.up2 g f m) := by
  unfold In.up2
  split
  · rename_i hl
    intro k hk
    unfold setAt
    split
    · rename_i e; subst e
      rcases pmax_eq (f (m + 1)) (f m) with z | z
      · rw [z]; exact h _ hk
      · rw [z]
        obtain ⟨j, j1, j2, j3⟩ := h m (by omega)
        exact ⟨j, j1, j2.on hl, j3⟩
    · exact h k hk
  · exact h
theorem From.turnTo (h : From I g o f) : ∀ m, m ≤ I.n - 1 → From I g o (I.turnTo g f m)
  | 0, _ => h
  | m + 1, hm => by
    rw [turnTo_succ]
    exact ((From.turnTo h m (by omega)).up1 (by omega)).up2 (by omega)
theorem From.turns (h : From I g o f) : ∀ t, From I g o (I.turns g f t)
  | 0 => h
  | t + 1 => (From.turns h t).turnTo _ (Nat.le_refl _)
theorem From.self : From I g o o := fun k hk => ⟨k, hk, .self k, rfl⟩

/-- leftward reach is through in one turn -/
theorem turnTo_left (h : ∀ k, o k ≤ f k) : ∀ m, ∀ k, k ≤ m → ∀ j, RLeft I g j k → o j ≤ I.turnTo g f m k
  | 0, k, hk, j, hj => by
    have e1 : k = 0 := by omega
    have e2 : j = 0 := by have := hj.1; omega
    subst e1 e2
    exact h 0
  | m + 1, k, hk, j, hj => by
    rw [turnTo_succ]
    by_cases e : k = m + 1
    · subst e
      by_cases e2 : j = m + 1
      · subst e2
        exact Int.le_trans (h _) (Int.le_trans (turnTo_ge m _) (up_ge m _))
      · have ih := turnTo_left h m m (Nat.le_refl _) j ⟨by have := hj.1; omega, fun i i1 i2 => hj.2 i i1 (by omega)⟩
        have hl : I.lv g (m + 1) > 0 := hj.2 m (by have := hj.1; omega) (by omega)
        refine Int.le_trans ih (Int.le_trans (up1_ge (I := I) (g := g) (f := I.turnTo g f m) m m) ?_)
        unfold In.up In.up2
        rw [if_pos hl]
        unfold setAt
        rw [if_pos rfl]
        exact pmax_ge_right _ _
    · exact Int.le_trans (turnTo_left h m k (by omega) j hj) (up_ge m k)
/-- rightward reach: one step more a turn -/
theorem turnTo_right {t : Nat} (h : ∀ k j, j ≤ k + t → RRight I g j k → o j ≤ f k) : ∀ m, ∀ k, k < m → ∀ j, j ≤ k + (t + 1) → RRight I g j k → o j ≤ I.turnTo g f m k
  | 0, k, hk, _, _, _ => absurd hk (Nat.not_lt_zero _)
  | m + 1, k, hk, j, h1, hj => by
    rw [turnTo_succ]
    by_cases e : k = m
    · subst e
      by_cases e2 : j = k
      · subst e2
        exact Int.le_trans (h j j (by omega) hj) (Int.le_trans (turnTo_ge _ _) (up_ge _ _))
      · have hl : I.lv g (k + 1) < I.C := hj.2 k (Nat.le_refl _) (by have := hj.1; omega)
        have h2 := h (k + 1) j (by omega) ⟨by have := hj.1; omega, fun i i1 i2 => hj.2 i (by omega) i2⟩
        refine Int.le_trans (Int.le_trans h2 (turnTo_ge (I := I) (g := g) k (k + 1))) (Int.le_trans ?_ (up2_ge (I := I) (g := g) (f := I.up1 g (I.turnTo g f k) k) k k))
        unfold In.up1
        rw [if_pos hl]
        unfold setAt
        rw [if_pos rfl]
        exact pmax_ge_right _ _
    · exact Int.le_trans (turnTo_right h m k (by omega) j h1 hj) (up_ge m k)
theorem turns_right : ∀ t, ∀ k j, k < I.n → j < I.n → j ≤ k + t → RRight I g j k → o j ≤ I.turns g o t k
  | 0, k, j, _, _, h1, hj => by
    have : j = k := by have := hj.1; omega
    subst this; exact Int.le_refl _
  | t + 1, k, j, hk, hjn, h1, hj => by
    by_cases e : j = k
    · subst e; exact turns_ge _ _
    · -- the statement at t, made total
      have ih := turns_right t
      by_cases e2 : j ≤ k + t
      · exact Int.le_trans (ih k j hk hjn e2 hj) (turnTo_ge _ _)
      · have hj1 := hj.1
        have hl : I.lv g (k + 1) < I.C := hj.2 k (Nat.le_refl _) (by omega)
        have h2 := ih (k + 1) j (by omega) hjn (by omega) ⟨by omega, fun i i1 i2 => hj.2 i (by omega) i2⟩
        have key : ∀ m, k < m → I.turns g o t (k + 1) ≤ I.turnTo g (I.turns g o t) m k := by
          intro m hm
          induction m with
          | zero => omega
          | succ m ihm =>
            rw [turnTo_succ]
            by_cases e3 : k = m
            · subst e3
              refine Int.le_trans (turnTo_ge (I := I) (g := g) k (k + 1)) (Int.le_trans ?_ (up2_ge (I := I) (g := g) (f := I.up1 g (I.turnTo g (I.turns g o t) k) k) k k))
              unfold In.up1
              rw [if_pos hl]
              unfold setAt
              rw [if_pos rfl]
              exact pmax_ge_right _ _
            · exact Int.le_trans (ihm (by omega)) (up_ge m k)
        exact Int.le_trans h2 (key (I.n - 1) (by omega))
theorem turns_left {t : Nat} (ht : 1 ≤ t) {k j : Nat} (hk : k < I.n) (hj : RLeft I g j k) : o j ≤ I.turns g o t k := by
  obtain ⟨u, rfl⟩ : ∃ u, t = u + 1 := ⟨t - 1, by omega⟩
  exact turnTo_left (f := I.turns g o u) (fun k => turns_ge u k) (I.n - 1) k (by omega) j hj

/-- what the prices are -/
structure Prices (I : In) (g o p : Nat → Int) : Prop where
  ge : ∀ k, k < I.n → o k ≤ p k
  from_ : From I g o p
  lo : ∀ k, k + 1 < I.n → I.lv g (k + 1) < I.C → p (k + 1) ≤ p k
  hi : ∀ k, k + 1 < I.n → 0 < I.lv g (k + 1) → p k ≤ p (k + 1)
theorem prices_of : Prices I g o (I.turns g o I.n) := by
  have fr := From.turns (From.self (I := I) (g := g) (o := o)) I.n
  have up : ∀ j k, j < I.n → k < I.n → Reach I g j k → o j ≤ I.turns g o I.n k := fun j k hj hk h => by
    rcases h with h | h
    · exact turns_right I.n k j hk hj (by omega) h
    · exact turns_left (by omega) hk h
  refine ⟨fun k hk => turns_ge _ k, fr, fun k hk hl => ?_, fun k hk hl => ?_⟩
  · obtain ⟨j, j1, j2, j3⟩ := fr (k + 1) hk
    rw [j3]
    exact up j k j1 (by omega) (j2.back hl)
  · obtain ⟨j, j1, j2, j3⟩ := fr k (by omega)
    rw [j3]
    exact up j (k + 1) j1 hk (j2.on hl)
end

/-! ### all together -/
structure Data where
  I : In
  ws : Nat → List Pc
  L : List Tr
structure Data.Ok (D : Data) : Prop where
  i : D.I.Ok
  pcs : ∀ k, k < D.I.n → Pieces (D.ws k)
  amts : ∀ (q : Int → Bool) k, k < D.I.n → amt q k D.L = cap q (D.ws k)
  pos : ∀ t ∈ D.L, 1 ≤ t.2.2
  mon : ∀ t ∈ D.L, t.2.1 < D.I.n
  srt : D.L.Pairwise fun t u => u.1 ≤ t.1
  gaps : ∀ f l, f ≤ l → l < D.I.n → 0 ≤ D.I.water f l
namespace Data
variable (D : Data)
def g : Nat → Int := D.I.greedy (fun _ => 0) D.L
def o (k : Nat) : Int := openP (D.ws k) (D.g k) 0
def p : Nat → Int := D.I.turns D.g D.o D.I.n
def r (k : Nat) : Int := D.I.rel D.g k
/-- the bound's part of the first k months -/
def bnd (p : Nat → Int) : Nat → Int
  | 0 => 0
  | k + 1 => bnd p k + (D.I.a k * p k + over (p k) (D.ws k) + (if k > 0 then D.I.C * pmax 0 (p k - p (k - 1)) else 0))
variable {D}
theorem P_zero (k : Nat) : P (fun _ => 0) k = 0 := by
  induction k with
  | zero => rfl
  | succ k ih => simp only [P, ih]; rfl
theorem start_gi (ok : D.Ok) : GI D.I D.L [] (fun _ => 0) := by
  refine ⟨fun f l h1 h2 => ?_, fun _ => Int.le_refl _, fun k => Int.le_refl _, fun j _ => .inl rfl⟩
  have := ok.gaps f l h1 h2
  unfold In.gap S
  rw [P_zero, P_zero]; omega
theorem end_gi (ok : D.Ok) : GI D.I D.L D.L D.g := GI.all ok.pos ok.mon ok.srt D.L [] _ rfl (start_gi ok)
theorem fits (ok : D.Ok) : Fits D.I D.g := ⟨(end_gi ok).room, (end_gi ok).g0⟩
theorem o_nonneg (ok : D.Ok) {k : Nat} (h : k < D.I.n) : 0 ≤ D.o k := (openP_says _ _ (ok.pcs k h) ((end_gi ok).g0 k)).1
/-- months with an open price lie in a tight span, where only what is as dear is given -/
theorem stopped (ok : D.Ok) {j : Nat} (hj : j < D.I.n) (h : 0 < D.o j) :
    ∃ f l, f ≤ j ∧ j ≤ l ∧ l < D.I.n ∧ D.I.gap D.g f l = 0 ∧ ∀ k, f ≤ k → k ≤ l → D.g k ≤ cap (geP (D.o j)) (D.ws k) := by
  have G := end_gi ok
  have pos1 : ∀ x ∈ D.ws j, 1 ≤ x.1 := fun x hx => ((ok.pcs j hj).pos x hx).1
  obtain ⟨_, s2, s3⟩ := openP_says _ _ (ok.pcs j hj) (G.g0 j)
  have s2' : cap (gtP (D.o j)) (D.ws j) ≤ D.g j := s2
  have s3' : D.g j < cap (geP (D.o j)) (D.ws j) := by
    rcases s3 with z | z
    · have : D.o j = 0 := z
      omega
    · exact z
  have mono : ∀ {q q' : Int → Bool} (ps : List Pc), (∀ x ∈ ps, 1 ≤ x.1) → (∀ w, q w = true → q' w = true) → cap q ps ≤ cap q' ps := by
    intro q q' ps
    induction ps with
    | nil => intro _ _; exact Int.le_refl _
    | cons x r ih =>
      intro hp hq
      obtain ⟨A, w⟩ := x
      have hA : 1 ≤ A := hp (A, w) List.mem_cons_self
      have h1 := ih (fun y hy => hp y (List.mem_cons_of_mem _ hy)) hq
      simp only [cap]
      by_cases e : q w = true
      · rw [if_pos e, if_pos (hq w e)]; omega
      · rw [if_neg e]; split <;> omega
  rcases G.stop j hj with e | ⟨v, f, l, T⟩
  · rw [ok.amts _ j hj] at e
    have := mono (q := geP (D.o j)) (q' := allP) (D.ws j) pos1 (fun _ _ => rfl)
    omega
  · have lo := T.lo
    have hi := T.hi
    rw [ok.amts _ j hj] at lo hi
    have ev : v = D.o j := by
      rcases Int.lt_trichotomy v (D.o j) with h | h | h
      · have := mono (q := geP (D.o j)) (q' := gtP v) (D.ws j) pos1 fun w hw => decide_eq_true (by have := of_decide_eq_true hw; omega)
        omega
      · exact h
      · have := mono (q := geP v) (q' := gtP (D.o j)) (D.ws j) pos1 fun w hw => decide_eq_true (by have := of_decide_eq_true hw; omega)
        omega
    subst ev
    refine ⟨f, l, T.fj, T.jl, T.ln, T.tight, fun k k1 k2 => ?_⟩
    have hk : k < D.I.n := Nat.lt_of_le_of_lt k2 T.ln
    rw [← ok.amts _ k hk]
    exact T.below k k1 k2
theorem p_says (D : Data) : Prices D.I D.g D.o D.p := prices_of
theorem p_nonneg (ok : D.Ok) {k : Nat} (h : k < D.I.n) : 0 ≤ D.p k := Int.le_trans (o_nonneg ok h) ((p_says D).ge k h)
/-- a month whose price is positive: it stands in the span of its source -/
theorem placed (ok : D.Ok) {k : Nat} (hk : k < D.I.n) (hp : 0 < D.p k) :
    ∃ f l, f ≤ k ∧ k ≤ l ∧ l < D.I.n ∧ D.I.gap D.g f l = 0 ∧ D.g k ≤ cap (geP (D.p k)) (D.ws k) := by
  obtain ⟨j, j1, j2, j3⟩ := (p_says D).from_ k hk
  rw [j3] at hp ⊢
  obtain ⟨f, l, f1, f2, f3, f4, f5⟩ := stopped ok j1 hp
  obtain ⟨t1, t2, _⟩ := tight_says ok.i (fits ok) (by omega) f3 f4
  have hfk : f ≤ k := by
    rcases j2 with ⟨h1, h2⟩ | ⟨h1, h2⟩
    · by_cases q : f ≤ k
      · exact q
      · obtain ⟨m, rfl⟩ : ∃ m, f = m + 1 := ⟨f - 1, by omega⟩
        have := h2 m (by omega) (by omega)
        rw [t1] at this
        unfold In.top at this
        rw [if_neg (by omega)] at this
        omega
    · omega
  have hkl : k ≤ l := by
    rcases j2 with ⟨h1, h2⟩ | ⟨h1, h2⟩
    · omega
    · by_cases q : k ≤ l
      · exact q
      · have := h2 l f2 (by omega)
        rw [t2] at this
        unfold In.fin at this
        rw [if_neg (by omega)] at this
        omega
  exact ⟨f, l, hfk, hkl, f3, f4, f5 k hfk hkl⟩
theorem month (ok : D.Ok) {k : Nat} (hk : k < D.I.n) : worth (D.ws k) (D.r k) = D.p k * D.r k + over (D.p k) (D.ws k) := by
  have F := fits ok
  have hr : 0 ≤ D.r k := rel_nonneg ok.i F hk
  have hp := p_nonneg ok hk
  have er : D.r k = D.g k + D.I.sp D.g k := by unfold Data.r In.rel; rw [gv_eq ok.i F hk]
  have hs := sp_nonneg (I := D.I) (g := D.g) k
  refine worth_slack _ _ _ (ok.pcs k hk) hp hr ?_ ?_
  · have h1 := (openP_says _ _ (ok.pcs k hk) (F.g0 k)).2.1
    have h2 : cap (gtP (D.o k)) (D.ws k) ≤ D.g k := h1
    have h3 := (p_says D).ge k hk
    have h4 : ∀ ps : List Pc, (∀ x ∈ ps, 1 ≤ x.1) → cap (gtP (D.p k)) ps ≤ cap (gtP (D.o k)) ps := by
      intro ps
      induction ps with
      | nil => intro _; exact Int.le_refl _
      | cons x r ih =>
        intro hx
        obtain ⟨A, w⟩ := x
        have hA : 1 ≤ A := hx (A, w) List.mem_cons_self
        have h1 := ih fun y hy => hx y (List.mem_cons_of_mem _ hy)
        by_cases q1 : D.p k < w
        · have e1 : cap (gtP (D.p k)) ((A, w) :: r) = A + cap (gtP (D.p k)) r := by simp [cap, gtP, q1]
          have e2 : cap (gtP (D.o k)) ((A, w) :: r) = A + cap (gtP (D.o k)) r := by simp [cap, gtP, show D.o k < w by omega]
          omega
        · have e1 : cap (gtP (D.p k)) ((A, w) :: r) = 0 + cap (gtP (D.p k)) r := by simp [cap, gtP, q1]
          have e2 : cap (gtP (D.o k)) r ≤ cap (gtP (D.o k)) ((A, w) :: r) := by simp only [cap]; split <;> omega
          omega
    have h5 := h4 (D.ws k) fun x hx => ((ok.pcs k hk).pos x hx).1
    omega
  · by_cases e : D.p k = 0
    · exact .inl e
    · right
      obtain ⟨f, l, f1, f2, f3, f4, f5⟩ := placed ok hk (by omega)
      obtain ⟨_, _, t3⟩ := tight_says ok.i F (by omega) f3 f4
      have := t3 k f1 f2
      omega
theorem last (ok : D.Ok) {m : Nat} (hm : D.I.n = m + 1) : D.I.e * D.p m = D.I.lv D.g (m + 1) * D.p m := by
  have hp := p_nonneg ok (k := m) (by omega)
  by_cases e : D.p m = 0
  · rw [e]; simp
  · obtain ⟨f, l, f1, f2, f3, f4, _⟩ := placed ok (k := m) (by omega) (by omega)
    obtain ⟨_, t2, _⟩ := tight_says ok.i (fits ok) (by omega) f3 f4
    have el : l = m := by omega
    subst el
    rw [t2]
    unfold In.fin
    rw [if_pos hm.symm]
theorem step_b (ok : D.Ok) {k : Nat} (hk : k + 1 < D.I.n) : D.I.C * pmax 0 (D.p (k + 1) - D.p k) = D.I.lv D.g (k + 1) * (D.p (k + 1) - D.p k) := by
  have P := p_says D
  by_cases h1 : D.I.lv D.g (k + 1) < D.I.C
  · have a := P.lo k hk h1
    by_cases h2 : 0 < D.I.lv D.g (k + 1)
    · have b := P.hi k hk h2
      have e : D.p (k + 1) - D.p k = 0 := by omega
      rw [e]; unfold pmax; simp
    · have h3 := lv_nonneg ok.i (fits ok) (k := k + 1) (by omega)
      have e : D.I.lv D.g (k + 1) = 0 := by omega
      have e2 : pmax 0 (D.p (k + 1) - D.p k) = 0 := by unfold pmax; rw [if_neg (by omega)]
      rw [e, e2]; simp
  · have h2 := lv_le (g := D.g) ok.i (k + 1)
    have e : D.I.lv D.g (k + 1) = D.I.C := by omega
    rw [e]
    by_cases h3 : 0 < D.I.lv D.g (k + 1)
    · have b := P.hi k hk h3
      have e2 : pmax 0 (D.p (k + 1) - D.p k) = D.p (k + 1) - D.p k := by unfold pmax; split <;> omega
      rw [e2]
    · have e3 : D.I.C = 0 := by have := ok.i.s0; have := ok.i.sC; omega
      rw [e3]; simp
theorem parts (ok : D.Ok) : ∀ k, k < D.I.n → D.I.s * D.p 0 + D.bnd D.p (k + 1) = P (fun i => worth (D.ws i) (D.r i)) (k + 1) + D.I.lv D.g (k + 1) * D.p k
  | 0, h => by
    have e := month ok h
    have e2 : D.I.lv D.g 1 = D.I.lv D.g 0 + D.I.a 0 - D.r 0 := lv_rel 0
    have e3 : D.I.lv D.g 0 = D.I.s := rfl
    simp only [bnd, P]
    rw [if_neg (by omega), e, e2, e3]
    grind
  | k + 1, h => by
    have ih := parts ok k (by omega)
    have e := month ok h
    have e2 : D.I.lv D.g (k + 1 + 1) = D.I.lv D.g (k + 1) + D.I.a (k + 1) - D.r (k + 1) := lv_rel (k + 1)
    have e3 := step_b ok h
    have e4 : D.bnd D.p (k + 1 + 1) = D.bnd D.p (k + 1) + (D.I.a (k + 1) * D.p (k + 1) + over (D.p (k + 1)) (D.ws (k + 1)) + D.I.C * pmax 0 (D.p (k + 1) - D.p k)) := by
      show D.bnd D.p (k + 1) + (_ + _ + (if k + 1 > 0 then D.I.C * pmax 0 (D.p (k + 1) - D.p (k + 1 - 1)) else 0)) = _
      rw [if_pos (by omega)]; rfl
    have e5 : P (fun i => worth (D.ws i) (D.r i)) (k + 1 + 1) = P (fun i => worth (D.ws i) (D.r i)) (k + 1) + worth (D.ws (k + 1)) (D.r (k + 1)) := rfl
    rw [e4, e5, e, e2, e3]
    grind
/-- THE LAW: the plan's worth is the prices' bound -/
theorem agree (ok : D.Ok) : P (fun i => worth (D.ws i) (D.r i)) D.I.n = D.I.s * D.p 0 - D.I.e * D.p (D.I.n - 1) + D.bnd D.p D.I.n := by
  obtain ⟨m, hm⟩ : ∃ m, D.I.n = m + 1 := ⟨D.I.n - 1, by have := ok.i.n; omega⟩
  have h := parts ok m (by omega)
  have h2 := last ok hm
  have e : m + 1 - 1 = m := rfl
  rw [hm, e]
  omega
end Data
end Dam
end

section
/-! all(elt for x in iter), any(elt for x in iter), whatever the element calls: every element True (False) -/
namespace GA
open PySem PySem.Spec PyProof.Rows L2 GenW

/-- the generator expression's scope: the walked thing at «.0», its one name x (slot ix), captured names -/
structure GenC (N : List Str) (sc scope : Scope) (x : Str) (ix : Nat) : Prop where
  kind : scope.kind = .function
  co : scope.isCoroutine = false
  cell : ∀ y ∈ scope.names, y.2 ≠ .cell
  dot : scope.names.lookup (".0" : Str) = some NameKind.local
  loc : scope.names.lookup x = some .local
  only : ∀ y ∈ scope.names, y.2 = .local → y.1 = x ∨ y.1 ∉ N
  free : ∀ y ∈ scope.names, y.2 = .free → sc.names.lookup y.1 = some .cell ∨ sc.names.lookup y.1 = some .free
  hix : N[ix]? = some x
def genCB (N : List Str) (sc scope : Scope) (x : Str) (ix : Nat) : Bool :=
  decide (scope.kind = .function) && !scope.isCoroutine && decide (scope.names.lookup (".0" : Str) = some NameKind.local) && decide (scope.names.lookup x = some .local) && decide (N[ix]? = some x) &&
  scope.names.all fun y => !decide (y.2 = .cell) && (!decide (y.2 = .local) || decide (y.1 = x) || decide (y.1 ∉ N)) && (!decide (y.2 = .free) || decide (sc.names.lookup y.1 = some .cell) || decide (sc.names.lookup y.1 = some .free))
theorem genC_by {N : List Str} {sc scope : Scope} {x : Str} {ix : Nat} (h : genCB N sc scope x ix = true) : GenC N sc scope x ix := by
  unfold genCB at h
  simp only [Bool.and_eq_true, Bool.or_eq_true, Bool.not_eq_true', decide_eq_true_eq, decide_eq_false_iff_not, List.all_eq_true] at h
  obtain ⟨⟨⟨⟨⟨h1, h2⟩, h3⟩, h4⟩, h5⟩, h6⟩ := h
  refine ⟨h1, h2, fun y hy => (h6 y hy).1.1, h3, h4, fun y hy e => ?_, fun y hy e => ?_, h5⟩
  · rcases (h6 y hy).1.2 with (z | z) | z
    · exact absurd e z
    · exact .inl z
    · exact .inr z
  · rcases (h6 y hy).2 with (z | z) | z
    · exact absurd e z
    · exact .inl z
    · exact .inr z
/-- the generator's environment -/
abbrev gEnv (X : Cx) (scope : Scope) (L : Addr) (code : Value) : Env := genEnv scope (cloFrom X.env.cells scope.names []) L code builtinsNs X.env
/-- the context of a generator expression's element: its frame made at the state s -/
def genCx (X : Cx) (A : Around) (s : Shared) (H : Hp) (cenv : Env) (fp : List Addr) : Cx :=
  { X with A := A, s_0 := s, H_0 := H, env := cenv, outer := X.stack, stack := cenv :: X.stack, ex := fp, fn := fun _ => false, calm := true, pn := [], xe := fun _ _ => False }

section
variable {X : Cx} {pins : List (Addr × Obj)} {σ : L2.St} {H : Hp} {s : Shared}
/-- the frame is made, the generator's object is laid -/
theorem gen_start {AG : Around} {scope : Scope} {x : Str} {ix : Nat} {fp : List Addr} {code it : Value} {h' : Heap} {go : Obj} {G' : Array GenState} {tk : Nat} (I : Inv X pins σ H s) (G : GenC X.N X.env.scope scope x ix) (hN : X.N.Nodup)
    (hfp : ∀ b ∈ fp, FpOk X pins H b ∧ b < s.heap.objs.size) (hd : AG.handled = none) (hfr : AG.frames = some (gEnv X scope s.heap.objs.size code :: X.stack))
    (hn' : h'.Ns s.heap.objs.size (fun y => if y = ".0" then some it else none)) (hs' : Heap.SameBut s.heap.objs.size (s.heap.push { cls := .type "frame", data := .dict #[] }) h')
    (hgd : ∀ v, go.data ≠ .cell v) (hgp : (h'.push go).get? h'.objs.size = some go) (hb : AllBare G') :
    Inv (genCx X AG s H (gEnv X scope s.heap.objs.size code) fp) [(h'.objs.size, go)] (σ.set ix none) H { s with gens := G', toks := tk, heap := h'.push go } := by
  have hsz : h'.objs.size = s.heap.objs.size + 1 := by rw [hs'.1, Heap.size_push]
  have kp' : ∀ b o, s.heap.get? b = some o → h'.get? b = some o := fun b o e => hs'.extBut b o (Nat.ne_of_lt (Heap.lt_size e)) (Heap.get?_push_of_some _ e)
  have kp : ∀ b o, s.heap.get? b = some o → (h'.push go).get? b = some o := fun b o e => Heap.get?_push_of_some _ (kp' b o e)
  have hfree : ∀ y ∈ scope.names, y.2 = .free → ∃ c, X.env.cells.lookup y.1 = some c := fun y hy e => by
    rcases G.free y hy e with k | k
    · exact I.ok.has _ (.inl k)
    · exact I.ok.has _ (.inr k)
  have cm : ∀ {y c}, (cloFrom X.env.cells scope.names []).lookup y = some c → X.env.cells.lookup y = some c := fun {y c} e => by
    rcases cloFrom_mem (PySem.mem_of_lookup e) with hm | ⟨h1, h2⟩
    · cases hm
    · obtain ⟨c1, hc⟩ := hfree _ h1 rfl
      have hc : X.env.cells.lookup y = some c1 := hc
      have e2 : c = c1 := by
        rw [h2, hc] <;> rfl
      rw [e2]
      exact hc
  have look : ∀ {y}, scope.names.lookup y = some .free → ∃ c, (cloFrom X.env.cells scope.names []).lookup y = some c := fun {y} hl => by
    have hy : (y, NameKind.free) ∈ scope.names := PySem.mem_of_lookup hl
    exact mem_lookup (cloFrom_has (cells := X.env.cells) (acc := []) hy)
  have okB : (genCx X AG s H (gEnv X scope s.heap.objs.size code) fp).Ok := by
    refine ⟨I.ok.mod, G.kind, I.ok.glob, rfl, Nat.le_refl _, fun y z c e1 e2 => I.ok.inj y z c (cm e1) (cm e2), fun y hy => ?_, fun y c z _ => ?_, fun _ => hd, hfr, .inr ⟨rfl, rfl⟩,
      fun b hb => ⟨Nat.ne_of_lt (hfp b hb).2, fun y c e => (hfp b hb).1.2.2.2.2.1 y c (cm e)⟩, I.bs, Nat.le_trans I.ok.bsz I.sz, fun b o e hb => ?_, fun b hb z => ?_, I.stack, I.stkFree⟩
    · have hy : scope.names.lookup y = some .cell ∨ scope.names.lookup y = some .free := hy
      rcases hy with hy | hy
      · exact absurd rfl (G.cell _ (PySem.mem_of_lookup hy))
      · exact look hy
    · have z : false = true := z
      cases z
    · rcases (hfp b hb).1.2.2.2.1 with z | z
      · exact I.ok.noex b o e z
      · exact absurd (Nat.lt_of_lt_of_le (Heap.lt_size e) (Nat.le_trans I.ok.bsz z)) (Nat.lt_irrefl _)
    · rcases List.mem_cons.mp (I.stkSub b z) with z | z
      · exact (hfp b hb).1.2.1 z
      · exact (hfp b hb).1.2.2.1 z
  refine ⟨okB, rfl, hb, Un.kept kp, ⟨_, hn'.push _, fun i y v e1 e2 e3 => ?_⟩, fun y c e => ?_, I.hok.fresh (Nat.le_refl _), fun y c e => I.freeC y c (cm e), fun p hp => ?_, I.hok.kept kp, by rw [List.length_set]; exact I.len⟩
  · have e1 : X.N[i]? = some y := e1
    have hi : i ≠ ix := fun z => by
      subst z
      by_cases hl : i < σ.length
      · rw [List.getElem?_set_self hl] at e2
        cases e2
      · rw [List.getElem?_eq_none (by simpa using hl)] at e2
        cases e2
    rw [List.getElem?_set_ne (Ne.symm hi)] at e2
    have e3 : Vis scope y := e3
    rcases e3 with k | k | k
    · rcases G.only _ (PySem.mem_of_lookup k) rfl with z | z
      · have z' : y = x := z
        exact absurd (nodup_ix hN e1 (by rw [z']; exact G.hix)) hi
      · exact absurd (List.mem_of_getElem? e1) z
    · exact absurd rfl (G.cell _ (PySem.mem_of_lookup k))
    · obtain ⟨m, hn, hl⟩ := I.loc
      have hvis : Vis X.env.scope y := (G.free _ (PySem.mem_of_lookup k) rfl).elim (fun k => .inr (.inl k)) (fun k => .inr (.inr k))
      obtain ⟨w', r, q⟩ := hl i y v e1 e2 hvis
      obtain ⟨c2, h2⟩ := look k
      refine ⟨w', r, .inr ⟨.inr k, c2, h2, ?_⟩⟩
      have c1 := cm h2
      rcases q with ⟨k', _⟩ | ⟨_, c3, e', z⟩
      · have k' : X.env.scope.names.lookup y = some .local := k'
        rcases G.free _ (PySem.mem_of_lookup k) rfl with k2 | k2 <;> rw [show X.env.scope.names.lookup y = _ from k2] at k' <;> cases k'
      · rw [c1] at e'
        cases e'
        exact z.keeps kp
  · obtain ⟨w', z⟩ := I.cell y c (cm e)
    exact ⟨w', z.keeps kp⟩
  · have e : p = (h'.objs.size, go) := by
      have hp : p ∈ ([] : List (Addr × Obj)) ++ [(h'.objs.size, go)] := hp
      simpa using hp
    subst e
    have hge : s.heap.objs.size ≤ h'.objs.size := by rw [hsz]; exact Nat.le_succ _
    refine ⟨hgp, I.hok.fresh hge, ?_, fun z => ?_, hgd⟩
    · show h'.objs.size ≠ s.heap.objs.size
      rw [hsz]; exact Nat.succ_ne_self _
    · rcases List.mem_cons.mp (I.stkSub _ z) with z | z
      · have h1 := I.lt
        have z : h'.objs.size = X.env.locals := z
        rw [← z] at h1
        exact Nat.lt_irrefl _ (Nat.lt_of_lt_of_le h1 hge)
      · exact I.nofs hge z

/-- running, ahead of turn i -/
def JR (GX : Cx) (a : Addr) (go : Obj) (fp : List Addr) (σ : L2.St) (ix : Nat) (tn : Nat → Heap → Prop) (Pv : Nat → Hp → Prop) (i : Nat) (s : Shared) : Prop :=
  ∃ y H', Inv GX [(a, go)] (σ.set ix y) H' s ∧ tn i s.heap ∧ (∀ b ∈ fp, H' b = none) ∧ Pv i H'
/-- at the end -/
def JE (GX : Cx) (a : Addr) (go : Obj) (fp : List Addr) (σ : L2.St) (ix : Nat) (Pe : Hp → Prop) (s : Shared) : Prop :=
  ∃ y H', Inv GX [(a, go)] (σ.set ix y) H' s ∧ (∀ b ∈ fp, H' b = none) ∧ Pe H'
theorem inv_gens {GX : Cx} {g' : Array GenState} (I : Inv GX pins σ H s) (hb : AllBare g') : Inv GX pins σ H { s with gens := g' } :=
  I.call' (ch := []) (s' := { s with gens := g' }) rfl Un.refl I.hok hb fun b z => absurd z (by simp)
theorem JR.gens {GX : Cx} {a : Addr} {go : Obj} {fp : List Addr} {ix : Nat} {tn : Nat → Heap → Prop} {Pv : Nat → Hp → Prop} {i : Nat} {g' : Array GenState} (h : JR GX a go fp σ ix tn Pv i s) (hb : AllBare g') : JR GX a go fp σ ix tn Pv i { s with gens := g' } := by
  obtain ⟨y, H', I, t, f, p⟩ := h
  exact ⟨y, H', inv_gens I hb, t, f, p⟩

/-- what the turns ask -/
def tGenW (J : It) (ix : Nat) (tel : TE) (b : Bool) (σ : L2.St) (H : Hp) (n : Nat) (Pv : Nat → Hp → Prop) (Pe : Hp → Prop) : Prop :=
  Pv 0 H ∧ (∀ i H', i < n → Pv i H' → J.go i H' ∧ ∀ v H2, J.yld i H' v H2 → tel (σ.set ix (some v)) H2 fun u H3 => u = .bl b ∧ Pv (i + 1) H3) ∧ ∀ H', Pv n H' → J.stop n H' ∧ Pe H'

section
variable {GX : Cx} {AW : Around} {elt iter : Expr} {x : Str} {px pos : Pos} {scope : Scope} {it a : Addr} {go : Obj} {fp : List Addr} {tn : Nat → Heap → Prop} {J : It} {ix : Nat} {tel : TE} {b : Bool} {n : Nat} {Pv : Nat → Hp → Prop} {Pe : Hp → Prop} {cenv : Env}
theorem seg_loop (hcenv : cenv = GX.env) (hA : AW.over (.compLoop (.GeneratorExp elt [⟨.Name x px, iter, [], 0⟩] scope pos) 0 (.ref it) .none cenv) [] = GX.A) (hxe : GX.xe = fun _ _ => False) (hcalm : GX.calm = true) (hN : GX.N.Nodup) (hix : GX.N[ix]? = some x)
    (hx : GX.env.scope.names.lookup x = some .local) (hco : cenv.scope.isCoroutine = false) (T : Turn GX.prog GX.w GX.K (.Name x px) J fp it tn)
    (stat : ∀ b ∈ fp, b ≠ GX.env.locals ∧ b ∉ GX.fs ∧ (b ∈ GX.ex ∨ GX.s_0.heap.objs.size ≤ b) ∧ (∀ x c, GX.env.cells.lookup x = some c → c ≠ b) ∧ ∀ p ∈ GX.pn ++ [(a, go)], p.1 ≠ b)
    (hel : PE GX elt tel) (hgo : ∀ i H', i < n → Pv i H' → J.go i H' ∧ ∀ v H2, J.yld i H' v H2 → tel (σ.set ix (some v)) H2 fun u H3 => u = .bl b ∧ Pv (i + 1) H3) (hst : ∀ H', Pv n H' → J.stop n H' ∧ Pe H') :
    ∀ (k i : Nat) (s₀ s : Shared), n - i = k → i ≤ n → JR GX a go fp σ ix tn Pv i s →
      Seg (model GX.prog GX.w) AW (fun m s₀ r s₁ => r = .ok .next ∧ (m = 0 ∧ JE GX a go fp σ ix Pe s₁)) (fun m s₀ v s₁ kap => v = .bool b ∧ JR GX a go fp σ ix tn Pv (n - m) s₁ ∧ ∀ s'', JR GX a go fp σ ix tn Pv (n - m) s'' → kap (.send .none) s'') k s₀
        (.compLoop (.GeneratorExp elt [⟨.Name x px, iter, [], 0⟩] scope pos) 0 (.ref it) .none cenv)
        ((model GX.prog GX.w).den (.compLoop (.GeneratorExp elt [⟨.Name x px, iter, [], 0⟩] scope pos) 0 (.ref it) .none cenv)) [] s := by
  have fpok : ∀ {H' : Hp}, (∀ b ∈ fp, H' b = none) → ∀ b ∈ fp, FpOk GX [(a, go)] H' b := fun hn b hb => ⟨hn b hb, (stat b hb).1, (stat b hb).2.1, (stat b hb).2.2.1, (stat b hb).2.2.2.1, (stat b hb).2.2.2.2⟩
  have set2 : ∀ (y z : Option V), (σ.set ix y).set ix z = σ.set ix z := fun y z => by rw [List.set_set]
  intro k
  induction k with
  | zero =>
    intro i s₀ s hk hi hJ
    have hin : i = n := by omega
    subst hin
    obtain ⟨y, H', I, ht, hf, hp⟩ := hJ
    obtain ⟨hs, hpe⟩ := hst H' hp
    show Seg _ AW _ _ _ s₀ _ ((compTurn (.GeneratorExp elt [⟨.Name x px, iter, [], 0⟩] scope pos) 0 (.ref it) .none cenv).onRaise (leaving cenv)) [] s
    rw [compTurn_gen, Sem.onRaise_eq_wrap]
    refine seg_bind_wrap (wpAny_standAt ?_)
    refine seg_bind_wrap ?_
    rw [hA]
    refine thn (T.done GX rfl rfl rfl hcalm i [(a, go)] s _ H' _ I (fpok hf) ht hs) fun r s1 ⟨hr, I1⟩ => ?_
    subst hr
    exact seg_end (.ok .next) ⟨rfl, rfl, y, H', I1, hf, hpe⟩
  | succ k ih =>
    intro i s₀ s hk hi hJ
    have hlt : i < n := by omega
    obtain ⟨y, H', I, ht, hf, hp⟩ := hJ
    obtain ⟨hg, hstep⟩ := hgo i H' hlt hp
    show Seg _ AW _ _ _ s₀ _ ((compTurn (.GeneratorExp elt [⟨.Name x px, iter, [], 0⟩] scope pos) 0 (.ref it) .none cenv).onRaise (leaving cenv)) [] s
    rw [compTurn_gen, Sem.onRaise_eq_wrap]
    refine seg_bind_wrap (wpAny_standAt ?_)
    refine seg_bind_wrap ?_
    rw [hA]
    refine thn (T.item GX rfl rfl rfl hcalm i [(a, go)] s _ H' _ I (fpok hf) ht hg) fun r s1 ⟨u, hr, h1⟩ => ?_
    subst hr
    refine seg_bind_wrap ?_
    rw [hA]
    refine thn h1 fun _ s2 ⟨v, H2, I2, r2, y2, t2, f2⟩ => ?_
    have I2' := I2.pinned (fpok f2) (T.obj _ _ t2)
    refine seg_bind_wrap ?_
    rw [hA, hcenv]
    refine wpAny_mono ((pg_name (X := GX) (pos := px) hN hix (.inl hx) (.inr hx)).run _ s2 _ H2 v u (fun σ' H'' => σ' = σ.set ix (some v) ∧ H'' = H2) I2' r2 ⟨by rw [set2], rfl⟩) (fun _ s3 ⟨σ3, H3, I3, e3, e4⟩ => ?_) fun _ _ z => by
      rw [hxe] at z
      exact False.elim z
    subst e3 e4
    refine seg_bind_wrap ?_
    simp only [List.forIn_nil]
    refine wpAny_pure ?_
    simp only [if_true]
    have hy : ∀ v, yieldOut GX.env v = yieldValue v := fun v => by
      rw [← hcenv]
      simp only [yieldOut, hco, Bool.false_eq_true, if_false]
    simp only [hy]
    rw [Sem.bind_eq_wrap', Sem.bind_eq_wrap', Sem.wrap_wrap, Sem.wrap_wrap]
    refine seg_wrap ?_
    rw [← hcenv, hA, hcenv]
    refine wpAny_mono (hel.run _ s3 _ H3 _ I3 (hstep v H3 y2)) (fun w4 s4 ⟨x4, H4, I4, r4, e4, p4⟩ => ?_) fun _ _ z => by
      rw [hxe] at z
      exact False.elim z
    subst e4
    obtain rfl : w4 = Value.bool b := r4
    have obj : ∀ c ∈ fp, ∃ o, s2.heap.get? c = some o ∧ s4.heap.get? c = some o ∧ H4 c = none := fun c hc => by
      obtain ⟨o, e, d⟩ := T.obj _ _ t2 c hc
      have q := I4.pin (c, o) (List.mem_append_right _ (List.mem_append_right _ (mem_pinsAt hc e)))
      exact ⟨o, e, q.1, q.2.1⟩
    have J4 : JR GX a go fp σ ix tn Pv (i + 1) s4 := ⟨some v, H4, I4.unpinned, T.keep _ _ _ t2 fun c hc o e => by
      obtain ⟨o', e', e2, _⟩ := obj c hc
      rw [e] at e'
      cases e'
      exact e2, fun c hc => (obj c hc).choose_spec.2.2, p4⟩
    have hm : n - k = i + 1 := by omega
    refine seg_at (seg_yield rfl rfl rfl ⟨rfl, by rw [hm]; exact J4, fun s'' hJ'' => ?_⟩)
    rw [hm] at hJ''
    refine seg_again rfl ?_
    rw [← hcenv]
    exact ih (i + 1) s'' s'' (by omega) hlt hJ''
end
/-- the builtin's loop; b: what every element is -/
theorem loop_word {w : World} {P : Program} {A : Around} {R : Result → Shared → Prop} {a : Addr} {g n : Nat} {b : Bool} {St : Nat → Shared → Prop} {Fin : Shared → Prop} {id : String} (hb : (id = "all.loop" ∧ b = true) ∨ (id = "any.loop" ∧ b = false))
    (hgo : ∀ i s, i < n → St i s → wpAny (model P w) A.in1 (pyNext (.ref a)) (fun r s' => r = some (.bool b) ∧ St (i + 1) s') (fun _ _ => False) s)
    (hend : ∀ s, St n s → wpAny (model P w) A.in1 (pyNext (.ref a)) (fun r s' => r = none ∧ Fin s') (fun _ _ => False) s) (hR : ∀ s, Fin s → R (.ok (.ret (.bool b))) s) :
    ∀ (k i : Nat) (s : Shared), n - i = k → i ≤ n → St i s → codeAny (model P w) A (.builtin id ⟨[.ref a], []⟩) R s := by
  intro k
  induction k with
  | zero =>
    intro i s hk hi hst
    have hin : i = n := by omega
    subst hin
    rcases hb with ⟨rfl, rfl⟩ | ⟨rfl, rfl⟩
    · refine codeAny_builtin F.entry_all_loop ?_
      rw [Around.under_plainId F.plain_all_loop _]
      show wpAny _ A.in1 (pyNext (.ref a) >>= _) _ _ s
      refine wpAny_bind (wpAny_mono (hend s hst) (fun r s' ⟨hr, hf⟩ => ?_) fun _ _ z => z.elim)
      subst hr
      exact wpAny_bind (wpAny_rule (wpAny_pure (hR s' hf)))
    · refine codeAny_builtin F.entry_any_loop ?_
      rw [Around.under_plainId F.plain_any_loop _]
      show wpAny _ A.in1 (pyNext (.ref a) >>= _) _ _ s
      refine wpAny_bind (wpAny_mono (hend s hst) (fun r s' ⟨hr, hf⟩ => ?_) fun _ _ z => z.elim)
      subst hr
      exact wpAny_bind (wpAny_rule (wpAny_pure (hR s' hf)))
  | succ k ih =>
    intro i s hk hi hst
    have hlt : i < n := by omega
    rcases hb with ⟨rfl, rfl⟩ | ⟨rfl, rfl⟩
    · refine codeAny_builtin F.entry_all_loop ?_
      rw [Around.under_plainId F.plain_all_loop _]
      show wpAny _ A.in1 (pyNext (.ref a) >>= _) _ _ s
      refine wpAny_bind (wpAny_mono (hgo i s hlt hst) (fun r s' ⟨hr, hf⟩ => ?_) fun _ _ z => z.elim)
      subst hr
      refine wpAny_bind (wpAny_holding (wpAny_truthy_bool ?_))
      refine wpAny_bind (wpAny_letGo ?_)
      simp only [if_true]
      exact wpAny_pure ⟨plainId_quiet F.plain_all_loop _, ih (i + 1) s' (by omega) hlt hf⟩
    · refine codeAny_builtin F.entry_any_loop ?_
      rw [Around.under_plainId F.plain_any_loop _]
      show wpAny _ A.in1 (pyNext (.ref a) >>= _) _ _ s
      refine wpAny_bind (wpAny_mono (hgo i s hlt hst) (fun r s' ⟨hr, hf⟩ => ?_) fun _ _ z => z.elim)
      subst hr
      refine wpAny_bind (wpAny_holding (wpAny_truthy_bool ?_))
      refine wpAny_bind (wpAny_letGo ?_)
      simp only [Bool.false_eq_true, if_false]
      exact wpAny_pure ⟨plainId_quiet F.plain_any_loop _, ih (i + 1) s' (by omega) hlt hf⟩

/-- the reading: what is walked, then each turn; the def's table may have grown ahead -/
def genR (P : Addr) (ix : Nat) (tel : TE) (b : Bool) (σ : L2.St) (Q : VK) : It → Hp → Prop := fun J H1 => GxR.TabG H1 P ∧ ∀ H2, GxR.Tabbed P H1 H2 → ∃ n Pv Pe, tGenW J ix tel b σ H2 n Pv Pe ∧ ∀ H3, Pe H3 → Q (.bl b) H3
def tGen (P : Addr) (ix : Nat) (wi : TI) (tel : TE) (b : Bool) : TE := fun σ H Q => wi σ H (genR P ix tel b σ Q)

section
variable {A : Around} {elt iter : Expr} {x : Str} {px p pos gpos : Pos} {scope : Scope} {ix : Nat} {tel : TE} {wi : TI} {b : Bool} {c P : Addr} {k : Nat}
/-- the generator's steps, as they are asked by the loop -/
theorem gen_all {Q' : Value → Shared → Prop} {Q : VK} {id lid : String} (hb : (id = "all" ∧ lid = "all.loop" ∧ b = true) ∨ (id = "any" ∧ lid = "any.loop" ∧ b = false)) (hr : Room (k + 3) X.A) (TB : GxR.TabB X.base X.mg c P) (hcode : X.env.code = .ref c) (G : GenC X.N X.env.scope scope x ix) (hN : X.N.Nodup) (hi : PI X (.Name x px) iter wi)
    (hel : ∀ (A' : Around) (s : Shared) (H : Hp) (code : Value) (fp : List Addr), Room k A' → PE (genCx X A' s H (gEnv X scope s.heap.objs.size code) fp) elt tel)
    (hs : ∀ v, genFold iter X.env v = pure v) (I : Inv X pins σ H s) (h : tGen P ix wi tel b σ H Q) (hQ : ∀ u s', EP X pins σ Q u s' → Q' u s') :
    wpAny (model X.prog X.w) X.A (eval (.GeneratorExp elt [⟨.Name x px, iter, [], 0⟩] scope gpos) X.env) (fun gv s5 => wpAny (model X.prog X.w) X.A (call (.builtin id) [gv]) Q' X.xe s5) X.xe s := by
  have hcl : closureFor scope X.env = pure (cloFrom X.env.cells scope.names []) := closure_ok fun y hy e => by
    rcases G.free y hy e with k | k
    · exact I.ok.has _ (.inl k)
    · exact I.ok.has _ (.inr k)
  refine wpAny_GeneratorExp_make G.co hcl G.cell G.dot G.kind (by have := hr.dp; omega) ?_ hs
  refine thn (hi.run pins s σ H _ I h) fun xv s1 h1 => ?_
  refine thn h1 fun itv s2 h2 => ?_
  obtain ⟨it, fp, tn, J, H2, rfl, I2, T, t2, f2, ⟨ps, hP, ht⟩, hW⟩ := h2
  refine ⟨I2.nolimit, ?_⟩
  have hPs : s2.heap.get? P = some { cls := .none, data := .fields ps } := I2.hok P _ hP
  have cd : PySem.W.CodeHd s2.heap c P := TB.code.keeps fun b u e => I2.bk b u e
  -- the code object found or made: the table's state
  have cont : ∀ (code : Value) (h3 : Heap) (tk : Nat) (ps' : Array Value), Heap.ExtBut P s2.heap h3 → h3.get? P = some { cls := .none, data := .fields ps' } → (∃ more, ps' = ps ++ more) → TriplesOk ps'.toList →
      wpAny (model X.prog X.w) X.A (builtinsFor X.env.globals X.env.builtins) (fun bi s₄ => ∀ h', h'.Ns s₄.heap.objs.size (fun y => if y = ".0" then some (.ref it) else none) → Heap.SameBut s₄.heap.objs.size (s₄.heap.push { cls := .type "frame", data := .dict #[] }) h' →
          wpAny (model X.prog X.w) X.A (call (.builtin id) [.ref h'.objs.size]) Q' X.xe { s₄ with
            gens := s₄.gens.push (.fresh (.compStart (.GeneratorExp elt [⟨.Name x px, iter, [], 0⟩] scope gpos) 0 (.ref it) .none (genEnv scope (cloFrom X.env.cells scope.names []) s₄.heap.objs.size code bi X.env))),
            toks := s₄.toks + 1 + 1 + 1,
            heap := h'.push { cls := .type "generator", data := .fields #[.int s₄.gens.size 0, .str "<genexpr>" (s₄.toks + 1), .str (X.env.qual ++ "<genexpr>") (s₄.toks + 1 + 1)] } }) X.xe { s2 with heap := h3, toks := tk } := by
    intro code h3 tk ps' hx hP3 hmore ht3
    obtain ⟨bm, ob, e1, e2, e3, e4, e5, e6, e7, e8⟩ := TB.bm
    obtain ⟨more, em⟩ := hmore
    have keep3 : ∀ b u, b ≠ P → s2.heap.get? b = some u → h3.get? b = some u := fun b u hb e => hx b u hb e
    refine wpAny_builtinsFor (m := X.mg) (by rw [I2.ok.glob]; exact (I2.mod.glob.keeps I2.bk).extBut hx TB.gP) e1 e2 (keep3 _ _ e4 (I2.bk _ _ e5)) e6 e7 e8 ?_
    have I4 : Inv X pins σ (upd H2 P (.tbl (ps ++ more))) { s2 with heap := h3, gens := s2.gens, drawn := s2.drawn, toks := tk } := GxR.inv_tab (more := more) I2 hP keep3 (by rw [← em]; exact hP3) I2.bare
    have nP : ∀ b, H2 b = none → b ≠ P := fun b e z => by
      rw [z, hP] at e
      cases e
    have tab4 : GxR.Tabbed P H2 (upd H2 P (.tbl (ps ++ more))) := ⟨⟨ps ++ more, upd_same, by rw [← em]; exact ht3⟩, fun b hb => upd_ne hb⟩
    obtain ⟨n, Pv, Pe, ⟨hW0, hgo, hst⟩, hQe⟩ := hW _ tab4
    have f4 : ∀ b ∈ fp, FpOk X pins (upd H2 P (.tbl (ps ++ more))) b ∧ b < h3.objs.size := fun b hb => by
      obtain ⟨f0, fr⟩ := f2 b hb
      refine ⟨⟨by rw [upd_ne (nP b f0)]; exact f0, fr⟩, ?_⟩
      obtain ⟨o, e, _⟩ := T.obj _ _ t2 b hb
      exact Heap.lt_size (keep3 b o (nP b f0) e)
    have t4 : tn 0 h3 := T.keep _ _ _ t2 fun b hb o e => keep3 b o (nP b (f2 b hb).1) e
    intro h' hn' hs'
    generalize hs4 : ({ s2 with heap := h3, toks := tk } : Shared) = s4 at hn' hs' I4 ⊢
    have es4 : s4 = { s2 with heap := h3, gens := s2.gens, drawn := s2.drawn, toks := tk } := hs4.symm
    have hh4 : s4.heap = h3 := by rw [es4]
    have I4' : Inv X pins σ (upd H2 P (.tbl (ps ++ more))) s4 := I4
    rw [← hh4] at f4 t4
    clear hs4 es4
    generalize hgo' : ({ cls := .type "generator", data := .fields #[.int s4.gens.size 0, .str "<genexpr>" (s4.toks + 1), .str (X.env.qual ++ "<genexpr>") (s4.toks + 1 + 1)] } : Obj) = go
    have hsz : h'.objs.size = s4.heap.objs.size + 1 := by rw [hs'.1, Heap.size_push]
    have hgen : ∀ h : Heap, h.get? h'.objs.size = some go → h.IsGen h'.objs.size s4.gens.size := fun h e => ⟨go, _, _, e, by rw [← hgo'], by rw [← hgo'], by rw [← hgo']⟩
    have hgp : (h'.push go).get? h'.objs.size = some go := by rw [← hgo']; exact Heap.get?_push_size _ rfl
    have hgd : ∀ v, go.data ≠ .cell v := fun v z => by rw [← hgo'] at z; cases z
    have kp' : ∀ b o, s4.heap.get? b = some o → h'.get? b = some o := fun b o e => hs'.extBut b o (Nat.ne_of_lt (Heap.lt_size e)) (Heap.get?_push_of_some _ e)
    have hbare : AllBare (s4.gens.push (.fresh (.compStart (.GeneratorExp elt [⟨.Name x px, iter, [], 0⟩] scope gpos) 0 (.ref it) .none (genEnv scope (cloFrom X.env.cells scope.names []) s4.heap.objs.size code builtinsNs X.env)))) := AllBare.push I4'.bare rfl
    have hAG : X.A.in1.in1.over (.compLoop (.GeneratorExp elt [⟨.Name x px, iter, [], 0⟩] scope gpos) 0 (.ref it) .none (gEnv X scope s4.heap.objs.size code)) [] = X.A.in1.in1.deeper (gEnv X scope s4.heap.objs.size code) := by rfl
    have hAS : X.A.in1.in1.over (.compStart (.GeneratorExp elt [⟨.Name x px, iter, [], 0⟩] scope gpos) 0 (.ref it) .none (gEnv X scope s4.heap.objs.size code)) [] = X.A.in1.in1.deeper (gEnv X scope s4.heap.objs.size code) := by rfl
    have hfr : (X.A.in1.in1.deeper (gEnv X scope s4.heap.objs.size code)).frames = some (gEnv X scope s4.heap.objs.size code :: X.stack) := Around.frames_deeper (show X.A.in1.in1.frames = some X.stack from I4'.ok.frames)
    have hroom : Room k (X.A.in1.in1.deeper (gEnv X scope s4.heap.objs.size code)) := Room.deeper (Room.in1 (Room.in1 hr)) _
    have I5 := gen_start (tk := s4.toks + 1 + 1 + 1) I4' G hN f4 hroom.hd hfr hn' hs' hgd hgp hbare
    have stat : ∀ b ∈ fp, b ≠ (gEnv X scope s4.heap.objs.size code).locals ∧ b ∉ frs X.stack ∧ (b ∈ fp ∨ s4.heap.objs.size ≤ b) ∧ (∀ x c, (gEnv X scope s4.heap.objs.size code).cells.lookup x = some c → c ≠ b) ∧ ∀ p ∈ ([] : List (Addr × Obj)) ++ [(h'.objs.size, go)], p.1 ≠ b := fun b hb => by
      have q := I5.ok.exf b hb
      refine ⟨q.1, I5.ok.exfs b hb, .inl hb, q.2, fun p hp z => ?_⟩
      have e : p = (h'.objs.size, go) := by simpa using hp
      rw [e] at z
      have z : h'.objs.size = b := z
      have := (f4 b hb).2
      rw [← z, hsz] at this
      exact Nat.lt_irrefl _ (Nat.lt_of_succ_lt this)
    have J0 : JR (genCx X (X.A.in1.in1.deeper (gEnv X scope s4.heap.objs.size code)) s4 (upd H2 P (.tbl (ps ++ more))) (gEnv X scope s4.heap.objs.size code) fp) h'.objs.size go fp σ ix tn Pv 0
        { s4 with gens := s4.gens.push (.fresh (.compStart (.GeneratorExp elt [⟨.Name x px, iter, [], 0⟩] scope gpos) 0 (.ref it) .none (gEnv X scope s4.heap.objs.size code))), toks := s4.toks + 1 + 1 + 1, heap := h'.push go } :=
      ⟨none, _, I5, T.keep _ _ _ t4 fun b hb o e => Heap.get?_push_of_some _ (kp' b o e), fun b hb => (f4 b hb).1.1, hW0⟩
    have loop := seg_loop (GX := genCx X (X.A.in1.in1.deeper (gEnv X scope s4.heap.objs.size code)) s4 (upd H2 P (.tbl (ps ++ more))) (gEnv X scope s4.heap.objs.size code) fp) (AW := X.A.in1.in1) (σ := σ) (pos := gpos) (iter := iter) (scope := scope) (it := it) (a := h'.objs.size) (go := go) (cenv := gEnv X scope s4.heap.objs.size code)
      rfl hAG rfl rfl hN G.hix G.loc G.co T stat (hel _ s4 _ code fp hroom) hgo hst
    -- what the generator sleeps with
    generalize hGX : genCx X (X.A.in1.in1.deeper (gEnv X scope s4.heap.objs.size code)) s4 (upd H2 P (.tbl (ps ++ more))) (gEnv X scope s4.heap.objs.size code) fp = GX at I5 J0 loop
    have isg : ∀ {i s}, JR GX h'.objs.size go fp σ ix tn Pv i s → s.heap.IsGen h'.objs.size s4.gens.size ∧ s.heap.NoLimit := fun {i s} hJ => by
      obtain ⟨y, H', I, _⟩ := hJ
      refine ⟨hgen _ (I.pin (h'.objs.size, go) (List.mem_append_right _ (List.mem_singleton.mpr rfl))).1, I.nolimit⟩
    have bareJ : ∀ {i s}, JR GX h'.objs.size go fp σ ix tn Pv i s → AllBare s.gens := fun {i s} hJ => by
      obtain ⟨y, H', I, _⟩ := hJ
      exact I.bare
    let R : GenEnd := fun m s₀ r s₁ => r = .ok .next ∧ (m = 0 ∧ JE GX h'.objs.size go fp σ ix Pe s₁)
    let Y : Protocol := fun m s₀ v s₁ kap => v = .bool b ∧ JR GX h'.objs.size go fp σ ix tn Pv (n - m) s₁ ∧ ∀ s'', JR GX h'.objs.size go fp σ ix tn Pv (n - m) s'' → kap (.send .none) s''
    let St : Nat → Shared → Prop := fun i s => JR GX h'.objs.size go fp σ ix tn Pv i s ∧ ∃ gs, s.gens[s4.gens.size]? = some gs ∧ ∀ s'', JR GX h'.objs.size go fp σ ix tn Pv i s'' → gs.Goes (model X.prog X.w) X.A.in1.in1 R Y (n - i) (.send .none) s''
    have run : ∀ s, St 0 s → codeAny (model X.prog X.w) X.A (.builtin lid ⟨[.ref h'.objs.size], []⟩) (fun r s' => match r with | .ok (.ret v) => Q' v s' | .ok _ => False | .error e => X.xe e s') s := fun s hs0 => by
      refine loop_word (g := s4.gens.size) (n := n) (b := b) (St := St) (Fin := fun s' => EP X pins σ Q (.bool b) s') (hb.elim (fun q => .inl ⟨q.2.1, q.2.2⟩) fun q => .inr ⟨q.2.1, q.2.2⟩) (fun i s hlt hSt => ?_) (fun s hSt => ?_) (fun s hf => hQ _ _ hf) n 0 s (Nat.sub_zero _) (Nat.zero_le _) hs0
      · obtain ⟨hJ, gs, hgs, hgoes⟩ := hSt
        obtain ⟨hg1, hl1⟩ := isg hJ
        have hgl : s4.gens.size < s.gens.size := (Array.getElem?_eq_some_iff.mp hgs).1
        obtain ⟨m, hm⟩ : ∃ m, n - i = m + 1 := ⟨n - i - 1, by omega⟩
        have hgo1 := hgoes (s.setGen s4.gens.size .running) (hJ.gens (allBare_setGen (bareJ hJ) rfl))
        rw [hm] at hgo1
        refine wpAny_gsz (n := s4.gens.size + 1) hgl (wpAny_pyNext_genexpQ (A := X.A.in1) (P := fun m s₀ s₁ => m = 0 ∧ JE GX h'.objs.size go fp σ ix Pe s₁) (Y := Y) hr.hd hl1 (by have := hr.dp; show X.A.depth < _; omega) hg1 hgs hgo1 (fun v s₁ gs' hbg hv => ?_) fun s₁ hp => ?_)
        · obtain ⟨rfl, hJ1, hk1⟩ := hv
          have em : n - (m + 1 - 1) = i + 1 := by omega
          rw [em] at hJ1 hk1
          intro hsz1
          have hlt1 : s4.gens.size < s₁.gens.size := by
            have q : (s₁.setGen s4.gens.size gs').gens.size = s₁.gens.size := setGen_size _ _ _
            have hsz' : s4.gens.size + 1 ≤ (s₁.setGen s4.gens.size gs').gens.size := hsz1
            omega
          refine ⟨rfl, hJ1.gens (allBare_setGen (bareJ hJ1) hbg), gs', setGen_at hlt1, fun s'' hJ'' => ?_⟩
          have e2 : n - (i + 1) = m := by omega
          rw [e2]
          exact hk1 s'' hJ''
        · exact absurd hp.1 (Nat.succ_ne_zero m)
      · obtain ⟨hJ, gs, hgs, hgoes⟩ := hSt
        obtain ⟨hg1, hl1⟩ := isg hJ
        have hgo1 := hgoes (s.setGen s4.gens.size .running) (hJ.gens (allBare_setGen (bareJ hJ) rfl))
        rw [Nat.sub_self] at hgo1
        refine wpAny_pyNext_genexpQ (A := X.A.in1) (P := fun m s₀ s₁ => m = 0 ∧ JE GX h'.objs.size go fp σ ix Pe s₁) (Y := Y) hr.hd hl1 (by have := hr.dp; show X.A.depth < _; omega) hg1 hgs hgo1 (fun v s₁ gs' hbg hv => ?_) fun s₁ hp h'' hk'' => ?_
        · obtain ⟨_, hJ1, hk1⟩ := hv
          exact False.elim (hk1 s₁ hJ1)
        · obtain ⟨_, y, H', I6, f6, pe⟩ := hp
          refine ⟨rfl, .bl b, H', ?_, rfl, hQe H' pe⟩
          subst hGX
          have u6 : Un (frs X.stack) fp (upd H2 P (.tbl (ps ++ more))) H' s4.heap s₁.heap := I6.base
          refine I4'.call' (ch := fp) (s' := { s₁.setGen s4.gens.size .finished with heap := h'' }) I6.os (u6.trans (Un.kept hk'')) (I6.hok.kept hk'') (allBare_setGen I6.bare rfl) fun b hb => ?_
          obtain ⟨⟨_, q1, _, q3, q4, q5⟩, _⟩ := f4 b hb
          exact ⟨q3, q1, q4, q5⟩
    have start : St 0 { s4 with gens := s4.gens.push (.fresh (.compStart (.GeneratorExp elt [⟨.Name x px, iter, [], 0⟩] scope gpos) 0 (.ref it) .none (gEnv X scope s4.heap.objs.size code))), toks := s4.toks + 1 + 1 + 1, heap := h'.push go } := by
      refine ⟨J0, _, Array.getElem?_push_size .., fun s'' hJ'' => ⟨rfl, ?_⟩⟩
      rw [Nat.sub_zero]
      have lp := loop n 0 s'' s'' (Nat.sub_zero _) (Nat.zero_le _) hJ''
      have hpr : GX.prog = X.prog := by rw [← hGX] <;> rfl
      have hw : GX.w = X.w := by rw [← hGX] <;> rfl
      rw [hpr, hw] at lp
      show Seg (model X.prog X.w) X.A.in1.in1 R Y n s'' (.compStart (.GeneratorExp elt [⟨.Name x px, iter, [], 0⟩] scope gpos) 0 (.ref it) .none (gEnv X scope s4.heap.objs.size code))
        ((compStart (.GeneratorExp elt [⟨.Name x px, iter, [], 0⟩] scope gpos) 0 (.ref it) .none (gEnv X scope s4.heap.objs.size code)).onRaise (leaving (gEnv X scope s4.heap.objs.size code))) [] s''
      unfold compStart
      rw [Sem.onRaise_eq_wrap]
      show Seg _ _ _ _ _ s'' _ ((ask >>= _).wrap _ _ _ _) [] s''
      obtain ⟨y, H', I, tt, _⟩ := hJ''
      refine seg_bind_wrap (wpAny_askSetting ?_)
      split
      · exact seg_again rfl lp
      · first
          | exact seg_bind_wrap (wpAny_rule (seg_bind_wrap (wpAny_standAt (seg_bind_wrap (T.self _ 0 s'' _ _ tt (seg_again rfl lp))))))
          | (refine seg_bind_wrap (wpAny_rule ?_); show Seg _ _ _ _ _ s'' _ ((standAt iter.pos >>= _).wrap _ _ _ _) [] s''; exact seg_bind_wrap (wpAny_standAt (seg_bind_wrap (T.self _ 0 s'' _ _ tt (seg_again rfl lp)))))
    have isg0 := (isg J0).1
    rcases hb with ⟨rfl, rfl, _⟩ | ⟨rfl, rfl, _⟩
    · refine call_function_tree F.kind_all F.plain_all F.entry_all (F.args_all1 _) ?_
      unfold Builtin.«all»
      refine wpAny_bind (m := oneArg "all" _) (wpAny_pure ?_)
      refine wpAny_bind (wpAny_pyIter_gen isg0 ?_)
      exact wpAny_pure ⟨plainId_quiet F.plain_all_loop _, run _ start⟩
    · refine call_function_tree F.kind_any F.plain_any F.entry_any (F.args_any1 _) ?_
      unfold Builtin.«any»
      refine wpAny_bind (m := oneArg "any" _) (wpAny_pure ?_)
      refine wpAny_bind (wpAny_pyIter_gen isg0 ?_)
      exact wpAny_pure ⟨plainId_quiet F.plain_any_loop _, run _ start⟩
  cases hf : codeAmong gpos ps.toList with
  | none =>
    refine wpAny_genexprCodeX hcode (cd.code hPs ht) (cd.tab hPs) hf fun c' h' tk hx hge hlt hco' _ htab' _ => ?_
    obtain ⟨o1, vs, f1, tf, fl, tg, inF, tx, tt, op, _, _, _, _, _, _, _, _, _, htr, _⟩ := hco'
    exact cont _ h' tk _ hx htab'.2 ⟨_, rfl⟩ htr
  | some cv =>
    refine wpAny_genexprCode_hit hcode (cd.code hPs ht) hf ?_
    exact cont cv s2.heap s2.toks ps (Heap.ExtBut.refl _ _) hPs ⟨#[], by simp⟩ ht

theorem pe_allG (hr : Room (k + 3) X.A) (hg : Gl X "all") (hm : X.mg "all" = none) (TB : GxR.TabB X.base X.mg c P) (hcode : X.env.code = .ref c) (G : GenC X.N X.env.scope scope x ix) (hN : X.N.Nodup) (hi : PI X (.Name x px) iter wi)
    (hel : ∀ (A' : Around) (s : Shared) (H : Hp) (code : Value) (fp : List Addr), Room k A' → PE (genCx X A' s H (gEnv X scope s.heap.objs.size code) fp) elt tel)
    (hs : ∀ v, genFold iter X.env v = pure v := by intro _; rfl) (hv : bootBuiltins "all" = some (.builtin "all") := by decide +kernel)
    (he : starEach [.GeneratorExp elt [⟨.Name x px, iter, [], 0⟩] scope gpos] X.env = (false, eval (.GeneratorExp elt [⟨.Name x px, iter, [], 0⟩] scope gpos) X.env) :: starEach [] X.env := by rfl) :
    PE X (.Call (.Name "all" p) [.GeneratorExp elt [⟨.Name x px, iter, [], 0⟩] scope gpos] [] pos) (tGen P ix wi tel true) := by
  refine ⟨fun pins s σ H Q I h => ?_⟩
  refine wpAny_Call_Name_kw (ld_blt I hg hm hv ?_)
  refine PyProof.Rows.callWith_builtin1 ?_ he (by rfl)
  rw [he]
  show wpAny _ _ (spliced ((false, eval (.GeneratorExp elt [⟨.Name x px, iter, [], 0⟩] scope gpos) X.env) :: backTo pos (starEach [] X.env))) _ _ s
  refine Calls.spliced_cons (thn (gen_all (id := "all") (lid := "all.loop") (.inl ⟨rfl, rfl, rfl⟩) hr TB hcode G hN hi hel hs I h fun u s' q => q) fun gv s5 h5 => ?_)
  exact Calls.spliced_nil h5
theorem pe_anyG (hr : Room (k + 3) X.A) (hg : Gl X "any") (hm : X.mg "any" = none) (TB : GxR.TabB X.base X.mg c P) (hcode : X.env.code = .ref c) (G : GenC X.N X.env.scope scope x ix) (hN : X.N.Nodup) (hi : PI X (.Name x px) iter wi)
    (hel : ∀ (A' : Around) (s : Shared) (H : Hp) (code : Value) (fp : List Addr), Room k A' → PE (genCx X A' s H (gEnv X scope s.heap.objs.size code) fp) elt tel)
    (hs : ∀ v, genFold iter X.env v = pure v := by intro _; rfl)
    (he : starEach [.GeneratorExp elt [⟨.Name x px, iter, [], 0⟩] scope gpos] X.env = (false, eval (.GeneratorExp elt [⟨.Name x px, iter, [], 0⟩] scope gpos) X.env) :: starEach [] X.env := by rfl) :
    PE X (.Call (.Name "any" p) [.GeneratorExp elt [⟨.Name x px, iter, [], 0⟩] scope gpos] [] pos) (tGen P ix wi tel false) := by
  refine ⟨fun pins s σ H Q I h => ?_⟩
  refine wpAny_Call_Name_kw (ld_blt I hg hm boot_any ?_)
  refine PyProof.Rows.callWith_builtin1 ?_ he (by rfl)
  rw [he]
  show wpAny _ _ (spliced ((false, eval (.GeneratorExp elt [⟨.Name x px, iter, [], 0⟩] scope gpos) X.env) :: backTo pos (starEach [] X.env))) _ _ s
  refine Calls.spliced_cons (thn (gen_all (id := "any") (lid := "any.loop") (.inr ⟨rfl, rfl, rfl⟩) hr TB hcode G hN hi hel hs I h fun u s' q => q) fun gv s5 h5 => ?_)
  exact Calls.spliced_nil h5
end
end
end GA
end

section
/-! zip of a list and a tuple in any mix, enumerate of a tuple, sum of a tuple: bridges from KE.GoesNew to the layer's turns -/
namespace ZM
open PySem PySem.Spec PyProof.Rows L2

inductive Kd where
  | L | T
def Kd.sq (K : PySem.W.Frag) (H : Hp) (a : Addr) (xs : List V) : Kd → Prop
  | .L => SqL K H a xs
  | .T => SqT K H a xs
def Kd.itr (h : Heap) (it a : Addr) (i : Nat) : Kd → Prop
  | .L => h.IsListIter it a i
  | .T => h.IsTupleIter it a i
def Kd.arr (h : Heap) (a : Addr) (items : Array Value) : Kd → Prop
  | .L => h.IsList a items
  | .T => h.IsTuple a items
def Kd.io (a : Addr) : Kd → Obj
  | .L => { cls := .type "list_iterator", data := .fields #[.ref a, .int 0 0] }
  | .T => { cls := .type "tuple_iterator", data := .fields #[.ref a, .int 0 0] }
section
variable {k : Kd} {X : Cx} {pins : List (Addr × Obj)} {σ : L2.St} {H : Hp} {s : Shared} {a it : Addr} {xs ys : List V}
theorem Kd.get (I : Inv X pins σ H s) (h : k.sq X.K H a xs) : ∃ its : List Value, Vals xs its ∧ k.arr s.heap a its.toArray ∧ a < s.heap.objs.size := by
  cases k with
  | L =>
    obtain ⟨its, rv, p, _⟩ := I.list h
    exact ⟨its, rv, p.isList, p.lt⟩
  | T =>
    obtain ⟨its, rv, p, _⟩ := I.tuple h
    exact ⟨its, rv, p, p.lt⟩
theorem Kd.inj (I : Inv X pins σ H s) (h : k.sq X.K H a xs) (h2 : k.sq X.K H a ys) : xs = ys := by
  cases k with
  | L => exact I.list_inj h h2
  | T => exact I.tuple_inj h h2
theorem Kd.draws {prog : Program} {w : World} {A : Around} (k : Kd) (hh : A.handled = none) (it a : Addr) (hne : a ≠ it) (items : Array Value) :
    Draws prog w A it [it, a] items.size (fun i v => items[i]? = some v) (fun i h => k.itr h it a i ∧ k.arr h a items) := by
  cases k with
  | L => exact Draws.list hh it a hne items
  | T => exact Draws.tuple hh it a hne items
theorem Kd.beg (k : Kd) (a : Addr) (items : Array Value) : Begins (.ref a) (k.io a) fun h => k.arr h a items := by
  cases k with
  | L => exact begins_list a items
  | T => exact begins_tuple a items
theorem Kd.itr_at {h h' : Heap} {i : Nat} (x : k.itr h it a i) (e : ∀ o, h.get? it = some o → h'.get? it = some o) : k.itr h' it a i := by
  cases k with
  | L => exact Heap.IsListIter.at x e
  | T => exact Heap.IsTupleIter.at x e
theorem Kd.itr_obj {h : Heap} {i : Nat} (x : k.itr h it a i) : ∃ o, h.get? it = some o ∧ ∀ v, o.data ≠ .cell v := by
  cases k with
  | L =>
    obtain ⟨o, e, _, d⟩ := x
    exact ⟨o, e, fun v z => by rw [d] at z; cases z⟩
  | T =>
    obtain ⟨o, e, _, d⟩ := x
    exact ⟨o, e, fun v z => by rw [d] at z; cases z⟩
theorem Kd.itr0 {h : Heap} (e : h.get? it = some (k.io a)) : k.itr h it a 0 := by
  cases k with
  | L => exact ⟨_, e, rfl, rfl⟩
  | T => exact ⟨_, e, rfl, rfl⟩
theorem Kd.arr_at {h h' : Heap} {items : Array Value} (x : k.arr h a items) (e : ∀ o, h.get? a = some o → h'.get? a = some o) : k.arr h' a items := by
  cases k with
  | L => exact Heap.IsList.at x e
  | T => exact Heap.IsTuple.at x e
end

/-! ### zip -/
def ItM (K : PySem.W.Frag) (k1 k2 : Kd) (a b : Addr) : It :=
  ⟨fun i H => ∃ xs ys x y, k1.sq K H a xs ∧ k2.sq K H b ys ∧ xs[i]? = some x ∧ ys[i]? = some y,
   fun i H v H' => ∃ T x y, v = .ref T ∧ H T = none ∧ H' = upd H T (.tup [x, y]) ∧ (∀ xs, k1.sq K H a xs → xs[i]? = some x) ∧ ∀ ys, k2.sq K H b ys → ys[i]? = some y,
   fun i H => ∃ xs ys, k1.sq K H a xs ∧ k2.sq K H b ys ∧ min xs.length ys.length = i⟩
/-- the five cells of a zip: its parts lie apart from the walked things -/
structure Sep (z TI TO i1 i2 a b : Addr) : Prop where
  s : ZipSep2 z TI TO i1 i2 [i1, a] [i2, b]
  a1 : a ≠ i1
  b2 : b ≠ i2
  az : a ≠ z ∧ a ≠ TO ∧ a ≠ i2
  bz : b ≠ z ∧ b ≠ TO ∧ b ≠ i1
theorem turn_M {P : Program} {w : World} {K : PySem.W.Frag} {elts : List Expr} {kk : Nat} {tpos : Pos} {k1 k2 : Kd} {a b z TI TO i1 i2 : Addr} (D : Sep z TI TO i1 i2 a b) :
    Turn P w K (.Tuple elts kk tpos) (ItM K k1 k2 a b) [z, TI, TO, i1, i2] z (fun i h => IsZip h z TI TO .none ∧ IsTupOf2 h TI (.ref i1) (.ref i2) ∧ (∃ x y, IsTupOf2 h TO x y) ∧ k1.itr h i1 a i ∧ k2.itr h i2 b i) where
  mem := by simp
  obj := fun i h st c hc => by
    obtain ⟨hz, hTI, ⟨x, y, hTO⟩, h1, h2⟩ := st
    have e' : c = z ∨ c = TI ∨ c = TO ∨ c = i1 ∨ c = i2 := by simpa using hc
    rcases e' with rfl | rfl | rfl | rfl | rfl
    · exact ⟨_, hz, fun v q => nomatch q⟩
    · exact ⟨_, hTI, fun v q => nomatch q⟩
    · exact ⟨_, hTO, fun v q => nomatch q⟩
    · exact Kd.itr_obj h1
    · exact Kd.itr_obj h2
  keep := fun i h h' st k => by
    obtain ⟨hz, hTI, ⟨x, y, hTO⟩, h1, h2⟩ := st
    exact ⟨k z (by simp) _ hz, k TI (by simp) _ hTI, ⟨x, y, k TO (by simp) _ hTO⟩, Kd.itr_at h1 fun o q => k i1 (by simp) o q, Kd.itr_at h2 fun o q => k i2 (by simp) o q⟩
  item := by
    intro X hP hw hK hc i pins s σ H E I hf st hg
    subst hP hw hK
    obtain ⟨hz, hTI, hTO, h1, h2⟩ := st
    obtain ⟨xs, ys, x, y, hqx, hqy, hx, hy⟩ := hg
    obtain ⟨its, rv, p, _⟩ := Kd.get I hqx
    obtain ⟨its2, rv2, p2, _⟩ := Kd.get I hqy
    obtain ⟨u, hu, ru⟩ := rv.get hx
    obtain ⟨u2, hu2, ru2⟩ := rv2.get hy
    have lx : i < its.length := (List.getElem?_eq_some_iff.mp hu).1
    have ly : i < its2.length := (List.getElem?_eq_some_iff.mp hu2).1
    have W := GoesN.zip2 (prog := X.prog) (w := X.w) (A := X.A) (elts := elts) (x1 := kk) (pos := tpos) D.s (k1.draws (A := X.A.in1) (I.ok.hd hc) i1 a D.a1 its.toArray) (k2.draws (A := X.A.in1) (I.ok.hd hc) i2 b D.b2 its2.toArray)
    have hlt : i < min its.toArray.size its2.toArray.size := by simp; omega
    have lows : ∀ c ∈ [z, TI, TO, i1, i2], c < s.heap.objs.size := fun c hcm => by
      have e' : c = z ∨ c = TI ∨ c = TO ∨ c = i1 ∨ c = i2 := by simpa using hcm
      obtain ⟨q1, q2, q3⟩ := hTO
      obtain ⟨o1, e1, _⟩ := Kd.itr_obj h1
      obtain ⟨o2, e2, _⟩ := Kd.itr_obj h2
      rcases e' with rfl | rfl | rfl | rfl | rfl
      · exact Heap.lt_size hz
      · exact Heap.lt_size hTI
      · exact Heap.lt_size q3
      · exact Heap.lt_size e1
      · exact Heap.lt_size e2
    refine wpAny_mono (W.goes i s (fun v s2 => ∃ x H', Inv X pins σ H' s2 ∧ RelV x v ∧ (ItM X.K k1 k2 a b).yld i H x H' ∧ (IsZip s2.heap z TI TO .none ∧ IsTupOf2 s2.heap TI (.ref i1) (.ref i2) ∧ (∃ x y, IsTupOf2 s2.heap TO x y) ∧ k1.itr s2.heap i1 a (i + 1) ∧ k2.itr s2.heap i2 b (i + 1)) ∧ ∀ b ∈ [z, TI, TO, i1, i2], H' b = none) E hlt ⟨hz, hTI, hTO, ⟨h1, p⟩, ⟨h2, p2⟩⟩ fun v h' tk hY st' hk _ => ?_) (fun r s1 ⟨v, hr, hw⟩ => ⟨v, hr, hw⟩) fun _ _ e => e
    obtain ⟨T, v1, v2, rfl, hT, hv1, hv2, hTup⟩ := hY
    obtain ⟨z1, z2, z3, ⟨z4, _⟩, ⟨z5, _⟩⟩ := st'
    have e1 : v1 = u := by
      have q : its[i]? = some v1 := by simpa using hv1
      rw [hu] at q
      exact (Option.some.inj q).symm
    have e2 : v2 = u2 := by
      have q : its2[i]? = some v2 := by simpa using hv2
      rw [hu2] at q
      exact (Option.some.inj q).symm
    subst e1 e2
    have new : ObjOk X.prog X.w (upd H T (.tup [x, y])) h' T (.tup [x, y]) := ⟨by show 2 ≤ sizeLine; decide, [v1, v2], .cons ru (.cons ru2 .nil), hTup⟩
    have I1 : Inv X pins σ (upd H T (.tup [x, y])) { s with heap := h', toks := tk } :=
      I.turnedNew (ch := [z, TI, TO, i1, i2]) (fun c o hb q => hk c o (fun q' => hb (by simp only [List.mem_cons, List.not_mem_nil, or_false] at q' ⊢; rcases q' with q' | q' | q' | q' <;> simp [q'])) q) hf hT new
    refine ⟨.ref T, _, I1, rfl, ⟨T, x, y, rfl, I.hok.fresh hT, rfl, fun l hl => by rw [Kd.inj I hl hqx]; exact hx, fun l hl => by rw [Kd.inj I hl hqy]; exact hy⟩, ⟨z1, z2, z3, z4, z5⟩, fun c hcm => ?_⟩
    rw [upd_ne (Nat.ne_of_lt (Nat.lt_of_lt_of_le (lows c hcm) hT))]
    exact (hf c hcm).1
  done := by
    intro X hP hw hK hc i pins s σ H E I hf st hg
    subst hP hw hK
    obtain ⟨hz, hTI, hTO, h1, h2⟩ := st
    obtain ⟨xs, ys, hqx, hqy, hend⟩ := hg
    obtain ⟨its, rv, p, _⟩ := Kd.get I hqx
    obtain ⟨its2, rv2, p2, _⟩ := Kd.get I hqy
    have W := GoesN.zip2 (prog := X.prog) (w := X.w) (A := X.A) (elts := elts) (x1 := kk) (pos := tpos) D.s (k1.draws (A := X.A.in1) (I.ok.hd hc) i1 a D.a1 its.toArray) (k2.draws (A := X.A.in1) (I.ok.hd hc) i2 b D.b2 its2.toArray)
    have hn : min its.toArray.size its2.toArray.size = i := by
      rw [List.size_toArray, List.size_toArray, ← rv.length, ← rv2.length]
      exact hend
    rw [hn] at W
    exact W.stops s (fun s1 => Inv X pins σ H s1) E ⟨hz, hTI, hTO, ⟨h1, p⟩, ⟨h2, p2⟩⟩ fun h' tk hk _ => I.turnedL (ch := [z, TI, TO, i1, i2]) (fun c o hb q =>
      hk c o (fun q' => hb (by simp only [List.mem_cons, List.not_mem_nil, or_false] at q' ⊢; rcases q' with q' | q' | q' | q' <;> simp [q'])) q) hf
  self := fun A i s Q E st h => wpAny_pyIter_zip st.1 h

def iZipM (K : PySem.W.Frag) (k1 k2 : Kd) (ta : TA) : TI := fun σ H R => ta σ H fun vs H1 => ∃ a b xs ys, vs = [.ref a, .ref b] ∧ k1.sq K H1 a xs ∧ k2.sq K H1 b ys ∧ R (ItM K k1 k2 a b) H1
theorem pi_zipM {X : Cx} {e e2 : Expr} {ta : TA} {p pos tpos : Pos} {elts : List Expr} {kk : Nat} (k1 k2 : Kd) (hg : Gl X "zip") (hm : X.mg "zip" = none) (ha : PA X [e, e2] ta)
    (hs : starEach [e, e2] X.env = (false, eval e X.env) :: starEach [e2] X.env := by rfl) (hpl : (backTo pos (starEach [e2] X.env)).any (·.1) = false := by rfl) :
    PI X (.Tuple elts kk tpos) (.Call (.Name "zip" p) [e, e2] [] pos) (iZipM X.K k1 k2 ta) := by
  refine ⟨fun pins s σ H R I h => ?_⟩
  refine Call_ (ld_blt I hg hm PyProof.Rows.boot_zip (PyProof.Rows.callWith_type1 (thn (ha.run pos pins s σ H _ I h) fun us s1 ⟨vs, H1, I1, r1, q1⟩ => ?_) hs hpl))
  obtain ⟨a, b, xs, ys, rfl, hqx, hqy, q⟩ := q1
  cases r1 with
  | cons r rr =>
    cases rr with
    | cons r' rr =>
      cases rr
      cases r
      cases r'
      obtain ⟨its, rv, p1, la⟩ := Kd.get I1 hqx
      obtain ⟨its2, rv2, p2, lb⟩ := Kd.get I1 hqy
      refine zip_begins2 (k1.beg a its.toArray) (k2.beg b its2.toArray) p1 p2 fun h' hz hTI hTO h1 h2 hsz hk => wpAny_pyIter_zip hz ?_
      have I2 : Inv X pins σ H1 { s1 with heap := h' } := I1.kept (t' := s1.toks) hk
      have sep : Sep (s1.heap.objs.size + 4) (s1.heap.objs.size + 2) (s1.heap.objs.size + 3) s1.heap.objs.size (s1.heap.objs.size + 1) a b := by
        refine ⟨zip_sep2 (fp1 := [a]) (fp2 := [b]) (fun c hc => by rw [List.mem_singleton.mp hc]; exact la) (fun c hc => by rw [List.mem_singleton.mp hc]; exact lb), Nat.ne_of_lt la, Nat.ne_of_lt (Nat.lt_succ_of_lt lb), ⟨?_, ?_, ?_⟩, ⟨?_, ?_, ?_⟩⟩
        · exact Nat.ne_of_lt (Nat.lt_of_lt_of_le la (Nat.le_add_right _ _))
        · exact Nat.ne_of_lt (Nat.lt_of_lt_of_le la (Nat.le_add_right _ _))
        · exact Nat.ne_of_lt (Nat.lt_of_lt_of_le la (Nat.le_add_right _ _))
        · exact Nat.ne_of_lt (Nat.lt_of_lt_of_le lb (Nat.le_add_right _ _))
        · exact Nat.ne_of_lt (Nat.lt_of_lt_of_le lb (Nat.le_add_right _ _))
        · exact Nat.ne_of_lt lb
      refine ⟨s1.heap.objs.size + 4, [s1.heap.objs.size + 4, s1.heap.objs.size + 2, s1.heap.objs.size + 3, s1.heap.objs.size, s1.heap.objs.size + 1], _, _, H1, rfl, I2, turn_M sep, ⟨hz, hTI, ⟨_, _, hTO⟩, Kd.itr0 h1, Kd.itr0 h2⟩, fun c hcm => ?_, q⟩
      have hle : s1.heap.objs.size ≤ c := by
        have e' : c = s1.heap.objs.size + 4 ∨ c = s1.heap.objs.size + 2 ∨ c = s1.heap.objs.size + 3 ∨ c = s1.heap.objs.size ∨ c = s1.heap.objs.size + 1 := by simpa using hcm
        rcases e' with rfl | rfl | rfl | rfl | rfl
        · exact Nat.le_add_right _ _
        · exact Nat.le_add_right _ _
        · exact Nat.le_add_right _ _
        · exact Nat.le_refl _
        · exact Nat.le_add_right _ _
      exact I1.fpOk hle (I1.hok.fresh hle)
/-- a loop over such a zip, both of n items -/
theorem for_zipM {K : PySem.W.Frag} {k1 k2 : Kd} {a b : Addr} {xs ys : List V} {g : TG} {tb : TS} {D : Ends} {σ : L2.St} {H : Hp} (hl : xs.length = ys.length) (Pv : Nat → L2.St → Hp → Prop) (h0 : Pv 0 σ H) (hq : ∀ i σ H, Pv i σ H → k1.sq K H a xs ∧ k2.sq K H b ys)
    (hs : ∀ (i : Nat) (x y : V) (T : Addr) (σ : L2.St) (H : Hp), xs[i]? = some x → ys[i]? = some y → Pv i σ H → H T = none → g (.ref T) σ (upd H T (.tup [x, y])) fun σ2 H2 => tb { D with nx := Pv (i + 1), ct := Pv (i + 1), bk := D.nx } σ2 H2)
    (hd : ∀ σ H, Pv xs.length σ H → D.nx σ H) :
    ∃ W : Nat → Nat → L2.St → Hp → Prop, (∃ m, W 0 m σ H) ∧ ∀ i m σ H, W i m σ H →
      ((ItM K k1 k2 a b).stop i H ∧ D.nx σ H) ∨ ((ItM K k1 k2 a b).go i H ∧ ∃ N : L2.St → Hp → Prop, (∀ σ' H', N σ' H' → ∃ m', m' < m ∧ W (i + 1) m' σ' H') ∧ ∀ v H', (ItM K k1 k2 a b).yld i H v H' → g v σ H' fun σ2 H2 => tb { D with nx := N, ct := N, bk := D.nx } σ2 H2) := by
  refine ⟨fun i m σ H => m = xs.length - i ∧ i ≤ xs.length ∧ Pv i σ H, ⟨xs.length, rfl, Nat.zero_le _, h0⟩, ?_⟩
  rintro i m σ H ⟨rfl, hi, p⟩
  obtain ⟨qx, qy⟩ := hq i σ H p
  by_cases hlt : i < xs.length
  · have hx : xs[i]? = some xs[i] := List.getElem?_eq_getElem hlt
    have hlt2 : i < ys.length := by omega
    have hy : ys[i]? = some ys[i] := List.getElem?_eq_getElem hlt2
    refine .inr ⟨⟨xs, ys, _, _, qx, qy, hx, hy⟩, Pv (i + 1), fun σ' H' p' => ⟨xs.length - (i + 1), by omega, rfl, hlt, p'⟩, fun v H' yl => ?_⟩
    obtain ⟨T, x, y, rfl, hT, rfl, f1, f2⟩ := yl
    exact hs i x y T σ H (f1 xs qx) (f2 ys qy) p hT
  · have e : i = xs.length := by omega
    subst e
    exact .inl ⟨⟨xs, ys, qx, qy, by omega⟩, hd σ H p⟩

/-! ### enumerate of a tuple -/
def ItE (K : PySem.W.Frag) (a : Addr) : It :=
  ⟨fun i H => ∃ xs x, SqT K H a xs ∧ xs[i]? = some x, fun i H v H' => ∃ T x, v = .ref T ∧ H T = none ∧ H' = upd H T (.tup [.int (i : Nat), x]) ∧ ∀ xs, SqT K H a xs → xs[i]? = some x, fun i H => ∃ xs, SqT K H a xs ∧ xs.length = i⟩
theorem turn_E {P : Program} {w : World} {K : PySem.W.Frag} {elts : List Expr} {kk : Nat} {tpos : Pos} {a e it : Addr} (h1 : e ≠ it) (h2 : a ≠ it) (h3 : e ≠ a) :
    Turn P w K (.Tuple elts kk tpos) (ItE K a) [e, it] e (fun i h => (∃ old, IsEnum h e it ((i : Nat) : Int) old) ∧ h.IsTupleIter it a i) where
  mem := by simp
  obj := fun i h st b hb => by
    obtain ⟨⟨old, he⟩, hi⟩ := st
    have e' : b = e ∨ b = it := by simpa using hb
    rcases e' with rfl | rfl
    · exact ⟨_, he, fun v q => nomatch q⟩
    · exact Kd.itr_obj (k := .T) hi
  keep := fun i h h' st k => ⟨st.1.imp fun old he => k e (by simp) _ he, Heap.IsTupleIter.at st.2 fun o q => k it (by simp) o q⟩
  item := by
    intro X hP hw hK hc i pins s σ H E I hf st hg
    subst hP hw hK
    obtain ⟨xs, x, hq, hx⟩ := hg
    obtain ⟨its, rv, p, _⟩ := I.tuple hq
    obtain ⟨u, hu, ru⟩ := rv.get hx
    have W := GoesN.enumFrom (prog := X.prog) (w := X.w) (A := X.A) (elts := elts) (x1 := kk) (pos := tpos) 0 (Draws.tuple (A := X.A.in1) (I.ok.hd hc) it a h2 its.toArray) e h1 (by simp [h1, h3]) (by simp)
    have hlt : i < its.toArray.size := by
      have := (List.getElem?_eq_some_iff.mp hu).1
      simpa using this
    have lows : ∀ c ∈ [e, it], c < s.heap.objs.size := fun c hcm => by
      have e' : c = e ∨ c = it := by simpa using hcm
      obtain ⟨⟨old, he⟩, hi⟩ := st
      obtain ⟨o2, e2, _⟩ := Kd.itr_obj (k := .T) hi
      rcases e' with rfl | rfl
      · exact Heap.lt_size he
      · exact Heap.lt_size e2
    refine wpAny_mono (W.goes i s (fun v s2 => ∃ x H', Inv X pins σ H' s2 ∧ RelV x v ∧ (ItE X.K a).yld i H x H' ∧ ((∃ old, IsEnum s2.heap e it ((i + 1 : Nat) : Int) old) ∧ s2.heap.IsTupleIter it a (i + 1)) ∧ ∀ b ∈ [e, it], H' b = none) E hlt ⟨by rw [Int.zero_add]; exact st.1, st.2, p⟩ fun v h' tk hY st' hk _ => ?_) (fun r s1 ⟨v, hr, hw⟩ => ⟨v, hr, hw⟩) fun _ _ e => e
    obtain ⟨T, t, v1, rfl, hT, hv1, hTup⟩ := hY
    obtain ⟨z1, z2, _⟩ := st'
    have e1 : v1 = u := by
      have q : its[i]? = some v1 := by simpa using hv1
      rw [hu] at q
      exact (Option.some.inj q).symm
    subst e1
    rw [Int.zero_add] at hTup z1
    have new : ObjOk X.prog X.w (upd H T (.tup [.int (i : Nat), x])) h' T (.tup [.int (i : Nat), x]) := ⟨by show 2 ≤ sizeLine; decide, [_, v1], .cons ⟨_, rfl⟩ (.cons ru .nil), hTup⟩
    have I1 : Inv X pins σ (upd H T (.tup [.int (i : Nat), x])) { s with heap := h', toks := tk } := I.turnedNew (ch := [e, it]) hk hf hT new
    refine ⟨.ref T, _, I1, rfl, ⟨T, x, rfl, I.hok.fresh hT, rfl, fun l hl => by rw [I.tuple_inj hl hq]; exact hx⟩, ⟨z1, z2⟩, fun c hcm => ?_⟩
    rw [upd_ne (Nat.ne_of_lt (Nat.lt_of_lt_of_le (lows c hcm) hT))]
    exact (hf c hcm).1
  done := by
    intro X hP hw hK hc i pins s σ H E I hf st hg
    subst hP hw hK
    obtain ⟨xs, hq, hend⟩ := hg
    obtain ⟨its, rv, p, _⟩ := I.tuple hq
    have W := GoesN.enumFrom (prog := X.prog) (w := X.w) (A := X.A) (elts := elts) (x1 := kk) (pos := tpos) 0 (Draws.tuple (A := X.A.in1) (I.ok.hd hc) it a h2 its.toArray) e h1 (by simp [h1, h3]) (by simp)
    have hn : its.toArray.size = i := by rw [List.size_toArray, ← rv.length]; exact hend
    rw [hn] at W
    exact W.stops s (fun s1 => Inv X pins σ H s1) E ⟨by rw [Int.zero_add]; exact st.1, st.2, p⟩ fun h' tk hk _ => I.turnedL (ch := [e, it]) hk hf
  self := fun A i s Q E st h => let ⟨⟨_, he⟩, _⟩ := st; wpAny_pyIter_enum he h

theorem enum_newB {v : Value} {o : Obj} {H : Heap → Prop} (B : Begins v o H) :
    Meets (Builtin.«enumerate.__new__» ⟨[.type "enumerate", v], []⟩) (fun _ R s => H s.heap ∧
      R (.ok (.ret (.ref (s.heap.push o).objs.size))) { s with heap := (s.heap.push o).push { cls := .type "enumerate", data := .fields #[.none, .bool false, .ref s.heap.objs.size, rawInt 0, .none, .none] } }) :=
  .of_wp fun prog w A R s h => by
    obtain ⟨hp, g, d, tk, os⟩ := s
    obtain ⟨h1, h⟩ := h
    have hsub := sub_enumerate
    have q1 : ∀ {A' : Around} {E : Value → Shared → Prop} {Q : Value → Shared → Prop}, Q (.ref hp.objs.size) ⟨hp.push o, g, d, tk, os⟩ → wpAny (model prog w) A' (pyIter v) Q E ⟨hp, g, d, tk, os⟩ :=
      fun q => B.iter prog w _ _ ⟨hp, g, d, tk, os⟩ _ h1 q
    wp_walk using q1
    refine wpAny_stack_any fun st => wpAny_pure ?_
    split
    · rename_i c _ _ _ _ _
      cases (c == Value.type "enumerate") <;> (wp_walk using q1; exact ⟨_, rfl, h⟩)
    · wp_walk using q1
      exact ⟨_, rfl, h⟩
theorem call_enumB {prog : Program} {w : World} {A : Around} {E : Value → Shared → Prop} {s : Shared} {v : Value} {o : Obj} {H : Heap → Prop} {Q : Value → Shared → Prop} (B : Begins v o H) (h1 : H s.heap)
    (h : ∀ h', IsEnum h' (s.heap.objs.size + 1) s.heap.objs.size 0 .none → h'.get? s.heap.objs.size = some o → (∀ b o, s.heap.get? b = some o → h'.get? b = some o) → Q (.ref (s.heap.objs.size + 1)) { s with heap := h' }) :
    wpAny (model prog w) A (call (.type "enumerate") [v]) Q E s := by
  refine callType_new F.called_enumerate (by decide) (F.typeCall_enumerate_1 _) (F.newCall_enumerate_1 _) (fun obj => F.args_object_init_2 obj _) F.entry_enumerate_new (enum_newB B) ⟨h1, ?_⟩
  have hz : (s.heap.push o).objs.size = s.heap.objs.size + 1 := Heap.size_push ..
  have g := Heap.get?_push_size (s.heap.push o) (o := { cls := .type "enumerate", data := .fields #[.none, .bool false, .ref s.heap.objs.size, rawInt 0, .none, .none] }) rfl
  show _ ∧ _
  rw [hz] at g ⊢
  exact ⟨⟨_, g, rfl⟩, h _ g (Heap.get?_push_of_some _ (Heap.get?_push_size _ B.free)) fun b o x => Heap.get?_push_of_some _ (Heap.get?_push_of_some _ x)⟩
def iEnumT (K : PySem.W.Frag) (ta : TA) : TI := fun σ H R => ta σ H fun vs H1 => ∃ a xs, vs = [.ref a] ∧ SqT K H1 a xs ∧ R (ItE K a) H1
theorem pi_enumT {X : Cx} {e : Expr} {ta : TA} {p pos tpos : Pos} {elts : List Expr} {kk : Nat} (hg : Gl X "enumerate") (hm : X.mg "enumerate" = none) (ha : PA X [e] ta) (hs : starEach [e] X.env = [(false, eval e X.env)] := by rfl) :
    PI X (.Tuple elts kk tpos) (.Call (.Name "enumerate" p) [e] [] pos) (iEnumT X.K ta) := by
  refine ⟨fun pins s σ H R I h => ?_⟩
  refine Call_ (ld_blt I hg hm boot_enumerate (PyProof.Rows.callWith_type1 (thn (ha.run pos pins s σ H _ I h) fun us s1 ⟨vs, H1, I1, r1, q1⟩ => ?_) hs rfl))
  obtain ⟨a, xs, rfl, hq, q⟩ := q1
  cases r1 with
  | cons r rr =>
    cases rr
    cases r
    obtain ⟨its, rv, p', _⟩ := I1.tuple hq
    have la : a < s1.heap.objs.size := p'.lt
    refine call_enumB (begins_tuple a its.toArray) (show s1.heap.IsTuple a its.toArray from p') fun h' he hit hk => wpAny_pyIter_enum he ?_
    have I2 : Inv X pins σ H1 { s1 with heap := h' } := I1.kept (t' := s1.toks) hk
    refine ⟨s1.heap.objs.size + 1, [s1.heap.objs.size + 1, s1.heap.objs.size], _, _, H1, rfl, I2, turn_E (Nat.succ_ne_self _) (Nat.ne_of_lt la) (Nat.ne_of_gt (Nat.lt_succ_of_lt la)), ⟨⟨.none, he⟩, ⟨_, hit, rfl, rfl⟩⟩, fun b hb => ?_, q⟩
    have hle : s1.heap.objs.size ≤ b := by
      have e' : b = s1.heap.objs.size + 1 ∨ b = s1.heap.objs.size := by simpa using hb
      rcases e' with rfl | rfl
      · exact Nat.le_add_right _ _
      · exact Nat.le_refl _
    exact I1.fpOk hle (I1.hok.fresh hle)
/-- a loop over enumerate of a tuple -/
theorem for_enumT {K : PySem.W.Frag} {a : Addr} {xs : List V} {g : TG} {tb : TS} {D : Ends} {σ : L2.St} {H : Hp} (Pv : Nat → L2.St → Hp → Prop) (h0 : Pv 0 σ H) (hq : ∀ i σ H, Pv i σ H → SqT K H a xs)
    (hs : ∀ (i : Nat) (x : V) (T : Addr) (σ : L2.St) (H : Hp), xs[i]? = some x → Pv i σ H → H T = none → g (.ref T) σ (upd H T (.tup [.int (i : Nat), x])) fun σ2 H2 => tb { D with nx := Pv (i + 1), ct := Pv (i + 1), bk := D.nx } σ2 H2)
    (hd : ∀ σ H, Pv xs.length σ H → D.nx σ H) :
    ∃ W : Nat → Nat → L2.St → Hp → Prop, (∃ m, W 0 m σ H) ∧ ∀ i m σ H, W i m σ H →
      ((ItE K a).stop i H ∧ D.nx σ H) ∨ ((ItE K a).go i H ∧ ∃ N : L2.St → Hp → Prop, (∀ σ' H', N σ' H' → ∃ m', m' < m ∧ W (i + 1) m' σ' H') ∧ ∀ v H', (ItE K a).yld i H v H' → g v σ H' fun σ2 H2 => tb { D with nx := N, ct := N, bk := D.nx } σ2 H2) := by
  refine ⟨fun i m σ H => m = xs.length - i ∧ i ≤ xs.length ∧ Pv i σ H, ⟨xs.length, rfl, Nat.zero_le _, h0⟩, ?_⟩
  rintro i m σ H ⟨rfl, hi, p⟩
  have qx := hq i σ H p
  by_cases hlt : i < xs.length
  · have hx : xs[i]? = some xs[i] := List.getElem?_eq_getElem hlt
    refine .inr ⟨⟨xs, _, qx, hx⟩, Pv (i + 1), fun σ' H' p' => ⟨xs.length - (i + 1), by omega, rfl, hlt, p'⟩, fun v H' yl => ?_⟩
    obtain ⟨T, x, rfl, hT, rfl, f1⟩ := yl
    exact hs i x T σ H (f1 xs qx) p hT
  · have e : i = xs.length := by omega
    subst e
    exact .inl ⟨⟨xs, qx, rfl⟩, hd σ H p⟩

/-! ### sum of a tuple of ints -/
def rSumT (K : PySem.W.Frag) : List V → Hp → VK → Prop := fun vs H Q => ∃ (a : Addr) (ns : List Int), vs = [V.ref a] ∧ SqT K H a (ns.map V.int) ∧ Q (.int ns.sum) H
theorem cr_sumT {X : Cx} (hc : X.calm = true) : CallR X (.builtin "sum") (rSumT X.K) := by
  intro pins s σ H vs us Q I r h
  obtain ⟨a, ns, rfl, hq, q⟩ := h
  rw [Vals.ref1 r]
  obtain ⟨its, rv, p, _⟩ := I.tuple hq
  have hi : IntsAre its ns := rv.ints
  obtain ⟨xs, e⟩ := hi.allInts.items
  have hn : numsOf (intItems xs).toList = ns := by rw [← e]; exact hi.numsOf
  rw [nums_intItems] at hn
  have p' : s.heap.IsTuple a (intItems xs) := by rw [← e]; exact p
  refine PySem.W.ktm_sumG (I.ok.hd hc) p' fun h' tk t' hk => ?_
  rw [preSum_eq, List.take_of_length_le (by simp), hn]
  exact ⟨.int ns.sum, H, I.kept hk, ⟨t', rfl⟩, q⟩
end ZM
end

section
set_option maxHeartbeats 3200000
/-! set(xs), xs a list of ints, as a set that sorted reads (the layer's own is of a tuple) -/
namespace SLi
open PySem PySem.Spec PyProof.Rows L2
abbrev newSet (w : World) : Obj := { cls := .type "set", dict := none, data := .set #[] 0 (.fresh 0 0 (!w.params.followText "set-order")) }
section
variable {P : Program} {w : World} {A : Around} {E : Value → Shared → Prop} {s : Shared}
/-- what __init__ leaves -/
def Done (w : World) (ns : List Int) (s : Shared) (r : Value) (s₂ : Shared) : Prop :=
  r = .none ∧ ∃ h' tk c, s₂ = { s with heap := h', toks := tk } ∧ SetR w h' s.heap.objs.size (fun j => decide (j ∈ ns)) c ∧ c ≤ ns.length ∧ ∀ b o, s.heap.get? b = some o → h'.get? b = some o
theorem call_set_lstI {l : Addr} {items : Array Value} (ns : List Int) {Q : Value → Shared → Prop} (hh : A.handled = none) (hl : s.heap.IsList l items) (hit : IntsAre items.toList ns) (hb : ns.length + 1 < scanBound)
    (h : ∀ (h' : Heap) (tk c : Nat), SetR w h' s.heap.objs.size (fun j => decide (j ∈ ns)) c → c ≤ ns.length → (∀ b o, s.heap.get? b = some o → h'.get? b = some o) → Q (.ref s.heap.objs.size) { s with heap := h', toks := tk }) :
    wpAny (model P w) A (call (.type "set") [.ref l]) Q E s := by
  have hisz : items.size = ns.length := by
    have q := IntsAre.length hit
    rw [Array.length_toList] at q
    exact q
  obtain ⟨c, tl, hmro⟩ := F.called_set.mro
  have hmade := F.called_set.made
  have hsub := F.called_set.sub
  refine wpAny_call (codeAny_of_tree ?_)
  show wpAny _ _ (callAny (.type "set") _) _ _ _
  refine wpAny_pure ⟨Code.quiet_builtin _ (by decide +kernel), codeAny_builtin F.entry_type_call ?_⟩
  rw [Around.under_plain (weight_type_call_type "set" [.ref l] []) rfl]
  have h1 := F.called_set.notType
  have h2 := F.called_set.canCreate
  have hct := F.typeCall_set_1 (.ref l)
  repeat (any_goals (first | assumption | wp_step))
  refine codeAny_mono (code_set_led1 (.ref l) (E := E) (Q₁ := fun obj s₁ => obj = .ref s.heap.objs.size ∧ s₁ = { s with heap := s.heap.push (newSet w) }) ⟨rfl, rfl⟩) fun r s₁ hr => ?_
  cases r with
  | error e => exact hr
  | ok fl =>
    cases fl with
    | ret obj =>
      obtain ⟨rfl, rfl⟩ := hr
      have hS : (s.heap.push (newSet w)).get? s.heap.objs.size = some (newSet w) := Heap.get?_push_size _ rfl
      have hT : Shared.TypeIs { s with heap := s.heap.push (newSet w) } (.ref s.heap.objs.size) "set" := ⟨_, hS, rfl⟩
      have hli := F.called_set.init.lookup
      have hbi := F.called_set.init.bind (.ref s.heap.objs.size)
      repeat (any_goals (first | assumption | wp_step))
      refine codeAny_mono (codeAny_call_builtin (R := wants (Done w ns s) E) F.called_set.init.plain F.entry_set_init (check_set_init_1 hT ?_)) fun r₂ s₂ hr₂ => ?_
      · obtain ⟨ol, hol, hcl, nl, hdl⟩ := hl
        obtain ⟨ocls, odict, odata, oslots⟩ := ol
        simp only at hcl hdl
        subst hcl hdl
        have hol' : (s.heap.push (newSet w)).get? l = some { cls := .type "list", dict := odict, data := .seq items nl, slots := oslots } := Heap.get?_push_of_some _ hol
        have hne : (Value.type "list" == Value.type "dict") = false := by decide
        have hsls := F.sub_list_set
        have hslf := F.sub_list_frozenset
        have hl1 : (s.heap.push (newSet w)).IsList l items := ⟨_, hol', rfl, nl, rfl⟩
        unfold Builtin.«set.__init__» noKeywords Builtin.Frozenset.updateFrom
        generalize hPI : pyIter = PI
        wp_walk
        subst hPI
        refine wpAny_pyIter_list hl1 ?_
        refine wpAny_bind (wpAny_runValue ?_)
        have hlS : l < s.heap.objs.size := Heap.lt_size hol
        have hh3 : A.in1.in1.in1.handled = none := by simp [hh]
        have hneI : l ≠ (s.heap.push (newSet w)).objs.size := by
          rw [Heap.size_push]
          exact Nat.ne_of_lt (Nat.lt_succ_of_lt hlS)
        have hSf : s.heap.objs.size ∉ [(s.heap.push (newSet w)).objs.size, l] := by
          rw [Heap.size_push]
          intro hm
          rcases List.mem_cons.mp hm with e | hm
          · exact Nat.ne_of_lt (Nat.lt_succ_self _) e
          · exact Nat.ne_of_gt hlS (List.mem_singleton.mp hm)
        have hval : ∀ (i : Nat) (v : Value), items[i]? = some v → ∃ k t, ns[i]? = some k ∧ v = .int k t := fun i v hv => by
          have hi : i < ns.length := by
            rw [← hisz]
            exact (Array.getElem?_eq_some_iff.mp hv).1
          obtain ⟨t, e⟩ := PyProof.Rows.IntsAre.int_at hit i v (by rw [Array.getElem?_toList]; exact hv)
          exact ⟨ns[i], t, List.getElem?_eq_getElem hi, by rw [e, List.getD_eq_getElem?_getD, List.getElem?_eq_getElem hi] <;> rfl⟩
        refine set_update_ints ((Walks.list hh3 _ l hneI items).toS) s.heap.objs.size hSf ns hisz hb hval (items.size - 0) 0 _ (by omega) (Nat.zero_le _) ⟨⟨_, Heap.get?_push_size _ rfl, rfl, rfl⟩, (hl1.push _)⟩ ⟨0, Nat.le_refl 0, setR_new_at (Heap.get?_push_of_some _ hS)⟩ fun s' c' hm hc' hS' => ?_
        obtain ⟨h', g2, d', tk', os'⟩ := s'
        have eg : g2 = s.gens := hm.gens
        have ed : d' = s.drawn := hm.drawn
        have eo : os' = s.os := hm.os
        subst eg ed eo
        show wpAny _ _ _ _ _ _
        refine wpAny_pure ?_
        show wpAny _ _ (ret Value.none) _ _ _
        rw [hisz] at hc'
        refine wpAny_pure ⟨rfl, h', tk', c', rfl, hS', hc', fun b o e => ?_⟩
        have hb0 : b < s.heap.objs.size := Heap.lt_size e
        refine hm.heap b o (fun hmem => ?_) (Heap.get?_push_of_some _ (Heap.get?_push_of_some _ e))
        rcases List.mem_cons.mp hmem with q | hmem
        · exact Nat.ne_of_lt hb0 q
        · rw [List.mem_singleton.mp hmem, Heap.size_push] at hb0
          exact absurd hb0 (Nat.not_lt_of_lt (Nat.lt_succ_self _))
      · cases r₂ with
        | error e => exact hr₂
        | ok fl₂ =>
          cases fl₂ with
          | ret r =>
            obtain ⟨rfl, h', tk, c', rfl, hS', hc', hk'⟩ := hr₂
            repeat (any_goals (first | assumption | wp_step))
            exact h _ _ _ hS' hc' hk'
          | _ => exact hr₂.elim
    | _ => exact hr.elim
end
def rSetL (K : PySem.W.Frag) (w : World) : List V → Hp → VK → Prop := fun xs H Q => ∃ (l : Addr) (ns : List Int), xs = [V.ref l] ∧ SqL K H l (ns.map V.int) ∧ ns.length < 60 ∧
  ∀ a n, H a = none → n ≤ ns.length → Q (.ref a) (upd H a (SetO w a (fun j => decide (j ∈ ns)) n))
theorem cr_setL {X : Cx} (hc : X.calm = true) : CallR X (.type "set") (rSetL X.K X.w) := by
  intro pins s σ H xs us Q I r h
  obtain ⟨l, ns, rfl, hl, hf, q⟩ := h
  rw [Vals.ref1 r]
  obtain ⟨its, rv, pl, hz⟩ := I.list hl
  have hn : H s.heap.objs.size = none := I.hok.fresh (Nat.le_refl _)
  refine call_set_lstI ns (I.ok.hd hc) pl.isList (by simpa using rv.ints) (by unfold scanBound; omega) fun h' tk c R hcl k => ?_
  exact ⟨.ref s.heap.objs.size, upd H s.heap.objs.size (SetO X.w s.heap.objs.size (fun j => decide (j ∈ ns)) c), I.laid (t' := tk) k (Nat.le_refl _) (setO_new R), rfl, q _ c hn hcl⟩
end SLi
end

section
/-! The program's text by places, what the top leaves of it, heaps -/
namespace DW
open PySem PySem.Spec PyProof.Rows L2
def topS (i : Nat) : Stmt := PySem.Challenge.pw_damworks_k09_whole_best_plans.main.body.getD i (.Pass ⟨0, 0, 0, 0⟩)

/-- a def of the text; its code object stands at c -/
structure FunC (K : PySem.W.Frag) (x : Str) (st : Stmt) (f : Addr) (fd : FuncData) (c : Addr) : Prop where
  ex : ∃ (oc : Value) (od : Option Addr) (kV doc pm : Value) (an : Option Addr) (ct : Value) (osl : Array (Option Value)),
    fd = PySem.W.fnOf x x (defArgs st) (defBody st) (defScope st) .none kV doc pm an (.ref c) ct ∧ K.lookup f = some ⟨oc, od, .func fd, osl⟩ ∧ PySem.W.codeIn K (.ref c) x = true
  kp : PySem.W.keepIn K (.ref f) = true
theorem FunC.fn {K : PySem.W.Frag} {x : Str} {st : Stmt} {f : Addr} {fd : FuncData} {c : Addr} (F : FunC K x st f fd c) : Fun K x x st f fd := by
  obtain ⟨oc, od, kV, doc, pm, an, ct, osl, e, l, h⟩ := F.ex
  exact ⟨⟨oc, od, kV, doc, pm, an, .ref c, ct, osl, e, l, h⟩, F.kp⟩
section
variable {P : Program} {w : World} {K : PySem.W.Frag} {mg : Str → Option Value} {base : Heap}
/-- a def by its body, from which nothing is let out -/
theorem FunC.ok {x : Str} {st : Stmt} {f : Addr} {fd : FuncData} {c : Addr} {N ps : List Str} {k : Nat} {sp : Sp} (F : FunC K x st f fd c) (S : FnScope N ps (defScope st)) (len : ∀ vs H Q E, sp vs H Q E → vs.length = ps.length)
    (hbody : ∀ (A : Around) (outer : List Env) (s : Shared) (H : Hp) (vs : List V) (Q : VK) (E : XK), Room k (A.deeper (envOfC x (defScope st) s.heap.objs.size f (.ref c))) → sp vs H Q E →
      ∃ t, PSs (cxOf CX0 P w K mg base N x (defScope st) f (.ref c) A outer s H E).nox (defBody st) t ∧ t { nx := fun _ H' => Q .non H', rt := Q } (start N vs) H) : FnOk P w K mg base CX0 (k + 1) f fd ps sp := by
  obtain ⟨oc, od, kV, doc, pm, an, ct, osl, rfl, lk, hcd⟩ := F.ex
  refine fn_of lk hcd S len fun A outer s H vs Q E hr hsp => ?_
  obtain ⟨t, h, q⟩ := hbody A outer s H vs Q E hr hsp
  exact ⟨t, h.nox, q⟩
/-- a def that may raise -/
theorem FunC.okX {x : Str} {st : Stmt} {f : Addr} {fd : FuncData} {c : Addr} {N ps : List Str} {k : Nat} {sp : Sp} (F : FunC K x st f fd c) (S : FnScope N ps (defScope st)) (len : ∀ vs H Q E, sp vs H Q E → vs.length = ps.length)
    (hbody : ∀ (A : Around) (outer : List Env) (s : Shared) (H : Hp) (vs : List V) (Q : VK) (E : XK), Room k (A.deeper (envOfC x (defScope st) s.heap.objs.size f (.ref c))) → sp vs H Q E →
      ∃ t, PSs (cxOf (L2.CX P w) P w K mg base N x (defScope st) f (.ref c) A outer s H E) (defBody st) t ∧ t { nx := fun _ H' => Q .non H', rt := Q } (start N vs) H) : FnOk P w K mg base (L2.CX P w) (k + 1) f fd ps sp := by
  obtain ⟨oc, od, kV, doc, pm, an, ct, osl, rfl, lk, hcd⟩ := F.ex
  exact fn_of lk hcd S len fun A outer s H vs Q E hr hsp => hbody A outer s H vs Q E hr hsp
end
/-- where a def stands -/
structure DefAt (K : PySem.W.Frag) (mg : Str → Option Value) (x : Str) (i : Nat) (ps : List Str) where
  f : Addr
  fd : FuncData
  c : Addr
  F : FunC K x (topS i) f fd c
  g : mg x = some (.ref f)
  b : Binds K fd ps []
theorem DefAt.kp {K : PySem.W.Frag} {mg : Str → Option Value} {x : Str} {i : Nat} {ps : List Str} (D : DefAt K mg x i ps) : PySem.W.keepIn K (.ref D.f) = true := D.F.kp

/-! ### heaps -/
theorem same_new {H : Hp} {p : Addr} {o : HO} (h : H p = none) : Same H (upd H p o) := fun b x e => by
  rw [upd_ne (ne_of_none e h)]
  exact e
/-- tuples stay -/
def Keep (H H' : Hp) : Prop := ∀ b xs, H b = some (.tup xs) → H' b = some (.tup xs)
theorem Keep.refl (H : Hp) : Keep H H := fun _ _ h => h
theorem Keep.trans {H H1 H2 : Hp} (a : Keep H H1) (b : Keep H1 H2) : Keep H H2 := fun c o h => b c o (a c o h)
theorem Keep.of {H H' : Hp} (a : Same H H') : Keep H H' := fun b xs h => a b _ h
/-- all but the tables at ts stay; these grow -/
structure Ext (ts : List Addr) (H H' : Hp) : Prop where
  out : ∀ b o, H b = some o → b ∉ ts → H' b = some o
  tab : ∀ b, b ∈ ts → GxR.TabG H b → GxR.TabG H' b
def Tb (ts : List Addr) (H : Hp) : Prop := ∀ b, b ∈ ts → GxR.TabG H b
theorem Ext.refl (ts : List Addr) (H : Hp) : Ext ts H H := ⟨fun _ _ h _ => h, fun _ _ h => h⟩
theorem Ext.trans {ts : List Addr} {H H1 H2 : Hp} (a : Ext ts H H1) (b : Ext ts H1 H2) : Ext ts H H2 := ⟨fun c o h n => b.out c o (a.out c o h n) n, fun c m h => b.tab c m (a.tab c m h)⟩
theorem Ext.of {ts : List Addr} {H H' : Hp} (a : Same H H') : Ext ts H H' := ⟨fun b o h _ => a b o h, fun b _ ⟨ps, h, q⟩ => ⟨ps, a b _ h, q⟩⟩
theorem Ext.new {ts : List Addr} {H : Hp} {p : Addr} {o : HO} (h : H p = none) : Ext ts H (upd H p o) := .of (same_new h)
theorem Ext.tb {ts : List Addr} {H H' : Hp} (e : Ext ts H H') (t : Tb ts H) : Tb ts H' := fun b m => e.tab b m (t b m)
theorem Tb.same {ts : List Addr} {H H' : Hp} (t : Tb ts H) (e : Same H H') : Tb ts H' := (Ext.of e).tb t
theorem Ext.at {ts : List Addr} {H H' : Hp} (e : Ext ts H H') (t : Tb ts H) {b : Addr} {o : HO} (h : H b = some o) (n : ∀ ps, o ≠ .tbl ps) : H' b = some o := e.out b o h fun m => by
  obtain ⟨ps, q, _⟩ := t b m
  rw [h] at q
  exact n ps (Option.some.inj q)
theorem Ext.keep {ts : List Addr} {H H' : Hp} (e : Ext ts H H') (t : Tb ts H) : Keep H H' := fun b xs h => e.at t h (fun ps z => by cases z)
theorem Ext.tabbed {ts : List Addr} {H H' : Hp} {P : Addr} (m : GxR.Tabbed P H H') (hP : P ∈ ts) : Ext ts H H' := by
  obtain ⟨h1, h2⟩ := m
  refine ⟨fun b o h n => ?_, fun b hb h => ?_⟩
  · rw [h2 b fun z => n (by rw [z]; exact hP)]
    exact h
  · by_cases z : b = P
    · rw [z]
      exact h1
    · obtain ⟨ps, q, r⟩ := h
      exact ⟨ps, by rw [h2 b z]; exact q, r⟩
theorem Keep.sqT {K : PySem.W.Frag} {H H' : Hp} {a : Addr} {xs : List V} (k : Keep H H') (h : H a = some (.tup xs)) : SqT K H' a xs := SqT.of (k _ _ h)

/-! ### the things of the program -/
/-- a tuple of ints -/
def TupI (H : Hp) (a : Addr) (ns : List Int) : Prop := H a = some (.tup (ns.map V.int))
theorem TupI.keep {H H' : Hp} {a : Addr} {ns : List Int} (h : TupI H a ns) (k : Keep H H') : TupI H' a ns := k _ _ h
/-- the ratio k, one object -/
def Rat1 (H : Hp) (v : V) (k : Int) : Prop := ∃ a, v = .ref a ∧ H a = some (.tup [.int k, .int 1])
theorem Rat1.keep {H H' : Hp} {v : V} {k : Int} (h : Rat1 H v k) (e : Keep H H') : Rat1 H' v k := by
  obtain ⟨a, r, h⟩ := h
  exact ⟨a, r, e _ _ h⟩
/-- a dam -/
def DamAt (H : Hp) (a : Addr) (C s e : Int) (ins : List Int) : Prop := ∃ b, H a = some (.tup [.int C, .int s, .int e, .ref b]) ∧ TupI H b ins
theorem DamAt.keep {H H' : Hp} {a : Addr} {C s e : Int} {ins : List Int} (h : DamAt H a C s e ins) (k : Keep H H') : DamAt H' a C s e ins := by
  obtain ⟨b, h1, h2⟩ := h
  exact ⟨b, k _ _ h1, k _ _ h2⟩
/-- items of a sequence, each as F says -/
theorem paired_keep {α : Type} {F G : V → α → Prop} : ∀ {vs : List V} {xs : List α}, Paired F vs xs → (∀ v x, F v x → G v x) → Paired G vs xs
  | _, _, .nil, _ => .nil
  | _, _, .cons a b, h => .cons (h _ _ a) (paired_keep b h)
theorem paired_at {α : Type} {F : V → α → Prop} : ∀ {vs : List V} {xs : List α} {i : Nat} {v : V}, Paired F vs xs → vs[i]? = some v → ∃ x, xs[i]? = some x ∧ F v x
  | _, _, _, _, .nil, h => by simp at h
  | _, _, 0, _, .cons a _, h => by
    simp at h
    subst h
    exact ⟨_, rfl, a⟩
  | _, _, i + 1, _, .cons _ b, h => by
    obtain ⟨x, h1, h2⟩ := paired_at (i := i) b (by simpa using h)
    exact ⟨x, by simpa using h1, h2⟩
theorem paired_at2 {α : Type} {F : V → α → Prop} {vs : List V} {xs : List α} {i : Nat} {x : α} (h : Paired F vs xs) (e : xs[i]? = some x) : ∃ v, vs[i]? = some v ∧ F v x := by
  have hl := Paired.length h
  have hi : i < vs.length := by
    have := (List.getElem?_eq_some_iff.mp e).1
    omega
  obtain ⟨y, h1, h2⟩ := paired_at h (List.getElem?_eq_getElem hi)
  rw [e] at h1
  cases h1
  exact ⟨_, List.getElem?_eq_getElem hi, h2⟩
theorem paired_snoc {α : Type} {F : V → α → Prop} : ∀ {vs : List V} {xs : List α} {v : V} {x : α}, Paired F vs xs → F v x → Paired F (vs ++ [v]) (xs ++ [x])
  | _, _, _, _, .nil, h => .cons h .nil
  | _, _, _, _, .cons a b, h => .cons a (paired_snoc b h)
/-- a pair (amount, price) -/
def PcAt (H : Hp) (v : V) (p : Dam.Pc) : Prop := ∃ a, v = .ref a ∧ H a = some (.tup [.int p.1, .int p.2])
def PcsAt (H : Hp) (v : V) (ps : List Dam.Pc) : Prop := ∃ a vs, v = .ref a ∧ H a = some (.tup vs) ∧ Paired (PcAt H) vs ps
def WorAt (H : Hp) (a : Addr) (ws : List (List Dam.Pc)) : Prop := ∃ vs, H a = some (.tup vs) ∧ Paired (PcsAt H) vs ws
theorem PcAt.keep {H H' : Hp} {v : V} {p : Dam.Pc} (k : Keep H H') (h : PcAt H v p) : PcAt H' v p := by
  obtain ⟨a, r, h⟩ := h
  exact ⟨a, r, k _ _ h⟩
theorem PcsAt.keep {H H' : Hp} {v : V} {ps : List Dam.Pc} (k : Keep H H') (h : PcsAt H v ps) : PcsAt H' v ps := by
  obtain ⟨a, vs, r, h, p⟩ := h
  exact ⟨a, vs, r, k _ _ h, paired_keep p fun _ _ => PcAt.keep k⟩
theorem WorAt.keep {H H' : Hp} {a : Addr} {ws : List (List Dam.Pc)} (h : WorAt H a ws) (k : Keep H H') : WorAt H' a ws := by
  obtain ⟨vs, h, p⟩ := h
  exact ⟨vs, k _ _ h, paired_keep p fun _ _ => PcsAt.keep k⟩
/-- a tuple of ratios -/
def PlanAt (H : Hp) (a : Addr) (rs : List Int) : Prop := ∃ vs, H a = some (.tup vs) ∧ Paired (Rat1 H) vs rs
theorem PlanAt.keep {H H' : Hp} {a : Addr} {rs : List Int} (h : PlanAt H a rs) (k : Keep H H') : PlanAt H' a rs := by
  obtain ⟨vs, h, p⟩ := h
  exact ⟨vs, k _ _ h, paired_keep p fun _ _ q => q.keep k⟩

/-! ### sizes -/
theorem sz {n : Nat} (h : n ≤ 1000) : n ≤ sizeLine := Nat.le_of_lt (small1000 h)
theorem fdiv_one (t : Int) : t.fdiv 1 = t := Int.fdiv_one t
end DW
end

section
/-! What the top leaves: where each def stands, that the built-in names are free, the constants -/
namespace DW
open PySem PySem.Spec PyProof.Rows L2
structure Txt (K : PySem.W.Frag) (mg : Str → Option Value) where
  d_ratio : DefAt K mg "ratio" 8 ["top", "bottom"]
  d_plus : DefAt K mg "plus" 9 ["one", "other"]
  d_minus : DefAt K mg "minus" 10 ["one", "other"]
  d_by : DefAt K mg "by" 11 ["one", "other"]
  d_less : DefAt K mg "less" 12 ["one", "other"]
  d_is_ratio : DefAt K mg "is_ratio" 13 ["value"]
  d_is_in : DefAt K mg "is_in" 18 ["value", "least", "most"]
  d_are_flows : DefAt K mg "are_flows" 19 ["value"]
  d_need_dam : DefAt K mg "need_dam" 20 ["dam"]
  d_most_held : DefAt K mg "most_held" 21 ["dam"]
  d_need_plans : DefAt K mg "need_plans" 22 ["dam"]
  d_levels_of : DefAt K mg "levels_of" 23 ["dam", "plan"]
  d_is_plan : DefAt K mg "is_plan" 24 ["dam", "value"]
  d_run_of : DefAt K mg "run_of" 25 ["dam", "demands"]
  d_water_of : DefAt K mg "water_of" 27 ["dam", "first", "last"]
  d_spans : DefAt K mg "spans" 28 ["months"]
  d_is_piece : DefAt K mg "is_piece" 32 ["value"]
  d_are_pieces : DefAt K mg "are_pieces" 33 ["value"]
  d_need_worths : DefAt K mg "need_worths" 34 ["dam", "worths"]
  d_month_worth : DefAt K mg "month_worth" 35 ["pieces", "release"]
  d_worth_of : DefAt K mg "worth_of" 36 ["worths", "plan"]
  d_plan_worth : DefAt K mg "plan_worth" 37 ["dam", "worths", "plan"]
  d_pieces_of : DefAt K mg "pieces_of" 38 ["worths"]
  d_room_for : DefAt K mg "room_for" 39 ["dam", "given", "month"]
  d_given_of : DefAt K mg "given_of" 40 ["dam", "worths"]
  d_best_of : DefAt K mg "best_of" 41 ["dam", "worths"]
  d_best_worth_of : DefAt K mg "best_worth_of" 42 ["dam", "worths"]
  d_best_worth : DefAt K mg "best_worth" 43 ["dam", "worths"]
  d_best_plan : DefAt K mg "best_plan" 44 ["dam", "worths"]
  d_open_prices : DefAt K mg "open_prices" 46 ["dam", "worths"]
  d_prices_of : DefAt K mg "prices_of" 47 ["dam", "worths"]
  d_water_prices : DefAt K mg "water_prices" 48 ["dam", "worths"]
  d_law_taken : DefAt K mg "_law_taken" 50 ["_law_row", "_law_many"]
  d_law_pick : DefAt K mg "_law_pick" 51 ["_law_row", "_law_things"]
  d_law_alike : DefAt K mg "_law_alike" 52 ["_law_found", "_law_due"]
  d_law_ratio : DefAt K mg "_law_ratio" 53 ["_law_top", "_law_bottom"]
  d_law_plus : DefAt K mg "_law_plus" 54 ["_law_one", "_law_other"]
  d_law_by : DefAt K mg "_law_by" 55 ["_law_one", "_law_other"]
  d_law_less : DefAt K mg "_law_less" 57 ["_law_one", "_law_other"]
  d_law_is_ratio : DefAt K mg "_law_is_ratio" 58 ["_law_value"]
  d_law_flow : DefAt K mg "_law_flow" 59 ["_law_row"]
  d_law_dam : DefAt K mg "_law_dam" 60 ["_law_row", "_law_most"]
  d_law_most_held : DefAt K mg "_law_most_held" 62 ["_law_dam_here"]
  d_law_levels : DefAt K mg "_law_levels" 63 ["_law_dam_here", "_law_plan"]
  d_law_told : DefAt K mg "_law_told" 65 ["_law_work"]
  d_law_worths : DefAt K mg "_law_worths" 66 ["_law_row", "_law_many"]
  d_law_worth : DefAt K mg "_law_worth" 67 ["_law_worths_here", "_law_plan"]
  d_law_bound : DefAt K mg "_law_bound" 68 ["_law_dam_here", "_law_worths_here", "_law_prices"]
  d_law_are_prices : DefAt K mg "_law_are_prices" 69 ["_law_dam_here", "_law_value"]
  d_law : DefAt K mg "law" 70 ["_law_script"]
  n_len : mg "len" = none
  n_range : mg "range" = none
  n_min : mg "min" = none
  n_max : mg "max" = none
  n_sum : mg "sum" = none
  n_sorted : mg "sorted" = none
  n_tuple : mg "tuple" = none
  n_isinstance : mg "isinstance" = none
  n_int : mg "int" = none
  n_bool : mg "bool" = none
  n_list : mg "list" = none
  n_enumerate : mg "enumerate" = none
  n_zip : mg "zip" = none
  n_all : mg "all" = none
  n_any : mg "any" = none
  n_abs : mg "abs" = none
  n_set : mg "set" = none
  n_str : mg "str" = none
  gcd : mg "gcd" = some (.builtin "math.gcd")
  c_MOST_CAPACITY : ∃ t, mg "MOST_CAPACITY" = some (.int 1000 t)
  c_MOST_MONTHS : ∃ t, mg "MOST_MONTHS" = some (.int 12 t)
  c_MOST_FLOW : ∃ t, mg "MOST_FLOW" = some (.int 1000 t)
  c_MOST_PIECES : ∃ t, mg "MOST_PIECES" = some (.int 3 t)
  c_MOST_AMOUNT : ∃ t, mg "MOST_AMOUNT" = some (.int 1000 t)
  p_is_ratio : Addr
  p_are_flows : Addr
  p_need_dam : Addr
  p_is_plan : Addr
  p_is_piece : Addr
  p_are_pieces : Addr
def Txt.ts {K : PySem.W.Frag} {mg : Str → Option Value} (T : Txt K mg) : List Addr := [T.p_is_ratio, T.p_are_flows, T.p_need_dam, T.p_is_plan, T.p_is_piece, T.p_are_pieces]
/-- the code objects of the defs that hold generator expressions, over the base -/
structure Bs {K : PySem.W.Frag} {mg : Str → Option Value} (T : Txt K mg) (base : Heap) : Prop where
  is_ratio : GxR.TabB base mg T.d_is_ratio.c T.p_is_ratio
  are_flows : GxR.TabB base mg T.d_are_flows.c T.p_are_flows
  need_dam : GxR.TabB base mg T.d_need_dam.c T.p_need_dam
  is_plan : GxR.TabB base mg T.d_is_plan.c T.p_is_plan
  is_piece : GxR.TabB base mg T.d_is_piece.c T.p_is_piece
  are_pieces : GxR.TabB base mg T.d_are_pieces.c T.p_are_pieces
end DW
end

section
/-! walks of generator expressions -/
namespace DW
open PySem PySem.Spec PyProof.Rows L2
theorem gen_tup {K : PySem.W.Frag} {ts : List Addr} {p a : Addr} {ix : Nat} {tel : TE} {b : Bool} {σ : L2.St} {H : Hp} {Q : VK} {xs : List V} (hP : p ∈ ts) (tb : Tb ts H) (hT : H a = some (.tup xs))
    (hel : ∀ (i : Nat) v H', Ext ts H H' → xs[i]? = some v → tel (σ.set ix (some v)) H' fun u H3 => u = .bl b ∧ Ext ts H H3) (hq : ∀ H', Ext ts H H' → Q (.bl b) H') :
    GA.genR p ix tel b σ Q (Itt K a) H := by
  refine ⟨tb p hP, fun H2 m => ⟨xs.length, fun _ H' => Ext ts H H', fun H' => Ext ts H H', ⟨Ext.tabbed m hP, fun i H' hi hp => ?_, fun H' hp => ⟨⟨xs, SqT.of (hp.keep tb _ _ hT), Nat.le_refl _⟩, hp⟩⟩, fun H3 h => hq H3 h⟩⟩
  have hT' : H' a = some (.tup xs) := hp.keep tb _ _ hT
  refine ⟨⟨xs, _, SqT.of hT', List.getElem?_eq_getElem hi⟩, ?_⟩
  rintro v H2 ⟨rfl, hy⟩
  exact hel i v _ hp (hy xs (SqT.of hT'))
theorem gen_list {K : PySem.W.Frag} {ts : List Addr} {p a : Addr} {ix : Nat} {tel : TE} {b : Bool} {σ : L2.St} {H : Hp} {Q : VK} {xs : List V} (hP : p ∈ ts) (tb : Tb ts H) (hT : H a = some (.lst xs))
    (hel : ∀ (i : Nat) v H', Ext ts H H' → xs[i]? = some v → tel (σ.set ix (some v)) H' fun u H3 => u = .bl b ∧ Ext ts H H3) (hq : ∀ H', Ext ts H H' → Q (.bl b) H') :
    GA.genR p ix tel b σ Q (Itl K a) H := by
  refine ⟨tb p hP, fun H2 m => ⟨xs.length, fun _ H' => Ext ts H H', fun H' => Ext ts H H', ⟨Ext.tabbed m hP, fun i H' hi hp => ?_, fun H' hp => ⟨⟨xs, SqL.of (hp.at tb hT (fun ps z => by cases z)), Nat.le_refl _⟩, hp⟩⟩, fun H3 h => hq H3 h⟩⟩
  have hT' : H' a = some (.lst xs) := hp.at tb hT (fun ps z => by cases z)
  refine ⟨⟨xs, _, SqL.of hT', List.getElem?_eq_getElem hi⟩, ?_⟩
  rintro v H2 ⟨rfl, hy⟩
  exact hel i v _ hp (hy xs (SqL.of hT'))
theorem gen_rng {ts : List Addr} {p : Addr} {ix n : Nat} {tel : TE} {b : Bool} {σ : L2.St} {H : Hp} {Q : VK} (hP : p ∈ ts) (tb : Tb ts H)
    (hel : ∀ (i : Nat) H', i < n → Ext ts H H' → tel (σ.set ix (some (.int (0 + (i : Int))))) H' fun u H3 => u = .bl b ∧ Ext ts H H3) (hq : ∀ H', Ext ts H H' → Q (.bl b) H') :
    GA.genR p ix tel b σ Q (Itr 0 n) H := by
  refine ⟨tb p hP, fun H2 m => ⟨n, fun _ H' => Ext ts H H', fun H' => Ext ts H H', ⟨Ext.tabbed m hP, fun i H' hi hp => ⟨hi, ?_⟩, fun H' hp => ⟨Nat.le_refl _, hp⟩⟩, fun H3 h => hq H3 h⟩⟩
  rintro v H2 ⟨rfl, rfl⟩
  exact hel i _ hi hp
theorem iteF' {c : Bool} {A B : Prop} (e : c = false) (h : B) : if c = true then A else B := by
  rw [e]
  exact iteF h
theorem iteT' {c : Bool} {A B : Prop} (e : c = true) (h : A) : if c = true then A else B := by
  rw [e]
  exact iteT h
theorem Txt.m_is_ratio {K : PySem.W.Frag} {mg : Str → Option Value} (T : Txt K mg) : T.p_is_ratio ∈ T.ts := by simp [Txt.ts]
theorem Txt.m_are_flows {K : PySem.W.Frag} {mg : Str → Option Value} (T : Txt K mg) : T.p_are_flows ∈ T.ts := by simp [Txt.ts]
theorem Txt.m_need_dam {K : PySem.W.Frag} {mg : Str → Option Value} (T : Txt K mg) : T.p_need_dam ∈ T.ts := by simp [Txt.ts]
theorem Txt.m_is_plan {K : PySem.W.Frag} {mg : Str → Option Value} (T : Txt K mg) : T.p_is_plan ∈ T.ts := by simp [Txt.ts]
theorem Txt.m_is_piece {K : PySem.W.Frag} {mg : Str → Option Value} (T : Txt K mg) : T.p_is_piece ∈ T.ts := by simp [Txt.ts]
theorem Txt.m_are_pieces {K : PySem.W.Frag} {mg : Str → Option Value} (T : Txt K mg) : T.p_are_pieces ∈ T.ts := by simp [Txt.ts]
/-! rules whose frame is named (within elements) -/
section
variable {X : Cx} {K : PySem.W.Frag}
theorem isiK (e : X.K = K) : CallR X (.builtin "isinstance") (rIsi K) := e ▸ call_isi
theorem lenK (e : X.K = K) : CallR X (.builtin "len") (fun xs H Q => ∃ p ys, xs = [.ref p] ∧ (SqL K H p ys ∨ SqT K H p ys) ∧ Q (.int ys.length) H) := e ▸ call_len_seq
theorem ixTK (e : X.K = K) : IxR X (rIxT K) := e ▸ ix_tup
theorem ixLK (e : X.K = K) : IxR X (rIxL K) := e ▸ ix_list
theorem pg_tupK {es : List Expr} {k : Nat} {t : TGs} {n : Nat} {pos : Pos} (e : X.K = K) (hc : X.calm = true) (h : PGs X es t) (hn : (assignEach es X.env).length = n := by rfl) (hst : (assignEach es X.env).findIdx? (·.1) = none := by rfl) :
    PG X (.Tuple es k pos) (gTup K n t) := e ▸ pg_tup hc h hn hst
theorem pi_tupK {tg l : Expr} {tl : TE} (e : X.K = K) (hl : PE X l tl) : PI X tg l (iTup K tl) := e ▸ pi_tup hl
theorem pi_listK {tg l : Expr} {tl : TE} (e : X.K = K) (hl : PE X l tl) : PI X tg l (iList K tl) := e ▸ pi_list hl
end
end DW
end

section
/-! ratios -/
namespace DW
open PySem PySem.Spec PyProof.Rows L2
section
variable {P : Program} {w : World} {K : PySem.W.Frag} {mg : Str → Option Value} {base : Heap}
theorem sc_ratio : FnScope ["top", "bottom", "common"] ["top", "bottom"] (defScope (topS 8)) := ⟨rfl, rfl, rfl, by decide +kernel, rfl, by decide +kernel, by decide +kernel⟩
def spRat : Sp := fun vs H Q _ => ∃ t : Int, vs = [.int t, .int 1] ∧ ∀ H' p, Same H H' → H p = none → H' p = some (.tup [.int t, .int 1]) → Q (.ref p) H'
theorem gcd1 (a : Int) : ((Nat.gcd a.natAbs (1 : Int).natAbs : Nat) : Int) = 1 := by
  show ((Nat.gcd a.natAbs 1 : Nat) : Int) = 1
  rw [Nat.gcd_one_right]
  rfl
theorem ok_ratio (T : Txt K mg) : FnOk P w K mg base CX0 1 T.d_ratio.f T.d_ratio.fd ["top", "bottom"] spRat := by
  refine T.d_ratio.F.ok sc_ratio (fun vs H Q E h => ?_) (fun A outer s H vs Q E hr h => ?_)
  · obtain ⟨t, rfl, _⟩ := h
    rfl
  · obtain ⟨t, rfl, q⟩ := h
    refine ⟨_, (pss_cons (ps_set (i := 2) sc_ratio.nd rfl (.inl rfl) (pe_ifExp (pt_cmpR op_gt (pv 1) pe_int (nomark _)) (pe_callBfun cr_gcd rfl T.gcd (pa_cons (pv 0) (pa_cons (pv 1) pa_nil))) (pe_op op_sub pe_int (pe_callBfun cr_gcd rfl T.gcd (pa_cons (pv 0) (pa_cons (pv 1) pa_nil))))))
      (pss_one (ps_ret (pe_tup (pa_cons (pe_op op_fdivN (pv 0) (pv 2)) (pa_cons (pe_op op_fdivN (pv 1) (pv 2)) pa_nil)))))), ?_⟩
    refine ⟨_, rfl, _, _, rfl, rfl, _, rfl, ?_⟩
    refine iteT ?_
    refine ⟨_, rfl, _, rfl, _, _, rfl, ?_⟩
    rw [gcd1]
    refine ⟨_, rfl, _, rfl, _, _, rfl, rfl, ⟨by decide, by decide⟩, _, rfl, _, rfl, _, _, rfl, rfl, ⟨by decide, by decide⟩, by show 2 ≤ sizeLine; decide, fun p hp => ?_⟩
    refine q _ p (same_new hp) hp ?_
    rw [upd_same]
    show some (HO.tup [V.int (t.fdiv 1), V.int ((1 : Int).fdiv 1)]) = _
    rw [Int.fdiv_one, Int.fdiv_one]
theorem sc_plus : FnScope ["one", "other"] ["one", "other"] (defScope (topS 9)) := ⟨rfl, rfl, rfl, by decide +kernel, rfl, by decide +kernel, by decide +kernel⟩
theorem sc_minus : FnScope ["one", "other"] ["one", "other"] (defScope (topS 10)) := ⟨rfl, rfl, rfl, by decide +kernel, rfl, by decide +kernel, by decide +kernel⟩
theorem sc_by : FnScope ["one", "other"] ["one", "other"] (defScope (topS 11)) := ⟨rfl, rfl, rfl, by decide +kernel, rfl, by decide +kernel, by decide +kernel⟩
theorem sc_less : FnScope ["one", "other"] ["one", "other"] (defScope (topS 12)) := ⟨rfl, rfl, rfl, by decide +kernel, rfl, by decide +kernel, by decide +kernel⟩
def spTwo (op : Int → Int → Int) (C : Int → Int → Prop) : Sp := fun vs H Q _ => ∃ (a b : Addr) (i j : Int), vs = [.ref a, .ref b] ∧ H a = some (.tup [.int i, .int 1]) ∧ H b = some (.tup [.int j, .int 1]) ∧ C i j ∧
  ∀ H' p, Same H H' → H p = none → H' p = some (.tup [.int (op i j), .int 1]) → Q (.ref p) H'
theorem lit1 : (-(2 ^ 64) : Int) < 1 ∧ (1 : Int) < 2 ^ 64 := by decide
theorem ok_plus (T : Txt K mg) : FnOk P w K mg base CX0 2 T.d_plus.f T.d_plus.fd ["one", "other"] (spTwo (fun i j => i + j) fun _ _ => True) := by
  have G_ratio : FnOk P w K mg base CX0 1 T.d_ratio.f T.d_ratio.fd ["top", "bottom"] spRat := ok_ratio T
  refine T.d_plus.F.ok sc_plus (fun vs H Q E h => ?_) (fun A outer s H vs Q E hr h => ?_)
  · obtain ⟨a, b, i, j, rfl, _⟩ := h
    rfl
  · obtain ⟨a, b, i, j, rfl, ha, hb, _, q⟩ := h
    refine ⟨_, (pss_one (ps_ret (pe_call G_ratio (hr.mono (by decide)) (by rfl) T.d_ratio.g T.d_ratio.kp T.d_ratio.b .nil pass0 (pa_cons (pe_op op_add (pe_op op_mul (pe_ix ix_tup (pv 0) pe_int (fun _ _ => rfl)) (pe_ix ix_tup (pv 1) pe_int (fun _ _ => rfl))) (pe_op op_mul (pe_ix ix_tup (pv 1) pe_int (fun _ _ => rfl)) (pe_ix ix_tup (pv 0) pe_int (fun _ _ => rfl)))) (pa_cons (pe_op op_mul (pe_ix ix_tup (pv 0) pe_int (fun _ _ => rfl)) (pe_ix ix_tup (pv 1) pe_int (fun _ _ => rfl))) pa_nil))))), ?_⟩
    refine ⟨_, rfl, _, _, _, _, rfl, rfl, SqT.of ha, rfl, _, rfl, _, _, _, _, rfl, rfl, SqT.of hb, rfl, _, _, rfl, rfl, .inr lit1, ?_⟩
    refine ⟨_, rfl, _, _, _, _, rfl, rfl, SqT.of hb, rfl, _, rfl, _, _, _, _, rfl, rfl, SqT.of ha, rfl, _, _, rfl, rfl, .inr lit1, _, _, rfl, rfl, ?_⟩
    refine ⟨_, rfl, _, _, _, _, rfl, rfl, SqT.of ha, rfl, _, rfl, _, _, _, _, rfl, rfl, SqT.of hb, rfl, _, _, rfl, rfl, .inr lit1, i + j, ?_, ?_⟩
    · show [V.int (i * 1 + j * 1), V.int (1 * 1)] = _
      rw [Int.mul_one, Int.mul_one]
      rfl
    · exact q
theorem ok_minus (T : Txt K mg) : FnOk P w K mg base CX0 2 T.d_minus.f T.d_minus.fd ["one", "other"] (spTwo (fun i j => i - j) fun _ _ => True) := by
  have G_ratio : FnOk P w K mg base CX0 1 T.d_ratio.f T.d_ratio.fd ["top", "bottom"] spRat := ok_ratio T
  refine T.d_minus.F.ok sc_minus (fun vs H Q E h => ?_) (fun A outer s H vs Q E hr h => ?_)
  · obtain ⟨a, b, i, j, rfl, _⟩ := h
    rfl
  · obtain ⟨a, b, i, j, rfl, ha, hb, _, q⟩ := h
    refine ⟨_, (pss_one (ps_ret (pe_call G_ratio (hr.mono (by decide)) (by rfl) T.d_ratio.g T.d_ratio.kp T.d_ratio.b .nil pass0 (pa_cons (pe_op op_sub (pe_op op_mul (pe_ix ix_tup (pv 0) pe_int (fun _ _ => rfl)) (pe_ix ix_tup (pv 1) pe_int (fun _ _ => rfl))) (pe_op op_mul (pe_ix ix_tup (pv 1) pe_int (fun _ _ => rfl)) (pe_ix ix_tup (pv 0) pe_int (fun _ _ => rfl)))) (pa_cons (pe_op op_mul (pe_ix ix_tup (pv 0) pe_int (fun _ _ => rfl)) (pe_ix ix_tup (pv 1) pe_int (fun _ _ => rfl))) pa_nil))))), ?_⟩
    refine ⟨_, rfl, _, _, _, _, rfl, rfl, SqT.of ha, rfl, _, rfl, _, _, _, _, rfl, rfl, SqT.of hb, rfl, _, _, rfl, rfl, .inr lit1, ?_⟩
    refine ⟨_, rfl, _, _, _, _, rfl, rfl, SqT.of hb, rfl, _, rfl, _, _, _, _, rfl, rfl, SqT.of ha, rfl, _, _, rfl, rfl, .inr lit1, _, _, rfl, rfl, ?_⟩
    refine ⟨_, rfl, _, _, _, _, rfl, rfl, SqT.of ha, rfl, _, rfl, _, _, _, _, rfl, rfl, SqT.of hb, rfl, _, _, rfl, rfl, .inr lit1, i - j, ?_, ?_⟩
    · show [V.int (i * 1 - j * 1), V.int (1 * 1)] = _
      rw [Int.mul_one, Int.mul_one]
      rfl
    · exact q
def CMul : Int → Int → Prop := fun i j => (-(2 ^ 64) < i ∧ i < 2 ^ 64) ∨ (-(2 ^ 64) < j ∧ j < 2 ^ 64)
theorem ok_by (T : Txt K mg) : FnOk P w K mg base CX0 2 T.d_by.f T.d_by.fd ["one", "other"] (spTwo (fun i j => i * j) CMul) := by
  have G_ratio : FnOk P w K mg base CX0 1 T.d_ratio.f T.d_ratio.fd ["top", "bottom"] spRat := ok_ratio T
  refine T.d_by.F.ok sc_by (fun vs H Q E h => ?_) (fun A outer s H vs Q E hr h => ?_)
  · obtain ⟨a, b, i, j, rfl, _⟩ := h
    rfl
  · obtain ⟨a, b, i, j, rfl, ha, hb, hc, q⟩ := h
    refine ⟨_, (pss_one (ps_ret (pe_call G_ratio (hr.mono (by decide)) (by rfl) T.d_ratio.g T.d_ratio.kp T.d_ratio.b .nil pass0 (pa_cons (pe_op op_mul (pe_ix ix_tup (pv 0) pe_int (fun _ _ => rfl)) (pe_ix ix_tup (pv 1) pe_int (fun _ _ => rfl))) (pa_cons (pe_op op_mul (pe_ix ix_tup (pv 0) pe_int (fun _ _ => rfl)) (pe_ix ix_tup (pv 1) pe_int (fun _ _ => rfl))) pa_nil))))), ?_⟩
    refine ⟨_, rfl, _, _, _, _, rfl, rfl, SqT.of ha, rfl, _, rfl, _, _, _, _, rfl, rfl, SqT.of hb, rfl, _, _, rfl, rfl, hc, ?_⟩
    exact ⟨_, rfl, _, _, _, _, rfl, rfl, SqT.of ha, rfl, _, rfl, _, _, _, _, rfl, rfl, SqT.of hb, rfl, _, _, rfl, rfl, .inr lit1, i * j, rfl, q⟩
def spLess : Sp := fun vs H Q _ => ∃ (a b : Addr) (i j : Int), vs = [.ref a, .ref b] ∧ H a = some (.tup [.int i, .int 1]) ∧ H b = some (.tup [.int j, .int 1]) ∧ Q (.bl (decide (i < j))) H
theorem ok_less (T : Txt K mg) : FnOk P w K mg base CX0 1 T.d_less.f T.d_less.fd ["one", "other"] spLess := by
  refine T.d_less.F.ok sc_less (fun vs H Q E h => ?_) (fun A outer s H vs Q E hr h => ?_)
  · obtain ⟨a, b, i, j, rfl, _⟩ := h
    rfl
  · obtain ⟨a, b, i, j, rfl, ha, hb, q⟩ := h
    refine ⟨_, (pss_one (ps_ret (pe_cmpR op_lt (pe_op op_mul (pe_ix ix_tup (pv 0) pe_int (fun _ _ => rfl)) (pe_ix ix_tup (pv 1) pe_int (fun _ _ => rfl))) (pe_op op_mul (pe_ix ix_tup (pv 1) pe_int (fun _ _ => rfl)) (pe_ix ix_tup (pv 0) pe_int (fun _ _ => rfl))) (nomark _)))), ?_⟩
    refine ⟨_, rfl, _, _, _, _, rfl, rfl, SqT.of ha, rfl, _, rfl, _, _, _, _, rfl, rfl, SqT.of hb, rfl, _, _, rfl, rfl, .inr lit1, ?_⟩
    refine ⟨_, rfl, _, _, _, _, rfl, rfl, SqT.of hb, rfl, _, rfl, _, _, _, _, rfl, rfl, SqT.of ha, rfl, _, _, rfl, rfl, .inr lit1, _, _, rfl, rfl, ?_⟩
    show Q (.bl (decide (i * 1 < j * 1))) H
    rw [Int.mul_one, Int.mul_one]
    exact q
theorem sc_is_in : FnScope ["value", "least", "most"] ["value", "least", "most"] (defScope (topS 18)) := ⟨rfl, rfl, rfl, by decide +kernel, rfl, by decide +kernel, by decide +kernel⟩
def spIn : Sp := fun vs H Q _ => ∃ v l m : Int, vs = [.int v, .int l, .int m] ∧ l ≤ v ∧ v ≤ m ∧ Q (.bl true) H
theorem ok_is_in (T : Txt K mg) : FnOk P w K mg base CX0 1 T.d_is_in.f T.d_is_in.fd ["value", "least", "most"] spIn := by
  refine T.d_is_in.F.ok sc_is_in (fun vs H Q E h => ?_) (fun A outer s H vs Q E hr h => ?_)
  · obtain ⟨v, l, m, rfl, _⟩ := h
    rfl
  · obtain ⟨v, l, m, rfl, h1, h2, q⟩ := h
    refine ⟨_, (pss_one (ps_ret (pe_and (pe_callB call_isi (by rfl) T.n_isinstance (by decide +kernel) (pa_cons (pv 0) (pa_cons (pe_bltn (v := .ty "int") (by rfl) T.n_int (by decide +kernel) rfl) pa_nil))) (pe_and (pe_not (pe_callB call_isi (by rfl) T.n_isinstance (by decide +kernel) (pa_cons (pv 0) (pa_cons (pe_bltn (v := .ty "bool") (by rfl) T.n_bool (by decide +kernel) rfl) pa_nil)))) (pe_one (pe_chain op_le op_le (pv 1) (pv 0) (pv 2))))))), ?_⟩
    refine ⟨_, rfl, _, _, _, _, true, rfl, .ty _, .base (.int _), kit_ty (by decide +kernel), _, rfl, iteT ?_⟩
    refine ⟨_, rfl, _, _, _, _, false, rfl, .ty _, .base (.int _), kit_ty (by decide +kernel), _, rfl, _, rfl, iteT ?_⟩
    refine ⟨_, rfl, _, rfl, _, _, rfl, rfl, _, rfl, ?_⟩
    refine iteT' (decide_eq_true h1) ?_
    refine ⟨_, rfl, _, _, rfl, rfl, ?_⟩
    show Q (.bl (decide (v ≤ m))) H
    rw [decide_eq_true h2]
    exact q
end
end DW
end

section
/-! dams -/
namespace DW
open PySem PySem.Spec PyProof.Rows L2
theorem neInt {a b : Int} (h : a = b) : (!decide (V.int a = V.int b)) = false := by
  rw [h, decide_eq_true rfl]
  rfl
theorem eqInt {a b : Int} (h : a = b) : decide (V.int a = V.int b) = true := by
  rw [h, decide_eq_true rfl]
section
variable {P : Program} {w : World} {K : PySem.W.Frag} {mg : Str → Option Value} {base : Heap}
theorem sc_is_ratio : FnScope ["value", "one"] ["value"] (defScope (topS 13)) := ⟨rfl, rfl, rfl, by decide +kernel, rfl, by decide +kernel, by decide +kernel⟩
def spIsR (ts : List Addr) : Sp := fun vs H Q _ => ∃ v k, vs = [v] ∧ Rat1 H v k ∧ Tb ts H ∧ ∀ H', Ext ts H H' → Q (.bl true) H'
theorem ok_is_ratio (T : Txt K mg) (B : Bs T base) : FnOk P w K mg base CX0 4 T.d_is_ratio.f T.d_is_ratio.fd ["value"] (spIsR T.ts) := by
  have TB := B.is_ratio
  refine T.d_is_ratio.F.ok sc_is_ratio (fun vs H Q E h => ?_) (fun A outer s H vs Q E hr h => ?_)
  · obtain ⟨v, k, rfl, _⟩ := h
    rfl
  · obtain ⟨v, k, rfl, ⟨a, rfl, h⟩, tb, q⟩ := h
    refine ⟨_, (pss_cons (ps_if (PW.pt (pw_or (pt_not (pt_val (pe_callB call_isi (by rfl) T.n_isinstance (by decide +kernel) (pa_cons (pv 0) (pa_cons (pe_bltn (v := .ty "tuple") (by rfl) T.n_tuple (by decide +kernel) rfl) pa_nil))))) (pw_or1 (pt_cmpR op_ne (pe_callB call_len_seq (by rfl) T.n_len PySem.boot_len (pa_cons (pv 0) pa_nil)) pe_int (nomark _))))) (pss_one (ps_ret pe_bl)) pss_nil)
      (pss_cons (ps_if (pt_not (pt_val (GA.pe_allG (k := 0) (ix := 1) (hr.mono (by decide)) rfl T.n_all TB rfl (GA.genC_by (N := ["value", "one"]) (sc := defScope (topS 13)) (by decide +kernel)) sc_is_ratio.nd (pi_tup (pv 0)) (fun _ _ _ _ _ hr => (pe_and (pe_callB (isiK (K := K) rfl) (by rfl) T.n_isinstance (by decide +kernel) (pa_cons (pv 1) (pa_cons (pe_bltn (v := .ty "int") (by rfl) T.n_int (by decide +kernel) rfl) pa_nil))) (pe_one (pe_not (pe_callB (isiK (K := K) rfl) (by rfl) T.n_isinstance (by decide +kernel) (pa_cons (pv 1) (pa_cons (pe_bltn (v := .ty "bool") (by rfl) T.n_bool (by decide +kernel) rfl) pa_nil)))))))))) (pss_one (ps_ret pe_bl)) pss_nil)
      (pss_one (ps_ret (pe_and (pe_cmpR op_gt (pe_ix ix_tup (pv 0) pe_int (fun _ _ => rfl)) pe_int (nomark _)) (pe_one (pe_cmpR op_eq (pe_callBfun cr_gcd rfl T.gcd (pa_cons (pe_ix ix_tup (pv 0) pe_int (fun _ _ => rfl)) (pa_cons (pe_ix ix_tup (pv 0) pe_int (fun _ _ => rfl)) pa_nil))) pe_int (nomark _)))))))), ?_⟩
    refine ⟨_, rfl, _, _, _, _, true, rfl, .ty _, .base (.tup h), kit_ty (by decide +kernel), _, rfl, iteF ?_⟩
    refine ⟨_, rfl, _, _, rfl, .inr (SqT.of h), rfl, _, rfl, iteF' (neInt rfl) ?_⟩
    refine ⟨_, rfl, _, rfl, ⟨_, SqT.of h⟩, gen_tup (ts := T.ts) T.m_is_ratio tb h (fun i v H' e hi => ?_) (fun H' e => ?_)⟩
    · have hv : ∃ n : Int, v = .int n := by
        match i, hi with
        | 0, hi => exact ⟨k, (Option.some.inj hi).symm⟩
        | 1, hi => exact ⟨1, (Option.some.inj hi).symm⟩
      obtain ⟨n, rfl⟩ := hv
      refine ⟨_, rfl, _, _, _, _, true, rfl, .ty _, .base (.int _), kit_ty (by decide +kernel), _, rfl, iteT ?_⟩
      exact ⟨_, rfl, _, _, _, _, false, rfl, .ty _, .base (.int _), kit_ty (by decide +kernel), _, rfl, rfl, e⟩
    · have h' := e.keep tb _ _ h
      refine ⟨_, rfl, iteF ?_⟩
      refine ⟨_, rfl, _, _, _, _, rfl, rfl, SqT.of h', rfl, _, _, rfl, rfl, _, rfl, iteT ?_⟩
      refine ⟨_, rfl, _, _, _, _, rfl, rfl, SqT.of h', rfl, _, rfl, _, _, _, _, rfl, rfl, SqT.of h', rfl, _, _, rfl, rfl, ?_⟩
      rw [gcd1, eqInt rfl]
      exact q H' e
theorem sc_are_flows : FnScope ["value", "one"] ["value"] (defScope (topS 19)) := ⟨rfl, rfl, rfl, by decide +kernel, rfl, by decide +kernel, by decide +kernel⟩
def spFlows (ts : List Addr) : Sp := fun vs H Q _ => ∃ a ns, vs = [.ref a] ∧ TupI H a ns ∧ 1 ≤ ns.length ∧ ns.length ≤ 12 ∧ (∀ n ∈ ns, 0 ≤ n ∧ n ≤ 1000) ∧ Tb ts H ∧ ∀ H', Ext ts H H' → Q (.bl true) H'
theorem ok_are_flows (T : Txt K mg) (B : Bs T base) : FnOk P w K mg base CX0 5 T.d_are_flows.f T.d_are_flows.fd ["value"] (spFlows T.ts) := by
  have TB := B.are_flows
  have G_is_in : FnOk P w K mg base CX0 1 T.d_is_in.f T.d_is_in.fd ["value", "least", "most"] spIn := ok_is_in T
  obtain ⟨t1, g_MOST_MONTHS⟩ := T.c_MOST_MONTHS
  obtain ⟨t2, g_MOST_FLOW⟩ := T.c_MOST_FLOW
  refine T.d_are_flows.F.ok sc_are_flows (fun vs H Q E h => ?_) (fun A outer s H vs Q E hr h => ?_)
  · obtain ⟨a, ns, rfl, _⟩ := h
    rfl
  · obtain ⟨a, ns, rfl, h, l1, l12, hb, tb, q⟩ := h
    have hlen : (ns.map V.int).length = ns.length := List.length_map ..
    refine ⟨_, (pss_cons (ps_if (PW.pt (pw_or (pt_not (pt_val (pe_callB call_isi (by rfl) T.n_isinstance (by decide +kernel) (pa_cons (pv 0) (pa_cons (pe_bltn (v := .ty "tuple") (by rfl) T.n_tuple (by decide +kernel) rfl) pa_nil))))) (pw_or1 (pt_not (pt_chain op_le op_le pe_int (pe_callB call_len_seq (by rfl) T.n_len PySem.boot_len (pa_cons (pv 0) pa_nil)) (pe_glob (v := .int 12) rfl g_MOST_MONTHS ⟨_, rfl⟩)))))) (pss_one (ps_ret pe_bl)) pss_nil)
      (pss_one (ps_ret (GA.pe_allG (k := 1) (ix := 1) (hr.mono (by decide)) rfl T.n_all TB rfl (GA.genC_by (N := ["value", "one"]) (sc := defScope (topS 19)) (by decide +kernel)) sc_are_flows.nd (pi_tup (pv 0)) (fun _ _ _ _ _ hr => (pe_call G_is_in (hr.mono (by decide)) (by rfl) T.d_is_in.g T.d_is_in.kp T.d_is_in.b .nil pass0 (pa_cons (pv 1) (pa_cons pe_int (pa_cons (pe_glob (v := .int 1000) rfl g_MOST_FLOW ⟨_, rfl⟩) pa_nil))))))))), ?_⟩
    refine ⟨_, rfl, _, _, _, _, true, rfl, .ty _, .base (.tup h), kit_ty (by decide +kernel), _, rfl, iteF ?_⟩
    refine ⟨_, rfl, _, _, rfl, .inr (SqT.of h), _, _, rfl, rfl, _, rfl, iteT' (decide_eq_true (by rw [hlen]; omega)) ⟨_, _, rfl, rfl, _, rfl, iteF' (c := !decide _) (by rw [decide_eq_true (by rw [hlen]; omega)]; rfl) ?_⟩⟩
    refine ⟨_, rfl, _, rfl, ⟨_, SqT.of h⟩, gen_tup (ts := T.ts) T.m_are_flows tb h (fun i v H' e hi => ?_) (fun H' e => ?_)⟩
    · rw [List.getElem?_map] at hi
      obtain ⟨n, hn, rfl⟩ := Option.map_eq_some_iff.mp hi
      have := hb n (List.mem_of_getElem? hn)
      exact ⟨_, rfl, _, _, _, rfl, this.1, this.2, rfl, e⟩
    · exact q H' e
theorem sc_need_dam : FnScope ["dam", "one"] ["dam"] (defScope (topS 20)) := ⟨rfl, rfl, rfl, by decide +kernel, rfl, by decide +kernel, by decide +kernel⟩
structure DamOk (C s e : Int) (ins : List Int) : Prop where
  C0 : 0 ≤ C
  C1 : C ≤ 1000
  s0 : 0 ≤ s
  s1 : s ≤ C
  e0 : 0 ≤ e
  e1 : e ≤ C
  l1 : 1 ≤ ins.length
  l12 : ins.length ≤ 7
  fl : ∀ n ∈ ins, 0 ≤ n ∧ n ≤ 1000
def spNeedDam (ts : List Addr) : Sp := fun vs H Q _ => ∃ a C s e ins, vs = [.ref a] ∧ DamAt H a C s e ins ∧ DamOk C s e ins ∧ Tb ts H ∧ ∀ H', Ext ts H H' → Q .non H'
theorem ok_need_dam (T : Txt K mg) (B : Bs T base) : FnOk P w K mg base CX0 6 T.d_need_dam.f T.d_need_dam.fd ["dam"] (spNeedDam T.ts) := by
  have TB := B.need_dam
  have G_is_in : FnOk P w K mg base CX0 1 T.d_is_in.f T.d_is_in.fd ["value", "least", "most"] spIn := ok_is_in T
  have G_are_flows : FnOk P w K mg base CX0 5 T.d_are_flows.f T.d_are_flows.fd ["value"] (spFlows T.ts) := ok_are_flows T B
  obtain ⟨t1, g_MOST_CAPACITY⟩ := T.c_MOST_CAPACITY
  refine T.d_need_dam.F.ok sc_need_dam (fun vs H Q E h => ?_) (fun A outer s H vs Q E hr h => ?_)
  · obtain ⟨a, C, s, e, ins, rfl, _⟩ := h
    rfl
  · obtain ⟨a, C, st, en, ins, rfl, ⟨b, h, hI⟩, ok, tb, q⟩ := h
    refine ⟨_, (pss_cons (ps_if (PW.pt (pw_or (pt_not (pt_val (pe_callB call_isi (by rfl) T.n_isinstance (by decide +kernel) (pa_cons (pv 0) (pa_cons (pe_bltn (v := .ty "tuple") (by rfl) T.n_tuple (by decide +kernel) rfl) pa_nil))))) (pw_or (pt_cmpR op_ne (pe_callB call_len_seq (by rfl) T.n_len PySem.boot_len (pa_cons (pv 0) pa_nil)) pe_int (nomark _)) (pw_or1 (pt_not (pt_val (pe_call G_is_in (hr.mono (by decide)) (by rfl) T.d_is_in.g T.d_is_in.kp T.d_is_in.b .nil pass0 (pa_cons (pe_ix ix_tup (pv 0) pe_int (fun _ _ => rfl)) (pa_cons pe_int (pa_cons (pe_glob (v := .int 1000) rfl g_MOST_CAPACITY ⟨_, rfl⟩) pa_nil)))))))))) (pss_one ps_never) pss_nil)
      (pss_one (ps_if (PW.pt (pw_or (pt_not (pt_val (GA.pe_allG (k := 1) (ix := 1) (hr.mono (by decide)) rfl T.n_all TB rfl (GA.genC_by (N := ["dam", "one"]) (sc := defScope (topS 20)) (by decide +kernel)) sc_need_dam.nd (pi_tup (pe_slice sl_tupA (pv 0) (po_some pe_int) (po_some pe_int))) (fun _ _ _ _ _ hr => (pe_call G_is_in (hr.mono (by decide)) (by rfl) T.d_is_in.g T.d_is_in.kp T.d_is_in.b .nil pass0 (pa_cons (pv 1) (pa_cons pe_int (pa_cons (pe_ix (ixTK (K := K) rfl) (pv 0) pe_int (fun _ _ => rfl)) pa_nil)))))))) (pw_or1 (pt_not (pt_val (pe_call G_are_flows (hr.mono (by decide)) (by rfl) T.d_are_flows.g T.d_are_flows.kp T.d_are_flows.b .nil pass0 (pa_cons (pe_ix ix_tup (pv 0) pe_int (fun _ _ => rfl)) pa_nil))))))) (pss_one ps_never) pss_nil))), ?_⟩
    refine ⟨_, rfl, _, _, _, _, true, rfl, .ty _, .base (.tup h), kit_ty (by decide +kernel), _, rfl, iteF ?_⟩
    refine ⟨_, rfl, _, _, rfl, .inr (SqT.of h), rfl, _, rfl, iteF' (neInt rfl) ?_⟩
    refine ⟨_, rfl, _, _, _, _, rfl, rfl, SqT.of h, rfl, _, _, _, rfl, ok.C0, ok.C1, _, rfl, iteF ?_⟩
    refine ⟨_, rfl, _, rfl, _, rfl, _, _, rfl, SqT.of h, (fun z => absurd (show HT.sIx 4 0 (some 1) = 0 from z.1) (by decide)), fun _ p np => ?_⟩
    have sm := same_new (o := .tup (cutV [.int C, .int st, .int en, .ref b] (some 1) (some 3))) np
    have tb1 := tb.same sm
    refine ⟨_, rfl, ⟨_, SqT.of upd_same⟩, gen_tup (ts := T.ts) T.m_need_dam tb1 upd_same (fun i v H' e hi => ?_) (fun H' e => ?_)⟩
    · have h' := e.keep tb1 _ _ (sm _ _ h)
      have hv : ∃ n : Int, v = .int n ∧ 0 ≤ n ∧ n ≤ C := by
        match i, hi with
        | 0, hi => exact ⟨st, (Option.some.inj hi).symm, ok.s0, ok.s1⟩
        | 1, hi => exact ⟨en, (Option.some.inj hi).symm, ok.e0, ok.e1⟩
      obtain ⟨n, rfl, h1, h2⟩ := hv
      exact ⟨_, rfl, _, rfl, _, _, _, _, rfl, rfl, SqT.of h', rfl, _, _, _, rfl, h1, h2, rfl, e⟩
    · have h' := e.keep tb1 _ _ (sm _ _ h)
      have hI' := e.keep tb1 _ _ (sm _ _ hI)
      have e1 := (Ext.of (ts := T.ts) sm).trans e
      refine ⟨_, rfl, iteF ?_⟩
      refine ⟨_, rfl, _, _, _, _, rfl, rfl, SqT.of h', rfl, _, _, rfl, hI', ok.l1, by have := ok.l12; omega, ok.fl, e1.tb tb, fun H2 e2 => ?_⟩
      exact ⟨_, rfl, iteF (q H2 (e1.trans e2))⟩
end
end DW
end

section
/-! levels, the most that can be held -/
namespace DW
open PySem PySem.Spec PyProof.Rows L2
/-- f 0 .. f (n - 1) as values -/
def tabV (n : Nat) (f : Nat → Int) : List V := (List.range n).map fun k => V.int (f k)
theorem tabV_len (n : Nat) (f : Nat → Int) : (tabV n f).length = n := by
  unfold tabV
  rw [List.length_map, List.length_range]
theorem tabV_succ (n : Nat) (f : Nat → Int) : tabV (n + 1) f = tabV n f ++ [V.int (f n)] := by
  unfold tabV
  rw [List.range_succ, List.map_append]
  rfl
theorem tabV_at {n k : Nat} (f : Nat → Int) (h : k < n) : (tabV n f)[k]? = some (V.int (f k)) := by
  unfold tabV
  rw [List.getElem?_map, List.getElem?_range h]
  rfl
theorem tabV_is {n k : Nat} {f : Nat → Int} {v : V} (h : (tabV n f)[k]? = some v) : k < n ∧ v = .int (f k) := by
  have hk : k < n := by
    have := (List.getElem?_eq_some_iff.mp h).1
    rwa [tabV_len] at this
  rw [tabV_at f hk] at h
  exact ⟨hk, (Option.some.inj h).symm⟩
theorem tabV_congr {n : Nat} {f g : Nat → Int} (h : ∀ k, k < n → f k = g k) : tabV n f = tabV n g := by
  unfold tabV
  refine List.map_congr_left fun k hk => ?_
  rw [h k (List.mem_range.mp hk)]
theorem tabV_ints (n : Nat) (f : Nat → Int) : tabV n f = ((List.range n).map f).map V.int := by
  unfold tabV
  rw [List.map_map]
  rfl
def at0 (ins : List Int) : Nat → Int := fun k => ins.getD k 0
theorem tabV_list (ins : List Int) : ins.map V.int = tabV ins.length (at0 ins) := by
  refine List.ext_getElem? fun k => ?_
  by_cases h : k < ins.length
  · rw [tabV_at _ h, List.getElem?_map, List.getElem?_eq_getElem h]
    show some (V.int ins[k]) = some (V.int (ins.getD k 0))
    rw [List.getD_eq_getElem?_getD, List.getElem?_eq_getElem h]
    rfl
  · rw [List.getElem?_eq_none (by rw [List.length_map]; omega), List.getElem?_eq_none (by rw [tabV_len]; omega)]
theorem at0_is {ins : List Int} {k : Nat} {v : V} (h : (ins.map V.int)[k]? = some v) : k < ins.length ∧ v = .int (at0 ins k) := by
  rw [tabV_list] at h
  exact tabV_is h
theorem at0_at {ins : List Int} {k : Nat} (h : k < ins.length) : (ins.map V.int)[k]? = some (.int (at0 ins k)) := by
  rw [tabV_list]
  exact tabV_at _ h
def inOf (C s e : Int) (ins : List Int) : Dam.In := ⟨ins.length, C, s, e, at0 ins⟩
def mostF (I : Dam.In) : Nat → Int
  | 0 => I.s
  | k + 1 => Dam.pmin I.C (mostF I k + I.a k)
/-- the levels that releases r leave -/
def lvr (I : Dam.In) (r : Nat → Int) : Nat → Int
  | 0 => I.s
  | k + 1 => lvr I r k + I.a k - r k
section
variable {P : Program} {w : World} {K : PySem.W.Frag} {mg : Str → Option Value} {base : Heap}
theorem sc_most_held : FnScope ["dam", "held", "inflow"] ["dam"] (defScope (topS 21)) := ⟨rfl, rfl, rfl, by decide +kernel, rfl, by decide +kernel, by decide +kernel⟩
def spMost : Sp := fun vs H Q _ => ∃ a C s e ins, vs = [.ref a] ∧ DamAt H a C s e ins ∧ Q (.int (mostF (inOf C s e ins) ins.length)) H
theorem ok_most_held (T : Txt K mg) : FnOk P w K mg base CX0 1 T.d_most_held.f T.d_most_held.fd ["dam"] spMost := by
  refine T.d_most_held.F.ok sc_most_held (fun vs H Q E h => ?_) (fun A outer s H vs Q E hr h => ?_)
  · obtain ⟨a, C, s, e, ins, rfl, _⟩ := h
    rfl
  · obtain ⟨a, C, st, en, ins, rfl, ⟨b, h, hI⟩, q⟩ := h
    refine ⟨_, (pss_cons (ps_set (i := 1) sc_most_held.nd rfl (.inl rfl) (pe_ix ix_tup (pv 0) pe_int (fun _ _ => rfl)))
      (pss_cons (ps_for PassesOwn.never rfl (pi_tup (pe_ix ix_tup (pv 0) pe_int (fun _ _ => rfl))) (pg_name (i := 2) sc_most_held.nd rfl (.inl rfl)) (pss_one (ps_set (i := 1) sc_most_held.nd rfl (.inl rfl) (pe_callB (call_min2 rfl) (by rfl) T.n_min (by decide +kernel) (pa_cons (pe_ix ix_tup (pv 0) pe_int (fun _ _ => rfl)) (pa_cons (pe_op op_add (pv 1) (pv 2)) pa_nil))))))
      (pss_one (ps_ret (pv 1))))), ?_⟩
    refine ⟨_, rfl, _, _, _, _, rfl, rfl, SqT.of h, rfl, ?_⟩
    refine ⟨_, rfl, _, _, _, _, rfl, rfl, SqT.of h, rfl, _, rfl, ⟨_, SqT.of hI⟩, ?_⟩
    refine for_tup (xs := ins.map V.int) (fun i σ H' => H' = H ∧ ∃ y, σ = [some (.ref a), some (.int (mostF (inOf C st en ins) i)), y]) ⟨rfl, _, rfl⟩ (fun i σ H' _ p => by rw [p.1]; exact SqT.of hI) (fun i x σ H' hx p => ?_) (fun σ H' p => ?_)
    · obtain ⟨rfl, y, rfl⟩ := p
      obtain ⟨hi, rfl⟩ := at0_is hx
      refine ⟨_, rfl, _, _, _, _, rfl, rfl, SqT.of h, rfl, _, rfl, _, rfl, _, _, rfl, rfl, _, _, rfl, ?_⟩
      exact ⟨rfl, _, rfl⟩
    · obtain ⟨rfl, y, rfl⟩ := p
      rw [List.length_map]
      exact ⟨_, rfl, q⟩
theorem sc_levels_of : FnScope ["dam", "plan", "held", "found", "inflow", "release"] ["dam", "plan"] (defScope (topS 23)) := ⟨rfl, rfl, rfl, by decide +kernel, rfl, by decide +kernel, by decide +kernel⟩
/-- a list of ratios -/
def LevAt (H : Hp) (l : Addr) (n : Nat) (f : Nat → Int) : Prop := ∃ vs, H l = some (.lst vs) ∧ vs.length = n ∧ ∀ k, k < n → ∃ v, vs[k]? = some v ∧ Rat1 H v (f k)
def RelAt (H : Hp) (a : Addr) (n : Nat) (f : Nat → Int) : Prop := ∃ vs, H a = some (.tup vs) ∧ vs.length = n ∧ ∀ k, k < n → ∃ v, vs[k]? = some v ∧ Rat1 H v (f k)
theorem RelAt.keep {H H' : Hp} {a : Addr} {n : Nat} {f : Nat → Int} (h : RelAt H a n f) (k : Keep H H') : RelAt H' a n f := by
  obtain ⟨vs, h, l, p⟩ := h
  refine ⟨vs, k _ _ h, l, fun i hi => ?_⟩
  obtain ⟨v, h1, h2⟩ := p i hi
  exact ⟨v, h1, h2.keep k⟩
theorem RelAt.at {H : Hp} {a : Addr} {n : Nat} {f : Nat → Int} {vs : List V} {k : Nat} {v : V} (h : RelAt H a n f) (e : H a = some (.tup vs)) (hv : vs[k]? = some v) : k < n ∧ Rat1 H v (f k) := by
  obtain ⟨vs', h1, l, p⟩ := h
  rw [e] at h1
  cases h1
  have hk : k < n := by
    have := (List.getElem?_eq_some_iff.mp hv).1
    omega
  obtain ⟨v', h2, h3⟩ := p k hk
  rw [hv] at h2
  cases h2
  exact ⟨hk, h3⟩
def spLevels : Sp := fun vs H Q _ => ∃ a p C s e ins r, vs = [.ref a, .ref p] ∧ DamAt H a C s e ins ∧ ins.length ≤ 7 ∧ RelAt H p ins.length r ∧
  ∀ H' l, Same H H' → H l = none → LevAt H' l ins.length (fun k => lvr (inOf C s e ins) r (k + 1)) → Q (.ref l) H'
theorem ok_levels_of (T : Txt K mg) : FnOk P w K mg base CX0 3 T.d_levels_of.f T.d_levels_of.fd ["dam", "plan"] spLevels := by
  have G_plus : FnOk P w K mg base CX0 2 T.d_plus.f T.d_plus.fd ["one", "other"] (spTwo (fun i j => i + j) fun _ _ => True) := ok_plus T
  have G_minus : FnOk P w K mg base CX0 2 T.d_minus.f T.d_minus.fd ["one", "other"] (spTwo (fun i j => i - j) fun _ _ => True) := ok_minus T
  refine T.d_levels_of.F.ok sc_levels_of (fun vs H Q E h => ?_) (fun A outer s H vs Q E hr h => ?_)
  · obtain ⟨a, p, C, s, e, ins, r, rfl, _⟩ := h
    rfl
  · obtain ⟨a, p, C, st, en, ins, r, rfl, ⟨b, h, hI⟩, hl, hp, q⟩ := h
    refine ⟨_, (pss_cons (ps_par (i := 2) (j := 3) (by rfl) sc_levels_of.nd rfl rfl (by decide) rfl rfl (pa_cons (pe_tup (pa_cons (pe_ix ix_tup (pv 0) pe_int (fun _ _ => rfl)) (pa_cons pe_int pa_nil))) (pa_cons (pe_lst pa_nil) pa_nil)) (by rfl))
      (pss_cons (ps_for PassesOwn.never rfl (ZM.pi_zipM .T .T (by rfl) T.n_zip (pa_cons (pe_ix ix_tup (pv 0) pe_int (fun _ _ => rfl)) (pa_cons (pv 1) pa_nil))) (pg_tup rfl (pgs_cons (pg_name (i := 4) sc_levels_of.nd rfl (.inl rfl)) (pgs_cons (pg_name (i := 5) sc_levels_of.nd rfl (.inl rfl)) pgs_nil))) (pss_cons (ps_set (i := 2) sc_levels_of.nd rfl (.inl rfl) (pe_call G_minus (hr.mono (by decide)) (by rfl) T.d_minus.g T.d_minus.kp T.d_minus.b .nil pass0 (pa_cons (pe_call G_plus (hr.mono (by decide)) (by rfl) T.d_plus.g T.d_plus.kp T.d_plus.b .nil pass0 (pa_cons (pv 2) (pa_cons (pe_tup (pa_cons (pv 4) (pa_cons pe_int pa_nil))) pa_nil))) (pa_cons (pv 5) pa_nil))))
      (pss_one (ps_expr (pe_bm PySem.F.plainAttrs_list PySem.F.slot_list_append PySem.F.type_list_append mt_append (pv 3) (pa_cons (pv 2) pa_nil))))))
      (pss_one (ps_ret (pv 3))))), ?_⟩
    refine ⟨_, rfl, _, _, _, _, rfl, rfl, SqT.of h, rfl, by show 2 ≤ sizeLine; decide, fun p0 np0 => ?_⟩
    refine ⟨Nat.zero_le _, fun l nl => ?_⟩
    have s1 := same_new (o := .tup [.int st, .int 1]) np0
    have s2 := same_new (o := .lst []) nl
    have nl0 : H l = none := by
      by_cases z : l = p0
      · rw [z]
        exact np0
      · rwa [upd_ne z] at nl
    have hp0 : (upd (upd H p0 (.tup [.int st, .int 1])) l (.lst [])) p0 = some (.tup [.int st, .int 1]) := s2 _ _ upd_same
    obtain ⟨vs, hvs, hlen, _⟩ := id hp
    have k1 := Keep.of (s1.trans s2)
    refine ⟨_, _, rfl, _, rfl, _, _, _, _, rfl, rfl, SqT.of (k1 _ _ h), rfl, _, rfl, _, _, _, _, rfl, SqT.of (k1 _ _ hI), SqT.of (k1 _ _ hvs), ?_⟩
    refine ZM.for_zipM (k1 := .T) (k2 := .T) (xs := ins.map V.int) (ys := vs) (by rw [List.length_map, hlen]) (fun i σ H' => Same H H' ∧ ∃ hv ls y z, Rat1 H' hv (lvr (inOf C st en ins) r i) ∧ H' l = some (.lst ls) ∧ ls.length = i ∧ (∀ k, k < i → ∃ v, ls[k]? = some v ∧ Rat1 H' v (lvr (inOf C st en ins) r (k + 1))) ∧
        σ = [some (.ref a), some (.ref p), some hv, some (.ref l), y, z]) ⟨s1.trans s2, .ref p0, [], none, none, ⟨p0, rfl, hp0⟩, upd_same, rfl, fun k hk => absurd hk (Nat.not_lt_zero _), rfl⟩
        (fun i σ H' pv => ⟨SqT.of (pv.1 _ _ hI), SqT.of (pv.1 _ _ hvs)⟩) (fun i x y T σ H' hx hy pv nT => ?_) (fun σ H' pv => ?_)
    · obtain ⟨sm, hv, ls, y1, y2, ⟨ah, rfl, hh⟩, hls, ll, all, rfl⟩ := pv
      obtain ⟨hi, rfl⟩ := at0_is hx
      obtain ⟨_, ar, rfl, hr1⟩ := (hp.keep (.of sm)).at (sm _ _ hvs) hy
      have t1 := same_new (o := .tup [.int (at0 ins i), .ref ar]) nT
      refine ⟨_, _, rfl, SqT.of upd_same, rfl, _, _, rfl, _, _, rfl, rfl, ?_⟩
      -- held = minus(plus(held, (inflow, 1)), release)
      refine ⟨_, rfl, _, rfl, by show 2 ≤ sizeLine; decide, fun p2 n2 => ?_⟩
      have t2 := same_new (o := .tup [.int (at0 ins i), .int 1]) n2
      refine ⟨_, _, _, _, rfl, t2 _ _ (t1 _ _ hh), upd_same, trivial, fun H4 p4 s4 n4 e4 => ?_⟩
      have t4 := (t1.trans t2).trans s4
      refine ⟨_, rfl, _, _, _, _, rfl, e4, t4 _ _ hr1, trivial, fun H5 p5 s5 n5 e5 => ?_⟩
      have t5 := t4.trans s5
      refine ⟨_, rfl, .inl ⟨rfl, _, SqL.of (t5 _ _ hls)⟩, _, rfl, _, _, _, rfl, rfl, t5 _ _ hls, by rw [ll]; exact small1000 (by omega), ?_⟩
      have keep : Keep H' (upd H5 l (.lst (ls ++ [.ref p5]))) := fun c xs hc => by
        have hne : c ≠ l := ne_of hc hls (by intro z; cases z)
        rw [upd_ne hne]
        exact t5 _ _ hc
      have new5 : (upd H5 l (.lst (ls ++ [.ref p5]))) p5 = some (.tup [.int (lvr (inOf C st en ins) r (i + 1)), .int 1]) := by
        have hne : p5 ≠ l := ne_of e5 (t5 _ _ hls) (by intro z; cases z)
        rw [upd_ne hne]
        exact e5
      refine ⟨fun c o hc => ?_, .ref p5, ls ++ [.ref p5], _, _, ⟨p5, rfl, new5⟩, upd_same, by simp [ll], fun k hk => ?_, rfl⟩
      · have hne : c ≠ l := ne_of_none hc nl0
        rw [upd_ne hne]
        exact t5 _ _ (sm _ _ hc)
      · by_cases z : k < i
        · obtain ⟨v, v1, v2⟩ := all k z
          exact ⟨v, by rw [List.getElem?_append_left (by omega)]; exact v1, v2.keep keep⟩
        · have : k = i := by omega
          subst this
          exact ⟨.ref p5, by rw [List.getElem?_append_right (by omega), ll, Nat.sub_self]; rfl, ⟨p5, rfl, new5⟩⟩
    · obtain ⟨sm, hv, ls, y1, y2, _, hls, ll, all, rfl⟩ := pv
      rw [List.length_map] at ll all
      exact ⟨_, rfl, q H' l sm nl0 ⟨ls, hls, ll, all⟩⟩
end
end DW
end

section
/-! is_plan, run_of, water_of -/
namespace DW
open PySem PySem.Spec PyProof.Rows L2
theorem atI_m1 {α : Type} {xs : List α} {n : Nat} {v : α} (hl : xs.length = n + 1) (h : xs[n]? = some v) : atI xs (-1) = some v := by
  have e : xs = xs.take n ++ [v] := by
    refine List.ext_getElem? fun k => ?_
    by_cases hk : k < n
    · rw [List.getElem?_append_left (by rw [List.length_take]; omega), List.getElem?_take, if_pos hk]
    · by_cases hk2 : k = n
      · subst hk2
        rw [List.getElem?_append_right (by rw [List.length_take]; omega), List.length_take, hl, show k - min k (k + 1) = 0 by omega, h]
        rfl
      · rw [List.getElem?_eq_none (by omega), List.getElem?_eq_none (by rw [List.length_append, List.length_take, List.length_singleton]; omega)]
  rw [e]
  exact atI_last _ _
/-- a list of triples -/
def TriAt (H : Hp) (l : Addr) (n : Nat) (f g h : Nat → Int) : Prop := ∃ vs, H l = some (.lst vs) ∧ vs.length = n ∧ ∀ k, k < n → ∃ t, vs[k]? = some (.ref t) ∧ H t = some (.tup [.int (f k), .int (g k), .int (h k)])
section
variable {P : Program} {w : World} {K : PySem.W.Frag} {mg : Str → Option Value} {base : Heap}
theorem sc_is_plan : FnScope ["dam", "value", "some", "one"] ["dam", "value"] (defScope (topS 24)) := ⟨rfl, rfl, rfl, by decide +kernel, rfl, by decide +kernel, by decide +kernel⟩
structure RelOk (C s e : Int) (ins : List Int) (r : Nat → Int) : Prop where
  r0 : ∀ k, k < ins.length → 0 ≤ r k
  l0 : ∀ k, k < ins.length → 0 ≤ lvr (inOf C s e ins) r (k + 1)
  l1 : ∀ k, k < ins.length → lvr (inOf C s e ins) r (k + 1) ≤ C
  le : e ≤ lvr (inOf C s e ins) r ins.length
def spPlan (ts : List Addr) : Sp := fun vs H Q _ => ∃ a p C s e ins r, vs = [.ref a, .ref p] ∧ DamAt H a C s e ins ∧ DamOk C s e ins ∧ RelAt H p ins.length r ∧ RelOk C s e ins r ∧ Tb ts H ∧ ∀ H', Ext ts H H' → Q (.bl true) H'
theorem ok_is_plan (T : Txt K mg) (B : Bs T base) : FnOk P w K mg base CX0 8 T.d_is_plan.f T.d_is_plan.fd ["dam", "value"] (spPlan T.ts) := by
  have TB := B.is_plan
  have G_is_ratio : FnOk P w K mg base CX0 4 T.d_is_ratio.f T.d_is_ratio.fd ["value"] (spIsR T.ts) := ok_is_ratio T B
  have G_less : FnOk P w K mg base CX0 1 T.d_less.f T.d_less.fd ["one", "other"] spLess := ok_less T
  have G_levels_of : FnOk P w K mg base CX0 3 T.d_levels_of.f T.d_levels_of.fd ["dam", "plan"] spLevels := ok_levels_of T
  refine T.d_is_plan.F.ok sc_is_plan (fun vs H Q E h => ?_) (fun A outer s H vs Q E hr h => ?_)
  · obtain ⟨a, p, C, s, e, ins, r, rfl, _⟩ := h
    rfl
  · obtain ⟨a, p, C, st, en, ins, r, rfl, hd, ok, hp, rok, tb, q⟩ := h
    obtain ⟨b, h, hI⟩ := id hd
    obtain ⟨vs, hvs, hlen, _⟩ := id hp
    refine ⟨_, (pss_cons (ps_if (PW.pt (pw_or (pt_not (pt_val (pe_callB call_isi (by rfl) T.n_isinstance (by decide +kernel) (pa_cons (pv 1) (pa_cons (pe_bltn (v := .ty "tuple") (by rfl) T.n_tuple (by decide +kernel) rfl) pa_nil))))) (pw_or1 (pt_cmpR op_ne (pe_callB call_len_seq (by rfl) T.n_len PySem.boot_len (pa_cons (pv 1) pa_nil)) (pe_callB call_len_seq (by rfl) T.n_len PySem.boot_len (pa_cons (pe_ix ix_tup (pv 0) pe_int (fun _ _ => rfl)) pa_nil)) (nomark _))))) (pss_one (ps_ret pe_bl)) pss_nil)
      (pss_cons (ps_if (pt_not (pt_val (GA.pe_allG (k := 4) (ix := 3) (hr.mono (by decide)) rfl T.n_all TB rfl (GA.genC_by (N := ["dam", "value", "some", "one"]) (sc := defScope (topS 24)) (by decide +kernel)) sc_is_plan.nd (pi_tup (pv 1)) (fun _ _ _ _ _ hr => (pe_and (pe_call G_is_ratio (hr.mono (by decide)) (by rfl) T.d_is_ratio.g T.d_is_ratio.kp T.d_is_ratio.b .nil pass0 (pa_cons (pv 3) pa_nil)) (pe_one (pe_cmpR op_ge (pe_ix (ixTK (K := K) rfl) (pv 3) pe_int (fun _ _ => rfl)) pe_int (nomark _)))))))) (pss_one (ps_ret pe_bl)) pss_nil)
      (pss_cons (ps_set (i := 2) sc_is_plan.nd rfl (.inl rfl) (pe_call G_levels_of (hr.mono (by decide)) (by rfl) T.d_levels_of.g T.d_levels_of.kp T.d_levels_of.b .nil pass0 (pa_cons (pv 0) (pa_cons (pv 1) pa_nil))))
      (pss_cons (ps_if (pt_val (GA.pe_anyG (k := 1) (ix := 3) (hr.mono (by decide)) rfl T.n_any TB rfl (GA.genC_by (N := ["dam", "value", "some", "one"]) (sc := defScope (topS 24)) (by decide +kernel)) sc_is_plan.nd (pi_list (pv 2)) (fun _ _ _ _ _ hr => (pe_or (pe_cmpR op_lt (pe_ix (ixTK (K := K) rfl) (pv 3) pe_int (fun _ _ => rfl)) pe_int (nomark _)) (pe_one (pe_call G_less (hr.mono (by decide)) (by rfl) T.d_less.g T.d_less.kp T.d_less.b .nil pass0 (pa_cons (pe_tup (pa_cons (pe_ix (ixTK (K := K) rfl) (pv 0) pe_int (fun _ _ => rfl)) (pa_cons pe_int pa_nil))) (pa_cons (pv 3) pa_nil)))))))) (pss_one (ps_ret pe_bl)) pss_nil)
      (pss_one (ps_ret (pe_not (pe_call G_less (hr.mono (by decide)) (by rfl) T.d_less.g T.d_less.kp T.d_less.b .nil pass0 (pa_cons (pe_ix ix_list (pv 2) (pe_un un_neg pe_int) (fun _ _ => rfl)) (pa_cons (pe_tup (pa_cons (pe_ix ix_tup (pv 0) pe_int (fun _ _ => rfl)) (pa_cons pe_int pa_nil))) pa_nil)))))))))), ?_⟩
    refine ⟨_, rfl, _, _, _, _, true, rfl, .ty _, .base (.tup hvs), kit_ty (by decide +kernel), _, rfl, iteF ?_⟩
    refine ⟨_, rfl, _, _, rfl, .inr (SqT.of hvs), _, rfl, _, _, _, _, rfl, rfl, SqT.of h, rfl, _, _, rfl, .inr (SqT.of hI), rfl, _, rfl, iteF' (neInt (by rw [List.length_map, hlen])) ?_⟩
    refine ⟨_, rfl, _, rfl, ⟨_, SqT.of hvs⟩, gen_tup (ts := T.ts) T.m_is_plan tb hvs (fun i v H' e hi => ?_) (fun H' e => ?_)⟩
    · obtain ⟨hi2, hR⟩ := (hp.keep (e.keep tb)).at (e.keep tb _ _ hvs) hi
      obtain ⟨ar, rfl, hr1⟩ := id hR
      refine ⟨_, rfl, _, _, rfl, hR, e.tb tb, fun H2 e2 => ⟨_, rfl, iteT ?_⟩⟩
      refine ⟨_, rfl, _, _, _, _, rfl, rfl, SqT.of (e2.keep (e.tb tb) _ _ hr1), rfl, _, _, rfl, rfl, ?_, e.trans e2⟩
      show V.bl (decide (0 ≤ r i)) = V.bl true
      rw [decide_eq_true (rok.r0 i hi2)]
    · refine ⟨_, rfl, iteF ?_⟩
      have k1 := e.keep tb
      have tb1 := e.tb tb
      refine ⟨_, rfl, _, rfl, _, _, _, _, _, _, r, rfl, hd.keep k1, ok.l12, hp.keep k1, fun H2 l sm nl hl => ?_⟩
      have tb2 := tb1.same sm
      have hd2 := sm _ _ (k1 _ _ h)
      obtain ⟨ls, hls, hll, hlv⟩ := hl
      refine ⟨_, rfl, _, rfl, ⟨_, SqL.of hls⟩, gen_list (ts := T.ts) T.m_is_plan tb2 hls (fun i v H' e' hi => ?_) (fun H' e' => ?_)⟩
      · have hk : i < ins.length := by
          have := (List.getElem?_eq_some_iff.mp hi).1
          omega
        obtain ⟨v', h1, hR⟩ := hlv i hk
        rw [hi] at h1
        cases h1
        obtain ⟨ar, rfl, hr1⟩ := hR.keep (e'.keep tb2)
        have hd3 := e'.keep tb2 _ _ hd2
        refine ⟨_, rfl, _, _, _, _, rfl, rfl, SqT.of hr1, rfl, _, _, rfl, rfl, _, rfl, iteF' (decide_eq_false (Int.not_lt.mpr (rok.l0 i hk))) ?_⟩
        refine ⟨_, rfl, _, _, _, _, rfl, rfl, SqT.of hd3, rfl, by show 2 ≤ sizeLine; decide, fun p3 n3 => ?_⟩
        have t3 := same_new (o := .tup [.int C, .int 1]) n3
        refine ⟨_, rfl, _, _, _, _, rfl, upd_same, t3 _ _ hr1, ?_, e'.trans (.of t3)⟩
        rw [decide_eq_false (Int.not_lt.mpr (rok.l1 i hk))]
      · refine ⟨_, rfl, iteF ?_⟩
        obtain ⟨m, hm⟩ : ∃ m, ins.length = m + 1 := ⟨ins.length - 1, by have := ok.l1; omega⟩
        obtain ⟨v, hv, hR⟩ := hlv m (by omega)
        obtain ⟨ar, rfl, hr1⟩ := hR.keep (e'.keep tb2)
        have hls3 := e'.at tb2 hls (fun ps z => by cases z)
        have hd3 := e'.keep tb2 _ _ hd2
        refine ⟨_, rfl, _, rfl, _, _, _, _, rfl, rfl, SqL.of hls3, atI_m1 (by rw [hll, hm]) hv, ?_⟩
        refine ⟨_, rfl, _, _, _, _, rfl, rfl, SqT.of hd3, rfl, by show 2 ≤ sizeLine; decide, fun p3 n3 => ?_⟩
        have t3 := same_new (o := .tup [.int en, .int 1]) n3
        refine ⟨_, _, _, _, rfl, t3 _ _ hr1, upd_same, _, rfl, ?_⟩
        have hle := rok.le
        rw [hm] at hle
        rw [decide_eq_false (Int.not_lt.mpr hle)]
        exact q _ (((e.trans (.of sm)).trans e').trans (.of t3))
theorem sc_run_of : FnScope ["dam", "demands", "held", "found", "inflow", "demand", "given", "spilled"] ["dam", "demands"] (defScope (topS 25)) := ⟨rfl, rfl, rfl, by decide +kernel, rfl, by decide +kernel, by decide +kernel⟩
def spRun : Sp := fun vs H Q _ => ∃ a d C s e ins g, vs = [.ref a, .ref d] ∧ DamAt H a C s e ins ∧ ins.length ≤ 7 ∧ H d = some (.lst (tabV ins.length g)) ∧
  ∀ H' l, Same H H' → H l = none → TriAt H' l ins.length ((inOf C s e ins).gv g) ((inOf C s e ins).sp g) (fun k => (inOf C s e ins).lv g (k + 1)) → Q (.ref l) H'
theorem ok_run_of (T : Txt K mg) : FnOk P w K mg base CX0 1 T.d_run_of.f T.d_run_of.fd ["dam", "demands"] spRun := by
  refine T.d_run_of.F.ok sc_run_of (fun vs H Q E h => ?_) (fun A outer s H vs Q E hr h => ?_)
  · obtain ⟨a, p, C, s, e, ins, r, rfl, _⟩ := h
    rfl
  · obtain ⟨a, d, C, st, en, ins, g, rfl, ⟨b, h, hI⟩, hl, hg, q⟩ := h
    refine ⟨_, (pss_cons (ps_par (i := 2) (j := 3) (by rfl) sc_run_of.nd rfl rfl (by decide) rfl rfl (pa_cons (pe_ix ix_tup (pv 0) pe_int (fun _ _ => rfl)) (pa_cons (pe_lst pa_nil) pa_nil)) (by rfl))
      (pss_cons (ps_for PassesOwn.never rfl (ZM.pi_zipM .T .L (by rfl) T.n_zip (pa_cons (pe_ix ix_tup (pv 0) pe_int (fun _ _ => rfl)) (pa_cons (pv 1) pa_nil))) (pg_tup rfl (pgs_cons (pg_name (i := 4) sc_run_of.nd rfl (.inl rfl)) (pgs_cons (pg_name (i := 5) sc_run_of.nd rfl (.inl rfl)) pgs_nil))) (pss_cons (ps_set (i := 6) sc_run_of.nd rfl (.inl rfl) (pe_callB (call_min2 rfl) (by rfl) T.n_min (by decide +kernel) (pa_cons (pv 5) (pa_cons (pe_op op_add (pv 2) (pv 4)) pa_nil))))
      (pss_cons (ps_set (i := 7) sc_run_of.nd rfl (.inl rfl) (pe_callB (call_max2 rfl) (by rfl) T.n_max (by decide +kernel) (pa_cons pe_int (pa_cons (pe_op op_sub (pe_op op_sub (pe_op op_add (pv 2) (pv 4)) (pv 6)) (pe_ix ix_tup (pv 0) pe_int (fun _ _ => rfl))) pa_nil))))
      (pss_cons (ps_set (i := 2) sc_run_of.nd rfl (.inl rfl) (pe_op op_sub (pe_op op_sub (pe_op op_add (pv 2) (pv 4)) (pv 6)) (pv 7)))
      (pss_one (ps_expr (pe_bm PySem.F.plainAttrs_list PySem.F.slot_list_append PySem.F.type_list_append mt_append (pv 3) (pa_cons (pe_tup (pa_cons (pv 6) (pa_cons (pv 7) (pa_cons (pv 2) pa_nil)))) pa_nil))))))))
      (pss_one (ps_ret (pv 3))))), ?_⟩
    refine ⟨_, rfl, _, _, _, _, rfl, rfl, SqT.of h, rfl, ?_⟩
    refine ⟨Nat.zero_le _, fun l nl => ?_⟩
    have s1 := same_new (o := .lst []) nl
    refine ⟨_, _, rfl, _, rfl, _, _, _, _, rfl, rfl, SqT.of (s1 _ _ h), rfl, _, rfl, _, _, _, _, rfl, SqT.of (s1 _ _ hI), SqL.of (s1 _ _ hg), ?_⟩
    let I := inOf C st en ins
    refine ZM.for_zipM (k1 := .T) (k2 := .L) (xs := ins.map V.int) (ys := tabV ins.length g) (by rw [List.length_map, tabV_len]) (fun i σ H' => Same H H' ∧ ∃ ls y z u v, H' l = some (.lst ls) ∧ ls.length = i ∧
        (∀ k, k < i → ∃ t, ls[k]? = some (.ref t) ∧ H' t = some (.tup [.int (I.gv g k), .int (I.sp g k), .int (I.lv g (k + 1))])) ∧
        σ = [some (.ref a), some (.ref d), some (.int (I.lv g i)), some (.ref l), y, z, u, v]) ⟨s1, [], none, none, none, none, upd_same, rfl, fun k hk => absurd hk (Nat.not_lt_zero _), rfl⟩
        (fun i σ H' pv => ⟨SqT.of (pv.1 _ _ hI), SqL.of (pv.1 _ _ hg)⟩) (fun i x y T σ H' hx hy pv nT => ?_) (fun σ H' pv => ?_)
    · obtain ⟨sm, ls, y1, y2, y3, y4, hls, ll, all, rfl⟩ := pv
      obtain ⟨hi, rfl⟩ := at0_is hx
      obtain ⟨_, rfl⟩ := tabV_is hy
      have t1 := same_new (o := .tup [.int (at0 ins i), .int (g i)]) nT
      refine ⟨_, _, rfl, SqT.of upd_same, rfl, _, _, rfl, _, _, rfl, rfl, ?_⟩
      refine ⟨_, rfl, _, rfl, _, rfl, _, _, rfl, rfl, _, _, rfl, ?_⟩
      refine ⟨_, rfl, _, rfl, _, _, rfl, rfl, _, rfl, _, _, rfl, rfl, _, rfl, _, _, _, _, rfl, rfl, SqT.of (t1 _ _ (sm _ _ h)), rfl, _, _, rfl, rfl, _, _, rfl, ?_⟩
      refine ⟨_, rfl, _, rfl, _, _, rfl, rfl, _, rfl, _, _, rfl, rfl, _, rfl, _, _, rfl, rfl, ?_⟩
      refine ⟨_, rfl, .inl ⟨rfl, _, SqL.of (t1 _ _ hls)⟩, _, rfl, _, rfl, _, rfl, by show 3 ≤ sizeLine; decide, fun p2 n2 => ?_⟩
      have t2 := same_new (o := .tup [.int (I.gv g i), .int (I.sp g i), .int (I.lv g (i + 1))]) n2
      have hne : ∀ {c : Addr} {xs : List V}, (upd H' T (.tup [.int (at0 ins i), .int (g i)])) c = some (.tup xs) → c ≠ l := fun hc => ne_of hc (t1 _ _ hls) (by intro z; cases z)
      have hpl : p2 ≠ l := (ne_of_none (t1 _ _ hls) n2).symm
      refine ⟨_, _, _, rfl, rfl, t2 _ _ (t1 _ _ hls), by rw [ll]; exact small1000 (by omega), ?_⟩
      refine ⟨fun c o hc => ?_, ls ++ [.ref p2], _, _, _, _, upd_same, by simp [ll], fun k hk => ?_, rfl⟩
      · have hne : c ≠ l := ne_of_none hc nl
        rw [upd_ne hne]
        exact t2 _ _ (t1 _ _ (sm _ _ hc))
      · by_cases z : k < i
        · obtain ⟨t, v1, v2⟩ := all k z
          refine ⟨t, by rw [List.getElem?_append_left (by omega)]; exact v1, ?_⟩
          rw [upd_ne (hne (t1 _ _ v2))]
          exact t2 _ _ (t1 _ _ v2)
        · have : k = i := by omega
          subst this
          refine ⟨p2, by rw [List.getElem?_append_right (by omega), ll, Nat.sub_self]; rfl, ?_⟩
          rw [upd_ne hpl]
          exact upd_same
    · obtain ⟨sm, ls, y1, y2, y3, y4, hls, ll, all, rfl⟩ := pv
      rw [List.length_map] at ll all
      exact ⟨_, rfl, q H' l sm nl ⟨ls, hls, ll, all⟩⟩
end
end DW
end

section
/-! water_of, spans -/
namespace DW
open PySem PySem.Spec PyProof.Rows L2
/-- no tests in a comprehension -/
theorem yes_iteT {σ : L2.St} {H : Hp} {A B : Hp → Prop} (h : A H) : tYes σ H (fun b H3 => if b = true then A H3 else B H3) := by
  show if true = true then A H else B H
  exact iteT h
theorem sum_range (f : Nat → Int) : ∀ k : Nat, ((List.range k).map f).sum = Dam.P f k
  | 0 => rfl
  | k + 1 => by
    rw [List.range_succ, List.map_append, List.sum_append, sum_range f k]
    show _ + (f k + 0) = _ + f k
    rw [Int.add_zero]
theorem sum_take {n k : Nat} (f : Nat → Int) (h : k ≤ n) : (((List.range n).map f).take k).sum = Dam.P f k := by
  rw [← List.map_take, List.take_range, Nat.min_eq_left h, sum_range]
theorem sum_cut {n lo hi : Nat} (f : Nat → Int) (h1 : lo ≤ hi) (h2 : hi ≤ n) : ((((List.range n).map f).drop lo).take (hi - lo)).sum = Dam.P f hi - Dam.P f lo := by
  have e : ((List.range n).map f).take hi = ((List.range n).map f).take lo ++ (((List.range n).map f).drop lo).take (hi - lo) := by
    rw [show hi = lo + (hi - lo) by omega, List.take_add, show lo + (hi - lo) - lo = hi - lo by omega]
  have h := congrArg List.sum e
  rw [List.sum_append, sum_take f h2, sum_take f (by omega)] at h
  omega
theorem cutV_map (ns : List Int) (f l : Nat) (h : l < ns.length) (hf : f ≤ l) : cutV (ns.map V.int) (some (f : Int)) (some ((l : Int) + 1)) = ((ns.drop f).take (l + 1 - f)).map V.int := by
  unfold cutV
  rw [HT.sIx_nat, show ((l : Int) + 1) = ((l + 1 : Nat) : Int) by omega, HT.sIx_nat, List.length_map, Nat.min_eq_left (by omega), Nat.min_eq_left (by omega), ← List.map_drop, ← List.map_take]
theorem ints_list (ins : List Int) : (List.range ins.length).map (at0 ins) = ins := by
  have h := tabV_list ins
  rw [tabV_ints] at h
  have inj : ∀ {xs ys : List Int}, xs.map V.int = ys.map V.int → xs = ys := by
    intro xs
    induction xs with
    | nil => intro ys e; cases ys with
      | nil => rfl
      | cons y r => cases e
    | cons x r ih => intro ys e; cases ys with
      | nil => cases e
      | cons y s =>
        injection e with e1 e2
        injection e1 with e1
        rw [e1, ih e2]
  exact (inj h).symm
theorem eqIntF {a b : Int} (h : a ≠ b) : decide (V.int a = V.int b) = false := decide_eq_false fun z => h (V.int.inj z)
section
variable {g1 : TG} {tt1 : TT} {te : TE}
/-- two for: the outer one over a range -/
theorem lc2_rng {lo : Int} {n : Nat} {g : TG} {tt : TT} {wi1 : TI} {vs vs1 : List Nat} {σ : L2.St} {H1 : Hp} {D : Addr} {Qd : Hp → Prop} (Pv : Nat → Hp → Prop) (h0 : Pv 0 (upd H1 D (.lst [])))
    (hs : ∀ i H, i < n → Pv i H → g (.int (lo + i)) (wipe σ vs) H fun σ2 H2 => wipe σ2 vs = wipe σ vs ∧ tt σ2 H2 fun b H3 =>
      if b = true then wi1 σ2 H3 fun J1 H4 => ∃ W1 : Nat → Nat → Hp → Prop, (∃ m, W1 0 m H4) ∧ ∀ j k H, W1 j k H →
      (J1.stop j H ∧ Pv (i + 1) H) ∨ (J1.go j H ∧ ∃ Nx1 : Hp → Prop, (∀ H', Nx1 H' → ∃ k', k' < k ∧ W1 (j + 1) k' H') ∧ ∀ x H', J1.yld j H x H' → g1 x (wipe σ2 vs1) H' fun σ3 H5 => wipe σ3 vs1 = wipe σ2 vs1 ∧ tt1 σ3 H5 fun b H6 =>
        if b = true then te σ3 H6 fun y H7 => ∃ acc, H7 D = some (.lst acc) ∧ acc.length < sizeLine ∧ Nx1 (upd H7 D (.lst (acc ++ [y]))) else Nx1 H6) else Pv (i + 1) H3) (hd : ∀ H, Pv n H → Qd H) :
    ∃ W : Nat → Nat → Hp → Prop, (∃ m, W 0 m (upd H1 D (.lst []))) ∧ ∀ i m H, W i m H →
  ((Itr lo n).stop i H ∧ Qd H) ∨ ((Itr lo n).go i H ∧ ∃ Nx : Hp → Prop, (∀ H', Nx H' → ∃ m', m' < m ∧ W (i + 1) m' H') ∧ ∀ x H', (Itr lo n).yld i H x H' → g x (wipe σ vs) H' fun σ2 H2 => wipe σ2 vs = wipe σ vs ∧ tt σ2 H2 fun b H3 =>
    if b = true then wi1 σ2 H3 fun J1 H4 => ∃ W1 : Nat → Nat → Hp → Prop, (∃ m, W1 0 m H4) ∧ ∀ j k H, W1 j k H →
      (J1.stop j H ∧ Nx H) ∨ (J1.go j H ∧ ∃ Nx1 : Hp → Prop, (∀ H', Nx1 H' → ∃ k', k' < k ∧ W1 (j + 1) k' H') ∧ ∀ x H', J1.yld j H x H' → g1 x (wipe σ2 vs1) H' fun σ3 H5 => wipe σ3 vs1 = wipe σ2 vs1 ∧ tt1 σ3 H5 fun b H6 =>
        if b = true then te σ3 H6 fun y H7 => ∃ acc, H7 D = some (.lst acc) ∧ acc.length < sizeLine ∧ Nx1 (upd H7 D (.lst (acc ++ [y]))) else Nx1 H6)
    else Nx H3) := by
  refine ⟨fun i m H => m = n - i ∧ i ≤ n ∧ Pv i H, ⟨n, by simp, Nat.zero_le _, h0⟩, ?_⟩
  rintro i m H ⟨rfl, hi, p⟩
  by_cases hlt : i < n
  · refine .inr ⟨hlt, Pv (i + 1), fun H' p' => ⟨n - (i + 1), by omega, rfl, hlt, p'⟩, fun x H' y => ?_⟩
    obtain ⟨e, y⟩ := y
    subst e y
    exact hs i _ hlt p
  · have e : i = n := by omega
    subst e
    exact .inl ⟨Nat.le_refl _, hd H p⟩
theorem lc2_in {lo : Int} {n : Nat} {vs1 : List Nat} {σ2 : L2.St} {H4 : Hp} {D : Addr} {Nx : Hp → Prop} (Pv : Nat → Hp → Prop) (h0 : Pv 0 H4)
    (hs : ∀ j H, j < n → Pv j H → g1 (.int (lo + j)) (wipe σ2 vs1) H fun σ3 H5 => wipe σ3 vs1 = wipe σ2 vs1 ∧ tt1 σ3 H5 fun b H6 =>
      if b = true then te σ3 H6 fun y H7 => ∃ acc, H7 D = some (.lst acc) ∧ acc.length < sizeLine ∧ Pv (j + 1) (upd H7 D (.lst (acc ++ [y]))) else Pv (j + 1) H6) (hd : ∀ H, Pv n H → Nx H) :
    ∃ W1 : Nat → Nat → Hp → Prop, (∃ m, W1 0 m H4) ∧ ∀ j k H, W1 j k H →
      ((Itr lo n).stop j H ∧ Nx H) ∨ ((Itr lo n).go j H ∧ ∃ Nx1 : Hp → Prop, (∀ H', Nx1 H' → ∃ k', k' < k ∧ W1 (j + 1) k' H') ∧ ∀ x H', (Itr lo n).yld j H x H' → g1 x (wipe σ2 vs1) H' fun σ3 H5 => wipe σ3 vs1 = wipe σ2 vs1 ∧ tt1 σ3 H5 fun b H6 =>
        if b = true then te σ3 H6 fun y H7 => ∃ acc, H7 D = some (.lst acc) ∧ acc.length < sizeLine ∧ Nx1 (upd H7 D (.lst (acc ++ [y]))) else Nx1 H6) := by
  refine ⟨fun i m H => m = n - i ∧ i ≤ n ∧ Pv i H, ⟨n, by simp, Nat.zero_le _, h0⟩, ?_⟩
  rintro i m H ⟨rfl, hi, p⟩
  by_cases hlt : i < n
  · refine .inr ⟨hlt, Pv (i + 1), fun H' p' => ⟨n - (i + 1), by omega, rfl, hlt, p'⟩, fun x H' y => ?_⟩
    obtain ⟨e, y⟩ := y
    subst e y
    exact hs i _ hlt p
  · have e : i = n := by omega
    subst e
    exact .inl ⟨Nat.le_refl _, hd H p⟩
end
section
variable {P : Program} {w : World} {K : PySem.W.Frag} {mg : Str → Option Value} {base : Heap}
theorem sc_water_of : FnScope ["dam", "first", "last", "held", "end"] ["dam", "first", "last"] (defScope (topS 27)) := ⟨rfl, rfl, rfl, by decide +kernel, rfl, by decide +kernel, by decide +kernel⟩
def spWater : Sp := fun vs H Q _ => ∃ (a : Addr) (C s e : Int) (ins : List Int) (f l : Nat), vs = [.ref a, .int (f : Int), .int (l : Int)] ∧ DamAt H a C s e ins ∧ f ≤ l ∧ l < ins.length ∧ ∀ H', Same H H' → Q (.int ((inOf C s e ins).water f l)) H'
theorem ok_water_of (T : Txt K mg) : FnOk P w K mg base CX0 1 T.d_water_of.f T.d_water_of.fd ["dam", "first", "last"] spWater := by
  refine T.d_water_of.F.ok sc_water_of (fun vs H Q E h => ?_) (fun A outer s H vs Q E hr h => ?_)
  · obtain ⟨a, C, s, e, ins, f, l, rfl, _⟩ := h
    rfl
  · obtain ⟨a, C, st, en, ins, f, l, rfl, ⟨b, h, hI⟩, hfl, hln, q⟩ := h
    refine ⟨_, (pss_cons (ps_set (i := 3) sc_water_of.nd rfl (.inl rfl) (pe_ifExp (pt_cmpR op_eq (pv 1) pe_int (nomark _)) (pe_ix ix_tup (pv 0) pe_int (fun _ _ => rfl)) (pe_ix ix_tup (pv 0) pe_int (fun _ _ => rfl))))
      (pss_cons (ps_set (i := 4) sc_water_of.nd rfl (.inl rfl) (pe_ifExp (pt_cmpR op_eq (pv 2) (pe_op op_sub (pe_callB call_len_seq (by rfl) T.n_len PySem.boot_len (pa_cons (pe_ix ix_tup (pv 0) pe_int (fun _ _ => rfl)) pa_nil)) pe_int) (nomark _)) (pe_ix ix_tup (pv 0) pe_int (fun _ _ => rfl)) pe_int))
      (pss_one (ps_ret (pe_op op_sub (pe_op op_add (pv 3) (pe_callB (ZM.cr_sumT rfl) (by rfl) T.n_sum (by decide +kernel) (pa_cons (pe_slice sl_tupA (pe_ix ix_tup (pv 0) pe_int (fun _ _ => rfl)) (po_some (pv 1)) (po_some (pe_op op_add (pv 2) pe_int))) pa_nil))) (pv 4)))))), ?_⟩
    have hcut := cutV_map ins f l hln hfl
    have hsum : ((ins.drop f).take (l + 1 - f)).sum = Dam.P (at0 ins) (l + 1) - Dam.P (at0 ins) f := by
      have h := sum_cut (n := ins.length) (lo := f) (hi := l + 1) (at0 ins) (by omega) (by omega)
      rwa [ints_list] at h
    have top : ∀ c0, decide (V.int (f : Int) = V.int 0) = c0 → (inOf C st en ins).top f = if c0 = true then st else C := by
      intro c0 e0
      unfold Dam.In.top
      by_cases z : f = 0
      · rw [if_pos z]
        rw [eqInt (by omega)] at e0
        rw [← e0]
        rfl
      · rw [if_neg z]
        rw [eqIntF (by omega)] at e0
        rw [← e0]
        rfl
    have fin : ∀ c1, decide (V.int (l : Int) = V.int (((ins.map V.int).length : Int) - 1)) = c1 → (inOf C st en ins).fin l = if c1 = true then en else 0 := by
      intro c1 e1
      rw [List.length_map] at e1
      unfold Dam.In.fin
      by_cases z : l + 1 = ins.length
      · rw [if_pos (show l + 1 = (inOf C st en ins).n from z)]
        rw [eqInt (by omega)] at e1
        rw [← e1]
        rfl
      · rw [if_neg (show ¬ l + 1 = (inOf C st en ins).n from z)]
        rw [eqIntF (by omega)] at e1
        rw [← e1]
        rfl
    have val : (inOf C st en ins).water f l = (inOf C st en ins).top f + ((ins.drop f).take (l + 1 - f)).sum - (inOf C st en ins).fin l := by
      unfold Dam.In.water
      rw [hsum]
      rfl
    generalize e0 : decide (V.int (f : Int) = V.int 0) = c0 at top
    generalize e1 : decide (V.int (l : Int) = V.int (((ins.map V.int).length : Int) - 1)) = c1 at fin
    have top := top c0 rfl
    have fin := fin c1 rfl
    rw [top, fin] at val
    refine ⟨_, rfl, rfl, _, rfl, ?_⟩
    cases c0 <;> cases c1
    all_goals
      first | refine iteT' e0 ?_ | refine iteF' e0 ?_
      refine ⟨_, rfl, _, _, _, _, rfl, rfl, SqT.of h, rfl, ?_⟩
      refine ⟨_, rfl, _, rfl, _, _, _, _, rfl, rfl, SqT.of h, rfl, _, _, rfl, .inr (SqT.of hI), _, _, rfl, rfl, rfl, _, rfl, ?_⟩
      first
        | refine iteT' e1 ⟨_, rfl, _, _, _, _, rfl, rfl, SqT.of h, rfl, ?_⟩
        | refine iteF' e1 ?_
      refine ⟨_, rfl, _, rfl, _, _, _, _, rfl, rfl, SqT.of h, rfl, _, rfl, _, rfl, _, rfl, _, _, rfl, rfl, _, rfl, _, _, rfl, SqT.of hI, fun z => ?_, fun z p np => ?_⟩
      · rw [List.length_map, HT.sIx_nat, show ((l : Int) + 1) = ((l + 1 : Nat) : Int) by omega, HT.sIx_nat] at z
        have hz : ((ins.drop f).take (l + 1 - f)) = ins := by
          rw [show f = 0 by omega, List.drop_zero, show l + 1 - 0 = ins.length by omega, List.take_length]
        rw [hz] at val
        refine ⟨_, ins, rfl, SqT.of hI, _, _, rfl, rfl, _, rfl, _, _, rfl, rfl, ?_⟩
        have := q H (Same.refl H)
        rw [val] at this
        exact this
      · refine ⟨_, ((ins.drop f).take (l + 1 - f)), rfl, SqT.of ?_, _, _, rfl, rfl, _, rfl, _, _, rfl, rfl, ?_⟩
        · rw [upd_same, ← hcut]
        · have := q _ (same_new (o := .tup (cutV (ins.map V.int) (some (f : Int)) (some ((l : Int) + 1)))) np)
          rw [val] at this
          exact this
theorem sc_spans : FnScope ["months", "first", "last"] ["months"] (defScope (topS 28)) := ⟨rfl, rfl, rfl, by decide +kernel, rfl, by decide +kernel, by decide +kernel⟩
def PairAt (H : Hp) (v : V) (q : Nat × Nat) : Prop := ∃ t, v = .ref t ∧ H t = some (.tup [.int (q.1 : Int), .int (q.2 : Int)])
def spSpans : Sp := fun vs H Q _ => ∃ n : Nat, vs = [.int (n : Int)] ∧ n ≤ 7 ∧ ∀ H' p xs, Same H H' → H p = none → H' p = some (.lst xs) → Paired (PairAt H') xs (Dam.spans n) → Q (.ref p) H'
theorem ok_spans (T : Txt K mg) : FnOk P w K mg base CX0 1 T.d_spans.f T.d_spans.fd ["months"] spSpans := by
  refine T.d_spans.F.ok sc_spans (fun vs H Q E h => ?_) (fun A outer s H vs Q E hr h => ?_)
  · obtain ⟨n, rfl, _⟩ := h
    rfl
  · obtain ⟨n, rfl, hn, q⟩ := h
    refine ⟨_, (pss_one (ps_ret (pe_lc2 (own := [("first", 1), ("last", 2)]) (vs1 := [2]) rfl sc_spans.nd (pi_range1 (by rfl) T.n_range (pa_cons (pv 0) pa_nil)) (blkOk_by (N := ["months", "first", "last"]) (sc := defScope (topS 28)) (by decide +kernel)) (by decide) (fun _ _ _ _ _ => (pg_name (i := 1) sc_spans.nd rfl (.inl rfl))) (fun _ _ _ _ _ => pts_nil) (fun _ _ _ _ _ => (pi_range2 (by rfl) T.n_range (pa_cons (pv 1) (pa_cons (pv 0) pa_nil)))) (fun _ _ _ _ _ => (pg_name (i := 2) sc_spans.nd rfl (.inl rfl))) (fun _ _ _ _ _ => pts_nil) (fun _ _ _ _ _ => (pe_tup (pa_cons (pv 1) (pa_cons (pv 2) pa_nil))))))), ?_⟩
    refine ⟨_, rfl, _, rfl, by omega, by omega, fun D nD => ?_⟩
    have sD := same_new (o := .lst []) nD
    let F : Nat → List (Nat × Nat) := fun i => (List.range i).flatMap fun f => (List.range (n - f)).map fun j => (f, f + j)
    let G : Nat → Nat → List (Nat × Nat) := fun i j => F i ++ (List.range j).map fun j => (i, i + j)
    have F0 : F 0 = [] := rfl
    have G0 : ∀ i, G i 0 = F i := fun i => List.append_nil _
    have Gs : ∀ i j, G i (j + 1) = G i j ++ [(i, i + j)] := fun i j => by
      show F i ++ (List.range (j + 1)).map _ = _
      rw [List.range_succ, List.map_append, ← List.append_assoc]
      rfl
    have Fs : ∀ i, F (i + 1) = G i (n - i) := fun i => by
      show (List.range (i + 1)).flatMap _ = _
      rw [List.range_succ, List.flatMap_append]
      show _ ++ (_ ++ []) = _
      rw [List.append_nil]
    have mv : ∀ {H1 H2 : Hp} {xs : List V} {ps : List (Nat × Nat)} {ys : List V}, H1 D = some (.lst xs) → Same H1 H2 → Paired (PairAt H1) xs ps → Paired (PairAt (upd H2 D (.lst ys))) xs ps := fun hD sm pr => paired_keep pr fun v x hx => by
      obtain ⟨t, e, ht⟩ := hx
      refine ⟨t, e, ?_⟩
      rw [upd_ne (ne_of ht hD (by intro z; cases z))]
      exact sm _ _ ht
    refine lc2_rng (lo := 0) (n := n) (fun i H' => Same H H' ∧ ∃ xs, H' D = some (.lst xs) ∧ xs.length ≤ 10 * i ∧ Paired (PairAt H') xs (F i)) ⟨sD, [], upd_same, Nat.le_refl _, .nil⟩ (fun i H' hi pv => ?_) (fun H' pv => ?_)
    · refine ⟨rfl, yes_iteT ?_⟩
      refine ⟨_, rfl, _, rfl, _, _, rfl, ⟨by omega, by omega, by omega, by omega⟩, ?_⟩
      refine lc2_in (fun j H' => Same H H' ∧ ∃ xs, H' D = some (.lst xs) ∧ xs.length ≤ 10 * i + j ∧ Paired (PairAt H') xs (G i j)) ?_ (fun j H2 hj pw => ?_) (fun H2 pw => ?_)
      · rw [G0]
        exact pv
      · obtain ⟨sm, xs, hD, hlen, pr⟩ := pw
        refine ⟨rfl, yes_iteT ?_⟩
        refine ⟨_, rfl, _, rfl, by show 2 ≤ sizeLine; decide, fun p np => ?_⟩
        have sp := same_new (o := .tup [.int (0 + (i : Int)), .int (0 + (i : Int) + (j : Int))]) np
        have hne : p ≠ D := (ne_of_none hD np).symm
        refine ⟨xs, sp _ _ hD, small1000 (by omega), fun c o hc => ?_, xs ++ [.ref p], upd_same, by simp; omega, ?_⟩
        · rw [upd_ne (ne_of_none hc nD)]
          exact sp _ _ (sm _ _ hc)
        · rw [Gs]
          refine paired_snoc (mv hD sp pr) ⟨p, rfl, ?_⟩
          rw [upd_ne hne, upd_same]
          show some (HO.tup [V.int (0 + (i : Int)), V.int (0 + (i : Int) + (j : Int))]) = some (HO.tup [V.int (i : Int), V.int ((i + j : Nat) : Int)])
          rw [Int.zero_add, Int.natCast_add]
      · obtain ⟨sm, xs, hD, hlen, pr⟩ := pw
        have e : ((n : Int) - (0 + (i : Int))).toNat = n - i := by omega
        rw [e] at pr hlen
        rw [← Fs] at pr
        exact ⟨sm, xs, hD, by omega, pr⟩
    · obtain ⟨sm, xs, hD, hlen, pr⟩ := pv
      exact q H' D xs sm nD hD pr
end
end DW
end

section
/-! worths checked -/
namespace DW
open PySem PySem.Spec PyProof.Rows L2
structure PcsOk (ps : List Dam.Pc) : Prop where
  p : Dam.Pieces ps
  hi : ∀ x ∈ ps, x.1 ≤ 1000 ∧ x.2 ≤ 1000
  len : ps.length ≤ 3
structure WorOk (n : Nat) (ws : List (List Dam.Pc)) : Prop where
  len : ws.length = n
  ok : ∀ ps ∈ ws, PcsOk ps
section
variable {P : Program} {w : World} {K : PySem.W.Frag} {mg : Str → Option Value} {base : Heap}
theorem sc_is_piece : FnScope ["value", "one"] ["value"] (defScope (topS 32)) := ⟨rfl, rfl, rfl, by decide +kernel, rfl, by decide +kernel, by decide +kernel⟩
def spIsP (ts : List Addr) : Sp := fun vs H Q _ => ∃ v p, vs = [v] ∧ PcAt H v p ∧ (1 ≤ p.1 ∧ p.1 ≤ 1000) ∧ (1 ≤ p.2 ∧ p.2 ≤ 1000) ∧ Tb ts H ∧ ∀ H', Ext ts H H' → Q (.bl true) H'
theorem ok_is_piece (T : Txt K mg) (B : Bs T base) : FnOk P w K mg base CX0 5 T.d_is_piece.f T.d_is_piece.fd ["value"] (spIsP T.ts) := by
  have TB := B.is_piece
  have G_is_in : FnOk P w K mg base CX0 1 T.d_is_in.f T.d_is_in.fd ["value", "least", "most"] spIn := ok_is_in T
  obtain ⟨t1, g_MOST_AMOUNT⟩ := T.c_MOST_AMOUNT
  refine T.d_is_piece.F.ok sc_is_piece (fun vs H Q E h => ?_) (fun A outer s H vs Q E hr h => ?_)
  · obtain ⟨v, k, rfl, _⟩ := h
    rfl
  · obtain ⟨v, p, rfl, ⟨a, rfl, h⟩, h1, h2, tb, q⟩ := h
    refine ⟨_, (pss_one (ps_ret (pe_and (pe_callB call_isi (by rfl) T.n_isinstance (by decide +kernel) (pa_cons (pv 0) (pa_cons (pe_bltn (v := .ty "tuple") (by rfl) T.n_tuple (by decide +kernel) rfl) pa_nil))) (pe_and (pe_cmpR op_eq (pe_callB call_len_seq (by rfl) T.n_len PySem.boot_len (pa_cons (pv 0) pa_nil)) pe_int (nomark _)) (pe_one (GA.pe_allG (k := 1) (ix := 1) (hr.mono (by decide)) rfl T.n_all TB rfl (GA.genC_by (N := ["value", "one"]) (sc := defScope (topS 32)) (by decide +kernel)) sc_is_piece.nd (pi_tup (pv 0)) (fun _ _ _ _ _ hr => (pe_call G_is_in (hr.mono (by decide)) (by rfl) T.d_is_in.g T.d_is_in.kp T.d_is_in.b .nil pass0 (pa_cons (pv 1) (pa_cons pe_int (pa_cons (pe_glob (v := .int 1000) rfl g_MOST_AMOUNT ⟨_, rfl⟩) pa_nil))))))))))), ?_⟩
    refine ⟨_, rfl, _, _, _, _, true, rfl, .ty _, .base (.tup h), kit_ty (by decide +kernel), _, rfl, iteT ?_⟩
    refine ⟨_, rfl, _, _, rfl, .inr (SqT.of h), rfl, _, rfl, iteT' (eqInt rfl) ?_⟩
    refine ⟨_, rfl, _, rfl, ⟨_, SqT.of h⟩, gen_tup (ts := T.ts) T.m_is_piece tb h (fun i v H' e hi => ?_) (fun H' e => ?_)⟩
    · have hv : ∃ n : Int, v = .int n ∧ 1 ≤ n ∧ n ≤ 1000 := by
        match i, hi with
        | 0, hi => exact ⟨p.1, (Option.some.inj hi).symm, h1⟩
        | 1, hi => exact ⟨p.2, (Option.some.inj hi).symm, h2⟩
      obtain ⟨n, rfl, l1, l2⟩ := hv
      exact ⟨_, rfl, _, _, _, rfl, l1, l2, rfl, e⟩
    · exact q H' e
theorem sc_are_pieces : FnScope ["value", "k", "one"] ["value"] (defScope (topS 33)) := ⟨rfl, rfl, rfl, by decide +kernel, rfl, by decide +kernel, by decide +kernel⟩
def spAreP (ts : List Addr) : Sp := fun vs H Q _ => ∃ v ps, vs = [v] ∧ PcsAt H v ps ∧ PcsOk ps ∧ Tb ts H ∧ ∀ H', Ext ts H H' → Q (.bl true) H'
theorem ok_are_pieces (T : Txt K mg) (B : Bs T base) : FnOk P w K mg base CX0 9 T.d_are_pieces.f T.d_are_pieces.fd ["value"] (spAreP T.ts) := by
  have TB := B.are_pieces
  have G_is_piece : FnOk P w K mg base CX0 5 T.d_is_piece.f T.d_is_piece.fd ["value"] (spIsP T.ts) := ok_is_piece T B
  obtain ⟨t1, g_MOST_PIECES⟩ := T.c_MOST_PIECES
  refine T.d_are_pieces.F.ok sc_are_pieces (fun vs H Q E h => ?_) (fun A outer s H vs Q E hr h => ?_)
  · obtain ⟨v, k, rfl, _⟩ := h
    rfl
  · obtain ⟨v, ps, rfl, ⟨a, vs, rfl, h, pr⟩, ok, tb, q⟩ := h
    have hl := Paired.length pr
    refine ⟨_, (pss_cons (ps_if (PW.pt (pw_or (pt_not (pt_val (pe_callB call_isi (by rfl) T.n_isinstance (by decide +kernel) (pa_cons (pv 0) (pa_cons (pe_bltn (v := .ty "tuple") (by rfl) T.n_tuple (by decide +kernel) rfl) pa_nil))))) (pw_or (pt_cmpR op_gt (pe_callB call_len_seq (by rfl) T.n_len PySem.boot_len (pa_cons (pv 0) pa_nil)) (pe_glob (v := .int 3) rfl g_MOST_PIECES ⟨_, rfl⟩) (nomark _)) (pw_or1 (pt_not (pt_val (GA.pe_allG (k := 5) (ix := 2) (hr.mono (by decide)) rfl T.n_all TB rfl (GA.genC_by (N := ["value", "k", "one"]) (sc := defScope (topS 33)) (by decide +kernel)) sc_are_pieces.nd (pi_tup (pv 0)) (fun _ _ _ _ _ hr => (pe_call G_is_piece (hr.mono (by decide)) (by rfl) T.d_is_piece.g T.d_is_piece.kp T.d_is_piece.b .nil pass0 (pa_cons (pv 2) pa_nil)))))))))) (pss_one (ps_ret pe_bl)) pss_nil)
      (pss_one (ps_ret (GA.pe_allG (k := 0) (ix := 1) (hr.mono (by decide)) rfl T.n_all TB rfl (GA.genC_by (N := ["value", "k", "one"]) (sc := defScope (topS 33)) (by decide +kernel)) sc_are_pieces.nd (pi_range1 (by rfl) T.n_range (pa_cons (pe_op op_sub (pe_callB call_len_seq (by rfl) T.n_len PySem.boot_len (pa_cons (pv 0) pa_nil)) pe_int) pa_nil)) (fun _ _ _ _ _ hr => (pe_cmpR op_gt (pe_ix (ixTK (K := K) rfl) (pe_ix (ixTK (K := K) rfl) (pv 0) (pv 1) (fun _ _ => rfl)) pe_int (fun _ _ => rfl)) (pe_ix (ixTK (K := K) rfl) (pe_ix (ixTK (K := K) rfl) (pv 0) (pe_op op_add (pv 1) pe_int) (fun _ _ => rfl)) pe_int (fun _ _ => rfl)) (nomark _))))))), ?_⟩
    refine ⟨_, rfl, _, _, _, _, true, rfl, .ty _, .base (.tup h), kit_ty (by decide +kernel), _, rfl, iteF ?_⟩
    refine ⟨_, rfl, _, _, rfl, .inr (SqT.of h), _, _, rfl, rfl, _, rfl, iteF' (decide_eq_false (by have := ok.len; omega)) ?_⟩
    refine ⟨_, rfl, _, rfl, ⟨_, SqT.of h⟩, gen_tup (ts := T.ts) T.m_are_pieces tb h (fun i v H' e hi => ?_) (fun H' e => ?_)⟩
    · obtain ⟨p, hp, hP⟩ := paired_at pr hi
      have hm := List.mem_of_getElem? hp
      have h1 := ok.p.pos p hm
      have h2 := ok.hi p hm
      exact ⟨_, rfl, _, p, rfl, PcAt.keep (e.keep tb) hP, ⟨h1.1, h2.1⟩, ⟨h1.2, h2.2⟩, e.tb tb, fun H2 e2 => ⟨rfl, e.trans e2⟩⟩
    · refine ⟨_, rfl, iteF ?_⟩
      have tb1 := e.tb tb
      have h' := e.keep tb _ _ h
      refine ⟨_, rfl, _, _, rfl, .inr (SqT.of h'), _, _, rfl, rfl, _, rfl, by omega, by have := ok.len; omega, gen_rng (ts := T.ts) T.m_are_pieces tb1 (fun i H2 hi e2 => ?_) (fun H2 e2 => ?_)⟩
      · have h2 := e2.keep tb1 _ _ h'
        have k2 := (e.trans e2).keep tb
        have i1 : i < vs.length := by omega
        have i2 : i + 1 < vs.length := by omega
        obtain ⟨p, hp, a1, r1, hP⟩ := paired_at pr (List.getElem?_eq_getElem i1)
        obtain ⟨p2, hp2, a2, r2, hP2⟩ := paired_at pr (List.getElem?_eq_getElem i2)
        have g1 : atI vs (0 + (i : Int)) = some (.ref a1) := by
          rw [Int.zero_add, ← r1]
          exact atI_nat (List.getElem?_eq_getElem i1)
        have g2 : atI vs (0 + (i : Int) + 1) = some (.ref a2) := by
          rw [Int.zero_add, ← r2, show (i : Int) + 1 = ((i + 1 : Nat) : Int) by omega]
          exact atI_nat (List.getElem?_eq_getElem i2)
        have hlt : p2.2 < p.2 := by
          have j1 : i < ps.length := by omega
          have j2 : i + 1 < ps.length := by omega
          have hd := List.pairwise_iff_getElem.mp ok.p.desc i (i + 1) j1 j2 (by omega)
          rw [List.getElem?_eq_getElem j1] at hp
          rw [List.getElem?_eq_getElem j2] at hp2
          rw [← Option.some.inj hp, ← Option.some.inj hp2]
          exact hd
        refine ⟨_, rfl, _, rfl, _, _, _, _, rfl, rfl, SqT.of h2, g1, _, _, _, _, rfl, rfl, SqT.of (k2 _ _ hP), rfl, ?_⟩
        refine ⟨_, rfl, _, rfl, _, _, rfl, rfl, _, _, _, _, rfl, rfl, SqT.of h2, g2, _, _, _, _, rfl, rfl, SqT.of (k2 _ _ hP2), rfl, _, _, rfl, rfl, ?_, e2⟩
        show V.bl (decide (p2.2 < p.2)) = V.bl true
        rw [decide_eq_true hlt]
      · exact q H2 (e.trans e2)
theorem sc_need_worths : FnScope ["dam", "worths", "index", "one"] ["dam", "worths"] (defScope (topS 34)) := ⟨rfl, rfl, rfl, by decide +kernel, rfl, by decide +kernel, by decide +kernel⟩
def spNeedW (ts : List Addr) : Sp := fun vs H Q _ => ∃ a b C s e ins ws, vs = [.ref a, .ref b] ∧ DamAt H a C s e ins ∧ DamOk C s e ins ∧ WorAt H b ws ∧ WorOk ins.length ws ∧ Tb ts H ∧ ∀ H', Ext ts H H' → Q .non H'
theorem ok_need_worths (T : Txt K mg) (B : Bs T base) : FnOk P w K mg base CX0 10 T.d_need_worths.f T.d_need_worths.fd ["dam", "worths"] (spNeedW T.ts) := by
  have G_need_dam : FnOk P w K mg base CX0 6 T.d_need_dam.f T.d_need_dam.fd ["dam"] (spNeedDam T.ts) := ok_need_dam T B
  have G_are_pieces : FnOk P w K mg base CX0 9 T.d_are_pieces.f T.d_are_pieces.fd ["value"] (spAreP T.ts) := ok_are_pieces T B
  refine T.d_need_worths.F.ok sc_need_worths (fun vs H Q E h => ?_) (fun A outer s H vs Q E hr h => ?_)
  · obtain ⟨a, b, C, s, e, ins, ws, rfl, _⟩ := h
    rfl
  · obtain ⟨a, b, C, st, en, ins, ws, rfl, hd, ok, hw, wok, tb, q⟩ := h
    refine ⟨_, (pss_cons (ps_expr (pe_call G_need_dam (hr.mono (by decide)) (by rfl) T.d_need_dam.g T.d_need_dam.kp T.d_need_dam.b .nil pass0 (pa_cons (pv 0) pa_nil)))
      (pss_cons (ps_if (PW.pt (pw_or (pt_not (pt_val (pe_callB call_isi (by rfl) T.n_isinstance (by decide +kernel) (pa_cons (pv 1) (pa_cons (pe_bltn (v := .ty "tuple") (by rfl) T.n_tuple (by decide +kernel) rfl) pa_nil))))) (pw_or1 (pt_cmpR op_ne (pe_callB call_len_seq (by rfl) T.n_len PySem.boot_len (pa_cons (pv 1) pa_nil)) (pe_callB call_len_seq (by rfl) T.n_len PySem.boot_len (pa_cons (pe_ix ix_tup (pv 0) pe_int (fun _ _ => rfl)) pa_nil)) (nomark _))))) (pss_one ps_never) pss_nil)
      (pss_one (ps_for PassesOwn.never rfl (ZM.pi_enumT (by rfl) T.n_enumerate (pa_cons (pv 1) pa_nil)) (pg_tup rfl (pgs_cons (pg_name (i := 2) sc_need_worths.nd rfl (.inl rfl)) (pgs_cons (pg_name (i := 3) sc_need_worths.nd rfl (.inl rfl)) pgs_nil))) (pss_one (ps_if (pt_not (pt_val (pe_call G_are_pieces (hr.mono (by decide)) (by rfl) T.d_are_pieces.g T.d_are_pieces.kp T.d_are_pieces.b .nil pass0 (pa_cons (pv 3) pa_nil)))) (pss_one ps_never) pss_nil)))))), ?_⟩
    refine ⟨_, rfl, _, _, _, _, _, rfl, hd, ok, tb, fun H1 e1 => ?_⟩
    have tb1 := e1.tb tb
    obtain ⟨b1, h, hI⟩ := hd.keep (e1.keep tb)
    obtain ⟨vs, hvs, pr⟩ := hw.keep (e1.keep tb)
    have hl := Paired.length pr
    refine ⟨_, rfl, _, _, _, _, true, rfl, .ty _, .base (.tup hvs), kit_ty (by decide +kernel), _, rfl, iteF ?_⟩
    refine ⟨_, rfl, _, _, rfl, .inr (SqT.of hvs), _, rfl, _, _, _, _, rfl, rfl, SqT.of h, rfl, _, _, rfl, .inr (SqT.of hI), rfl, _, rfl, iteF' (neInt (by rw [List.length_map]; have := wok.len; omega)) ?_⟩
    refine ⟨_, rfl, _, _, rfl, SqT.of hvs, ?_⟩
    refine ZM.for_enumT (xs := vs) (fun i σ H' => Ext T.ts H1 H' ∧ ∃ y z, σ = [some (.ref a), some (.ref b), y, z]) ⟨.refl _ _, _, _, rfl⟩ (fun i σ H' pv => SqT.of (pv.1.keep tb1 _ _ hvs)) (fun i x Tt σ H' hx pv nT => ?_) (fun σ H' pv => ?_)
    · obtain ⟨e2, y, z, rfl⟩ := pv
      obtain ⟨ps, hps, hP⟩ := paired_at pr hx
      have t1 := same_new (o := .tup [.int (i : Nat), x]) nT
      have e3 := e2.trans (Ext.of (ts := T.ts) t1)
      refine ⟨_, _, rfl, SqT.of upd_same, rfl, _, _, rfl, _, _, rfl, rfl, ?_⟩
      refine ⟨_, rfl, _, ps, rfl, hP.keep (e3.keep tb1), wok.ok ps (List.mem_of_getElem? hps), e3.tb tb1, fun H4 e4 => ⟨_, rfl, iteF ?_⟩⟩
      exact ⟨e3.trans e4, _, _, rfl⟩
    · exact q H' (e1.trans pv.1)
end
end DW
end

section
/-! worths of plans -/
namespace DW
open PySem PySem.Spec PyProof.Rows L2
theorem worth_step {A w x : Int} {r : List Dam.Pc} : Dam.worth ((A, w) :: r) x = (if x < A then x else A) * w + Dam.worth r (x - if x < A then x else A) := rfl
theorem drop_cons {α : Type} {xs : List α} {i : Nat} {x : α} (h : xs[i]? = some x) : xs.drop i = x :: xs.drop (i + 1) := by
  obtain ⟨hi, e⟩ := List.getElem?_eq_some_iff.mp h
  rw [List.drop_eq_getElem_cons hi, e]
def wAt (ws : List (List Dam.Pc)) : Nat → List Dam.Pc := fun k => ws.getD k []
theorem wAt_is {ws : List (List Dam.Pc)} {i : Nat} {ps : List Dam.Pc} (h : ws[i]? = some ps) : wAt ws i = ps := by
  unfold wAt
  rw [List.getD_eq_getElem?_getD, h]
  rfl
section
variable {P : Program} {w : World} {K : PySem.W.Frag} {mg : Str → Option Value} {base : Heap}
theorem sc_month_worth : FnScope ["pieces", "release", "found", "rest", "amount", "price", "share"] ["pieces", "release"] (defScope (topS 35)) := ⟨rfl, rfl, rfl, by decide +kernel, rfl, by decide +kernel, by decide +kernel⟩
def spMonth : Sp := fun vs H Q _ => ∃ v r ps x, vs = [v, r] ∧ PcsAt H v ps ∧ PcsOk ps ∧ Rat1 H r x ∧ ∀ H' u, Same H H' → Rat1 H' u (Dam.worth ps x) → Q u H'
theorem ok_month_worth (T : Txt K mg) : FnOk P w K mg base CX0 3 T.d_month_worth.f T.d_month_worth.fd ["pieces", "release"] spMonth := by
  have G_plus : FnOk P w K mg base CX0 2 T.d_plus.f T.d_plus.fd ["one", "other"] (spTwo (fun i j => i + j) fun _ _ => True) := ok_plus T
  have G_minus : FnOk P w K mg base CX0 2 T.d_minus.f T.d_minus.fd ["one", "other"] (spTwo (fun i j => i - j) fun _ _ => True) := ok_minus T
  have G_by : FnOk P w K mg base CX0 2 T.d_by.f T.d_by.fd ["one", "other"] (spTwo (fun i j => i * j) CMul) := ok_by T
  have G_less : FnOk P w K mg base CX0 1 T.d_less.f T.d_less.fd ["one", "other"] spLess := ok_less T
  refine T.d_month_worth.F.ok sc_month_worth (fun vs H Q E h => ?_) (fun A outer s H vs Q E hr h => ?_)
  · obtain ⟨v, r, ps, x, rfl, _⟩ := h
    rfl
  · obtain ⟨v, r, ps, x, rfl, ⟨a, vs, rfl, h, pr⟩, ok, ⟨ar, rfl, hr0⟩, q⟩ := h
    have hl := Paired.length pr
    refine ⟨_, (pss_cons (ps_par (i := 2) (j := 3) (by rfl) sc_month_worth.nd rfl rfl (by decide) rfl rfl (pa_cons (pe_tup (pa_cons pe_int (pa_cons pe_int pa_nil))) (pa_cons (pv 1) pa_nil)) (by rfl))
      (pss_cons (ps_for PassesOwn.never rfl (pi_tup (pv 0)) (pg_tup rfl (pgs_cons (pg_name (i := 4) sc_month_worth.nd rfl (.inl rfl)) (pgs_cons (pg_name (i := 5) sc_month_worth.nd rfl (.inl rfl)) pgs_nil))) (Evl.pss_cut (ps_set (i := 6) sc_month_worth.nd rfl (.inl rfl) (pe_ifExp (pt_val (pe_call G_less (hr.mono (by decide)) (by rfl) T.d_less.g T.d_less.kp T.d_less.b .nil pass0 (pa_cons (pv 3) (pa_cons (pe_tup (pa_cons (pv 4) (pa_cons pe_int pa_nil))) pa_nil)))) (pv 3) (pe_tup (pa_cons (pv 4) (pa_cons pe_int pa_nil)))))
      (pss_cons (ps_set (i := 2) sc_month_worth.nd rfl (.inl rfl) (pe_call G_plus (hr.mono (by decide)) (by rfl) T.d_plus.g T.d_plus.kp T.d_plus.b .nil pass0 (pa_cons (pv 2) (pa_cons (pe_call G_by (hr.mono (by decide)) (by rfl) T.d_by.g T.d_by.kp T.d_by.b .nil pass0 (pa_cons (pv 6) (pa_cons (pe_tup (pa_cons (pv 5) (pa_cons pe_int pa_nil))) pa_nil))) pa_nil))))
      (pss_one (ps_set (i := 3) sc_month_worth.nd rfl (.inl rfl) (pe_call G_minus (hr.mono (by decide)) (by rfl) T.d_minus.g T.d_minus.kp T.d_minus.b .nil pass0 (pa_cons (pv 3) (pa_cons (pv 6) pa_nil))))))))
      (pss_one (ps_ret (pv 2))))), ?_⟩
    refine ⟨by show 2 ≤ sizeLine; decide, fun p0 n0 => ?_⟩
    have s0 := same_new (o := .tup [.int 0, .int 1]) n0
    refine ⟨_, rfl, _, _, rfl, _, rfl, _, rfl, ⟨_, SqT.of (s0 _ _ h)⟩, ?_⟩
    refine for_tup (xs := vs) (fun i σ H' => Same H H' ∧ ∃ f r F X y z u, Rat1 H' f F ∧ Rat1 H' r X ∧ F + Dam.worth (ps.drop i) X = Dam.worth ps x ∧ σ = [some (.ref a), some (.ref ar), some f, some r, y, z, u])
      ⟨s0, .ref p0, .ref ar, 0, x, _, _, _, ⟨p0, rfl, upd_same⟩, ⟨ar, rfl, s0 _ _ hr0⟩, Int.zero_add _, rfl⟩ (fun i σ H' _ pv => SqT.of (pv.1 _ _ h)) (fun i x σ H' hx pv => ?_) (fun σ H' pv => ?_)
    · obtain ⟨sm, f, r, F, X, y, z, u, ⟨af, rfl, hf⟩, ⟨ax, rfl, hX⟩, eq, rfl⟩ := pv
      obtain ⟨⟨A, w⟩, hp, hP⟩ := paired_at pr hx
      obtain ⟨at_, rfl, ht⟩ := PcAt.keep (.of sm) hP
      have hm := List.mem_of_getElem? hp
      have hw := ok.p.pos _ hm
      have hw2 := ok.hi _ hm
      refine ⟨_, _, rfl, SqT.of ht, rfl, _, _, rfl, _, _, rfl, rfl, ?_⟩
      refine ⟨fun σ3 H3 => Same H' H3 ∧ ∃ as, H3 as = some (.tup [.int (if X < A then X else A), .int 1]) ∧ σ3 = [some (.ref a), some (.ref ar), some (.ref af), some (.ref ax), some (.int A), some (.int w), some (.ref as)], ?_, fun σ3 H3 hmid => ?_⟩
      · refine ⟨_, rfl, _, rfl, by show 2 ≤ sizeLine; decide, fun p1 n1 => ?_⟩
        have t1 := same_new (o := .tup [.int A, .int 1]) n1
        refine ⟨_, _, _, _, rfl, t1 _ _ hX, upd_same, _, rfl, ?_⟩
        by_cases hlt : X < A
        · refine iteT' (decide_eq_true hlt) ⟨_, rfl, t1, ax, ?_, rfl⟩
          rw [if_pos hlt]
          exact t1 _ _ hX
        · refine iteF' (decide_eq_false hlt) ⟨_, rfl, by show 2 ≤ sizeLine; decide, fun p2 n2 => ?_⟩
          refine ⟨t1.trans (same_new n2), p2, ?_, rfl⟩
          rw [if_neg hlt]
          exact upd_same
      · obtain ⟨s3, as, has, rfl⟩ := hmid
        refine ⟨_, rfl, _, rfl, _, rfl, by show 2 ≤ sizeLine; decide, fun p4 n4 => ?_⟩
        have t4 := s3.trans (same_new (o := .tup [.int w, .int 1]) n4)
        have has4 := same_new (o := .tup [.int w, .int 1]) n4 _ _ has
        refine ⟨_, _, _, _, rfl, has4, upd_same, .inr ⟨by have : (1 : Int) ≤ w := hw.2; omega, by have : w ≤ (1000 : Int) := hw2.2; omega⟩, fun H5 p5 s5 n5 e5 => ?_⟩
        have t5 := t4.trans s5
        refine ⟨_, _, _, _, rfl, t5 _ _ hf, e5, trivial, fun H6 p6 s6 n6 e6 => ?_⟩
        have t6 := t5.trans s6
        refine ⟨_, rfl, _, rfl, _, _, _, _, rfl, t6 _ _ hX, s6 _ _ (s5 _ _ has4), trivial, fun H7 p7 s7 n7 e7 => ?_⟩
        refine ⟨sm.trans (t6.trans s7), _, _, _, _, _, _, _, ⟨p6, rfl, s7 _ _ e6⟩, ⟨p7, rfl, e7⟩, ?_, rfl⟩
        rw [drop_cons hp, worth_step] at eq
        rw [← eq, Int.add_assoc]
    · obtain ⟨sm, f, r, F, X, y, z, u, hf, _, eq, rfl⟩ := pv
      rw [hl, List.drop_length] at eq
      have e : F = Dam.worth ps x := by
        rw [← eq]
        exact (Int.add_zero F).symm
      rw [e] at hf
      exact ⟨_, rfl, q H' f sm hf⟩
theorem sc_worth_of : FnScope ["worths", "plan", "found", "pieces", "release"] ["worths", "plan"] (defScope (topS 36)) := ⟨rfl, rfl, rfl, by decide +kernel, rfl, by decide +kernel, by decide +kernel⟩
def worthS (ws : List (List Dam.Pc)) (r : Nat → Int) (n : Nat) : Int := Dam.P (fun i => Dam.worth (wAt ws i) (r i)) n
def spWorth : Sp := fun vs H Q _ => ∃ b p ws r n, vs = [.ref b, .ref p] ∧ WorAt H b ws ∧ WorOk n ws ∧ RelAt H p n r ∧ ∀ H' u, Same H H' → Rat1 H' u (worthS ws r n) → Q u H'
theorem ok_worth_of (T : Txt K mg) : FnOk P w K mg base CX0 4 T.d_worth_of.f T.d_worth_of.fd ["worths", "plan"] spWorth := by
  have G_plus : FnOk P w K mg base CX0 2 T.d_plus.f T.d_plus.fd ["one", "other"] (spTwo (fun i j => i + j) fun _ _ => True) := ok_plus T
  have G_month_worth : FnOk P w K mg base CX0 3 T.d_month_worth.f T.d_month_worth.fd ["pieces", "release"] spMonth := ok_month_worth T
  refine T.d_worth_of.F.ok sc_worth_of (fun vs H Q E h => ?_) (fun A outer s H vs Q E hr h => ?_)
  · obtain ⟨b, p, ws, r, n, rfl, _⟩ := h
    rfl
  · obtain ⟨b, p, ws, r, n, rfl, ⟨vs, hvs, pr⟩, ok, hp, q⟩ := h
    obtain ⟨rs, hrs, hlen, _⟩ := id hp
    have hl := Paired.length pr
    refine ⟨_, (pss_cons (ps_set (i := 2) sc_worth_of.nd rfl (.inl rfl) (pe_tup (pa_cons pe_int (pa_cons pe_int pa_nil))))
      (pss_cons (ps_for PassesOwn.never rfl (ZM.pi_zipM .T .T (by rfl) T.n_zip (pa_cons (pv 0) (pa_cons (pv 1) pa_nil))) (pg_tup rfl (pgs_cons (pg_name (i := 3) sc_worth_of.nd rfl (.inl rfl)) (pgs_cons (pg_name (i := 4) sc_worth_of.nd rfl (.inl rfl)) pgs_nil))) (pss_one (ps_set (i := 2) sc_worth_of.nd rfl (.inl rfl) (pe_call G_plus (hr.mono (by decide)) (by rfl) T.d_plus.g T.d_plus.kp T.d_plus.b .nil pass0 (pa_cons (pv 2) (pa_cons (pe_call G_month_worth (hr.mono (by decide)) (by rfl) T.d_month_worth.g T.d_month_worth.kp T.d_month_worth.b .nil pass0 (pa_cons (pv 3) (pa_cons (pv 4) pa_nil))) pa_nil))))))
      (pss_one (ps_ret (pv 2))))), ?_⟩
    refine ⟨by show 2 ≤ sizeLine; decide, fun p0 n0 => ?_⟩
    have s0 := same_new (o := .tup [.int 0, .int 1]) n0
    refine ⟨_, rfl, _, rfl, _, _, _, _, rfl, SqT.of (s0 _ _ hvs), SqT.of (s0 _ _ hrs), ?_⟩
    refine ZM.for_zipM (k1 := .T) (k2 := .T) (xs := vs) (ys := rs) (by have := ok.len; omega) (fun i σ H' => Same H H' ∧ ∃ f y z, Rat1 H' f (worthS ws r i) ∧ σ = [some (.ref b), some (.ref p), some f, y, z])
      ⟨s0, .ref p0, _, _, ⟨p0, rfl, upd_same⟩, rfl⟩ (fun i σ H' pv => ⟨SqT.of (pv.1 _ _ hvs), SqT.of (pv.1 _ _ hrs)⟩) (fun i x y Tt σ H' hx hy pv nT => ?_) (fun σ H' pv => ?_)
    · obtain ⟨sm, f, y1, z1, ⟨af, rfl, hf⟩, rfl⟩ := pv
      obtain ⟨ps, hps, hP⟩ := paired_at pr hx
      obtain ⟨hi, hR⟩ := (hp.keep (.of sm)).at (sm _ _ hrs) hy
      have t1 := same_new (o := .tup [x, y]) nT
      refine ⟨_, _, rfl, SqT.of upd_same, rfl, _, _, rfl, _, _, rfl, rfl, ?_⟩
      refine ⟨_, rfl, _, rfl, _, rfl, _, _, ps, _, rfl, PcsAt.keep (.of (sm.trans t1)) hP, ok.ok ps (List.mem_of_getElem? hps), hR.keep (.of t1), fun H2 u s2 hu => ?_⟩
      obtain ⟨au, rfl, hu⟩ := hu
      refine ⟨_, _, _, _, rfl, s2 _ _ (t1 _ _ hf), hu, trivial, fun H3 p3 s3 n3 e3 => ?_⟩
      refine ⟨((sm.trans t1).trans s2).trans s3, _, _, _, ⟨p3, rfl, ?_⟩, rfl⟩
      rw [e3]
      unfold worthS
      show _ = some (HO.tup [V.int (Dam.P _ i + Dam.worth (wAt ws i) (r i)), V.int 1])
      rw [wAt_is hps]
    · obtain ⟨sm, f, y1, z1, hf, rfl⟩ := pv
      have e : vs.length = n := by have := ok.len; omega
      rw [e] at hf
      exact ⟨_, rfl, q H' f sm hf⟩
theorem sc_plan_worth : FnScope ["dam", "worths", "plan"] ["dam", "worths", "plan"] (defScope (topS 37)) := ⟨rfl, rfl, rfl, by decide +kernel, rfl, by decide +kernel, by decide +kernel⟩
def spPlanW (ts : List Addr) : Sp := fun vs H Q _ => ∃ a b p C s e ins ws r, vs = [.ref a, .ref b, .ref p] ∧ DamAt H a C s e ins ∧ DamOk C s e ins ∧ WorAt H b ws ∧ WorOk ins.length ws ∧ RelAt H p ins.length r ∧ RelOk C s e ins r ∧ Tb ts H ∧
  ∀ H' u, Ext ts H H' → Rat1 H' u (worthS ws r ins.length) → Q u H'
theorem ok_plan_worth (T : Txt K mg) (B : Bs T base) : FnOk P w K mg base CX0 11 T.d_plan_worth.f T.d_plan_worth.fd ["dam", "worths", "plan"] (spPlanW T.ts) := by
  have G_need_worths : FnOk P w K mg base CX0 10 T.d_need_worths.f T.d_need_worths.fd ["dam", "worths"] (spNeedW T.ts) := ok_need_worths T B
  have G_is_plan : FnOk P w K mg base CX0 8 T.d_is_plan.f T.d_is_plan.fd ["dam", "value"] (spPlan T.ts) := ok_is_plan T B
  have G_worth_of : FnOk P w K mg base CX0 4 T.d_worth_of.f T.d_worth_of.fd ["worths", "plan"] spWorth := ok_worth_of T
  refine T.d_plan_worth.F.ok sc_plan_worth (fun vs H Q E h => ?_) (fun A outer s H vs Q E hr h => ?_)
  · obtain ⟨a, b, p, C, s, e, ins, ws, r, rfl, _⟩ := h
    rfl
  · obtain ⟨a, b, p, C, st, en, ins, ws, r, rfl, hd, ok, hw, wok, hp, rok, tb, q⟩ := h
    refine ⟨_, (pss_cons (ps_expr (pe_call G_need_worths (hr.mono (by decide)) (by rfl) T.d_need_worths.g T.d_need_worths.kp T.d_need_worths.b .nil pass0 (pa_cons (pv 0) (pa_cons (pv 1) pa_nil))))
      (pss_cons (ps_if (pt_not (pt_val (pe_call G_is_plan (hr.mono (by decide)) (by rfl) T.d_is_plan.g T.d_is_plan.kp T.d_is_plan.b .nil pass0 (pa_cons (pv 0) (pa_cons (pv 2) pa_nil))))) (pss_one ps_never) pss_nil)
      (pss_one (ps_ret (pe_call G_worth_of (hr.mono (by decide)) (by rfl) T.d_worth_of.g T.d_worth_of.kp T.d_worth_of.b .nil pass0 (pa_cons (pv 1) (pa_cons (pv 2) pa_nil))))))), ?_⟩
    refine ⟨_, rfl, _, rfl, _, _, _, _, _, _, _, rfl, hd, ok, hw, wok, tb, fun H1 e1 => ?_⟩
    have k1 := e1.keep tb
    refine ⟨_, rfl, _, rfl, _, _, _, _, _, _, _, rfl, hd.keep k1, ok, hp.keep k1, rok, e1.tb tb, fun H2 e2 => ⟨_, rfl, iteF ?_⟩⟩
    have k2 := k1.trans (e2.keep (e1.tb tb))
    exact ⟨_, rfl, _, rfl, _, _, _, _, _, rfl, hw.keep k2, wok, hp.keep k2, fun H3 u s3 hu => q H3 u ((e1.trans e2).trans (.of s3)) hu⟩
end
end DW
end

section
/-! pieces by price -/
namespace DW
open PySem PySem.Spec PyProof.Rows L2
theorem perm_paired {α : Type} {F : V → α → Prop} : ∀ {xs ys : List V}, ys.Perm xs → ∀ {ts : List α}, Paired F xs ts → ∃ us, Paired F ys us ∧ us.Perm ts := by
  intro xs ys h
  induction h with
  | nil =>
    intro ts p
    exact ⟨ts, p, .refl _⟩
  | cons x h ih =>
    intro ts p
    cases p with
    | cons a b =>
      obtain ⟨us, p1, p2⟩ := ih b
      exact ⟨_, .cons a p1, p2.cons _⟩
  | swap x y l =>
    intro ts p
    cases p with
    | cons a b =>
      cases b with
      | cons b c => exact ⟨_, .cons b (.cons a c), .swap _ _ _⟩
  | trans h1 h2 ih1 ih2 =>
    intro ts p
    obtain ⟨us, p1, p2⟩ := ih2 p
    obtain ⟨vs, p3, p4⟩ := ih1 p1
    exact ⟨vs, p3, p4.trans p2⟩
theorem paired_append {α : Type} {F : V → α → Prop} : ∀ {xs ys : List V} {ts us : List α}, Paired F xs ts → Paired F ys us → Paired F (xs ++ ys) (ts ++ us)
  | _, _, _, _, .nil, h => h
  | _, _, _, _, .cons a b, h => .cons a (paired_append b h)
theorem paired_reverse {α : Type} {F : V → α → Prop} : ∀ {xs : List V} {ts : List α}, Paired F xs ts → Paired F xs.reverse ts.reverse
  | _, _, .nil => .nil
  | _, _, .cons a b => by
    rw [List.reverse_cons, List.reverse_cons]
    exact paired_append (paired_reverse b) (.cons a .nil)
theorem paired_mem {α : Type} {F : V → α → Prop} : ∀ {xs : List V} {ts : List α} {x : V}, Paired F xs ts → x ∈ xs → ∃ t, t ∈ ts ∧ F x t
  | _, _, x, .cons a b, h => by
    rcases List.mem_cons.mp h with h | h
    · subst h
      exact ⟨_, List.mem_cons_self, a⟩
    · obtain ⟨t, h1, h2⟩ := paired_mem b h
      exact ⟨t, List.mem_cons_of_mem _ h1, h2⟩
/-- a relation of values told of what they stand for -/
theorem paired_pairwise {α : Type} {F : V → α → Prop} {R : V → V → Prop} {S : α → α → Prop} (hRS : ∀ x y t u, F x t → F y u → R x y → S t u) : ∀ {xs : List V} {ts : List α}, Paired F xs ts → xs.Pairwise R → ts.Pairwise S
  | _, _, .nil, _ => .nil
  | _, _, .cons a b, h => by
    obtain ⟨h1, h2⟩ := List.pairwise_cons.mp h
    refine List.pairwise_cons.mpr ⟨fun u hu => ?_, paired_pairwise hRS b h2⟩
    obtain ⟨k, hk, e⟩ := List.getElem_of_mem hu
    obtain ⟨y, h3, h4⟩ := paired_at2 b (List.getElem?_eq_getElem hk)
    rw [e] at h4
    exact hRS _ _ _ _ a h4 (h1 y (List.mem_of_getElem? h3))
/-- a triple (price, month, amount) -/
def TrAt (H : Hp) (v : V) (t : Dam.Tr) : Prop := ∃ a, v = .ref a ∧ H a = some (.tup [.int t.1, .int (t.2.1 : Int), .int t.2.2])
def trs (k : Nat) (ps : List Dam.Pc) : List Dam.Tr := ps.map fun p => (p.2, k, p.1)
def allT (ws : List (List Dam.Pc)) (n : Nat) : List Dam.Tr := (List.range n).flatMap fun k => trs k (wAt ws k)
theorem allT_succ (ws : List (List Dam.Pc)) (n : Nat) : allT ws (n + 1) = allT ws n ++ trs n (wAt ws n) := by
  unfold allT
  rw [List.range_succ, List.flatMap_append]
  show _ ++ (_ ++ []) = _
  rw [List.append_nil]
def codeT (t : Dam.Tr) : Int := (t.1 * 2000 + (t.2.1 : Int)) * 2000 + t.2.2
structure SortedL (ws : List (List Dam.Pc)) (n : Nat) (L : List Dam.Tr) : Prop where
  perm : L.Perm (allT ws n)
  srt : L.Pairwise fun t u => codeT u ≤ codeT t
theorem allT_mem {ws : List (List Dam.Pc)} {n : Nat} {t : Dam.Tr} (ok : WorOk n ws) (h : t ∈ allT ws n) : (1 ≤ t.1 ∧ t.1 ≤ 1000) ∧ t.2.1 < n ∧ (1 ≤ t.2.2 ∧ t.2.2 ≤ 1000) := by
  obtain ⟨k, hk, h⟩ := List.mem_flatMap.mp h
  obtain ⟨p, hp, rfl⟩ := List.mem_map.mp h
  have hk := List.mem_range.mp hk
  have hl := ok.len
  have e : wAt ws k = ws[k] := wAt_is (List.getElem?_eq_getElem (show k < ws.length by omega))
  rw [e] at hp
  have o := ok.ok _ (List.getElem_mem (show k < ws.length by omega))
  have h1 := o.p.pos p hp
  have h2 := o.hi p hp
  exact ⟨⟨h1.2, h2.2⟩, hk, ⟨h1.1, h2.1⟩⟩
theorem SortedL.bd {ws : List (List Dam.Pc)} {n : Nat} {L : List Dam.Tr} (h : SortedL ws n L) (ok : WorOk n ws) {t : Dam.Tr} (m : t ∈ L) : (1 ≤ t.1 ∧ t.1 ≤ 1000) ∧ t.2.1 < n ∧ (1 ≤ t.2.2 ∧ t.2.2 ≤ 1000) := allT_mem ok (h.perm.mem_iff.mp m)
theorem SortedL.desc {ws : List (List Dam.Pc)} {n : Nat} {L : List Dam.Tr} (h : SortedL ws n L) (ok : WorOk n ws) (hn : n ≤ 7) : L.Pairwise fun t u => u.1 ≤ t.1 := h.srt.imp_of_mem fun {t u} ht hu e => by
  have b1 := h.bd ok ht
  have b2 := h.bd ok hu
  unfold codeT at e
  omega
theorem SortedL.uniq {ws : List (List Dam.Pc)} {n : Nat} {L L' : List Dam.Tr} (h : SortedL ws n L) (h' : SortedL ws n L') (ok : WorOk n ws) (hn : n ≤ 7) : L = L' := by
  refine List.Perm.eq_of_pairwise (le := fun t u => codeT u ≤ codeT t) (fun t u ht hu e1 e2 => ?_) h.srt h'.srt (h.perm.trans h'.perm.symm)
  have b1 := h.bd ok ht
  have b2 := h'.bd ok hu
  obtain ⟨p, k, a⟩ := t
  obtain ⟨p', k', a'⟩ := u
  unfold codeT at e1 e2
  dsimp only at e1 e2 b1 b2
  have h1 : p = p' := by omega
  have h2 : k = k' := by omega
  have h3 : a = a' := by omega
  rw [h1, h2, h3]
def Lof (ws : List (List Dam.Pc)) (n : Nat) : List Dam.Tr := (allT ws n).mergeSort fun t u => decide (codeT u ≤ codeT t)
theorem Lof_sorted (ws : List (List Dam.Pc)) (n : Nat) : SortedL ws n (Lof ws n) := by
  refine ⟨List.mergeSort_perm _ _, ?_⟩
  have h := List.pairwise_mergeSort (le := fun t u => decide (codeT u ≤ codeT t)) (fun a b c h1 h2 => by simp at *; omega) (fun a b => by simp; omega) (allT ws n)
  exact h.imp fun {a b} e => of_decide_eq_true e
theorem code3 (p k a : Int) : TS.code 2000 [p, k, a] = (p * 2000 + k) * 2000 + a := by
  simp [TS.code]
  omega
section
variable {P : Program} {w : World} {K : PySem.W.Frag} {mg : Str → Option Value} {base : Heap}
theorem sc_pieces_of : FnScope ["worths", "found", "month", "pieces", "amount", "price"] ["worths"] (defScope (topS 38)) := ⟨rfl, rfl, rfl, by decide +kernel, rfl, by decide +kernel, by decide +kernel⟩
def spPieces : Sp := fun vs H Q _ => ∃ b ws n, vs = [.ref b] ∧ n ≤ 7 ∧ WorAt H b ws ∧ WorOk n ws ∧ ∀ H' p xs L, Same H H' → H p = none → H' p = some (.lst xs) → Paired (TrAt H') xs L → L = Lof ws n → Q (.ref p) H'
theorem ok_pieces_of (T : Txt K mg) : FnOk P w K mg base CX0 1 T.d_pieces_of.f T.d_pieces_of.fd ["worths"] spPieces := by
  refine T.d_pieces_of.F.ok sc_pieces_of (fun vs H Q E h => ?_) (fun A outer s H vs Q E hr h => ?_)
  · obtain ⟨b, ws, n, rfl, _⟩ := h
    rfl
  · obtain ⟨b, ws, n, rfl, hn, ⟨vs, hvs, pr⟩, ok, q⟩ := h
    have hl := Paired.length pr
    refine ⟨_, (pss_cons (ps_set (i := 1) sc_pieces_of.nd rfl (.inl rfl) (pe_lst pa_nil))
      (pss_cons (ps_for PassesOwn.never rfl (ZM.pi_enumT (by rfl) T.n_enumerate (pa_cons (pv 0) pa_nil)) (pg_tup rfl (pgs_cons (pg_name (i := 2) sc_pieces_of.nd rfl (.inr rfl)) (pgs_cons (pg_name (i := 3) sc_pieces_of.nd rfl (.inl rfl)) pgs_nil))) (pss_one (ps_set (i := 1) sc_pieces_of.nd rfl (.inl rfl) (pe_op op_cat (pv 1) (pe_lc (own := [("amount", 4), ("price", 5)]) rfl sc_pieces_of.nd (pi_tup (pv 3)) (blkOk_by (N := ["worths", "found", "month", "pieces", "amount", "price"]) (sc := defScope (topS 38)) (by decide +kernel)) (fun _ _ _ _ _ => (pg_tupK (K := K) (n := 2) rfl rfl (pgs_cons (pg_name (i := 4) sc_pieces_of.nd rfl (.inl rfl)) (pgs_cons (pg_name (i := 5) sc_pieces_of.nd rfl (.inl rfl)) pgs_nil)))) (fun _ _ _ _ _ => pts_nil) (fun _ _ _ _ _ => (pe_tup (pa_cons (pv 5) (pa_cons (pv 2) (pa_cons (pv 4) pa_nil))))))))))
      (pss_one (ps_ret (pe_revL (pe_callB (cr_sortT (d := 3) (B := 2000) (by decide)) (by rfl) T.n_sorted (by decide +kernel) (pa_cons (pv 1) pa_nil))))))), ?_⟩
    refine ⟨Nat.zero_le _, fun l0 n0 => ?_⟩
    have s0 := same_new (o := .lst []) n0
    refine ⟨_, rfl, _, _, rfl, SqT.of (s0 _ _ hvs), ?_⟩
    refine ZM.for_enumT (xs := vs) (fun i σ H' => Same H H' ∧ ∃ l xs y z u v, H' l = some (.lst xs) ∧ xs.length ≤ 3 * i ∧ Paired (TrAt H') xs (allT ws i) ∧ σ = [some (.ref b), some (.ref l), y, z, u, v])
      ⟨s0, l0, [], _, _, _, _, upd_same, Nat.le_refl _, .nil, rfl⟩ (fun i σ H' pv => SqT.of (pv.1 _ _ hvs)) (fun i x Tt σ H' hx pv nT => ?_) (fun σ H' pv => ?_)
    · obtain ⟨sm, l, xs, y, z, u, v, hls, hlen, prs, rfl⟩ := pv
      have hi : i < vs.length := (List.getElem?_eq_some_iff.mp hx).1
      obtain ⟨ps, hps, hP⟩ := paired_at pr hx
      have t1 := same_new (o := .tup [.int (i : Nat), x]) nT
      obtain ⟨ap, pvs, rfl, hap, ppr⟩ := PcsAt.keep (.of (sm.trans t1)) hP
      have hpl := Paired.length ppr
      have pok := ok.ok ps (List.mem_of_getElem? hps)
      refine ⟨_, _, rfl, SqT.of upd_same, rfl, _, _, rfl, _, _, rfl, rfl, ?_⟩
      refine ⟨_, rfl, _, rfl, _, rfl, ⟨_, SqT.of hap⟩, fun D nD => ?_⟩
      have t2 := same_new (o := .lst []) nD
      refine lc_tup (xs := pvs) (fun j H2 => Same (upd H' Tt (.tup [.int (i : Nat), .ref ap])) H2 ∧ ∃ ys, H2 D = some (.lst ys) ∧ ys.length = j ∧ Paired (TrAt H2) ys (trs i (ps.take j)))
        ⟨t2, [], upd_same, rfl, .nil⟩ (fun j H2 _ pw => SqT.of (pw.1 _ _ hap)) (fun j x2 H2 hx2 pw => ?_) (fun H2 pw => ?_)
      · obtain ⟨s2, ys, hys, hyl, py⟩ := pw
        have hj : j < pvs.length := (List.getElem?_eq_some_iff.mp hx2).1
        obtain ⟨⟨A, w⟩, hp, hP2⟩ := paired_at ppr hx2
        obtain ⟨ax, rfl, hax⟩ := PcAt.keep (.of s2) hP2
        refine ⟨_, _, rfl, SqT.of hax, rfl, _, _, rfl, _, _, rfl, rfl, rfl, yes_iteT ?_⟩
        refine ⟨_, rfl, _, rfl, _, rfl, by show 3 ≤ sizeLine; decide, fun p np => ?_⟩
        have t3 := same_new (o := .tup [.int w, .int (i : Nat), .int A]) np
        have hne : p ≠ D := (ne_of_none hys np).symm
        refine ⟨ys, t3 _ _ hys, small1000 (by have := pok.len; omega), fun c o hc => ?_, ys ++ [.ref p], upd_same, by simp [hyl], ?_⟩
        · rw [upd_ne (ne_of_none hc nD)]
          exact t3 _ _ (s2 _ _ hc)
        · rw [List.take_add_one, hp]
          show Paired _ _ (trs i (ps.take j ++ [(A, w)]))
          unfold trs
          rw [List.map_append]
          refine paired_snoc (paired_keep py fun v t hv => ?_) ⟨p, rfl, ?_⟩
          · obtain ⟨c, e, hc⟩ := hv
            refine ⟨c, e, ?_⟩
            rw [upd_ne (ne_of hc hys (by intro z; cases z))]
            exact t3 _ _ hc
          · rw [upd_ne hne]
            exact upd_same
      · obtain ⟨s2, ys, hys, hyl, py⟩ := pw
        rw [hpl, List.take_length] at py
        have hls2 := s2 _ _ (t1 _ _ hls)
        refine ⟨_, _, _, _, rfl, rfl, hls2, hys, sz (by have := pok.len; have := ok.len; omega), fun p np => ?_⟩
        have t4 := same_new (o := .lst (xs ++ ys)) np
        have sall : Same H' (upd H2 p (.lst (xs ++ ys))) := (t1.trans s2).trans t4
        refine ⟨sm.trans sall, p, xs ++ ys, _, _, _, _, upd_same, by rw [List.length_append]; have := pok.len; omega, ?_, rfl⟩
        rw [allT_succ, wAt_is hps]
        have kp : ∀ {H3 : Hp} (v : V) (t : Dam.Tr), Same H3 (upd H2 p (.lst (xs ++ ys))) → TrAt H3 v t → TrAt (upd H2 p (.lst (xs ++ ys))) v t := fun v t s ⟨c, e, hc⟩ => ⟨c, e, s _ _ hc⟩
        exact paired_append (paired_keep prs fun v t hv => kp v t sall hv) (paired_keep py fun v t hv => kp v t t4 hv)
    · obtain ⟨sm, l, xs, y, z, u, v, hls, hlen, prs, rfl⟩ := pv
      have e : vs.length = n := by have := ok.len; omega
      rw [e] at prs hlen
      refine ⟨_, rfl, _, _, rfl, SqL.of hls, by omega, fun x hx => ?_, fun ys p perm srt np => ?_⟩
      · obtain ⟨t, ht, a, rfl, ha⟩ := paired_mem prs hx
        obtain ⟨h1, h2, h3⟩ := allT_mem ok ht
        refine ⟨[t.1, (t.2.1 : Int), t.2.2], ⟨a, rfl, SqT.of ha⟩, rfl, ?_⟩
        intro m hm
        simp only [List.mem_cons, List.not_mem_nil, or_false] at hm
        rcases hm with rfl | rfl | rfl <;> omega
      · obtain ⟨L0, p1, p2⟩ := perm_paired perm prs
        have t1 := same_new (o := .lst ys) np
        refine ⟨_, _, rfl, SqL.of upd_same, fun p3 np3 => ?_⟩
        have t3 := t1.trans (same_new (o := .lst ys.reverse) np3)
        have np3' : H p3 = none := by
          cases h : H p3 with
          | none => rfl
          | some o =>
            rw [t1 _ _ (sm _ _ h)] at np3
            cases np3
        refine q _ p3 ys.reverse L0.reverse (sm.trans t3) np3' upd_same (paired_keep (paired_reverse p1) fun v t hv => ?_) (SortedL.uniq ⟨(List.reverse_perm _).trans p2, ?_⟩ (Lof_sorted ws n) ok hn)
        · obtain ⟨c, e, hc⟩ := hv
          exact ⟨c, e, t3 _ _ hc⟩
        · rw [List.pairwise_reverse]
          have b : ∀ t ∈ L0, (1 ≤ t.1 ∧ t.1 ≤ 1000) ∧ t.2.1 < n ∧ (1 ≤ t.2.2 ∧ t.2.2 ≤ 1000) := fun t ht => allT_mem ok (p2.mem_iff.mp ht)
          have pm : Paired (fun v t => TrAt H' v t ∧ t ∈ L0) ys L0 := by
            have go : ∀ {xs : List V} {ts us : List Dam.Tr}, Paired (TrAt H') xs ts → (∀ t ∈ ts, t ∈ us) → Paired (fun v t => TrAt H' v t ∧ t ∈ us) xs ts := by
              intro xs ts us h
              induction h with
              | nil => intro _; exact .nil
              | cons a b ih => intro hm; exact .cons ⟨a, hm _ List.mem_cons_self⟩ (ih fun t ht => hm t (List.mem_cons_of_mem _ ht))
            exact go p1 fun _ h => h
          refine paired_pairwise (R := _) (fun x y t u hx hy hR => ?_) pm srt
          obtain ⟨⟨a1, rfl, h1⟩, m1⟩ := hx
          obtain ⟨⟨a2, rfl, h2⟩, m2⟩ := hy
          have hc := hR [t.1, (t.2.1 : Int), t.2.2] [u.1, (u.2.1 : Int), u.2.2] ⟨a1, rfl, SqT.of h1⟩ ⟨a2, rfl, SqT.of h2⟩
          rw [code3, code3] at hc
          have b1 := b t m1
          have b2 := b u m2
          exact hc
end
end DW
end

section
/-! what is given, month by month -/
namespace DW
open PySem PySem.Spec PyProof.Rows L2
theorem ixN_of {n j : Nat} (h : j < n) : ixN n (j : Int) = some j := by
  unfold ixN
  rw [if_pos (by omega), Int.toNat_natCast]
  first
    | rw [if_pos h]
    | rw [if_pos (by omega)]
theorem tabV_set {n j : Nat} {g : Nat → Int} {v : Int} (h : j < n) : (tabV n g).set j (.int v) = tabV n (Dam.setAt g j v) := by
  refine List.ext_getElem? fun k => ?_
  by_cases hk : k < n
  · rw [tabV_at _ hk, List.getElem?_set]
    unfold Dam.setAt
    by_cases e : k = j
    · subst e
      rw [if_pos rfl, if_pos (by rw [tabV_len]; exact hk), if_pos rfl]
    · rw [if_neg (fun z => e z.symm), tabV_at _ hk, if_neg e]
  · rw [List.getElem?_eq_none (by rw [List.length_set, tabV_len]; omega), List.getElem?_eq_none (by rw [tabV_len]; omega)]
def dataOf (C s e : Int) (ins : List Int) (ws : List (List Dam.Pc)) : Dam.Data := ⟨inOf C s e ins, wAt ws, Lof ws ins.length⟩
section
variable {P : Program} {w : World} {K : PySem.W.Frag} {mg : Str → Option Value} {base : Heap}
theorem sc_room_for : FnScope ["dam", "given", "month", "found", "first", "last"] ["dam", "given", "month"] (defScope (topS 39)) := ⟨rfl, rfl, rfl, by decide +kernel, rfl, by decide +kernel, by decide +kernel⟩
def spRoom : Sp := fun vs H Q _ => ∃ (a l : Addr) (C s e : Int) (ins : List Int) (g : Nat → Int) (m : Nat), vs = [.ref a, .ref l, .int (m : Int)] ∧ DamAt H a C s e ins ∧ ins.length ≤ 7 ∧ H l = some (.lst (tabV ins.length g)) ∧ m < ins.length ∧
  ∀ H', Same H H' → Q (.int ((inOf C s e ins).room g m)) H'
theorem ok_room_for (T : Txt K mg) : FnOk P w K mg base CX0 2 T.d_room_for.f T.d_room_for.fd ["dam", "given", "month"] spRoom := by
  have G_spans : FnOk P w K mg base CX0 1 T.d_spans.f T.d_spans.fd ["months"] spSpans := ok_spans T
  have G_water_of : FnOk P w K mg base CX0 1 T.d_water_of.f T.d_water_of.fd ["dam", "first", "last"] spWater := ok_water_of T
  refine T.d_room_for.F.ok sc_room_for (fun vs H Q E h => ?_) (fun A outer s H vs Q E hr h => ?_)
  · obtain ⟨a, l, C, s, e, ins, g, m, rfl, _⟩ := h
    rfl
  · obtain ⟨a, l, C, st, en, ins, g, m, rfl, hd, h7, hg, hm, q⟩ := h
    refine ⟨_, (pss_cons (ps_set (i := 3) sc_room_for.nd rfl (.inl rfl) (pe_lst pa_nil))
      (pss_cons (ps_for PassesOwn.never rfl (pi_list (pe_call G_spans (hr.mono (by decide)) (by rfl) T.d_spans.g T.d_spans.kp T.d_spans.b .nil pass0 (pa_cons (pe_callB call_len_seq (by rfl) T.n_len PySem.boot_len (pa_cons (pv 1) pa_nil)) pa_nil))) (pg_tup rfl (pgs_cons (pg_name (i := 4) sc_room_for.nd rfl (.inl rfl)) (pgs_cons (pg_name (i := 5) sc_room_for.nd rfl (.inl rfl)) pgs_nil))) (pss_one (ps_if (pt_chain op_le op_le (pv 4) (pv 2) (pv 5)) (pss_one (ps_expr (pe_bm PySem.F.plainAttrs_list PySem.F.slot_list_append PySem.F.type_list_append mt_append (pv 3) (pa_cons (pe_op op_sub (pe_call G_water_of (hr.mono (by decide)) (by rfl) T.d_water_of.g T.d_water_of.kp T.d_water_of.b .nil pass0 (pa_cons (pv 0) (pa_cons (pv 4) (pa_cons (pv 5) pa_nil)))) (pe_callB (cr_sum rfl) (by rfl) T.n_sum (by decide +kernel) (pa_cons (pe_slice sl_list (pv 1) (po_some (pv 4)) (po_some (pe_op op_add (pv 5) pe_int))) pa_nil))) pa_nil)))) pss_nil)))
      (pss_one (ps_ret (pe_callB (cr_min rfl) (by rfl) T.n_min (by decide +kernel) (pa_cons (pv 3) pa_nil)))))), ?_⟩
    refine ⟨Nat.zero_le _, fun lf nf => ?_⟩
    have s0 := same_new (o := .lst []) nf
    refine ⟨_, rfl, _, _, rfl, .inl (SqL.of (s0 _ _ hg)), ins.length, by rw [tabV_len]; rfl, h7, fun H1 p xs s1 np hp pr => ?_⟩
    have s01 := s0.trans s1
    have hpl := Paired.length pr
    have hf1 : H1 lf = some (.lst []) := s1 _ _ upd_same
    have hpf : p ≠ lf := fun z => by
      rw [z, upd_same] at np
      cases np
    let cond : Nat × Nat → Bool := fun q => decide (q.1 ≤ m) && decide (m ≤ q.2)
    let gp : Nat → List Int := fun i => (((Dam.spans ins.length).take i).filter cond).map fun q => (inOf C st en ins).gap g q.1 q.2
    have gp_len : ∀ i, (gp i).length ≤ i := fun i => by
      show ((List.filter _ _).map _).length ≤ i
      rw [List.length_map]
      refine Nat.le_trans (List.length_filter_le _ _) ?_
      rw [List.length_take]
      exact Nat.min_le_left _ _
    have gp_s : ∀ i q, (Dam.spans ins.length)[i]? = some q → gp (i + 1) = gp i ++ if cond q = true then [(inOf C st en ins).gap g q.1 q.2] else [] := fun i q hq => by
      show (List.filter _ _).map _ = (List.filter _ _).map _ ++ _
      rw [List.take_add_one, hq, List.filter_append, List.map_append]
      congr 1
      show List.map _ (List.filter cond [q]) = _
      cases hc : cond q <;> simp [List.filter, hc]
    have gp_end : gp xs.length = (inOf C st en ins).gaps g m := by
      show (List.filter _ _).map _ = _
      rw [hpl, List.take_length]
      rfl
    refine ⟨_, rfl, ⟨_, SqL.of hp⟩, ?_⟩
    refine for_list (xs := xs) (fun i σ H' => Same H H' ∧ Keep H1 H' ∧ H' p = some (.lst xs) ∧ H' lf = some (.lst ((gp i).map V.int)) ∧ ∃ y z, σ = [some (.ref a), some (.ref l), some (.int (m : Int)), some (.ref lf), y, z])
      ⟨s01, .refl _, hp, hf1, _, _, rfl⟩ (fun i σ H' _ pv => SqL.of pv.2.2.1) (fun i x σ H' hx pv => ?_) (fun σ H' pv => ?_)
    · obtain ⟨sm, kp, hp', hf', y, z, rfl⟩ := pv
      obtain ⟨q0, hq0, t, rfl, ht⟩ := paired_at pr hx
      obtain ⟨f, l2⟩ := q0
      have hmem := Dam.mem_spans.mp (List.mem_of_getElem? hq0)
      have hi : i < 60 := by
        have h1 := (List.getElem?_eq_some_iff.mp hq0).1
        have h2 : (Dam.spans ins.length).length ≤ 49 := by
          have hn := h7
          generalize ins.length = n at hn ⊢
          match n, hn with
          | 0, _ | 1, _ | 2, _ | 3, _ | 4, _ | 5, _ | 6, _ | 7, _ => decide
        omega
      refine ⟨_, _, rfl, SqT.of (kp _ _ ht), rfl, _, _, rfl, _, _, rfl, rfl, ?_⟩
      refine ⟨_, rfl, _, rfl, _, _, rfl, rfl, _, rfl, ?_⟩
      have gs := gp_s i _ hq0
      by_cases h1 : f ≤ m
      · refine iteT' (decide_eq_true (by omega)) ⟨_, rfl, _, _, rfl, rfl, _, rfl, ?_⟩
        by_cases h2 : m ≤ l2
        · refine iteT' (decide_eq_true (by omega)) ?_
          have hc : cond (f, l2) = true := by
            show (decide (f ≤ m) && decide (m ≤ l2)) = true
            rw [decide_eq_true h1, decide_eq_true h2]
            rfl
          rw [if_pos hc] at gs
          refine ⟨_, rfl, .inl ⟨rfl, _, SqL.of hf'⟩, _, rfl, _, rfl, _, rfl, _, _, _, _, _, f, l2, rfl, hd.keep (.of sm), hmem.1, hmem.2, fun H2 s2 => ?_⟩
          refine ⟨_, rfl, _, rfl, _, rfl, _, rfl, _, _, rfl, rfl, _, rfl, _, _, rfl, SqL.of (s2 _ _ (sm _ _ hg)), fun p3 n3 => ?_⟩
          have s3 := same_new (o := .lst (cutV (tabV ins.length g) (some (f : Int)) (some ((l2 : Int) + 1)))) n3
          have ecut : cutV (tabV ins.length g) (some (f : Int)) (some ((l2 : Int) + 1)) = ((((List.range ins.length).map g).drop f).take (l2 + 1 - f)).map V.int := by
            rw [tabV_ints]
            exact cutV_map _ _ _ (by rw [List.length_map, List.length_range]; exact hmem.2) hmem.1
          have s23 := s2.trans s3
          refine ⟨_, ((((List.range ins.length).map g).drop f).take (l2 + 1 - f)), rfl, SqL.of (by rw [upd_same, ← ecut]), _, _, rfl, rfl, ?_⟩
          refine ⟨_, _, _, rfl, rfl, s23 _ _ hf', by rw [List.length_map]; exact small1000 (by have := gp_len i; omega), ?_⟩
          have esum : ((((List.range ins.length).map g).drop f).take (l2 + 1 - f)).sum = Dam.S g f l2 := sum_cut g (by omega) (by omega)
          refine ⟨fun c o hc => ?_, fun c o hc => ?_, ?_, ?_, _, _, rfl⟩
          · rw [upd_ne (ne_of_none hc nf)]
            exact s23 _ _ (sm _ _ hc)
          · rw [upd_ne (ne_of (kp _ _ hc) hf' (by intro z; cases z))]
            exact s23 _ _ (kp _ _ hc)
          · rw [upd_ne hpf]
            exact s23 _ _ hp'
          · rw [upd_same, gs, List.map_append, esum]
            rfl
        · refine iteF' (decide_eq_false (by omega)) ?_
          have hc : cond (f, l2) = false := by
            show (decide (f ≤ m) && decide (m ≤ l2)) = false
            rw [decide_eq_false h2, Bool.and_false]
          rw [hc, if_neg (by decide), List.append_nil] at gs
          exact ⟨sm, kp, hp', by rw [gs]; exact hf', _, _, rfl⟩
      · refine iteF' (decide_eq_false (by omega)) ⟨_, rfl, iteF ?_⟩
        have hc : cond (f, l2) = false := by
          show (decide (f ≤ m) && decide (m ≤ l2)) = false
          rw [decide_eq_false h1, Bool.false_and]
        rw [hc, if_neg (by decide), List.append_nil] at gs
        exact ⟨sm, kp, hp', by rw [gs]; exact hf', _, _, rfl⟩
    · obtain ⟨sm, kp, hp', hf', y, z, rfl⟩ := pv
      rw [gp_end] at hf'
      have hne : (inOf C st en ins).gaps g m ≠ [] := fun e => by
        have : (inOf C st en ins).gap g m m ∈ (inOf C st en ins).gaps g m := Dam.mem_gaps.mpr ⟨m, m, Nat.le_refl _, Nat.le_refl _, hm, rfl⟩
        rw [e] at this
        simp at this
      refine ⟨_, rfl, _, _, rfl, SqL.of hf', List.length_pos_iff.mpr hne, fun v hv hle => ?_⟩
      rw [Dam.least_uniq hv hle]
      exact q H' sm
theorem sc_given_of : FnScope ["dam", "worths", "given", "price", "month", "amount", "inflow"] ["dam", "worths"] (defScope (topS 40)) := ⟨rfl, rfl, rfl, by decide +kernel, rfl, by decide +kernel, by decide +kernel⟩
def spGiven : Sp := fun vs H Q _ => ∃ (a b : Addr) (C s e : Int) (ins : List Int) (ws : List (List Dam.Pc)), vs = [.ref a, .ref b] ∧ DamAt H a C s e ins ∧ ins.length ≤ 7 ∧ WorAt H b ws ∧ WorOk ins.length ws ∧
  ∀ H' p, Same H H' → H p = none → H' p = some (.lst (tabV ins.length (dataOf C s e ins ws).g)) → Q (.ref p) H'
theorem ok_given_of (T : Txt K mg) : FnOk P w K mg base CX0 3 T.d_given_of.f T.d_given_of.fd ["dam", "worths"] spGiven := by
  have G_pieces_of : FnOk P w K mg base CX0 1 T.d_pieces_of.f T.d_pieces_of.fd ["worths"] spPieces := ok_pieces_of T
  have G_room_for : FnOk P w K mg base CX0 2 T.d_room_for.f T.d_room_for.fd ["dam", "given", "month"] spRoom := ok_room_for T
  refine T.d_given_of.F.ok sc_given_of (fun vs H Q E h => ?_) (fun A outer s H vs Q E hr h => ?_)
  · obtain ⟨a, b, C, s, e, ins, ws, rfl, _⟩ := h
    rfl
  · obtain ⟨a, b, C, st, en, ins, ws, rfl, hd, h7, hw, wok, q⟩ := h
    obtain ⟨bi, h, hI⟩ := id hd
    refine ⟨_, (pss_cons (ps_setLc (i := 2) (own := [("inflow", 6)]) rfl sc_given_of.nd rfl rfl (sw_true rfl rfl rfl (by decide +kernel)) (pi_tup (pe_ix ix_tup (pv 0) pe_int (fun _ _ => rfl))) (blkOk_by (N := ["dam", "worths", "given", "price", "month", "amount", "inflow"]) (sc := defScope (topS 40)) (by decide +kernel)) (fun _ _ _ _ _ => (pg_name (i := 6) sc_given_of.nd rfl (.inl rfl))) (fun _ _ _ _ _ => pts_nil) (fun _ _ _ _ _ => pe_int))
      (pss_cons (ps_for PassesOwn.never rfl (pi_list (pe_call G_pieces_of (hr.mono (by decide)) (by rfl) T.d_pieces_of.g T.d_pieces_of.kp T.d_pieces_of.b .nil pass0 (pa_cons (pv 1) pa_nil))) (pg_tup rfl (pgs_cons (pg_name (i := 3) sc_given_of.nd rfl (.inl rfl)) (pgs_cons (pg_name (i := 4) sc_given_of.nd rfl (.inl rfl)) (pgs_cons (pg_name (i := 5) sc_given_of.nd rfl (.inl rfl)) pgs_nil)))) (pss_one (ps_asg (pe_op op_add (pe_ix ix_list (pv 2) (pv 4) (fun _ _ => rfl)) (pe_callB (call_min2 rfl) (by rfl) T.n_min (by decide +kernel) (pa_cons (pv 5) (pa_cons (pe_call G_room_for (hr.mono (by decide)) (by rfl) T.d_room_for.g T.d_room_for.kp T.d_room_for.b .nil pass0 (pa_cons (pv 0) (pa_cons (pv 2) (pa_cons (pv 4) pa_nil)))) pa_nil)))) (pg_sub (pv 2) (pv 4) set_list))))
      (pss_one (ps_ret (pv 2))))), ?_⟩
    refine ⟨_, rfl, _, _, _, _, rfl, rfl, SqT.of h, rfl, _, rfl, ⟨_, SqT.of hI⟩, fun D nD => ?_⟩
    have s0 := same_new (o := .lst []) nD
    refine lc_tup (xs := ins.map V.int) (fun j H2 => Same H H2 ∧ H2 D = some (.lst (tabV j fun _ => 0))) ⟨s0, upd_same⟩ (fun j H2 _ pw => SqT.of (pw.1 _ _ hI)) (fun j x2 H2 hx2 pw => ?_) (fun H2 pw => ?_)
    · obtain ⟨s2, hD⟩ := pw
      obtain ⟨hj, rfl⟩ := at0_is hx2
      refine ⟨rfl, yes_iteT ⟨_, hD, by rw [tabV_len]; exact small1000 (by omega), fun c o hc => ?_, ?_⟩⟩
      · rw [upd_ne (ne_of_none hc nD)]
        exact s2 _ _ hc
      · rw [upd_same, tabV_succ]
    · obtain ⟨s2, hD⟩ := pw
      rw [List.length_map] at hD
      refine ⟨_, rfl, _, _, ins.length, rfl, h7, hw.keep (.of s2), wok, fun H3 p xs L s3 np hp pr eL => ?_⟩
      have hD3 := s3 _ _ hD
      have hpD : p ≠ D := fun z => by
        rw [z, hD] at np
        cases np
      have hpl := Paired.length pr
      let I := inOf C st en ins
      refine ⟨_, rfl, ⟨_, SqL.of hp⟩, ?_⟩
      refine for_list (xs := xs) (fun i σ H' => Same H H' ∧ Keep H3 H' ∧ H' p = some (.lst xs) ∧ H' D = some (.lst (tabV ins.length (I.greedy (fun _ => 0) (L.take i)))) ∧ ∃ x y z u, σ = [some (.ref a), some (.ref b), some (.ref D), x, y, z, u])
        ⟨s2.trans s3, .refl _, hp, hD3, _, _, _, _, rfl⟩ (fun i σ H' _ pv => SqL.of pv.2.2.1) (fun i x σ H' hx pv => ?_) (fun σ H' pv => ?_)
      · obtain ⟨sm, kp, hp', hD', y1, y2, y3, y4, rfl⟩ := pv
        obtain ⟨t, ht, c, rfl, hc⟩ := paired_at pr hx
        have hb := (Lof_sorted ws ins.length).bd wok (by rw [← eL]; exact List.mem_of_getElem? ht)
        obtain ⟨pr0, m, A⟩ := t
        have hm : m < ins.length := hb.2.1
        have hat : atI (tabV ins.length (I.greedy (fun _ => 0) (L.take i))) (m : Int) = some (.int (I.greedy (fun _ => 0) (L.take i) m)) := atI_nat (tabV_at _ hm)
        refine ⟨_, _, rfl, SqT.of (kp _ _ hc), rfl, _, _, rfl, _, _, rfl, _, _, rfl, rfl, ?_⟩
        refine ⟨_, rfl, _, rfl, _, _, _, _, rfl, rfl, SqL.of hD', hat, ?_⟩
        refine ⟨_, rfl, _, rfl, _, rfl, _, rfl, _, _, _, _, _, _, _, m, rfl, hd.keep (.of sm), h7, hD', hm, fun H4 s4 => ?_⟩
        refine ⟨_, _, rfl, _, _, rfl, rfl, _, rfl, _, rfl, _, _, _, m, rfl, rfl, s4 _ _ hD', by rw [tabV_len]; exact ixN_of hm, ?_⟩
        refine ⟨fun d o hdd => ?_, fun d o hdd => ?_, ?_, ?_, _, _, _, _, rfl⟩
        · rw [upd_ne (ne_of_none hdd nD)]
          exact s4 _ _ (sm _ _ hdd)
        · rw [upd_ne (ne_of (kp _ _ hdd) hD' (by intro z; cases z))]
          exact s4 _ _ (kp _ _ hdd)
        · rw [upd_ne hpD]
          exact s4 _ _ hp'
        · rw [upd_same, List.take_add_one, ht]
          refine congrArg (fun z => some (HO.lst z)) ?_
          refine Eq.trans (tabV_set hm) ?_
          unfold Dam.In.greedy
          rw [List.foldl_append]
          rfl
      · obtain ⟨sm, kp, hp', hD', y1, y2, y3, y4, rfl⟩ := pv
        rw [hpl, List.take_length, eL] at hD'
        exact ⟨_, rfl, q H' D sm nD hD'⟩
theorem sc_best_of : FnScope ["dam", "worths", "given", "spilled", "held"] ["dam", "worths"] (defScope (topS 41)) := ⟨rfl, rfl, rfl, by decide +kernel, rfl, by decide +kernel, by decide +kernel⟩
theorem fresh_back {H H' : Hp} {p : Addr} (e : Same H H') (h : H' p = none) : H p = none := by
  cases h1 : H p with
  | none => rfl
  | some o =>
    rw [e p o h1] at h
    cases h
def spBest : Sp := fun vs H Q _ => ∃ (a b : Addr) (C s e : Int) (ins : List Int) (ws : List (List Dam.Pc)), vs = [.ref a, .ref b] ∧ DamAt H a C s e ins ∧ ins.length ≤ 7 ∧ WorAt H b ws ∧ WorOk ins.length ws ∧
  ∀ H' p, Same H H' → H p = none → RelAt H' p ins.length (dataOf C s e ins ws).r → Q (.ref p) H'
theorem ok_best_of (T : Txt K mg) : FnOk P w K mg base CX0 4 T.d_best_of.f T.d_best_of.fd ["dam", "worths"] spBest := by
  have G_given_of : FnOk P w K mg base CX0 3 T.d_given_of.f T.d_given_of.fd ["dam", "worths"] spGiven := ok_given_of T
  have G_run_of : FnOk P w K mg base CX0 1 T.d_run_of.f T.d_run_of.fd ["dam", "demands"] spRun := ok_run_of T
  refine T.d_best_of.F.ok sc_best_of (fun vs H Q E h => ?_) (fun A outer s H vs Q E hr h => ?_)
  · obtain ⟨a, b, C, s, e, ins, ws, rfl, _⟩ := h
    rfl
  · obtain ⟨a, b, C, st, en, ins, ws, rfl, hd, h7, hw, wok, q⟩ := h
    refine ⟨_, (pss_one (ps_ret (pe_callTy call_tuple_of (by rfl) T.n_tuple (by decide +kernel) (pa_cons (pe_lc (own := [("given", 2), ("spilled", 3), ("held", 4)]) rfl sc_best_of.nd (pi_list (pe_call G_run_of (hr.mono (by decide)) (by rfl) T.d_run_of.g T.d_run_of.kp T.d_run_of.b .nil pass0 (pa_cons (pv 0) (pa_cons (pe_call G_given_of (hr.mono (by decide)) (by rfl) T.d_given_of.g T.d_given_of.kp T.d_given_of.b .nil pass0 (pa_cons (pv 0) (pa_cons (pv 1) pa_nil))) pa_nil)))) (blkOk_by (N := ["dam", "worths", "given", "spilled", "held"]) (sc := defScope (topS 41)) (by decide +kernel)) (fun _ _ _ _ _ => (pg_tupK (K := K) (n := 3) rfl rfl (pgs_cons (pg_name (i := 2) sc_best_of.nd rfl (.inl rfl)) (pgs_cons (pg_name (i := 3) sc_best_of.nd rfl (.inl rfl)) (pgs_cons (pg_name (i := 4) sc_best_of.nd rfl (.inl rfl)) pgs_nil))))) (fun _ _ _ _ _ => pts_nil) (fun _ _ _ _ _ => (pe_tup (pa_cons (pe_op op_add (pv 2) (pv 3)) (pa_cons pe_int pa_nil))))) pa_nil)))), ?_⟩
    refine ⟨_, rfl, _, rfl, _, rfl, _, _, _, _, _, _, _, rfl, hd, h7, hw, wok, fun H1 p1 s1 n1 e1 => ?_⟩
    refine ⟨_, _, _, _, _, _, _, rfl, hd.keep (.of s1), h7, e1, fun H2 l s2 nl tri => ?_⟩
    obtain ⟨vs, hvs, hlen, all⟩ := tri
    let I := inOf C st en ins
    let g := (dataOf C st en ins ws).g
    have s12 := s1.trans s2
    refine ⟨_, rfl, ⟨_, SqL.of hvs⟩, fun D nD => ?_⟩
    have nD0 := fresh_back s12 nD
    refine lc_list (xs := vs) (fun j H3 => Same H2 H3 ∧ ∃ rs, H3 D = some (.lst rs) ∧ rs.length = j ∧ ∀ k, k < j → ∃ v, rs[k]? = some v ∧ Rat1 H3 v ((dataOf C st en ins ws).r k))
      ⟨same_new nD, [], upd_same, rfl, fun k hk => absurd hk (Nat.not_lt_zero _)⟩ (fun j H3 _ pw => SqL.of (pw.1 _ _ hvs)) (fun j x H3 hx pw => ?_) (fun H3 pw => ?_)
    · obtain ⟨s3, rs, hrs, hrl, hall⟩ := pw
      have hj : j < ins.length := by
        have := (List.getElem?_eq_some_iff.mp hx).1
        omega
      obtain ⟨t, ht, htup⟩ := all j hj
      rw [hx] at ht
      cases ht
      refine ⟨_, _, rfl, SqT.of (s3 _ _ htup), rfl, _, _, rfl, _, _, rfl, _, _, rfl, rfl, rfl, yes_iteT ?_⟩
      refine ⟨_, rfl, _, rfl, _, _, rfl, rfl, by show 2 ≤ sizeLine; decide, fun p np => ?_⟩
      have t3 := same_new (o := .tup [.int (I.gv g j + I.sp g j), .int 1]) np
      have hne : p ≠ D := (ne_of_none hrs np).symm
      refine ⟨rs, t3 _ _ hrs, by rw [hrl]; exact small1000 (by omega), fun c o hc => ?_, rs ++ [.ref p], upd_same, by simp [hrl], fun k hk => ?_⟩
      · rw [upd_ne (ne_of_none hc nD)]
        exact t3 _ _ (s3 _ _ hc)
      · by_cases z : k < j
        · obtain ⟨v, h1, c, e, hc⟩ := hall k z
          refine ⟨v, by rw [List.getElem?_append_left (by omega)]; exact h1, c, e, ?_⟩
          rw [upd_ne (ne_of hc hrs (by intro z; cases z))]
          exact t3 _ _ hc
        · have : k = j := by omega
          subst this
          refine ⟨.ref p, by rw [List.getElem?_append_right (by omega), hrl, Nat.sub_self]; rfl, p, rfl, ?_⟩
          rw [upd_ne hne]
          exact upd_same
    · obtain ⟨s3, rs, hrs, hrl, hall⟩ := pw
      rw [hlen] at hrl hall
      refine ⟨_, _, rfl, .inl ⟨SqL.of hrs, fun p4 n4 => ?_⟩⟩
      have t4 := same_new (o := .tup rs) n4
      refine q _ p4 ((s12.trans s3).trans t4) (fresh_back (s12.trans s3) n4) ⟨rs, upd_same, hrl, fun k hk => ?_⟩
      obtain ⟨v, h1, c, e, hc⟩ := hall k hk
      exact ⟨v, h1, c, e, t4 _ _ hc⟩
theorem sc_best_worth_of : FnScope ["dam", "worths"] ["dam", "worths"] (defScope (topS 42)) := ⟨rfl, rfl, rfl, by decide +kernel, rfl, by decide +kernel, by decide +kernel⟩
def spBestW : Sp := fun vs H Q _ => ∃ (a b : Addr) (C s e : Int) (ins : List Int) (ws : List (List Dam.Pc)), vs = [.ref a, .ref b] ∧ DamAt H a C s e ins ∧ ins.length ≤ 7 ∧ WorAt H b ws ∧ WorOk ins.length ws ∧
  ∀ H', Same H H' → Q (.int (worthS ws (dataOf C s e ins ws).r ins.length)) H'
theorem ok_best_worth_of (T : Txt K mg) : FnOk P w K mg base CX0 5 T.d_best_worth_of.f T.d_best_worth_of.fd ["dam", "worths"] spBestW := by
  have G_best_of : FnOk P w K mg base CX0 4 T.d_best_of.f T.d_best_of.fd ["dam", "worths"] spBest := ok_best_of T
  have G_worth_of : FnOk P w K mg base CX0 4 T.d_worth_of.f T.d_worth_of.fd ["worths", "plan"] spWorth := ok_worth_of T
  refine T.d_best_worth_of.F.ok sc_best_worth_of (fun vs H Q E h => ?_) (fun A outer s H vs Q E hr h => ?_)
  · obtain ⟨a, b, C, s, e, ins, ws, rfl, _⟩ := h
    rfl
  · obtain ⟨a, b, C, st, en, ins, ws, rfl, hd, h7, hw, wok, q⟩ := h
    refine ⟨_, (pss_one (ps_ret (pe_ix ix_tup (pe_call G_worth_of (hr.mono (by decide)) (by rfl) T.d_worth_of.g T.d_worth_of.kp T.d_worth_of.b .nil pass0 (pa_cons (pv 1) (pa_cons (pe_call G_best_of (hr.mono (by decide)) (by rfl) T.d_best_of.g T.d_best_of.kp T.d_best_of.b .nil pass0 (pa_cons (pv 0) (pa_cons (pv 1) pa_nil))) pa_nil))) pe_int (fun _ _ => rfl)))), ?_⟩
    refine ⟨_, rfl, _, rfl, _, rfl, _, _, _, _, _, _, _, rfl, hd, h7, hw, wok, fun H1 p1 s1 n1 r1 => ?_⟩
    refine ⟨_, _, ws, _, _, rfl, hw.keep (.of s1), wok, r1, fun H2 u s2 hu => ?_⟩
    obtain ⟨c, rfl, hc⟩ := hu
    exact ⟨_, _, _, _, rfl, rfl, SqT.of hc, rfl, q H2 (s1.trans s2)⟩
end
end DW
end

section
/-! prices -/
namespace DW
open PySem PySem.Spec PyProof.Rows L2
theorem atI_0 {xs : List V} {m : Nat} {v : V} (h : xs[m]? = some v) : atI xs (0 + (m : Int)) = some v := by
  rw [Int.zero_add]
  exact atI_nat h
theorem atI_01 {xs : List V} {m : Nat} {v : V} (h : xs[m + 1]? = some v) : atI xs (0 + (m : Int) + 1) = some v := by
  rw [Int.zero_add, show (m : Int) + 1 = ((m + 1 : Nat) : Int) by omega]
  exact atI_nat h
theorem ixN_0 {n m : Nat} (h : m < n) : ixN n (0 + (m : Int)) = some m := by
  rw [Int.zero_add]
  exact ixN_of h
theorem ixN_01 {n m : Nat} (h : m + 1 < n) : ixN n (0 + (m : Int) + 1) = some (m + 1) := by
  rw [Int.zero_add, show (m : Int) + 1 = ((m + 1 : Nat) : Int) by omega]
  exact ixN_of h
section
variable {P : Program} {w : World} {K : PySem.W.Frag} {mg : Str → Option Value} {base : Heap}
theorem sc_open_prices : FnScope ["dam", "worths", "found", "given", "pieces", "best", "rest", "amount", "price"] ["dam", "worths"] (defScope (topS 46)) := ⟨rfl, rfl, rfl, by decide +kernel, rfl, by decide +kernel, by decide +kernel⟩
def spOpen : Sp := fun vs H Q _ => ∃ (a b : Addr) (C s e : Int) (ins : List Int) (ws : List (List Dam.Pc)), vs = [.ref a, .ref b] ∧ DamAt H a C s e ins ∧ ins.length ≤ 7 ∧ WorAt H b ws ∧ WorOk ins.length ws ∧
  ∀ H' p, Same H H' → H p = none → H' p = some (.lst (tabV ins.length (dataOf C s e ins ws).o)) → Q (.ref p) H'
theorem ok_open_prices (T : Txt K mg) : FnOk P w K mg base CX0 4 T.d_open_prices.f T.d_open_prices.fd ["dam", "worths"] spOpen := by
  have G_given_of : FnOk P w K mg base CX0 3 T.d_given_of.f T.d_given_of.fd ["dam", "worths"] spGiven := ok_given_of T
  refine T.d_open_prices.F.ok sc_open_prices (fun vs H Q E h => ?_) (fun A outer s H vs Q E hr h => ?_)
  · obtain ⟨a, b, C, s, e, ins, ws, rfl, _⟩ := h
    rfl
  · obtain ⟨a, b, C, st, en, ins, ws, rfl, hd, h7, hw, wok, q⟩ := h
    refine ⟨_, (pss_cons (ps_set (i := 2) sc_open_prices.nd rfl (.inl rfl) (pe_lst pa_nil))
      (pss_cons (ps_for PassesOwn.never rfl (ZM.pi_zipM .L .T (by rfl) T.n_zip (pa_cons (pe_call G_given_of (hr.mono (by decide)) (by rfl) T.d_given_of.g T.d_given_of.kp T.d_given_of.b .nil pass0 (pa_cons (pv 0) (pa_cons (pv 1) pa_nil))) (pa_cons (pv 1) pa_nil))) (pg_tup rfl (pgs_cons (pg_name (i := 3) sc_open_prices.nd rfl (.inl rfl)) (pgs_cons (pg_name (i := 4) sc_open_prices.nd rfl (.inl rfl)) pgs_nil))) (pss_cons (ps_par (i := 5) (j := 6) (by rfl) sc_open_prices.nd rfl rfl (by decide) rfl rfl (pa_cons pe_int (pa_cons (pv 3) pa_nil)) (by rfl))
      (pss_cons (ps_for PassesOwn.never rfl (pi_tup (pv 4)) (pg_tup rfl (pgs_cons (pg_name (i := 7) sc_open_prices.nd rfl (.inl rfl)) (pgs_cons (pg_name (i := 8) sc_open_prices.nd rfl (.inl rfl)) pgs_nil))) (Evl.pss_cut (ps_if (pt_cmpR op_lt (pv 6) (pv 7) (nomark _)) (pss_one (ps_set (i := 5) sc_open_prices.nd rfl (.inl rfl) (pe_callB (call_max2 rfl) (by rfl) T.n_max (by decide +kernel) (pa_cons (pv 5) (pa_cons (pv 8) pa_nil))))) pss_nil)
      (pss_one (ps_set (i := 6) sc_open_prices.nd rfl (.inl rfl) (pe_callB (call_max2 rfl) (by rfl) T.n_max (by decide +kernel) (pa_cons pe_int (pa_cons (pe_op op_sub (pv 6) (pv 7)) pa_nil)))))))
      (pss_one (ps_expr (pe_bm PySem.F.plainAttrs_list PySem.F.slot_list_append PySem.F.type_list_append mt_append (pv 2) (pa_cons (pv 5) pa_nil)))))))
      (pss_one (ps_ret (pv 2))))), ?_⟩
    refine ⟨Nat.zero_le _, fun lf nf => ?_⟩
    have s0 := same_new (o := .lst []) nf
    refine ⟨_, rfl, _, rfl, _, _, _, _, _, _, _, rfl, hd.keep (.of s0), h7, hw.keep (.of s0), wok, fun H1 lg s1 ng eg => ?_⟩
    have s01 := s0.trans s1
    obtain ⟨vs, hvs, pr⟩ := hw.keep (.of s01)
    have hl := Paired.length pr
    have hlf := s1 _ _ (upd_same (H := H) (a := lf) (o := .lst []))
    have hne : lg ≠ lf := fun z => by
      rw [z, upd_same] at ng
      cases ng
    let D := dataOf C st en ins ws
    refine ⟨_, rfl, _, _, _, _, rfl, SqL.of eg, SqT.of hvs, ?_⟩
    refine ZM.for_zipM (k1 := .L) (k2 := .T) (xs := tabV ins.length D.g) (ys := vs) (by rw [tabV_len]; have := wok.len; omega) (fun i σ H' => Same H H' ∧ Keep H1 H' ∧ H' lg = some (.lst (tabV ins.length D.g)) ∧ H' lf = some (.lst (tabV i D.o)) ∧
        ∃ x1 x2 x3 x4 x5 x6, σ = [some (.ref a), some (.ref b), some (.ref lf), x1, x2, x3, x4, x5, x6])
      ⟨s01, .refl _, eg, hlf, _, _, _, _, _, _, rfl⟩ (fun i σ H' pv => ⟨SqL.of pv.2.2.1, SqT.of (pv.2.1 _ _ hvs)⟩) (fun i x y Tt σ H' hx hy pv nT => ?_) (fun σ H' pv => ?_)
    · obtain ⟨sm, kp, hg', hf', x1, x2, x3, x4, x5, x6, rfl⟩ := pv
      obtain ⟨hi, rfl⟩ := tabV_is hx
      obtain ⟨ps, hps, hP⟩ := paired_at pr hy
      have t1 := same_new (o := .tup [.int (D.g i), y]) nT
      obtain ⟨ap, pvs, rfl, hap, ppr⟩ := PcsAt.keep (kp.trans (.of t1)) hP
      have hpl := Paired.length ppr
      have eo : D.o i = Dam.openP ps (D.g i) 0 := by
        show Dam.openP (wAt ws i) _ 0 = _
        rw [wAt_is hps]
      refine ⟨_, _, rfl, SqT.of upd_same, rfl, _, _, rfl, _, _, rfl, rfl, ?_⟩
      refine ⟨_, rfl, _, _, rfl, _, rfl, _, rfl, ⟨_, SqT.of hap⟩, ?_⟩
      refine for_tup (xs := pvs) (fun j σ H2 => H2 = upd H' Tt (.tup [.int (D.g i), .ref ap]) ∧ ∃ B X y5 y6, Dam.openP (ps.drop j) X B = D.o i ∧ σ = [some (.ref a), some (.ref b), some (.ref lf), some (.int (D.g i)), some (.ref ap), some (.int B), some (.int X), y5, y6])
        ⟨rfl, 0, D.g i, _, _, eo.symm, rfl⟩ (fun j σ H2 _ pw => by rw [pw.1]; exact SqT.of hap) (fun j x σ H2 hx2 pw => ?_) (fun σ H2 pw => ?_)
      · obtain ⟨rfl, B, X, y5, y6, eq, rfl⟩ := pw
        obtain ⟨⟨A, w⟩, hp, c, rfl, hc⟩ := paired_at ppr hx2
        refine ⟨_, _, rfl, SqT.of hc, rfl, _, _, rfl, _, _, rfl, rfl, ?_⟩
        refine ⟨fun σ3 H3 => H3 = upd H' Tt (.tup [.int (D.g i), .ref ap]) ∧ σ3 = [some (.ref a), some (.ref b), some (.ref lf), some (.int (D.g i)), some (.ref ap), some (.int (if X < A then Dam.pmax B w else B)), some (.int X), some (.int A), some (.int w)], ?_, fun σ3 H3 hmid => ?_⟩
        · refine ⟨_, rfl, _, rfl, _, _, rfl, rfl, _, rfl, ?_⟩
          by_cases hlt : X < A
          · refine iteT' (decide_eq_true hlt) ⟨_, rfl, _, rfl, _, _, rfl, rfl, ?_⟩
            rw [if_pos hlt]
            rfl
          · refine iteF' (decide_eq_false hlt) ⟨rfl, ?_⟩
            rw [if_neg hlt]
            rfl
        · obtain ⟨rfl, rfl⟩ := hmid
          refine ⟨_, rfl, _, rfl, _, _, rfl, rfl, _, _, rfl, rfl, _, _, _, _, ?_, rfl⟩
          rw [drop_cons hp] at eq
          exact eq
      · obtain ⟨rfl, B, X, y5, y6, eq, rfl⟩ := pw
        rw [hpl, List.drop_length] at eq
        have eB : B = D.o i := eq
        refine ⟨_, rfl, .inl ⟨rfl, _, SqL.of (t1 _ _ hf')⟩, _, rfl, _, _, _, rfl, rfl, t1 _ _ hf', by rw [tabV_len]; exact small1000 (by omega), ?_⟩
        refine ⟨fun c o hc => ?_, fun c o hc => ?_, ?_, ?_, _, _, _, _, _, _, rfl⟩
        · rw [upd_ne (ne_of_none hc nf)]
          exact t1 _ _ (sm _ _ hc)
        · have h2 := t1 _ _ (kp _ _ hc)
          rw [upd_ne (ne_of h2 (t1 _ _ hf') (by intro z; cases z))]
          exact h2
        · rw [upd_ne hne]
          exact t1 _ _ hg'
        · rw [upd_same, tabV_succ, eB]
    · obtain ⟨sm, kp, hg', hf', x1, x2, x3, x4, x5, x6, rfl⟩ := pv
      rw [tabV_len] at hf'
      exact ⟨_, rfl, q H' lf sm nf hf'⟩
theorem sc_prices_of : FnScope ["dam", "worths", "found", "held", "turn", "month", "given", "spilled"] ["dam", "worths"] (defScope (topS 47)) := ⟨rfl, rfl, rfl, by decide +kernel, rfl, by decide +kernel, by decide +kernel⟩
def spPrices : Sp := fun vs H Q _ => ∃ (a b : Addr) (C s e : Int) (ins : List Int) (ws : List (List Dam.Pc)), vs = [.ref a, .ref b] ∧ DamAt H a C s e ins ∧ 1 ≤ ins.length ∧ ins.length ≤ 7 ∧ WorAt H b ws ∧ WorOk ins.length ws ∧
  ∀ H' p, Same H H' → H p = none → H' p = some (.tup (tabV ins.length (dataOf C s e ins ws).p)) → Q (.ref p) H'
theorem ok_prices_of (T : Txt K mg) : FnOk P w K mg base CX0 5 T.d_prices_of.f T.d_prices_of.fd ["dam", "worths"] spPrices := by
  have G_given_of : FnOk P w K mg base CX0 3 T.d_given_of.f T.d_given_of.fd ["dam", "worths"] spGiven := ok_given_of T
  have G_run_of : FnOk P w K mg base CX0 1 T.d_run_of.f T.d_run_of.fd ["dam", "demands"] spRun := ok_run_of T
  have G_open_prices : FnOk P w K mg base CX0 4 T.d_open_prices.f T.d_open_prices.fd ["dam", "worths"] spOpen := ok_open_prices T
  refine T.d_prices_of.F.ok sc_prices_of (fun vs H Q E h => ?_) (fun A outer s H vs Q E hr h => ?_)
  · obtain ⟨a, b, C, s, e, ins, ws, rfl, _⟩ := h
    rfl
  · obtain ⟨a, b, C, st, en, ins, ws, rfl, hd, h1n, h7, hw, wok, q⟩ := h
    refine ⟨_, (pss_cons (ps_set (i := 2) sc_prices_of.nd rfl (.inl rfl) (pe_call G_open_prices (hr.mono (by decide)) (by rfl) T.d_open_prices.g T.d_open_prices.kp T.d_open_prices.b .nil pass0 (pa_cons (pv 0) (pa_cons (pv 1) pa_nil))))
      (pss_cons (ps_set (i := 3) sc_prices_of.nd rfl (.inl rfl) (pe_lc (own := [("given", 6), ("spilled", 7), ("held", 3)]) rfl sc_prices_of.nd (pi_list (pe_call G_run_of (hr.mono (by decide)) (by rfl) T.d_run_of.g T.d_run_of.kp T.d_run_of.b .nil pass0 (pa_cons (pv 0) (pa_cons (pe_call G_given_of (hr.mono (by decide)) (by rfl) T.d_given_of.g T.d_given_of.kp T.d_given_of.b .nil pass0 (pa_cons (pv 0) (pa_cons (pv 1) pa_nil))) pa_nil)))) (blkOk_by (N := ["dam", "worths", "found", "held", "turn", "month", "given", "spilled"]) (sc := defScope (topS 47)) (by decide +kernel)) (fun _ _ _ _ _ => (pg_tupK (K := K) (n := 3) rfl rfl (pgs_cons (pg_name (i := 6) sc_prices_of.nd rfl (.inl rfl)) (pgs_cons (pg_name (i := 7) sc_prices_of.nd rfl (.inl rfl)) (pgs_cons (pg_name (i := 3) sc_prices_of.nd rfl (.inl rfl)) pgs_nil))))) (fun _ _ _ _ _ => pts_nil) (fun _ _ _ _ _ => (pv 3))))
      (pss_cons (ps_for PassesOwn.never rfl (pi_range1 (by rfl) T.n_range (pa_cons (pe_callB call_len_seq (by rfl) T.n_len PySem.boot_len (pa_cons (pv 3) pa_nil)) pa_nil)) (pg_name (i := 4) sc_prices_of.nd rfl (.inl rfl)) (pss_one (ps_for PassesOwn.never rfl (pi_range1 (by rfl) T.n_range (pa_cons (pe_op op_sub (pe_callB call_len_seq (by rfl) T.n_len PySem.boot_len (pa_cons (pv 3) pa_nil)) pe_int) pa_nil)) (pg_name (i := 5) sc_prices_of.nd rfl (.inl rfl)) (Evl.pss_cut (ps_if (pt_cmpR op_lt (pe_ix ix_list (pv 3) (pv 5) (fun _ _ => rfl)) (pe_ix ix_tup (pv 0) pe_int (fun _ _ => rfl)) (nomark _)) (pss_one (ps_asg (pe_callB (call_max2 rfl) (by rfl) T.n_max (by decide +kernel) (pa_cons (pe_ix ix_list (pv 2) (pv 5) (fun _ _ => rfl)) (pa_cons (pe_ix ix_list (pv 2) (pe_op op_add (pv 5) pe_int) (fun _ _ => rfl)) pa_nil))) (pg_sub (pv 2) (pv 5) set_list))) pss_nil)
      (pss_one (ps_if (pt_cmpR op_gt (pe_ix ix_list (pv 3) (pv 5) (fun _ _ => rfl)) pe_int (nomark _)) (pss_one (ps_asg (pe_callB (call_max2 rfl) (by rfl) T.n_max (by decide +kernel) (pa_cons (pe_ix ix_list (pv 2) (pe_op op_add (pv 5) pe_int) (fun _ _ => rfl)) (pa_cons (pe_ix ix_list (pv 2) (pv 5) (fun _ _ => rfl)) pa_nil))) (pg_sub (pv 2) (pe_op op_add (pv 5) pe_int) set_list))) pss_nil))))))
      (pss_one (ps_ret (pe_callTy call_tuple_of (by rfl) T.n_tuple (by decide +kernel) (pa_cons (pv 2) pa_nil))))))), ?_⟩
    refine ⟨_, rfl, _, rfl, _, _, _, _, _, _, _, rfl, hd, h7, hw, wok, fun H1 lo s1 no eo => ?_⟩
    refine ⟨_, rfl, _, rfl, _, rfl, _, _, _, _, _, _, _, rfl, hd.keep (.of s1), h7, hw.keep (.of s1), wok, fun H2 lg s2 ng eg => ?_⟩
    have s12 := s1.trans s2
    refine ⟨_, _, _, _, _, _, _, rfl, hd.keep (.of s12), h7, eg, fun H3 lr s3 nr tri => ?_⟩
    obtain ⟨vs, hvs, hlen, all⟩ := tri
    have s13 := s12.trans s3
    let D := dataOf C st en ins ws
    let I := inOf C st en ins
    refine ⟨_, rfl, ⟨_, SqL.of hvs⟩, fun lh nh => ?_⟩
    refine lc_list (xs := vs) (fun j H4 => Same H3 H4 ∧ H4 lh = some (.lst (tabV j fun k => I.lv D.g (k + 1)))) ⟨same_new nh, upd_same⟩ (fun j H4 _ pw => SqL.of (pw.1 _ _ hvs)) (fun j x H4 hx pw => ?_) (fun H4 pw => ?_)
    · obtain ⟨s4, hh⟩ := pw
      have hj : j < ins.length := by
        have := (List.getElem?_eq_some_iff.mp hx).1
        omega
      obtain ⟨t, ht, htup⟩ := all j hj
      rw [hx] at ht
      cases ht
      refine ⟨_, _, rfl, SqT.of (s4 _ _ htup), rfl, _, _, rfl, _, _, rfl, _, _, rfl, rfl, rfl, yes_iteT ?_⟩
      refine ⟨_, rfl, _, hh, by rw [tabV_len]; exact small1000 (by omega), fun c o hc => ?_, ?_⟩
      · rw [upd_ne (ne_of_none hc nh)]
        exact s4 _ _ hc
      · rw [upd_same, tabV_succ]
    · obtain ⟨s4, hh⟩ := pw
      rw [hlen] at hh
      have s14 : Same H1 H4 := (s2.trans s3).trans s4
      have hlo := s14 _ _ eo
      have hne : lo ≠ lh := by
        intro z
        have h := s2.trans s3 _ _ eo
        rw [z, nh] at h
        cases h
      refine ⟨_, rfl, _, _, rfl, .inl (SqL.of hh), _, rfl, by rw [tabV_len]; omega, by rw [tabV_len]; omega, ?_⟩
      rw [tabV_len]
      have hdam := s14.trans (.refl _)
      refine for_range (lo := 0) (n := ins.length) (fun t σ H' => Same H H' ∧ H' lh = some (.lst (tabV ins.length fun k => I.lv D.g (k + 1))) ∧ H' lo = some (.lst (tabV ins.length (I.turns D.g D.o t))) ∧ ∃ y4 y5 y6 y7, σ = [some (.ref a), some (.ref b), some (.ref lo), some (.ref lh), y4, y5, y6, y7])
        ⟨s1.trans s14, hh, hlo, _, _, _, _, rfl⟩ (fun t σ H' ht pv => ?_) (fun σ H' pv => ?_)
      · obtain ⟨sm, hh', ho', y4, y5, y6, y7, rfl⟩ := pv
        refine ⟨_, rfl, _, _, rfl, .inl (SqL.of hh'), _, _, rfl, rfl, _, rfl, by rw [tabV_len]; omega, by rw [tabV_len]; omega, ?_⟩
        rw [tabV_len, show ((ins.length : Int) - 1).toNat = ins.length - 1 by omega]
        let f0 := I.turns D.g D.o t
        refine for_range (lo := 0) (n := ins.length - 1) (fun m σ H2 => Same H H2 ∧ H2 lh = some (.lst (tabV ins.length fun k => I.lv D.g (k + 1))) ∧ H2 lo = some (.lst (tabV ins.length (I.turnTo D.g f0 m))) ∧ ∃ y4 y5 y6 y7, σ = [some (.ref a), some (.ref b), some (.ref lo), some (.ref lh), y4, y5, y6, y7])
          ⟨sm, hh', ho', _, _, _, _, rfl⟩ (fun m σ H2 hm pw => ?_) (fun σ H2 pw => pw)
        obtain ⟨sm2, hh2, ho2, z4, z5, z6, z7, rfl⟩ := pw
        obtain ⟨bi, hda, _⟩ := hd.keep (.of sm2)
        let f := I.turnTo D.g f0 m
        refine ⟨fun σ3 H3 => Same H H3 ∧ H3 lh = some (.lst (tabV ins.length fun k => I.lv D.g (k + 1))) ∧ H3 lo = some (.lst (tabV ins.length (I.up1 D.g f m))) ∧ σ3 = [some (.ref a), some (.ref b), some (.ref lo), some (.ref lh), z4, some (.int (0 + (m : Int))), z6, z7], ?_, fun σ3 H3 hmid => ?_⟩
        · refine ⟨_, rfl, _, rfl, _, _, _, _, rfl, rfl, SqL.of hh2, atI_0 (tabV_at _ (show m < ins.length by omega)), ?_⟩
          refine ⟨_, rfl, _, _, _, _, rfl, rfl, SqT.of hda, rfl, _, _, rfl, rfl, _, rfl, ?_⟩
          by_cases hc : I.lv D.g (m + 1) < C
          · refine iteT' (decide_eq_true hc) ?_
            refine ⟨_, rfl, _, rfl, _, _, _, _, rfl, rfl, SqL.of ho2, atI_0 (tabV_at _ (show m < ins.length by omega)), ?_⟩
            refine ⟨_, rfl, _, rfl, _, _, rfl, rfl, _, _, _, _, rfl, rfl, SqL.of ho2, atI_01 (tabV_at _ (show m + 1 < ins.length by omega)), _, _, rfl, ?_⟩
            refine ⟨_, rfl, _, rfl, _, _, _, m, rfl, rfl, ho2, by rw [tabV_len]; exact ixN_0 (by omega), ?_⟩
            refine ⟨fun c o hcc => ?_, ?_, ?_, rfl⟩
            · rw [upd_ne (ne_of_none hcc (fresh_back (.refl _) no))]
              exact sm2 _ _ hcc
            · rw [upd_ne hne.symm]
              exact hh2
            · rw [upd_same]
              refine congrArg (fun z => some (HO.lst z)) ?_
              refine Eq.trans (tabV_set (by omega)) ?_
              unfold Dam.In.up1
              rw [if_pos (show I.lv D.g (m + 1) < I.C from hc)]
              rfl
          · refine iteF' (decide_eq_false hc) ⟨sm2, hh2, ?_, rfl⟩
            unfold Dam.In.up1
            rw [if_neg (show ¬ I.lv D.g (m + 1) < I.C from hc)]
            exact ho2
        · obtain ⟨sm3, hh3, ho3, rfl⟩ := hmid
          refine ⟨_, rfl, _, rfl, _, _, _, _, rfl, rfl, SqL.of hh3, atI_0 (tabV_at _ (show m < ins.length by omega)), _, _, rfl, rfl, _, rfl, ?_⟩
          by_cases hc : I.lv D.g (m + 1) > 0
          · refine iteT' (decide_eq_true hc) ?_
            refine ⟨_, rfl, _, rfl, _, _, rfl, rfl, _, _, _, _, rfl, rfl, SqL.of ho3, atI_01 (tabV_at _ (show m + 1 < ins.length by omega)), ?_⟩
            refine ⟨_, rfl, _, rfl, _, _, _, _, rfl, rfl, SqL.of ho3, atI_0 (tabV_at _ (show m < ins.length by omega)), _, _, rfl, ?_⟩
            refine ⟨_, rfl, _, rfl, _, _, rfl, rfl, _, _, _, m + 1, rfl, rfl, ho3, by rw [tabV_len]; exact ixN_01 (by omega), ?_⟩
            refine ⟨fun c o hcc => ?_, ?_, ?_, _, _, _, _, rfl⟩
            · rw [upd_ne (ne_of_none hcc no)]
              exact sm3 _ _ hcc
            · rw [upd_ne hne.symm]
              exact hh3
            · rw [upd_same]
              refine congrArg (fun z => some (HO.lst z)) ?_
              refine Eq.trans (tabV_set (by omega)) ?_
              show tabV _ _ = tabV _ (I.turnTo D.g f0 (m + 1))
              rw [Dam.turnTo_succ]
              unfold Dam.In.up Dam.In.up2
              rw [if_pos hc]
              rfl
          · refine iteF' (decide_eq_false hc) ⟨sm3, hh3, ?_, _, _, _, _, rfl⟩
            rw [Dam.turnTo_succ]
            unfold Dam.In.up Dam.In.up2
            rw [if_neg hc]
            exact ho3
      · obtain ⟨sm, hh', ho', y4, y5, y6, y7, rfl⟩ := pv
        refine ⟨_, rfl, _, _, rfl, .inl ⟨SqL.of ho', fun p np => ?_⟩⟩
        exact q _ p (sm.trans (same_new np)) (fresh_back sm np) upd_same
end
end DW
end

section
/-! the defs that may raise -/
namespace DW
open PySem PySem.Spec PyProof.Rows L2
section
variable {X : Cx} {C : Addr} {bmB : List Value} {B newId initId : String}
/-- X() -/
theorem pmk_ownN {x : Str} {p pos : Pos} (F : ExcBaseFacts B newId initId bmB) (q : PySem.W.excIn X.K C bmB newId = true) (gC : X.mg x = some (.ref C)) (kC : PySem.W.keepIn X.K (.ref C) = true) (r : Raises X (.ref C)) (hg : Gl X x)
    (hdb : (x == ("__debug__" : Str)) = false := by decide) : PMk X (.Call (.Name x p) [] [] pos) (fun _ H Q => Q (.ref C) none H) := by
  intro pins s σ H Q I h
  refine wpAny_Call_Name_kw (ld_glob I hg gC ?_ hdb)
  refine PySem.W.callWith_K0 I.kIn kC ?_
  show wpAny _ _ (call (.ref C) []) _ _ _
  obtain ⟨bm, N, nm, qn, bs, hdct, sn, sub, ab, col, dd, k0, k1, k2, k3, k5, mN, hC, hN, hni, T⟩ := exc_obj I.kIn q
  refine wpAny_call_exc_subT F T hC hN hni (fun h' e hm => ?_) (by show 0 ≤ sizeLine; rw [sizeLine_eq]; omega)
  exact mk_of I hm r h (I.hok.gone hm.new)
end
abbrev bmV : List Value := [.type "ValueError", .type "Exception", .type "BaseException", .type "object"]
/-- NoPlan and DamError -/
structure NoP (K : PySem.W.Frag) (mg : Str → Option Value) where
  NP : Addr
  DE : Addr
  gN : mg "NoPlan" = some (.ref NP)
  gD : mg "DamError" = some (.ref DE)
  xN : PySem.W.excIn K NP bmV "ValueError.__new__" = true
  kN : PySem.W.keepIn K (.ref NP) = true
  bN : PySem.W.subIn K (.ref NP) (.type "BaseException") = some true
  tN : PySem.W.typeIn K (.ref NP) = some (.type "type")
  ex : PySem.W.exmOne K (.ref NP) (.ref DE) = some true
  isN : PySem.W.kitOne K (.ref NP) (.ref NP) = some true
  cN : ExcC K NP
section
variable {P : Program} {w : World} {K : PySem.W.Frag} {mg : Str → Option Value} {base : Heap}
theorem sc_need_plans : FnScope ["dam"] ["dam"] (defScope (topS 22)) := ⟨rfl, rfl, rfl, by decide +kernel, rfl, by decide +kernel, by decide +kernel⟩
def spNeedP (NP : Addr) : Sp := fun vs H Q E => ∃ a C s e ins, vs = [.ref a] ∧ DamAt H a C s e ins ∧ (e ≤ mostF (inOf C s e ins) ins.length → Q .non H) ∧ (mostF (inOf C s e ins) ins.length < e → E (.ref NP) none H)
theorem ok_need_plans (T : Txt K mg) (N : NoP K mg) : FnOk P w K mg base (L2.CX P w) 2 T.d_need_plans.f T.d_need_plans.fd ["dam"] (spNeedP N.NP) := by
  have G_most_held : FnOk P w K mg base CX0 1 T.d_most_held.f T.d_most_held.fd ["dam"] spMost := ok_most_held T
  refine T.d_need_plans.F.okX sc_need_plans (fun vs H Q E h => ?_) (fun A outer s H vs Q E hr h => ?_)
  · obtain ⟨a, C, s, e, ins, rfl, _⟩ := h
    rfl
  · obtain ⟨a, C, st, en, ins, rfl, hd, q1, q2⟩ := h
    obtain ⟨b, h, hI⟩ := id hd
    refine ⟨_, (pss_one (ps_if (pt_cmpR op_lt (pe_call G_most_held (hr.mono (by decide)) (by rfl) T.d_most_held.g T.d_most_held.kp T.d_most_held.b .nil pass0 (pa_cons (pv 0) pa_nil)) (pe_ix ix_tup (pv 0) pe_int (fun _ _ => rfl)) (nomark _)) (pss_one (ps_raise rfl (takes_of rfl rfl rfl rfl) (pmk_ownN PySem.F.excBase_ValueError N.xN N.gN N.kN (raises_own N.bN N.tN) rfl))) pss_nil)), ?_⟩
    refine ⟨_, rfl, _, _, _, _, _, rfl, hd, ?_⟩
    refine ⟨_, rfl, _, _, _, _, rfl, rfl, SqT.of h, rfl, _, _, rfl, rfl, _, rfl, ?_⟩
    by_cases hc : mostF (inOf C st en ins) ins.length < en
    · exact iteT' (decide_eq_true hc) (q2 hc)
    · exact iteF' (decide_eq_false hc) (q1 (by omega))
structure ArgsOk (H : Hp) (a b : Addr) (C s e : Int) (ins : List Int) (ws : List (List Dam.Pc)) : Prop where
  d : DamAt H a C s e ins
  ok : DamOk C s e ins
  w : WorAt H b ws
  wok : WorOk ins.length ws
theorem ArgsOk.keep {H H' : Hp} {a b : Addr} {C s e : Int} {ins : List Int} {ws : List (List Dam.Pc)} (h : ArgsOk H a b C s e ins ws) (k : Keep H H') : ArgsOk H' a b C s e ins ws := ⟨h.d.keep k, h.ok, h.w.keep k, h.wok⟩
def spX (NP : Addr) (ts : List Addr) (R : Hp → Int → Int → Int → List Int → List (List Dam.Pc) → V → Hp → Prop) : Sp := fun vs H Q E => ∃ a b C s e ins ws, vs = [.ref a, .ref b] ∧ ArgsOk H a b C s e ins ws ∧ Tb ts H ∧
  (e ≤ mostF (inOf C s e ins) ins.length → ∀ v H', Ext ts H H' → R H C s e ins ws v H' → Q v H') ∧ (mostF (inOf C s e ins) ins.length < e → ∀ H', Ext ts H H' → E (.ref NP) none H')
theorem sc_best_worth : FnScope ["dam", "worths"] ["dam", "worths"] (defScope (topS 43)) := ⟨rfl, rfl, rfl, by decide +kernel, rfl, by decide +kernel, by decide +kernel⟩
def RW_ : Hp → Int → Int → Int → List Int → List (List Dam.Pc) → V → Hp → Prop := fun _ C s e ins ws v _ => v = .int (worthS ws (dataOf C s e ins ws).r ins.length)
theorem ok_best_worth (T : Txt K mg) (B : Bs T base) (N : NoP K mg) : FnOk P w K mg base (L2.CX P w) 11 T.d_best_worth.f T.d_best_worth.fd ["dam", "worths"] (spX N.NP T.ts RW_) := by
  have G_need_worths : FnOk P w K mg base CX0 10 T.d_need_worths.f T.d_need_worths.fd ["dam", "worths"] (spNeedW T.ts) := ok_need_worths T B
  have G_need_plans : FnOk P w K mg base (L2.CX P w) 2 T.d_need_plans.f T.d_need_plans.fd ["dam"] (spNeedP N.NP) := ok_need_plans T N
  have G_best_worth_of : FnOk P w K mg base CX0 5 T.d_best_worth_of.f T.d_best_worth_of.fd ["dam", "worths"] spBestW := ok_best_worth_of T
  refine T.d_best_worth.F.okX sc_best_worth (fun vs H Q E h => ?_) (fun A outer s H vs Q E hr h => ?_)
  · obtain ⟨a, b, C, s, e, ins, ws, rfl, _⟩ := h
    rfl
  · obtain ⟨a, b, C, st, en, ins, ws, rfl, ao, tb, q1, q2⟩ := h
    refine ⟨_, (pss_cons (ps_expr (pe_call G_need_worths (hr.mono (by decide)) (by rfl) T.d_need_worths.g T.d_need_worths.kp T.d_need_worths.b .nil pass0 (pa_cons (pv 0) (pa_cons (pv 1) pa_nil))))
      (pss_cons (ps_expr (pe_call G_need_plans (hr.mono (by decide)) (by rfl) T.d_need_plans.g T.d_need_plans.kp T.d_need_plans.b .nil (passes_call (takes_of rfl rfl rfl rfl) (fun _ _ _ _ h => h)) (pa_cons (pv 0) pa_nil)))
      (pss_one (ps_ret (pe_call G_best_worth_of (hr.mono (by decide)) (by rfl) T.d_best_worth_of.g T.d_best_worth_of.kp T.d_best_worth_of.b .nil pass0 (pa_cons (pv 0) (pa_cons (pv 1) pa_nil))))))), ?_⟩
    refine ⟨_, rfl, _, rfl, _, _, _, _, _, _, _, rfl, ao.d, ao.ok, ao.w, ao.wok, tb, fun H1 e1 => ?_⟩
    have ao1 := ao.keep (e1.keep tb)
    refine ⟨_, rfl, _, _, _, _, _, rfl, ao1.d, fun hc => ?_, fun hc => q2 hc _ e1⟩
    exact ⟨_, rfl, _, rfl, _, _, _, _, _, _, _, rfl, ao1.d, ao.ok.l12, ao1.w, ao1.wok, fun H2 s2 => q1 hc _ _ (e1.trans (.of s2)) rfl⟩
theorem sc_best_plan : FnScope ["dam", "worths"] ["dam", "worths"] (defScope (topS 44)) := ⟨rfl, rfl, rfl, by decide +kernel, rfl, by decide +kernel, by decide +kernel⟩
def RP_ : Hp → Int → Int → Int → List Int → List (List Dam.Pc) → V → Hp → Prop := fun _ C s e ins ws v H' => ∃ p, v = .ref p ∧ RelAt H' p ins.length (dataOf C s e ins ws).r
theorem ok_best_plan (T : Txt K mg) (B : Bs T base) (N : NoP K mg) : FnOk P w K mg base (L2.CX P w) 11 T.d_best_plan.f T.d_best_plan.fd ["dam", "worths"] (spX N.NP T.ts RP_) := by
  have G_need_worths : FnOk P w K mg base CX0 10 T.d_need_worths.f T.d_need_worths.fd ["dam", "worths"] (spNeedW T.ts) := ok_need_worths T B
  have G_need_plans : FnOk P w K mg base (L2.CX P w) 2 T.d_need_plans.f T.d_need_plans.fd ["dam"] (spNeedP N.NP) := ok_need_plans T N
  have G_best_of : FnOk P w K mg base CX0 4 T.d_best_of.f T.d_best_of.fd ["dam", "worths"] spBest := ok_best_of T
  refine T.d_best_plan.F.okX sc_best_plan (fun vs H Q E h => ?_) (fun A outer s H vs Q E hr h => ?_)
  · obtain ⟨a, b, C, s, e, ins, ws, rfl, _⟩ := h
    rfl
  · obtain ⟨a, b, C, st, en, ins, ws, rfl, ao, tb, q1, q2⟩ := h
    refine ⟨_, (pss_cons (ps_expr (pe_call G_need_worths (hr.mono (by decide)) (by rfl) T.d_need_worths.g T.d_need_worths.kp T.d_need_worths.b .nil pass0 (pa_cons (pv 0) (pa_cons (pv 1) pa_nil))))
      (pss_cons (ps_expr (pe_call G_need_plans (hr.mono (by decide)) (by rfl) T.d_need_plans.g T.d_need_plans.kp T.d_need_plans.b .nil (passes_call (takes_of rfl rfl rfl rfl) (fun _ _ _ _ h => h)) (pa_cons (pv 0) pa_nil)))
      (pss_one (ps_ret (pe_call G_best_of (hr.mono (by decide)) (by rfl) T.d_best_of.g T.d_best_of.kp T.d_best_of.b .nil pass0 (pa_cons (pv 0) (pa_cons (pv 1) pa_nil))))))), ?_⟩
    refine ⟨_, rfl, _, rfl, _, _, _, _, _, _, _, rfl, ao.d, ao.ok, ao.w, ao.wok, tb, fun H1 e1 => ?_⟩
    have ao1 := ao.keep (e1.keep tb)
    refine ⟨_, rfl, _, _, _, _, _, rfl, ao1.d, fun hc => ?_, fun hc => q2 hc _ e1⟩
    exact ⟨_, rfl, _, rfl, _, _, _, _, _, _, _, rfl, ao1.d, ao.ok.l12, ao1.w, ao1.wok, fun H2 p s2 n2 r2 => q1 hc _ _ (e1.trans (.of s2)) ⟨p, rfl, r2⟩⟩
theorem sc_water_prices : FnScope ["dam", "worths"] ["dam", "worths"] (defScope (topS 48)) := ⟨rfl, rfl, rfl, by decide +kernel, rfl, by decide +kernel, by decide +kernel⟩
def RV_ : Hp → Int → Int → Int → List Int → List (List Dam.Pc) → V → Hp → Prop := fun _ C s e ins ws v H' => ∃ p, v = .ref p ∧ H' p = some (.tup (tabV ins.length (dataOf C s e ins ws).p))
theorem ok_water_prices (T : Txt K mg) (B : Bs T base) (N : NoP K mg) : FnOk P w K mg base (L2.CX P w) 11 T.d_water_prices.f T.d_water_prices.fd ["dam", "worths"] (spX N.NP T.ts RV_) := by
  have G_need_worths : FnOk P w K mg base CX0 10 T.d_need_worths.f T.d_need_worths.fd ["dam", "worths"] (spNeedW T.ts) := ok_need_worths T B
  have G_need_plans : FnOk P w K mg base (L2.CX P w) 2 T.d_need_plans.f T.d_need_plans.fd ["dam"] (spNeedP N.NP) := ok_need_plans T N
  have G_prices_of : FnOk P w K mg base CX0 5 T.d_prices_of.f T.d_prices_of.fd ["dam", "worths"] spPrices := ok_prices_of T
  refine T.d_water_prices.F.okX sc_water_prices (fun vs H Q E h => ?_) (fun A outer s H vs Q E hr h => ?_)
  · obtain ⟨a, b, C, s, e, ins, ws, rfl, _⟩ := h
    rfl
  · obtain ⟨a, b, C, st, en, ins, ws, rfl, ao, tb, q1, q2⟩ := h
    refine ⟨_, (pss_cons (ps_expr (pe_call G_need_worths (hr.mono (by decide)) (by rfl) T.d_need_worths.g T.d_need_worths.kp T.d_need_worths.b .nil pass0 (pa_cons (pv 0) (pa_cons (pv 1) pa_nil))))
      (pss_cons (ps_expr (pe_call G_need_plans (hr.mono (by decide)) (by rfl) T.d_need_plans.g T.d_need_plans.kp T.d_need_plans.b .nil (passes_call (takes_of rfl rfl rfl rfl) (fun _ _ _ _ h => h)) (pa_cons (pv 0) pa_nil)))
      (pss_one (ps_ret (pe_call G_prices_of (hr.mono (by decide)) (by rfl) T.d_prices_of.g T.d_prices_of.kp T.d_prices_of.b .nil pass0 (pa_cons (pv 0) (pa_cons (pv 1) pa_nil))))))), ?_⟩
    refine ⟨_, rfl, _, rfl, _, _, _, _, _, _, _, rfl, ao.d, ao.ok, ao.w, ao.wok, tb, fun H1 e1 => ?_⟩
    have ao1 := ao.keep (e1.keep tb)
    refine ⟨_, rfl, _, _, _, _, _, rfl, ao1.d, fun hc => ?_, fun hc => q2 hc _ e1⟩
    exact ⟨_, rfl, _, rfl, _, _, _, _, _, _, _, rfl, ao1.d, ao.ok.l1, ao.ok.l12, ao1.w, ao1.wok, fun H2 p s2 n2 r2 => q1 hc _ _ (e1.trans (.of s2)) ⟨p, rfl, r2⟩⟩
end
end DW
end

section
/-! the law's draws -/
namespace DW
open PySem PySem.Spec PyProof.Rows L2
theorem fmod_in {a b : Int} (hb : 0 < b) : 0 ≤ a.fmod b ∧ a.fmod b < b := by
  rw [Int.fmod_eq_emod_of_nonneg _ (by omega)]
  exact ⟨Int.emod_nonneg _ (by omega), Int.emod_lt_of_pos _ hb⟩
theorem fdiv_nn {a b : Int} (ha : 0 ≤ a) (hb : 0 < b) : 0 ≤ a.fdiv b := by
  rw [Int.fdiv_eq_ediv_of_nonneg _ (by omega)]
  exact Int.ediv_nonneg ha (by omega)
def Out (r : Addr) (H H' : Hp) : Prop := ∀ b o, H b = some o → b ≠ r → H' b = some o
theorem Out.refl (r : Addr) (H : Hp) : Out r H H := fun _ _ h _ => h
theorem Out.trans {r : Addr} {H H1 H2 : Hp} (a : Out r H H1) (b : Out r H1 H2) : Out r H H2 := fun c o h n => b c o (a c o h n) n
theorem Out.of {r : Addr} {H H' : Hp} (a : Same H H') : Out r H H' := fun c o h _ => a c o h
theorem Out.upd {r : Addr} {H : Hp} {o : HO} : Out r H (upd H r o) := fun c x h n => by
  rw [upd_ne n]
  exact h
theorem Out.sq {K : PySem.W.Frag} {r a : Addr} {H H' : Hp} {xs : List V} (e : Out r H H') (n : a ≠ r) (h : SqL K H a xs) : SqL K H' a xs := by
  rcases h with (h | ⟨o, h⟩) | h
  · exact .inl (.inl (e _ _ h n))
  · exact .inl (.inr ⟨o, e _ _ h n⟩)
  · exact .inr h
/-- a list that stands at H is not the new one at D -/
theorem sq_fresh {K : PySem.W.Frag} {H H2 : Hp} {sc D : Addr} {xs : List V} {o : HO} (h : SqL K H sc xs) (nD : H D = none) (h2 : SqL K H2 sc xs) : SqL K (upd H2 D o) sc xs := by
  rcases h with (h | ⟨u, h⟩) | h
  · exact Out.upd.sq (ne_of_none h nD) h2
  · exact Out.upd.sq (ne_of_none h nD) h2
  · exact .inr h
/-- a list that stays whatever becomes of r -/
def SqN (K : PySem.W.Frag) (H : Hp) (r sc : Addr) (xs : List V) : Prop := SqL K H sc xs ∧ ∀ H', Out r H H' → SqL K H' sc xs
theorem SqN.out {K : PySem.W.Frag} {H H' : Hp} {r sc : Addr} {xs : List V} (h : SqN K H r sc xs) (e : Out r H H') : SqN K H' r sc xs := ⟨h.2 _ e, fun _ e2 => h.2 _ (e.trans e2)⟩
theorem SqN.of {K : PySem.W.Frag} {H : Hp} {r sc : Addr} {xs : List V} (h : SqL K H sc xs) (nr : H r = none) : SqN K H r sc xs := ⟨h, fun H' e => by
  rcases h with (h | ⟨u, h⟩) | h
  · exact .inl (.inl (e _ _ h (ne_of_none h nr)))
  · exact .inl (.inr ⟨u, e _ _ h (ne_of_none h nr)⟩)
  · exact .inr h⟩
/-- the row of a script's draws -/
def RowAt (K : PySem.W.Frag) (sc : Addr) (ns : List Int) (H : Hp) (r : Addr) : Prop := ∃ (i : Nat) (sd z : Int), H r = some (.lst [.ref sc, .int (i : Int), .int sd, .int z]) ∧ SqN K H r sc (ns.map V.int) ∧ 0 ≤ sd ∧ 0 ≤ z
structure RowTo (K : PySem.W.Frag) (sc : Addr) (ns : List Int) (r : Addr) (H H' : Hp) : Prop where
  out : Out r H H'
  row : RowAt K sc ns H' r
theorem RowTo.trans {K : PySem.W.Frag} {sc : Addr} {ns : List Int} {r : Addr} {H H1 H2 : Hp} (a : RowTo K sc ns r H H1) (b : RowTo K sc ns r H1 H2) : RowTo K sc ns r H H2 := ⟨a.out.trans b.out, b.row⟩
theorem RowAt.same {K : PySem.W.Frag} {sc : Addr} {ns : List Int} {r : Addr} {H H' : Hp} (h : RowAt K sc ns H r) (e : Same H H') : RowAt K sc ns H' r := by
  obtain ⟨i, sd, z, h1, h2, h3⟩ := h
  exact ⟨i, sd, z, e _ _ h1, h2.out (.of e), h3⟩
theorem RowTo.same {K : PySem.W.Frag} {sc : Addr} {ns : List Int} {r : Addr} {H H1 H2 : Hp} (a : RowTo K sc ns r H H1) (e : Same H1 H2) : RowTo K sc ns r H H2 := ⟨a.out.trans (.of e), a.row.same e⟩
theorem RowTo.tup {K : PySem.W.Frag} {sc : Addr} {ns : List Int} {r a : Addr} {H H' : Hp} {xs : List V} (e : RowTo K sc ns r H H') (hr : RowAt K sc ns H r) (h : H a = some (.tup xs)) : H' a = some (.tup xs) := by
  obtain ⟨i, sd, z, h1, _⟩ := hr
  exact e.out _ _ h (ne_of h h1 (by intro z; cases z))
theorem RowTo.new {K : PySem.W.Frag} {sc : Addr} {ns : List Int} {r p : Addr} {H H' : Hp} (e : RowTo K sc ns r H H') (hr : RowAt K sc ns H r) (h : H' p = none) : H p = none := by
  cases h1 : H p with
  | none => rfl
  | some o =>
    by_cases z : p = r
    · obtain ⟨i, sd, y, h2, _⟩ := e.row
      rw [z, h2] at h
      cases h
    · rw [e.out _ _ h1 z] at h
      cases h
theorem RowAt.ne {K : PySem.W.Frag} {sc : Addr} {ns : List Int} {r p : Addr} {H : Hp} (hr : RowAt K sc ns H r) (h : H p = none) : p ≠ r := fun z => by
  obtain ⟨i, sd, y, h2, _⟩ := hr
  rw [z, h2] at h
  cases h
/-- a new list is filled beside the draws -/
theorem RowTo.fill {K : PySem.W.Frag} {sc : Addr} {ns : List Int} {r D : Addr} {H H1 H2 : Hp} {o : HO} (e1 : RowTo K sc ns r H H1) (hr : RowAt K sc ns H r) (nD : H1 D = none) (e : RowTo K sc ns r H H2) : RowTo K sc ns r H (upd H2 D o) := by
  have hDr : D ≠ r := e1.row.ne nD
  have nD0 := e1.new hr nD
  refine ⟨fun b o hb hn => ?_, ?_⟩
  · rw [upd_ne (ne_of_none hb nD0)]
    exact e.out _ _ hb hn
  · obtain ⟨i, sd, z, h1, h2, h3⟩ := e.row
    obtain ⟨_, _, _, _, g2, _⟩ := hr
    refine ⟨i, sd, z, ?_, g2.out fun b x hb hn => ?_, h3⟩
    · rw [upd_ne hDr.symm]
      exact h1
    · rw [upd_ne (ne_of_none hb nD0)]
      exact e.out _ _ hb hn
section
variable {P : Program} {w : World} {K : PySem.W.Frag} {mg : Str → Option Value} {base : Heap}
theorem sc__law_taken : FnScope ["_law_row", "_law_many", "_law_found", "_law_cell"] ["_law_row", "_law_many"] (defScope (topS 50)) := ⟨rfl, rfl, rfl, by decide +kernel, rfl, by decide +kernel, by decide +kernel⟩
def spTaken (K : PySem.W.Frag) : Sp := fun vs H Q _ => ∃ (r : Addr) (m : Int) (sc : Addr) (ns : List Int), vs = [.ref r, .int m] ∧ RowAt K sc ns H r ∧ 1 ≤ m ∧ m < 1073741824 ∧ ∀ H' t, 0 ≤ t → t < m → RowTo K sc ns r H H' → Q (.int t) H'
theorem ok_law_taken (T : Txt K mg) : FnOk P w K mg base CX0 1 T.d_law_taken.f T.d_law_taken.fd ["_law_row", "_law_many"] (spTaken K) := by
  refine T.d_law_taken.F.ok sc__law_taken (fun vs H Q E h => ?_) (fun A outer s H vs Q E hr h => ?_)
  · obtain ⟨r, m, sc, ns, rfl, _⟩ := h
    rfl
  · obtain ⟨r, m, sc, ns, rfl, ⟨i, sd, z, hrow, hsc, hsd, hz⟩, m1, m2, q⟩ := h
    refine ⟨_, (pss_cons (ps_if (pt_cmpR op_gt (pe_ix ix_list (pv 0) pe_int (fun _ _ => rfl)) pe_int (nomark _)) (pss_cons (ps_set (i := 2) sc__law_taken.nd rfl (.inl rfl) (pe_op op_modN (pe_callTy call_int1 (by rfl) T.n_int (by decide +kernel) (pa_cons (pe_ix ix_list (pv 0) pe_int (fun _ _ => rfl)) pa_nil)) (pv 1)))
      (pss_cons (ps_asg (pe_op op_fdivN (pe_ix ix_list (pv 0) pe_int (fun _ _ => rfl)) (pv 1)) (pg_sub (pv 0) pe_int set_list))
      (pss_one (ps_ret (pv 2))))) pss_nil)
      (pss_cons (ps_asg (pe_op op_add (pe_ix ix_list (pv 0) pe_int (fun _ _ => rfl)) pe_int) (pg_sub (pv 0) pe_int set_list))
      (pss_cons (ps_if (pt_cmpR op_gt (pe_ix ix_list (pv 0) pe_int (fun _ _ => rfl)) (pe_callB call_len_seq (by rfl) T.n_len PySem.boot_len (pa_cons (pe_ix ix_list (pv 0) pe_int (fun _ _ => rfl)) pa_nil)) (nomark _)) (pss_cons (ps_asg (pe_op op_modN (pe_callTy call_int1 (by rfl) T.n_int (by decide +kernel) (pa_cons (pe_op op_add (pe_op op_mul (pe_ix ix_list (pv 0) pe_int (fun _ _ => rfl)) pe_int) pe_int) pa_nil)) pe_int) (pg_sub (pv 0) pe_int set_list))
      (pss_one (ps_ret (pe_op op_modN (pe_callTy call_int1 (by rfl) T.n_int (by decide +kernel) (pa_cons (pe_op op_fdivN (pe_ix ix_list (pv 0) pe_int (fun _ _ => rfl)) pe_int) pa_nil)) (pv 1))))) pss_nil)
      (pss_cons (ps_set (i := 3) sc__law_taken.nd rfl (.inl rfl) (pe_ix ix_list (pe_ix ix_list (pv 0) pe_int (fun _ _ => rfl)) (pe_op op_sub (pe_ix ix_list (pv 0) pe_int (fun _ _ => rfl)) pe_int) (fun _ _ => rfl)))
      (pss_cons (ps_asg (pe_op op_modN (pe_callTy call_int1 (by rfl) T.n_int (by decide +kernel) (pa_cons (pe_op op_add (pe_op op_add (pe_op op_mul (pe_ix ix_list (pv 0) pe_int (fun _ _ => rfl)) pe_int) (pv 3)) pe_int) pa_nil)) pe_int) (pg_sub (pv 0) pe_int set_list))
      (pss_cons (ps_if (pt_cmpR op_ge (pv 3) (pe_op op_pow pe_int pe_int) (nomark _)) (pss_one (ps_asg (pe_op op_fdivN (pv 3) (pv 1)) (pg_sub (pv 0) pe_int set_list))) pss_nil)
      (pss_one (ps_ret (pe_op op_modN (pe_callTy call_int1 (by rfl) T.n_int (by decide +kernel) (pa_cons (pv 3) pa_nil)) (pv 1)))))))))), ?_⟩
    refine ⟨_, rfl, _, _, _, _, rfl, rfl, SqL.of hrow, rfl, _, _, rfl, rfl, _, rfl, ?_⟩
    by_cases hz1 : z > 0
    · refine iteT' (decide_eq_true hz1) ?_
      refine ⟨_, rfl, _, _, _, _, rfl, rfl, SqL.of hrow, rfl, .inl ⟨_, rfl, _, rfl, _, _, rfl, rfl, by omega, ?_⟩⟩
      refine ⟨_, rfl, _, _, _, _, rfl, rfl, SqL.of hrow, rfl, _, rfl, _, _, rfl, rfl, ⟨by omega, by omega⟩, ?_⟩
      refine ⟨_, rfl, _, _, _, _, rfl, rfl, hrow, rfl, ?_⟩
      have hm := fmod_in (a := z) (b := m) (by omega)
      exact ⟨_, rfl, q _ _ hm.1 hm.2 ⟨.upd, i, sd, _, upd_same, hsc.out .upd, hsd, fdiv_nn hz (by omega)⟩⟩
    · refine iteF' (decide_eq_false hz1) ?_
      have ez : z = 0 := by omega
      refine ⟨_, rfl, _, _, _, _, rfl, rfl, SqL.of hrow, rfl, _, _, rfl, rfl, ?_⟩
      refine ⟨_, rfl, _, _, _, _, rfl, rfl, hrow, rfl, ?_⟩
      let row1 : HO := .lst [.ref sc, .int ((i : Int) + 1), .int sd, .int z]
      have h1 : (upd H r row1) r = some row1 := upd_same
      have o1 : Out r H (upd H r row1) := .upd
      have s1 := hsc.out o1
      refine ⟨_, rfl, _, _, _, _, rfl, rfl, SqL.of h1, rfl, ?_⟩
      refine ⟨_, rfl, _, _, _, _, rfl, rfl, SqL.of h1, rfl, _, _, rfl, .inl s1.1, _, _, rfl, rfl, _, rfl, ?_⟩
      by_cases hgt : (i : Int) + 1 > ((ns.map V.int).length : Int)
      · refine iteT' (decide_eq_true hgt) ?_
        refine ⟨_, rfl, _, _, _, _, rfl, rfl, SqL.of h1, rfl, _, _, rfl, rfl, .inr (by decide), _, _, rfl, rfl, .inl ⟨_, rfl, _, _, rfl, rfl, (show (2147483647 : Int) ≠ 0 by decide), ?_⟩⟩
        refine ⟨_, rfl, _, _, _, _, rfl, rfl, h1, rfl, ?_⟩
        have hs2 := fmod_in (a := sd * 48271 + 11) (b := 2147483647) (by decide)
        let row2 : HO := .lst [.ref sc, .int ((i : Int) + 1), .int ((sd * 48271 + 11).fmod 2147483647), .int z]
        have h2 : (upd (upd H r row1) r row2) r = some row2 := upd_same
        refine ⟨_, rfl, _, _, _, _, rfl, rfl, SqL.of h2, rfl, _, _, rfl, rfl, ⟨by decide, by decide⟩, .inl ⟨_, rfl, _, rfl, _, _, rfl, rfl, by omega, ?_⟩⟩
        have hm := fmod_in (a := ((sd * 48271 + 11).fmod 2147483647).fdiv 7) (b := m) (by omega)
        refine q _ _ hm.1 hm.2 ⟨o1.trans .upd, i + 1, _, z, ?_, s1.out .upd, hs2.1, hz⟩
        exact h2
      · refine iteF' (decide_eq_false hgt) ?_
        have hi : i < ns.length := by
          rw [List.length_map] at hgt
          omega
        have hc : atI (ns.map V.int) ((i : Int) + 1 - 1) = some (.int (at0 ns i)) := by
          rw [Int.add_sub_cancel]
          exact atI_nat (at0_at hi)
        refine ⟨_, rfl, _, _, _, _, rfl, rfl, SqL.of h1, rfl, ?_⟩
        refine ⟨_, rfl, _, _, _, _, rfl, rfl, SqL.of h1, rfl, _, _, rfl, rfl, _, _, _, _, rfl, rfl, s1.1, hc, ?_⟩
        refine ⟨_, rfl, _, _, _, _, rfl, rfl, SqL.of h1, rfl, _, _, rfl, rfl, .inr (by decide), _, rfl, _, _, rfl, rfl, _, _, rfl, rfl, .inl ⟨_, rfl, _, _, rfl, rfl, (show (2147483647 : Int) ≠ 0 by decide), ?_⟩⟩
        refine ⟨_, rfl, _, _, _, _, rfl, rfl, h1, rfl, ?_⟩
        have hs2 := fmod_in (a := sd * 48271 + at0 ns i + 11) (b := 2147483647) (by decide)
        let row2 : HO := .lst [.ref sc, .int ((i : Int) + 1), .int ((sd * 48271 + at0 ns i + 11).fmod 2147483647), .int z]
        have h2 : (upd (upd H r row1) r row2) r = some row2 := upd_same
        have o2 : Out r H (upd (upd H r row1) r row2) := o1.trans .upd
        have s2 := s1.out (.upd (o := row2))
        have hm := fmod_in (a := at0 ns i) (b := m) (by omega)
        refine ⟨_, rfl, _, _, rfl, rfl, ⟨by decide, by decide, by decide⟩, _, _, rfl, rfl, _, rfl, ?_⟩
        by_cases hbig : at0 ns i ≥ 10 ^ 18
        · refine iteT' (decide_eq_true hbig) ?_
          refine ⟨_, rfl, _, rfl, _, _, rfl, rfl, ⟨by omega, by omega⟩, _, rfl, _, _, _, _, rfl, rfl, h2, rfl, ?_⟩
          refine ⟨_, rfl, .inl ⟨_, rfl, _, rfl, _, _, rfl, rfl, by omega, ?_⟩⟩
          refine q _ _ hm.1 hm.2 ⟨o2.trans .upd, i + 1, _, _, upd_same, s2.out .upd, hs2.1, fdiv_nn ?_ (by omega)⟩
          refine Int.le_trans ?_ hbig
          decide
        · refine iteF' (decide_eq_false hbig) ?_
          refine ⟨_, rfl, .inl ⟨_, rfl, _, rfl, _, _, rfl, rfl, by omega, ?_⟩⟩
          exact q _ _ hm.1 hm.2 ⟨o2, i + 1, _, z, h2, s2, hs2.1, hz⟩
theorem sc__law_pick : FnScope ["_law_row", "_law_things"] ["_law_row", "_law_things"] (defScope (topS 51)) := ⟨rfl, rfl, rfl, by decide +kernel, rfl, by decide +kernel, by decide +kernel⟩
def spPick (K : PySem.W.Frag) : Sp := fun vs H Q _ => ∃ (r l : Addr) (xs : List V) (sc : Addr) (ns : List Int), vs = [.ref r, .ref l] ∧ RowAt K sc ns H r ∧ H l = some (.lst xs) ∧ l ≠ r ∧ 1 ≤ xs.length ∧ xs.length ≤ 1000 ∧ ∀ H' v, v ∈ xs → RowTo K sc ns r H H' → Q v H'
theorem ok_law_pick (T : Txt K mg) : FnOk P w K mg base CX0 2 T.d_law_pick.f T.d_law_pick.fd ["_law_row", "_law_things"] (spPick K) := by
  have G_law_taken : FnOk P w K mg base CX0 1 T.d_law_taken.f T.d_law_taken.fd ["_law_row", "_law_many"] (spTaken K) := ok_law_taken T
  refine T.d_law_pick.F.ok sc__law_pick (fun vs H Q E h => ?_) (fun A outer s H vs Q E hr h => ?_)
  · obtain ⟨r, l, xs, sc, ns, rfl, _⟩ := h
    rfl
  · obtain ⟨r, l, xs, sc, ns, rfl, hrow, hl, hne, l1, l2, q⟩ := h
    refine ⟨_, (pss_one (ps_ret (pe_ix ix_list (pv 1) (pe_call G_law_taken (hr.mono (by decide)) (by rfl) T.d_law_taken.g T.d_law_taken.kp T.d_law_taken.b .nil pass0 (pa_cons (pv 0) (pa_cons (pe_callB call_len_seq (by rfl) T.n_len PySem.boot_len (pa_cons (pv 1) pa_nil)) pa_nil))) (fun _ _ => rfl)))), ?_⟩
    refine ⟨_, rfl, _, rfl, _, rfl, _, _, rfl, .inl (SqL.of hl), _, _, _, _, rfl, hrow, by omega, by omega, fun H1 t t0 t1 e1 => ?_⟩
    obtain ⟨k, rfl⟩ := Int.eq_ofNat_of_zero_le t0
    have hk : k < xs.length := by omega
    exact ⟨_, _, _, _, rfl, rfl, SqL.of (e1.out _ _ hl hne), atI_nat (List.getElem?_eq_getElem hk), q H1 _ (List.getElem_mem hk) e1⟩
theorem sc__law_flow : FnScope ["_law_row"] ["_law_row"] (defScope (topS 59)) := ⟨rfl, rfl, rfl, by decide +kernel, rfl, by decide +kernel, by decide +kernel⟩
def spFlow (K : PySem.W.Frag) : Sp := fun vs H Q _ => ∃ (r sc : Addr) (ns : List Int), vs = [.ref r] ∧ RowAt K sc ns H r ∧ ∀ H' t, 0 ≤ t → t ≤ 1000 → RowTo K sc ns r H H' → Q (.int t) H'
theorem ok_law_flow (T : Txt K mg) : FnOk P w K mg base CX0 3 T.d_law_flow.f T.d_law_flow.fd ["_law_row"] (spFlow K) := by
  have G_law_taken : FnOk P w K mg base CX0 1 T.d_law_taken.f T.d_law_taken.fd ["_law_row", "_law_many"] (spTaken K) := ok_law_taken T
  have G_law_pick : FnOk P w K mg base CX0 2 T.d_law_pick.f T.d_law_pick.fd ["_law_row", "_law_things"] (spPick K) := ok_law_pick T
  refine T.d_law_flow.F.ok sc__law_flow (fun vs H Q E h => ?_) (fun A outer s H vs Q E hr h => ?_)
  · obtain ⟨r, sc, ns, rfl, _⟩ := h
    rfl
  · obtain ⟨r, sc, ns, rfl, hrow, q⟩ := h
    refine ⟨_, (pss_one (ps_ret (pe_call G_law_pick (hr.mono (by decide)) (by rfl) T.d_law_pick.g T.d_law_pick.kp T.d_law_pick.b .nil pass0 (pa_cons (pv 0) (pa_cons (pe_lst (pa_cons pe_int (pa_cons pe_int (pa_cons pe_int (pa_cons pe_int (pa_cons (pe_call G_law_taken (hr.mono (by decide)) (by rfl) T.d_law_taken.g T.d_law_taken.kp T.d_law_taken.b .nil pass0 (pa_cons (pv 0) (pa_cons pe_int pa_nil))) (pa_cons (pe_call G_law_pick (hr.mono (by decide)) (by rfl) T.d_law_pick.g T.d_law_pick.kp T.d_law_pick.b .nil pass0 (pa_cons (pv 0) (pa_cons (pe_lst (pa_cons pe_int (pa_cons pe_int pa_nil))) pa_nil))) pa_nil))))))) pa_nil))))), ?_⟩
    refine ⟨_, rfl, _, rfl, _, _, _, _, rfl, hrow, by decide, by decide, fun H1 t t0 t1 e1 => ?_⟩
    refine ⟨_, rfl, by show 2 ≤ sizeLine; decide, fun l1 n1 => ?_⟩
    have s1 := same_new (o := .lst [.int 100, .int 1000]) n1
    refine ⟨_, _, _, _, _, rfl, e1.row.same s1, upd_same, e1.row.ne n1, by decide, by decide, fun H2 v hv e2 => ?_⟩
    have e12 := (e1.same s1).trans e2
    refine ⟨by show 6 ≤ sizeLine; decide, fun l2 n2 => ?_⟩
    have s2 := same_new (o := .lst [.int 0, .int 1, .int 5, .int 10, .int t, v]) n2
    refine ⟨_, _, _, _, _, rfl, e12.row.same s2, upd_same, e12.row.ne n2, (show 1 ≤ 6 by decide), (show 6 ≤ 1000 by decide), fun H3 u hu e3 => ?_⟩
    have e13 := (e12.same s2).trans e3
    have hvi : ∃ k : Int, v = .int k ∧ 0 ≤ k ∧ k ≤ 1000 := by
      simp only [List.mem_cons, List.not_mem_nil, or_false] at hv
      rcases hv with rfl | rfl
      · exact ⟨_, rfl, by decide, by decide⟩
      · exact ⟨_, rfl, by decide, by decide⟩
    have hui : ∃ k : Int, u = .int k ∧ 0 ≤ k ∧ k ≤ 1000 := by
      simp only [List.mem_cons, List.not_mem_nil, or_false] at hu
      rcases hu with rfl | rfl | rfl | rfl | rfl | rfl
      · exact ⟨_, rfl, by decide, by decide⟩
      · exact ⟨_, rfl, by decide, by decide⟩
      · exact ⟨_, rfl, by decide, by decide⟩
      · exact ⟨_, rfl, by decide, by decide⟩
      · exact ⟨_, rfl, t0, by omega⟩
      · exact hvi
    obtain ⟨k, rfl, k0, k1⟩ := hui
    exact q H3 k k0 k1 e13
end
end DW
end

section
/-! the law's dams and worths -/
namespace DW
open PySem PySem.Spec PyProof.Rows L2
section
variable {P : Program} {w : World} {K : PySem.W.Frag} {mg : Str → Option Value} {base : Heap}
theorem sc__law_dam : FnScope ["_law_row", "_law_most", "_law_capacity", "_law_inflows", "_law_k"] ["_law_row", "_law_most"] (defScope (topS 60)) := ⟨rfl, rfl, rfl, by decide +kernel, rfl, by decide +kernel, by decide +kernel⟩
def spDam (K : PySem.W.Frag) : Sp := fun vs H Q _ => ∃ (r : Addr) (m : Int) (sc : Addr) (ns : List Int), vs = [.ref r, .int m] ∧ RowAt K sc ns H r ∧ 1 ≤ m ∧ m ≤ 7 ∧ ∀ H' a C s e ins, RowTo K sc ns r H H' → DamAt H' a C s e ins → DamOk C s e ins → Q (.ref a) H'
theorem ok_law_dam (T : Txt K mg) : FnOk P w K mg base CX0 4 T.d_law_dam.f T.d_law_dam.fd ["_law_row", "_law_most"] (spDam K) := by
  have G_law_taken : FnOk P w K mg base CX0 1 T.d_law_taken.f T.d_law_taken.fd ["_law_row", "_law_many"] (spTaken K) := ok_law_taken T
  have G_law_pick : FnOk P w K mg base CX0 2 T.d_law_pick.f T.d_law_pick.fd ["_law_row", "_law_things"] (spPick K) := ok_law_pick T
  have G_law_flow : FnOk P w K mg base CX0 3 T.d_law_flow.f T.d_law_flow.fd ["_law_row"] (spFlow K) := ok_law_flow T
  refine T.d_law_dam.F.ok sc__law_dam (fun vs H Q E h => ?_) (fun A outer s H vs Q E hr h => ?_)
  · obtain ⟨r, m, sc, ns, rfl, _⟩ := h
    rfl
  · obtain ⟨r, m, sc, ns, rfl, hrow, m1, m7, q⟩ := h
    refine ⟨_, (pss_cons (ps_set (i := 2) sc__law_dam.nd rfl (.inl rfl) (pe_call G_law_pick (hr.mono (by decide)) (by rfl) T.d_law_pick.g T.d_law_pick.kp T.d_law_pick.b .nil pass0 (pa_cons (pv 0) (pa_cons (pe_lst (pa_cons pe_int (pa_cons pe_int (pa_cons pe_int (pa_cons (pe_call G_law_taken (hr.mono (by decide)) (by rfl) T.d_law_taken.g T.d_law_taken.kp T.d_law_taken.b .nil pass0 (pa_cons (pv 0) (pa_cons pe_int pa_nil))) (pa_cons pe_int pa_nil)))))) pa_nil))))
      (pss_cons (ps_set (i := 3) sc__law_dam.nd rfl (.inl rfl) (pe_callTy call_tuple_of (by rfl) T.n_tuple (by decide +kernel) (pa_cons (pe_lc (own := [("_law_k", 4)]) rfl sc__law_dam.nd (pi_range1 (by rfl) T.n_range (pa_cons (pe_op op_add pe_int (pe_call G_law_taken (hr.mono (by decide)) (by rfl) T.d_law_taken.g T.d_law_taken.kp T.d_law_taken.b .nil pass0 (pa_cons (pv 0) (pa_cons (pv 1) pa_nil)))) pa_nil)) (blkOk_by (N := ["_law_row", "_law_most", "_law_capacity", "_law_inflows", "_law_k"]) (sc := defScope (topS 60)) (by decide +kernel)) (fun _ _ _ _ _ => (pg_name (i := 4) sc__law_dam.nd rfl (.inl rfl))) (fun _ _ _ _ _ => pts_nil) (fun _ _ _ _ _ => (pe_call G_law_flow (hr.mono (by decide)) (by rfl) T.d_law_flow.g T.d_law_flow.kp T.d_law_flow.b .nil pass0 (pa_cons (pv 0) pa_nil)))) pa_nil)))
      (pss_one (ps_ret (pe_tup (pa_cons (pv 2) (pa_cons (pe_call G_law_taken (hr.mono (by decide)) (by rfl) T.d_law_taken.g T.d_law_taken.kp T.d_law_taken.b .nil pass0 (pa_cons (pv 0) (pa_cons (pe_op op_add (pv 2) pe_int) pa_nil))) (pa_cons (pe_call G_law_pick (hr.mono (by decide)) (by rfl) T.d_law_pick.g T.d_law_pick.kp T.d_law_pick.b .nil pass0 (pa_cons (pv 0) (pa_cons (pe_lst (pa_cons pe_int (pa_cons pe_int (pa_cons pe_int (pa_cons (pe_call G_law_taken (hr.mono (by decide)) (by rfl) T.d_law_taken.g T.d_law_taken.kp T.d_law_taken.b .nil pass0 (pa_cons (pv 0) (pa_cons (pe_op op_add (pv 2) pe_int) pa_nil))) pa_nil))))) pa_nil))) (pa_cons (pv 3) pa_nil))))))))), ?_⟩
    refine ⟨_, rfl, _, rfl, _, _, _, _, rfl, hrow, by decide, by decide, fun H1 t t0 t1 e1 => ?_⟩
    refine ⟨by show 5 ≤ sizeLine; decide, fun l1 n1 => ?_⟩
    have s1 := same_new (o := .lst [.int 0, .int 1, .int 10, .int t, .int 1000]) n1
    refine ⟨_, _, _, _, _, rfl, e1.row.same s1, upd_same, e1.row.ne n1, (show 1 ≤ 5 by decide), (show 5 ≤ 1000 by decide), fun H2 v hv e2 => ?_⟩
    have e12 := (e1.same s1).trans e2
    have hv2 : ∃ C : Int, v = .int C ∧ 0 ≤ C ∧ C ≤ 1000 := by
      simp only [List.mem_cons, List.not_mem_nil, or_false] at hv
      rcases hv with rfl | rfl | rfl | rfl | rfl
      · exact ⟨_, rfl, by decide, by decide⟩
      · exact ⟨_, rfl, by decide, by decide⟩
      · exact ⟨_, rfl, by decide, by decide⟩
      · exact ⟨_, rfl, t0, by omega⟩
      · exact ⟨_, rfl, by decide, by decide⟩
    obtain ⟨C, rfl, C0, C1⟩ := hv2
    -- inflows
    refine ⟨_, rfl, _, rfl, _, _, _, _, rfl, e12.row, m1, by omega, fun H3 n0 n00 n01 e3 => ?_⟩
    obtain ⟨n, rfl⟩ := Int.eq_ofNat_of_zero_le n00
    have e13 := e12.trans e3
    refine ⟨_, _, rfl, rfl, _, rfl, by omega, by omega, fun D nD => ?_⟩
    have sD := same_new (o := .lst []) nD
    rw [show ((1 : Int) + (n : Int)).toNat = n + 1 by omega]
    refine lc_range (lo := 0) (n := n + 1) (fun j H' => RowTo K sc ns r H H' ∧ ∃ ins : List Int, H' D = some (.lst (ins.map V.int)) ∧ ins.length = j ∧ ∀ x ∈ ins, 0 ≤ x ∧ x ≤ 1000) ⟨e13.same sD, [], upd_same, rfl, fun x hx => absurd hx (by simp)⟩ (fun j H' hj pw => ?_) (fun H' pw => ?_)
    · obtain ⟨e4, ins, hD, hl, hb⟩ := pw
      have hDr : D ≠ r := e13.row.ne nD
      refine ⟨rfl, yes_iteT ⟨_, rfl, _, _, _, rfl, e4.row, fun H5 x x0 x1 e5 => ?_⟩⟩
      have hD5 := e5.out _ _ hD hDr
      refine ⟨_, hD5, by rw [List.length_map]; exact small1000 (by omega), e13.fill hrow nD (e4.trans e5), ins ++ [x], ?_, by simp [hl], fun y hy => ?_⟩
      · rw [upd_same, List.map_append]
        rfl
      · rcases List.mem_append.mp hy with hy | hy
        · exact hb y hy
        · rw [List.mem_singleton.mp hy]
          exact ⟨x0, x1⟩
    · obtain ⟨e4, ins, hD, hl, hb⟩ := pw
      refine ⟨_, _, rfl, .inl ⟨SqL.of hD, fun pt nt => ?_⟩⟩
      have e5 := e4.same (same_new (o := .tup (ins.map V.int)) nt)
      refine ⟨_, rfl, _, rfl, _, rfl, _, _, rfl, rfl, _, _, _, _, rfl, e5.row, by omega, by omega, fun H6 st st0 st1 e6 => ?_⟩
      have e56 := e5.trans e6
      have ht6 := e6.tup e5.row (upd_same (H := H') (a := pt) (o := .tup (ins.map V.int)))
      refine ⟨_, rfl, _, rfl, _, rfl, _, _, rfl, rfl, _, _, _, _, rfl, e56.row, by omega, by omega, fun H7 y y0 y1 e7 => ?_⟩
      have ht7 := e7.tup e6.row ht6
      have e57 := e56.trans e7
      refine ⟨by show 4 ≤ sizeLine; decide, fun l2 n2 => ?_⟩
      have s8 := same_new (o := .lst [.int 0, .int 0, .int 0, .int y]) n2
      refine ⟨_, _, _, _, _, rfl, e57.row.same s8, upd_same, e57.row.ne n2, (show 1 ≤ 4 by decide), (show 4 ≤ 1000 by decide), fun H9 u hu e9 => ?_⟩
      have ht9 := e9.tup (e57.row.same s8) (s8 _ _ ht7)
      have e59 := (e57.same s8).trans e9
      have hu2 : ∃ en : Int, u = .int en ∧ 0 ≤ en ∧ en ≤ C := by
        simp only [List.mem_cons, List.not_mem_nil, or_false] at hu
        rcases hu with rfl | rfl | rfl | rfl
        · exact ⟨_, rfl, by decide, C0⟩
        · exact ⟨_, rfl, by decide, C0⟩
        · exact ⟨_, rfl, by decide, C0⟩
        · exact ⟨_, rfl, y0, by omega⟩
      obtain ⟨en, rfl, en0, en1⟩ := hu2
      refine ⟨_, rfl, by show 4 ≤ sizeLine; decide, fun pd nd => ?_⟩
      have s10 := same_new (o := .tup [.int C, .int st, .int en, .ref pt]) nd
      exact q _ pd C st en ins (e59.same s10) ⟨pt, upd_same, s10 _ _ ht9⟩ ⟨C0, C1, st0, by omega, en0, en1, by omega, by omega, hb⟩
theorem sc__law_most_held : FnScope ["_law_dam_here", "_law_held", "_law_inflow"] ["_law_dam_here"] (defScope (topS 62)) := ⟨rfl, rfl, rfl, by decide +kernel, rfl, by decide +kernel, by decide +kernel⟩
theorem ok_law_most_held (T : Txt K mg) : FnOk P w K mg base CX0 1 T.d_law_most_held.f T.d_law_most_held.fd ["_law_dam_here"] spMost := by
  refine T.d_law_most_held.F.ok sc__law_most_held (fun vs H Q E h => ?_) (fun A outer s H vs Q E hr h => ?_)
  · obtain ⟨a, C, s, e, ins, rfl, _⟩ := h
    rfl
  · obtain ⟨a, C, st, en, ins, rfl, ⟨b, h, hI⟩, q⟩ := h
    refine ⟨_, (pss_cons (ps_set (i := 1) sc__law_most_held.nd rfl (.inl rfl) (pe_ix ix_tup (pv 0) pe_int (fun _ _ => rfl)))
      (pss_cons (ps_for PassesOwn.never rfl (pi_tup (pe_ix ix_tup (pv 0) pe_int (fun _ _ => rfl))) (pg_name (i := 2) sc__law_most_held.nd rfl (.inl rfl)) (pss_one (ps_set (i := 1) sc__law_most_held.nd rfl (.inl rfl) (pe_callB (call_min2 rfl) (by rfl) T.n_min (by decide +kernel) (pa_cons (pe_ix ix_tup (pv 0) pe_int (fun _ _ => rfl)) (pa_cons (pe_op op_add (pv 1) (pv 2)) pa_nil))))))
      (pss_one (ps_ret (pv 1))))), ?_⟩
    refine ⟨_, rfl, _, _, _, _, rfl, rfl, SqT.of h, rfl, ?_⟩
    refine ⟨_, rfl, _, _, _, _, rfl, rfl, SqT.of h, rfl, _, rfl, ⟨_, SqT.of hI⟩, ?_⟩
    refine for_tup (xs := ins.map V.int) (fun i σ H' => H' = H ∧ ∃ y, σ = [some (.ref a), some (.int (mostF (inOf C st en ins) i)), y]) ⟨rfl, _, rfl⟩ (fun i σ H' _ p => by rw [p.1]; exact SqT.of hI) (fun i x σ H' hx p => ?_) (fun σ H' p => ?_)
    · obtain ⟨rfl, y, rfl⟩ := p
      obtain ⟨hi, rfl⟩ := at0_is hx
      refine ⟨_, rfl, _, _, _, _, rfl, rfl, SqT.of h, rfl, _, rfl, _, rfl, _, _, rfl, rfl, _, _, rfl, ?_⟩
      exact ⟨rfl, _, rfl⟩
    · obtain ⟨rfl, y, rfl⟩ := p
      rw [List.length_map]
      exact ⟨_, rfl, q⟩
theorem sc__law_worths : FnScope ["_law_row", "_law_many", "_law_found", "_law_k", "_law_prices", "_law_one", "_law_j"] ["_law_row", "_law_many"] (defScope (topS 66)) := ⟨rfl, rfl, rfl, by decide +kernel, rfl, by decide +kernel, by decide +kernel⟩
def spWorths (K : PySem.W.Frag) : Sp := fun vs H Q _ => ∃ (r : Addr) (m : Nat) (sc : Addr) (ns : List Int), vs = [.ref r, .int (m : Int)] ∧ RowAt K sc ns H r ∧ m ≤ 7 ∧ ∀ H' b ws, RowTo K sc ns r H H' → WorAt H' b ws → WorOk m ws → Q (.ref b) H'
theorem ok_law_worths (T : Txt K mg) : FnOk P w K mg base CX0 3 T.d_law_worths.f T.d_law_worths.fd ["_law_row", "_law_many"] (spWorths K) := by
  have G_law_taken : FnOk P w K mg base CX0 1 T.d_law_taken.f T.d_law_taken.fd ["_law_row", "_law_many"] (spTaken K) := ok_law_taken T
  have G_law_pick : FnOk P w K mg base CX0 2 T.d_law_pick.f T.d_law_pick.fd ["_law_row", "_law_things"] (spPick K) := ok_law_pick T
  refine T.d_law_worths.F.ok sc__law_worths (fun vs H Q E h => ?_) (fun A outer s H vs Q E hr h => ?_)
  · obtain ⟨r, m, sc, ns, rfl, _⟩ := h
    rfl
  · obtain ⟨r, m, sc, ns, rfl, hrow, m7, q⟩ := h
    refine ⟨_, (pss_cons (ps_set (i := 2) sc__law_worths.nd rfl (.inl rfl) (pe_lst pa_nil))
      (pss_cons (ps_for PassesOwn.never rfl (pi_range1 (by rfl) T.n_range (pa_cons (pv 1) pa_nil)) (pg_name (i := 3) sc__law_worths.nd rfl (.inl rfl)) (pss_cons (ps_set (i := 4) sc__law_worths.nd rfl (.inl rfl) (pe_revL (pe_callB (cr_sortedSet rfl) (by rfl) T.n_sorted (by decide +kernel) (pa_cons (pe_callTy (SLi.cr_setL rfl) (by rfl) T.n_set (by decide +kernel) (pa_cons (pe_lc (own := [("_law_j", 6)]) rfl sc__law_worths.nd (pi_range1 (by rfl) T.n_range (pa_cons (pe_call G_law_taken (hr.mono (by decide)) (by rfl) T.d_law_taken.g T.d_law_taken.kp T.d_law_taken.b .nil pass0 (pa_cons (pv 0) (pa_cons pe_int pa_nil))) pa_nil)) (blkOk_by (N := ["_law_row", "_law_many", "_law_found", "_law_k", "_law_prices", "_law_one", "_law_j"]) (sc := defScope (topS 66)) (by decide +kernel)) (fun _ _ _ _ _ => (pg_name (i := 6) sc__law_worths.nd rfl (.inl rfl))) (fun _ _ _ _ _ => pts_nil) (fun _ _ _ _ _ => (pe_call G_law_pick (hr.mono (by decide)) (by rfl) T.d_law_pick.g T.d_law_pick.kp T.d_law_pick.b .nil pass0 (pa_cons (pv 0) (pa_cons (pe_lst (pa_cons pe_int (pa_cons pe_int (pa_cons pe_int (pa_cons pe_int (pa_cons (pe_op op_add pe_int (pe_call G_law_taken (hr.mono (by decide)) (by rfl) T.d_law_taken.g T.d_law_taken.kp T.d_law_taken.b .nil pass0 (pa_cons (pv 0) (pa_cons pe_int pa_nil)))) pa_nil)))))) pa_nil))))) pa_nil)) pa_nil))))
      (pss_one (ps_expr (pe_bm PySem.F.plainAttrs_list PySem.F.slot_list_append PySem.F.type_list_append mt_append (pv 2) (pa_cons (pe_callTy call_tuple_of (by rfl) T.n_tuple (by decide +kernel) (pa_cons (pe_lc (own := [("_law_one", 5)]) rfl sc__law_worths.nd (pi_list (pv 4)) (blkOk_by (N := ["_law_row", "_law_many", "_law_found", "_law_k", "_law_prices", "_law_one", "_law_j"]) (sc := defScope (topS 66)) (by decide +kernel)) (fun _ _ _ _ _ => (pg_name (i := 5) sc__law_worths.nd rfl (.inl rfl))) (fun _ _ _ _ _ => pts_nil) (fun _ _ _ _ _ => (pe_tup (pa_cons (pe_call G_law_pick (hr.mono (by decide)) (by rfl) T.d_law_pick.g T.d_law_pick.kp T.d_law_pick.b .nil pass0 (pa_cons (pv 0) (pa_cons (pe_lst (pa_cons pe_int (pa_cons pe_int (pa_cons pe_int (pa_cons (pe_op op_add pe_int (pe_call G_law_taken (hr.mono (by decide)) (by rfl) T.d_law_taken.g T.d_law_taken.kp T.d_law_taken.b .nil pass0 (pa_cons (pv 0) (pa_cons pe_int pa_nil)))) (pa_cons pe_int pa_nil)))))) pa_nil))) (pa_cons (pv 5) pa_nil))))) pa_nil)) pa_nil))))))
      (pss_one (ps_ret (pe_callTy call_tuple_of (by rfl) T.n_tuple (by decide +kernel) (pa_cons (pv 2) pa_nil)))))), ?_⟩
    refine ⟨Nat.zero_le _, fun lf nf => ?_⟩
    have sf := same_new (o := .lst []) nf
    have ef : RowTo K sc ns r H (upd H lf (.lst [])) := ⟨.of sf, hrow.same sf⟩
    have lfr : lf ≠ r := hrow.ne nf
    refine ⟨_, rfl, _, rfl, by omega, by omega, ?_⟩
    rw [show ((m : Int)).toNat = m by omega]
    refine for_range (lo := 0) (n := m) (fun j σ H' => RowTo K sc ns r H H' ∧ ∃ vs ws y2 y3 y4 y5, H' lf = some (.lst vs) ∧ vs.length = j ∧ Paired (PcsAt H') vs ws ∧ (∀ ps ∈ ws, PcsOk ps) ∧ σ = [some (.ref r), some (.int (m : Int)), some (.ref lf), y2, y3, y4, y5])
      ⟨ef, [], [], _, _, _, _, upd_same, rfl, .nil, fun ps h => absurd h (by simp), rfl⟩ (fun j σ H' hj pv => ?_) (fun σ H' pv => ?_)
    · obtain ⟨e0, vs, ws, y2, y3, y4, y5, hlf, hvl, pr, hok, rfl⟩ := pv
      -- the prices
      refine ⟨_, rfl, _, _, _, _, rfl, e0.row, by decide, by decide, fun H1 t t0 t1 e1 => ?_⟩
      obtain ⟨t, rfl⟩ := Int.eq_ofNat_of_zero_le t0
      have e01 := e0.trans e1
      refine ⟨_, rfl, by omega, by omega, fun D nD => ?_⟩
      have sD := same_new (o := .lst []) nD
      have k1 : Keep H' H1 := fun c xs h => e1.tup e0.row h
      have hlf1 := e1.out _ _ hlf lfr
      rw [show ((t : Nat) : Int).toNat = t by omega]
      refine lc_range (lo := 0) (n := t) (fun i H2 => RowTo K sc ns r H H2 ∧ Keep H' H2 ∧ H2 lf = some (.lst vs) ∧ ∃ ks : List Int, H2 D = some (.lst (ks.map V.int)) ∧ ks.length = i ∧ ∀ x ∈ ks, 1 ≤ x ∧ x ≤ 20)
        ⟨e01.same sD, k1.trans (.of sD), sD _ _ hlf1, [], upd_same, rfl, fun x hx => absurd hx (by simp)⟩ (fun i H2 hi pw => ?_) (fun H2 pw => ?_)
      · obtain ⟨e2, k2, hlf2, ks, hD, hkl, hb⟩ := pw
        have hDr : D ≠ r := e01.row.ne nD
        have hDlf : lf ≠ D := ne_of_none hlf1 nD
        refine ⟨rfl, yes_iteT ⟨_, rfl, _, rfl, _, _, _, _, rfl, e2.row, by decide, by decide, fun H3 u u0 u1 e3 => ?_⟩⟩
        refine ⟨_, _, rfl, rfl, by show 5 ≤ sizeLine; decide, fun l4 n4 => ?_⟩
        have s4 := same_new (o := .lst [.int 1, .int 2, .int 5, .int 10, .int (1 + u)]) n4
        have e23 := e2.trans e3
        refine ⟨_, _, _, _, _, rfl, e23.row.same s4, upd_same, e23.row.ne n4, (show 1 ≤ 5 by decide), (show 5 ≤ 1000 by decide), fun H5 v hv e5 => ?_⟩
        have hv2 : ∃ x : Int, v = .int x ∧ 1 ≤ x ∧ x ≤ 20 := by
          simp only [List.mem_cons, List.not_mem_nil, or_false] at hv
          rcases hv with rfl | rfl | rfl | rfl | rfl
          · exact ⟨_, rfl, by decide, by decide⟩
          · exact ⟨_, rfl, by decide, by decide⟩
          · exact ⟨_, rfl, by decide, by decide⟩
          · exact ⟨_, rfl, by decide, by decide⟩
          · exact ⟨_, rfl, by omega, by omega⟩
        obtain ⟨x, rfl, x0, x1⟩ := hv2
        have o25 : Out r H2 H5 := (e3.out.trans (.of s4)).trans e5.out
        have e25 := (e23.same s4).trans e5
        have hD5 := o25 _ _ hD hDr
        refine ⟨_, hD5, by rw [List.length_map]; exact small1000 (by omega), e01.fill hrow nD e25, fun c xs hc => ?_, ?_, ks ++ [x], ?_, by simp [hkl], fun y hy => ?_⟩
        · have h2 := k2 _ _ hc
          have h5 : H5 c = some (.tup xs) := o25 _ _ h2 (by
            obtain ⟨_, _, _, g, _⟩ := e2.row
            exact ne_of h2 g (by intro z; cases z))
          rw [upd_ne (ne_of h5 hD5 (by intro z; cases z))]
          exact h5
        · rw [upd_ne hDlf]
          exact o25 _ _ hlf2 lfr
        · rw [upd_same, List.map_append]
          rfl
        · rcases List.mem_append.mp hy with hy | hy
          · exact hb y hy
          · rw [List.mem_singleton.mp hy]
            exact ⟨x0, x1⟩
      · obtain ⟨e2, k2, hlf2, ks, hD, hkl, hb⟩ := pw
        refine ⟨_, _, rfl, SqL.of hD, by omega, fun a3 n3 na3 hn3 => ?_⟩
        have s3 := same_new (o := SetO w a3 (fun j => decide (j ∈ ks)) n3) na3
        refine ⟨_, _, _, rfl, upd_same, by omega, fun ks2 p4 asc mem len n4 => ?_⟩
        have s4 := same_new (o := .lst (ks2.map V.int)) n4
        refine ⟨_, _, rfl, SqL.of upd_same, fun p5 n5 => ?_⟩
        have s5 := same_new (o := .lst (ks2.map V.int).reverse) n5
        have s25 := (s3.trans s4).trans s5
        have e25 := e2.same s25
        have hlf5 := s25 _ _ hlf2
        have k5 := k2.trans (.of s25)
        have hp5 := upd_same (H := upd (upd H2 a3 (SetO w a3 (fun j => decide (j ∈ ks)) n3)) p4 (.lst (ks2.map V.int))) (a := p5) (o := .lst (ks2.map V.int).reverse)
        have p5r : p5 ≠ r := by
          have h := (e2.same (s3.trans s4)).row.ne n5
          exact h
        -- found.append(tuple([..]))
        refine ⟨_, rfl, .inl ⟨rfl, _, SqL.of hlf5⟩, ?_⟩
        refine ⟨_, rfl, _, rfl, ⟨_, SqL.of hp5⟩, fun D2 nD2 => ?_⟩
        have sD2 := same_new (o := .lst []) nD2
        have hlfD2 : lf ≠ D2 := ne_of_none hlf5 nD2
        have hpD2 : p5 ≠ D2 := ne_of_none hp5 nD2
        have hD2r : D2 ≠ r := e25.row.ne nD2
        have hxl : ((ks2.map V.int).reverse).length = ks2.length := by rw [List.length_reverse, List.length_map]
        refine lc_list (xs := (ks2.map V.int).reverse) (fun i H6 => RowTo K sc ns r H H6 ∧ Keep H' H6 ∧ H6 lf = some (.lst vs) ∧ H6 p5 = some (.lst (ks2.map V.int).reverse) ∧ ∃ rs ps, H6 D2 = some (.lst rs) ∧ Paired (PcAt H6) rs ps ∧ ps.map (·.2) = ks2.reverse.take i ∧ ∀ q ∈ ps, 1 ≤ q.1 ∧ q.1 ≤ 1000)
          ⟨e25.same sD2, k5.trans (.of sD2), sD2 _ _ hlf5, sD2 _ _ hp5, [], [], upd_same, .nil, rfl, fun q h => absurd h (by simp)⟩ (fun i H6 _ pw => SqL.of pw.2.2.2.1) (fun i x H6 hx pw => ?_) (fun H6 pw => ?_)
        · obtain ⟨e6, k6, hlf6, hp6, rs, ps, hD2, ppr, pm, pb⟩ := pw
          have hi : i < ks2.length := by
            have := (List.getElem?_eq_some_iff.mp hx).1
            omega
          rw [← List.map_reverse, List.getElem?_map] at hx
          obtain ⟨w1, hw1, rfl⟩ := Option.map_eq_some_iff.mp hx
          refine ⟨rfl, yes_iteT ⟨_, rfl, _, rfl, _, _, _, _, rfl, e6.row, by decide, by decide, fun H7 u u0 u1 e7 => ?_⟩⟩
          refine ⟨_, _, rfl, rfl, by show 5 ≤ sizeLine; decide, fun l8 n8 => ?_⟩
          have s8 := same_new (o := .lst [.int 1, .int 3, .int 10, .int (1 + u), .int 1000]) n8
          have e67 := e6.trans e7
          refine ⟨_, _, _, _, _, rfl, e67.row.same s8, upd_same, e67.row.ne n8, (show 1 ≤ 5 by decide), (show 5 ≤ 1000 by decide), fun H9 v hv e9 => ?_⟩
          have hv2 : ∃ x : Int, v = .int x ∧ 1 ≤ x ∧ x ≤ 1000 := by
            simp only [List.mem_cons, List.not_mem_nil, or_false] at hv
            rcases hv with rfl | rfl | rfl | rfl | rfl
            · exact ⟨_, rfl, by decide, by decide⟩
            · exact ⟨_, rfl, by decide, by decide⟩
            · exact ⟨_, rfl, by decide, by decide⟩
            · exact ⟨_, rfl, by omega, by omega⟩
            · exact ⟨_, rfl, by decide, by decide⟩
          obtain ⟨A1, rfl, A0, A2⟩ := hv2
          refine ⟨_, rfl, by show 2 ≤ sizeLine; decide, fun p10 n10 => ?_⟩
          have s10 := same_new (o := .tup [.int A1, .int w1]) n10
          have o6 : Out r H6 (upd H9 p10 (.tup [.int A1, .int w1])) := ((e7.out.trans (.of s8)).trans e9.out).trans (.of s10)
          have e610 := ((e67.same s8).trans e9).same s10
          have hD10 := o6 _ _ hD2 hD2r
          have hpD : p10 ≠ D2 := (ne_of_none (((e7.out.trans (.of s8)).trans e9.out) _ _ hD2 hD2r) n10).symm
          have kk : Keep H6 (upd (upd H9 p10 (.tup [.int A1, .int w1])) D2 (.lst (rs ++ [.ref p10]))) := fun c xs hc => by
            have h10 := o6 _ _ hc (by
              obtain ⟨_, _, _, g, _⟩ := e6.row
              exact ne_of hc g (by intro z; cases z))
            rw [upd_ne (ne_of h10 hD10 (by intro z; cases z))]
            exact h10
          have hrl : rs.length ≤ i := by
            have h1 := Paired.length ppr
            have h2 := congrArg List.length pm
            rw [List.length_map, List.length_take, List.length_reverse] at h2
            omega
          refine ⟨_, hD10, small1000 (by omega), e25.fill hrow nD2 e610, k6.trans kk, ?_, ?_, rs ++ [.ref p10], ps ++ [(A1, w1)], upd_same, ?_, ?_, fun q hq => ?_⟩
          · rw [upd_ne hlfD2]
            exact o6 _ _ hlf6 lfr
          · rw [upd_ne hpD2]
            exact o6 _ _ hp6 p5r
          · refine paired_snoc (paired_keep ppr fun v t => PcAt.keep kk) ⟨p10, rfl, ?_⟩
            rw [upd_ne hpD]
            exact upd_same
          · rw [List.map_append, pm, List.take_add_one, hw1]
            rfl
          · rcases List.mem_append.mp hq with hq | hq
            · exact pb q hq
            · rw [List.mem_singleton.mp hq]
              exact ⟨A0, A2⟩
        · obtain ⟨e6, k6, hlf6, hp6, rs, ps, hD2, ppr, pm, pb⟩ := pw
          rw [hxl, ← List.length_reverse, List.take_length] at pm
          refine ⟨_, _, rfl, .inl ⟨SqL.of hD2, fun p7 n7 => ?_⟩⟩
          have s7 := same_new (o := .tup rs) n7
          have hlf7 := s7 _ _ hlf6
          have p7lf : p7 ≠ lf := (ne_of_none hlf6 n7).symm
          refine ⟨_, _, _, rfl, rfl, hlf7, small1000 (by omega), ?_⟩
          have kk : Keep H6 (upd (upd H6 p7 (.tup rs)) lf (.lst (vs ++ [.ref p7]))) := fun c xs hc => by
            have h7 := s7 _ _ hc
            rw [upd_ne (ne_of h7 hlf7 (by intro z; cases z))]
            exact h7
          refine ⟨(⟨.of sf, hrow.same sf⟩ : RowTo K sc ns r H (upd H lf (.lst []))) |> fun _ => ?_, vs ++ [.ref p7], ws ++ [ps], _, _, _, _, upd_same, by simp [hvl], ?_, fun q hq => ?_, rfl⟩
          · have h := (⟨Out.refl r H, hrow⟩ : RowTo K sc ns r H H).fill hrow nf (e6.same s7) (o := .lst (vs ++ [.ref p7]))
            exact h
          · refine paired_snoc (paired_keep pr fun v t => PcsAt.keep (k6.trans kk)) ⟨p7, rs, rfl, ?_, paired_keep ppr fun v t => PcAt.keep kk⟩
            rw [upd_ne p7lf]
            exact upd_same
          · rcases List.mem_append.mp hq with hq | hq
            · exact hok q hq
            · rw [List.mem_singleton.mp hq]
              have hmem : ∀ y ∈ ps, 1 ≤ y.2 ∧ y.2 ≤ 20 := fun y hy => by
                have h1 : y.2 ∈ ps.map (·.2) := List.mem_map_of_mem hy
                rw [pm] at h1
                have h2 := (mem y.2).mp (List.mem_reverse.mp h1)
                exact hb _ (of_decide_eq_true h2)
              refine ⟨⟨fun y hy => ⟨(pb y hy).1, (hmem y hy).1⟩, ?_⟩, fun y hy => ⟨(pb y hy).2, by have := (hmem y hy).2; omega⟩, ?_⟩
              · have h1 : (ps.map (·.2)).Pairwise fun a b => b < a := by
                  rw [pm, List.pairwise_reverse]
                  exact asc
                exact List.pairwise_map.mp h1
              · have h2 := congrArg List.length pm
                rw [List.length_map, List.length_reverse] at h2
                omega
    · obtain ⟨e0, vs, ws, y2, y3, y4, y5, hlf, hvl, pr, hok, rfl⟩ := pv
      refine ⟨_, rfl, _, _, rfl, .inl ⟨SqL.of hlf, fun p np => ?_⟩⟩
      have s1 := same_new (o := .tup vs) np
      exact q _ p ws (e0.same s1) ⟨vs, upd_same, paired_keep pr fun v t => PcsAt.keep (.of s1)⟩ ⟨by have := Paired.length pr; omega, hok⟩
end
end DW
end

section
/-! the law's own ratios and levels -/
namespace DW
open PySem PySem.Spec PyProof.Rows L2
theorem dp_rat {K : PySem.W.Frag} {H : Hp} {a : Addr} {k : Int} (h : H a = some (.tup [.int k, .int 1])) : Dp K H (.ref a) (.tuple [.int k, .int 1]) := .tup (SqT.of h) (.cons (.int _) (.cons (.int _) .nil))
section
variable {P : Program} {w : World} {K : PySem.W.Frag} {mg : Str → Option Value} {base : Heap}
theorem sc__law_ratio : FnScope ["_law_top", "_law_bottom", "_law_one", "_law_other"] ["_law_top", "_law_bottom"] (defScope (topS 53)) := ⟨rfl, rfl, rfl, by decide +kernel, rfl, by decide +kernel, by decide +kernel⟩
theorem ok_law_ratio (T : Txt K mg) : FnOk P w K mg base CX0 1 T.d_law_ratio.f T.d_law_ratio.fd ["_law_top", "_law_bottom"] spRat := by
  refine T.d_law_ratio.F.ok sc__law_ratio (fun vs H Q E h => ?_) (fun A outer s H vs Q E hr h => ?_)
  · obtain ⟨t, rfl, _⟩ := h
    rfl
  · obtain ⟨t, rfl, q⟩ := h
    refine ⟨_, (pss_cons (ps_par (i := 2) (j := 3) (by rfl) sc__law_ratio.nd rfl rfl (by decide) rfl rfl (pa_cons (pe_callB call_abs (by rfl) T.n_abs (by decide +kernel) (pa_cons (pv 0) pa_nil)) (pa_cons (pe_callB call_abs (by rfl) T.n_abs (by decide +kernel) (pa_cons (pv 1) pa_nil)) pa_nil)) (by rfl))
      (pss_cons (ps_while PassesOwn.never (pt_cmpR op_ne (pv 3) pe_int (nomark _)) (pss_one (ps_par (i := 2) (j := 3) (by rfl) sc__law_ratio.nd rfl rfl (by decide) rfl rfl (pa_cons (pv 3) (pa_cons (pe_op op_modN (pe_callTy call_int1 (by rfl) T.n_int (by decide +kernel) (pa_cons (pv 2) pa_nil)) (pv 3)) pa_nil)) (by rfl))))
      (pss_one (ps_ret (pe_ifExp (pt_cmpR op_gt (pv 1) pe_int (nomark _)) (pe_tup (pa_cons (pe_op op_fdivN (pv 0) (pv 2)) (pa_cons (pe_op op_fdivN (pv 1) (pv 2)) pa_nil))) (pe_tup (pa_cons (pe_op op_sub pe_int (pe_op op_fdivN (pv 0) (pv 2))) (pa_cons (pe_op op_sub pe_int (pe_op op_fdivN (pv 1) (pv 2))) pa_nil)))))))), ?_⟩
    refine ⟨_, rfl, _, rfl, _, rfl, _, rfl, _, _, rfl, ?_⟩
    refine while_by (fun σ H' => H' = H ∧ ((∃ x, σ = [some (.int t), some (.int 1), some (.int x), some (.int 1)]) ∨ σ = [some (.int t), some (.int 1), some (.int 1), some (.int 0)]))
      (fun σ _ => if σ[3]? = some (some (.int 1)) then 1 else 0) ⟨rfl, .inl ⟨_, rfl⟩⟩ (fun σ H' pv => ?_) (fun σ H Q Q' hq h => ?_)
    · obtain ⟨rfl, ⟨x, rfl⟩ | rfl⟩ := pv
      · refine ⟨_, rfl, rfl, _, rfl, iteT' (by rw [eqIntF (by decide)]; rfl) ?_⟩
        refine ⟨_, rfl, _, rfl, .inl ⟨_, rfl, _, rfl, _, _, rfl, rfl, (show (1 : Int) ≠ 0 by decide), _, _, rfl, ?_⟩⟩
        have e : x.fmod 1 = 0 := by
          have := fmod_in (a := x) (b := 1) (by decide)
          omega
        refine ⟨⟨rfl, .inr ?_⟩, ?_⟩
        · show [some (V.int t), some (V.int 1), some (V.int 1), some (V.int (x.fmod 1))] = _
          rw [e]
        · show (if some (some (V.int (x.fmod 1))) = some (some (V.int 1)) then 1 else 0) < (if some (some (V.int 1)) = some (some (V.int 1)) then 1 else 0)
          rw [e, if_pos rfl, if_neg (by decide)]
          decide
      · refine ⟨_, rfl, rfl, _, rfl, iteF' (neInt rfl) ?_⟩
        refine ⟨_, rfl, _, _, rfl, rfl, _, rfl, iteT' (by decide) ?_⟩
        refine ⟨_, rfl, _, rfl, _, _, rfl, rfl, ⟨by decide, by decide⟩, _, rfl, _, rfl, _, _, rfl, rfl, ⟨by decide, by decide⟩, by show 2 ≤ sizeLine; decide, fun p hp => ?_⟩
        refine q _ p (same_new hp) hp ?_
        rw [upd_same]
        show some (HO.tup [V.int (t.fdiv 1), V.int ((1 : Int).fdiv 1)]) = _
        rw [Int.fdiv_one, Int.fdiv_one]
    · obtain ⟨v, e, hs, k, ek, h⟩ := h
      exact ⟨v, e, hs, k, ek, hq _ _ h⟩
theorem sc__law_plus : FnScope ["_law_one", "_law_other"] ["_law_one", "_law_other"] (defScope (topS 54)) := ⟨rfl, rfl, rfl, by decide +kernel, rfl, by decide +kernel, by decide +kernel⟩
theorem sc__law_by : FnScope ["_law_one", "_law_other"] ["_law_one", "_law_other"] (defScope (topS 55)) := ⟨rfl, rfl, rfl, by decide +kernel, rfl, by decide +kernel, by decide +kernel⟩
theorem sc__law_less : FnScope ["_law_one", "_law_other"] ["_law_one", "_law_other"] (defScope (topS 57)) := ⟨rfl, rfl, rfl, by decide +kernel, rfl, by decide +kernel, by decide +kernel⟩
theorem ok_law_plus (T : Txt K mg) : FnOk P w K mg base CX0 2 T.d_law_plus.f T.d_law_plus.fd ["_law_one", "_law_other"] (spTwo (fun i j => i + j) fun _ _ => True) := by
  have G_law_ratio : FnOk P w K mg base CX0 1 T.d_law_ratio.f T.d_law_ratio.fd ["_law_top", "_law_bottom"] spRat := ok_law_ratio T
  refine T.d_law_plus.F.ok sc__law_plus (fun vs H Q E h => ?_) (fun A outer s H vs Q E hr h => ?_)
  · obtain ⟨a, b, i, j, rfl, _⟩ := h
    rfl
  · obtain ⟨a, b, i, j, rfl, ha, hb, _, q⟩ := h
    refine ⟨_, (pss_one (ps_ret (pe_call G_law_ratio (hr.mono (by decide)) (by rfl) T.d_law_ratio.g T.d_law_ratio.kp T.d_law_ratio.b .nil pass0 (pa_cons (pe_op op_add (pe_op op_mul (pe_ix ix_tup (pv 0) pe_int (fun _ _ => rfl)) (pe_ix ix_tup (pv 1) pe_int (fun _ _ => rfl))) (pe_op op_mul (pe_ix ix_tup (pv 1) pe_int (fun _ _ => rfl)) (pe_ix ix_tup (pv 0) pe_int (fun _ _ => rfl)))) (pa_cons (pe_op op_mul (pe_ix ix_tup (pv 0) pe_int (fun _ _ => rfl)) (pe_ix ix_tup (pv 1) pe_int (fun _ _ => rfl))) pa_nil))))), ?_⟩
    refine ⟨_, rfl, _, _, _, _, rfl, rfl, SqT.of ha, rfl, _, rfl, _, _, _, _, rfl, rfl, SqT.of hb, rfl, _, _, rfl, rfl, .inr lit1, ?_⟩
    refine ⟨_, rfl, _, _, _, _, rfl, rfl, SqT.of hb, rfl, _, rfl, _, _, _, _, rfl, rfl, SqT.of ha, rfl, _, _, rfl, rfl, .inr lit1, _, _, rfl, rfl, ?_⟩
    refine ⟨_, rfl, _, _, _, _, rfl, rfl, SqT.of ha, rfl, _, rfl, _, _, _, _, rfl, rfl, SqT.of hb, rfl, _, _, rfl, rfl, .inr lit1, i + j, ?_, ?_⟩
    · show [V.int (i * 1 + j * 1), V.int (1 * 1)] = _
      rw [Int.mul_one, Int.mul_one]
      rfl
    · exact q
theorem ok_law_by (T : Txt K mg) : FnOk P w K mg base CX0 2 T.d_law_by.f T.d_law_by.fd ["_law_one", "_law_other"] (spTwo (fun i j => i * j) CMul) := by
  have G_law_ratio : FnOk P w K mg base CX0 1 T.d_law_ratio.f T.d_law_ratio.fd ["_law_top", "_law_bottom"] spRat := ok_law_ratio T
  refine T.d_law_by.F.ok sc__law_by (fun vs H Q E h => ?_) (fun A outer s H vs Q E hr h => ?_)
  · obtain ⟨a, b, i, j, rfl, _⟩ := h
    rfl
  · obtain ⟨a, b, i, j, rfl, ha, hb, hc, q⟩ := h
    refine ⟨_, (pss_one (ps_ret (pe_call G_law_ratio (hr.mono (by decide)) (by rfl) T.d_law_ratio.g T.d_law_ratio.kp T.d_law_ratio.b .nil pass0 (pa_cons (pe_op op_mul (pe_ix ix_tup (pv 0) pe_int (fun _ _ => rfl)) (pe_ix ix_tup (pv 1) pe_int (fun _ _ => rfl))) (pa_cons (pe_op op_mul (pe_ix ix_tup (pv 0) pe_int (fun _ _ => rfl)) (pe_ix ix_tup (pv 1) pe_int (fun _ _ => rfl))) pa_nil))))), ?_⟩
    refine ⟨_, rfl, _, _, _, _, rfl, rfl, SqT.of ha, rfl, _, rfl, _, _, _, _, rfl, rfl, SqT.of hb, rfl, _, _, rfl, rfl, hc, ?_⟩
    exact ⟨_, rfl, _, _, _, _, rfl, rfl, SqT.of ha, rfl, _, rfl, _, _, _, _, rfl, rfl, SqT.of hb, rfl, _, _, rfl, rfl, .inr lit1, i * j, rfl, q⟩
theorem ok_law_less (T : Txt K mg) : FnOk P w K mg base CX0 1 T.d_law_less.f T.d_law_less.fd ["_law_one", "_law_other"] spLess := by
  refine T.d_law_less.F.ok sc__law_less (fun vs H Q E h => ?_) (fun A outer s H vs Q E hr h => ?_)
  · obtain ⟨a, b, i, j, rfl, _⟩ := h
    rfl
  · obtain ⟨a, b, i, j, rfl, ha, hb, q⟩ := h
    refine ⟨_, (pss_one (ps_ret (pe_cmpR op_lt (pe_op op_mul (pe_ix ix_tup (pv 0) pe_int (fun _ _ => rfl)) (pe_ix ix_tup (pv 1) pe_int (fun _ _ => rfl))) (pe_op op_mul (pe_ix ix_tup (pv 1) pe_int (fun _ _ => rfl)) (pe_ix ix_tup (pv 0) pe_int (fun _ _ => rfl))) (nomark _)))), ?_⟩
    refine ⟨_, rfl, _, _, _, _, rfl, rfl, SqT.of ha, rfl, _, rfl, _, _, _, _, rfl, rfl, SqT.of hb, rfl, _, _, rfl, rfl, .inr lit1, ?_⟩
    refine ⟨_, rfl, _, _, _, _, rfl, rfl, SqT.of hb, rfl, _, rfl, _, _, _, _, rfl, rfl, SqT.of ha, rfl, _, _, rfl, rfl, .inr lit1, _, _, rfl, rfl, ?_⟩
    show Q (.bl (decide (i * 1 < j * 1))) H
    rw [Int.mul_one, Int.mul_one]
    exact q
theorem sc__law_is_ratio : FnScope ["_law_value", "_law_one"] ["_law_value"] (defScope (topS 58)) := ⟨rfl, rfl, rfl, by decide +kernel, rfl, by decide +kernel, by decide +kernel⟩
def spLIsR : Sp := fun vs H Q _ => ∃ v k, vs = [v] ∧ Rat1 H v k ∧ ∀ H', Same H H' → Q (.bl true) H'
theorem ok_law_is_ratio (T : Txt K mg) : FnOk P w K mg base CX0 2 T.d_law_is_ratio.f T.d_law_is_ratio.fd ["_law_value"] spLIsR := by
  have G_law_ratio : FnOk P w K mg base CX0 1 T.d_law_ratio.f T.d_law_ratio.fd ["_law_top", "_law_bottom"] spRat := ok_law_ratio T
  refine T.d_law_is_ratio.F.ok sc__law_is_ratio (fun vs H Q E h => ?_) (fun A outer s H vs Q E hr h => ?_)
  · obtain ⟨v, k, rfl, _⟩ := h
    rfl
  · obtain ⟨v, k, rfl, ⟨a, rfl, h⟩, q⟩ := h
    refine ⟨_, (pss_cons (ps_if (pt_not (pt_val (pe_callB call_isi (by rfl) T.n_isinstance (by decide +kernel) (pa_cons (pv 0) (pa_cons (pe_bltn (v := .ty "tuple") (by rfl) T.n_tuple (by decide +kernel) rfl) pa_nil))))) (pss_one (ps_ret pe_bl)) pss_nil)
      (pss_cons (ps_if (pt_cmpR op_ne (pe_callB call_len_seq (by rfl) T.n_len PySem.boot_len (pa_cons (pv 0) pa_nil)) pe_int (nomark _)) (pss_one (ps_ret pe_bl)) pss_nil)
      (pss_cons (ps_if (pt_cmpR (op_neD hr.units) (pe_lc (own := [("_law_one", 1)]) rfl sc__law_is_ratio.nd (pi_tup (pv 0)) (blkOk_by (N := ["_law_value", "_law_one"]) (sc := defScope (topS 58)) (by decide +kernel)) (fun _ _ _ _ _ => (pg_name (i := 1) sc__law_is_ratio.nd rfl (.inl rfl))) (fun _ _ _ _ _ => (pts_one (PW.pt (pw_or (pt_not (pt_val (pe_callB (isiK (K := K) rfl) (by rfl) T.n_isinstance (by decide +kernel) (pa_cons (pv 1) (pa_cons (pe_bltn (v := .ty "int") (by rfl) T.n_int (by decide +kernel) rfl) pa_nil))))) (pw_or1 (pt_val (pe_callB (isiK (K := K) rfl) (by rfl) T.n_isinstance (by decide +kernel) (pa_cons (pv 1) (pa_cons (pe_bltn (v := .ty "bool") (by rfl) T.n_bool (by decide +kernel) rfl) pa_nil))))))))) (fun _ _ _ _ _ => (pv 1))) (pe_lst pa_nil) (nomark _)) (pss_one (ps_ret pe_bl)) pss_nil)
      (pss_one (ps_ret (pe_and (pe_cmpR op_gt (pe_ix ix_tup (pv 0) pe_int (fun _ _ => rfl)) pe_int (nomark _)) (pe_one (pe_cmpR (op_eqD hr.units) (pe_call G_law_ratio (hr.mono (by decide)) (by rfl) T.d_law_ratio.g T.d_law_ratio.kp T.d_law_ratio.b .nil pass0 (pa_cons (pe_ix ix_tup (pv 0) pe_int (fun _ _ => rfl)) (pa_cons (pe_ix ix_tup (pv 0) pe_int (fun _ _ => rfl)) pa_nil))) (pv 0) (nomark _))))))))), ?_⟩
    refine ⟨_, rfl, _, _, _, _, true, rfl, .ty _, .base (.tup h), kit_ty (by decide +kernel), _, rfl, iteF ?_⟩
    refine ⟨_, rfl, _, _, rfl, .inr (SqT.of h), rfl, _, rfl, iteF' (neInt rfl) ?_⟩
    refine ⟨_, rfl, _, rfl, ⟨_, SqT.of h⟩, fun D nD => ?_⟩
    refine lc_tup (xs := [.int k, .int 1]) (fun i H2 => Same H H2 ∧ H2 D = some (.lst [])) ⟨same_new nD, upd_same⟩ (fun i H2 _ pw => SqT.of (pw.1 _ _ h)) (fun i x H2 hx pw => ?_) (fun H2 pw => ?_)
    · have hv : ∃ n : Int, x = .int n := by
        match i, hx with
        | 0, hi => exact ⟨k, (Option.some.inj hi).symm⟩
        | 1, hi => exact ⟨1, (Option.some.inj hi).symm⟩
      obtain ⟨n, rfl⟩ := hv
      refine ⟨rfl, _, rfl, _, _, _, _, true, rfl, .ty _, .base (.int _), kit_ty (by decide +kernel), _, rfl, iteF ?_⟩
      exact ⟨_, rfl, _, _, _, _, false, rfl, .ty _, .base (.int _), kit_ty (by decide +kernel), _, rfl, iteF pw⟩
    · obtain ⟨s2, hD⟩ := pw
      refine ⟨Nat.zero_le _, fun l nl => ?_⟩
      have s3 := same_new (o := .lst []) nl
      refine ⟨.list [], .list [], .lst (SqL.of (s3 _ _ hD)) .nil, .lst (SqL.of upd_same) .nil, rfl, rfl, _, rfl, iteF ?_⟩
      have h3 := s3 _ _ (s2 _ _ h)
      refine ⟨_, rfl, _, _, _, _, rfl, rfl, SqT.of h3, rfl, _, _, rfl, rfl, _, rfl, iteT ?_⟩
      refine ⟨_, rfl, _, _, _, _, rfl, rfl, SqT.of h3, rfl, _, rfl, _, _, _, _, rfl, rfl, SqT.of h3, rfl, k, rfl, fun H4 p4 s4 n4 e4 => ?_⟩
      refine ⟨_, rfl, .tuple [.int k, .int 1], .tuple [.int k, .int 1], dp_rat e4, dp_rat (s4 _ _ h3), rfl, rfl, ?_⟩
      rw [SeqAt.eqv_refl _ rfl]
      exact q _ ((s2.trans s3).trans s4)
theorem sc__law_levels : FnScope ["_law_dam_here", "_law_plan", "_law_held", "_law_found", "_law_k", "_law_one"] ["_law_dam_here", "_law_plan"] (defScope (topS 63)) := ⟨rfl, rfl, rfl, by decide +kernel, rfl, by decide +kernel, by decide +kernel⟩
def spLLev : Sp := fun vs H Q _ => ∃ a p C s e ins r, vs = [.ref a, .ref p] ∧ DamAt H a C s e ins ∧ DamOk C s e ins ∧ RelAt H p ins.length r ∧ RelOk C s e ins r ∧ ∀ H' l, Same H H' → Q (.ref l) H'
theorem ok_law_levels (T : Txt K mg) : FnOk P w K mg base CX0 3 T.d_law_levels.f T.d_law_levels.fd ["_law_dam_here", "_law_plan"] spLLev := by
  have G_law_plus : FnOk P w K mg base CX0 2 T.d_law_plus.f T.d_law_plus.fd ["_law_one", "_law_other"] (spTwo (fun i j => i + j) fun _ _ => True) := ok_law_plus T
  have G_law_less : FnOk P w K mg base CX0 1 T.d_law_less.f T.d_law_less.fd ["_law_one", "_law_other"] spLess := ok_law_less T
  have G_law_is_ratio : FnOk P w K mg base CX0 2 T.d_law_is_ratio.f T.d_law_is_ratio.fd ["_law_value"] spLIsR := ok_law_is_ratio T
  refine T.d_law_levels.F.ok sc__law_levels (fun vs H Q E h => ?_) (fun A outer s H vs Q E hr h => ?_)
  · obtain ⟨a, p, C, s, e, ins, r, rfl, _⟩ := h
    rfl
  · obtain ⟨a, p, C, st, en, ins, r, rfl, hd, ok, hp, rok, q⟩ := h
    obtain ⟨b, h, hI⟩ := id hd
    obtain ⟨vs, hvs, hlen, hall⟩ := id hp
    refine ⟨_, (pss_cons (ps_if (PW.pt (pw_or (pt_not (pt_val (pe_callB call_isi (by rfl) T.n_isinstance (by decide +kernel) (pa_cons (pv 1) (pa_cons (pe_bltn (v := .ty "tuple") (by rfl) T.n_tuple (by decide +kernel) rfl) pa_nil))))) (pw_or (pt_cmpR op_ne (pe_callB call_len_seq (by rfl) T.n_len PySem.boot_len (pa_cons (pv 1) pa_nil)) (pe_callB call_len_seq (by rfl) T.n_len PySem.boot_len (pa_cons (pe_ix ix_tup (pv 0) pe_int (fun _ _ => rfl)) pa_nil)) (nomark _)) (pw_or1 (pt_cmpR (op_neD hr.units) (pe_lc (own := [("_law_one", 5)]) rfl sc__law_levels.nd (pi_tup (pv 1)) (blkOk_by (N := ["_law_dam_here", "_law_plan", "_law_held", "_law_found", "_law_k", "_law_one"]) (sc := defScope (topS 63)) (by decide +kernel)) (fun _ _ _ _ _ => (pg_name (i := 5) sc__law_levels.nd rfl (.inl rfl))) (fun _ _ _ _ _ => (pts_one (PW.pt (pw_or (pt_not (pt_val (pe_call G_law_is_ratio (hr.mono (by decide)) (by rfl) T.d_law_is_ratio.g T.d_law_is_ratio.kp T.d_law_is_ratio.b .nil pass0 (pa_cons (pv 5) pa_nil)))) (pw_or1 (pt_cmpR op_lt (pe_ix (ixTK (K := K) rfl) (pv 5) pe_int (fun _ _ => rfl)) pe_int (nomark _))))))) (fun _ _ _ _ _ => (pv 5))) (pe_lst pa_nil) (nomark _)))))) (pss_one (ps_ret pe_non)) pss_nil)
      (pss_cons (ps_par (i := 2) (j := 3) (by rfl) sc__law_levels.nd rfl rfl (by decide) rfl rfl (pa_cons (pe_tup (pa_cons (pe_ix ix_tup (pv 0) pe_int (fun _ _ => rfl)) (pa_cons pe_int pa_nil))) (pa_cons (pe_lst pa_nil) pa_nil)) (by rfl))
      (pss_cons (ps_for PassesOwn.never rfl (pi_range1 (by rfl) T.n_range (pa_cons (pe_callB call_len_seq (by rfl) T.n_len PySem.boot_len (pa_cons (pv 1) pa_nil)) pa_nil)) (pg_name (i := 4) sc__law_levels.nd rfl (.inl rfl)) (pss_cons (ps_set (i := 2) sc__law_levels.nd rfl (.inl rfl) (pe_call G_law_plus (hr.mono (by decide)) (by rfl) T.d_law_plus.g T.d_law_plus.kp T.d_law_plus.b .nil pass0 (pa_cons (pv 2) (pa_cons (pe_call G_law_plus (hr.mono (by decide)) (by rfl) T.d_law_plus.g T.d_law_plus.kp T.d_law_plus.b .nil pass0 (pa_cons (pe_tup (pa_cons (pe_ix ix_tup (pe_ix ix_tup (pv 0) pe_int (fun _ _ => rfl)) (pv 4) (fun _ _ => rfl)) (pa_cons pe_int pa_nil))) (pa_cons (pe_tup (pa_cons (pe_op op_sub pe_int (pe_ix ix_tup (pe_ix ix_tup (pv 1) (pv 4) (fun _ _ => rfl)) pe_int (fun _ _ => rfl))) (pa_cons (pe_ix ix_tup (pe_ix ix_tup (pv 1) (pv 4) (fun _ _ => rfl)) pe_int (fun _ _ => rfl)) pa_nil))) pa_nil))) pa_nil))))
      (pss_cons (ps_if (PW.pt (pw_or (pt_cmpR op_lt (pe_ix ix_tup (pv 2) pe_int (fun _ _ => rfl)) pe_int (nomark _)) (pw_or1 (pt_val (pe_call G_law_less (hr.mono (by decide)) (by rfl) T.d_law_less.g T.d_law_less.kp T.d_law_less.b .nil pass0 (pa_cons (pe_tup (pa_cons (pe_ix ix_tup (pv 0) pe_int (fun _ _ => rfl)) (pa_cons pe_int pa_nil))) (pa_cons (pv 2) pa_nil))))))) (pss_one (ps_ret pe_non)) pss_nil)
      (pss_one (ps_expr (pe_bm PySem.F.plainAttrs_list PySem.F.slot_list_append PySem.F.type_list_append mt_append (pv 3) (pa_cons (pv 2) pa_nil)))))))
      (pss_one (ps_ret (pe_ifExp (pt_val (pe_call G_law_less (hr.mono (by decide)) (by rfl) T.d_law_less.g T.d_law_less.kp T.d_law_less.b .nil pass0 (pa_cons (pv 2) (pa_cons (pe_tup (pa_cons (pe_ix ix_tup (pv 0) pe_int (fun _ _ => rfl)) (pa_cons pe_int pa_nil))) pa_nil)))) pe_non (pv 3))))))), ?_⟩
    refine ⟨_, rfl, _, _, _, _, true, rfl, .ty _, .base (.tup hvs), kit_ty (by decide +kernel), _, rfl, iteF ?_⟩
    refine ⟨_, rfl, _, _, rfl, .inr (SqT.of hvs), _, rfl, _, _, _, _, rfl, rfl, SqT.of h, rfl, _, _, rfl, .inr (SqT.of hI), rfl, _, rfl, iteF' (neInt (by rw [List.length_map, hlen])) ?_⟩
    refine ⟨_, rfl, _, rfl, ⟨_, SqT.of hvs⟩, fun D nD => ?_⟩
    refine lc_tup (xs := vs) (fun i H2 => Same H H2 ∧ H2 D = some (.lst [])) ⟨same_new nD, upd_same⟩ (fun i H2 _ pw => SqT.of (pw.1 _ _ hvs)) (fun i x H2 hx pw => ?_) (fun H2 pw => ?_)
    · obtain ⟨s2, hD⟩ := pw
      obtain ⟨hi, c, rfl, hc⟩ := (hp.keep (.of s2)).at (s2 _ _ hvs) hx
      refine ⟨rfl, _, rfl, _, _, rfl, ⟨c, rfl, hc⟩, fun H3 s3 => ⟨_, rfl, iteF ?_⟩⟩
      exact ⟨_, rfl, _, _, _, _, rfl, rfl, SqT.of (s3 _ _ hc), rfl, _, _, rfl, rfl, _, rfl, iteF' (decide_eq_false (Int.not_lt.mpr (rok.r0 i hi))) ⟨s2.trans s3, s3 _ _ hD⟩⟩
    · obtain ⟨s2, hD⟩ := pw
      refine ⟨Nat.zero_le _, fun l nl => ?_⟩
      have s3 := same_new (o := .lst []) nl
      refine ⟨.list [], .list [], .lst (SqL.of (s3 _ _ hD)) .nil, .lst (SqL.of upd_same) .nil, rfl, rfl, _, rfl, iteF ?_⟩
      have s23 := s2.trans s3
      refine ⟨_, rfl, _, _, _, _, rfl, rfl, SqT.of (s23 _ _ h), rfl, by show 2 ≤ sizeLine; decide, fun p0 n0 => ?_⟩
      have s4 := s23.trans (same_new (o := .tup [.int st, .int 1]) n0)
      refine ⟨Nat.zero_le _, fun lf nf => ?_⟩
      have s5 := s4.trans (same_new (o := .lst []) nf)
      have nf0 := fresh_back s4 nf
      have hp0 := same_new (o := .lst []) nf _ _ (upd_same (a := p0) (o := .tup [.int st, .int 1]))
      refine ⟨_, _, rfl, _, rfl, _, _, rfl, .inr (SqT.of (s5 _ _ hvs)), _, rfl, by rw [hlen]; have := ok.l12; omega, by rw [hlen]; have := ok.l12; omega, ?_⟩
      rw [hlen, show ((ins.length : Nat) : Int).toNat = ins.length by omega]
      refine for_range (lo := 0) (n := ins.length) (fun i σ H' => Same H H' ∧ ∃ hv ls y z, Rat1 H' hv (lvr (inOf C st en ins) r i) ∧ H' lf = some (.lst ls) ∧ ls.length = i ∧ σ = [some (.ref a), some (.ref p), some hv, some (.ref lf), y, z])
        ⟨s5, .ref p0, [], _, _, ⟨p0, rfl, hp0⟩, upd_same, rfl, rfl⟩ (fun i σ H' hi pv => ?_) (fun σ H' pv => ?_)
      · obtain ⟨sm, hv, ls, y, z, ⟨ah, rfl, hh⟩, hls, ll, rfl⟩ := pv
        obtain ⟨v, hv1, c, rfl, hc⟩ := hall i hi
        have hcI : atI (ins.map V.int) (0 + (i : Int)) = some (.int (at0 ins i)) := atI_0 (at0_at hi)
        refine ⟨_, rfl, _, rfl, _, _, _, _, rfl, rfl, SqT.of (sm _ _ h), rfl, _, rfl, _, _, _, _, rfl, rfl, SqT.of (sm _ _ hI), hcI, by show 2 ≤ sizeLine; decide, fun p1 n1 => ?_⟩
        have t1 := same_new (o := .tup [.int (at0 ins i), .int 1]) n1
        have sm1 := sm.trans t1
        refine ⟨_, rfl, _, rfl, _, _, _, _, rfl, rfl, SqT.of (sm1 _ _ hvs), atI_0 hv1, _, _, _, _, rfl, rfl, SqT.of (sm1 _ _ hc), rfl, _, _, rfl, rfl, ?_⟩
        refine ⟨_, rfl, _, rfl, _, _, _, _, rfl, rfl, SqT.of (sm1 _ _ hvs), atI_0 hv1, _, _, _, _, rfl, rfl, SqT.of (sm1 _ _ hc), rfl, by show 2 ≤ sizeLine; decide, fun p2 n2 => ?_⟩
        have t2 := same_new (o := .tup [.int (0 - r i), .int 1]) n2
        refine ⟨_, _, _, _, rfl, t2 _ _ upd_same, upd_same, trivial, fun H4 p4 s4 n4 e4 => ?_⟩
        have t4 := (t1.trans t2).trans s4
        refine ⟨_, _, _, _, rfl, t4 _ _ hh, e4, trivial, fun H5 p5 s5 n5 e5 => ?_⟩
        have t5 := t4.trans s5
        have sm5 := sm.trans t5
        have ev : lvr (inOf C st en ins) r i + (at0 ins i + (0 - r i)) = lvr (inOf C st en ins) r (i + 1) := by
          show _ = lvr (inOf C st en ins) r i + at0 ins i - r i
          omega
        replace e5 : H5 p5 = some (.tup [.int (lvr (inOf C st en ins) r i + (at0 ins i + (0 - r i))), .int 1]) := e5
        rw [ev] at e5
        refine ⟨_, rfl, _, _, _, _, rfl, rfl, SqT.of e5, rfl, _, _, rfl, rfl, _, rfl, iteF' (decide_eq_false (Int.not_lt.mpr (rok.l0 i hi))) ?_⟩
        refine ⟨_, rfl, _, _, _, _, rfl, rfl, SqT.of (sm5 _ _ h), rfl, by show 2 ≤ sizeLine; decide, fun p6 n6 => ?_⟩
        have t6 := same_new (o := .tup [.int C, .int 1]) n6
        refine ⟨_, rfl, _, _, _, _, rfl, upd_same, t6 _ _ e5, _, rfl, iteF' (decide_eq_false (Int.not_lt.mpr (rok.l1 i hi))) ?_⟩
        have hls6 := t6 _ _ (t5 _ _ hls)
        refine ⟨_, rfl, .inl ⟨rfl, _, SqL.of hls6⟩, _, rfl, _, _, _, rfl, rfl, hls6, by rw [ll]; have := ok.l12; exact small1000 (by omega), ?_⟩
        refine ⟨fun c o hcc => ?_, _, ls ++ [.ref p5], _, _, ⟨p5, rfl, ?_⟩, upd_same, by simp [ll], rfl⟩
        · rw [upd_ne (ne_of_none hcc nf0)]
          exact t6 _ _ (sm5 _ _ hcc)
        · have h6 := t6 _ _ e5
          rw [upd_ne (ne_of h6 hls6 (by intro z; cases z))]
          exact h6
      · obtain ⟨sm, hv, ls, y, z, ⟨ah, rfl, hh⟩, hls, ll, rfl⟩ := pv
        refine ⟨_, rfl, _, rfl, _, _, _, _, rfl, rfl, SqT.of (sm _ _ h), rfl, by show 2 ≤ sizeLine; decide, fun p6 n6 => ?_⟩
        have t6 := same_new (o := .tup [.int en, .int 1]) n6
        refine ⟨_, _, _, _, rfl, t6 _ _ hh, upd_same, _, rfl, iteF' (decide_eq_false (Int.not_lt.mpr rok.le)) ?_⟩
        exact ⟨_, rfl, q _ lf (sm.trans t6)⟩
end
end DW
end

section
/-! the law's own worths and bounds -/
namespace DW
open PySem PySem.Spec PyProof.Rows L2
theorem isi_seq {K : PySem.W.Frag} {a : String} {b c : Bool} (h1 : kitB a "tuple" = some b) (h2 : kitB a "list" = some c) : PySem.W.kitAny K (.type a) [.type "tuple", .type "list"] = some (b || c) :=
  kitAny_cons (b := b) (kit_ty h1) (fun e => kitAny_cons (b := c) (kit_ty h2) (fun e2 => by rw [e, e2]; exact kitAny_nil) (fun e2 => by rw [e, e2]; rfl)) (fun e => by rw [e]; rfl)
theorem clsTL : Paired ClsV [.ty "tuple", .ty "list"] [.type "tuple", .type "list"] := .cons (.ty _) (.cons (.ty _) .nil)
section
variable {P : Program} {w : World} {K : PySem.W.Frag} {mg : Str → Option Value} {base : Heap}
theorem sc__law_worth : FnScope ["_law_worths_here", "_law_plan", "_law_found", "_law_k", "_law_rest", "_law_amount", "_law_price", "_law_share"] ["_law_worths_here", "_law_plan"] (defScope (topS 67)) := ⟨rfl, rfl, rfl, by decide +kernel, rfl, by decide +kernel, by decide +kernel⟩
def spWorth7 : Sp := fun vs H Q _ => ∃ b p ws r n, vs = [.ref b, .ref p] ∧ WorAt H b ws ∧ n ≤ 7 ∧ WorOk n ws ∧ RelAt H p n r ∧ ∀ H' u, Same H H' → Rat1 H' u (worthS ws r n) → Q u H'
theorem ok_law_worth (T : Txt K mg) : FnOk P w K mg base CX0 3 T.d_law_worth.f T.d_law_worth.fd ["_law_worths_here", "_law_plan"] spWorth7 := by
  have G_law_plus : FnOk P w K mg base CX0 2 T.d_law_plus.f T.d_law_plus.fd ["_law_one", "_law_other"] (spTwo (fun i j => i + j) fun _ _ => True) := ok_law_plus T
  have G_law_by : FnOk P w K mg base CX0 2 T.d_law_by.f T.d_law_by.fd ["_law_one", "_law_other"] (spTwo (fun i j => i * j) CMul) := ok_law_by T
  have G_law_less : FnOk P w K mg base CX0 1 T.d_law_less.f T.d_law_less.fd ["_law_one", "_law_other"] spLess := ok_law_less T
  refine T.d_law_worth.F.ok sc__law_worth (fun vs H Q E h => ?_) (fun A outer s H vs Q E hr h => ?_)
  · obtain ⟨b, p, ws, r, n, rfl, _⟩ := h
    rfl
  · obtain ⟨b, p, ws, r, n, rfl, ⟨vs, hvs, pr⟩, hn, ok, hp, q⟩ := h
    obtain ⟨rs, hrs, hlen, hall⟩ := id hp
    have hl := Paired.length pr
    refine ⟨_, (pss_cons (ps_set (i := 2) sc__law_worth.nd rfl (.inl rfl) (pe_tup (pa_cons pe_int (pa_cons pe_int pa_nil))))
      (pss_cons (ps_for PassesOwn.never rfl (pi_range1 (by rfl) T.n_range (pa_cons (pe_callB call_len_seq (by rfl) T.n_len PySem.boot_len (pa_cons (pv 1) pa_nil)) pa_nil)) (pg_name (i := 3) sc__law_worth.nd rfl (.inl rfl)) (pss_cons (ps_set (i := 4) sc__law_worth.nd rfl (.inl rfl) (pe_ix ix_tup (pv 1) (pv 3) (fun _ _ => rfl)))
      (pss_one (ps_for PassesOwn.never rfl (pi_tup (pe_ix ix_tup (pv 0) (pv 3) (fun _ _ => rfl))) (pg_tup rfl (pgs_cons (pg_name (i := 5) sc__law_worth.nd rfl (.inl rfl)) (pgs_cons (pg_name (i := 6) sc__law_worth.nd rfl (.inl rfl)) pgs_nil))) (Evl.pss_cut (ps_set (i := 7) sc__law_worth.nd rfl (.inl rfl) (pe_ifExp (pt_val (pe_call G_law_less (hr.mono (by decide)) (by rfl) T.d_law_less.g T.d_law_less.kp T.d_law_less.b .nil pass0 (pa_cons (pv 4) (pa_cons (pe_tup (pa_cons (pv 5) (pa_cons pe_int pa_nil))) pa_nil)))) (pv 4) (pe_tup (pa_cons (pv 5) (pa_cons pe_int pa_nil)))))
      (pss_cons (ps_set (i := 2) sc__law_worth.nd rfl (.inl rfl) (pe_call G_law_plus (hr.mono (by decide)) (by rfl) T.d_law_plus.g T.d_law_plus.kp T.d_law_plus.b .nil pass0 (pa_cons (pv 2) (pa_cons (pe_call G_law_by (hr.mono (by decide)) (by rfl) T.d_law_by.g T.d_law_by.kp T.d_law_by.b .nil pass0 (pa_cons (pv 7) (pa_cons (pe_tup (pa_cons (pv 6) (pa_cons pe_int pa_nil))) pa_nil))) pa_nil))))
      (pss_one (ps_set (i := 4) sc__law_worth.nd rfl (.inl rfl) (pe_call G_law_plus (hr.mono (by decide)) (by rfl) T.d_law_plus.g T.d_law_plus.kp T.d_law_plus.b .nil pass0 (pa_cons (pv 4) (pa_cons (pe_tup (pa_cons (pe_op op_sub pe_int (pe_ix ix_tup (pv 7) pe_int (fun _ _ => rfl))) (pa_cons (pe_ix ix_tup (pv 7) pe_int (fun _ _ => rfl)) pa_nil))) pa_nil)))))))))))
      (pss_one (ps_ret (pv 2))))), ?_⟩
    refine ⟨by show 2 ≤ sizeLine; decide, fun p0 n0 => ?_⟩
    have s0 := same_new (o := .tup [.int 0, .int 1]) n0
    refine ⟨_, rfl, _, _, rfl, .inr (SqT.of (s0 _ _ hrs)), _, rfl, by rw [hlen]; omega, by rw [hlen]; omega, ?_⟩
    rw [hlen, show ((n : Nat) : Int).toNat = n by omega]
    refine for_range (lo := 0) (n := n) (fun i σ H' => Same H H' ∧ ∃ f y1 y2 y3 y4 y5, Rat1 H' f (worthS ws r i) ∧ σ = [some (.ref b), some (.ref p), some f, y1, y2, y3, y4, y5])
      ⟨s0, .ref p0, _, _, _, _, _, ⟨p0, rfl, upd_same⟩, rfl⟩ (fun i σ H' hi pv => ?_) (fun σ H' pv => ?_)
    · obtain ⟨sm, f0, y1, y2, y3, y4, y5, hf0, rfl⟩ := pv
      obtain ⟨v, hv1, c, rfl, hc⟩ := hall i hi
      have hiv : i < vs.length := by have := ok.len; omega
      obtain ⟨ps, hps, hP⟩ := paired_at pr (List.getElem?_eq_getElem hiv)
      obtain ⟨ap, pvs, eap, hap, ppr⟩ := PcsAt.keep (.of sm) hP
      have hpl := Paired.length ppr
      have pok := ok.ok ps (List.mem_of_getElem? hps)
      have hpv : atI vs (0 + (i : Int)) = some (.ref ap) := by
        rw [← eap]
        exact atI_0 (List.getElem?_eq_getElem hiv)
      refine ⟨_, rfl, _, rfl, _, _, _, _, rfl, rfl, SqT.of (sm _ _ hrs), atI_0 hv1, ?_⟩
      refine ⟨_, rfl, _, rfl, _, _, _, _, rfl, rfl, SqT.of (sm _ _ hvs), hpv, _, rfl, ⟨_, SqT.of hap⟩, ?_⟩
      let W0 := worthS ws r i
      have es : worthS ws r (i + 1) = W0 + Dam.worth ps (r i) := by
        show Dam.P _ i + Dam.worth (wAt ws i) (r i) = _
        rw [wAt_is hps]
        rfl
      refine for_tup (xs := pvs) (fun j σ H2 => Same H' H2 ∧ ∃ f x F X z1 z2 z3, Rat1 H2 f F ∧ Rat1 H2 x X ∧ F + Dam.worth (ps.drop j) X = worthS ws r (i + 1) ∧ σ = [some (.ref b), some (.ref p), some f, some (.int (0 + (i : Int))), some x, z1, z2, z3])
        ⟨.refl _, f0, .ref c, _, _, _, _, _, hf0, ⟨c, rfl, sm _ _ hc⟩, es.symm, rfl⟩ (fun j σ H2 _ pw => SqT.of (pw.1 _ _ hap)) (fun j x σ H2 hx pw => ?_) (fun σ H2 pw => ?_)
      · obtain ⟨s2, f, x2, F, X, z1, z2, z3, ⟨af, rfl, hf⟩, ⟨ax, rfl, hX⟩, eq, rfl⟩ := pw
        obtain ⟨⟨A1, w1⟩, hq, hQ⟩ := paired_at ppr hx
        obtain ⟨at_, rfl, ht⟩ := PcAt.keep (.of s2) hQ
        have hm := List.mem_of_getElem? hq
        have hw := pok.p.pos _ hm
        have hw2 := pok.hi _ hm
        refine ⟨_, _, rfl, SqT.of ht, rfl, _, _, rfl, _, _, rfl, rfl, ?_⟩
        refine ⟨fun σ3 H3 => Same H2 H3 ∧ ∃ as, H3 as = some (.tup [.int (if X < A1 then X else A1), .int 1]) ∧ σ3 = [some (.ref b), some (.ref p), some (.ref af), some (.int (0 + (i : Int))), some (.ref ax), some (.int A1), some (.int w1), some (.ref as)], ?_, fun σ3 H3 hmid => ?_⟩
        · refine ⟨_, rfl, _, rfl, by show 2 ≤ sizeLine; decide, fun p1 n1 => ?_⟩
          have t1 := same_new (o := .tup [.int A1, .int 1]) n1
          refine ⟨_, _, _, _, rfl, t1 _ _ hX, upd_same, _, rfl, ?_⟩
          by_cases hlt : X < A1
          · refine iteT' (decide_eq_true hlt) ⟨_, rfl, t1, ax, ?_, rfl⟩
            rw [if_pos hlt]
            exact t1 _ _ hX
          · refine iteF' (decide_eq_false hlt) ⟨_, rfl, by show 2 ≤ sizeLine; decide, fun p2 n2 => ?_⟩
            refine ⟨t1.trans (same_new n2), p2, ?_, rfl⟩
            rw [if_neg hlt]
            exact upd_same
        · obtain ⟨s3, as, has, rfl⟩ := hmid
          generalize hsh : (if X < A1 then X else A1) = sh at has
          refine ⟨_, rfl, _, rfl, _, rfl, by show 2 ≤ sizeLine; decide, fun p4 n4 => ?_⟩
          have s4 := same_new (o := .tup [.int w1, .int 1]) n4
          have t4 := s3.trans s4
          have has4 := s4 _ _ has
          refine ⟨_, _, _, _, rfl, has4, upd_same, .inr ⟨by have : (1 : Int) ≤ w1 := hw.2; omega, by have : w1 ≤ (1000 : Int) := hw2.2; omega⟩, fun H5 p5 s5 n5 e5 => ?_⟩
          have t5 := t4.trans s5
          refine ⟨_, _, _, _, rfl, t5 _ _ hf, e5, trivial, fun H6 p6 s6 n6 e6 => ?_⟩
          have t6 := t5.trans s6
          have has6 := s6 _ _ (s5 _ _ has4)
          refine ⟨_, rfl, _, rfl, _, _, _, _, rfl, rfl, SqT.of has6, rfl, _, _, rfl, rfl, _, rfl, _, _, _, _, rfl, rfl, SqT.of has6, rfl, by show 2 ≤ sizeLine; decide, fun p7 n7 => ?_⟩
          have s7 := same_new (o := .tup [.int (0 - sh), .int 1]) n7
          refine ⟨_, _, _, _, rfl, s7 _ _ (t6 _ _ hX), upd_same, trivial, fun H8 p8 s8 n8 e8 => ?_⟩
          refine ⟨s2.trans ((t6.trans s7).trans s8), _, _, _, X + (0 - sh), _, _, _, ⟨p6, rfl, s8 _ _ (s7 _ _ e6)⟩, ⟨p8, rfl, e8⟩, ?_, rfl⟩
          rw [drop_cons hq, worth_step, hsh] at eq
          rw [← eq, show X + (0 - sh) = X - sh by omega, Int.add_assoc]
      · obtain ⟨s2, f, x2, F, X, z1, z2, z3, hf, _, eq, rfl⟩ := pw
        rw [hpl, List.drop_length] at eq
        have e : F = worthS ws r (i + 1) := by
          rw [← eq]
          exact (Int.add_zero F).symm
        rw [e] at hf
        exact ⟨sm.trans s2, _, _, _, _, _, _, hf, rfl⟩
    · obtain ⟨sm, f0, y1, y2, y3, y4, y5, hf0, rfl⟩ := pv
      exact ⟨_, rfl, q H' f0 sm hf0⟩
theorem sc__law_bound : FnScope ["_law_dam_here", "_law_worths_here", "_law_prices", "_law_found", "_law_k", "_law_amount", "_law_price"] ["_law_dam_here", "_law_worths_here", "_law_prices"] (defScope (topS 68)) := ⟨rfl, rfl, rfl, by decide +kernel, rfl, by decide +kernel, by decide +kernel⟩
def bndS (C s e : Int) (ins : List Int) (ws : List (List Dam.Pc)) (p : Nat → Int) : Int := s * p 0 - e * p (ins.length - 1) + Dam.Data.bnd (dataOf C s e ins ws) p ins.length
def spBound : Sp := fun vs H Q _ => ∃ (a b c : Addr) (C s e : Int) (ins : List Int) (ws : List (List Dam.Pc)) (p : Nat → Int), vs = [.ref a, .ref b, .ref c] ∧ ArgsOk H a b C s e ins ws ∧ H c = some (.tup (tabV ins.length p)) ∧ ∀ H', Same H H' → Q (.int (bndS C s e ins ws p)) H'
theorem mul_lo {x y : Int} (h0 : 0 ≤ x) (h1 : x ≤ 1000) : (-(2 ^ 64) < x ∧ x < 2 ^ 64) ∨ (-(2 ^ 64) < y ∧ y < 2 ^ 64) := .inl ⟨by omega, by omega⟩
theorem ok_law_bound (T : Txt K mg) : FnOk P w K mg base CX0 1 T.d_law_bound.f T.d_law_bound.fd ["_law_dam_here", "_law_worths_here", "_law_prices"] spBound := by
  refine T.d_law_bound.F.ok sc__law_bound (fun vs H Q E h => ?_) (fun A outer s H vs Q E hr h => ?_)
  · obtain ⟨a, b, c, C, s, e, ins, ws, p, rfl, _⟩ := h
    rfl
  · obtain ⟨a, b, c, C, st, en, ins, ws, p, rfl, ao, hc, q⟩ := h
    obtain ⟨bi, h, hI⟩ := ao.d
    obtain ⟨vs, hvs, pr⟩ := ao.w
    have ok := ao.ok
    have wok := ao.wok
    have hl := Paired.length pr
    let D := dataOf C st en ins ws
    obtain ⟨m, hm⟩ : ∃ m, ins.length = m + 1 := ⟨ins.length - 1, by have := ok.l1; omega⟩
    refine ⟨_, (pss_cons (ps_set (i := 3) sc__law_bound.nd rfl (.inl rfl) (pe_op op_sub (pe_op op_mul (pe_ix ix_tup (pv 0) pe_int (fun _ _ => rfl)) (pe_ix ix_tup (pv 2) pe_int (fun _ _ => rfl))) (pe_op op_mul (pe_ix ix_tup (pv 0) pe_int (fun _ _ => rfl)) (pe_ix ix_tup (pv 2) (pe_un un_neg pe_int) (fun _ _ => rfl)))))
      (pss_cons (ps_for PassesOwn.never rfl (pi_range1 (by rfl) T.n_range (pa_cons (pe_callB call_len_seq (by rfl) T.n_len PySem.boot_len (pa_cons (pv 2) pa_nil)) pa_nil)) (pg_name (i := 4) sc__law_bound.nd rfl (.inl rfl)) (pss_cons (ps_set (i := 3) sc__law_bound.nd rfl (.inl rfl) (pe_op op_add (pv 3) (pe_op op_mul (pe_ix ix_tup (pe_ix ix_tup (pv 0) pe_int (fun _ _ => rfl)) (pv 4) (fun _ _ => rfl)) (pe_ix ix_tup (pv 2) (pv 4) (fun _ _ => rfl)))))
      (pss_cons (ps_for PassesOwn.never rfl (pi_tup (pe_ix ix_tup (pv 1) (pv 4) (fun _ _ => rfl))) (pg_tup rfl (pgs_cons (pg_name (i := 5) sc__law_bound.nd rfl (.inl rfl)) (pgs_cons (pg_name (i := 6) sc__law_bound.nd rfl (.inl rfl)) pgs_nil))) (pss_one (ps_set (i := 3) sc__law_bound.nd rfl (.inl rfl) (pe_op op_add (pv 3) (pe_op op_mul (pv 5) (pe_callB (call_max2 rfl) (by rfl) T.n_max (by decide +kernel) (pa_cons pe_int (pa_cons (pe_op op_sub (pv 6) (pe_ix ix_tup (pv 2) (pv 4) (fun _ _ => rfl))) pa_nil))))))))
      (pss_one (ps_if (pt_cmpR op_gt (pv 4) pe_int (nomark _)) (pss_one (ps_set (i := 3) sc__law_bound.nd rfl (.inl rfl) (pe_op op_add (pv 3) (pe_op op_mul (pe_ix ix_tup (pv 0) pe_int (fun _ _ => rfl)) (pe_callB (call_max2 rfl) (by rfl) T.n_max (by decide +kernel) (pa_cons pe_int (pa_cons (pe_op op_sub (pe_ix ix_tup (pv 2) (pv 4) (fun _ _ => rfl)) (pe_ix ix_tup (pv 2) (pe_op op_sub (pv 4) pe_int) (fun _ _ => rfl))) pa_nil))))))) pss_nil)))))
      (pss_one (ps_ret (pv 3))))), ?_⟩
    have hlast : atI (tabV ins.length p) (-1) = some (.int (p (ins.length - 1))) := by
      rw [hm]
      exact atI_m1 (tabV_len _ _) (tabV_at _ (Nat.lt_succ_self m))
    have h00 : atI (tabV ins.length p) 0 = some (.int (p 0)) := atI_nat (j := 0) (tabV_at _ (by omega))
    refine ⟨_, rfl, _, _, _, _, rfl, rfl, SqT.of h, rfl, _, rfl, _, _, _, _, rfl, rfl, SqT.of hc, h00, _, _, rfl, rfl, mul_lo ok.s0 (by have := ok.s1; have := ok.C1; omega), ?_⟩
    refine ⟨_, rfl, _, _, _, _, rfl, rfl, SqT.of h, rfl, _, rfl, _, rfl, _, _, _, _, rfl, rfl, SqT.of hc, hlast, _, _, rfl, rfl, mul_lo ok.e0 (by have := ok.e1; have := ok.C1; omega), _, _, rfl, rfl, ?_⟩
    refine ⟨_, rfl, _, _, rfl, .inr (SqT.of hc), _, rfl, by rw [tabV_len]; omega, by rw [tabV_len]; have := ok.l12; omega, ?_⟩
    rw [tabV_len, show ((ins.length : Nat) : Int).toNat = ins.length by omega]
    let B0 := st * p 0 - en * p (ins.length - 1)
    refine for_range (lo := 0) (n := ins.length) (fun i σ H' => H' = H ∧ ∃ y1 y2 y3, σ = [some (.ref a), some (.ref b), some (.ref c), some (.int (B0 + D.bnd p i)), y1, y2, y3])
      ⟨rfl, _, _, _, by
        show _ = [some (V.ref a), some (V.ref b), some (V.ref c), some (V.int (B0 + 0)), none, none, none]
        rw [Int.add_zero]
        rfl⟩ (fun i σ H' hi pv => ?_) (fun σ H' pv => ?_)
    · obtain ⟨rfl, y1, y2, y3, rfl⟩ := pv
      have hiv : i < vs.length := by have := wok.len; omega
      obtain ⟨ps, hps, ap, pvs, eap, hap, ppr⟩ := paired_at pr (List.getElem?_eq_getElem hiv)
      have hpl := Paired.length ppr
      have pok := wok.ok ps (List.mem_of_getElem? hps)
      have hpv : atI vs (0 + (i : Int)) = some (.ref ap) := by
        rw [← eap]
        exact atI_0 (List.getElem?_eq_getElem hiv)
      have hfl := ok.fl (at0 ins i) (by
        unfold at0
        rw [List.getD_eq_getElem?_getD, List.getElem?_eq_getElem hi]
        exact List.getElem_mem hi)
      have ha : atI (ins.map V.int) (0 + (i : Int)) = some (.int (at0 ins i)) := atI_0 (at0_at hi)
      have hpi : atI (tabV ins.length p) (0 + (i : Int)) = some (.int (p i)) := atI_0 (tabV_at _ hi)
      refine ⟨_, rfl, _, rfl, _, _, _, _, rfl, rfl, SqT.of h, rfl, _, rfl, _, _, _, _, rfl, rfl, SqT.of hI, ha, ?_⟩
      refine ⟨_, rfl, _, rfl, _, _, _, _, rfl, rfl, SqT.of hc, hpi, _, _, rfl, rfl, mul_lo hfl.1 hfl.2, _, _, rfl, rfl, ?_⟩
      refine ⟨_, rfl, _, rfl, _, _, _, _, rfl, rfl, SqT.of hvs, hpv, _, rfl, ⟨_, SqT.of hap⟩, ?_⟩
      let B1 := B0 + D.bnd p i + at0 ins i * p i
      refine for_tup (xs := pvs) (fun j σ H2 => H2 = H' ∧ ∃ F z1 z2, F + Dam.over (p i) (ps.drop j) = B1 + Dam.over (p i) ps ∧ σ = [some (.ref a), some (.ref b), some (.ref c), some (.int F), some (.int (0 + (i : Int))), z1, z2])
        ⟨rfl, B1, _, _, rfl, rfl⟩ (fun j σ H2 _ pw => by rw [pw.1]; exact SqT.of hap) (fun j x σ H2 hx pw => ?_) (fun σ H2 pw => ?_)
      · obtain ⟨rfl, F, z1, z2, eq, rfl⟩ := pw
        obtain ⟨⟨A1, w1⟩, hq, at_, rfl, ht⟩ := paired_at ppr hx
        have hm := List.mem_of_getElem? hq
        have hw := pok.p.pos _ hm
        have hw2 := pok.hi _ hm
        refine ⟨_, _, rfl, SqT.of ht, rfl, _, _, rfl, _, _, rfl, rfl, ?_⟩
        refine ⟨_, rfl, _, rfl, _, rfl, _, rfl, _, rfl, _, _, _, _, rfl, rfl, SqT.of hc, hpi, _, _, rfl, rfl, _, _, rfl, _, _, rfl, rfl, mul_lo (by have : (1 : Int) ≤ A1 := hw.1; omega) hw2.1, _, _, rfl, rfl, rfl, F + A1 * Dam.pmax 0 (w1 - p i), _, _, ?_, rfl⟩
        rw [drop_cons hq] at eq
        rw [← eq]
        show F + A1 * Dam.pmax 0 (w1 - p i) + Dam.over (p i) (ps.drop (j + 1)) = F + (A1 * Dam.pmax 0 (w1 - p i) + Dam.over (p i) (ps.drop (j + 1)))
        rw [Int.add_assoc]
      · obtain ⟨rfl, F, z1, z2, eq, rfl⟩ := pw
        rw [hpl, List.drop_length] at eq
        have e : F = B1 + Dam.over (p i) ps := by
          rw [← eq]
          exact (Int.add_zero F).symm
        have ebnd : D.bnd p (i + 1) = D.bnd p i + (at0 ins i * p i + Dam.over (p i) ps + (if i > 0 then C * Dam.pmax 0 (p i - p (i - 1)) else 0)) := by
          show D.bnd p i + (at0 ins i * p i + Dam.over (p i) (wAt ws i) + _) = _
          rw [wAt_is hps]
          rfl
        refine ⟨_, rfl, _, _, rfl, rfl, _, rfl, ?_⟩
        by_cases hi0 : i > 0
        · refine iteT' (decide_eq_true (by omega)) ?_
          have hp1 : atI (tabV ins.length p) (0 + (i : Int) - 1) = some (.int (p (i - 1))) := by
            rw [show (0 : Int) + (i : Int) - 1 = ((i - 1 : Nat) : Int) by omega]
            exact atI_nat (tabV_at _ (by omega))
          rw [if_pos hi0] at ebnd
          refine ⟨_, rfl, _, rfl, _, _, _, _, rfl, rfl, SqT.of h, rfl, ?_⟩
          refine ⟨_, rfl, _, rfl, _, _, _, _, rfl, rfl, SqT.of hc, hpi, _, rfl, _, rfl, _, _, rfl, rfl, _, _, _, _, rfl, rfl, SqT.of hc, hp1, _, _, rfl, rfl, _, _, rfl, _, _, rfl, rfl, mul_lo ok.C0 ok.C1, _, _, rfl, rfl, rfl, some (.int (0 + (i : Int))), z1, z2, ?_⟩
          rw [ebnd, e]
          show [some (V.ref a), some (V.ref b), some (V.ref c), some (V.int (B0 + D.bnd p i + at0 ins i * p i + Dam.over (p i) ps + C * Dam.pmax 0 (p i - p (i - 1)))), some (.int (0 + (i : Int))), z1, z2] = _
          rw [show B0 + D.bnd p i + at0 ins i * p i + Dam.over (p i) ps + C * Dam.pmax 0 (p i - p (i - 1)) = B0 + (D.bnd p i + (at0 ins i * p i + Dam.over (p i) ps + C * Dam.pmax 0 (p i - p (i - 1)))) by omega]
        · refine iteF' (decide_eq_false (by omega)) ⟨rfl, some (.int (0 + (i : Int))), z1, z2, ?_⟩
          rw [if_neg hi0] at ebnd
          rw [ebnd, e]
          rw [show B1 + Dam.over (p i) ps = B0 + (D.bnd p i + (at0 ins i * p i + Dam.over (p i) ps + 0)) by omega]
    · obtain ⟨rfl, y1, y2, y3, rfl⟩ := pv
      exact ⟨_, rfl, q _ (.refl _)⟩
theorem sc__law_are_prices : FnScope ["_law_dam_here", "_law_value", "_law_one"] ["_law_dam_here", "_law_value"] (defScope (topS 69)) := ⟨rfl, rfl, rfl, by decide +kernel, rfl, by decide +kernel, by decide +kernel⟩
def spAreV : Sp := fun vs H Q _ => ∃ (a c : Addr) (C s e : Int) (ins : List Int) (p : Nat → Int), vs = [.ref a, .ref c] ∧ DamAt H a C s e ins ∧ ins.length ≤ 7 ∧ H c = some (.tup (tabV ins.length p)) ∧ (∀ k, k < ins.length → 0 ≤ p k) ∧ ∀ H', Same H H' → Q (.bl true) H'
theorem ok_law_are_prices (T : Txt K mg) : FnOk P w K mg base CX0 1 T.d_law_are_prices.f T.d_law_are_prices.fd ["_law_dam_here", "_law_value"] spAreV := by
  refine T.d_law_are_prices.F.ok sc__law_are_prices (fun vs H Q E h => ?_) (fun A outer s H vs Q E hr h => ?_)
  · obtain ⟨a, c, C, s, e, ins, p, rfl, _⟩ := h
    rfl
  · obtain ⟨a, c, C, st, en, ins, p, rfl, ⟨b, h, hI⟩, h7, hc, hp, q⟩ := h
    refine ⟨_, (pss_cons (ps_if (PW.pt (pw_or (pt_not (pt_val (pe_callB call_isi (by rfl) T.n_isinstance (by decide +kernel) (pa_cons (pv 1) (pa_cons (pe_bltn (v := .ty "tuple") (by rfl) T.n_tuple (by decide +kernel) rfl) pa_nil))))) (pw_or1 (pt_cmpR op_ne (pe_callB call_len_seq (by rfl) T.n_len PySem.boot_len (pa_cons (pv 1) pa_nil)) (pe_callB call_len_seq (by rfl) T.n_len PySem.boot_len (pa_cons (pe_ix ix_tup (pv 0) pe_int (fun _ _ => rfl)) pa_nil)) (nomark _))))) (pss_one (ps_ret pe_bl)) pss_nil)
      (pss_one (ps_ret (pe_cmpR (op_eqD hr.units) (pe_lc (own := [("_law_one", 2)]) rfl sc__law_are_prices.nd (pi_tup (pv 1)) (blkOk_by (N := ["_law_dam_here", "_law_value", "_law_one"]) (sc := defScope (topS 69)) (by decide +kernel)) (fun _ _ _ _ _ => (pg_name (i := 2) sc__law_are_prices.nd rfl (.inl rfl))) (fun _ _ _ _ _ => (pts_one (PW.pt (pw_or (pt_not (pt_val (pe_callB (isiK (K := K) rfl) (by rfl) T.n_isinstance (by decide +kernel) (pa_cons (pv 2) (pa_cons (pe_bltn (v := .ty "int") (by rfl) T.n_int (by decide +kernel) rfl) pa_nil))))) (pw_or (pt_val (pe_callB (isiK (K := K) rfl) (by rfl) T.n_isinstance (by decide +kernel) (pa_cons (pv 2) (pa_cons (pe_bltn (v := .ty "bool") (by rfl) T.n_bool (by decide +kernel) rfl) pa_nil)))) (pw_or1 (pt_cmpR op_lt (pv 2) pe_int (nomark _)))))))) (fun _ _ _ _ _ => (pv 2))) (pe_lst pa_nil) (nomark _))))), ?_⟩
    refine ⟨_, rfl, _, _, _, _, true, rfl, .ty _, .base (.tup hc), kit_ty (by decide +kernel), _, rfl, iteF ?_⟩
    refine ⟨_, rfl, _, _, rfl, .inr (SqT.of hc), _, rfl, _, _, _, _, rfl, rfl, SqT.of h, rfl, _, _, rfl, .inr (SqT.of hI), rfl, _, rfl, iteF' (neInt (by rw [List.length_map, tabV_len])) ?_⟩
    refine ⟨_, rfl, _, rfl, ⟨_, SqT.of hc⟩, fun D nD => ?_⟩
    refine lc_tup (xs := tabV ins.length p) (fun i H2 => Same H H2 ∧ H2 D = some (.lst [])) ⟨same_new nD, upd_same⟩ (fun i H2 _ pw => SqT.of (pw.1 _ _ hc)) (fun i x H2 hx pw => ?_) (fun H2 pw => ?_)
    · obtain ⟨hi, rfl⟩ := tabV_is hx
      refine ⟨rfl, _, rfl, _, _, _, _, true, rfl, .ty _, .base (.int _), kit_ty (by decide +kernel), _, rfl, iteF ?_⟩
      refine ⟨_, rfl, _, _, _, _, false, rfl, .ty _, .base (.int _), kit_ty (by decide +kernel), _, rfl, iteF ?_⟩
      exact ⟨_, rfl, _, _, rfl, rfl, _, rfl, iteF' (decide_eq_false (Int.not_lt.mpr (hp i hi))) pw⟩
    · obtain ⟨s2, hD⟩ := pw
      refine ⟨Nat.zero_le _, fun l nl => ?_⟩
      have s3 := same_new (o := .lst []) nl
      refine ⟨.list [], .list [], .lst (SqL.of (s3 _ _ hD)) .nil, .lst (SqL.of upd_same) .nil, rfl, rfl, ?_⟩
      exact q _ (s2.trans s3)
theorem sc__law_alike : FnScope ["_law_found", "_law_due", "_law_k"] ["_law_found", "_law_due"] (defScope (topS 52)) := ⟨rfl, rfl, rfl, by decide +kernel, rfl, by decide +kernel, by decide +kernel⟩
def spAl0 : Sp := fun vs H Q _ => ∃ i : Int, vs = [.int i, .int i] ∧ ∀ H', Same H H' → Q (.bl true) H'
theorem ok_law_alike0 (T : Txt K mg) : FnOk P w K mg base CX0 1 T.d_law_alike.f T.d_law_alike.fd ["_law_found", "_law_due"] spAl0 := by
  refine T.d_law_alike.F.ok sc__law_alike (fun vs H Q E h => ?_) (fun A outer s H vs Q E hr h => ?_)
  · obtain ⟨i, rfl, _⟩ := h
    rfl
  · obtain ⟨i, rfl, q⟩ := h
    refine ⟨_, (pss_cons (ps_if (pt_val (pe_callB call_isiT (by rfl) T.n_isinstance (by decide +kernel) (pa_cons (pv 1) (pa_cons (pe_tup (pa_cons (pe_bltn (v := .ty "tuple") (by rfl) T.n_tuple (by decide +kernel) rfl) (pa_cons (pe_bltn (v := .ty "list") (by rfl) T.n_list (by decide +kernel) rfl) pa_nil))) pa_nil)))) (pss_cons ps_never (pss_cons ps_never (pss_one ps_never))) pss_nil)
      (pss_cons (ps_if (PW.pt (pw_or (pt_cmpR op_isN (pv 1) pe_non (nomark _)) (pw_or1 (pt_val (pe_callB call_isi (by rfl) T.n_isinstance (by decide +kernel) (pa_cons (pv 1) (pa_cons (pe_bltn (v := .ty "str") (by rfl) T.n_str (by decide +kernel) rfl) pa_nil))))))) (pss_one (ps_ret (pe_and (pe_cmpR op_eq (pv 0) (pv 1) (nomark _)) (pe_one (pe_cmpR op_eq (pe_callB call_isi (by rfl) T.n_isinstance (by decide +kernel) (pa_cons (pv 0) (pa_cons (pe_bltn (v := .ty "str") (by rfl) T.n_str (by decide +kernel) rfl) pa_nil))) (pe_callB call_isi (by rfl) T.n_isinstance (by decide +kernel) (pa_cons (pv 1) (pa_cons (pe_bltn (v := .ty "str") (by rfl) T.n_str (by decide +kernel) rfl) pa_nil))) (nomark _)))))) pss_nil)
      (pss_one (ps_ret (pe_and (pe_callB call_isi (by rfl) T.n_isinstance (by decide +kernel) (pa_cons (pv 0) (pa_cons (pe_bltn (v := .ty "int") (by rfl) T.n_int (by decide +kernel) rfl) pa_nil))) (pe_and (pe_cmpR op_eq (pe_callB call_isi (by rfl) T.n_isinstance (by decide +kernel) (pa_cons (pv 0) (pa_cons (pe_bltn (v := .ty "bool") (by rfl) T.n_bool (by decide +kernel) rfl) pa_nil))) (pe_callB call_isi (by rfl) T.n_isinstance (by decide +kernel) (pa_cons (pv 1) (pa_cons (pe_bltn (v := .ty "bool") (by rfl) T.n_bool (by decide +kernel) rfl) pa_nil))) (nomark _)) (pe_one (pe_cmpR op_eq (pv 0) (pv 1) (nomark _))))))))), ?_⟩
    refine ⟨_, rfl, by show 2 ≤ sizeLine; decide, fun tp nt => ?_⟩
    have s1 := same_new (o := .tup [.ty "tuple", .ty "list"]) nt
    refine ⟨_, _, _, _, _, false, rfl, upd_same, clsTL, .base (.int _), isi_seq (b := false) (c := false) (by decide +kernel) (by decide +kernel), _, rfl, iteF ?_⟩
    refine ⟨_, rfl, rfl, _, rfl, iteF' (decide_eq_false (by intro z; cases z)) ?_⟩
    refine ⟨_, rfl, _, _, _, _, false, rfl, .ty _, .base (.int _), kit_ty (by decide +kernel), _, rfl, iteF ?_⟩
    refine ⟨_, rfl, _, _, _, _, true, rfl, .ty _, .base (.int _), kit_ty (by decide +kernel), _, rfl, iteT ?_⟩
    refine ⟨_, rfl, _, _, _, _, false, rfl, .ty _, .base (.int _), kit_ty (by decide +kernel), ?_⟩
    refine ⟨_, rfl, _, _, _, _, false, rfl, .ty _, .base (.int _), kit_ty (by decide +kernel), rfl, _, rfl, iteT' (decide_eq_true rfl) ?_⟩
    refine ⟨_, rfl, _, rfl, rfl, ?_⟩
    rw [eqInt rfl]
    exact q _ s1
def spAl1 : Sp := fun vs H Q _ => ∃ v u k, vs = [v, u] ∧ Rat1 H v k ∧ Rat1 H u k ∧ ∀ H', Same H H' → Q (.bl true) H'
theorem ok_law_alike1 (T : Txt K mg) : FnOk P w K mg base CX0 2 T.d_law_alike.f T.d_law_alike.fd ["_law_found", "_law_due"] spAl1 := by
  have G_law_alike : FnOk P w K mg base CX0 1 T.d_law_alike.f T.d_law_alike.fd ["_law_found", "_law_due"] spAl0 := ok_law_alike0 T
  refine T.d_law_alike.F.ok sc__law_alike (fun vs H Q E h => ?_) (fun A outer s H vs Q E hr h => ?_)
  · obtain ⟨v, u, k, rfl, _⟩ := h
    rfl
  · obtain ⟨v, u, k, rfl, ⟨a, rfl, ha⟩, ⟨b, rfl, hb⟩, q⟩ := h
    refine ⟨_, (pss_cons (ps_if (pt_val (pe_callB call_isiT (by rfl) T.n_isinstance (by decide +kernel) (pa_cons (pv 1) (pa_cons (pe_tup (pa_cons (pe_bltn (v := .ty "tuple") (by rfl) T.n_tuple (by decide +kernel) rfl) (pa_cons (pe_bltn (v := .ty "list") (by rfl) T.n_list (by decide +kernel) rfl) pa_nil))) pa_nil)))) (pss_cons (ps_if (PW.pt (pw_or (pt_not (pt_val (pe_callB call_isiT (by rfl) T.n_isinstance (by decide +kernel) (pa_cons (pv 0) (pa_cons (pe_tup (pa_cons (pe_bltn (v := .ty "tuple") (by rfl) T.n_tuple (by decide +kernel) rfl) (pa_cons (pe_bltn (v := .ty "list") (by rfl) T.n_list (by decide +kernel) rfl) pa_nil))) pa_nil))))) (pw_or1 (pt_cmpR op_ne (pe_callB call_isi (by rfl) T.n_isinstance (by decide +kernel) (pa_cons (pv 0) (pa_cons (pe_bltn (v := .ty "list") (by rfl) T.n_list (by decide +kernel) rfl) pa_nil))) (pe_callB call_isi (by rfl) T.n_isinstance (by decide +kernel) (pa_cons (pv 1) (pa_cons (pe_bltn (v := .ty "list") (by rfl) T.n_list (by decide +kernel) rfl) pa_nil))) (nomark _))))) (pss_one (ps_ret pe_bl)) pss_nil)
      (pss_cons (ps_if (pt_cmpR op_ne (pe_callB call_len_seq (by rfl) T.n_len PySem.boot_len (pa_cons (pv 0) pa_nil)) (pe_callB call_len_seq (by rfl) T.n_len PySem.boot_len (pa_cons (pv 1) pa_nil)) (nomark _)) (pss_one (ps_ret pe_bl)) pss_nil)
      (pss_one (ps_ret (pe_cmpR (op_eqD hr.units) (pe_lc (own := [("_law_k", 2)]) rfl sc__law_alike.nd (pi_range1 (by rfl) T.n_range (pa_cons (pe_callB call_len_seq (by rfl) T.n_len PySem.boot_len (pa_cons (pv 1) pa_nil)) pa_nil)) (blkOk_by (N := ["_law_found", "_law_due", "_law_k"]) (sc := defScope (topS 52)) (by decide +kernel)) (fun _ _ _ _ _ => (pg_name (i := 2) sc__law_alike.nd rfl (.inl rfl))) (fun _ _ _ _ _ => (pts_one (pt_not (pt_val (pe_call G_law_alike (hr.mono (by decide)) (by rfl) T.d_law_alike.g T.d_law_alike.kp T.d_law_alike.b .nil pass0 (pa_cons (pe_ix (ixTK (K := K) rfl) (pv 0) (pv 2) (fun _ _ => rfl)) (pa_cons (pe_ix (ixTK (K := K) rfl) (pv 1) (pv 2) (fun _ _ => rfl)) pa_nil))))))) (fun _ _ _ _ _ => (pv 2))) (pe_lst pa_nil) (nomark _)))))) pss_nil)
      (pss_cons (ps_if (PW.pt (pw_or (pt_cmpR op_isN (pv 1) pe_non (nomark _)) (pw_or1 (pt_val (pe_callB call_isi (by rfl) T.n_isinstance (by decide +kernel) (pa_cons (pv 1) (pa_cons (pe_bltn (v := .ty "str") (by rfl) T.n_str (by decide +kernel) rfl) pa_nil))))))) (pss_one (ps_ret (pe_and (pe_cmpR op_eq (pv 0) (pv 1) (nomark _)) (pe_one (pe_cmpR op_eq (pe_callB call_isi (by rfl) T.n_isinstance (by decide +kernel) (pa_cons (pv 0) (pa_cons (pe_bltn (v := .ty "str") (by rfl) T.n_str (by decide +kernel) rfl) pa_nil))) (pe_callB call_isi (by rfl) T.n_isinstance (by decide +kernel) (pa_cons (pv 1) (pa_cons (pe_bltn (v := .ty "str") (by rfl) T.n_str (by decide +kernel) rfl) pa_nil))) (nomark _)))))) pss_nil)
      (pss_one (ps_ret (pe_and (pe_callB call_isi (by rfl) T.n_isinstance (by decide +kernel) (pa_cons (pv 0) (pa_cons (pe_bltn (v := .ty "int") (by rfl) T.n_int (by decide +kernel) rfl) pa_nil))) (pe_and (pe_cmpR op_eq (pe_callB call_isi (by rfl) T.n_isinstance (by decide +kernel) (pa_cons (pv 0) (pa_cons (pe_bltn (v := .ty "bool") (by rfl) T.n_bool (by decide +kernel) rfl) pa_nil))) (pe_callB call_isi (by rfl) T.n_isinstance (by decide +kernel) (pa_cons (pv 1) (pa_cons (pe_bltn (v := .ty "bool") (by rfl) T.n_bool (by decide +kernel) rfl) pa_nil))) (nomark _)) (pe_one (pe_cmpR op_eq (pv 0) (pv 1) (nomark _))))))))), ?_⟩
    refine ⟨_, rfl, by show 2 ≤ sizeLine; decide, fun tp nt => ?_⟩
    have s1 := same_new (o := .tup [.ty "tuple", .ty "list"]) nt
    refine ⟨_, _, _, _, _, true, rfl, upd_same, clsTL, .base (.tup (s1 _ _ hb)), isi_seq (b := true) (c := false) (by decide +kernel) (by decide +kernel), _, rfl, iteT ?_⟩
    refine ⟨_, rfl, by show 2 ≤ sizeLine; decide, fun tp2 nt2 => ?_⟩
    have s2 := s1.trans (same_new (o := .tup [.ty "tuple", .ty "list"]) nt2)
    refine ⟨_, _, _, _, _, true, rfl, upd_same, clsTL, .base (.tup (s2 _ _ ha)), isi_seq (b := true) (c := false) (by decide +kernel) (by decide +kernel), _, rfl, iteF ?_⟩
    refine ⟨_, rfl, _, _, _, _, false, rfl, .ty _, .base (.tup (s2 _ _ ha)), kit_ty (by decide +kernel), ?_⟩
    refine ⟨_, rfl, _, _, _, _, false, rfl, .ty _, .base (.tup (s2 _ _ hb)), kit_ty (by decide +kernel), rfl, _, rfl, iteF' (c := !decide _) (by rw [decide_eq_true rfl]; rfl) ?_⟩
    refine ⟨_, rfl, _, _, rfl, .inr (SqT.of (s2 _ _ ha)), _, rfl, _, _, rfl, .inr (SqT.of (s2 _ _ hb)), rfl, _, rfl, iteF' (neInt rfl) ?_⟩
    refine ⟨_, rfl, _, _, rfl, .inr (SqT.of (s2 _ _ hb)), _, rfl, (show (-(2 ^ 62) : Int) ≤ 2 by decide), (show (2 : Int) < 2 ^ 62 by decide), fun D nD => ?_⟩
    refine lc_range (lo := 0) (n := 2) (fun i H2 => Same H H2 ∧ H2 D = some (.lst [])) ⟨s2.trans (same_new nD), upd_same⟩ (fun i H2 hi pw => ?_) (fun H2 pw => ?_)
    · obtain ⟨s3, hD⟩ := pw
      have hx : ∃ x : Int, ([V.int k, V.int 1] : List V)[i]? = some (.int x) := by
        match i, hi with
        | 0, _ => exact ⟨k, rfl⟩
        | 1, _ => exact ⟨1, rfl⟩
      obtain ⟨x, hx⟩ := hx
      refine ⟨rfl, _, rfl, _, rfl, _, _, _, _, rfl, rfl, SqT.of (s3 _ _ ha), atI_0 hx, ?_⟩
      refine ⟨_, rfl, _, rfl, _, _, _, _, rfl, rfl, SqT.of (s3 _ _ hb), atI_0 hx, x, rfl, fun H4 s4 => ⟨_, rfl, iteF ⟨s3.trans s4, s4 _ _ hD⟩⟩⟩
    · obtain ⟨s3, hD⟩ := pw
      refine ⟨Nat.zero_le _, fun l nl => ?_⟩
      have s4 := same_new (o := .lst []) nl
      refine ⟨.list [], .list [], .lst (SqL.of (s4 _ _ hD)) .nil, .lst (SqL.of upd_same) .nil, rfl, rfl, ?_⟩
      exact q _ (s3.trans s4)
end
end DW
end

section
/-! a lambda handed to a def; nothing but the maker's table of code objects changes -/
namespace DW
open PySem PySem.Spec PyProof.Rows L2
section
variable {X : Cx} {pins : List (Addr × Obj)} {σ : L2.St} {H : Hp} {s : Shared}
/-- a lambda is made: of the tracked heap nothing but the table at P is touched -/
theorem lam_new {c P : Addr} {params : Arguments} {body : Expr} {scope : Scope} {pos : Pos} {E : Value → Shared → Prop} {Q : Value → Shared → Prop} (I : Inv X pins σ H s) (TB : LamX.TabB X.base X.mg c P) (hcode : X.env.code = .ref c)
    (hT : LamX.TabS H P (X.env.qual ++ "<lambda>")) (hdef : defaultsOf params X.env = ([], [])) (hfree : ∀ y ∈ scope.names, y.2 = .free → ∃ c, X.env.cells.lookup y.1 = some c)
    (h : ∀ (f c' : Addr) (pm ctv : Value) (H1 : Hp) (s' : Shared), Inv X pins σ H1 s' → Out P H H1 → LamX.TabS H1 P (X.env.qual ++ "<lambda>") →
      s'.heap.get? f = some (PySem.W.kla_obj "<lambda>" (X.env.qual ++ "<lambda>") params body scope (cloFrom X.env.cells scope.names []) pm c' ctv) → H1 f = none → f ∉ frs X.stack → H1 c' = some (LamX.CodeO c' (X.env.qual ++ "<lambda>")) → Q (.ref f) s') :
    wpAny (model X.prog X.w) X.A (eval (.Lambda params body scope pos) X.env) Q E s := by
  have T0 := hT
  obtain ⟨ps, hP, ht, ha⟩ := hT
  have far : ∀ f, s.heap.objs.size ≤ f → f ∉ frs X.stack := by
    intro f hf hm
    rcases List.mem_cons.mp (I.stkSub _ hm) with e | e
    · exact absurd (e ▸ I.lt) (Nat.not_lt.mpr hf)
    · exact I.nofs hf e
  have hPo := I.hok P _ hP
  refine PySem.W.kla_eval hdef ?_
  rcases hc : codeAmong pos ps.toList with _ | cv
  · refine PySem.W.kla_makeFunction (mg := X.mg) (c := c) (P := P) (ps := ps) (closure_ok hfree) I.ok.glob (I.mod.glob.keeps I.bk) hcode (TB.code.keeps I.bk) hPo ht hc TB.gP (TB.bm.keeps I.bk) fun c' ctv h' tk hx hge hlt hrec htb => ?_
    obtain ⟨c2, oc, vs, t, e2, hoc, hd, hv⟩ := hrec
    cases e2
    have fresh : ∀ a, s.heap.objs.size ≤ a → H a = none := fun a h => I.hok.fresh h
    have big : s.heap.objs.size ≤ h'.objs.size := Nat.le_trans hge (Nat.le_of_lt hlt)
    have nC := fresh c' hge
    have nPc : P ≠ c' := ne_of_none hP nC
    let more : Array Value := #[rawInt pos.line, rawInt pos.col, .ref c']
    let H1 := upd (upd H P (.tbl (ps ++ more))) c' (LamX.CodeO c' (X.env.qual ++ "<lambda>"))
    have out : Out P H H1 := fun b o e n => by
      show upd (upd H P _) c' _ b = _
      rw [upd_ne (ne_of_none e nC), upd_ne n]
      exact e
    have tab : LamX.TabS H1 P (X.env.qual ++ "<lambda>") := by
      have eL : (ps ++ more).toList = ps.toList ++ [rawInt pos.line, rawInt pos.col, .ref c'] := by simp [more]
      refine ⟨ps ++ more, ?_, by rw [eL]; exact PySem.TriplesOk_snoc _ _ _ _ ht, fun p' cv hcv => ?_⟩
      · show upd (upd H P _) c' _ P = _
        rw [upd_ne nPc, upd_same]
      · rw [eL] at hcv
        rcases LamX.among_app _ ht hcv with z | z
        · obtain ⟨c0, e1, e2⟩ := ha p' cv z
          refine ⟨c0, e1, out _ _ e2 fun zz => ?_⟩
          rw [zz, hP] at e2
          exact LamX.codeO_ne _ (Option.some.inj e2).symm
        · exact ⟨c', z, upd_same⟩
    have I1 := LamX.inv_table (t' := tk) (more := more) (q := X.env.qual ++ "<lambda>") (h' := h'.push (PySem.W.kla_obj "<lambda>" (X.env.qual ++ "<lambda>") params body scope (cloFrom X.env.cells scope.names []) ((X.mg "__name__").getD .none) c' ctv)) I hP
      (fun b o hb e => Heap.get?_push_of_some _ (hx b o hb e)) (Heap.get?_push_of_some _ htb) hge ⟨oc, vs, t, Heap.get?_push_of_some _ hoc, hd, hv⟩
    refine h h'.objs.size c' _ ctv H1 _ I1 out tab (Heap.get?_push_size _ rfl) ?_ (far _ big) upd_same
    show upd (upd H P _) c' _ _ = none
    rw [upd_ne (Nat.ne_of_gt hlt), upd_ne (Nat.ne_of_gt (Nat.lt_of_lt_of_le (Heap.lt_size hPo) big))]
    exact fresh _ big
  · obtain ⟨c', rfl, hco⟩ := ha pos cv hc
    refine PySem.W.kla_makeFunctionHit (mg := X.mg) (c := c) (P := P) (ps := ps) (closure_ok hfree) I.ok.glob (I.mod.glob.keeps I.bk) hcode (TB.code.keeps I.bk) hPo ht hc (TB.bm.keeps I.bk) fun ctv h' tk hx hsz => ?_
    have I1 : Inv X pins σ H { s with heap := h'.push (PySem.W.kla_obj "<lambda>" (X.env.qual ++ "<lambda>") params body scope (cloFrom X.env.cells scope.names []) ((X.mg "__name__").getD .none) c' ctv), toks := tk } := I.kept fun b o e => Heap.get?_push_of_some _ (hx b o e)
    exact h h'.objs.size c' _ ctv H _ I1 (Out.refl _ _) T0 (Heap.get?_push_size _ rfl) (I.hok.fresh hsz) (far _ hsz) hco
end
/-- the reading of x(lambda: body) -/
def tLamP (P : Addr) (q : Str) (TT : (XK → Hp → VK → Prop) → Hp → VK → Prop) (t : XK → TE) : TE := fun σ H Q => LamX.TabS H P q ∧ ∀ H1, Out P H H1 → LamX.TabS H1 P q → TT (fun E H' Q' => t E σ H' Q') H1 Q
section
variable {X : Cx}
theorem pe_lamP {TT : (XK → Hp → VK → Prop) → Hp → VK → Prop} {x a : Str} {st : Stmt} {g c P cg : Addr} {fd : FuncData} {k : Nat} {Ng : List Str} {params : Arguments} {body : Expr} {scope : Scope} {t : XK → TE} {p lpos pos : Pos}
    (hg : Gl X x) (hm : X.mg x = some (.ref g)) (hk : PySem.W.keepIn X.K (.ref g) = true) (F : FunC X.K x st g fd cg) (hb : L2.Binds X.K fd [a] []) (Sg : FnScope Ng [a] (defScope st)) (hNg : Ng[0]? = some a) (hva : Vis (defScope st) a)
    (hG : LamX.GivesTo X Ng x (defScope st) g (.ref cg) (defBody st) a (X.env.qual ++ "<lambda>") TT)
    (TB : LamX.TabB X.base X.mg c P) (hcode : X.env.code = .ref c) (hr : Room (k + 2) X.A) (L : LamX.LamS X.env.scope scope) (hdef : defaultsOf params X.env = ([], []))
    (hbind : ∀ (q : Str) (cl : List (Str × Addr)) (pm cv ctv : Value), bindArgs (PySem.W.kla_fn "<lambda>" q params body scope cl pm cv ctv) ⟨[], []⟩ = pure [])
    (hbody : ∀ (A : Around) (outer : List Env) (s : Shared) (H : Hp) (E : XK) (f c' : Addr), Room k (A.deeper (LamX.lamEnv X scope s.heap.objs.size f c')) → PE (LamX.lamCx X A outer s H E scope f c') body (t E))
    (hdb : (x == ("__debug__" : Str)) = false := by decide) (hd : (a == ("__debug__" : Str)) = false := by decide) (hcd : (a == ("__classdict__" : Str)) = false := by decide) :
    PE X (.Call (.Name x p) [.Lambda params body scope lpos] [] pos) (tLamP P (X.env.qual ++ "<lambda>") TT t) := by
  obtain ⟨oc, od, kV, doc, pm, an, ct, osl, rfl, lk, hcg⟩ := F.ex
  refine ⟨fun pins s σ H Q I ⟨hT, h⟩ => ?_⟩
  refine wpAny_Call_Name_kw (ld_glob I hg hm ?_ hdb)
  refine PySem.W.callWith_K (h₀ := X.base) I.ok.mod.kin hk ?_ (by rfl) (by rfl)
  show wpAny _ _ (spliced ((false, eval (.Lambda params body scope lpos) X.env) :: backTo pos (starEach [] X.env))) _ _ s
  refine Calls.spliced_cons (lam_new I TB hcode hT hdef (L.has I.ok) fun f c' pm' ctv H1 s' I1 eN T1 hf hfn hfr hco => ?_)
  refine Calls.spliced_nil ⟨I1.kIn, ?_⟩
  have rc : codeAny (model X.prog X.w) X.A (.call (.ref g) ⟨[.ref f], []⟩) (CR C8.CX0 X.stack X.prog X.w H1 s' Q C8.E0) s' :=
    LamX.run_ofS (N := Ng) (ps := [a]) (us := [.ref f]) (vs := [.ref f]) lk hcg Sg hr I1.env0 (hb s' [.ref f] I1.kIn rfl) (.cons rfl .nil) rfl fun hr' => by
      obtain ⟨t', ht', hq'⟩ := hG f c' s' H1 Q (fun E H' Q' => t E σ H' Q') (fun W pn xe E p1 p2 tk hW => LamX.pe_act (i := 0) I1 L hf hfn hfr (hbind _ _ _ _ _) tk hW hr' (fun A outer s H hr2 => hbody A outer s H E f c' hr2) hNg hva hd hcd) hco (h H1 eN T1)
      exact ⟨t', ht'.nox, hq'⟩
  refine wpAny_call (codeAny_mono rc fun r s2 hq => ?_)
  rcases r with e | fl
  · exact (show False from hq).elim
  · cases fl with
    | ret u => exact I1.after hq
    | next => exact False.elim hq
    | brk => exact False.elim hq
    | cont => exact False.elim hq
end
end DW
end

section
/-! _law_told -/
namespace DW
open PySem PySem.Spec PyProof.Rows L2
theorem sc__law_told : FnScope ["_law_work", "e"] ["_law_work"] (defScope (topS 65)) := ⟨rfl, rfl, rfl, by decide +kernel, rfl, by decide +kernel, by decide +kernel⟩
def TTold (NP : Addr) : (XK → Hp → VK → Prop) → Hp → VK → Prop := fun tl H Q => tl (fun cls d H' => cls = .ref NP ∧ d = none ∧ Q (.str "no plan") H') H Q
/-- the suite's reading: what is held is a NoPlan -/
def tSuite (NP a : Addr) (cls : Value) (d : Option Addr) : TS := fun D σ H => cls = .ref NP ∧ d = none ∧ (∃ σ' : L2.St, σ = σ'.set 1 (some (.ref a))) ∧ D.rt (.str "no plan") H
theorem pss_weaken {X : Cx} {st : List Stmt} {t t' : TS} (h : PSs X st t) (w : ∀ pins s σ H D, Inv X pins σ H s → t' D σ H → t D σ H) : PSs X st t' := ⟨fun pins s σ H D I h' => h.run pins s σ H D I (w pins s σ H D I h')⟩
theorem told_gives {X : Cx} {g : Addr} {cdg : Value} {q : Str} (N : NoP X.K X.mg) (hi : X.mg "isinstance" = none) :
    LamX.GivesTo X ["_law_work", "e"] "_law_told" (defScope (topS 65)) g cdg (defBody (topS 65)) "_law_work" q (TTold N.NP) := by
  intro f c' s H Q tl act hc h
  refine ⟨_, pss_one (ps_try_as (X := (cxOf C8.CX0 X.prog X.w X.K X.mg X.base ["_law_work", "e"] "_law_told" (defScope (topS 65)) g cdg X.A X.stack s H C8.E0).nox) (i := 1) (c := .ref N.DE) (ts := fun a cls d => tSuite N.NP a cls d)
      (tb := fun W D σ H => ∃ Ech : XK, (∀ cls d σ' H', Ech cls d H' → W cls d σ' H') ∧ σ[0]? = some (some (.ref f)) ∧ H c' = some (LamX.CodeO c' q) ∧ tl Ech H D.rt)
      rfl rfl sc__law_told.nd rfl rfl ⟨rfl, by decide, .inl N.gD⟩ LamX.takes0 (fun W pn xe tk _ => ?_) (fun a oe cls d pn hz hf => ?_)), ?_⟩
  · refine ⟨fun pins s' σ H' D I h' => ?_⟩
    obtain ⟨Ech, hW, h1, h2, h3⟩ := h'
    exact (pss_one (ps_ret (act W pn xe Ech _ _ tk hW))).run pins s' σ H' D I ⟨h1, h2, h3⟩
  · by_cases hh : cls = .ref N.NP ∧ d = none
    case neg => exact ⟨fun pins s' σ H' D I h' => absurd ⟨h'.1, h'.2.1⟩ hh⟩
    obtain ⟨rfl, rfl⟩ := hh
    refine pss_weaken (pss_one (ps_ret (pe_ifExp (pt_val (pe_callB (call_isE (X := (cxOf C8.CX0 X.prog X.w X.K X.mg X.base ["_law_work", "e"] "_law_told" (defScope (topS 65)) g cdg X.A X.stack s H C8.E0).nox) N.cN hz hf) (by rfl) hi (by decide +kernel) (pa_cons (pv 1) (pa_cons (pe_glob (v := .ref N.NP) rfl N.gN rfl) pa_nil)))) pe_str pe_str))) (fun pins s' σ H' D I h' => ?_)
    obtain ⟨_, _, ⟨σ', rfl⟩, hq⟩ := h'
    have hl := I.len
    have h1 : (σ'.set 1 (some (V.ref a)))[1]? = some (some (.ref a)) := by
      have h2 : (σ'.set 1 (some (V.ref a))).length = 2 := hl
      rw [List.length_set] at h2
      rw [List.getElem?_set_self (by omega)]
    exact ⟨_, h1, .ref N.NP, .ref N.NP, true, rfl, fun u e => e, N.isN, _, rfl, iteT hq⟩
  · refine ⟨fun cls d H' => cls = .ref N.NP ∧ d = none ∧ Q (.str "no plan") H', fun cls d σ' H' ⟨e1, e2, e3⟩ => ?_, rfl, hc, h⟩
    subst e1 e2
    exact ⟨true, N.ex, fun _ a _ => ⟨rfl, rfl, ⟨σ', rfl⟩, e3⟩, fun z => nomatch z⟩
end DW
end

section
/-! the plain law: what the program computes answers as the law asks -/
namespace DW
section
variable {C s e : Int} {ins : List Int} {ws : List (List Dam.Pc)}
theorem at0_nn (ok : DamOk C s e ins) (k : Nat) : 0 ≤ at0 ins k := by
  unfold at0
  rw [List.getD_eq_getElem?_getD]
  by_cases h : k < ins.length
  · rw [List.getElem?_eq_getElem h]
    exact (ok.fl _ (List.getElem_mem h)).1
  · rw [List.getElem?_eq_none (by omega)]
    exact Int.le_refl _
theorem in_ok (ok : DamOk C s e ins) : (inOf C s e ins).Ok := ⟨ok.l1, ok.s0, ok.s1, ok.e0, ok.e1, at0_nn ok⟩
theorem most_le (ok : DamOk C s e ins) (f : Nat) : ∀ k, f ≤ k → mostF (inOf C s e ins) k ≤ (inOf C s e ins).top f + (Dam.P (at0 ins) k - Dam.P (at0 ins) f) := by
  intro k h
  induction h with
  | refl =>
    unfold Dam.In.top
    cases f with
    | zero =>
      rw [if_pos rfl]
      show s ≤ s + _
      omega
    | succ f =>
      rw [if_neg (by omega)]
      have h := Dam.pmin_le_left (inOf C s e ins).C (mostF (inOf C s e ins) f + (inOf C s e ins).a f)
      show Dam.pmin _ _ ≤ _
      omega
  | step h ih =>
    rename_i m
    have h := Dam.pmin_le_right (inOf C s e ins).C (mostF (inOf C s e ins) m + (inOf C s e ins).a m)
    have e2 : (inOf C s e ins).a m = at0 ins m := rfl
    have e3 : Dam.P (at0 ins) (m + 1) = Dam.P (at0 ins) m + at0 ins m := rfl
    show Dam.pmin _ _ ≤ _
    rw [e3]
    omega
theorem gaps_nn (ok : DamOk C s e ins) (hm : e ≤ mostF (inOf C s e ins) ins.length) (f l : Nat) (h1 : f ≤ l) (h2 : l < ins.length) : 0 ≤ (inOf C s e ins).water f l := by
  have h := most_le ok f (l + 1) (by omega)
  have top0 : 0 ≤ (inOf C s e ins).top f := by
    unfold Dam.In.top
    split
    · exact ok.s0
    · exact ok.C0
  have mono := Dam.P_mono (x := at0 ins) (at0_nn ok) (show f ≤ l + 1 by omega)
  unfold Dam.In.water Dam.In.fin
  show 0 ≤ _ + (Dam.P (at0 ins) (l + 1) - Dam.P (at0 ins) f) - _
  by_cases hl : l + 1 = ins.length
  · rw [if_pos (show l + 1 = (inOf C s e ins).n from hl)]
    rw [hl] at h ⊢
    show 0 ≤ _ - e
    omega
  · rw [if_neg (show ¬ l + 1 = (inOf C s e ins).n from hl)]
    omega
theorem pcs_ok (wok : WorOk ins.length ws) {k : Nat} (hk : k < ins.length) : PcsOk (wAt ws k) := by
  have hl := wok.len
  rw [wAt_is (List.getElem?_eq_getElem (show k < ws.length by omega))]
  exact wok.ok _ (List.getElem_mem _)
theorem amt_trs {q : Int → Bool} {k j : Nat} : ∀ ps : List Dam.Pc, Dam.amt q k (trs j ps) = if j = k then Dam.cap q ps else 0
  | [] => by
    show (0 : Int) = _
    split <;> rfl
  | (A, w) :: r => by
    show (if j = k ∧ q w = true then A else 0) + Dam.amt q k (trs j r) = if j = k then (if q w = true then A else 0) + Dam.cap q r else 0
    rw [amt_trs r]
    by_cases h : j = k
    · rw [if_pos h, if_pos h]
      by_cases h2 : q w = true
      · rw [if_pos ⟨h, h2⟩, if_pos h2]
      · rw [if_neg (fun z => h2 z.2), if_neg h2]
    · rw [if_neg h, if_neg h, if_neg (fun z => h z.1)]
      rfl
theorem amt_allT {q : Int → Bool} {k : Nat} : ∀ n : Nat, Dam.amt q k (allT ws n) = if k < n then Dam.cap q (wAt ws k) else 0
  | 0 => rfl
  | n + 1 => by
    rw [allT_succ, Dam.amt_append, amt_allT n, amt_trs]
    by_cases h : k < n
    · rw [if_pos h, if_neg (by omega), if_pos (by omega), Int.add_zero]
    · rw [if_neg h]
      by_cases h2 : n = k
      · rw [if_pos h2, if_pos (by omega), h2, Int.zero_add]
      · rw [if_neg h2, if_neg (by omega)]
        rfl
theorem amt_all {q : Int → Bool} {k n : Nat} (hk : k < n) : Dam.amt q k (allT ws n) = Dam.cap q (wAt ws k) := by
  rw [amt_allT, if_pos hk]
theorem data_ok (ok : DamOk C s e ins) (wok : WorOk ins.length ws) (hm : e ≤ mostF (inOf C s e ins) ins.length) : (dataOf C s e ins ws).Ok := by
  have S := Lof_sorted ws ins.length
  exact ⟨in_ok ok, fun k hk => (pcs_ok wok hk).p, fun q k hk => (Dam.amt_perm S.perm).trans (amt_all hk), fun t ht => (S.bd wok ht).2.2.1, fun t ht => (S.bd wok ht).2.1, S.desc wok ok.l12, fun f l h1 h2 => gaps_nn ok hm f l h1 h2⟩
theorem lvr_lv (ok : DamOk C s e ins) (g : Nat → Int) : ∀ k, lvr (inOf C s e ins) ((inOf C s e ins).rel g) k = (inOf C s e ins).lv g k
  | 0 => rfl
  | k + 1 => by
    show lvr _ _ k + _ - _ = _
    rw [lvr_lv ok g k, Dam.lv_rel]
theorem rel_ok (ok : DamOk C s e ins) (wok : WorOk ins.length ws) (hm : e ≤ mostF (inOf C s e ins) ins.length) : RelOk C s e ins (dataOf C s e ins ws).r := by
  have D := data_ok ok wok hm
  have F := Dam.Data.fits D
  have io := in_ok ok
  have er : (dataOf C s e ins ws).r = (inOf C s e ins).rel (dataOf C s e ins ws).g := rfl
  refine ⟨fun k hk => Dam.rel_nonneg io F hk, fun k hk => ?_, fun k hk => ?_, ?_⟩
  · rw [er, lvr_lv ok]
    exact Dam.lv_nonneg io F (by show k + 1 ≤ ins.length; omega)
  · rw [er, lvr_lv ok]
    exact Dam.lv_le io _
  · rw [er, lvr_lv ok]
    exact Dam.lv_end io F
theorem agrees (ok : DamOk C s e ins) (wok : WorOk ins.length ws) (hm : e ≤ mostF (inOf C s e ins) ins.length) : worthS ws (dataOf C s e ins ws).r ins.length = bndS C s e ins ws (dataOf C s e ins ws).p := Dam.Data.agree (data_ok ok wok hm)
theorem prices_nn (ok : DamOk C s e ins) (wok : WorOk ins.length ws) (hm : e ≤ mostF (inOf C s e ins) ins.length) (k : Nat) (hk : k < ins.length) : 0 ≤ (dataOf C s e ins ws).p k := Dam.Data.p_nonneg (data_ok ok wok hm) hk
end
end DW
end

section
/-! the law -/
namespace DW
open PySem PySem.Spec PyProof.Rows L2
theorem Keep.out {r : Addr} {H H' : Hp} (e : Out r H H') (hr : ∀ xs, H r ≠ some (.tup xs)) : Keep H H' := fun c xs h => e c _ h fun z => hr xs (by rw [← z]; exact h)
theorem Tb.out {ts : List Addr} {r : Addr} {H H' : Hp} (t : Tb ts H) (e : Out r H H') (hr : r ∉ ts) : Tb ts H' := fun b m => by
  obtain ⟨ps, h1, h2⟩ := t b m
  exact ⟨ps, e _ _ h1 (fun z => hr (by rw [← z]; exact m)), h2⟩
theorem tabS_ext {ts : List Addr} {PL : Addr} {q : Str} {H H' : Hp} (t : LamX.TabS H PL q) (e : Ext ts H H') (tb : Tb ts H) (hn : PL ∉ ts) : LamX.TabS H' PL q := by
  obtain ⟨ps, h1, h2, h3⟩ := t
  refine ⟨ps, e.out _ _ h1 hn, h2, fun pos cv hc => ?_⟩
  obtain ⟨c, e1, e2⟩ := h3 pos cv hc
  exact ⟨c, e1, e.at tb e2 LamX.codeO_ne⟩
section
variable {P : Program} {w : World} {K : PySem.W.Frag} {mg : Str → Option Value} {base : Heap}
theorem sc_law : FnScope ["_law_script", "_law_row", "_law_dam_here", "_law_worths_here", "_law_told_here", "_law_plan", "_law_prices", "_law_found"] ["_law_script"] (defScope (topS 70)) := ⟨rfl, rfl, rfl, by decide +kernel, rfl, by decide +kernel, by decide +kernel⟩
def spLaw (K : PySem.W.Frag) (ts : List Addr) (PL : Addr) : Sp := fun vs H Q _ => ∃ (a : Addr) (ns : List Int), vs = [.ref a] ∧ SqL K H a (ns.map V.int) ∧ Tb ts H ∧ H PL = some (.tbl #[]) ∧ ∀ H', Q (.bl true) H'
theorem ok_law (T : Txt K mg) (B : Bs T base) (N : NoP K mg) {PL : Addr} (TL : LamX.TabB base mg T.d_law.c PL) (hPL : PL ∉ T.ts) : FnOk P w K mg base CX0 14 T.d_law.f T.d_law.fd ["_law_script"] (spLaw K T.ts PL) := by
  have G_best_worth : FnOk P w K mg base (L2.CX P w) 11 T.d_best_worth.f T.d_best_worth.fd ["dam", "worths"] (spX N.NP T.ts RW_) := ok_best_worth T B N
  have G_best_plan : FnOk P w K mg base (L2.CX P w) 11 T.d_best_plan.f T.d_best_plan.fd ["dam", "worths"] (spX N.NP T.ts RP_) := ok_best_plan T B N
  have G_water_prices : FnOk P w K mg base (L2.CX P w) 11 T.d_water_prices.f T.d_water_prices.fd ["dam", "worths"] (spX N.NP T.ts RV_) := ok_water_prices T B N
  have G_plan_worth : FnOk P w K mg base CX0 11 T.d_plan_worth.f T.d_plan_worth.fd ["dam", "worths", "plan"] (spPlanW T.ts) := ok_plan_worth T B
  have G_law_dam : FnOk P w K mg base CX0 4 T.d_law_dam.f T.d_law_dam.fd ["_law_row", "_law_most"] (spDam K) := ok_law_dam T
  have G_law_worths : FnOk P w K mg base CX0 3 T.d_law_worths.f T.d_law_worths.fd ["_law_row", "_law_many"] (spWorths K) := ok_law_worths T
  have G_law_most_held : FnOk P w K mg base CX0 1 T.d_law_most_held.f T.d_law_most_held.fd ["_law_dam_here"] spMost := ok_law_most_held T
  have G_law_levels : FnOk P w K mg base CX0 3 T.d_law_levels.f T.d_law_levels.fd ["_law_dam_here", "_law_plan"] spLLev := ok_law_levels T
  have G_law_are_prices : FnOk P w K mg base CX0 1 T.d_law_are_prices.f T.d_law_are_prices.fd ["_law_dam_here", "_law_value"] spAreV := ok_law_are_prices T
  have G_law_worth : FnOk P w K mg base CX0 3 T.d_law_worth.f T.d_law_worth.fd ["_law_worths_here", "_law_plan"] spWorth7 := ok_law_worth T
  have G_law_bound : FnOk P w K mg base CX0 1 T.d_law_bound.f T.d_law_bound.fd ["_law_dam_here", "_law_worths_here", "_law_prices"] spBound := ok_law_bound T
  have G1 : FnOk P w K mg base CX0 2 T.d_law_alike.f T.d_law_alike.fd ["_law_found", "_law_due"] spAl1 := ok_law_alike1 T
  have G0 : FnOk P w K mg base CX0 1 T.d_law_alike.f T.d_law_alike.fd ["_law_found", "_law_due"] spAl0 := ok_law_alike0 T
  refine T.d_law.F.ok sc_law (fun vs H Q E h => ?_) (fun A outer s H vs Q E hr h => ?_)
  · obtain ⟨a, ns, rfl, _⟩ := h
    rfl
  · obtain ⟨a, ns, rfl, hsc, tb, hP, q⟩ := h
    refine ⟨_, (pss_cons (ps_set (i := 1) sc_law.nd rfl (.inl rfl) (pe_lst (pa_cons (pv 0) (pa_cons pe_int (pa_cons pe_int (pa_cons pe_int pa_nil))))))
      (pss_cons (ps_set (i := 2) sc_law.nd rfl (.inr rfl) (pe_call G_law_dam (hr.mono (by decide)) (by rfl) T.d_law_dam.g T.d_law_dam.kp T.d_law_dam.b .nil pass0 (pa_cons (pv 1) (pa_cons pe_int pa_nil))))
      (pss_cons (ps_set (i := 3) sc_law.nd rfl (.inr rfl) (pe_call G_law_worths (hr.mono (by decide)) (by rfl) T.d_law_worths.g T.d_law_worths.kp T.d_law_worths.b .nil pass0 (pa_cons (pv 1) (pa_cons (pe_callB call_len_seq (by rfl) T.n_len PySem.boot_len (pa_cons (pe_ix ix_tup (pv 2) pe_int (fun _ _ => rfl)) pa_nil)) pa_nil))))
      (pss_cons (ps_set (i := 4) sc_law.nd rfl (.inl rfl) (pe_lamP (k := 11) (Ng := ["_law_work", "e"]) rfl T.d_law_told.g T.d_law_told.kp T.d_law_told.F T.d_law_told.b sc__law_told rfl (.inl rfl) (told_gives N T.n_isinstance) TL rfl (hr.mono (by decide)) (LamX.lamS_by (sc := defScope (topS 70)) (by decide +kernel)) rfl (fun _ _ _ _ _ => rfl) (fun _ _ _ _ _ _ _ hr => (pe_call G_best_worth hr (by rfl) T.d_best_worth.g T.d_best_worth.kp T.d_best_worth.b .nil (passes_call (takes_of rfl rfl rfl rfl) (fun _ _ _ _ h => h)) (pa_cons (pv 2) (pa_cons (pv 3) pa_nil))))))
      (pss_cons (ps_if (pt_cmpR op_lt (pe_call G_law_most_held (hr.mono (by decide)) (by rfl) T.d_law_most_held.g T.d_law_most_held.kp T.d_law_most_held.b .nil pass0 (pa_cons (pv 2) pa_nil)) (pe_ix ix_tup (pv 2) pe_int (fun _ _ => rfl)) (nomark _)) (pss_one (ps_ret (pe_and (pe_cmpR op_eq (pv 4) pe_str (nomark _)) (pe_one (pe_cmpR op_eq (pe_lamP (k := 11) (Ng := ["_law_work", "e"]) rfl T.d_law_told.g T.d_law_told.kp T.d_law_told.F T.d_law_told.b sc__law_told rfl (.inl rfl) (told_gives N T.n_isinstance) TL rfl (hr.mono (by decide)) (LamX.lamS_by (sc := defScope (topS 70)) (by decide +kernel)) rfl (fun _ _ _ _ _ => rfl) (fun _ _ _ _ _ _ _ hr => (pe_call G_water_prices hr (by rfl) T.d_water_prices.g T.d_water_prices.kp T.d_water_prices.b .nil (passes_call (takes_of rfl rfl rfl rfl) (fun _ _ _ _ h => h)) (pa_cons (pv 2) (pa_cons (pv 3) pa_nil))))) pe_str (nomark _)))))) pss_nil)
      (pss_cons (ps_par (i := 5) (j := 6) (by rfl) sc_law.nd rfl rfl (by decide) rfl rfl (pa_cons (pe_call G_best_plan (hr.mono (by decide)) (by rfl) T.d_best_plan.g T.d_best_plan.kp T.d_best_plan.b .nil passL (pa_cons (pv 2) (pa_cons (pv 3) pa_nil))) (pa_cons (pe_call G_water_prices (hr.mono (by decide)) (by rfl) T.d_water_prices.g T.d_water_prices.kp T.d_water_prices.b .nil passL (pa_cons (pv 2) (pa_cons (pv 3) pa_nil))) pa_nil)) (by rfl))
      (pss_cons (ps_if (PW.pt (pw_or (pt_cmpR op_isN (pe_call G_law_levels (hr.mono (by decide)) (by rfl) T.d_law_levels.g T.d_law_levels.kp T.d_law_levels.b .nil pass0 (pa_cons (pv 2) (pa_cons (pv 5) pa_nil))) pe_non (nomark _)) (pw_or1 (pt_not (pt_val (pe_call G_law_are_prices (hr.mono (by decide)) (by rfl) T.d_law_are_prices.g T.d_law_are_prices.kp T.d_law_are_prices.b .nil pass0 (pa_cons (pv 2) (pa_cons (pv 6) pa_nil)))))))) (pss_one (ps_ret pe_bl)) pss_nil)
      (pss_cons (ps_set (i := 7) sc_law.nd rfl (.inl rfl) (pe_call G_law_worth (hr.mono (by decide)) (by rfl) T.d_law_worth.g T.d_law_worth.kp T.d_law_worth.b .nil pass0 (pa_cons (pv 3) (pa_cons (pv 5) pa_nil))))
      (pss_cons (ps_if (PW.pt (pw_or (pt_not (pt_val (pe_call G1 (hr.mono (by decide)) (by rfl) T.d_law_alike.g T.d_law_alike.kp T.d_law_alike.b .nil pass0 (pa_cons (pe_call G_plan_worth (hr.mono (by decide)) (by rfl) T.d_plan_worth.g T.d_plan_worth.kp T.d_plan_worth.b .nil pass0 (pa_cons (pv 2) (pa_cons (pv 3) (pa_cons (pv 5) pa_nil)))) (pa_cons (pv 7) pa_nil))))) (pw_or1 (pt_not (pt_val (pe_call G0 (hr.mono (by decide)) (by rfl) T.d_law_alike.g T.d_law_alike.kp T.d_law_alike.b .nil pass0 (pa_cons (pv 4) (pa_cons (pe_call G_law_bound (hr.mono (by decide)) (by rfl) T.d_law_bound.g T.d_law_bound.kp T.d_law_bound.b .nil pass0 (pa_cons (pv 2) (pa_cons (pv 3) (pa_cons (pv 6) pa_nil)))) pa_nil)))))))) (pss_one (ps_ret pe_bl)) pss_nil)
      (pss_one (ps_ret (pe_cmpR (op_eqD hr.units) (pv 7) (pe_tup (pa_cons (pv 4) (pa_cons pe_int pa_nil))) (nomark _))))))))))))), ?_⟩
    -- the row, the dam, the worths
    refine ⟨_, rfl, by show 4 ≤ sizeLine; decide, fun r nr => ?_⟩
    have sr := same_new (o := .lst [.ref a, .int 0, .int 4409, .int 0]) nr
    have rowAt : RowAt K a ns (upd H r (.lst [.ref a, .int 0, .int 4409, .int 0])) r := ⟨0, 4409, 0, upd_same, (SqN.of hsc nr).out (.of sr), by decide, by decide⟩
    refine ⟨_, rfl, r, 7, a, ns, rfl, rowAt, by decide, by decide, fun H1 ad C st en ins e1 hd1 ok => ?_⟩
    obtain ⟨bi, h1, hI1⟩ := id hd1
    refine ⟨_, rfl, _, rfl, _, _, _, _, rfl, rfl, SqT.of h1, rfl, _, _, rfl, .inr (SqT.of hI1), r, ins.length, a, ns, by rw [List.length_map]; rfl, e1.row, ok.l12, fun H2 b ws e2 hw2 wok => ?_⟩
    have k12 : Keep H1 H2 := fun c xs h => e2.tup e1.row h
    have hd2 := hd1.keep k12
    have o2 : Out r H H2 := ((Out.of sr).trans e1.out).trans e2.out
    have hP2 : H2 PL = some (.tbl #[]) := o2 _ _ hP (ne_of_none hP nr)
    have rts : r ∉ T.ts := fun m => by
      obtain ⟨ps, z, _⟩ := tb r m
      rw [nr] at z
      cases z
    have tb2 : Tb T.ts H2 := tb.out o2 rts
    -- what is told
    refine ⟨.nil hP2, fun H3 o3 tab3 => ?_⟩
    have k23 : Keep H2 H3 := Keep.out o3 (fun xs z => by rw [hP2] at z; cases z)
    have tb3 : Tb T.ts H3 := tb2.out o3 hPL
    have ao3 : ArgsOk H3 ad b C st en ins ws := ⟨hd2.keep k23, ok, hw2.keep k23, wok⟩
    refine ⟨_, rfl, _, rfl, ad, b, C, st, en, ins, ws, rfl, ao3, tb3, fun hc v H4 e4 hv => ?_, fun hc H4 e4 => ⟨rfl, rfl, ?_⟩⟩
    · -- there is a plan
      have hv : v = .int (worthS ws (dataOf C st en ins ws).r ins.length) := hv
      subst hv
      have ao4 := ao3.keep (e4.keep tb3)
      have tb4 := e4.tb tb3
      obtain ⟨b4, h4, hI4⟩ := ao4.d
      refine ⟨_, rfl, _, _, _, _, _, rfl, ao4.d, _, rfl, _, _, _, _, rfl, rfl, SqT.of h4, rfl, _, _, rfl, rfl, _, rfl, iteF' (decide_eq_false (Int.not_lt.mpr hc)) ?_⟩
      refine ⟨_, rfl, _, rfl, ad, b, C, st, en, ins, ws, rfl, ao4, tb4, fun _ v5 H5 e5 hv5 => ?_, fun hc2 => absurd hc (Int.not_le.mpr hc2)⟩
      obtain ⟨p5, rfl, hp5⟩ := hv5
      have ao5 := ao4.keep (e5.keep tb4)
      have tb5 := e5.tb tb4
      refine ⟨_, rfl, _, rfl, ad, b, C, st, en, ins, ws, rfl, ao5, tb5, fun _ v6 H6 e6 hv6 => ?_, fun hc2 => absurd hc (Int.not_le.mpr hc2)⟩
      obtain ⟨p6, rfl, hp6⟩ := hv6
      have k56 := e6.keep tb5
      have ao6 := ao5.keep k56
      have tb6 := e6.tb tb5
      have hp56 := hp5.keep k56
      have rok := rel_ok ok wok hc
      refine ⟨_, _, rfl, ?_⟩
      refine ⟨_, rfl, _, rfl, _, _, _, _, _, _, _, rfl, ao6.d, ok, hp56, rok, fun H7 l7 s7 => ⟨rfl, _, rfl, iteF' (decide_eq_false (by intro z; cases z)) ?_⟩⟩
      have ao7 := ao6.keep (.of s7)
      refine ⟨_, rfl, _, rfl, _, _, _, _, _, _, _, rfl, ao7.d, ok.l12, s7 _ _ hp6, prices_nn ok wok hc, fun H8 s8 => ⟨_, rfl, iteF ?_⟩⟩
      have s78 := s7.trans s8
      have ao8 := ao6.keep (.of s78)
      have hp8 := hp56.keep (.of s78)
      have tb8 := tb6.same s78
      refine ⟨_, rfl, _, rfl, _, _, _, _, _, rfl, ao8.w, ok.l12, wok, hp8, fun H9 u9 s9 hu9 => ?_⟩
      have ao9 := ao8.keep (.of s9)
      have tb9 := tb8.same s9
      refine ⟨_, rfl, _, rfl, _, rfl, _, _, _, _, _, _, _, _, _, rfl, ao9.d, ok, ao9.w, wok, hp8.keep (.of s9), rok, tb9, fun H10 u10 e10 hu10 => ?_⟩
      have k10 := e10.keep tb9
      have ao10 := ao9.keep k10
      refine ⟨_, rfl, _, _, _, rfl, hu10, hu9.keep k10, fun H11 s11 => ⟨_, rfl, iteF ?_⟩⟩
      have ao11 := ao10.keep (.of s11)
      have k911 := k10.trans (.of s11)
      have hp11 : H11 p6 = some (.tup (tabV ins.length (dataOf C st en ins ws).p)) := k911 _ _ (s9 _ _ (s78 _ _ hp6))
      refine ⟨_, rfl, _, rfl, _, rfl, _, rfl, _, _, _, _, _, _, _, _, _, rfl, ao11, hp11, fun H12 s12 => ?_⟩
      refine ⟨_, by rw [agrees ok wok hc]; rfl, fun H13 s13 => ⟨_, rfl, iteF ?_⟩⟩
      have hu13 := hu9.keep (k911.trans (.of (s12.trans s13)))
      obtain ⟨c13, rfl, hc13⟩ := hu13
      refine ⟨_, rfl, _, rfl, by show 2 ≤ sizeLine; decide, fun p14 n14 => ?_⟩
      have s14 := same_new (o := .tup [.int (worthS ws (dataOf C st en ins ws).r ins.length), .int 1]) n14
      refine ⟨_, _, dp_rat (s14 _ _ hc13), dp_rat upd_same, rfl, rfl, ?_⟩
      rw [SeqAt.eqv_refl _ rfl]
      exact q _
    · -- there is none
      have ao4 := ao3.keep (e4.keep tb3)
      have tb4 := e4.tb tb3
      obtain ⟨b4, h4, hI4⟩ := ao4.d
      refine ⟨_, rfl, _, _, _, _, _, rfl, ao4.d, _, rfl, _, _, _, _, rfl, rfl, SqT.of h4, rfl, _, _, rfl, rfl, _, rfl, iteT' (decide_eq_true hc) ?_⟩
      refine ⟨_, rfl, rfl, _, rfl, iteT' (decide_eq_true rfl) ?_⟩
      have tab4 := tabS_ext tab3 e4 tb3 hPL
      refine ⟨tab4, fun H5 o5 tab5 => ?_⟩
      have hPx : ∃ ps, H4 PL = some (.tbl ps) := by
        obtain ⟨ps, z, _⟩ := tab4
        exact ⟨ps, z⟩
      obtain ⟨ps4, hP4⟩ := hPx
      have k45 : Keep H4 H5 := Keep.out o5 (fun xs z => by rw [hP4] at z; cases z)
      have tb5 : Tb T.ts H5 := tb4.out o5 hPL
      refine ⟨_, rfl, _, rfl, ad, b, C, st, en, ins, ws, rfl, ao4.keep k45, tb5, fun hc2 => absurd hc (Int.not_lt.mpr hc2), fun _ H6 e6 => ⟨rfl, rfl, rfl, ?_⟩⟩
      rw [decide_eq_true rfl]
      exact q _
end
end DW
end

section
namespace DW
open PySem PySem.Spec PyProof.Rows L2
def ddef (x : Str) (i : Nat) : He.DefD := ⟨(x, none), x, x, defArgs (topS i), defBody (topS i), defScope (topS i), [], []⟩
def fnL : List He.DefD := ([ddef "ratio" 8, ddef "plus" 9, ddef "minus" 10, ddef "by" 11, ddef "less" 12, ddef "is_ratio" 13, ddef "is_in" 18, ddef "are_flows" 19, ddef "need_dam" 20, ddef "most_held" 21, ddef "need_plans" 22, ddef "levels_of" 23, ddef "is_plan" 24, ddef "run_of" 25, ddef "water_of" 27, ddef "spans" 28, ddef "is_piece" 32, ddef "are_pieces" 33, ddef "need_worths" 34, ddef "month_worth" 35, ddef "worth_of" 36, ddef "plan_worth" 37, ddef "pieces_of" 38, ddef "room_for" 39, ddef "given_of" 40, ddef "best_of" 41, ddef "best_worth_of" 42, ddef "best_worth" 43, ddef "best_plan" 44, ddef "open_prices" 46] : List He.DefD) ++ ([ddef "prices_of" 47, ddef "water_prices" 48, ddef "_law_taken" 50, ddef "_law_pick" 51, ddef "_law_alike" 52, ddef "_law_ratio" 53, ddef "_law_plus" 54, ddef "_law_by" 55, ddef "_law_less" 57, ddef "_law_is_ratio" 58, ddef "_law_flow" 59, ddef "_law_dam" 60, ddef "_law_most_held" 62, ddef "_law_levels" 63, ddef "_law_told" 65, ddef "_law_worths" 66, ddef "_law_worth" 67, ddef "_law_bound" 68, ddef "_law_are_prices" 69, ddef "law" 70] : List He.DefD)
def faL : List He.Fa := ([.glo "ratio", .glo "plus", .glo "minus", .glo "by", .glo "less", .glo "is_ratio", .glo "is_in", .glo "are_flows", .glo "need_dam", .glo "most_held", .glo "need_plans", .glo "levels_of", .glo "is_plan", .glo "run_of", .glo "water_of", .glo "spans", .glo "is_piece", .glo "are_pieces", .glo "need_worths", .glo "month_worth", .glo "worth_of", .glo "plan_worth", .glo "pieces_of", .glo "room_for", .glo "given_of", .glo "best_of", .glo "best_worth_of", .glo "best_worth", .glo "best_plan", .glo "open_prices"] : List He.Fa) ++ ([.glo "prices_of", .glo "water_prices", .glo "_law_taken", .glo "_law_pick", .glo "_law_alike", .glo "_law_ratio", .glo "_law_plus", .glo "_law_by", .glo "_law_less", .glo "_law_is_ratio", .glo "_law_flow", .glo "_law_dam", .glo "_law_most_held", .glo "_law_levels", .glo "_law_told", .glo "_law_worths", .glo "_law_worth", .glo "_law_bound", .glo "_law_are_prices", .glo "law", .glo "NoPlan", .glo "DamError", .exc "NoPlan", .exm "NoPlan" "DamError" true, .free "len", .free "range", .free "min", .free "max", .free "sum", .free "sorted"] : List He.Fa) ++ ([.free "tuple", .free "isinstance", .free "int", .free "bool", .free "list", .free "enumerate", .free "zip", .free "all", .free "any", .free "abs", .free "set", .free "str", .int "MOST_CAPACITY" 1000, .int "MOST_MONTHS" 12, .int "MOST_FLOW" 1000, .int "MOST_PIECES" 3, .int "MOST_AMOUNT" 1000] : List He.Fa)
def tfL : List He.Defn := [("is_ratio", none), ("are_flows", none), ("need_dam", none), ("is_plan", none), ("is_piece", none), ("are_pieces", none), ("law", none)]
def looseL : List Str := (["DamError", "BadDam", "BadPlan", "BadWorths", "NoPlan", "ratio", "plus", "minus", "by", "less", "is_ratio", "MOST_CAPACITY", "MOST_MONTHS", "MOST_FLOW", "is_in", "are_flows", "need_dam", "most_held", "need_plans", "levels_of", "is_plan", "run_of", "water_of", "spans", "MOST_PIECES", "MOST_AMOUNT", "is_piece", "are_pieces", "need_worths", "month_worth"] : List Str) ++ (["worth_of", "plan_worth", "pieces_of", "room_for", "given_of", "best_of", "best_worth_of", "best_worth", "best_plan", "open_prices", "prices_of", "water_prices", "_law_taken", "_law_pick", "_law_alike", "_law_ratio", "_law_plus", "_law_by", "_law_sum", "_law_less", "_law_is_ratio", "_law_flow", "_law_dam", "_law_demands", "_law_most_held", "_law_levels", "_law_can", "_law_told", "_law_worths", "_law_worth"] : List Str) ++ (["_law_bound", "_law_are_prices"] : List Str)
def exL (K : PySem.W.Frag) : Bool :=
  He.eqO (PySem.W.nsIn K mainGlobals "gcd") (some (some (.builtin "math.gcd"))) && (decide (PySem.W.kitOne K (.ref (He.ga K "NoPlan")) (.ref (He.ga K "NoPlan")) = some true) &&
  (He.eqO (PySem.W.findIn K (.ref (He.ga K "NoPlan")) "__getattribute__") (some (some (.builtin "BaseException.__getattribute__"))) && (He.eqO (PySem.W.findIn K (.ref (He.ga K "NoPlan")) "__getattr__") (some none) &&
  (PySem.W.hasDictIn K (He.ga K "NoPlan") && (He.eqO (PySem.W.findIn K (.ref (He.ga K "NoPlan")) "__class__") (some (some (.builtin "object.__class__"))) &&
  (He.eqO (PySem.W.specialIn K (.builtin "object.__class__") "__get__") (some (some (.builtin "getset_descriptor.__get__"))) && (decide (PySem.W.takesIn K (.builtin "object.__class__") = some true) &&
  (decide (PySem.W.mroIn K (He.ga K "NoPlan") (.type "object") = some true) && decide ((tfL.map fun p => (He.cT K p).2).Nodup)))))))))
abbrev RL : PySem.W.OpenRow := PySem.W.OpenLaw.row PySem.Challenge.rw_damworks_k09_whole_best_plans
abbrev hkL : PySem.W.Hook := He.hookX 2 faL fnL [] tfL exL
def obL (s : PySem.W.SharedT) : He.AlX := He.obsX 2 faL fnL [] tfL exL (HandSHeadRun.getT s)
theorem obL_eq (s : PySem.W.SharedT) : obL s = hkL.obs s.abs := He.obsX_eq (HandSHeadRun.getT_eq s)
end DW
end

section
namespace DW
open PySem PySem.Spec PyProof.Rows L2
theorem def_at {K : PySem.W.Frag} {h : Heap} {mg : Str → Option Value} (X : K.In h) (G : h.Ns mainGlobals mg) {x : Str} {i : Nat} {ps : List Str}
    (F : ∃ fd, FunD K x x (defArgs (topS i)) (defBody (topS i)) (defScope (topS i)) [] [] (He.fAd K (x, none)) fd) (g : (He.Fa.glo x).ok K = true)
    (hb : ∀ (kV doc pm : Value) (an : Option Addr) (cdv ct : Value) (us : List Value), us.length = ps.length → bindArgs (PySem.W.fnOf x x (defArgs (topS i)) (defBody (topS i)) (defScope (topS i)) .none kV doc pm an cdv ct) ⟨us, []⟩ = pure (ps.zip us)) :
    ∃ D : DefAt K mg x i ps, D.c = He.codeOf K (x, none) ∧ D.f = He.ga K x := by
  obtain ⟨fd, F⟩ := F
  have b := FunD.bindsN (ps := ps) F hb
  obtain ⟨oc, od, dV, kV, doc, pm, an, cdv, ct, osl, e, lk, hcd, hD, _⟩ := F.ex
  obtain ⟨c, rfl⟩ := He.codeIn_ref hcd
  have hd : dV = .none := by
    rcases hD with ⟨_, e⟩ | ⟨e, _⟩
    · exact e
    · exact absurd rfl e
  subst hd
  refine ⟨⟨He.fAd K (x, none), fd, c, ⟨⟨oc, od, kV, doc, pm, an, ct, osl, e, lk, hcd⟩, F.kp⟩, He.glo_ok X G g, b⟩, ?_, rfl⟩
  have e2 : fd.code = .ref c := by rw [e]
  exact (He.codeOf_eq lk e2).symm
theorem txt_ex {K : PySem.W.Frag} {h : Heap} {w : World} {mg : Str → Option Value} (X : K.In h) (G : h.Ns mainGlobals mg) (c : He.SaysX faL fnL [] tfL exL w h K) :
    ∃ (T : Txt K mg) (N : NoP K mg), (T.d_is_ratio.c = He.codeOf K ("is_ratio", none) ∧ T.p_is_ratio = (He.cT K ("is_ratio", none)).2) ∧ (T.d_are_flows.c = He.codeOf K ("are_flows", none) ∧ T.p_are_flows = (He.cT K ("are_flows", none)).2) ∧ (T.d_need_dam.c = He.codeOf K ("need_dam", none) ∧ T.p_need_dam = (He.cT K ("need_dam", none)).2) ∧ (T.d_is_plan.c = He.codeOf K ("is_plan", none) ∧ T.p_is_plan = (He.cT K ("is_plan", none)).2) ∧ (T.d_is_piece.c = He.codeOf K ("is_piece", none) ∧ T.p_is_piece = (He.cT K ("is_piece", none)).2) ∧ (T.d_are_pieces.c = He.codeOf K ("are_pieces", none) ∧ T.p_are_pieces = (He.cT K ("are_pieces", none)).2) ∧ T.d_law.c = He.codeOf K ("law", none) ∧ T.d_law.f = He.ga K "law" := by
  have cd := c.t.d
  obtain ⟨D_ratio, c_ratio, f_ratio⟩ := def_at X G (x := "ratio") (i := 8) (ps := ["top", "bottom"]) (cd.def_ 0 (d := ddef "ratio" 8) rfl) (cd.fact 0 rfl) (fun _ _ _ _ _ _ us hl => match us, hl with | [_, _], _ => rfl)
  obtain ⟨D_plus, c_plus, f_plus⟩ := def_at X G (x := "plus") (i := 9) (ps := ["one", "other"]) (cd.def_ 1 (d := ddef "plus" 9) rfl) (cd.fact 1 rfl) (fun _ _ _ _ _ _ us hl => match us, hl with | [_, _], _ => rfl)
  obtain ⟨D_minus, c_minus, f_minus⟩ := def_at X G (x := "minus") (i := 10) (ps := ["one", "other"]) (cd.def_ 2 (d := ddef "minus" 10) rfl) (cd.fact 2 rfl) (fun _ _ _ _ _ _ us hl => match us, hl with | [_, _], _ => rfl)
  obtain ⟨D_by, c_by, f_by⟩ := def_at X G (x := "by") (i := 11) (ps := ["one", "other"]) (cd.def_ 3 (d := ddef "by" 11) rfl) (cd.fact 3 rfl) (fun _ _ _ _ _ _ us hl => match us, hl with | [_, _], _ => rfl)
  obtain ⟨D_less, c_less, f_less⟩ := def_at X G (x := "less") (i := 12) (ps := ["one", "other"]) (cd.def_ 4 (d := ddef "less" 12) rfl) (cd.fact 4 rfl) (fun _ _ _ _ _ _ us hl => match us, hl with | [_, _], _ => rfl)
  obtain ⟨D_is_ratio, c_is_ratio, f_is_ratio⟩ := def_at X G (x := "is_ratio") (i := 13) (ps := ["value"]) (cd.def_ 5 (d := ddef "is_ratio" 13) rfl) (cd.fact 5 rfl) (fun _ _ _ _ _ _ us hl => match us, hl with | [_], _ => rfl)
  obtain ⟨D_is_in, c_is_in, f_is_in⟩ := def_at X G (x := "is_in") (i := 18) (ps := ["value", "least", "most"]) (cd.def_ 6 (d := ddef "is_in" 18) rfl) (cd.fact 6 rfl) (fun _ _ _ _ _ _ us hl => match us, hl with | [_, _, _], _ => rfl)
  obtain ⟨D_are_flows, c_are_flows, f_are_flows⟩ := def_at X G (x := "are_flows") (i := 19) (ps := ["value"]) (cd.def_ 7 (d := ddef "are_flows" 19) rfl) (cd.fact 7 rfl) (fun _ _ _ _ _ _ us hl => match us, hl with | [_], _ => rfl)
  obtain ⟨D_need_dam, c_need_dam, f_need_dam⟩ := def_at X G (x := "need_dam") (i := 20) (ps := ["dam"]) (cd.def_ 8 (d := ddef "need_dam" 20) rfl) (cd.fact 8 rfl) (fun _ _ _ _ _ _ us hl => match us, hl with | [_], _ => rfl)
  obtain ⟨D_most_held, c_most_held, f_most_held⟩ := def_at X G (x := "most_held") (i := 21) (ps := ["dam"]) (cd.def_ 9 (d := ddef "most_held" 21) rfl) (cd.fact 9 rfl) (fun _ _ _ _ _ _ us hl => match us, hl with | [_], _ => rfl)
  obtain ⟨D_need_plans, c_need_plans, f_need_plans⟩ := def_at X G (x := "need_plans") (i := 22) (ps := ["dam"]) (cd.def_ 10 (d := ddef "need_plans" 22) rfl) (cd.fact 10 rfl) (fun _ _ _ _ _ _ us hl => match us, hl with | [_], _ => rfl)
  obtain ⟨D_levels_of, c_levels_of, f_levels_of⟩ := def_at X G (x := "levels_of") (i := 23) (ps := ["dam", "plan"]) (cd.def_ 11 (d := ddef "levels_of" 23) rfl) (cd.fact 11 rfl) (fun _ _ _ _ _ _ us hl => match us, hl with | [_, _], _ => rfl)
  obtain ⟨D_is_plan, c_is_plan, f_is_plan⟩ := def_at X G (x := "is_plan") (i := 24) (ps := ["dam", "value"]) (cd.def_ 12 (d := ddef "is_plan" 24) rfl) (cd.fact 12 rfl) (fun _ _ _ _ _ _ us hl => match us, hl with | [_, _], _ => rfl)
  obtain ⟨D_run_of, c_run_of, f_run_of⟩ := def_at X G (x := "run_of") (i := 25) (ps := ["dam", "demands"]) (cd.def_ 13 (d := ddef "run_of" 25) rfl) (cd.fact 13 rfl) (fun _ _ _ _ _ _ us hl => match us, hl with | [_, _], _ => rfl)
  obtain ⟨D_water_of, c_water_of, f_water_of⟩ := def_at X G (x := "water_of") (i := 27) (ps := ["dam", "first", "last"]) (cd.def_ 14 (d := ddef "water_of" 27) rfl) (cd.fact 14 rfl) (fun _ _ _ _ _ _ us hl => match us, hl with | [_, _, _], _ => rfl)
  obtain ⟨D_spans, c_spans, f_spans⟩ := def_at X G (x := "spans") (i := 28) (ps := ["months"]) (cd.def_ 15 (d := ddef "spans" 28) rfl) (cd.fact 15 rfl) (fun _ _ _ _ _ _ us hl => match us, hl with | [_], _ => rfl)
  obtain ⟨D_is_piece, c_is_piece, f_is_piece⟩ := def_at X G (x := "is_piece") (i := 32) (ps := ["value"]) (cd.def_ 16 (d := ddef "is_piece" 32) rfl) (cd.fact 16 rfl) (fun _ _ _ _ _ _ us hl => match us, hl with | [_], _ => rfl)
  obtain ⟨D_are_pieces, c_are_pieces, f_are_pieces⟩ := def_at X G (x := "are_pieces") (i := 33) (ps := ["value"]) (cd.def_ 17 (d := ddef "are_pieces" 33) rfl) (cd.fact 17 rfl) (fun _ _ _ _ _ _ us hl => match us, hl with | [_], _ => rfl)
  obtain ⟨D_need_worths, c_need_worths, f_need_worths⟩ := def_at X G (x := "need_worths") (i := 34) (ps := ["dam", "worths"]) (cd.def_ 18 (d := ddef "need_worths" 34) rfl) (cd.fact 18 rfl) (fun _ _ _ _ _ _ us hl => match us, hl with | [_, _], _ => rfl)
  obtain ⟨D_month_worth, c_month_worth, f_month_worth⟩ := def_at X G (x := "month_worth") (i := 35) (ps := ["pieces", "release"]) (cd.def_ 19 (d := ddef "month_worth" 35) rfl) (cd.fact 19 rfl) (fun _ _ _ _ _ _ us hl => match us, hl with | [_, _], _ => rfl)
  obtain ⟨D_worth_of, c_worth_of, f_worth_of⟩ := def_at X G (x := "worth_of") (i := 36) (ps := ["worths", "plan"]) (cd.def_ 20 (d := ddef "worth_of" 36) rfl) (cd.fact 20 rfl) (fun _ _ _ _ _ _ us hl => match us, hl with | [_, _], _ => rfl)
  obtain ⟨D_plan_worth, c_plan_worth, f_plan_worth⟩ := def_at X G (x := "plan_worth") (i := 37) (ps := ["dam", "worths", "plan"]) (cd.def_ 21 (d := ddef "plan_worth" 37) rfl) (cd.fact 21 rfl) (fun _ _ _ _ _ _ us hl => match us, hl with | [_, _, _], _ => rfl)
  obtain ⟨D_pieces_of, c_pieces_of, f_pieces_of⟩ := def_at X G (x := "pieces_of") (i := 38) (ps := ["worths"]) (cd.def_ 22 (d := ddef "pieces_of" 38) rfl) (cd.fact 22 rfl) (fun _ _ _ _ _ _ us hl => match us, hl with | [_], _ => rfl)
  obtain ⟨D_room_for, c_room_for, f_room_for⟩ := def_at X G (x := "room_for") (i := 39) (ps := ["dam", "given", "month"]) (cd.def_ 23 (d := ddef "room_for" 39) rfl) (cd.fact 23 rfl) (fun _ _ _ _ _ _ us hl => match us, hl with | [_, _, _], _ => rfl)
  obtain ⟨D_given_of, c_given_of, f_given_of⟩ := def_at X G (x := "given_of") (i := 40) (ps := ["dam", "worths"]) (cd.def_ 24 (d := ddef "given_of" 40) rfl) (cd.fact 24 rfl) (fun _ _ _ _ _ _ us hl => match us, hl with | [_, _], _ => rfl)
  obtain ⟨D_best_of, c_best_of, f_best_of⟩ := def_at X G (x := "best_of") (i := 41) (ps := ["dam", "worths"]) (cd.def_ 25 (d := ddef "best_of" 41) rfl) (cd.fact 25 rfl) (fun _ _ _ _ _ _ us hl => match us, hl with | [_, _], _ => rfl)
  obtain ⟨D_best_worth_of, c_best_worth_of, f_best_worth_of⟩ := def_at X G (x := "best_worth_of") (i := 42) (ps := ["dam", "worths"]) (cd.def_ 26 (d := ddef "best_worth_of" 42) rfl) (cd.fact 26 rfl) (fun _ _ _ _ _ _ us hl => match us, hl with | [_, _], _ => rfl)
  obtain ⟨D_best_worth, c_best_worth, f_best_worth⟩ := def_at X G (x := "best_worth") (i := 43) (ps := ["dam", "worths"]) (cd.def_ 27 (d := ddef "best_worth" 43) rfl) (cd.fact 27 rfl) (fun _ _ _ _ _ _ us hl => match us, hl with | [_, _], _ => rfl)
  obtain ⟨D_best_plan, c_best_plan, f_best_plan⟩ := def_at X G (x := "best_plan") (i := 44) (ps := ["dam", "worths"]) (cd.def_ 28 (d := ddef "best_plan" 44) rfl) (cd.fact 28 rfl) (fun _ _ _ _ _ _ us hl => match us, hl with | [_, _], _ => rfl)
  obtain ⟨D_open_prices, c_open_prices, f_open_prices⟩ := def_at X G (x := "open_prices") (i := 46) (ps := ["dam", "worths"]) (cd.def_ 29 (d := ddef "open_prices" 46) rfl) (cd.fact 29 rfl) (fun _ _ _ _ _ _ us hl => match us, hl with | [_, _], _ => rfl)
  obtain ⟨D_prices_of, c_prices_of, f_prices_of⟩ := def_at X G (x := "prices_of") (i := 47) (ps := ["dam", "worths"]) (cd.def_ 30 (d := ddef "prices_of" 47) rfl) (cd.fact 30 rfl) (fun _ _ _ _ _ _ us hl => match us, hl with | [_, _], _ => rfl)
  obtain ⟨D_water_prices, c_water_prices, f_water_prices⟩ := def_at X G (x := "water_prices") (i := 48) (ps := ["dam", "worths"]) (cd.def_ 31 (d := ddef "water_prices" 48) rfl) (cd.fact 31 rfl) (fun _ _ _ _ _ _ us hl => match us, hl with | [_, _], _ => rfl)
  obtain ⟨D__law_taken, c__law_taken, f__law_taken⟩ := def_at X G (x := "_law_taken") (i := 50) (ps := ["_law_row", "_law_many"]) (cd.def_ 32 (d := ddef "_law_taken" 50) rfl) (cd.fact 32 rfl) (fun _ _ _ _ _ _ us hl => match us, hl with | [_, _], _ => rfl)
  obtain ⟨D__law_pick, c__law_pick, f__law_pick⟩ := def_at X G (x := "_law_pick") (i := 51) (ps := ["_law_row", "_law_things"]) (cd.def_ 33 (d := ddef "_law_pick" 51) rfl) (cd.fact 33 rfl) (fun _ _ _ _ _ _ us hl => match us, hl with | [_, _], _ => rfl)
  obtain ⟨D__law_alike, c__law_alike, f__law_alike⟩ := def_at X G (x := "_law_alike") (i := 52) (ps := ["_law_found", "_law_due"]) (cd.def_ 34 (d := ddef "_law_alike" 52) rfl) (cd.fact 34 rfl) (fun _ _ _ _ _ _ us hl => match us, hl with | [_, _], _ => rfl)
  obtain ⟨D__law_ratio, c__law_ratio, f__law_ratio⟩ := def_at X G (x := "_law_ratio") (i := 53) (ps := ["_law_top", "_law_bottom"]) (cd.def_ 35 (d := ddef "_law_ratio" 53) rfl) (cd.fact 35 rfl) (fun _ _ _ _ _ _ us hl => match us, hl with | [_, _], _ => rfl)
  obtain ⟨D__law_plus, c__law_plus, f__law_plus⟩ := def_at X G (x := "_law_plus") (i := 54) (ps := ["_law_one", "_law_other"]) (cd.def_ 36 (d := ddef "_law_plus" 54) rfl) (cd.fact 36 rfl) (fun _ _ _ _ _ _ us hl => match us, hl with | [_, _], _ => rfl)
  obtain ⟨D__law_by, c__law_by, f__law_by⟩ := def_at X G (x := "_law_by") (i := 55) (ps := ["_law_one", "_law_other"]) (cd.def_ 37 (d := ddef "_law_by" 55) rfl) (cd.fact 37 rfl) (fun _ _ _ _ _ _ us hl => match us, hl with | [_, _], _ => rfl)
  obtain ⟨D__law_less, c__law_less, f__law_less⟩ := def_at X G (x := "_law_less") (i := 57) (ps := ["_law_one", "_law_other"]) (cd.def_ 38 (d := ddef "_law_less" 57) rfl) (cd.fact 38 rfl) (fun _ _ _ _ _ _ us hl => match us, hl with | [_, _], _ => rfl)
  obtain ⟨D__law_is_ratio, c__law_is_ratio, f__law_is_ratio⟩ := def_at X G (x := "_law_is_ratio") (i := 58) (ps := ["_law_value"]) (cd.def_ 39 (d := ddef "_law_is_ratio" 58) rfl) (cd.fact 39 rfl) (fun _ _ _ _ _ _ us hl => match us, hl with | [_], _ => rfl)
  obtain ⟨D__law_flow, c__law_flow, f__law_flow⟩ := def_at X G (x := "_law_flow") (i := 59) (ps := ["_law_row"]) (cd.def_ 40 (d := ddef "_law_flow" 59) rfl) (cd.fact 40 rfl) (fun _ _ _ _ _ _ us hl => match us, hl with | [_], _ => rfl)
  obtain ⟨D__law_dam, c__law_dam, f__law_dam⟩ := def_at X G (x := "_law_dam") (i := 60) (ps := ["_law_row", "_law_most"]) (cd.def_ 41 (d := ddef "_law_dam" 60) rfl) (cd.fact 41 rfl) (fun _ _ _ _ _ _ us hl => match us, hl with | [_, _], _ => rfl)
  obtain ⟨D__law_most_held, c__law_most_held, f__law_most_held⟩ := def_at X G (x := "_law_most_held") (i := 62) (ps := ["_law_dam_here"]) (cd.def_ 42 (d := ddef "_law_most_held" 62) rfl) (cd.fact 42 rfl) (fun _ _ _ _ _ _ us hl => match us, hl with | [_], _ => rfl)
  obtain ⟨D__law_levels, c__law_levels, f__law_levels⟩ := def_at X G (x := "_law_levels") (i := 63) (ps := ["_law_dam_here", "_law_plan"]) (cd.def_ 43 (d := ddef "_law_levels" 63) rfl) (cd.fact 43 rfl) (fun _ _ _ _ _ _ us hl => match us, hl with | [_, _], _ => rfl)
  obtain ⟨D__law_told, c__law_told, f__law_told⟩ := def_at X G (x := "_law_told") (i := 65) (ps := ["_law_work"]) (cd.def_ 44 (d := ddef "_law_told" 65) rfl) (cd.fact 44 rfl) (fun _ _ _ _ _ _ us hl => match us, hl with | [_], _ => rfl)
  obtain ⟨D__law_worths, c__law_worths, f__law_worths⟩ := def_at X G (x := "_law_worths") (i := 66) (ps := ["_law_row", "_law_many"]) (cd.def_ 45 (d := ddef "_law_worths" 66) rfl) (cd.fact 45 rfl) (fun _ _ _ _ _ _ us hl => match us, hl with | [_, _], _ => rfl)
  obtain ⟨D__law_worth, c__law_worth, f__law_worth⟩ := def_at X G (x := "_law_worth") (i := 67) (ps := ["_law_worths_here", "_law_plan"]) (cd.def_ 46 (d := ddef "_law_worth" 67) rfl) (cd.fact 46 rfl) (fun _ _ _ _ _ _ us hl => match us, hl with | [_, _], _ => rfl)
  obtain ⟨D__law_bound, c__law_bound, f__law_bound⟩ := def_at X G (x := "_law_bound") (i := 68) (ps := ["_law_dam_here", "_law_worths_here", "_law_prices"]) (cd.def_ 47 (d := ddef "_law_bound" 68) rfl) (cd.fact 47 rfl) (fun _ _ _ _ _ _ us hl => match us, hl with | [_, _, _], _ => rfl)
  obtain ⟨D__law_are_prices, c__law_are_prices, f__law_are_prices⟩ := def_at X G (x := "_law_are_prices") (i := 69) (ps := ["_law_dam_here", "_law_value"]) (cd.def_ 48 (d := ddef "_law_are_prices" 69) rfl) (cd.fact 48 rfl) (fun _ _ _ _ _ _ us hl => match us, hl with | [_, _], _ => rfl)
  obtain ⟨D_law, c_law, f_law⟩ := def_at X G (x := "law") (i := 70) (ps := ["_law_script"]) (cd.def_ 49 (d := ddef "law" 70) rfl) (cd.fact 49 rfl) (fun _ _ _ _ _ _ us hl => match us, hl with | [_], _ => rfl)
  obtain ⟨x1, r1⟩ := He.ba c.more
  obtain ⟨x2, r2⟩ := He.ba r1
  obtain ⟨x3, r3⟩ := He.ba r2
  obtain ⟨x4, r4⟩ := He.ba r3
  obtain ⟨x5, r5⟩ := He.ba r4
  obtain ⟨x6, r6⟩ := He.ba r5
  obtain ⟨x7, r7⟩ := He.ba r6
  obtain ⟨x8, r8⟩ := He.ba r7
  obtain ⟨x9, _⟩ := He.ba r8
  obtain ⟨e1, e2, e3, e4⟩ := He.exc_ok (x := "NoPlan") (cd.fact 52 rfl)
  refine ⟨{ d_ratio := D_ratio, d_plus := D_plus, d_minus := D_minus, d_by := D_by, d_less := D_less, d_is_ratio := D_is_ratio, d_is_in := D_is_in, d_are_flows := D_are_flows, d_need_dam := D_need_dam, d_most_held := D_most_held, d_need_plans := D_need_plans, d_levels_of := D_levels_of, d_is_plan := D_is_plan, d_run_of := D_run_of, d_water_of := D_water_of, d_spans := D_spans, d_is_piece := D_is_piece, d_are_pieces := D_are_pieces, d_need_worths := D_need_worths, d_month_worth := D_month_worth, d_worth_of := D_worth_of, d_plan_worth := D_plan_worth, d_pieces_of := D_pieces_of, d_room_for := D_room_for, d_given_of := D_given_of, d_best_of := D_best_of, d_best_worth_of := D_best_worth_of, d_best_worth := D_best_worth, d_best_plan := D_best_plan, d_open_prices := D_open_prices, d_prices_of := D_prices_of, d_water_prices := D_water_prices, d_law_taken := D__law_taken, d_law_pick := D__law_pick, d_law_alike := D__law_alike, d_law_ratio := D__law_ratio, d_law_plus := D__law_plus, d_law_by := D__law_by, d_law_less := D__law_less, d_law_is_ratio := D__law_is_ratio, d_law_flow := D__law_flow, d_law_dam := D__law_dam, d_law_most_held := D__law_most_held, d_law_levels := D__law_levels, d_law_told := D__law_told, d_law_worths := D__law_worths, d_law_worth := D__law_worth, d_law_bound := D__law_bound, d_law_are_prices := D__law_are_prices, d_law := D_law, n_len := He.free_ok X G (x := "len") (cd.fact 54 rfl), n_range := He.free_ok X G (x := "range") (cd.fact 55 rfl), n_min := He.free_ok X G (x := "min") (cd.fact 56 rfl), n_max := He.free_ok X G (x := "max") (cd.fact 57 rfl), n_sum := He.free_ok X G (x := "sum") (cd.fact 58 rfl), n_sorted := He.free_ok X G (x := "sorted") (cd.fact 59 rfl), n_tuple := He.free_ok X G (x := "tuple") (cd.fact 60 rfl), n_isinstance := He.free_ok X G (x := "isinstance") (cd.fact 61 rfl), n_int := He.free_ok X G (x := "int") (cd.fact 62 rfl), n_bool := He.free_ok X G (x := "bool") (cd.fact 63 rfl), n_list := He.free_ok X G (x := "list") (cd.fact 64 rfl), n_enumerate := He.free_ok X G (x := "enumerate") (cd.fact 65 rfl), n_zip := He.free_ok X G (x := "zip") (cd.fact 66 rfl), n_all := He.free_ok X G (x := "all") (cd.fact 67 rfl), n_any := He.free_ok X G (x := "any") (cd.fact 68 rfl), n_abs := He.free_ok X G (x := "abs") (cd.fact 69 rfl), n_set := He.free_ok X G (x := "set") (cd.fact 70 rfl), n_str := He.free_ok X G (x := "str") (cd.fact 71 rfl), gcd := PySem.W.mg_of X G (He.eqO_ok x1), c_MOST_CAPACITY := He.int_ok X G (x := "MOST_CAPACITY") (i := 1000) (cd.fact 72 rfl), c_MOST_MONTHS := He.int_ok X G (x := "MOST_MONTHS") (i := 12) (cd.fact 73 rfl), c_MOST_FLOW := He.int_ok X G (x := "MOST_FLOW") (i := 1000) (cd.fact 74 rfl), c_MOST_PIECES := He.int_ok X G (x := "MOST_PIECES") (i := 3) (cd.fact 75 rfl), c_MOST_AMOUNT := He.int_ok X G (x := "MOST_AMOUNT") (i := 1000) (cd.fact 76 rfl), p_is_ratio := (He.cT K ("is_ratio", none)).2, p_are_flows := (He.cT K ("are_flows", none)).2, p_need_dam := (He.cT K ("need_dam", none)).2, p_is_plan := (He.cT K ("is_plan", none)).2, p_is_piece := (He.cT K ("is_piece", none)).2, p_are_pieces := (He.cT K ("are_pieces", none)).2 },
    { NP := He.ga K "NoPlan", DE := He.ga K "DamError", gN := He.glo_ok X G (x := "NoPlan") (cd.fact 50 rfl), gD := He.glo_ok X G (x := "DamError") (cd.fact 51 rfl), xN := e1, kN := e2, bN := e3, tN := e4, ex := He.exm_ok (x := "NoPlan") (y := "DamError") (b := true) (cd.fact 53 rfl), isN := of_decide_eq_true x2, cN := ⟨He.eqO_ok x3, He.eqO_ok x4, e3, x5, He.eqO_ok x6, He.eqO_ok x7, of_decide_eq_true x8, of_decide_eq_true x9⟩ }, ⟨c_is_ratio, rfl⟩, ⟨c_are_flows, rfl⟩, ⟨c_need_dam, rfl⟩, ⟨c_is_plan, rfl⟩, ⟨c_is_piece, rfl⟩, ⟨c_are_pieces, rfl⟩, c_law, f_law⟩
end DW
end

section
namespace DW
open PySem PySem.Spec PyProof.Rows L2
theorem runL (w : World) : HandSHeadRun.RunEqI RL (PySem.W.view RL.prog [0, 70]) hkL obL 6000 looseL w := by
  unfold HandSHeadRun.RunEqI
  kernel_rfl
theorem law_at {K : PySem.W.Frag} {h : Heap} {w : World} {mg : Str → Option Value} {fa : Addr} (X : K.In h) (G : h.Ns mainGlobals mg) (c : He.SaysX faL fnL [] tfL exL w h K) (hfa : mg "law" = some (.ref fa)) :
    LamX.LawAtS PySem.Challenge.rw_damworks_k09_whole_best_plans w K CX0 14 63 "_law_script" mg fa h := by
  obtain ⟨T, N, g1, g2, g3, g4, g5, g6, gc, gf⟩ := txt_ex X G c
  have eT : T.ts = [(He.cT K ("is_ratio", none)).2, (He.cT K ("are_flows", none)).2, (He.cT K ("need_dam", none)).2, (He.cT K ("is_plan", none)).2, (He.cT K ("is_piece", none)).2, (He.cT K ("are_pieces", none)).2] := by
    unfold Txt.ts
    rw [g1.2, g2.2, g3.2, g4.2, g5.2, g6.2]
  have nd : (tfL.map fun p => (He.cT K p).2).Nodup := by
    obtain ⟨_, r1⟩ := He.ba c.more
    obtain ⟨_, r2⟩ := He.ba r1
    obtain ⟨_, r3⟩ := He.ba r2
    obtain ⟨_, r4⟩ := He.ba r3
    obtain ⟨_, r5⟩ := He.ba r4
    obtain ⟨_, r6⟩ := He.ba r5
    obtain ⟨_, r7⟩ := He.ba r6
    obtain ⟨_, r8⟩ := He.ba r7
    obtain ⟨_, r9⟩ := He.ba r8
    exact of_decide_eq_true r9
  have hPL : (He.cT K ("law", none)).2 ∉ T.ts := by
    rw [eT]
    have nd2 : (([(He.cT K ("is_ratio", none)).2, (He.cT K ("are_flows", none)).2, (He.cT K ("need_dam", none)).2, (He.cT K ("is_plan", none)).2, (He.cT K ("is_piece", none)).2, (He.cT K ("are_pieces", none)).2] : List Addr) ++ [(He.cT K ("law", none)).2]).Nodup := nd
    intro m
    exact (List.nodup_append.mp nd2).2.2 _ m _ List.mem_cons_self rfl
  have e0 := hfa.symm.trans T.d_law.g
  cases e0
  refine ⟨T.d_law.fd, tfL.map (He.cT K), spLaw K T.ts (He.cT K ("law", none)).2, fun p hp => ?_, fun p hp => ?_, fun p hp => ?_, fun s u => ?_, fun H a ns _ _ hT hS => ⟨a, ns, rfl, hS, fun b hb => ?_, hT _ (List.mem_map.mpr ⟨("law", none), by decide +kernel, rfl⟩), fun _ => rfl⟩, fun base hK hG hB => ?_⟩
  · obtain ⟨q, hq, rfl⟩ := List.mem_map.mp hp
    exact c.empty q hq
  · obtain ⟨q, hq, rfl⟩ := List.mem_map.mp hp
    exact c.out q hq
  · obtain ⟨q, hq, rfl⟩ := List.mem_map.mp hp
    exact PySem.W.codeHd_of_K X (c.hd q hq)
  · obtain ⟨oc, od, kV, doc, pm, an, ct, osl, e, lk, hcd⟩ := T.d_law.F.ex
    rw [e]
    exact .of_eq rfl
  · rw [eT] at hb
    have hm : ∃ p ∈ tfL, (He.cT K p).2 = b := by
      simp only [List.mem_cons, List.not_mem_nil, or_false] at hb
      rcases hb with rfl | rfl | rfl | rfl | rfl | rfl
      · exact ⟨("is_ratio", none), by decide +kernel, rfl⟩
      · exact ⟨("are_flows", none), by decide +kernel, rfl⟩
      · exact ⟨("need_dam", none), by decide +kernel, rfl⟩
      · exact ⟨("is_plan", none), by decide +kernel, rfl⟩
      · exact ⟨("is_piece", none), by decide +kernel, rfl⟩
      · exact ⟨("are_pieces", none), by decide +kernel, rfl⟩
    obtain ⟨p, hp, rfl⟩ := hm
    exact ⟨#[], hT _ (List.mem_map.mpr ⟨p, hp, rfl⟩), trivial⟩
  · have tb : ∀ p, p ∈ tfL → LamX.TabB base mg (He.cT K p).1 (He.cT K p).2 := fun p hp => hB _ (List.mem_map.mpr ⟨p, hp, rfl⟩)
    have gx : ∀ p, p ∈ tfL → GxR.TabB base mg (He.cT K p).1 (He.cT K p).2 := fun p hp => ⟨(tb p hp).code, (tb p hp).bm, (tb p hp).gP⟩
    have B : Bs T base := by
      refine ⟨?_, ?_, ?_, ?_, ?_, ?_⟩
      · rw [g1.1, g1.2]
        exact gx ("is_ratio", none) (by decide +kernel)
      · rw [g2.1, g2.2]
        exact gx ("are_flows", none) (by decide +kernel)
      · rw [g3.1, g3.2]
        exact gx ("need_dam", none) (by decide +kernel)
      · rw [g4.1, g4.2]
        exact gx ("is_plan", none) (by decide +kernel)
      · rw [g5.1, g5.2]
        exact gx ("is_piece", none) (by decide +kernel)
      · rw [g6.1, g6.2]
        exact gx ("are_pieces", none) (by decide +kernel)
    have TL : LamX.TabB base mg T.d_law.c (He.cT K ("law", none)).2 := by
      rw [gc]
      exact tb ("law", none) (by decide +kernel)
    exact ok_law T B N TL hPL
end DW
open PySem PySem.W PySem.Calls PyProof.Rows
theorem PySem.Challenge.cw_damworks_k09_whole_best_plans_holds : PySem.Challenge.rw_damworks_k09_whole_best_plans.Holds := by
  w_on; o_law
  refine HandSHeadRun.head_imp (r := OpenLaw.row PySem.Challenge.rw_damworks_k09_whole_best_plans) (q := view (OpenLaw.row PySem.Challenge.rw_damworks_k09_whole_best_plans).prog [0, 70]) (H := DW.hkL) (ob := DW.obL) (M := 6000) (loose := DW.looseL) (d := HandSHeadRun.topDef (OpenLaw.row PySem.Challenge.rw_damworks_k09_whole_best_plans).prog 70) (kwd := []) DW.obL_eq
    DW.runL (by kernel_rfl) (by kernel_rfl) (by kernel_rfl) (by rfl) (by first | assumption | decide +kernel) (by decide +kernel) ⟨rfl, rfl, rfl, rfl, rfl, by decide +kernel⟩ ?hw ?hc
  case hw => w_witness2
  case hc =>
    refine LamX.walk_ofTsE (l := PySem.Challenge.rw_damworks_k09_whole_best_plans) (n := 63) (k := 14) (x := "_law_script") (CX := fun _ => L2.CX0) rfl (by decide) (by kernel_rfl) ⟨rfl, by decide, by decide⟩ ?F (fun _ _ _ _ _ z => z)
    intro w mg fa h Y G hmg0
    obtain ⟨K, KX, c⟩ := Y
    have hmg : mg ("law" : PySem.Str) = some (.ref fa) := by
      have e : (HandSHeadRun.topDef (OpenLaw.row PySem.Challenge.rw_damworks_k09_whole_best_plans).prog 70).name = ("law" : PySem.Str) := by kernel_rfl
      rw [← e]
      exact hmg0
    exact ⟨K, KX, DW.law_at KX G c hmg⟩
end
