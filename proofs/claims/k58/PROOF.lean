import PyProof.Rows.All
import Wide.All
import OpenK.AllK
import Wide.FinOn
import HandS.ForMost
import HandS.IsInst
import HandS.TupAny
import HandS.Conv
import HandS.Zip
import HandS.Walk
import KE.DataMinMax
import KE.KTupSum
import KE.GoesEnum
import PySem.Challenge.RW_joinshelf_k58_whole_rests_by_all_plans
import HandS.Evl
section
set_option linter.all false
set_option autoImplicit false
namespace K58

/-! ### the order of lists, of pairs -/
def ltL : List Nat → List Nat → Bool
  | [], [] => false
  | [], _ :: _ => true
  | _ :: _, [] => false
  | a :: as, b :: bs => decide (a < b) || (decide (a = b) && ltL as bs)
abbrev PP := Int × List Nat
def ltP (x y : PP) : Bool := decide (x.1 < y.1) || (decide (x.1 = y.1) && ltL x.2 y.2)

theorem ltL_irr : ∀ a : List Nat, ltL a a = false
  | [] => rfl
  | a :: as => by simp [ltL, ltL_irr as]
theorem ltL_tot : ∀ a b : List Nat, ltL a b = false → ltL b a = false → a = b
  | [], [], _, _ => rfl
  | [], _ :: _, h, _ => by simp [ltL] at h
  | _ :: _, [], _, h => by simp [ltL] at h
  | a :: as, b :: bs, h1, h2 => by
    simp [ltL] at h1 h2
    have e : a = b := by omega
    subst e
    rw [ltL_tot as bs (by simpa using h1.2) (by simpa using h2.2)]
theorem ltP_irr (x : PP) : ltP x x = false := by simp [ltP, ltL_irr]
theorem ltP_tot (x y : PP) (h1 : ltP x y = false) (h2 : ltP y x = false) : x = y := by
  obtain ⟨a, p⟩ := x
  obtain ⟨b, q⟩ := y
  simp [ltP] at h1 h2
  have e : a = b := by omega
  subst e
  rw [ltL_tot p q (by simpa using h1.2) (by simpa using h2.2)]
theorem ltL_trans : ∀ a b c : List Nat, ltL a b = true → ltL b c = true → ltL a c = true
  | [], _, [], h1, h2 => by
    rename_i b
    cases b <;> simp [ltL] at h1 h2
  | [], _, _ :: _, _, _ => rfl
  | a :: as, [], _, h1, _ => by simp [ltL] at h1
  | a :: as, b :: bs, [], _, h2 => by simp [ltL] at h2
  | a :: as, b :: bs, c :: cs, h1, h2 => by
    simp [ltL] at h1 h2 ⊢
    rcases h1 with h1 | ⟨rfl, h1⟩
    · rcases h2 with h2 | ⟨rfl, h2⟩
      · exact .inl (by omega)
      · exact .inl h1
    · rcases h2 with h2 | ⟨rfl, h2⟩
      · exact .inl h2
      · exact .inr ⟨rfl, ltL_trans as bs cs h1 h2⟩
theorem ltP_trans (x y z : PP) (h1 : ltP x y = true) (h2 : ltP y z = true) : ltP x z = true := by
  simp [ltP] at h1 h2 ⊢
  rcases h1 with h1 | ⟨e1, h1⟩
  · rcases h2 with h2 | ⟨e2, h2⟩
    · exact .inl (by omega)
    · exact .inl (by omega)
  · rcases h2 with h2 | ⟨e2, h2⟩
    · exact .inl (by omega)
    · exact .inr ⟨by omega, ltL_trans _ _ _ h1 h2⟩
/-- x is at most y -/
def LeL (x y : List Nat) : Prop := ltL y x = false
def LeP (x y : PP) : Prop := ltP y x = false
theorem LeL.refl (x : List Nat) : LeL x x := ltL_irr x
theorem LeP.refl (x : PP) : LeP x x := ltP_irr x
theorem LeL.trans {x y z : List Nat} (h1 : LeL x y) (h2 : LeL y z) : LeL x z := by
  unfold LeL at *
  cases e : ltL z x with
  | false => rfl
  | true =>
    cases e2 : ltL x y with
    | true => rw [ltL_trans z x y e e2] at h2; cases h2
    | false => rw [ltL_tot x y e2 h1] at e; rw [e] at h2; cases h2
theorem LeP.trans {x y z : PP} (h1 : LeP x y) (h2 : LeP y z) : LeP x z := by
  unfold LeP at *
  cases e : ltP z x with
  | false => rfl
  | true =>
    cases e2 : ltP x y with
    | true => rw [ltP_trans z x y e e2] at h2; cases h2
    | false => rw [ltP_tot x y e2 h1] at e; rw [e] at h2; cases h2
theorem LeL.anti {x y : List Nat} (h1 : LeL x y) (h2 : LeL y x) : x = y := ltL_tot x y h2 h1
theorem LeP.anti {x y : PP} (h1 : LeP x y) (h2 : LeP y x) : x = y := ltP_tot x y h2 h1
theorem LeP.iff {x y : PP} : LeP x y ↔ x.1 < y.1 ∨ (x.1 = y.1 ∧ LeL x.2 y.2) := by
  unfold LeP LeL
  simp [ltP]
  constructor
  · rintro ⟨h1, h2⟩
    by_cases e : y.1 = x.1
    · exact .inr ⟨e.symm, h2 e⟩
    · exact .inl (by omega)
  · rintro (h | ⟨e, h⟩)
    · exact ⟨by omega, fun e => by omega⟩
    · exact ⟨by omega, fun _ => h⟩
theorem LeL.append : ∀ {p q r s : List Nat}, p.length = q.length → LeL p q → LeL r s → LeL (p ++ r) (q ++ s)
  | [], [], r, s, _, _, h => h
  | a :: p, b :: q, r, s, hl, h1, h2 => by
    unfold LeL at h1 h2 ⊢
    simp [ltL] at h1 ⊢
    refine ⟨h1.1, fun e => ?_⟩
    have := LeL.append (p := p) (q := q) (r := r) (s := s) (by simpa using hl) (h1.2 e) h2
    exact this

/-- x is the least of those in S -/
def Lst (S : PP → Prop) (x : PP) : Prop := S x ∧ ∀ y, S y → LeP x y
theorem Lst.uniq {S : PP → Prop} {x y : PP} (h1 : Lst S x) (h2 : Lst S y) : x = y := (h1.2 y h2.1).anti (h2.2 x h1.1)
theorem Lst.iff {S S' : PP → Prop} {x : PP} (h : ∀ y, S y ↔ S' y) : Lst S x ↔ Lst S' x := by
  constructor
  · exact fun ⟨a, b⟩ => ⟨(h x).mp a, fun y hy => b y ((h y).mpr hy)⟩
  · exact fun ⟨a, b⟩ => ⟨(h x).mpr a, fun y hy => b y ((h y).mp hy)⟩

/-- the parts laid end to end, with a fixed middle -/
theorem Lst.join {A B S : PP → Prop} {x y : PP} {mid : List Nat} {w : Int} {n : Nat} (ha : Lst A x) (hb : Lst B y) (hn : ∀ z, A z → z.2.length = n)
    (hS : ∀ z, S z ↔ ∃ a b, A a ∧ B b ∧ z = (a.1 + b.1 + w, a.2 ++ (mid ++ b.2))) : Lst S (x.1 + y.1 + w, x.2 ++ (mid ++ y.2)) := by
  refine ⟨(hS _).mpr ⟨x, y, ha.1, hb.1, rfl⟩, fun z hz => ?_⟩
  obtain ⟨a, b, h1, h2, rfl⟩ := (hS z).mp hz
  have q1 := LeP.iff.mp (ha.2 a h1)
  have q2 := LeP.iff.mp (hb.2 b h2)
  refine LeP.iff.mpr ?_
  show x.1 + y.1 + w < a.1 + b.1 + w ∨ _
  rcases q1 with q1 | ⟨e1, q1⟩
  · rcases q2 with q2 | ⟨e2, q2⟩ <;> exact .inl (by omega)
  · rcases q2 with q2 | ⟨e2, q2⟩
    · exact .inl (by omega)
    · refine .inr ⟨by show x.1 + y.1 + w = a.1 + b.1 + w; omega, ?_⟩
      exact LeL.append (by rw [hn _ ha.1, hn _ h1]) q1 (LeL.append rfl (LeL.refl _) q2)

/-! ### the least of lists -/
def minI : List Int → Int
  | [] => 0
  | x :: xs => xs.foldl (fun a y => if y < a then y else a) x
def minL : List (List Nat) → List Nat
  | [] => []
  | x :: xs => xs.foldl (fun a y => if ltL y a then y else a) x
def minP : List PP → PP
  | [] => (0, [])
  | x :: xs => xs.foldl (fun a y => if ltP y a then y else a) x

theorem minI_fold (xs : List Int) : ∀ x : Int, (xs.foldl (fun a y => if y < a then y else a) x ∈ x :: xs) ∧ ∀ y ∈ x :: xs, xs.foldl (fun a y => if y < a then y else a) x ≤ y := by
  induction xs with
  | nil => intro x; simp
  | cons z zs ih =>
    intro x
    rw [List.foldl_cons]
    obtain ⟨h1, h2⟩ := ih (if z < x then z else x)
    refine ⟨?_, fun y hy => ?_⟩
    · rcases List.mem_cons.mp h1 with e | e
      · rw [e]
        split
        · simp
        · simp
      · exact List.mem_cons_of_mem _ (List.mem_cons_of_mem _ e)
    · have h3 := h2 _ List.mem_cons_self
      rcases List.mem_cons.mp hy with rfl | hy
      · refine Int.le_trans h3 ?_
        split <;> omega
      · rcases List.mem_cons.mp hy with rfl | hy
        · refine Int.le_trans h3 ?_
          split <;> omega
        · exact h2 y (List.mem_cons_of_mem _ hy)
theorem minI_mem {xs : List Int} (h : xs ≠ []) : minI xs ∈ xs := by
  cases xs with
  | nil => exact absurd rfl h
  | cons x xs => exact (minI_fold xs x).1
theorem minI_le {xs : List Int} {y : Int} (h : y ∈ xs) : minI xs ≤ y := by
  cases xs with
  | nil => cases h
  | cons x xs => exact (minI_fold xs x).2 y h
theorem minI_is {xs : List Int} {m : Int} (h1 : m ∈ xs) (h2 : ∀ y ∈ xs, m ≤ y) : minI xs = m := by
  have h3 : xs ≠ [] := by rintro rfl; cases h1
  have h4 := minI_le h1
  have h5 := h2 _ (minI_mem h3)
  omega
theorem minL_fold (xs : List (List Nat)) : ∀ x, (xs.foldl (fun a y => if ltL y a then y else a) x ∈ x :: xs) ∧ ∀ y ∈ x :: xs, LeL (xs.foldl (fun a y => if ltL y a then y else a) x) y := by
  induction xs with
  | nil => intro x; simp; exact LeL.refl x
  | cons z zs ih =>
    intro x
    rw [List.foldl_cons]
    obtain ⟨h1, h2⟩ := ih (if ltL z x then z else x)
    have h4 : LeL (if ltL z x then z else x) x ∧ LeL (if ltL z x then z else x) z := by
      cases e : ltL z x with
      | true =>
        rw [if_pos rfl]
        refine ⟨?_, LeL.refl z⟩
        unfold LeL
        cases e2 : ltL x z with
        | false => rfl
        | true => have := ltL_trans x z x e2 e; rw [ltL_irr] at this; cases this
      | false =>
        rw [if_neg (by simp)]
        exact ⟨LeL.refl x, e⟩
    refine ⟨?_, fun y hy => ?_⟩
    · rcases List.mem_cons.mp h1 with e | e
      · rw [e]
        split
        · simp
        · simp
      · exact List.mem_cons_of_mem _ (List.mem_cons_of_mem _ e)
    · have h3 := h2 _ List.mem_cons_self
      rcases List.mem_cons.mp hy with rfl | hy
      · exact h3.trans h4.1
      · rcases List.mem_cons.mp hy with rfl | hy
        · exact h3.trans h4.2
        · exact h2 y (List.mem_cons_of_mem _ hy)
theorem minL_mem {xs : List (List Nat)} (h : xs ≠ []) : minL xs ∈ xs := by
  cases xs with
  | nil => exact absurd rfl h
  | cons x xs => exact (minL_fold xs x).1
theorem minL_le {xs : List (List Nat)} {y : List Nat} (h : y ∈ xs) : LeL (minL xs) y := by
  cases xs with
  | nil => cases h
  | cons x xs => exact (minL_fold xs x).2 y h
theorem minP_fold (xs : List PP) : ∀ x, (xs.foldl (fun a y => if ltP y a then y else a) x ∈ x :: xs) ∧ ∀ y ∈ x :: xs, LeP (xs.foldl (fun a y => if ltP y a then y else a) x) y := by
  induction xs with
  | nil => intro x; simp; exact LeP.refl x
  | cons z zs ih =>
    intro x
    rw [List.foldl_cons]
    obtain ⟨h1, h2⟩ := ih (if ltP z x then z else x)
    have h4 : LeP (if ltP z x then z else x) x ∧ LeP (if ltP z x then z else x) z := by
      cases e : ltP z x with
      | true =>
        rw [if_pos rfl]
        refine ⟨?_, LeP.refl z⟩
        unfold LeP
        cases e2 : ltP x z with
        | false => rfl
        | true => have := ltP_trans x z x e2 e; rw [ltP_irr] at this; cases this
      | false =>
        rw [if_neg (by simp)]
        exact ⟨LeP.refl x, e⟩
    refine ⟨?_, fun y hy => ?_⟩
    · rcases List.mem_cons.mp h1 with e | e
      · rw [e]
        split
        · simp
        · simp
      · exact List.mem_cons_of_mem _ (List.mem_cons_of_mem _ e)
    · have h3 := h2 _ List.mem_cons_self
      rcases List.mem_cons.mp hy with rfl | hy
      · exact h3.trans h4.1
      · rcases List.mem_cons.mp hy with rfl | hy
        · exact h3.trans h4.2
        · exact h2 y (List.mem_cons_of_mem _ hy)
theorem minP_mem {xs : List PP} (h : xs ≠ []) : minP xs ∈ xs := by
  cases xs with
  | nil => exact absurd rfl h
  | cons x xs => exact (minP_fold xs x).1
theorem minP_le {xs : List PP} {y : PP} (h : y ∈ xs) : LeP (minP xs) y := by
  cases xs with
  | nil => cases h
  | cons x xs => exact (minP_fold xs x).2 y h
theorem minP_lst {xs : List PP} (h : xs ≠ []) : Lst (fun x => x ∈ xs) (minP xs) := ⟨minP_mem h, fun _ hy => minP_le hy⟩
end K58
end
section
set_option linter.all false
set_option autoImplicit false
namespace K58

/-! ### sums of looks, the cost of an hour -/
structure Tk where
  W : Nat → Nat → Int
  L : Nat → Nat → Int
variable (T : Tk)

/-- the looks of a begin at the hours f, f + 1, .., below h -/
def lk (b f h : Nat) : Int := ((List.range' f (h - f)).map (T.L b)).sum
theorem lk_nil {b f h : Nat} (e : h ≤ f) : lk T b f h = 0 := by
  unfold lk
  rw [show h - f = 0 by omega]
  rfl
theorem sum_app (a b : List Int) : (a ++ b).sum = a.sum + b.sum := by
  induction a with
  | nil => simp
  | cons x xs ih => rw [List.cons_append, List.sum_cons, List.sum_cons, ih]; omega
theorem lk_snoc {b f h : Nat} (e : f ≤ h) : lk T b f (h + 1) = lk T b f h + T.L b h := by
  unfold lk
  rw [show h + 1 - f = (h - f) + 1 by omega, List.range'_concat, List.map_append, sum_app]
  rw [show f + 1 * (h - f) = h by omega]
  simp
theorem lk_cat {b f m h : Nat} (e1 : f ≤ m) (e2 : m ≤ h) : lk T b f h = lk T b f m + lk T b m h := by
  obtain ⟨d, rfl⟩ := Nat.exists_eq_add_of_le e2
  induction d with
  | zero =>
    show lk T b f m = lk T b f m + lk T b m m
    rw [lk_nil T (f := m) (Nat.le_refl _)]
    omega
  | succ d ih =>
    rw [show m + (d + 1) = (m + d) + 1 by omega, lk_snoc T (by omega), lk_snoc T (by omega), ih (by omega)]
    omega
theorem lk_one {b h : Nat} : lk T b h (h + 1) = T.L b h := by
  rw [lk_snoc T (Nat.le_refl _), lk_nil T (Nat.le_refl _)]
  omega
/-- the looks of some begins at some hours -/
def elk (bs : List Nat) (f h : Nat) : Int := (bs.map fun b => lk T b f h).sum
theorem elk_nil {bs : List Nat} {f h : Nat} (e : h ≤ f) : elk T bs f h = 0 := by
  unfold elk
  induction bs with
  | nil => rfl
  | cons b bs ih => rw [List.map_cons, List.sum_cons, ih, lk_nil T e]; rfl
theorem elk_cat {bs : List Nat} {f m h : Nat} (e1 : f ≤ m) (e2 : m ≤ h) : elk T bs f h = elk T bs f m + elk T bs m h := by
  unfold elk
  induction bs with
  | nil => rfl
  | cons b bs ih => rw [List.map_cons, List.sum_cons, ih, List.map_cons, List.sum_cons, List.map_cons, List.sum_cons, lk_cat T e1 e2]; omega
theorem elk_one {bs : List Nat} {h : Nat} : elk T bs h (h + 1) = (bs.map fun b => T.L b h).sum := by
  unfold elk
  congr 1
  exact List.map_congr_left fun b _ => lk_one T
theorem elk_snoc {bs : List Nat} {f h : Nat} (e : f ≤ h) : elk T bs f (h + 1) = elk T bs f h + (bs.map fun b => T.L b h).sum := by
  rw [elk_cat T e (Nat.le_succ h), elk_one]

/-! ### plans hour by hour -/
/-- from the begins bs0 at the hour f, at most k runs: behind the hours up to h the plan's part p, its cost c, the begins bs -/
inductive Run (k : Nat) (bs0 : List Nat) (f : Nat) : Nat → List Nat → Int → List Nat → Prop
  | nil : Run k bs0 f f [] 0 bs0
  | step {h : Nat} {p : List Nat} {c : Int} {bs : List Nat} (a : Nat) : Run k bs0 f h p c bs → a < k → a ≤ bs.length →
      Run k bs0 f (h + 1) (p ++ [(bs ++ [h]).getD a 0]) (c + (T.W ((bs ++ [h]).getD a 0) h + (((bs ++ [h]).take (a + 1)).map fun b => T.L b h).sum)) ((bs ++ [h]).take (a + 1))
variable {T}
theorem Run.le {k : Nat} {bs0 : List Nat} {f h : Nat} {p : List Nat} {c : Int} {bs : List Nat} (r : Run T k bs0 f h p c bs) : f ≤ h ∧ p.length = h - f := by
  induction r with
  | nil => simp
  | step a r h1 h2 ih =>
    obtain ⟨i1, i2⟩ := ih
    refine ⟨by omega, ?_⟩
    rw [List.length_append, i2, List.length_singleton]
    omega
theorem getD_app_l {bs cs : List Nat} {a : Nat} (h : a < bs.length) : (bs ++ cs).getD a 0 = bs.getD a 0 := by
  rw [List.getD_eq_getElem?_getD, List.getD_eq_getElem?_getD, List.getElem?_append_left h]
theorem getD_app_r {bs cs : List Nat} {a : Nat} (h : bs.length ≤ a) : (bs ++ cs).getD a 0 = cs.getD (a - bs.length) 0 := by
  rw [List.getD_eq_getElem?_getD, List.getD_eq_getElem?_getD, List.getElem?_append_right h]

/-- the last writing of an elder run: t1 is the hour behind it, m elder runs stand -/
inductive El (T : Tk) (k : Nat) (bs0 : List Nat) (f : Nat) : Nat → Nat → List Nat → Int → Prop
  | base : El T k bs0 f f bs0.length [] 0
  | write {t1 m h : Nat} {p1 p2 : List Nat} {c1 c2 : Int} {S : List Nat} (a : Nat) : El T k bs0 f t1 m p1 c1 → Run T (k - m) [] t1 h p2 c2 S → a < m → a < k →
      El T k bs0 f (h + 1) (a + 1) (p1 ++ p2 ++ [bs0.getD a 0]) (c1 + c2 + elk T (bs0.take m) t1 h + T.W (bs0.getD a 0) h + elk T (bs0.take (a + 1)) h (h + 1))
theorem El.le {k : Nat} {bs0 : List Nat} {f t1 m : Nat} {p : List Nat} {c : Int} (e : El T k bs0 f t1 m p c) : f ≤ t1 ∧ p.length = t1 - f ∧ m ≤ bs0.length := by
  induction e with
  | base => simp
  | write a e r h1 h2 ih =>
    obtain ⟨i1, i2, i3⟩ := ih
    obtain ⟨j1, j2⟩ := r.le
    refine ⟨by omega, ?_, by omega⟩
    rw [List.length_append, List.length_append, i2, j2, List.length_singleton]
    omega
/-- a run is an elder writing and a fill behind it -/
def Way (T : Tk) (k : Nat) (bs0 : List Nat) (f h : Nat) (m : Nat) (p : List Nat) (c : Int) (bs : List Nat) : Prop :=
  ∃ t1 p1 c1 p2 c2 S, El T k bs0 f t1 m p1 c1 ∧ Run T (k - m) [] t1 h p2 c2 S ∧ p = p1 ++ p2 ∧ c = c1 + c2 + elk T (bs0.take m) t1 h ∧ bs = bs0.take m ++ S
theorem Run.way {k : Nat} {bs0 : List Nat} {f h : Nat} {p : List Nat} {c : Int} {bs : List Nat} (r : Run T k bs0 f h p c bs) : ∃ m, Way T k bs0 f h m p c bs := by
  induction r with
  | nil =>
    refine ⟨bs0.length, f, [], 0, [], 0, [], .base, .nil, rfl, ?_, ?_⟩
    · rw [elk_nil T (Nat.le_refl _)]; rfl
    · rw [List.take_length, List.append_nil]
  | @step h p c bs a r h1 h2 ih =>
    obtain ⟨m, t1, p1, c1, p2, c2, S, e, r2, rfl, rfl, rfl⟩ := ih
    obtain ⟨l1, l2, l3⟩ := e.le
    obtain ⟨l4, l5⟩ := r2.le
    have lm : (bs0.take m).length = m := by rw [List.length_take]; omega
    by_cases ha : a < m
    · refine ⟨a + 1, h + 1, _, _, [], 0, [], .write a e r2 ha h1, .nil, ?_, ?_, ?_⟩
      · rw [List.append_nil]
        congr 2
        rw [List.append_assoc, getD_app_l (by rw [lm]; exact ha)]
        simp [ha]
      · rw [elk_nil T (Nat.le_refl (h + 1)), elk_one]
        have e1 : (bs0.take m ++ S ++ [h]).getD a 0 = bs0.getD a 0 := by
          rw [List.append_assoc, getD_app_l (by rw [lm]; exact ha)]
          simp [ha]
        have e2 : (bs0.take m ++ S ++ [h]).take (a + 1) = bs0.take (a + 1) := by
          rw [List.append_assoc, List.take_append_of_le_length (by rw [lm]; omega), List.take_take]
          congr 1
          omega
        rw [e1, e2]
        omega
      · rw [List.append_nil, List.append_assoc, List.take_append_of_le_length (by rw [lm]; omega), List.take_take]
        congr 1
        omega
    · have e0 : (bs0.take m ++ S ++ [h]).getD a 0 = (S ++ [h]).getD (a - m) 0 := by
        rw [List.append_assoc, getD_app_r (by rw [lm]; omega), lm]
      have e3 : (bs0.take m ++ S ++ [h]).take (a + 1) = bs0.take m ++ (S ++ [h]).take (a - m + 1) := by
        rw [List.append_assoc, List.take_append, lm, show a + 1 - m = a - m + 1 by omega, List.take_take, show min (a + 1) m = m by omega]
      rw [List.length_append, lm] at h2
      refine ⟨m, t1, p1, c1, _, _, _, e, .step (a - m) r2 (by omega) (by omega), ?_, ?_, ?_⟩
      · rw [e0, List.append_assoc]
      · rw [e0, e3, List.map_append, sum_app, elk_snoc T l4]
        omega
      · exact e3
theorem El.run {k : Nat} {bs0 : List Nat} {f t1 m : Nat} {p : List Nat} {c : Int} (e : El T k bs0 f t1 m p c) : Run T k bs0 f t1 p c (bs0.take m) ∧
    ∀ {h : Nat} {p2 : List Nat} {c2 : Int} {S : List Nat}, Run T (k - m) [] t1 h p2 c2 S → Run T k bs0 f h (p ++ p2) (c + c2 + elk T (bs0.take m) t1 h) (bs0.take m ++ S) := by
  have fill : ∀ {t1 m : Nat} {p : List Nat} {c : Int}, m ≤ bs0.length → Run T k bs0 f t1 p c (bs0.take m) → ∀ {h : Nat} {p2 : List Nat} {c2 : Int} {S : List Nat}, Run T (k - m) [] t1 h p2 c2 S →
      Run T k bs0 f h (p ++ p2) (c + c2 + elk T (bs0.take m) t1 h) (bs0.take m ++ S) := by
    intro t1 m p c hm r h p2 c2 S r2
    have lm : (bs0.take m).length = m := by rw [List.length_take]; omega
    induction r2 with
    | nil =>
      rw [elk_nil T (Nat.le_refl _), List.append_nil, List.append_nil]
      simpa using r
    | @step h p2 c2 S a r2 h1 h2 ih =>
      have l4 := r2.le.1
      have e0 : (bs0.take m ++ S ++ [h]).getD (a + m) 0 = (S ++ [h]).getD a 0 := by
        rw [List.append_assoc, getD_app_r (by rw [lm]; omega), lm, show a + m - m = a by omega]
      have e3 : (bs0.take m ++ S ++ [h]).take (a + m + 1) = bs0.take m ++ (S ++ [h]).take (a + 1) := by
        rw [List.append_assoc, List.take_append, lm, show a + m + 1 - m = a + 1 by omega, List.take_take, show min (a + m + 1) m = m by omega]
      have q := Run.step (a + m) ih (by omega) (by rw [List.length_append, lm]; omega)
      rw [e0, e3, List.map_append, sum_app] at q
      rw [elk_snoc T l4, ← List.append_assoc]
      have ec : c + c2 + elk T (bs0.take m) t1 h + (T.W ((S ++ [h]).getD a 0) h + (((bs0.take m).map fun b => T.L b h).sum + (((S ++ [h]).take (a + 1)).map fun b => T.L b h).sum)) =
          c + (c2 + (T.W ((S ++ [h]).getD a 0) h + (((S ++ [h]).take (a + 1)).map fun b => T.L b h).sum)) + (elk T (bs0.take m) t1 h + ((bs0.take m).map fun b => T.L b h).sum) := by omega
      rw [← ec]
      exact q
  suffices hr : Run T k bs0 f t1 p c (bs0.take m) from ⟨hr, fun r2 => fill e.le.2.2 hr r2⟩
  induction e with
  | base => rw [List.take_length]; exact .nil
  | @write t1 m h p1 p2 c1 c2 S a e r2 h1 h2 ih =>
    obtain ⟨l1, l2, l3⟩ := e.le
    have lm : (bs0.take m).length = m := by rw [List.length_take]; omega
    have q := Run.step a (fill l3 ih r2) h2 (by rw [List.length_append, lm]; omega)
    have e1 : (bs0.take m ++ S ++ [h]).getD a 0 = bs0.getD a 0 := by
      rw [List.append_assoc, getD_app_l (by rw [lm]; exact h1)]
      simp [h1]
    have e2 : (bs0.take m ++ S ++ [h]).take (a + 1) = bs0.take (a + 1) := by
      rw [List.append_assoc, List.take_append_of_le_length (by rw [lm]; omega), List.take_take]
      congr 1
      omega
    rw [e1, e2] at q
    rw [elk_one]
    have ec : c1 + c2 + elk T (bs0.take m) t1 h + (T.W (bs0.getD a 0) h + ((bs0.take (a + 1)).map fun b => T.L b h).sum) = c1 + c2 + elk T (bs0.take m) t1 h + T.W (bs0.getD a 0) h + ((bs0.take (a + 1)).map fun b => T.L b h).sum := by omega
    rw [← ec]
    exact q
theorem run_iff {k : Nat} {bs0 : List Nat} {f h : Nat} {p : List Nat} {c : Int} {bs : List Nat} : Run T k bs0 f h p c bs ↔ ∃ m, Way T k bs0 f h m p c bs := by
  constructor
  · exact Run.way
  · rintro ⟨m, t1, p1, c1, p2, c2, S, e, r2, rfl, rfl, rfl⟩
    exact e.run.2 r2

/-! ### spans -/
/-- the plans of the hours f to h - 1 by themselves (h > f) are those from the begins [f] on -/
theorem run_first {k f h : Nat} {p : List Nat} {c : Int} {bs : List Nat} (hk : 1 ≤ k) (hf : f < h) : Run T k [] f h p c bs ↔ ∃ p' c', Run T k [f] (f + 1) h p' c' bs ∧ p = f :: p' ∧ c = T.W f f + T.L f f + c' := by
  constructor
  · intro r
    induction r with
    | nil => omega
    | @step h p c bs a r h1 h2 ih =>
      by_cases e : f < h
      · obtain ⟨p', c', r', rfl, rfl⟩ := ih e
        refine ⟨_, _, .step a r' h1 h2, rfl, ?_⟩
        omega
      · have : h = f := by
          have := r.le.1
          omega
        subst this
        have hp : p = [] ∧ c = 0 ∧ bs = [] := by
          cases r with
          | nil => exact ⟨rfl, rfl, rfl⟩
          | step a r h1 h2 =>
            have := r.le.1
            omega
        obtain ⟨rfl, rfl, rfl⟩ := hp
        have ha : a = 0 := by simpa using h2
        subst ha
        refine ⟨[], 0, .nil, rfl, ?_⟩
        simp
  · rintro ⟨p', c', r, rfl, rfl⟩
    have r0 : Run T k [] f (f + 1) [f] (T.W f f + T.L f f) [f] := by
      have q := Run.step (T := T) (k := k) (bs0 := []) (f := f) 0 .nil (by omega) (by simp)
      simpa using q
    induction r with
    | nil => simpa using r0
    | @step h p c bs a r h1 h2 ih =>
      have := r.le.1
      have q := Run.step a (ih (by omega)) h1 h2
      have ec : T.W f f + T.L f f + c + (T.W ((bs ++ [h]).getD a 0) h + (((bs ++ [h]).take (a + 1)).map fun b => T.L b h).sum) = T.W f f + T.L f f + (c + (T.W ((bs ++ [h]).getD a 0) h + (((bs ++ [h]).take (a + 1)).map fun b => T.L b h).sum)) := by omega
      rw [ec] at q
      exact q
theorem run_same {k f h : Nat} {bs0 p : List Nat} {c : Int} {bs : List Nat} (r : Run T k bs0 f h p c bs) (e : h = f) : p = [] ∧ c = 0 ∧ bs = bs0 := by
  cases r with
  | nil => exact ⟨rfl, rfl, rfl⟩
  | step a r h1 h2 =>
    have := r.le.1
    omega
/-- the costs and plans of the hours f to h - 1 by themselves -/
def Span (T : Tk) (k f h : Nat) (x : PP) : Prop := ∃ bs, Run T k [] f h x.2 x.1 bs
theorem span_nil {k f : Nat} {x : PP} : Span T k f f x ↔ x = (0, []) := by
  constructor
  · obtain ⟨c, p⟩ := x
    rintro ⟨bs, r⟩
    obtain ⟨rfl, rfl, _⟩ := run_same r rfl
    rfl
  · rintro rfl
    exact ⟨[], .nil⟩
theorem span_zero {f h : Nat} {x : PP} (e : f < h) : ¬ Span T 0 f h x := by
  obtain ⟨c, p⟩ := x
  rintro ⟨bs, r⟩
  have r : Run T 0 [] f h p c bs := r
  cases r with
  | nil => omega
  | step a r h1 h2 => omega
theorem span_len {k f h : Nat} {x : PP} (s : Span T k f h x) : x.2.length = h - f := by
  obtain ⟨bs, r⟩ := s
  exact r.le.2
/-- the last writing of the first run parts a span -/
theorem span_top {k f h : Nat} {x : PP} (hk : 1 ≤ k) (hf : f < h) : Span T k f h x ↔ ∃ top, f ≤ top ∧ top < h ∧ ∃ a b, Span T k f top a ∧ Span T (k - 1) (top + 1) h b ∧
    x = (a.1 + b.1 + (T.W f top + lk T f top h), a.2 ++ ([f] ++ b.2)) := by
  constructor
  · rintro ⟨bs, r⟩
    obtain ⟨c, p⟩ := x
    obtain ⟨p', c', r', rfl, rfl⟩ := (run_first hk hf).mp r
    obtain ⟨m, t1, p1, c1, p2, c2, S, e, r2, rfl, rfl, rfl⟩ := run_iff.mp r'
    cases e with
    | base =>
      refine ⟨f, Nat.le_refl _, hf, (0, []), (c2, p2), span_nil.mpr rfl, ⟨S, r2⟩, ?_⟩
      refine Prod.ext ?_ rfl
      have e1 : elk T ([f].take [f].length) (f + 1) h = lk T f (f + 1) h := by
        unfold elk
        simp
      have e2 : lk T f f h = T.L f f + lk T f (f + 1) h := by
        rw [lk_cat T (Nat.le_succ f) hf, lk_one]
      show T.W f f + T.L f f + (0 + c2 + elk T ([f].take [f].length) (f + 1) h) = 0 + c2 + (T.W f f + lk T f f h)
      rw [e1, e2]
      omega
    | @write t0 m h0 p1 p3 c1 c3 S3 a e r3 h1 h2 =>
      have l1 := e.le
      have l2 := r2.le
      have l3 := r3.le
      have hm : m = 1 := by
        have := l1.2.2
        simp at this
        omega
      subst hm
      have ha : a = 0 := by omega
      subst ha
      have rr := e.run.2 r3
      refine ⟨h0, by omega, by omega, (T.W f f + T.L f f + (c1 + c3 + elk T [f] t0 h0), f :: (p1 ++ p3)), (c2, p2), ⟨_, (run_first hk (by omega)).mpr ⟨_, _, rr, rfl, rfl⟩⟩, ⟨S, r2⟩, ?_⟩
      refine Prod.ext ?_ ?_
      · show T.W f f + T.L f f + (c1 + c3 + elk T ([f].take 1) t0 h0 + T.W f h0 + elk T ([f].take 1) h0 (h0 + 1) + c2 + elk T ([f].take 1) (h0 + 1) h) = T.W f f + T.L f f + (c1 + c3 + elk T [f] t0 h0) + c2 + (T.W f h0 + lk T f h0 h)
        have e1 : ∀ a b, elk T ([f].take 1) a b = lk T f a b := fun a b => by
          unfold elk
          simp
        have e2 : ∀ a b, elk T [f] a b = lk T f a b := fun a b => by
          unfold elk
          simp
        rw [e1, e1, e1, e2, lk_cat T (b := f) (f := h0) (m := h0 + 1) (h := h) (by omega) (by omega)]
        omega
      · show f :: (p1 ++ p3 ++ [f] ++ p2) = f :: (p1 ++ p3) ++ ([f] ++ p2)
        simp
  · rintro ⟨top, h1, h2, ⟨c1, p1⟩, ⟨c2, p2⟩, ⟨bs, r⟩, ⟨S, r2⟩, rfl⟩
    refine ⟨f :: S, (run_first hk hf).mpr ?_⟩
    by_cases e : f = top
    · subst e
      have q := span_nil.mp ⟨bs, r⟩
      cases q
      refine ⟨p2, c2 + lk T f (f + 1) h, ?_, rfl, ?_⟩
      · have q := (El.base (T := T) (k := k) (bs0 := [f]) (f := f + 1)).run.2 r2
        have e1 : elk T ([f].take [f].length) (f + 1) h = lk T f (f + 1) h := by
          unfold elk
          simp
        rw [e1] at q
        simpa using q
      · show 0 + c2 + (T.W f f + lk T f f h) = _
        rw [lk_cat T (b := f) (f := f) (m := f + 1) (h := h) (by omega) (by omega), lk_one]
        omega
    · obtain ⟨p', c', r', e1, e2⟩ := (run_first hk (by omega)).mp r
      obtain ⟨m, t1, p3, c3, p4, c4, S4, el, r4, rfl, rfl, rfl⟩ := run_iff.mp r'
      have hm : m = 1 := by
        have := el.le.2.2
        simp at this
        cases el with
        | base => rfl
        | write a _ _ _ _ => omega
      subst hm
      have q := (El.write 0 el r4 (by omega) (by omega)).run.2 r2
      have e3 : ∀ a b, elk T ([f].take 1) a b = lk T f a b := fun a b => by
        unfold elk
        simp
      refine ⟨_, _, q, ?_, ?_⟩
      · show p1 ++ ([f] ++ p2) = f :: (p3 ++ p4 ++ [f] ++ p2)
        have e1 : p1 = f :: (p3 ++ p4) := e1
        rw [e1]
        simp
      · have e2 : c1 = T.W f f + T.L f f + (c3 + c4 + elk T ([f].take 1) t1 top) := e2
        show c1 + c2 + (T.W f top + lk T f top h) = T.W f f + T.L f f + (c3 + c4 + elk T ([f].take 1) t1 top + T.W f top + elk T ([f].take (0 + 1)) top (top + 1) + c2 + elk T ([f].take (0 + 1)) (top + 1) h)
        rw [e2, e3, show 0 + 1 = 1 from rfl, e3, e3, lk_cat T (b := f) (f := top) (m := top + 1) (h := h) (by omega) (by omega)]
        omega
end K58
end
section
set_option linter.all false
set_option autoImplicit false
namespace K58
variable {T : Tk}

/-! ### no more runs than hours -/
theorem Run.wide {k f h : Nat} {p : List Nat} {c : Int} {bs : List Nat} (r : Run T k [] f h p c bs) : bs.length ≤ h - f := by
  induction r with
  | nil => simp
  | step a r h1 h2 ih =>
    have := r.le.1
    rw [List.length_take, List.length_append]
    simp
    omega
theorem Run.mono {k k' f h : Nat} {bs0 p : List Nat} {c : Int} {bs : List Nat} (hk : k ≤ k') (r : Run T k bs0 f h p c bs) : Run T k' bs0 f h p c bs := by
  induction r with
  | nil => exact .nil
  | step a r h1 h2 ih => exact .step a ih (by omega) h2
theorem Run.cap {k f h H : Nat} {p : List Nat} {c : Int} {bs : List Nat} (r : Run T k [] f h p c bs) (hH : h ≤ H) : Run T (min k (H - f)) [] f h p c bs := by
  induction r with
  | nil => exact .nil
  | step a r h1 h2 ih =>
    have h3 := r.wide
    have h4 := r.le.1
    exact .step a (ih (by omega)) (by omega) h2
theorem span_cap {k f h : Nat} {x : PP} : Span T (min k (h - f)) f h x ↔ Span T k f h x := by
  constructor
  · rintro ⟨bs, r⟩
    exact ⟨bs, r.mono (Nat.min_le_left _ _)⟩
  · rintro ⟨bs, r⟩
    exact ⟨bs, r.cap (Nat.le_refl _)⟩

/-! ### the solver's mirror -/
def rg (f l : Nat) : List Nat := List.range' f (l + 1 - f)
theorem mem_rg {f l t : Nat} : t ∈ rg f l ↔ f ≤ t ∧ t ≤ l := by
  unfold rg
  rw [List.mem_range'_1]
  omega
variable (T)
def aheadO (o : Nat → Nat → Nat → Int) (kk f top : Nat) : Int := if top = f then T.W f f else o kk f (top - 1) + T.W f top
def behindO (o : Nat → Nat → Nat → Int) (kk top l : Nat) : Option Int := if top = l then some 0 else if kk > 1 then some (o (kk - 1) (top + 1) l + lk T (top + 1) (top + 1) (l + 1)) else none
def topO (o : Nat → Nat → Nat → Int) (kk f l top : Nat) : Option Int := (behindO T o kk top l).map fun b => aheadO T o kk f top + b
def ownF : Nat → Nat → Nat → Nat → Int
  | 0, _, _, _ => 0
  | n + 1, k, f, l => minI ((rg f l).filterMap (topO T (ownF n) (min k (l + 1 - f)) f l))
def planF : Nat → Nat → Nat → Nat → List Nat
  | 0, _, _, _ => []
  | n + 1, k, f, l => minL (((rg f l).filter fun top => decide (topO T (ownF T n) (min k (l + 1 - f)) f l top = some (ownF T (n + 1) k f l))).map fun top =>
      (if top > f then planF n (min k (l + 1 - f)) f (top - 1) else []) ++ [f] ++ (if top < l then planF n (min k (l + 1 - f) - 1) (top + 1) l else []))
def own (k f l : Nat) : Int := ownF T (l + 1 - f) k f l
def plan (k f l : Nat) : List Nat := planF T (l + 1 - f) k f l
variable {T}

/-- the least of many: the least cost, the least plan of this cost -/
theorem lst_union {R : List Nat} {S : Nat → PP → Prop} {v : Nat → Option Int} {g : Nat → List Nat} {w : Int} (h1 : ∀ t ∈ R, ∀ x, v t = some x → Lst (S t) (x + w, g t)) (h0 : ∀ t ∈ R, v t = none → ∀ x, ¬ S t x)
    (hne : ∃ t ∈ R, ∃ x, v t = some x) : Lst (fun x => ∃ t ∈ R, S t x) (minI (R.filterMap v) + w, minL ((R.filter fun t => decide (v t = some (minI (R.filterMap v)))).map g)) := by
  obtain ⟨t0, ht0, x0, e0⟩ := hne
  have hm : minI (R.filterMap v) ∈ R.filterMap v := minI_mem (List.ne_nil_of_mem (List.mem_filterMap.mpr ⟨t0, ht0, e0⟩))
  obtain ⟨t1, ht1, e1⟩ := List.mem_filterMap.mp hm
  have hq : minL ((R.filter fun t => decide (v t = some (minI (R.filterMap v)))).map g) ∈ (R.filter fun t => decide (v t = some (minI (R.filterMap v)))).map g :=
    minL_mem (List.ne_nil_of_mem (List.mem_map.mpr ⟨t1, List.mem_filter.mpr ⟨ht1, by simpa using e1⟩, rfl⟩))
  obtain ⟨t2, ht2, e2⟩ := List.mem_map.mp hq
  obtain ⟨ht3, e3⟩ := List.mem_filter.mp ht2
  have e3 : v t2 = some (minI (R.filterMap v)) := by simpa using e3
  refine ⟨⟨t2, ht3, ?_⟩, fun y ⟨t, ht, hy⟩ => ?_⟩
  · rw [← e2]
    exact (h1 t2 ht3 _ e3).1
  · cases e : v t with
    | none => exact absurd hy (h0 t ht e y)
    | some x =>
      have hl := (h1 t ht x e).2 y hy
      refine LeP.trans (LeP.iff.mpr ?_) hl
      have hx : minI (R.filterMap v) ≤ x := minI_le (List.mem_filterMap.mpr ⟨t, ht, e⟩)
      by_cases hc : minI (R.filterMap v) < x
      · exact .inl (by show _ + w < x + w; omega)
      · have ex : x = minI (R.filterMap v) := by omega
        refine .inr ⟨by show _ + w = x + w; omega, ?_⟩
        refine minL_le (List.mem_map.mpr ⟨t, List.mem_filter.mpr ⟨ht, ?_⟩, rfl⟩)
        rw [ex] at e
        simpa using e

theorem lst_F : ∀ (n k f l : Nat), 1 ≤ k → f ≤ l → l + 1 - f ≤ n → Lst (Span T k f (l + 1)) (ownF T n k f l + lk T f f (l + 1), planF T n k f l)
  | 0, k, f, l, _, _, h => by omega
  | n + 1, k, f, l, hk, hf, hn => by
    have hkk : 1 ≤ min k (l + 1 - f) := by omega
    have ih := lst_F n
    -- the parts ahead and behind
    have hA : ∀ top, f ≤ top → top ≤ l → Lst (Span T (min k (l + 1 - f)) f top) (if top = f then 0 else ownF T n (min k (l + 1 - f)) f (top - 1) + lk T f f top, if top > f then planF T n (min k (l + 1 - f)) f (top - 1) else []) := by
      intro top h1 h2
      by_cases e : top = f
      · subst e
        rw [if_pos rfl, if_neg (by omega)]
        exact ⟨span_nil.mpr rfl, fun y hy => by rw [span_nil.mp hy]; exact LeP.refl _⟩
      · rw [if_neg e, if_pos (by omega)]
        have q := ih (min k (l + 1 - f)) f (top - 1) hkk (by omega) (by omega)
        rw [show top - 1 + 1 = top by omega] at q
        exact q
    have hB : ∀ top, f ≤ top → top ≤ l → ∀ b, behindO T (ownF T n) (min k (l + 1 - f)) top l = some b → Lst (Span T (min k (l + 1 - f) - 1) (top + 1) (l + 1)) (b, if top < l then planF T n (min k (l + 1 - f) - 1) (top + 1) l else []) := by
      intro top h1 h2 b hb
      unfold behindO at hb
      by_cases e : top = l
      · subst e
        rw [if_pos rfl] at hb
        cases hb
        rw [if_neg (by omega)]
        exact ⟨span_nil.mpr rfl, fun y hy => by rw [span_nil.mp hy]; exact LeP.refl _⟩
      · rw [if_neg e] at hb
        by_cases ek : min k (l + 1 - f) > 1
        · rw [if_pos ek] at hb
          cases hb
          rw [if_pos (by omega)]
          exact ih _ _ _ (by omega) (by omega) (by omega)
        · rw [if_neg ek] at hb
          cases hb
    have hB0 : ∀ top, f ≤ top → top ≤ l → behindO T (ownF T n) (min k (l + 1 - f)) top l = none → ∀ x, ¬ Span T (min k (l + 1 - f) - 1) (top + 1) (l + 1) x := by
      intro top h1 h2 hb x hx
      unfold behindO at hb
      by_cases e : top = l
      · rw [if_pos e] at hb
        cases hb
      · rw [if_neg e] at hb
        by_cases ek : min k (l + 1 - f) > 1
        · rw [if_pos ek] at hb
          cases hb
        · rw [show min k (l + 1 - f) - 1 = 0 by omega] at hx
          exact span_zero (by omega) hx
    have hL := lst_union (R := rg f l) (S := fun top x => ∃ a b, Span T (min k (l + 1 - f)) f top a ∧ Span T (min k (l + 1 - f) - 1) (top + 1) (l + 1) b ∧ x = (a.1 + b.1 + (T.W f top + lk T f top (l + 1)), a.2 ++ ([f] ++ b.2)))
      (v := topO T (ownF T n) (min k (l + 1 - f)) f l)
      (g := fun top => (if top > f then planF T n (min k (l + 1 - f)) f (top - 1) else []) ++ [f] ++ (if top < l then planF T n (min k (l + 1 - f) - 1) (top + 1) l else []))
      (w := lk T f f (l + 1)) ?_ ?_ ?_
    · refine (Lst.iff fun y => ?_).mp hL
      rw [← span_cap (k := k), span_top hkk (by omega)]
      constructor
      · rintro ⟨top, ht, a, b, h1, h2, h3⟩
        obtain ⟨i1, i2⟩ := mem_rg.mp ht
        exact ⟨top, i1, by omega, a, b, h1, h2, h3⟩
      · rintro ⟨top, i1, i2, a, b, h1, h2, h3⟩
        exact ⟨top, mem_rg.mpr ⟨i1, by omega⟩, a, b, h1, h2, h3⟩
    · intro top ht x hx
      obtain ⟨i1, i2⟩ := mem_rg.mp ht
      unfold topO at hx
      obtain ⟨b, hb, rfl⟩ := Option.map_eq_some_iff.mp hx
      have q := Lst.join (S := fun x => ∃ a b, Span T (min k (l + 1 - f)) f top a ∧ Span T (min k (l + 1 - f) - 1) (top + 1) (l + 1) b ∧ x = (a.1 + b.1 + (T.W f top + lk T f top (l + 1)), a.2 ++ ([f] ++ b.2)))
        (mid := [f]) (w := T.W f top + lk T f top (l + 1)) (n := top - f) (hA top i1 i2) (hB top i1 i2 b hb) (fun z hz => span_len hz) (fun z => Iff.rfl)
      have e1 : aheadO T (ownF T n) (min k (l + 1 - f)) f top + b + lk T f f (l + 1) = (if top = f then 0 else ownF T n (min k (l + 1 - f)) f (top - 1) + lk T f f top) + b + (T.W f top + lk T f top (l + 1)) := by
        unfold aheadO
        by_cases e : top = f
        · subst e
          rw [if_pos rfl, if_pos rfl]
          omega
        · rw [if_neg e, if_neg e, lk_cat T (b := f) (f := f) (m := top) (h := l + 1) i1 (by omega)]
          omega
      rw [e1, List.append_assoc]
      exact q
    · intro top ht hx x ⟨a, b, h1, h2, h3⟩
      obtain ⟨i1, i2⟩ := mem_rg.mp ht
      unfold topO at hx
      exact hB0 top i1 i2 (Option.map_eq_none_iff.mp hx) b h2
    · refine ⟨l, mem_rg.mpr ⟨hf, Nat.le_refl _⟩, aheadO T (ownF T n) (min k (l + 1 - f)) f l + 0, ?_⟩
      unfold topO behindO
      rw [if_pos rfl]
      rfl
theorem lst_own {k f l : Nat} (hk : 1 ≤ k) (hf : f ≤ l) : Lst (Span T k f (l + 1)) (own T k f l + lk T f f (l + 1), plan T k f l) := lst_F _ k f l hk hf (Nat.le_refl _)
theorem ownF_eq {n k f l : Nat} (hk : 1 ≤ k) (hf : f ≤ l) (hn : l + 1 - f ≤ n) : ownF T n k f l = own T k f l ∧ planF T n k f l = plan T k f l := by
  have q := (lst_F (T := T) n k f l hk hf hn).uniq (lst_own hk hf)
  have q1 := congrArg Prod.fst q
  have q2 := congrArg Prod.snd q
  exact ⟨by have : ownF T n k f l + lk T f f (l + 1) = own T k f l + lk T f f (l + 1) := q1; omega, q2⟩
theorem own_cap {k f l : Nat} (hk : 1 ≤ k) (hf : f ≤ l) : own T (min k (l + 1 - f)) f l = own T k f l ∧ plan T (min k (l + 1 - f)) f l = plan T k f l := by
  have q := ((Lst.iff fun y => span_cap (T := T) (k := k) (f := f) (h := l + 1) (x := y)).mp (lst_own (T := T) (k := min k (l + 1 - f)) (by omega) hf)).uniq (lst_own hk hf)
  have q1 := congrArg Prod.fst q
  have q2 := congrArg Prod.snd q
  exact ⟨by have : own T (min k (l + 1 - f)) f l + lk T f f (l + 1) = own T k f l + lk T f f (l + 1) := q1; omega, q2⟩
theorem topO_own {n k f l top : Nat} (hk : 1 ≤ k) (h1 : f ≤ top) (h2 : top ≤ l) (hn : l - f ≤ n) : topO T (ownF T n) k f l top = topO T (own T) k f l top := by
  unfold topO
  have ea : aheadO T (ownF T n) k f top = aheadO T (own T) k f top := by
    unfold aheadO
    by_cases e : top = f
    · rw [if_pos e, if_pos e]
    · rw [if_neg e, if_neg e, (ownF_eq hk (by omega) (by omega)).1]
  have eb : behindO T (ownF T n) k top l = behindO T (own T) k top l := by
    unfold behindO
    by_cases e : top = l
    · rw [if_pos e, if_pos e]
    · rw [if_neg e, if_neg e]
      by_cases ek : k > 1
      · rw [if_pos ek, if_pos ek, (ownF_eq (by omega) (by omega) (by omega)).1]
      · rw [if_neg ek, if_neg ek]
  rw [ea, eb]
theorem filterMap_congr' {α β : Type} {f g : α → Option β} {l : List α} (h : ∀ x ∈ l, f x = g x) : l.filterMap f = l.filterMap g := by
  induction l with
  | nil => rfl
  | cons x xs ih =>
    rw [List.filterMap_cons, List.filterMap_cons, h x List.mem_cons_self, ih fun y hy => h y (List.mem_cons_of_mem _ hy)]
theorem filter_congr' {α : Type} {f g : α → Bool} {l : List α} (h : ∀ x ∈ l, f x = g x) : l.filter f = l.filter g := by
  induction l with
  | nil => rfl
  | cons x xs ih =>
    rw [List.filter_cons, List.filter_cons, h x List.mem_cons_self, ih fun y hy => h y (List.mem_cons_of_mem _ hy)]
/-- the solver's equations -/
theorem own_eq {k f l : Nat} (hk : 1 ≤ k) (hf : f ≤ l) : own T k f l = minI ((rg f l).filterMap (topO T (own T) (min k (l + 1 - f)) f l)) := by
  rw [← (ownF_eq (T := T) (n := l + 1 - f + 1) hk hf (by omega)).1]
  show minI ((rg f l).filterMap (topO T (ownF T (l + 1 - f)) (min k (l + 1 - f)) f l)) = _
  congr 1
  refine filterMap_congr' fun t ht => ?_
  obtain ⟨h1, h2⟩ := mem_rg.mp ht
  exact topO_own (by omega) h1 h2 (by omega)
theorem plan_eq {k f l : Nat} (hk : 1 ≤ k) (hf : f ≤ l) : plan T k f l = minL (((rg f l).filter fun top => decide (topO T (own T) (min k (l + 1 - f)) f l top = some (own T k f l))).map fun top =>
      (if top > f then plan T (min k (l + 1 - f)) f (top - 1) else []) ++ [f] ++ (if top < l then plan T (min k (l + 1 - f) - 1) (top + 1) l else [])) := by
  rw [← (ownF_eq (T := T) (n := l + 1 - f + 1) hk hf (by omega)).2]
  show minL (((rg f l).filter fun top => decide (topO T (ownF T (l + 1 - f)) (min k (l + 1 - f)) f l top = some (ownF T (l + 1 - f + 1) k f l))).map _) = _
  rw [(ownF_eq (T := T) (n := l + 1 - f + 1) hk hf (by omega)).1]
  rw [filter_congr' (g := fun top => decide (topO T (own T) (min k (l + 1 - f)) f l top = some (own T k f l)))]
  · congr 1
    refine List.map_congr_left fun top ht => ?_
    obtain ⟨ht1, ht2⟩ := List.mem_filter.mp ht
    obtain ⟨h1, h2⟩ := mem_rg.mp ht1
    have e1 : (if top > f then planF T (l + 1 - f) (min k (l + 1 - f)) f (top - 1) else []) = (if top > f then plan T (min k (l + 1 - f)) f (top - 1) else []) := by
      by_cases e : top > f
      · rw [if_pos e, if_pos e, (ownF_eq (by omega) (by omega) (by omega)).2]
      · rw [if_neg e, if_neg e]
    have e2 : (if top < l then planF T (l + 1 - f) (min k (l + 1 - f) - 1) (top + 1) l else []) = (if top < l then plan T (min k (l + 1 - f) - 1) (top + 1) l else []) := by
      by_cases e : top < l
      · rw [if_pos e, if_pos e]
        have ht2 : topO T (own T) (min k (l + 1 - f)) f l top = some (own T k f l) := by simpa using ht2
        have hk2 : min k (l + 1 - f) > 1 := by
          unfold topO behindO at ht2
          rw [if_neg (by omega)] at ht2
          by_cases ek : min k (l + 1 - f) > 1
          · exact ek
          · rw [if_neg ek] at ht2
            cases ht2
        rw [(ownF_eq (by omega) (by omega) (by omega)).2]
      · rw [if_neg e, if_neg e]
    rw [e1, e2]
  · intro t ht
    obtain ⟨h1, h2⟩ := mem_rg.mp ht
    rw [topO_own (by omega) h1 h2 (by omega)]
end K58
end
section
set_option linter.all false
set_option autoImplicit false
namespace K58
variable {T : Tk}

/-! ### the rest's mirror -/
variable (T)
/-- the least of the hours f to h - 1 by themselves -/
def btw (k f h : Nat) : Option PP := if h ≤ f then some (0, []) else if k < 1 then none else some (own T k f (h - 1) + lk T f f h, plan T k f (h - 1))
/-- a known way: the hour behind the last elder writing, the elder runs that stand, the cost, the plan -/
structure Kn where
  t1 : Nat
  m : Nat
  c : Int
  p : List Nat
def waysTo (k : Nat) (bs0 : List Nat) (kn : List Kn) (h : Nat) : List (Nat × PP) :=
  kn.filterMap fun e => (btw T (k - e.m) e.t1 h).map fun x => (e.m, (e.c + x.1 + elk T (bs0.take e.m) e.t1 h, e.p ++ x.2))
/-- the ways with more than a elder runs -/
def someOf (ws : List (Nat × PP)) (a : Nat) : List PP := (ws.filter fun w => decide (w.1 > a)).map fun w => w.2
def writtenA (bs0 : List Nat) (ws : List (Nat × PP)) (h a : Nat) : Option Kn :=
  if someOf ws a = [] then none else some ⟨h + 1, a + 1, (minP (someOf ws a)).1 + (T.W (bs0.getD a 0) h + elk T (bs0.take (a + 1)) h (h + 1)), (minP (someOf ws a)).2 ++ [bs0.getD a 0]⟩
def writtenAt (k : Nat) (bs0 : List Nat) (kn : List Kn) (h : Nat) : List Kn := (List.range (min bs0.length k)).filterMap (writtenA T bs0 (waysTo T k bs0 kn h) h)
def knownAt (k : Nat) (bs0 begun : List Nat) (f : Nat) : Nat → List Kn
  | 0 => [⟨f, bs0.length, 0, begun⟩]
  | i + 1 => knownAt k bs0 begun f i ++ writtenAt T k bs0 (knownAt k bs0 begun f i) (f + i)
def bestOf (k : Nat) (bs0 begun : List Nat) (f n : Nat) : PP := minP ((waysTo T k bs0 (knownAt T k bs0 begun f (n - f)) n).map (·.2))
variable {T}

theorem btw_some {k f h : Nat} {x : PP} (hf : f ≤ h) (e : btw T k f h = some x) : Lst (Span T k f h) x := by
  unfold btw at e
  by_cases h1 : h ≤ f
  · rw [if_pos h1] at e
    cases e
    have : h = f := by omega
    subst this
    exact ⟨span_nil.mpr rfl, fun y hy => by rw [span_nil.mp hy]; exact LeP.refl _⟩
  · rw [if_neg h1] at e
    by_cases h2 : k < 1
    · rw [if_pos h2] at e
      cases e
    · rw [if_neg h2] at e
      cases e
      have q := lst_own (T := T) (k := k) (f := f) (l := h - 1) (by omega) (by omega)
      rw [show h - 1 + 1 = h by omega] at q
      exact q
theorem btw_none {k f h : Nat} (hf : f ≤ h) (e : btw T k f h = none) (x : PP) : ¬ Span T k f h x := by
  unfold btw at e
  by_cases h1 : h ≤ f
  · rw [if_pos h1] at e
    cases e
  · rw [if_neg h1] at e
    by_cases h2 : k < 1
    · rw [show k = 0 by omega]
      exact span_zero (by omega)
    · rw [if_neg h2] at e
      cases e

/-- the whole plans with a last elder writing, with m elder runs, of all -/
def ElS (T : Tk) (k : Nat) (bs0 begun : List Nat) (f t1 m : Nat) (x : PP) : Prop := ∃ p, El T k bs0 f t1 m p x.1 ∧ x.2 = begun ++ p
def WayS (T : Tk) (k : Nat) (bs0 begun : List Nat) (f h m : Nat) (x : PP) : Prop := ∃ p bs, Way T k bs0 f h m p x.1 bs ∧ x.2 = begun ++ p
def RunS (T : Tk) (k : Nat) (bs0 begun : List Nat) (f h : Nat) (x : PP) : Prop := ∃ p bs, Run T k bs0 f h p x.1 bs ∧ x.2 = begun ++ p
structure KInv (T : Tk) (k : Nat) (bs0 begun : List Nat) (f h : Nat) (kn : List Kn) : Prop where
  sound : ∀ e ∈ kn, e.t1 ≤ h ∧ Lst (ElS T k bs0 begun f e.t1 e.m) (e.c, e.p)
  all : ∀ t1 m p c, t1 ≤ h → El T k bs0 f t1 m p c → ∃ e ∈ kn, e.t1 = t1 ∧ e.m = m
section
variable {k f h : Nat} {bs0 begun : List Nat} {kn : List Kn}
theorem ways_sound (I : KInv T k bs0 begun f h kn) : ∀ w ∈ waysTo T k bs0 kn h, WayS T k bs0 begun f h w.1 w.2 := by
  intro w hw
  obtain ⟨e, he, hx⟩ := List.mem_filterMap.mp hw
  obtain ⟨x, hb, rfl⟩ := Option.map_eq_some_iff.mp hx
  obtain ⟨h1, h2⟩ := I.sound e he
  obtain ⟨p, hp, ep⟩ := h2.1
  obtain ⟨S, r⟩ := (btw_some h1 hb).1
  refine ⟨p ++ x.2, _, ⟨_, _, _, _, _, S, hp, r, rfl, rfl, rfl⟩, ?_⟩
  have ep : e.p = begun ++ p := ep
  show e.p ++ x.2 = begun ++ (p ++ x.2)
  rw [ep, List.append_assoc]
theorem ways_all (I : KInv T k bs0 begun f h kn) {m : Nat} {x : PP} (hx : WayS T k bs0 begun f h m x) : ∃ w ∈ waysTo T k bs0 kn h, w.1 = m ∧ LeP w.2 x := by
  obtain ⟨p, bs, ⟨t1, p1, c1, p2, c2, S, el, r, rfl, ec, rfl⟩, ep⟩ := hx
  have l1 := el.le
  have l2 := r.le
  obtain ⟨e, he, rfl, rfl⟩ := I.all t1 m p1 c1 l2.1 el
  obtain ⟨h1, h2⟩ := I.sound e he
  cases hb : btw T (k - e.m) e.t1 h with
  | none => exact absurd ⟨S, r⟩ (btw_none (x := (c2, p2)) h1 hb)
  | some y =>
    refine ⟨(e.m, (e.c + y.1 + elk T (bs0.take e.m) e.t1 h, e.p ++ y.2)), List.mem_filterMap.mpr ⟨e, he, by rw [hb]; rfl⟩, rfl, ?_⟩
    have q1 := h2.2 (c1, begun ++ p1) ⟨p1, el, rfl⟩
    have q2 := (btw_some h1 hb).2 (c2, p2) ⟨S, r⟩
    have e1 : x = (c1 + c2 + elk T (bs0.take e.m) e.t1 h, begun ++ p1 ++ p2) := by
      refine Prod.ext ec ?_
      show x.2 = begun ++ p1 ++ p2
      rw [ep, List.append_assoc]
    rw [e1]
    have r1 := LeP.iff.mp q1
    have r2 := LeP.iff.mp q2
    refine LeP.iff.mpr ?_
    show e.c + y.1 + elk T (bs0.take e.m) e.t1 h < c1 + c2 + elk T (bs0.take e.m) e.t1 h ∨ (e.c + y.1 + elk T (bs0.take e.m) e.t1 h = c1 + c2 + elk T (bs0.take e.m) e.t1 h ∧ LeL (e.p ++ y.2) (begun ++ p1 ++ p2))
    have r1 : e.c < c1 ∨ (e.c = c1 ∧ LeL e.p (begun ++ p1)) := r1
    have r2 : y.1 < c2 ∨ (y.1 = c2 ∧ LeL y.2 p2) := r2
    rcases r1 with r1 | ⟨r1, s1⟩
    · rcases r2 with r2 | ⟨r2, s2⟩ <;> exact .inl (by omega)
    · rcases r2 with r2 | ⟨r2, s2⟩
      · exact .inl (by omega)
      · refine .inr ⟨by omega, LeL.append ?_ s1 s2⟩
        obtain ⟨p0, el0, ep0⟩ := h2.1
        have ep0 : e.p = begun ++ p0 := ep0
        rw [ep0, List.length_append, List.length_append, el0.le.2.1, l1.2.1]
theorem El.inv {t m : Nat} {p : List Nat} {c : Int} (el : El T k bs0 f t m p c) : (t = f ∧ m = bs0.length ∧ p = [] ∧ c = 0) ∨
    ∃ t1 m1 h p1 p2 c1 c2 S a, El T k bs0 f t1 m1 p1 c1 ∧ Run T (k - m1) [] t1 h p2 c2 S ∧ a < m1 ∧ a < k ∧ t = h + 1 ∧ m = a + 1 ∧ p = p1 ++ p2 ++ [bs0.getD a 0] ∧
      c = c1 + c2 + elk T (bs0.take m1) t1 h + T.W (bs0.getD a 0) h + elk T (bs0.take (a + 1)) h (h + 1) := by
  cases el with
  | base => exact .inl ⟨rfl, rfl, rfl, rfl⟩
  | write a el r h1 h2 => exact .inr ⟨_, _, _, _, _, _, _, _, a, el, r, h1, h2, rfl, rfl, rfl, rfl⟩
theorem writ_sound (I : KInv T k bs0 begun f h kn) (hf : f ≤ h) : ∀ e ∈ writtenAt T k bs0 kn h, e.t1 = h + 1 ∧ Lst (ElS T k bs0 begun f e.t1 e.m) (e.c, e.p) := by
  intro e he
  obtain ⟨a, ha, hx⟩ := List.mem_filterMap.mp he
  have ha := List.mem_range.mp ha
  unfold writtenA at hx
  by_cases hs : someOf (waysTo T k bs0 kn h) a = []
  · rw [if_pos hs] at hx
    cases hx
  · rw [if_neg hs] at hx
    cases hx
    refine ⟨rfl, ?_⟩
    have hm := minP_mem hs
    obtain ⟨w, hw, ew⟩ := List.mem_map.mp hm
    obtain ⟨hw1, hw2⟩ := List.mem_filter.mp hw
    have hw2 : w.1 > a := by simpa using hw2
    constructor
    · obtain ⟨p, bs, ⟨t1, p1, c1, p2, c2, S, el, r, ep1, ec, eb⟩, ep⟩ := ways_sound I w hw1
      refine ⟨p1 ++ p2 ++ [bs0.getD a 0], ?_, ?_⟩
      · have q := El.write a el r hw2 (by omega)
        have e1 : c1 + c2 + elk T (bs0.take w.1) t1 h + T.W (bs0.getD a 0) h + elk T (bs0.take (a + 1)) h (h + 1) = (minP (someOf (waysTo T k bs0 kn h) a)).1 + (T.W (bs0.getD a 0) h + elk T (bs0.take (a + 1)) h (h + 1)) := by
          rw [← ew]
          have : w.2.1 = c1 + c2 + elk T (bs0.take w.1) t1 h := ec
          omega
        rw [e1] at q
        exact q
      · show (minP (someOf (waysTo T k bs0 kn h) a)).2 ++ [bs0.getD a 0] = begun ++ (p1 ++ p2 ++ [bs0.getD a 0])
        rw [← ew, ep, ep1]
        simp
    · intro y ⟨p, el, ep⟩
      obtain ⟨yc, yp⟩ := y
      have ep : yp = begun ++ p := ep
      subst ep
      have el : El T k bs0 f (h + 1) (a + 1) p yc := el
      rcases el.inv with ⟨e0, _⟩ | ⟨t1, m, h', p1, p2, c1, c2, S, a', el2, r2, h1, h2, eh, ea, rfl, rfl⟩
      · omega
      · have eh : h = h' := by omega
        have ea : a = a' := by omega
        subst eh ea
        obtain ⟨w', hw', rfl, hle⟩ := ways_all I (x := (c1 + c2 + elk T (bs0.take m) t1 h, begun ++ (p1 ++ p2))) ⟨p1 ++ p2, _, ⟨_, _, _, _, _, _, el2, r2, rfl, rfl, rfl⟩, rfl⟩
        have hle2 : LeP (minP (someOf (waysTo T k bs0 kn h) a)) w'.2 := minP_le (List.mem_map.mpr ⟨w', List.mem_filter.mpr ⟨hw', by simpa using h1⟩, rfl⟩)
        have q := LeP.iff.mp (hle2.trans hle)
        refine LeP.iff.mpr ?_
        have q : (minP (someOf (waysTo T k bs0 kn h) a)).1 < c1 + c2 + elk T (bs0.take w'.1) t1 h ∨ ((minP (someOf (waysTo T k bs0 kn h) a)).1 = c1 + c2 + elk T (bs0.take w'.1) t1 h ∧ LeL (minP (someOf (waysTo T k bs0 kn h) a)).2 (begun ++ (p1 ++ p2))) := q
        show (minP (someOf (waysTo T k bs0 kn h) a)).1 + (T.W (bs0.getD a 0) h + elk T (bs0.take (a + 1)) h (h + 1)) < c1 + c2 + elk T (bs0.take w'.1) t1 h + T.W (bs0.getD a 0) h + elk T (bs0.take (a + 1)) h (h + 1) ∨
          ((minP (someOf (waysTo T k bs0 kn h) a)).1 + (T.W (bs0.getD a 0) h + elk T (bs0.take (a + 1)) h (h + 1)) = c1 + c2 + elk T (bs0.take w'.1) t1 h + T.W (bs0.getD a 0) h + elk T (bs0.take (a + 1)) h (h + 1) ∧ LeL ((minP (someOf (waysTo T k bs0 kn h) a)).2 ++ [bs0.getD a 0]) (begun ++ (p1 ++ p2 ++ [bs0.getD a 0])))
        rcases q with q | ⟨q, s⟩
        · exact .inl (by omega)
        · refine .inr ⟨by omega, ?_⟩
          have e2 : begun ++ (p1 ++ p2 ++ [bs0.getD a 0]) = begun ++ (p1 ++ p2) ++ [bs0.getD a 0] := by simp
          rw [e2]
          refine LeL.append ?_ s (LeL.refl _)
          obtain ⟨p', bs', ⟨t1', p1', c1', p2', c2', S', el', r', ep1', _, _⟩, ep'⟩ := ways_sound I w hw1
          rw [← ew, ep', ep1', List.length_append, List.length_append, List.length_append, List.length_append, el'.le.2.1, r'.le.2, el2.le.2.1, r2.le.2]
          have := el'.le.1
          have := r'.le.1
          have := el2.le.1
          have := r2.le.1
          omega
theorem writ_all (I : KInv T k bs0 begun f h kn) (hf : f ≤ h) {m : Nat} {p : List Nat} {c : Int} (el : El T k bs0 f (h + 1) m p c) : ∃ e ∈ writtenAt T k bs0 kn h, e.t1 = h + 1 ∧ e.m = m := by
  have l0 := el.le.2.2
  rcases el.inv with ⟨e0, _⟩ | ⟨t1, m, h', p1, p2, c1, c2, S, a, el2, r2, h1, h2, eh, rfl, rfl, rfl⟩
  · omega
  · have eh : h = h' := by omega
    subst eh
    obtain ⟨w, hw, rfl, hle⟩ := ways_all I (x := (c1 + c2 + elk T (bs0.take m) t1 h, begun ++ (p1 ++ p2))) ⟨p1 ++ p2, _, ⟨_, _, _, _, _, _, el2, r2, rfl, rfl, rfl⟩, rfl⟩
    have hne : someOf (waysTo T k bs0 kn h) a ≠ [] := List.ne_nil_of_mem (List.mem_map.mpr ⟨w, List.mem_filter.mpr ⟨hw, by simpa using h1⟩, rfl⟩)
    refine ⟨⟨h + 1, a + 1, (minP (someOf (waysTo T k bs0 kn h) a)).1 + (T.W (bs0.getD a 0) h + elk T (bs0.take (a + 1)) h (h + 1)), (minP (someOf (waysTo T k bs0 kn h) a)).2 ++ [bs0.getD a 0]⟩, List.mem_filterMap.mpr ⟨a, List.mem_range.mpr (by omega), ?_⟩, rfl, rfl⟩
    unfold writtenA
    rw [if_neg hne]
theorem known_inv (i : Nat) : KInv T k bs0 begun f (f + i) (knownAt T k bs0 begun f i) := by
  induction i with
  | zero =>
    refine ⟨fun e he => ?_, fun t1 m p c ht el => ?_⟩
    · rcases List.mem_singleton.mp he with rfl
      refine ⟨Nat.le_refl _, ⟨[], .base, ?_⟩, fun y ⟨p, el, ep⟩ => ?_⟩
      · simp
      · obtain ⟨yc, yp⟩ := y
        have ep : yp = begun ++ p := ep
        subst ep
        have el : El T k bs0 f f bs0.length p yc := el
        rcases el.inv with ⟨_, _, rfl, rfl⟩ | ⟨t1, m, h', p1, p2, c1, c2, S, a, el, r, h1, h2, eh, _⟩
        · rw [List.append_nil]
          exact LeP.refl _
        · have := el.le.1
          have := r.le.1
          omega
    · have := el.le.1
      have et : t1 = f := by omega
      refine ⟨⟨f, bs0.length, 0, begun⟩, List.mem_singleton.mpr rfl, et.symm, ?_⟩
      rcases el.inv with ⟨_, rfl, _⟩ | ⟨t1, m, h', p1, p2, c1, c2, S, a, el, r, h1, h2, eh, _⟩
      · rfl
      · have := el.le.1
        have := r.le.1
        omega
  | succ i ih =>
    refine ⟨fun e he => ?_, fun t1 m p c ht el => ?_⟩
    · rcases List.mem_append.mp he with he | he
      · obtain ⟨h1, h2⟩ := ih.sound e he
        exact ⟨by omega, h2⟩
      · obtain ⟨h1, h2⟩ := writ_sound ih (by omega) e he
        exact ⟨by omega, h2⟩
    · by_cases hc : t1 ≤ f + i
      · obtain ⟨e, he, h1, h2⟩ := ih.all t1 m p c hc el
        exact ⟨e, List.mem_append_left _ he, h1, h2⟩
      · have : t1 = f + i + 1 := by omega
        subst this
        obtain ⟨e, he, h1, h2⟩ := writ_all ih (by omega) el
        exact ⟨e, List.mem_append_right _ he, h1, h2⟩
theorem run_some (hk : 1 ≤ k) : ∀ i : Nat, ∃ p c bs, Run T k bs0 f (f + i) p c bs
  | 0 => ⟨[], 0, bs0, .nil⟩
  | i + 1 => by
    obtain ⟨p, c, bs, r⟩ := run_some hk i
    exact ⟨_, _, _, .step 0 r (by omega) (Nat.zero_le _)⟩
/-- the rest's answer is the least of all plans that begin so -/
theorem best_lst {n : Nat} (hk : 1 ≤ k) (hf : f ≤ n) : waysTo T k bs0 (knownAt T k bs0 begun f (n - f)) n ≠ [] ∧ Lst (RunS T k bs0 begun f n) (bestOf T k bs0 begun f n) := by
  have I := known_inv (T := T) (k := k) (bs0 := bs0) (begun := begun) (f := f) (n - f)
  rw [show f + (n - f) = n by omega] at I
  have hne : waysTo T k bs0 (knownAt T k bs0 begun f (n - f)) n ≠ [] := by
    obtain ⟨p, c, bs, r⟩ := run_some (T := T) (k := k) (bs0 := bs0) (f := f) hk (n - f)
    rw [show f + (n - f) = n by omega] at r
    obtain ⟨m, hw⟩ := r.way
    obtain ⟨w, hw, _⟩ := ways_all I (x := (c, begun ++ p)) ⟨p, bs, hw, rfl⟩
    exact List.ne_nil_of_mem hw
  refine ⟨hne, ?_⟩
  have hne2 : (waysTo T k bs0 (knownAt T k bs0 begun f (n - f)) n).map (·.2) ≠ [] := by
    simpa using hne
  constructor
  · obtain ⟨w, hw, ew⟩ := List.mem_map.mp (minP_mem hne2)
    have ew : w.2 = bestOf T k bs0 begun f n := ew
    rw [← ew]
    obtain ⟨p, bs, hway, ep⟩ := ways_sound I w hw
    exact ⟨p, bs, run_iff.mpr ⟨_, hway⟩, ep⟩
  · intro y ⟨p, bs, r, ep⟩
    obtain ⟨m, hway⟩ := run_iff.mp r
    obtain ⟨w, hw, _, hle⟩ := ways_all I (x := y) ⟨p, bs, hway, ep⟩
    exact LeP.trans (minP_le (List.mem_map.mpr ⟨w, hw, rfl⟩)) hle
end

/-! ### behind a first hour alone: what least and least_plan tell -/
theorem best_first {k n : Nat} (hk : 1 ≤ k) (hn : 2 ≤ n) : bestOf T k [0] [0] 1 n = (own T k 0 (n - 1) + lk T 0 0 n - T.W 0 0 - T.L 0 0, plan T k 0 (n - 1)) := by
  have q1 := (best_lst (T := T) (k := k) (bs0 := [0]) (begun := [0]) (f := 1) (n := n) hk (by omega)).2
  have q2 := lst_own (T := T) (k := k) (f := 0) (l := n - 1) hk (by omega)
  rw [show n - 1 + 1 = n by omega] at q2
  refine q1.uniq ⟨?_, fun y ⟨p, bs, r, ep⟩ => ?_⟩
  · obtain ⟨bs, r⟩ := q2.1
    obtain ⟨p', c', r', e1, e2⟩ := (run_first hk (by omega)).mp r
    have e1 : plan T k 0 (n - 1) = 0 :: p' := e1
    have e2 : own T k 0 (n - 1) + lk T 0 0 n = T.W 0 0 + T.L 0 0 + c' := e2
    refine ⟨p', bs, ?_, e1⟩
    show Run T k [0] 1 n p' (own T k 0 (n - 1) + lk T 0 0 n - T.W 0 0 - T.L 0 0) bs
    rw [show own T k 0 (n - 1) + lk T 0 0 n - T.W 0 0 - T.L 0 0 = c' by omega]
    exact r'
  · have q3 := q2.2 (T.W 0 0 + T.L 0 0 + y.1, y.2) ⟨bs, (run_first hk (by omega)).mpr ⟨p, y.1, r, ep, rfl⟩⟩
    have q4 := LeP.iff.mp q3
    refine LeP.iff.mpr ?_
    have q4 : own T k 0 (n - 1) + lk T 0 0 n < T.W 0 0 + T.L 0 0 + y.1 ∨ (own T k 0 (n - 1) + lk T 0 0 n = T.W 0 0 + T.L 0 0 + y.1 ∧ LeL (plan T k 0 (n - 1)) y.2) := q4
    show own T k 0 (n - 1) + lk T 0 0 n - T.W 0 0 - T.L 0 0 < y.1 ∨ (own T k 0 (n - 1) + lk T 0 0 n - T.W 0 0 - T.L 0 0 = y.1 ∧ LeL (plan T k 0 (n - 1)) y.2)
    rcases q4 with q4 | ⟨q4, q5⟩
    · exact .inl (by omega)
    · exact .inr ⟨by omega, q5⟩

/-! ### the law's own reckoning: all plans, hour by hour -/
structure Br where
  p : List Nat
  c : Int
  bs : List Nat
variable (T)
/-- one of the ways on -/
def brOne (h : Nat) (e : Br) (a : Nat) : Br := ⟨e.p ++ [(e.bs ++ [h]).getD a 0], e.c + (T.W ((e.bs ++ [h]).getD a 0) h + (((e.bs ++ [h]).take (a + 1)).map fun b => T.L b h).sum), (e.bs ++ [h]).take (a + 1)⟩
def brNext (k h : Nat) (l : List Br) : List Br := l.flatMap fun e => (List.range (min k (e.bs.length + 1))).map (brOne T h e)
def brAt (k : Nat) (bs0 begun : List Nat) (f : Nat) : Nat → List Br
  | 0 => [⟨begun, 0, bs0⟩]
  | i + 1 => brNext T k (f + i) (brAt k bs0 begun f i)
variable {T}
theorem Run.inv {k f h : Nat} {bs0 p : List Nat} {c : Int} {bs : List Nat} (r : Run T k bs0 f h p c bs) : (h = f ∧ p = [] ∧ c = 0 ∧ bs = bs0) ∨
    ∃ h' p' c' bs' a, Run T k bs0 f h' p' c' bs' ∧ a < k ∧ a ≤ bs'.length ∧ h = h' + 1 ∧ p = p' ++ [(bs' ++ [h']).getD a 0] ∧ c = c' + (T.W ((bs' ++ [h']).getD a 0) h' + (((bs' ++ [h']).take (a + 1)).map fun b => T.L b h').sum) ∧ bs = (bs' ++ [h']).take (a + 1) := by
  cases r with
  | nil => exact .inl ⟨rfl, rfl, rfl, rfl⟩
  | step a r h1 h2 => exact .inr ⟨_, _, _, _, a, r, h1, h2, rfl, rfl, rfl, rfl⟩
theorem br_iff {k f : Nat} {bs0 begun : List Nat} : ∀ (i : Nat) (e : Br), e ∈ brAt T k bs0 begun f i ↔ ∃ p, Run T k bs0 f (f + i) p e.c e.bs ∧ e.p = begun ++ p
  | 0, e => by
    constructor
    · intro he
      rcases List.mem_singleton.mp he with rfl
      exact ⟨[], .nil, by simp⟩
    · rintro ⟨p, r, ep⟩
      obtain ⟨rfl, e2, e3⟩ := run_same r rfl
      obtain ⟨x, y, z⟩ := e
      simp at ep e2 e3
      subst ep e2 e3
      exact List.mem_singleton.mpr rfl
  | i + 1, e => by
    constructor
    · intro he
      obtain ⟨d, hd, h1⟩ := List.mem_flatMap.mp he
      obtain ⟨a, ha, rfl⟩ := List.mem_map.mp h1
      have ha := List.mem_range.mp ha
      obtain ⟨p, r, ep⟩ := (br_iff i d).mp hd
      refine ⟨_, .step a r (by omega) (by omega), ?_⟩
      show d.p ++ [(d.bs ++ [f + i]).getD a 0] = _
      rw [ep, List.append_assoc]
      rfl
    · rintro ⟨p, r, ep⟩
      obtain ⟨x, y, z⟩ := e
      have ep : x = begun ++ p := ep
      subst ep
      have r : Run T k bs0 f (f + i + 1) p y z := r
      rcases r.inv with ⟨e0, _⟩ | ⟨h', p, c, bs, a, r2, h1, h2, eh, rfl, rfl, rfl⟩
      · omega
      · have eh : f + i = h' := by omega
        subst eh
        refine List.mem_flatMap.mpr ⟨⟨begun ++ p, c, bs⟩, (br_iff i _).mpr ⟨p, r2, rfl⟩, List.mem_map.mpr ⟨a, List.mem_range.mpr ?_, ?_⟩⟩
        · show a < min k (bs.length + 1)
          omega
        · unfold brOne
          simp
theorem br_ne {k f : Nat} {bs0 begun : List Nat} (hk : 1 ≤ k) (i : Nat) : brAt T k bs0 begun f i ≠ [] := by
  obtain ⟨p, c, bs, r⟩ := run_some (T := T) (k := k) (bs0 := bs0) (f := f) hk i
  exact List.ne_nil_of_mem ((br_iff i ⟨begun ++ p, c, bs⟩).mpr ⟨p, r, rfl⟩)
/-- the least of them is the rest's answer -/
theorem br_best {k f n : Nat} {bs0 begun : List Nat} (hk : 1 ≤ k) (hf : f ≤ n) : minP ((brAt T k bs0 begun f (n - f)).map fun e => (e.c, e.p)) = bestOf T k bs0 begun f n := by
  have hne : (brAt T k bs0 begun f (n - f)).map (fun e => ((e.c, e.p) : PP)) ≠ [] := by
    simpa using br_ne (T := T) (bs0 := bs0) (begun := begun) (f := f) hk (n - f)
  refine (minP_lst hne).uniq ((Lst.iff fun y => ?_).mp (best_lst hk hf).2)
  constructor
  · rintro ⟨p, bs, r, ep⟩
    rw [show n = f + (n - f) by omega] at r
    refine List.mem_map.mpr ⟨⟨y.2, y.1, bs⟩, (br_iff (n - f) _).mpr ⟨p, r, ep⟩, rfl⟩
  · intro hy
    obtain ⟨e, he, rfl⟩ := List.mem_map.mp hy
    obtain ⟨p, r, ep⟩ := (br_iff (n - f) e).mp he
    rw [show f + (n - f) = n by omega] at r
    exact ⟨p, e.bs, r, ep⟩
end K58
end
section
set_option Elab.async false
set_option linter.all false
set_option maxRecDepth 100000
set_option maxHeartbeats 4000000
/-! ### rules of my own over the hand layer -/
namespace K58
open PySem PySem.Spec PyProof.Rows L2 PySem.SeqAt
open PySem.W (AlikeAll minD min_list_data dataLt)

/-! #### o.m(e, ..): m an attribute of the object that holds a def -/
def tCallF (K : PySem.W.Frag) (f : Addr) (m : Str) (sp : Sp) (E : XK) (to : TE) (t : TA) : TE := fun σ H Q => to σ H fun x H1 => ∃ a C dx fs, x = .ref a ∧ H1 a = some (.ins C dx fs) ∧ Cls K C ∧ NoAttr K C m ∧ fs.lookup m = some (.ref f) ∧ t σ H1 fun vs H2 => sp vs H2 Q E
section
variable {X : Cx} {CX : CXT} {k : Nat} {f : Addr} {fd : FuncData} {ps : List Str} {sp : Sp} {E : XK} {o e : Expr} {es : List Expr} {m : Str} {apos pos : Pos} {ta : TE} {t : TA}
theorem getmethF_ok {pins : List (Addr × Obj)} {σ : L2.St} {H : Hp} {s : Shared} {a C dx g : Addr} {fs : List (Str × V)} {A : Around} {E : Value → Shared → Prop} {pl : Sem Bool} {Q : Value × List Value → Shared → Prop}
    (I : Inv X pins σ H s) (e : H a = some (.ins C dx fs)) (c : Cls X.K C) (n : NoAttr X.K C m) (l : fs.lookup m = some (.ref g)) (h : ∀ s', Inv X pins σ H s' → Q (.ref g, []) s') : wpAny (model X.prog X.w) A (getMethod (.ref a) m pl) Q E s := by
  obtain ⟨mA, O, r, _, _, _⟩ := ins_get I.hok e
  obtain ⟨od, J, hl⟩ := O.look
  refine PySem.W.method_usual I.kIn J (PySem.W.plainGet_of (c.get m)).1 (PySem.W.plainGet_of (c.get m)).2 n rfl ?_
  refine getattr_ok I e c n l fun u s' I' ru => ?_
  cases ru
  exact h s' I'
theorem pe_callF {pl : Sem Bool} (he : PE X o ta) (F : FnOk X.prog X.w X.K X.mg X.base CX k f fd ps sp) (hr : Room k X.A) (hk : PySem.W.keepIn X.K (.ref f) = true) (hb : Binds X.K fd ps []) (hx : Passes CX X E) (ha : PA X (e :: es) t)
    (hst : starEach (e :: es) X.env = (false, eval e X.env) :: starEach es X.env := by rfl) (hpl : (backTo pos (starEach es X.env)).any (·.1) = false := by rfl)
    (ht : eval (.Call (.Attribute o m apos) (e :: es) [] pos) X.env = (do
      let ov ← eval o X.env
      standAt apos.atName
      let (f, first) ← holding [ov] (getMethod ov m pl)
      callWith pos f first (backTo pos (starEach (e :: es) X.env)) (backToKw pos (keywordEach [] X.env))) := by rfl) :
    PE X (.Call (.Attribute o m apos) (e :: es) [] pos) (tCallF X.K f m sp E ta t) := by
  refine ⟨fun pins s σ H Q I h => ?_⟩
  refine PySem.W.methodCall_KW (pl := pl) (thn (he.run pins s σ H _ I h) fun u s1 ⟨x, H1, I1, rx, a, C, dx, fs, ex, ea, c, n, l, q⟩ => ?_) ht
  subst ex
  obtain rfl : u = Value.ref a := rx
  refine getmethF_ok I1 ea c n l fun s1' I1' => ?_
  refine PySem.W.callWith_K (first := []) (h₀ := X.base) I1'.ok.mod.kin hk (thn (ha.run pos pins s1' σ H1 _ I1' q) fun us s2 ⟨vs, H2, I2, r, q2⟩ => ⟨I2.kIn, ?_⟩) hst hpl
  have q3 : sp (vs ++ []) H2 Q E := by rw [List.append_nil]; exact q2
  exact run_fn (us := us) (vs := vs) F hr hb .nil hx I2 r q3
end

/-! #### min of a list of data that are alike: an item that reads as the least -/
def rMinD (K : PySem.W.Frag) : List V → Hp → VK → Prop := fun vs H Q => ∃ (a : Addr) (xs : List V) (d : PyData) (ds : List PyData), vs = [V.ref a] ∧ SqL K H a xs ∧ DpAll K H xs (d :: ds) ∧ AlikeAll (d :: ds) ∧ PyData.depthAll (d :: ds) ≤ 60 ∧
  ∀ (i : Nat) (x : V), xs[i]? = some x → (d :: ds)[i]? = some (minD d ds) → Q x H
theorem DpAll.get {K : PySem.W.Frag} {H : Hp} : ∀ {xs : List V} {ds : List PyData}, DpAll K H xs ds → ∀ {i : Nat} {x : V}, xs[i]? = some x → ∃ d, ds[i]? = some d ∧ Dp K H x d
  | _, _, .nil, i, x, h => by simp at h
  | _, _, .cons h t, 0, x, e => by
    simp at e
    subst e
    exact ⟨_, rfl, h⟩
  | _, _, .cons h t, i + 1, x, e => by
    obtain ⟨d, h1, h2⟩ := DpAll.get t (i := i) (x := x) (by simpa using e)
    exact ⟨d, by simpa using h1, h2⟩
theorem DpAll.length {K : PySem.W.Frag} {H : Hp} : ∀ {xs : List V} {ds : List PyData}, DpAll K H xs ds → xs.length = ds.length
  | _, _, .nil => rfl
  | _, _, .cons _ t => by rw [List.length_cons, List.length_cons, DpAll.length t]
theorem minD_mem (d : PyData) : ∀ ds : List PyData, minD d ds ∈ d :: ds := by
  intro ds
  unfold minD
  induction ds generalizing d with
  | nil => simp
  | cons y ys ih =>
    rw [List.foldl_cons]
    have q := ih (if dataLt y d = true then y else d)
    rcases List.mem_cons.mp q with e | e
    · rw [e]
      split <;> simp
    · exact List.mem_cons_of_mem _ (List.mem_cons_of_mem _ e)
theorem cr_minD {X : Cx} (hc : X.calm = true) (hu : X.A.units + 64 < cLine) : CallR X (.builtin "min") (rMinD X.K) := by
  intro pins s σ H vs us Q I r h
  obtain ⟨a, xs, d, ds, rfl, hs, ha, hal, hd, q⟩ := h
  obtain ⟨its, rv, hl, _⟩ := I.list hs
  rw [Vals.ref1 r]
  obtain ⟨as, hr⟩ := Dp.readsAll I (d :: ds) xs its ha rv
  refine min_list_data (vs := its.toArray) (I.ok.hd hc) hl.isList (by simpa using hr) hal (by omega) fun i v h' tk bs hv rd hk => ?_
  have hv' : its[i]? = some v := by simpa using hv
  have hi : i < its.length := (List.getElem?_eq_some_iff.mp hv').1
  have hi2 : i < xs.length := by rw [rv.length]; exact hi
  have hx : xs[i]? = some xs[i] := List.getElem?_eq_getElem hi2
  obtain ⟨u, hu1, ru⟩ := rv.get hx
  rw [hv'] at hu1
  cases hu1
  obtain ⟨e, he1, he2⟩ := DpAll.get ha hx
  have I2 : Inv X pins σ H { s with heap := h', toks := tk } := I.kept hk
  obtain ⟨cs, re⟩ := Dp.reads I2 e xs[i] v he2 ru
  have hmem : e ∈ d :: ds := List.mem_of_getElem? he1
  have eq : e = minD d ds := PySem.W.alike_unique e (minD d ds) v cs bs (hal.1 e hmem _ (minD_mem d ds)) re rd
  subst eq
  exact ⟨xs[i], H, I2, ru, q i _ hx he1⟩

/-! #### sum of a tuple of whole numbers -/
def rSumT (K : PySem.W.Frag) : List V → Hp → VK → Prop := fun vs H Q => ∃ (a : Addr) (ns : List Int), vs = [V.ref a] ∧ SqT K H a (ns.map V.int) ∧ Q (.int ns.sum) H
theorem cr_sumT {X : Cx} (hc : X.calm = true) : CallR X (.builtin "sum") (rSumT X.K) := by
  intro pins s σ H vs us Q I r h
  obtain ⟨a, ns, rfl, hs, q⟩ := h
  obtain ⟨its, rv, hl, _⟩ := I.tuple hs
  rw [Vals.ref1 r]
  have hi := rv.ints
  obtain ⟨xs, e⟩ := hi.allInts.items
  have hn : numsOf (intItems xs).toList = ns := by rw [← e]; exact hi.numsOf
  rw [nums_intItems] at hn
  have hl2 : s.heap.IsTuple a (intItems xs) := by rw [← e]; exact hl
  refine PySem.W.ktm_sumG (I.ok.hd hc) hl2 fun h' tk t' hk => ?_
  rw [preSum_eq, List.take_of_length_le (by simp), hn]
  exact ⟨.int _, H, I.kept hk, ⟨_, rfl⟩, q⟩

/-! #### for i, x in enumerate(a tuple) -/
theorem meets_enumerate_newT (l : Addr) (items : Array Value) (n : Nat) (dct : Option Addr) (sl : Array (Option Value)) :
    Meets (Builtin.«enumerate.__new__» ⟨[.type "enumerate", .ref l], []⟩) (fun _ R s => s.heap.get? l = some { cls := .type "tuple", dict := dct, data := .seq items n, slots := sl } ∧
      R (.ok (.ret (.ref (s.heap.push { cls := .type "tuple_iterator", data := .fields #[.ref l, .int 0 0] }).objs.size)))
        { s with heap := (s.heap.push { cls := .type "tuple_iterator", data := .fields #[.ref l, .int 0 0] }).push { cls := .type "enumerate", data := .fields #[.none, .bool false, .ref s.heap.objs.size, rawInt 0, .none, .none] } }) :=
  .of_wp fun prog w A R s h => by
    obtain ⟨hp, g, d, tk, os⟩ := s; obtain ⟨hl, h⟩ := h
    have hsub := sub_enumerate
    have hL : Heap.IsTuple (Shared.heap ⟨hp, g, d, tk, os⟩) l items := ⟨_, hl, rfl, n, rfl⟩
    wp_walk using AutoSeq1.wpAny_loadPart' hl
    refine wpAny_stack_any fun st => wpAny_pure ?_
    split
    · rename_i c _ _ _ _ _
      cases (c == Value.type "enumerate")
      · wp_walk using AutoSeq1.wpAny_loadPart' hl, wpAny_pyIter_tuple hL
        exact ⟨_, rfl, h⟩
      · wp_walk using AutoSeq1.wpAny_loadPart' hl, wpAny_pyIter_tuple hL
        exact ⟨_, rfl, h⟩
    · wp_walk using AutoSeq1.wpAny_loadPart' hl, wpAny_pyIter_tuple hL
      exact ⟨_, rfl, h⟩
theorem call_enumerate_tuple {prog : Program} {w : World} {A : Around} {E : Value → Shared → Prop} {s : Shared} {l : Addr} {items : Array Value} {Q : Value → Shared → Prop} (hL : s.heap.IsTuple l items)
    (h : ∀ h', IsEnum h' (s.heap.objs.size + 1) s.heap.objs.size 0 .none → h'.IsTupleIter s.heap.objs.size l 0 → h'.objs.size = s.heap.objs.size + 2 →
      (∀ b o, s.heap.get? b = some o → h'.get? b = some o) → Q (.ref (s.heap.objs.size + 1)) { s with heap := h' }) :
    wpAny (model prog w) A (call (.type "enumerate") [.ref l]) Q E s := by
  obtain ⟨⟨c, dct, dt, sl⟩, hl, hc, n, hd⟩ := hL
  replace hc : c = .type "tuple" := hc
  replace hd : dt = .seq items n := hd
  subst hc hd
  refine callType_new F.called_enumerate (by decide) (F.typeCall_enumerate_1 _) (F.newCall_enumerate_1 _) (fun obj => F.args_object_init_2 obj _) F.entry_enumerate_new
    (meets_enumerate_newT l items n dct sl) ⟨hl, ?_⟩
  have hz : (s.heap.push { cls := .type "tuple_iterator", data := .fields #[.ref l, .int 0 0] }).objs.size = s.heap.objs.size + 1 := Heap.size_push ..
  show _ ∧ _
  rw [hz]
  have he : IsEnum ((s.heap.push { cls := .type "tuple_iterator", data := .fields #[.ref l, .int 0 0] }).push
      { cls := .type "enumerate", data := .fields #[.none, .bool false, .ref s.heap.objs.size, rawInt 0, .none, .none] }) (s.heap.objs.size + 1) s.heap.objs.size 0 .none := by
    have := Heap.get?_push_size (s.heap.push { cls := .type "tuple_iterator", data := .fields #[.ref l, .int 0 0] })
      (o := { cls := .type "enumerate", data := .fields #[.none, .bool false, .ref s.heap.objs.size, rawInt 0, .none, .none] }) rfl
    rw [hz] at this; exact this
  refine ⟨⟨_, he, rfl⟩, h _ he ⟨_, Heap.get?_push_of_some _ (Heap.get?_push_size _ rfl), rfl, rfl⟩ (by rw [Heap.size_push, hz]) fun b o x => Heap.get?_push_of_some _ (Heap.get?_push_of_some _ x)⟩
theorem enumT_end {prog : Program} {w : World} {A : Around} {E : Value → Shared → Prop} {s : Shared} {e it t : Addr} {i : Nat} {c : Int} {items : Array Value} {old : Value} {Q : Option Value → Shared → Prop} (hh : A.handled = none)
    (he : IsEnum s.heap e it c old) (hit : s.heap.IsTupleIter it t i) (ht : s.heap.IsTuple t items) (hx : items[i]? = none)
    (hQ : ∀ h', Heap.ExtBut it s.heap h' → Q none { s with heap := h' }) : wpAny (model prog w) A (pyNext (.ref e)) Q E s := by
  have hT : s.TypeIs (.ref e) "enumerate" := ⟨_, he, rfl⟩
  unfold pyNext
  refine wpAny_bind (wpAny_attempt (wpAny_callSpecial?_slot (name := Str.ofString "__next__") hT F.slot_enumerate_next
    (wpAny_call_entry F.slot_enumerate_next hT F.entry_enumerate_next ?_ (F.args_enumerate_next_1 _))))
  show wpAny _ _ (field (.ref e) 2 >>= _) _ _ _
  refine wpAny_bind (wpAny_field he rfl (x := .ref it) rfl ?_)
  refine wpAny_bind (wpAny_nextOf_tuple_end (A := A.in1) hh hit ht hx fun h' x he' hx' => ?_)
  obtain ⟨o, ho, hc⟩ := hx'
  refine wpAny_bind (wpAny_isInstance (T := "StopIteration") (b := true) ⟨o, ho, hc⟩ isSubtype_stop ?_)
  exact wpAny_pure (hQ _ he')
/-- the tuple at a as it stands at each turn, each item in a new pair -/
def IteT (K : PySem.W.Frag) (a : Addr) : It :=
  ⟨fun i H => ∃ (xs : List V) (x : V), SqT K H a xs ∧ xs[i]? = some x, fun i H v H' => ∃ T x, v = .ref T ∧ H T = none ∧ H' = upd H T (.tup [.int (i : Nat), x]) ∧ ∀ xs, SqT K H a xs → xs[i]? = some x, fun i H => ∃ xs : List V, SqT K H a xs ∧ xs.length ≤ i⟩
theorem turn_enumT {P : Program} {w : World} {K : PySem.W.Frag} {elts : List Expr} {kk : Nat} {tpos : Pos} (a e it : Addr) :
    Turn P w K (.Tuple elts kk tpos) (IteT K a) [e, it] e (fun i h => (∃ old, IsEnum h e it ((i : Nat) : Int) old) ∧ h.IsTupleIter it a i ∧ e ≠ it) where
  mem := by simp
  obj := fun i h st b hb => by
    obtain ⟨⟨old, he⟩, ⟨o, ho, hc, hd⟩, _⟩ := st
    have e' : b = e ∨ b = it := by simpa using hb
    rcases e' with z | z
    · rw [z]; exact ⟨_, he, fun v q => nomatch q⟩
    · rw [z]; exact ⟨o, ho, fun v q => by rw [hd] at q; cases q⟩
  keep := fun i h h' st k => let ⟨⟨old, he⟩, hi, hne⟩ := st; ⟨⟨old, k e (by simp) _ he⟩, hi.at fun o q => k it (by simp) o q, hne⟩
  item := by
    intro X hP hw hK hc i pins s σ H E I hf st hg
    subst hP hw hK
    obtain ⟨⟨old, he⟩, hit, hne⟩ := st
    obtain ⟨xs, x, hq, hx⟩ := hg
    obtain ⟨its, rv, p, hz⟩ := I.tuple hq
    obtain ⟨u, hu, ru⟩ := rv.get hx
    have hel : e < s.heap.objs.size := Heap.lt_size he
    have hil : it < s.heap.objs.size := by obtain ⟨_, q, _⟩ := hit; exact Heap.lt_size q
    have hai : a ≠ it := by
      rintro rfl
      obtain ⟨o1, q1, c1, _⟩ := hit
      obtain ⟨o2, q2, c2, _⟩ := id p
      rw [q1] at q2
      cases q2
      rw [c1] at c2
      exact absurd c2 (by decide)
    have hea : e ≠ a := by
      rintro rfl
      obtain ⟨o2, q2, c2, _⟩ := id p
      rw [he] at q2
      cases q2
      exact absurd (show Value.type "enumerate" = Value.type "tuple" from c2) (by decide)
    have hi : i < its.toArray.size := by
      have := (List.getElem?_eq_some_iff.mp hu).1
      simpa using this
    refine wpAny_pyNext_enum_itemC (Draws.tuple (A := X.A.in1) (I.ok.hd hc) it a hai its.toArray) he ⟨hit, p⟩ hi hne (by simp [hne, hea]) fun x' h' tk hx' ho st' hT hsz hk => ?_
    obtain ⟨hit', p'⟩ := st'
    have ex : x' = u := by
      have : its[i]? = some x' := by simpa using hx'
      rw [hu] at this
      exact (Option.some.inj this).symm
    subst ex
    refine ⟨_, rfl, wpAny_letOwnedTupleGo_enum (s := { s with heap := h', toks := tk + 1 }) ho fun h'' he' sb => ?_⟩
    have hT2 : h''.get? s.heap.objs.size = some { cls := .type "tuple", data := .seq #[.int i tk, x'] } := (sb.2 _ (Nat.ne_of_gt hel)).trans hT
    have new : ObjOk X.prog X.w (upd H s.heap.objs.size (.tup [.int (i : Nat), x])) h'' s.heap.objs.size (.tup [.int (i : Nat), x]) :=
      ⟨by show 2 ≤ sizeLine; decide, [.int i tk, x'], .cons ⟨_, rfl⟩ (.cons ru .nil), ⟨_, hT2, rfl, _, rfl⟩⟩
    have I1 : Inv X pins σ (upd H s.heap.objs.size (.tup [.int (i : Nat), x])) { s with heap := h'', toks := tk + 1 } :=
      I.turnedNew (ch := [e, it]) (fun b ob hb q => (sb.2 b (fun z => hb (by simp [z]))).trans (hk b ob (fun z => hb (by simp [z])) (fun z => hb (by simp [z])) q)) hf (Nat.le_refl _) new
    refine ⟨.ref s.heap.objs.size, _, I1, rfl, ⟨_, x, rfl, I.hok.fresh (Nat.le_refl _), rfl, fun ys hy => by rw [I.tuple_inj hy hq]; exact hx⟩, ⟨⟨x', ?_⟩, hit'.at fun o q => (sb.2 it (Ne.symm hne)).trans q, hne⟩, fun b hb => ?_⟩
    · have e1 : ((i + 1 : Nat) : Int) = (i : Int) + 1 := by omega
      rw [e1]; exact he'
    · have hb' : b < s.heap.objs.size := by
        have e' : b = e ∨ b = it := by simpa using hb
        rcases e' with z | z
        · rw [z]; exact hel
        · rw [z]; exact hil
      rw [upd_ne (Nat.ne_of_lt hb')]
      exact (hf b hb).1
  done := by
    intro X hP hw hK hc i pins s σ H E I hf st hg
    subst hP hw hK
    obtain ⟨⟨old, he⟩, hit, hne⟩ := st
    obtain ⟨xs, hq, hx⟩ := hg
    obtain ⟨its, rv, p, hz⟩ := I.tuple hq
    obtain ⟨f0, f1, f2, f3, f4, f5⟩ := hf it (by simp)
    have hl := rv.length
    have hai : a ≠ it := by
      rintro rfl
      obtain ⟨o1, q1, c1, _⟩ := hit
      obtain ⟨o2, q2, c2, _⟩ := id p
      rw [q1] at q2
      cases q2
      rw [c1] at c2
      exact absurd c2 (by decide)
    refine enumT_end (I.ok.hd hc) he hit p (by simp; omega) fun h' eb => ⟨rfl, I.turned (t' := s.toks) (fun b o hb q => eb b o hb q) f0 f1 f3 f4 f5⟩
  self := fun A i s Q E st h => let ⟨⟨_, he⟩, _⟩ := st; wpAny_pyIter_enum he h
def iEnumT (K : PySem.W.Frag) (ta : TA) : TI := fun σ H R => ta σ H fun vs H1 => ∃ a xs, vs = [.ref a] ∧ SqT K H1 a xs ∧ R (IteT K a) H1
theorem pi_enumT {X : Cx} {e : Expr} {ta : TA} {p pos tpos : Pos} {elts : List Expr} {kk : Nat} (hg : Gl X "enumerate") (hm : X.mg "enumerate" = none) (ha : PA X [e] ta) (hs : starEach [e] X.env = [(false, eval e X.env)] := by rfl) :
    PI X (.Tuple elts kk tpos) (.Call (.Name "enumerate" p) [e] [] pos) (iEnumT X.K ta) := by
  refine ⟨fun pins s σ H R I h => ?_⟩
  refine Call_ (ld_blt I hg hm boot_enumerate (PyProof.Rows.callWith_type1 (thn (ha.run pos pins s σ H _ I h) fun us s1 ⟨vs, H1, I1, r1, q1⟩ => ?_) hs rfl))
  obtain ⟨a, xs, ex, hq, q⟩ := q1
  subst ex
  cases r1 with
  | cons r rr =>
    cases rr
    cases r
    obtain ⟨its, rv, p', hz⟩ := I1.tuple hq
    refine call_enumerate_tuple (show s1.heap.IsTuple a its.toArray from p') fun h' he hit hsz hk => wpAny_pyIter_enum he ?_
    have I2 : Inv X pins σ H1 { s1 with heap := h' } := I1.kept (t' := s1.toks) hk
    refine ⟨s1.heap.objs.size + 1, [s1.heap.objs.size + 1, s1.heap.objs.size], _, _, H1, rfl, I2, turn_enumT a (s1.heap.objs.size + 1) s1.heap.objs.size, ⟨⟨.none, he⟩, hit, Nat.succ_ne_self _⟩, fun b hb => ?_, q⟩
    have e' : b = s1.heap.objs.size + 1 ∨ b = s1.heap.objs.size := by simpa using hb
    have hle : s1.heap.objs.size ≤ b := by
      rcases e' with z | z
      · rw [z]; exact Nat.le_add_right _ _
      · rw [z]; exact Nat.le_refl _
    exact I1.fpOk hle (I1.hok.fresh hle)
theorem walk_enumT {K : PySem.W.Frag} {a : Addr} {xs : List V} : Walk (IteT K a) xs.length (fun H => SqT K H a xs) (YPair (fun i => some (.int (i : Nat))) (fun i => xs[i]?)) :=
  ⟨fun i _ hi q => ⟨xs, xs[i], q, by simp [hi]⟩, fun _ q => ⟨xs, q, Nat.le_refl _⟩, fun i _ v _ _ q ⟨T, x, e1, e2, e3, e4⟩ => ⟨T, .int (i : Nat), x, e1, e2, e3, rfl, e4 xs q⟩⟩
end K58
end
section
set_option Elab.async false
set_option linter.all false
set_option maxRecDepth 100000
set_option maxHeartbeats 4000000
/-! ### the text by places, what the top leaves -/
namespace K58
open PySem PySem.Spec PyProof.Rows L2
def top (i : Nat) : Stmt := PySem.Challenge.pw_joinshelf_k58_whole_rests_by_all_plans.main.body.getD i (.Pass ⟨0, 0, 0, 0⟩)

/-- the built-ins that the text calls are still the built-ins -/
structure Bt (mg : Str → Option Value) : Prop where
  isi : mg "isinstance" = none
  int : mg "int" = none
  bool : mg "bool" = none
  tup : mg "tuple" = none
  lst : mg "list" = none
  len : mg "len" = none
  all : mg "all" = none
  enm : mg "enumerate" = none
  sum : mg "sum" = none
  rng : mg "range" = none
  min : mg "min" = none
  abs : mg "abs" = none
  zip : mg "zip" = none

/-- a def that is called by its name, with what it promises -/
structure Fd (P : Program) (w : World) (K : PySem.W.Frag) (mg : Str → Option Value) (base : Heap) (k : Nat) (x : Str) (sp : Sp) : Prop where
  has : ∃ (f : Addr) (fd : FuncData) (ps : List Str), FnOk P w K mg base CX0 k f fd ps sp ∧ mg x = some (.ref f) ∧ PySem.W.keepIn K (.ref f) = true ∧ Binds K fd ps []
/-- a method of the class at C -/
structure Mt (P : Program) (w : World) (K : PySem.W.Frag) (mg : Str → Option Value) (base : Heap) (k : Nat) (C : Addr) (m : Str) (sp : Sp) : Prop where
  has : ∃ (f : Addr) (fd : FuncData) (ps : List Str), Cls K C ∧ Meth K C m f ∧ FnOk P w K mg base CX0 k f fd ps sp ∧ Binds K fd ps []
/-- a class that is made by its name -/
structure Mc (P : Program) (w : World) (K : PySem.W.Frag) (mg : Str → Option Value) (base : Heap) (k : Nat) (x : Str) (C : Addr) (sp : Sp) : Prop where
  has : ∃ (f : Addr) (fd : FuncData) (ps : List Str), Mk K C f ∧ FnOk P w K mg base CX0 k f fd ps sp ∧ mg x = some (.ref C) ∧ Binds K fd ps []
section
variable {P : Program} {w : World} {K : PySem.W.Frag} {mg : Str → Option Value} {base : Heap} {k j : Nat} {x m : Str} {C : Addr} {sp : Sp}
theorem Fd.mono (c : Fd P w K mg base k x sp) (h : k ≤ j) : Fd P w K mg base j x sp := by
  obtain ⟨f, fd, ps, F, r⟩ := c.has
  exact ⟨f, fd, ps, F.mono h, r⟩
theorem Mt.mono (c : Mt P w K mg base k C m sp) (h : k ≤ j) : Mt P w K mg base j C m sp := by
  obtain ⟨f, fd, ps, c1, c2, F, r⟩ := c.has
  exact ⟨f, fd, ps, c1, c2, F.mono h, r⟩
theorem Mt.imp {sp' : Sp} (c : Mt P w K mg base k C m sp) (h : ∀ vs H Q E, sp' vs H Q E → sp vs H Q E) : Mt P w K mg base k C m sp' := by
  obtain ⟨f, fd, ps, c1, c2, F, r⟩ := c.has
  exact ⟨f, fd, ps, c1, c2, F.imp h, r⟩
theorem Mc.mono (c : Mc P w K mg base k x C sp) (h : k ≤ j) : Mc P w K mg base j x C sp := by
  obtain ⟨f, fd, ps, c1, F, r⟩ := c.has
  exact ⟨f, fd, ps, c1, F.mono h, r⟩
end
section
variable {X : Cx} {k j : Nat} {x m : Str} {C : Addr} {sp : Sp} {p pos apos : Pos} {e o : Expr} {es : List Expr} {ta : TE} {t : TA}
theorem pe_f (c : Fd X.prog X.w X.K X.mg X.base k x sp) (hr : Room j X.A) (hk : k ≤ j) (hg : Gl X x) (ha : PA X (e :: es) t)
    (d1 : (x == ("__debug__" : Str)) = false := by decide) (d2 : starEach (e :: es) X.env = (false, eval e X.env) :: starEach es X.env := by rfl) (d3 : (backTo pos (starEach es X.env)).any (·.1) = false := by rfl) :
    PE X (.Call (.Name x p) (e :: es) [] pos) (tCall sp [] E0 t) := by
  obtain ⟨f, fd, ps, F, hm, kp, b⟩ := c.has
  exact pe_call F (hr.mono hk) hg hm kp b .nil pass0 ha d1 d2 d3
theorem pe_m {pl : Sem Bool} (c : Mt X.prog X.w X.K X.mg X.base k C m sp) (hr : Room j X.A) (hk : k ≤ j) (he : PE X o ta) (ha : PA X (e :: es) t)
    (d2 : starEach (e :: es) X.env = (false, eval e X.env) :: starEach es X.env := by rfl) (d3 : (backTo pos (starEach es X.env)).any (·.1) = false := by rfl)
    (d4 : eval (.Call (.Attribute o m apos) (e :: es) [] pos) X.env = (do
      let ov ← eval o X.env
      standAt apos.atName
      let (f, first) ← holding [ov] (getMethod ov m pl)
      callWith pos f first (backTo pos (starEach (e :: es) X.env)) (backToKw pos (keywordEach [] X.env))) := by rfl) :
    PE X (.Call (.Attribute o m apos) (e :: es) [] pos) (tMeth C m sp [] E0 ta t) := by
  obtain ⟨f, fd, ps, hc, hm, F, b⟩ := c.has
  exact pe_meth (pl := pl) he hc hm F (hr.mono hk) b .nil pass0 ha d2 d3 d4
theorem pe_m0 {pl : Sem Bool} (c : Mt X.prog X.w X.K X.mg X.base k C m sp) (hr : Room j X.A) (hk : k ≤ j) (he : PE X o ta)
    (d4 : eval (.Call (.Attribute o m apos) [] [] pos) X.env = (do
      let ov ← eval o X.env
      standAt apos.atName
      let (f, first) ← holding [ov] (getMethod ov m pl)
      callWith pos f first (backTo pos (starEach [] X.env)) (backToKw pos (keywordEach [] X.env))) := by rfl) :
    PE X (.Call (.Attribute o m apos) [] [] pos) (tMeth C m sp [] E0 ta tNil) := by
  obtain ⟨f, fd, ps, hc, hm, F, b⟩ := c.has
  exact pe_meth0 (pl := pl) he hc hm F (hr.mono hk) b .nil pass0 d4
theorem pe_k (c : Mc X.prog X.w X.K X.mg X.base k x C sp) (hr : Room j X.A) (hk : k + 1 ≤ j) (hg : Gl X x) (ha : PA X (e :: es) t)
    (d1 : (x == ("__debug__" : Str)) = false := by decide) (d2 : starEach (e :: es) X.env = (false, eval e X.env) :: starEach es X.env := by rfl) (d3 : (backTo pos (starEach es X.env)).any (·.1) = false := by rfl) :
    PE X (.Call (.Name x p) (e :: es) [] pos) (tMake C sp [] E0 t) := by
  obtain ⟨f, fd, ps, M, F, hm, b⟩ := c.has
  exact pe_make M F (hr.mono hk) hg hm b .nil pass0 ha d1 d2 d3
end

/-! ### what a call leaves as it was: all but the objects at M, all tuples, all instances -/
structure Chg (M : List Addr) (H H' : Hp) : Prop where
  keep : ∀ b o, H b = some o → b ∉ M → H' b = some o
  tups : ∀ b xs, H b = some (.tup xs) → H' b = some (.tup xs)
  inss : ∀ b C dx fs, H b = some (.ins C dx fs) → H' b = some (.ins C dx fs)
section
variable {M N : List Addr} {H H1 H2 : Hp} {a b p : Addr} {o : HO}
theorem Chg.refl : Chg M H H := ⟨fun _ _ h _ => h, fun _ _ h => h, fun _ _ _ _ h => h⟩
theorem Chg.trans (a : Chg M H H1) (b : Chg M H1 H2) : Chg M H H2 := ⟨fun c o h n => b.keep c o (a.keep c o h n) n, fun c xs h => b.tups c xs (a.tups c xs h), fun c C dx fs h => b.inss c C dx fs (a.inss c C dx fs h)⟩
theorem Chg.mono (a : Chg M H H1) (h : ∀ b ∈ M, b ∈ N) : Chg N H H1 := ⟨fun c o q n => a.keep c o q fun z => n (h c z), a.tups, a.inss⟩
theorem Chg.pure (a : Chg [] H H1) : Chg N H H1 := a.mono fun _ z => absurd z (by simp)
theorem Chg.same (a : Chg [] H H1) : Same H H1 := fun b o h => a.keep b o h (by simp)
theorem Chg.at (a : Chg [] H H1) {b : Addr} {o : HO} (h : H b = some o) : H1 b = some o := a.keep b o h (by simp)
theorem Chg.new (h : H p = none) : Chg M H (upd H p o) :=
  ⟨fun b u q _ => by rw [upd_ne (ne_of_none q h)]; exact q, fun b xs q => by rw [upd_ne (ne_of_none q h)]; exact q, fun b C dx fs q => by rw [upd_ne (ne_of_none q h)]; exact q⟩
theorem Chg.and_new (a : Chg M H H1) (h : H1 p = none) : Chg M H (upd H1 p o) := a.trans (Chg.new h)
/-- an object that was not there before is written -/
theorem Chg.put (a : Chg M H H1) (h : H p = none) : Chg M H (upd H1 p o) :=
  ⟨fun b u q n => by rw [upd_ne (ne_of_none q h)]; exact a.keep b u q n, fun b xs q => by rw [upd_ne (ne_of_none q h)]; exact a.tups b xs q, fun b C dx fs q => by rw [upd_ne (ne_of_none q h)]; exact a.inss b C dx fs q⟩
/-- a list, a dict of the named ones is written -/
theorem Chg.lst (a : Chg M H H1) {xs : List V} (h : H1 p = some (.lst xs)) (hm : p ∈ M) : Chg M H (upd H1 p o) :=
  ⟨fun b u q n => by rw [upd_ne (fun e => n (by rw [e]; exact hm))]; exact a.keep b u q n,
   fun b xs q => by rw [upd_ne (ne_of (a.tups b xs q) h (by intro z; cases z))]; exact a.tups b xs q,
   fun b C dx fs q => by rw [upd_ne (ne_of (a.inss b C dx fs q) h (by intro z; cases z))]; exact a.inss b C dx fs q⟩
theorem Chg.dct (a : Chg M H H1) {kvs : List (List Key × V)} (h : H1 p = some (.dT kvs)) (hm : p ∈ M) : Chg M H (upd H1 p o) :=
  ⟨fun b u q n => by rw [upd_ne (fun e => n (by rw [e]; exact hm))]; exact a.keep b u q n,
   fun b xs q => by rw [upd_ne (ne_of (a.tups b xs q) h (by intro z; cases z))]; exact a.tups b xs q,
   fun b C dx fs q => by rw [upd_ne (ne_of (a.inss b C dx fs q) h (by intro z; cases z))]; exact a.inss b C dx fs q⟩
/-- an object that was not there before may change -/
theorem Chg.drop (a : Chg (p :: M) H H1) (h : H p = none) : Chg M H H1 := ⟨fun b u q n => a.keep b u q (by
  intro z
  rcases List.mem_cons.mp z with e | z
  · rw [e, h] at q; cases q
  · exact n z), a.tups, a.inss⟩
theorem Chg.free (a : Chg M H H1) (h : H1 p = none) (hm : ∀ b ∈ M, ∃ o, H1 b = some o) : H p = none := by
  cases e : H p with
  | none => rfl
  | some o =>
    by_cases z : p ∈ M
    · obtain ⟨u, q⟩ := hm p z
      rw [q] at h; cases h
    · rw [a.keep p o e z] at h; cases h
end

/-! ### data: what does not change -/
mutual
inductive TD (H : Hp) : V → PyData → Prop
  | non : TD H .non .none
  | bl (b : Bool) : TD H (.bl b) (.bool b)
  | int (i : Int) : TD H (.int i) (.int i)
  | tup {a : Addr} {xs : List V} {ds : List PyData} : H a = some (.tup xs) → TDs H xs ds → TD H (.ref a) (.tuple ds)
inductive TDs (H : Hp) : List V → List PyData → Prop
  | nil : TDs H [] []
  | cons {v : V} {vs : List V} {d : PyData} {ds : List PyData} : TD H v d → TDs H vs ds → TDs H (v :: vs) (d :: ds)
end
section
variable {H H1 : Hp}
mutual
theorem TD.keep (k : ∀ b xs, H b = some (.tup xs) → H1 b = some (.tup xs)) : ∀ {v : V} {d : PyData}, TD H v d → TD H1 v d
  | _, _, .non => .non
  | _, _, .bl b => .bl b
  | _, _, .int i => .int i
  | _, _, .tup h t => .tup (k _ _ h) (TDs.keep k t)
theorem TDs.keep (k : ∀ b xs, H b = some (.tup xs) → H1 b = some (.tup xs)) : ∀ {vs : List V} {ds : List PyData}, TDs H vs ds → TDs H1 vs ds
  | _, _, .nil => .nil
  | _, _, .cons h t => .cons (TD.keep k h) (TDs.keep k t)
end
mutual
theorem TD.dp (K : PySem.W.Frag) : ∀ {v : V} {d : PyData}, TD H v d → Dp K H v d
  | _, _, .non => .non
  | _, _, .bl b => .bl b
  | _, _, .int i => .int i
  | _, _, .tup h t => .tup (SqT.of h) (TDs.dp K t)
theorem TDs.dp (K : PySem.W.Frag) : ∀ {vs : List V} {ds : List PyData}, TDs H vs ds → DpAll K H vs ds
  | _, _, .nil => .nil
  | _, _, .cons h t => .cons (TD.dp K h) (TDs.dp K t)
end
theorem TD.chg {M : List Addr} {v : V} {d : PyData} (h : TD H v d) (c : Chg M H H1) : TD H1 v d := h.keep c.tups
theorem TDs.chg {M : List Addr} {v : List V} {d : List PyData} (h : TDs H v d) (c : Chg M H H1) : TDs H1 v d := h.keep c.tups
theorem TDs.length : ∀ {vs : List V} {ds : List PyData}, TDs H vs ds → vs.length = ds.length
  | _, _, .nil => rfl
  | _, _, .cons _ t => by rw [List.length_cons, List.length_cons, TDs.length t]
theorem TDs.get : ∀ {vs : List V} {ds : List PyData}, TDs H vs ds → ∀ {i : Nat} {d : PyData}, ds[i]? = some d → ∃ v, vs[i]? = some v ∧ TD H v d
  | _, _, .nil, i, d, h => by simp at h
  | _, _, .cons h t, 0, d, e => by
    simp at e
    subst e
    exact ⟨_, rfl, h⟩
  | _, _, .cons h t, i + 1, d, e => by
    obtain ⟨v, h1, h2⟩ := TDs.get t (i := i) (d := d) (by simpa using e)
    exact ⟨v, by simpa using h1, h2⟩
theorem TDs.got : ∀ {vs : List V} {ds : List PyData}, TDs H vs ds → ∀ {i : Nat} {v : V}, vs[i]? = some v → ∃ d, ds[i]? = some d ∧ TD H v d
  | _, _, .nil, i, d, h => by simp at h
  | _, _, .cons h t, 0, d, e => by
    simp at e
    subst e
    exact ⟨_, rfl, h⟩
  | _, _, .cons h t, i + 1, d, e => by
    obtain ⟨v, h1, h2⟩ := TDs.got t (i := i) (v := d) (by simpa using e)
    exact ⟨v, by simpa using h1, h2⟩
theorem TDs.app : ∀ {vs ws : List V} {ds es : List PyData}, TDs H vs ds → TDs H ws es → TDs H (vs ++ ws) (ds ++ es)
  | _, _, _, _, .nil, s => s
  | _, _, _, _, .cons h t, s => .cons h (TDs.app t s)
theorem TDs.snoc {vs : List V} {ds : List PyData} {v : V} {d : PyData} (h : TDs H vs ds) (g : TD H v d) : TDs H (vs ++ [v]) (ds ++ [d]) := TDs.app h (.cons g .nil)
theorem TDs.take : ∀ {vs : List V} {ds : List PyData} (n : Nat), TDs H vs ds → TDs H (vs.take n) (ds.take n)
  | _, _, 0, _ => .nil
  | _, _, _ + 1, .nil => .nil
  | _, _, n + 1, .cons h t => .cons h (TDs.take n t)
theorem TDs.drop : ∀ {vs : List V} {ds : List PyData} (n : Nat), TDs H vs ds → TDs H (vs.drop n) (ds.drop n)
  | _, _, 0, r => r
  | _, _, _ + 1, .nil => .nil
  | _, _, n + 1, .cons _ t => TDs.drop n t
theorem TD.int_inv {v : V} {i : Int} (h : TD H v (.int i)) : v = .int i := by
  cases h
  rfl
theorem TD.tup_inv {v : V} {ds : List PyData} (h : TD H v (.tuple ds)) : ∃ a xs, v = .ref a ∧ H a = some (.tup xs) ∧ TDs H xs ds := by
  cases h with
  | tup h t => exact ⟨_, _, rfl, h, t⟩
/-- ints in a row -/
theorem TDs.ints : ∀ (ns : List Int), TDs H (ns.map V.int) (ns.map PyData.int)
  | [] => .nil
  | n :: ns => .cons (.int n) (TDs.ints ns)
theorem TDs.ints_inv : ∀ {ns : List Int} {vs : List V}, TDs H vs (ns.map PyData.int) → vs = ns.map V.int
  | [], _, h => by cases h; rfl
  | n :: ns, _, h => by
    cases h with
    | cons h t =>
      rw [h.int_inv, TDs.ints_inv t]
      rfl
end
/-- a tuple of whole numbers -/
def iD (ns : List Int) : PyData := .tuple (ns.map PyData.int)
def nI (ns : List Nat) : List Int := ns.map fun n : Nat => (n : Int)
/-- a plan -/
def pD (p : List Nat) : PyData := iD (nI p)
/-- a cost and a plan -/
def cD (x : PP) : PyData := .tuple [.int x.1, pD x.2]
section
variable {H : Hp}
theorem TD.ints {a : Addr} {ns : List Int} (h : H a = some (.tup (ns.map V.int))) : TD H (.ref a) (iD ns) := .tup h (.ints ns)
theorem TD.ints_inv {v : V} {ns : List Int} (h : TD H v (iD ns)) : ∃ a, v = .ref a ∧ H a = some (.tup (ns.map V.int)) := by
  obtain ⟨a, xs, e, h1, h2⟩ := h.tup_inv
  rw [h2.ints_inv] at h1
  exact ⟨a, e, h1⟩
end
/-- a triangle of numbers: a row for each first hour -/
def rowD (F : Nat → Nat → Int) (n a : Nat) : List Int := (List.range (n - a)).map fun j => F a (a + j)
def triD (F : Nat → Nat → Int) (n : Nat) : PyData := .tuple ((List.range n).map fun a => iD (rowD F n a))
theorem rowD_len {F : Nat → Nat → Int} {n a : Nat} : (rowD F n a).length = n - a := by
  unfold rowD
  rw [List.length_map, List.length_range]
theorem rowD_get {F : Nat → Nat → Int} {n a j : Nat} (h : a + j < n) : (rowD F n a)[j]? = some (F a (a + j)) := by
  unfold rowD
  rw [List.getElem?_map, List.getElem?_range (by omega)]
  rfl
end K58
end
section
set_option Elab.async false
set_option linter.all false
set_option maxRecDepth 100000
set_option maxHeartbeats 4000000
/-! ### plans and pairs as data: their order, their depth -/
namespace K58
open PySem PySem.SeqAt PyProof.Rows PySem.W
theorem alike_ints : ∀ (a b : List Int), alikeAll (a.map PyData.int) (b.map PyData.int) = true
  | [], _ => by simp [alikeAll]
  | _ :: _, [] => by simp [alikeAll]
  | x :: a, y :: b => by
    have := alike_ints a b
    simp [alikeAll, alike, this]
theorem alike_iD (a b : List Int) : alike (iD a) (iD b) = true := by
  unfold iD
  rw [alike]
  exact alike_ints a b
theorem alike_cD (x y : PP) : alike (cD x) (cD y) = true := by
  have h := alike_iD (nI x.2) (nI y.2)
  unfold cD pD
  simp [alike, alikeAll, h]
theorem depth_ints : ∀ a : List Int, PyData.depthAll (a.map PyData.int) = 0
  | [] => by simp [PyData.depthAll]
  | x :: a => by
    have := depth_ints a
    simp [PyData.depthAll, PyData.depth, this]
theorem depth_iD (a : List Int) : (iD a).depth = 1 := by
  unfold iD
  rw [PyData.depth, depth_ints]
theorem depth_cD (x : PP) : (cD x).depth = 2 := by
  unfold cD pD
  rw [PyData.depth, PyData.depthAll, PyData.depthAll, PyData.depthAll, depth_iD]
  simp [PyData.depth]
theorem depth_all {α : Type} (g : α → PyData) (m : Nat) (h : ∀ a, (g a).depth ≤ m) : ∀ l : List α, PyData.depthAll (l.map g) ≤ m
  | [] => by simp [PyData.depthAll]
  | a :: l => by
    have h1 := depth_all g m h l
    have h2 := h a
    rw [List.map_cons, PyData.depthAll]
    omega
theorem lt_tok (l m : List (Int ⊕ List Nat)) : lexLt itemOrd (.inl 0 :: l) (.inl 1 :: m) = true := by
  rw [lex_cons]
  rfl
theorem lt_tok' (l m : List (Int ⊕ List Nat)) : lexLt itemOrd (.inl 1 :: l) (.inl 0 :: m) = false := by
  rw [lex_cons]
  rfl
theorem lt_plan : ∀ (p q : List Nat), lexLt itemOrd (keyToksAll ((nI p).map PyData.int)) (keyToksAll ((nI q).map PyData.int)) = ltL p q
  | [], [] => by
    show lexLt itemOrd (keyToksAll []) (keyToksAll []) = false
    rw [lex_irrefl]
  | [], b :: bs => by
    show lexLt itemOrd (keyToksAll []) (keyToksAll (PyData.int (b : Int) :: (nI bs).map PyData.int)) = true
    rw [keyToksAll, keyToksAll]
    exact lt_tok _ _
  | a :: as, [] => by
    show lexLt itemOrd (keyToksAll (PyData.int (a : Int) :: (nI as).map PyData.int)) (keyToksAll []) = false
    rw [keyToksAll, keyToksAll]
    exact lt_tok' _ _
  | a :: as, b :: bs => by
    show lexLt itemOrd (keyToksAll (PyData.int (a : Int) :: (nI as).map PyData.int)) (keyToksAll (PyData.int (b : Int) :: (nI bs).map PyData.int)) = _
    have ha : alike (PyData.int (a : Int)) (PyData.int (b : Int)) = true := by simp [alike]
    have ih := lt_plan as bs
    by_cases e : a = b
    · subst e
      rw [dataLt_all_yes ha (by simp [PyData.eqv]), ih]
      simp [ltL]
    · rw [dataLt_all_no ha (by simp [PyData.eqv]; omega), dataLt_int]
      have : decide (((a : Nat) : Int) < ((b : Nat) : Int)) = decide (a < b) := by
        by_cases h : a < b
        · rw [decide_eq_true h, decide_eq_true (by omega)]
        · rw [decide_eq_false h, decide_eq_false (by omega)]
      rw [this]
      simp [ltL, e]
theorem lt_pD (p q : List Nat) : dataLt (pD p) (pD q) = ltL p q := by
  unfold pD iD
  rw [dataLt_tuple, lt_plan]
theorem nI_inj : ∀ {p q : List Nat}, nI p = nI q → p = q
  | [], [], _ => rfl
  | [], _ :: _, h => by cases h
  | _ :: _, [], h => by cases h
  | a :: p, b :: q, h => by
    have h : (a : Int) :: nI p = (b : Int) :: nI q := h
    injection h with h1 h2
    rw [nI_inj h2, show a = b by omega]
theorem ints_inj : ∀ {a b : List Int}, a.map PyData.int = b.map PyData.int → a = b
  | [], [], _ => rfl
  | [], _ :: _, h => by cases h
  | _ :: _, [], h => by cases h
  | x :: a, y :: b, h => by
    rw [List.map_cons, List.map_cons] at h
    injection h with h1 h2
    injection h1 with h1
    rw [h1, ints_inj h2]
theorem iD_inj {a b : List Int} (h : iD a = iD b) : a = b := by
  unfold iD at h
  injection h with h
  exact ints_inj h
theorem pD_inj {p q : List Nat} (h : pD p = pD q) : p = q := nI_inj (iD_inj h)
theorem eqv_ints : ∀ (a b : List Int), PyData.eqvAll (a.map PyData.int) (b.map PyData.int) = decide (a = b)
  | [], [] => by simp [PyData.eqvAll]
  | [], _ :: _ => by simp [PyData.eqvAll]
  | _ :: _, [] => by simp [PyData.eqvAll]
  | x :: a, y :: b => by
    have ih := eqv_ints a b
    simp only [List.map_cons]
    rw [PyData.eqvAll, ih]
    by_cases h1 : x = y
    · subst h1
      by_cases h2 : a = b
      · subst h2
        simp [PyData.eqv]
      · simp [PyData.eqv, h2]
    · simp [PyData.eqv, h1]
theorem eqv_iD (a b : List Int) : PyData.eqv (iD a) (iD b) = decide (a = b) := by
  unfold iD
  rw [PyData.eqv, eqv_ints]
theorem lt_cD (x y : PP) : dataLt (cD x) (cD y) = ltP x y := by
  obtain ⟨a, p⟩ := x
  obtain ⟨b, q⟩ := y
  unfold cD
  rw [dataLt_tuple]
  have ha : alike (PyData.int a) (PyData.int b) = true := by simp [alike]
  have hp : alike (pD p) (pD q) = true := alike_iD _ _
  by_cases e : a = b
  · subst e
    rw [dataLt_all_yes ha (by simp [PyData.eqv])]
    by_cases e2 : p = q
    · subst e2
      rw [lex_irrefl]
      simp [ltP, ltL_irr]
    · rw [dataLt_all_no hp (by
        unfold pD
        rw [eqv_iD]
        exact decide_eq_false fun z => e2 (nI_inj z)), lt_pD]
      simp [ltP]
  · rw [dataLt_all_no ha (by simp [PyData.eqv]; exact e), dataLt_int]
    simp [ltP, e]
/-- the least of a list of plans, of a list of pairs -/
theorem minD_pD (p : List Nat) (ps : List (List Nat)) : minD (pD p) (ps.map pD) = pD (minL (p :: ps)) := by
  unfold minD
  show _ = pD (ps.foldl (fun a y => if ltL y a then y else a) p)
  induction ps generalizing p with
  | nil => rfl
  | cons q qs ih =>
    rw [List.map_cons, List.foldl_cons, List.foldl_cons, lt_pD]
    have e : (if ltL q p = true then pD q else pD p) = pD (if ltL q p = true then q else p) := by split <;> rfl
    rw [e]
    exact ih _
theorem minD_cD (x : PP) (xs : List PP) : minD (cD x) (xs.map cD) = cD (minP (x :: xs)) := by
  unfold minD
  show _ = cD (xs.foldl (fun a y => if ltP y a then y else a) x)
  induction xs generalizing x with
  | nil => rfl
  | cons y ys ih =>
    rw [List.map_cons, List.foldl_cons, List.foldl_cons, lt_cD]
    have e : (if ltP y x = true then cD y else cD x) = cD (if ltP y x = true then y else x) := by split <;> rfl
    rw [e]
    exact ih _
theorem alikeP (l : List (List Nat)) : AlikeAll (l.map pD) := by
  refine ⟨fun x hx y hy => ?_, fun x hx e => ?_⟩
  · obtain ⟨p, _, rfl⟩ := List.mem_map.mp hx
    obtain ⟨q, _, rfl⟩ := List.mem_map.mp hy
    exact alike_iD _ _
  · obtain ⟨p, _, rfl⟩ := List.mem_map.mp hx
    cases e
theorem alikeC (l : List PP) : AlikeAll (l.map cD) := by
  refine ⟨fun x hx y hy => ?_, fun x hx e => ?_⟩
  · obtain ⟨p, _, rfl⟩ := List.mem_map.mp hx
    obtain ⟨q, _, rfl⟩ := List.mem_map.mp hy
    exact alike_cD _ _
  · obtain ⟨p, _, rfl⟩ := List.mem_map.mp hx
    cases e
open L2 in
/-- min of a list of plans -/
theorem min_plans {K : PySem.W.Frag} {H : Hp} {a : Addr} {xs : List V} {ps : List (List Nat)} {Q : VK} (h : H a = some (.lst xs)) (hx : TDs H xs (ps.map pD)) (hne : ps ≠ []) (q : ∀ v, TD H v (pD (minL ps)) → Q v H) : rMinD K [.ref a] H Q := by
  cases ps with
  | nil => exact absurd rfl hne
  | cons p ps =>
    refine ⟨a, xs, pD p, ps.map pD, rfl, SqL.of h, hx.dp K, alikeP (p :: ps), Nat.le_trans (depth_all pD 1 (fun a => by unfold pD; rw [depth_iD]; exact Nat.le_refl _) (p :: ps)) (by decide), fun i v hv hd => ?_⟩
    obtain ⟨d, h1, h2⟩ := hx.got hv
    rw [minD_pD] at hd
    have h1 : (pD p :: ps.map pD)[i]? = some d := h1
    rw [hd] at h1
    cases h1
    exact q v h2
open L2 in
/-- min of a list of pairs -/
theorem min_pairs {K : PySem.W.Frag} {H : Hp} {a : Addr} {xs : List V} {ps : List PP} {Q : VK} (h : H a = some (.lst xs)) (hx : TDs H xs (ps.map cD)) (hne : ps ≠ []) (q : ∀ v, TD H v (cD (minP ps)) → Q v H) : rMinD K [.ref a] H Q := by
  cases ps with
  | nil => exact absurd rfl hne
  | cons p ps =>
    refine ⟨a, xs, cD p, ps.map cD, rfl, SqL.of h, hx.dp K, alikeC (p :: ps), Nat.le_trans (depth_all cD 2 (fun a => by rw [depth_cD]; exact Nat.le_refl _) (p :: ps)) (by decide), fun i v hv hd => ?_⟩
    obtain ⟨d, h1, h2⟩ := hx.got hv
    rw [minD_cD] at hd
    have h1 : (cD p :: ps.map cD)[i]? = some d := h1
    rw [hd] at h1
    cases h1
    exact q v h2
end K58
end
section
set_option Elab.async false
set_option linter.all false
set_option maxRecDepth 100000
set_option maxHeartbeats 4000000
/-! ### checks -/
namespace K58
open PySem PySem.Spec PyProof.Rows L2
abbrev sIsInt : Stmt := top 7
abbrev sWithin : Stmt := top 8
abbrev sIsRow : Stmt := top 9
abbrev sWrong : Stmt := top 10
abbrev sChkNum : Stmt := top 11
def spIsInt : Sp := fun vs H Q _ => ∃ n : Int, vs = [.int n] ∧ Q (.bl true) H
def spWithin : Sp := fun vs H Q _ => ∃ n a b : Int, vs = [.int n, .int a, .int b] ∧ Q (.bl (decide (a ≤ n) && decide (n ≤ b))) H
def spIsRow : Sp := fun vs H Q _ => ∃ (t : V) (ns : List Int) (a b : Int), vs = [t, .int (ns.length : Nat), .int a, .int b] ∧ TD H t (iD ns) ∧ ns.length ≤ 1000 ∧ (∀ n ∈ ns, a ≤ n ∧ n ≤ b) ∧ ∀ H', Chg [] H H' → Q (.bl true) H'
section
variable {P : Program} {w : World} {K : PySem.W.Frag} {mg : Str → Option Value} {base : Heap}
theorem scIsInt : FnScope ["thing"] ["thing"] (defScope sIsInt) := ⟨rfl, rfl, rfl, by decide +kernel, rfl, by decide +kernel, by decide +kernel⟩
theorem ok_isInt {f : Addr} {fd : FuncData} (F : Fun K "is_integer" "is_integer" sIsInt f fd) (B : Bt mg) : FnOk P w K mg base CX0 1 f fd ["thing"] spIsInt := by
  refine F.ok scIsInt (fun vs H Q E h => ?_) (fun cdv A outer s H vs Q E hr h => ?_)
  · obtain ⟨n, rfl, _⟩ := h
    rfl
  obtain ⟨n, rfl, q⟩ := h
  refine ⟨_, pss_one (ps_ret (pe_and (pe_callB call_isi (by rfl) B.isi (by decide +kernel) (pa_cons (pv 0) (pa_cons (pe_bltn (v := .ty "int") (by rfl) B.int (by decide +kernel) rfl) pa_nil)))
    (pe_one (pe_not (pe_callB call_isi (by rfl) B.isi (by decide +kernel) (pa_cons (pv 0) (pa_cons (pe_bltn (v := .ty "bool") (by rfl) B.bool (by decide +kernel) rfl) pa_nil))))))), ?_⟩
  refine ⟨_, rfl, _, _, _, _, true, rfl, .ty _, .base (.int _), kit_ty (by decide +kernel), true, rfl, ?_⟩
  refine iteT ?_
  refine ⟨_, rfl, _, _, _, _, false, rfl, .ty _, .base (.int _), kit_ty (by decide +kernel), false, rfl, ?_⟩
  exact q
theorem scWithin : FnScope ["thing", "least", "most"] ["thing", "least", "most"] (defScope sWithin) := ⟨rfl, rfl, rfl, by decide +kernel, rfl, by decide +kernel, by decide +kernel⟩
theorem ok_within {f : Addr} {fd : FuncData} (F : Fun K "is_within" "is_within" sWithin f fd) (c1 : Fd P w K mg base 1 "is_integer" spIsInt) : FnOk P w K mg base CX0 2 f fd ["thing", "least", "most"] spWithin := by
  refine F.ok scWithin (fun vs H Q E h => ?_) (fun cdv A outer s H vs Q E hr h => ?_)
  · obtain ⟨n, a, b, rfl, _⟩ := h
    rfl
  obtain ⟨n, a, b, rfl, q⟩ := h
  refine ⟨_, pss_one (ps_ret (pe_and (pe_f c1 hr (by decide) rfl (pa_cons (pv 0) pa_nil)) (pe_one (pe_chain op_le op_le (pv 1) (pv 0) (pv 2))))), ?_⟩
  refine ⟨_, rfl, n, rfl, true, rfl, iteT ?_⟩
  refine ⟨_, rfl, _, rfl, _, _, rfl, rfl, _, rfl, ite2 (fun c => ?_) (fun c => ?_)⟩
  · refine ⟨_, rfl, _, _, rfl, rfl, ?_⟩
    rw [c, Bool.true_and] at q
    exact q
  · rw [Bool.eq_false_iff.mpr c, Bool.false_and] at q
    exact q
theorem scIsRow : FnScope ["thing", "size", "least", "most", "number"] ["thing", "size", "least", "most"] (defScope sIsRow) := ⟨rfl, rfl, rfl, by decide +kernel, rfl, by decide +kernel, by decide +kernel⟩
theorem ok_isRow {f : Addr} {fd : FuncData} (F : Fun K "is_row" "is_row" sIsRow f fd) (B : Bt mg) (c1 : Fd P w K mg base 2 "is_within" spWithin) : FnOk P w K mg base CX0 3 f fd ["thing", "size", "least", "most"] spIsRow := by
  refine F.ok scIsRow (fun vs H Q E h => ?_) (fun cdv A outer s H vs Q E hr h => ?_)
  · obtain ⟨t, ns, a, b, rfl, _⟩ := h
    rfl
  obtain ⟨t, ns, a, b, rfl, ht, hz, hb, q⟩ := h
  obtain ⟨ad, rfl, hh⟩ := ht.ints_inv
  have hl : (ns.map V.int).length = ns.length := List.length_map _
  refine ⟨_, pss_cons (ps_if (PW.pt (pw_or (pt_not (pt_val (pe_callB call_isi (by rfl) B.isi (by decide +kernel) (pa_cons (pv 0) (pa_cons (pe_bltn (v := .ty "tuple") (by rfl) B.tup (by decide +kernel) rfl) pa_nil)))))
      (pw_or1 (pt_cmpR op_ne (pe_callB call_len_seq (by rfl) B.len PySem.boot_len (pa_cons (pv 0) pa_nil)) (pv 1) (nomark _))))) (pss_one (ps_ret pe_bl)) pss_nil)
    (pss_one (ps_ret (pe_callB (cr_all rfl) (by rfl) B.all (by decide +kernel) (pa_cons (pe_lc (own := [("number", 4)]) (g := gName 4) (tt := tYes) rfl scIsRow.nd (pi_tup (pv 0))
      (blkOk_by (N := ["thing", "size", "least", "most", "number"]) (sc := defScope sIsRow) (by decide +kernel)) (fun _ _ _ _ _ => pg_name (i := 4) scIsRow.nd rfl (Or.inl rfl)) (fun _ _ _ _ _ => pts_nil)
      (fun _ _ _ _ _ => pe_f c1 hr (by decide) rfl (pa_cons (pv 4) (pa_cons (pv 2) (pa_cons (pv 3) pa_nil))))) pa_nil)))), ?_⟩
  refine ⟨_, rfl, _, _, _, _, true, rfl, .ty _, .base (.tup hh), kit_ty (by decide +kernel), true, rfl, ?_⟩
  refine iteF ?_
  refine ⟨_, rfl, ad, _, rfl, .inr (SqT.of hh), _, rfl, rfl, _, rfl, ?_⟩
  rw [hl]
  refine iteNS rfl ?_
  refine ⟨_, rfl, ad, rfl, ⟨_, SqT.of hh⟩, fun D hD => lc_tup (K := K) (a := ad) (xs := ns.map V.int) (fun i H' => Chg [] H H' ∧ H' D = some (.lst ((List.replicate i true).map V.bl)))
    ⟨Chg.new hD, upd_same⟩ (fun i H' _ p => SqT.of (p.1.at hh)) ?_ ?_⟩
  · intro i x H' hx ⟨p1, p2⟩
    have hi : i < ns.length := by
      have := (List.getElem?_eq_some_iff.mp hx).1
      rwa [hl] at this
    rw [List.getElem?_map, List.getElem?_eq_getElem hi] at hx
    cases hx
    obtain ⟨b1, b2⟩ := hb _ (List.getElem_mem hi)
    refine ⟨rfl, ?_⟩
    refine ⟨_, rfl, _, rfl, _, rfl, ns[i], a, b, rfl, _, p2, ?_, p1.put hD, ?_⟩
    · rw [List.length_map, List.length_replicate]
      exact small1000 (by omega)
    · rw [upd_same, decide_eq_true b1, decide_eq_true b2, Bool.and_self, List.replicate_succ', List.map_append]
      rfl
  · intro H' ⟨p1, p2⟩
    refine ⟨D, _, rfl, SqL.of p2, ?_⟩
    rw [hl]
    have e : ((List.replicate ns.length true).all id) = true := by
      simp
    rw [e]
    exact q H' p1
/-- a triangle's rows are all right -/
def spWrong : Sp := fun vs H Q _ => ∃ (t : V) (F : Nat → Nat → Int) (n : Nat) (a b : Int), vs = [t, .int a, .int b] ∧ TD H t (triD F n) ∧ n ≤ 100 ∧ (∀ i j, i ≤ j → j < n → a ≤ F i j ∧ F i j ≤ b) ∧ ∀ H', Chg [] H H' → Q .non H'
theorem scWrong : FnScope ["rows", "least", "most", "number", "row"] ["rows", "least", "most"] (defScope sWrong) := ⟨rfl, rfl, rfl, by decide +kernel, rfl, by decide +kernel, by decide +kernel⟩
theorem ok_wrong {f : Addr} {fd : FuncData} (F : Fun K "first_wrong_row" "first_wrong_row" sWrong f fd) (B : Bt mg) (c1 : Fd P w K mg base 3 "is_row" spIsRow) : FnOk P w K mg base CX0 4 f fd ["rows", "least", "most"] spWrong := by
  refine F.ok scWrong (fun vs H Q E h => ?_) (fun cdv A outer s H vs Q E hr h => ?_)
  · obtain ⟨t, F, n, a, b, rfl, _⟩ := h
    rfl
  obtain ⟨t, F, n, a, b, rfl, ht, hn, hb, q⟩ := h
  obtain ⟨ad, xs, rfl, hh, hx⟩ := ht.tup_inv
  have hl : xs.length = n := by rw [hx.length, List.length_map, List.length_range]
  refine ⟨_, pss_cons (ps_for PassesOwn.never rfl (pi_enumT (by rfl) B.enm (pa_cons (pv 0) pa_nil))
      (pg_tup rfl (pgs_cons (pg_name (i := 3) scWrong.nd rfl (.inl rfl)) (pgs_cons (pg_name (i := 4) scWrong.nd rfl (.inl rfl)) pgs_nil)))
      (pss_one (ps_if (pt_not (pt_val (pe_f c1 hr (by decide) rfl (pa_cons (pv 4) (pa_cons (pe_op op_sub (pe_callB call_len_seq (by rfl) B.len PySem.boot_len (pa_cons (pv 0) pa_nil)) (pv 3)) (pa_cons (pv 1) (pa_cons (pv 2) pa_nil)))))))
        (pss_one (ps_ret (pv 3))) pss_nil)))
    (pss_one (ps_ret pe_non)), ?_⟩
  refine ⟨_, rfl, ad, xs, rfl, SqT.of hh, for_it walk_enumT (fun i σ H' => (∃ u v, σ = [some (.ref ad), some (.int a), some (.int b), u, v]) ∧ Chg [] H H') ⟨⟨_, _, rfl⟩, Chg.refl⟩ (fun i σ H' _ p => SqT.of (p.2.at hh)) ?_ ?_⟩
  · intro i v σ H1 H2 hi ⟨⟨u1, u2, e⟩, p⟩ ⟨T, x, y, ev, hT, eH, ex, ey⟩
    subst e ev eH
    cases ex
    rw [hl] at hi
    have p2 : Chg [] H (upd H1 T (.tup [.int (i : Nat), y])) := p.and_new hT
    refine ⟨T, _, rfl, SqT.of upd_same, rfl, _, _, rfl, _, _, rfl, rfl, ?_⟩
    obtain ⟨d, hd, ty⟩ := hx.got ey
    rw [List.getElem?_map, List.getElem?_range hi] at hd
    cases hd
    refine ⟨_, rfl, _, rfl, ad, xs, rfl, .inr (SqT.of (p2.at hh)), _, rfl, _, _, rfl, rfl, _, rfl, _, rfl, ?_⟩
    rw [hl]
    refine ⟨y, rowD F n i, a, b, ?_, ty.chg p2, by rw [rowD_len]; omega, ?_, fun H3 p3 => ?_⟩
    · rw [rowD_len]
      have e : ((n - i : Nat) : Int) = (n : Int) - (i : Int) := by omega
      rw [e]
      rfl
    · intro m hm
      obtain ⟨j, hj, rfl⟩ := List.mem_map.mp hm
      have := List.mem_range.mp hj
      exact hb _ _ (by omega) (by omega)
    · refine ⟨true, rfl, ?_⟩
      exact ⟨⟨_, _, rfl⟩, p2.trans p3⟩
  · intro σ H' ⟨_, p⟩
    exact q H' p
def spChk : Sp := fun vs H Q _ => ∃ n a b : Int, vs = [.int n, .int a, .int b] ∧ a ≤ n ∧ n ≤ b ∧ Q .non H
theorem scChkNum : FnScope ["thing", "least", "most"] ["thing", "least", "most"] (defScope sChkNum) := ⟨rfl, rfl, rfl, by decide +kernel, rfl, by decide +kernel, by decide +kernel⟩
theorem ok_chkNum {f : Addr} {fd : FuncData} (F : Fun K "check_number" "check_number" sChkNum f fd) (c1 : Fd P w K mg base 2 "is_within" spWithin) : FnOk P w K mg base CX0 3 f fd ["thing", "least", "most"] spChk := by
  refine F.ok scChkNum (fun vs H Q E h => ?_) (fun cdv A outer s H vs Q E hr h => ?_)
  · obtain ⟨n, a, b, rfl, _⟩ := h
    rfl
  obtain ⟨n, a, b, rfl, h1, h2, q⟩ := h
  refine ⟨_, pss_one (ps_if (pt_not (pt_val (pe_f c1 hr (by decide) rfl (pa_cons (pv 0) (pa_cons (pv 1) (pa_cons (pv 2) pa_nil)))))) (pss_one ps_never) pss_nil), ?_⟩
  refine ⟨_, rfl, _, rfl, _, rfl, n, a, b, rfl, true, ?_, ?_⟩
  · rw [decide_eq_true h1, decide_eq_true h2]
    rfl
  · exact q
end
end K58
end
section
set_option Elab.async false
set_option linter.all false
set_option maxRecDepth 100000
set_option maxHeartbeats 4000000
/-! ### tasks -/
namespace K58
open PySem PySem.Spec PyProof.Rows L2
abbrev sTaskI : Stmt := inClass (top 15) 0
abbrev sLenOf : Stmt := top 16
abbrev sWriteOf : Stmt := top 17
abbrev sLookSum : Stmt := top 18
def tkF (wv lv : V) : List (Str × V) := putF "looks" lv (putF "writes" wv [])
theorem tkF_w (wv lv : V) : (tkF wv lv).lookup ("writes" : Str) = some wv := by
  unfold tkF
  rw [lookup_putF, if_neg (by decide +kernel), lookup_putF, if_pos rfl]
theorem tkF_l (wv lv : V) : (tkF wv lv).lookup ("looks" : Str) = some lv := by
  unfold tkF
  rw [lookup_putF, if_pos rfl]
/-- a task stands at t -/
structure TaskAt (C : Addr) (H : Hp) (t : Addr) (T : Tk) (n : Nat) : Prop where
  has : ∃ dx wv lv, H t = some (.ins C dx (tkF wv lv)) ∧ TD H wv (triD T.W n) ∧ TD H lv (triD T.L n)
theorem TaskAt.chg {C t : Addr} {H H1 : Hp} {T : Tk} {n : Nat} {M : List Addr} (h : TaskAt C H t T n) (c : Chg M H H1) : TaskAt C H1 t T n := by
  obtain ⟨dx, wv, lv, h1, h2, h3⟩ := h.has
  exact ⟨dx, wv, lv, c.inss _ _ _ _ h1, h2.chg c, h3.chg c⟩
/-- what the class Task is, what numbers stand at the top -/
structure TTxt (K : PySem.W.Frag) (mg : Str → Option Value) (C : Addr) : Prop where
  cl : Cls K C
  nW : NoAttr K C "writes"
  nL : NoAttr K C "looks"
  mH : ∃ t, mg "MOST_HOURS_tasks" = some (.int 30 t)
  mP : ∃ t, mg "MOST_PRICE" = some (.int 1000000000 t)
def spTaskI (C : Addr) : Sp := fun vs H Q _ => ∃ (p dx : Addr) (wv lv : V) (T : Tk) (n : Nat), vs = [.ref p, wv, lv] ∧ H p = some (.ins C dx []) ∧ TD H wv (triD T.W n) ∧ TD H lv (triD T.L n) ∧ 1 ≤ n ∧ n ≤ 30 ∧
  (∀ i j, i ≤ j → j < n → 0 ≤ T.W i j ∧ T.W i j ≤ 1000000000) ∧ (∀ i j, i ≤ j → j < n → 0 ≤ T.L i j ∧ T.L i j ≤ 1000000000) ∧
  ∀ H', (∀ b o, H b = some o → b ≠ p → H' b = some o) → H' p = some (.ins C dx (tkF wv lv)) → Q .non H'
def spLenOf (C : Addr) : Sp := fun vs H Q _ => ∃ (t : Addr) (T : Tk) (n : Nat), vs = [.ref t] ∧ TaskAt C H t T n ∧ Q (.int (n : Nat)) H
def spWriteOf (C : Addr) : Sp := fun vs H Q _ => ∃ (t : Addr) (T : Tk) (n f l : Nat), vs = [.ref t, .int (f : Nat), .int (l : Nat)] ∧ TaskAt C H t T n ∧ f ≤ l ∧ l < n ∧ Q (.int (T.W f l)) H
def spLookSum (C : Addr) : Sp := fun vs H Q _ => ∃ (t : Addr) (T : Tk) (n b f h : Nat) (l : Int), vs = [.ref t, .int (b : Nat), .int (f : Nat), .int l] ∧ l = (h : Int) - 1 ∧ TaskAt C H t T n ∧ b ≤ f ∧ f ≤ h ∧ h ≤ n ∧ b < n ∧ ∀ H', Chg [] H H' → Q (.int (lk T b f h)) H'
theorem cut_row {F : Nat → Nat → Int} {n b f h : Nat} (h1 : b ≤ f) (h2 : f ≤ h) (h3 : h ≤ n) :
    cutV ((rowD F n b).map V.int) (some ((f : Int) - (b : Int))) (some ((h : Int) - 1 - (b : Int) + 1)) = (((List.range' f (h - f)).map (F b)).map V.int) := by
  have e1 : (f : Int) - (b : Int) = ((f - b : Nat) : Int) := by omega
  have e2 : (h : Int) - 1 - (b : Int) + 1 = ((h - b : Nat) : Int) := by omega
  unfold cutV
  rw [e1, e2, HT.sIx_nat, HT.sIx_nat, List.length_map, rowD_len, show min (f - b) (n - b) = f - b by omega, show min (h - b) (n - b) = h - b by omega, ← List.map_drop, ← List.map_take]
  congr 1
  refine List.ext_getElem? fun i => ?_
  rw [List.getElem?_take, List.getElem?_drop]
  by_cases hi : i < h - f
  · rw [if_pos (by omega), rowD_get (by omega), List.getElem?_map, List.getElem?_range' (by omega)]
    show some (F b (b + (f - b + i))) = some (F b (f + 1 * i))
    rw [show b + (f - b + i) = f + 1 * i by omega]
  · rw [if_neg (by omega)]
    symm
    rw [List.getElem?_eq_none_iff, List.length_map, List.length_range']
    omega
section
variable {P : Program} {w : World} {K : PySem.W.Frag} {mg : Str → Option Value} {base : Heap} {C : Addr}
theorem scTaskI : FnScope ["self", "writes", "looks", "wrong"] ["self", "writes", "looks"] (defScope sTaskI) := ⟨rfl, rfl, rfl, by decide +kernel, rfl, by decide +kernel, by decide +kernel⟩
theorem ok_taskI {f : Addr} {fd : FuncData} (F : Fun K "__init__" "Task.__init__" sTaskI f fd) (B : Bt mg) (T : TTxt K mg C) (c1 : Fd P w K mg base 4 "first_wrong_row" spWrong) : FnOk P w K mg base CX0 5 f fd ["self", "writes", "looks"] (spTaskI C) := by
  refine F.ok scTaskI (fun vs H Q E h => ?_) (fun cdv A outer s H vs Q E hr h => ?_)
  · obtain ⟨p, dx, wv, lv, T, n, rfl, _⟩ := h
    rfl
  obtain ⟨p, dx, wv, lv, Tt, n, rfl, hp, hw, hl, h1, h30, bw, bl, q⟩ := h
  obtain ⟨aw, xw, rfl, hhw, hxw⟩ := id hw.tup_inv
  obtain ⟨al, xl, rfl, hhl, hxl⟩ := id hl.tup_inv
  have lw : xw.length = n := by rw [hxw.length, List.length_map, List.length_range]
  have ll : xl.length = n := by rw [hxl.length, List.length_map, List.length_range]
  obtain ⟨tH, mH⟩ := T.mH
  obtain ⟨tP, mP⟩ := T.mP
  refine ⟨_, pss_cons (ps_if (PW.pt (pw_or (pt_not (pt_val (pe_callB call_isi (by rfl) B.isi (by decide +kernel) (pa_cons (pv 1) (pa_cons (pe_bltn (v := .ty "tuple") (by rfl) B.tup (by decide +kernel) rfl) pa_nil)))))
        (pw_or1 (pt_not (pt_chain op_le op_le pe_int (pe_callB call_len_seq (by rfl) B.len PySem.boot_len (pa_cons (pv 1) pa_nil)) (pe_glob (v := .int 30) (by rfl) mH ⟨_, rfl⟩)))))) (pss_one ps_never) pss_nil)
    (pss_cons (ps_set (i := 3) scTaskI.nd rfl (Or.inl rfl) (pe_f c1 hr (by decide) rfl (pa_cons (pv 1) (pa_cons pe_int (pa_cons (pe_glob (v := .int 1000000000) (by rfl) mP ⟨_, rfl⟩) pa_nil)))))
    (pss_cons (ps_if (pt_cmpR op_notN (pv 3) pe_non (nomark _)) (pss_one ps_never) pss_nil)
    (pss_cons (ps_if (PW.pt (pw_or (pt_not (pt_val (pe_callB call_isi (by rfl) B.isi (by decide +kernel) (pa_cons (pv 2) (pa_cons (pe_bltn (v := .ty "tuple") (by rfl) B.tup (by decide +kernel) rfl) pa_nil)))))
        (pw_or1 (pt_cmpR op_ne (pe_callB call_len_seq (by rfl) B.len PySem.boot_len (pa_cons (pv 2) pa_nil)) (pe_callB call_len_seq (by rfl) B.len PySem.boot_len (pa_cons (pv 1) pa_nil)) (nomark _))))) (pss_one ps_never) pss_nil)
    (pss_cons (ps_set (i := 3) scTaskI.nd rfl (Or.inl rfl) (pe_f c1 hr (by decide) rfl (pa_cons (pv 2) (pa_cons pe_int (pa_cons (pe_glob (v := .int 1000000000) (by rfl) mP ⟨_, rfl⟩) pa_nil)))))
    (pss_cons (ps_if (pt_cmpR op_notN (pv 3) pe_non (nomark _)) (pss_one ps_never) pss_nil)
    (pss_cons (ps_fld (pv 0) (pv 1) rfl)
    (pss_one (ps_fld (pv 0) (pv 2) rfl)))))))), ?_⟩
  refine ⟨_, rfl, _, _, _, _, true, rfl, .ty _, .base (.tup hhw), kit_ty (by decide +kernel), true, rfl, ?_⟩
  refine iteF ?_
  refine ⟨_, rfl, aw, _, rfl, .inr (SqT.of hhw), _, _, rfl, rfl, true, ?_, ?_⟩
  · rw [lw]
    exact congrArg V.bl (decide_eq_true (by omega))
  refine iteT ?_
  refine ⟨_, _, rfl, rfl, true, ?_, ?_⟩
  · rw [lw]
    exact congrArg V.bl (decide_eq_true (by omega))
  refine iteF ?_
  refine ⟨_, rfl, _, Tt.W, n, 0, 1000000000, rfl, hw, by omega, bw, fun H1 c1 => ?_⟩
  refine ⟨_, rfl, rfl, _, rfl, iteF ?_⟩
  refine ⟨_, rfl, _, _, _, _, true, rfl, .ty _, .base (.tup (c1.at hhl)), kit_ty (by decide +kernel), true, rfl, ?_⟩
  refine iteF ?_
  refine ⟨_, rfl, al, _, rfl, .inr (SqT.of (c1.at hhl)), _, rfl, aw, _, rfl, .inr (SqT.of (c1.at hhw)), rfl, _, rfl, ?_⟩
  rw [lw, ll]
  refine iteNS rfl ?_
  refine ⟨_, rfl, _, Tt.L, n, 0, 1000000000, rfl, hl.chg c1, by omega, bl, fun H2 c2 => ?_⟩
  refine ⟨_, rfl, rfl, _, rfl, iteF ?_⟩
  have c3 := c1.trans c2
  refine ⟨_, rfl, _, rfl, p, C, dx, [], rfl, c3.at hp, T.cl, T.nW, by show 0 < 1000; decide, ?_⟩
  refine ⟨_, rfl, _, rfl, p, C, dx, _, rfl, upd_same, T.cl, T.nL, by show 1 < 1000; decide, ?_⟩
  refine q _ (fun b o hb hne => ?_) upd_same
  rw [upd_ne hne, upd_ne hne]
  exact c3.at hb
theorem scLenOf : FnScope ["task"] ["task"] (defScope sLenOf) := ⟨rfl, rfl, rfl, by decide +kernel, rfl, by decide +kernel, by decide +kernel⟩
theorem ok_lenOf {f : Addr} {fd : FuncData} (F : Fun K "length_of" "length_of" sLenOf f fd) (B : Bt mg) (T : TTxt K mg C) : FnOk P w K mg base CX0 1 f fd ["task"] (spLenOf C) := by
  refine F.ok scLenOf (fun vs H Q E h => ?_) (fun cdv A outer s H vs Q E hr h => ?_)
  · obtain ⟨t, T, n, rfl, _⟩ := h
    rfl
  obtain ⟨t, Tt, n, rfl, ht, q⟩ := h
  obtain ⟨dx, wv, lv, ho, hw, _⟩ := ht.has
  obtain ⟨aw, xw, rfl, hhw, hxw⟩ := id hw.tup_inv
  have lw : xw.length = n := by rw [hxw.length, List.length_map, List.length_range]
  refine ⟨_, pss_one (ps_ret (pe_callB call_len_seq (by rfl) B.len PySem.boot_len (pa_cons (pe_fld (pv 0) rfl) pa_nil))), ?_⟩
  refine ⟨_, rfl, t, C, dx, _, _, rfl, ho, T.cl, T.nW, tkF_w _ _, aw, _, rfl, .inr (SqT.of hhw), ?_⟩
  rw [lw]
  exact q
theorem scWriteOf : FnScope ["task", "first", "last"] ["task", "first", "last"] (defScope sWriteOf) := ⟨rfl, rfl, rfl, by decide +kernel, rfl, by decide +kernel, by decide +kernel⟩
theorem tri_at {H : Hp} {v : V} {F : Nat → Nat → Int} {n a : Nat} (h : TD H v (triD F n)) (ha : a < n) : ∃ ad xs ar, v = .ref ad ∧ H ad = some (.tup xs) ∧ xs[a]? = some (.ref ar) ∧ H ar = some (.tup ((rowD F n a).map V.int)) := by
  obtain ⟨ad, xs, rfl, hh, hx⟩ := h.tup_inv
  obtain ⟨v, hv, hd⟩ := hx.get (i := a) (d := iD (rowD F n a)) (by rw [List.getElem?_map, List.getElem?_range ha]; rfl)
  obtain ⟨ar, rfl, har⟩ := hd.ints_inv
  exact ⟨ad, xs, ar, rfl, hh, hv, har⟩
theorem row_at {F : Nat → Nat → Int} {n f l : Nat} (h1 : f ≤ l) (h2 : l < n) : atI ((rowD F n f).map V.int) ((l : Int) - (f : Int)) = some (.int (F f l)) := by
  refine at_of (j := l - f) (by omega) ?_
  rw [List.getElem?_map, rowD_get (by omega), show f + (l - f) = l by omega]
  rfl
theorem ok_writeOf {f : Addr} {fd : FuncData} (F : Fun K "write_of" "write_of" sWriteOf f fd) (T : TTxt K mg C) : FnOk P w K mg base CX0 1 f fd ["task", "first", "last"] (spWriteOf C) := by
  refine F.ok scWriteOf (fun vs H Q E h => ?_) (fun cdv A outer s H vs Q E hr h => ?_)
  · obtain ⟨t, T, n, f, l, rfl, _⟩ := h
    rfl
  obtain ⟨t, Tt, n, f, l, rfl, ht, h1, h2, q⟩ := h
  obtain ⟨dx, wv, lv, ho, hw, _⟩ := ht.has
  obtain ⟨aw, xw, ar, rfl, hhw, hx, har⟩ := tri_at hw (a := f) (by omega)
  refine ⟨_, pss_one (ps_ret (pe_ix ix_tup (pe_ix ix_tup (pe_fld (pv 0) rfl) (pv 1) (fun _ _ => rfl)) (pe_op op_sub (pv 2) (pv 1)) (fun _ _ => rfl))), ?_⟩
  refine ⟨_, rfl, t, C, dx, _, _, rfl, ho, T.cl, T.nW, tkF_w _ _, _, rfl, aw, _, _, _, rfl, rfl, SqT.of hhw, atI_nat hx, _, rfl, _, rfl, _, _, rfl, rfl, ar, _, _, _, rfl, rfl, SqT.of har, row_at h1 h2, q⟩
theorem scLookSum : FnScope ["task", "begin", "first", "last"] ["task", "begin", "first", "last"] (defScope sLookSum) := ⟨rfl, rfl, rfl, by decide +kernel, rfl, by decide +kernel, by decide +kernel⟩
theorem ok_lookSum {f : Addr} {fd : FuncData} (F : Fun K "look_sum" "look_sum" sLookSum f fd) (B : Bt mg) (T : TTxt K mg C) : FnOk P w K mg base CX0 1 f fd ["task", "begin", "first", "last"] (spLookSum C) := by
  refine F.ok scLookSum (fun vs H Q E h => ?_) (fun cdv A outer s H vs Q E hr h => ?_)
  · obtain ⟨t, T, n, b, f, h, l, rfl, _⟩ := h
    rfl
  obtain ⟨t, Tt, n, b, f, h, l, rfl, rfl, ht, h1, h2, h3, h4, q⟩ := h
  obtain ⟨dx, wv, lv, ho, _, hlo⟩ := ht.has
  obtain ⟨al, xl, ar, rfl, hhl, hx, har⟩ := tri_at hlo (a := b) h4
  refine ⟨_, pss_one (ps_ret (pe_callB (cr_sumT rfl) (by rfl) B.sum (by decide +kernel) (pa_cons (pe_slice sl_tupA (pe_ix ix_tup (pe_fld (pv 0) rfl) (pv 1) (fun _ _ => rfl))
    (po_some (pe_op op_sub (pv 2) (pv 1))) (po_some (pe_op op_add (pe_op op_sub (pv 3) (pv 1)) pe_int))) pa_nil))), ?_⟩
  refine ⟨_, rfl, t, C, dx, _, _, rfl, ho, T.cl, T.nL, tkF_l _ _, _, rfl, al, _, _, _, rfl, rfl, SqT.of hhl, atI_nat hx, _, rfl, _, rfl, _, _, rfl, rfl, _, rfl, _, rfl, _, rfl, _, _, rfl, rfl, _, _, rfl, rfl, _, rfl, ar, _, rfl, SqT.of har, fun hw => ?_, fun _ p hp => ?_⟩
  · refine ⟨ar, (List.range' f (h - f)).map (Tt.L b), rfl, SqT.of ?_, q _ Chg.refl⟩
    have e := cut_row (F := Tt.L) h1 h2 h3
    unfold cutV at e
    rw [hw.1, hw.2, List.drop_zero, List.take_of_length_le (by omega)] at e
    rw [← e]
    exact har
  · refine ⟨p, (List.range' f (h - f)).map (Tt.L b), rfl, SqT.of ?_, q _ (Chg.new hp)⟩
    rw [upd_same, cut_row h1 h2 h3]
end
end K58
end
section
set_option Elab.async false
set_option linter.all false
set_option maxRecDepth 100000
set_option maxHeartbeats 4000000
/-! ### the solver: what stands in it -/
namespace K58
open PySem PySem.Spec PyProof.Rows L2
abbrev sChkMost : Stmt := top 21
abbrev sMay : Stmt := top 22
abbrev sSolvI : Stmt := inClass (top 23) 0
abbrev sCapped : Stmt := inClass (top 23) 1
def svF (t fm dc dp dn : Addr) : List (Str × V) := putF "counts" (.ref dn) (putF "plans" (.ref dp) (putF "costs" (.ref dc) (putF "may" (.ref fm) (putF "task" (.ref t) []))))
theorem svF_task (t fm dc dp dn : Addr) : (svF t fm dc dp dn).lookup ("task" : Str) = some (.ref t) := by
  unfold svF
  rw [lookup_putF, if_neg (by decide +kernel), lookup_putF, if_neg (by decide +kernel), lookup_putF, if_neg (by decide +kernel), lookup_putF, if_neg (by decide +kernel), lookup_putF, if_pos rfl]
theorem svF_may (t fm dc dp dn : Addr) : (svF t fm dc dp dn).lookup ("may" : Str) = some (.ref fm) := by
  unfold svF
  rw [lookup_putF, if_neg (by decide +kernel), lookup_putF, if_neg (by decide +kernel), lookup_putF, if_neg (by decide +kernel), lookup_putF, if_pos rfl]
theorem svF_costs (t fm dc dp dn : Addr) : (svF t fm dc dp dn).lookup ("costs" : Str) = some (.ref dc) := by
  unfold svF
  rw [lookup_putF, if_neg (by decide +kernel), lookup_putF, if_neg (by decide +kernel), lookup_putF, if_pos rfl]
theorem svF_plans (t fm dc dp dn : Addr) : (svF t fm dc dp dn).lookup ("plans" : Str) = some (.ref dp) := by
  unfold svF
  rw [lookup_putF, if_neg (by decide +kernel), lookup_putF, if_pos rfl]
theorem svF_no (t fm dc dp dn : Addr) {m : Str} (h1 : ¬ m = "counts") (h2 : ¬ m = "plans") (h3 : ¬ m = "costs") (h4 : ¬ m = "may") (h5 : ¬ m = "task") : (svF t fm dc dp dn).lookup m = none := by
  unfold svF
  rw [lookup_putF, if_neg h1, lookup_putF, if_neg h2, lookup_putF, if_neg h3, lookup_putF, if_neg h4, lookup_putF, if_neg h5]
  rfl
def key3 (c f l : Nat) : List Key := [.inl (c : Int), .inl (f : Int), .inl (l : Int)]
theorem key3_kV (c f l : Nat) : (key3 c f l).map kV = [V.int (c : Int), V.int (f : Int), V.int (l : Int)] := rfl
theorem key3_inj {c f l c' f' l' : Nat} (h : key3 c f l = key3 c' f' l') : c = c' ∧ f = f' ∧ l = l' := by
  unfold key3 at h
  injection h with h1 h2
  injection h2 with h2 h3
  injection h3 with h3 _
  have e1 : (c : Int) = c' := Sum.inl.inj h1
  have e2 : (f : Int) = f' := Sum.inl.inj h2
  have e3 : (l : Int) = l' := Sum.inl.inj h3
  exact ⟨by omega, by omega, by omega⟩
/-- a memo: keys that differ, each a stretch of at most n hours, its value as G says -/
structure Memo (n : Nat) (G : Nat → Nat → Nat → V → Prop) (kvs : List (List Key × V)) : Prop where
  nd : (kvs.map (·.1)).Nodup
  ok : ∀ e ∈ kvs, ∃ c f l, e.1 = key3 c f l ∧ 1 ≤ c ∧ f ≤ l ∧ l < n ∧ c ≤ l + 1 - f ∧ G c f l e.2
theorem nodup_bound : ∀ (N : Nat) (l : List Nat), l.Nodup → (∀ x ∈ l, x < N) → l.length ≤ N
  | 0, [], _, _ => Nat.le_refl _
  | 0, x :: _, _, h => absurd (h x List.mem_cons_self) (Nat.not_lt_zero _)
  | N + 1, l, hn, h => by
    by_cases hm : N ∈ l
    · have h1 := nodup_bound N (l.erase N) (hn.erase N) fun x hx => by
        have h2 := h x (List.mem_of_mem_erase hx)
        have h3 : x ≠ N := by
          rintro rfl
          exact (List.Nodup.not_mem_erase hn) hx
        omega
      rw [List.length_erase_of_mem hm] at h1
      omega
    · have h1 := nodup_bound N l hn fun x hx => by
        have h2 := h x hx
        have h3 : x ≠ N := by
          rintro rfl
          exact hm hx
        omega
      omega
def codeK : List Key → Nat
  | [.inl c, .inl f, .inl l] => c.toNat * 10000 + f.toNat * 100 + l.toNat
  | _ => 0
theorem codeK3 (c f l : Nat) : codeK (key3 c f l) = c * 10000 + f * 100 + l := rfl
theorem Memo.few {n : Nat} {G : Nat → Nat → Nat → V → Prop} {kvs : List (List Key × V)} (m : Memo n G kvs) (hn : n ≤ 90) : kvs.length < sizeLine := by
  have h1 : (kvs.map fun e => codeK e.1).Nodup := by
    have h2 : (kvs.map (·.1)).Pairwise (· ≠ ·) := m.nd
    have h4 : kvs.Pairwise fun a b => a.1 ≠ b.1 := List.pairwise_map.mp h2
    refine List.pairwise_map.mpr (List.Pairwise.imp_of_mem (fun {a b} ha hb hab => ?_) h4)
    obtain ⟨c, f, l, e1, b1, b2, b3, b4, _⟩ := m.ok a ha
    obtain ⟨c', f', l', e2, d1, d2, d3, d4, _⟩ := m.ok b hb
    intro hc
    apply hab
    rw [e1, e2, codeK3, codeK3] at hc
    have hl : l = l' := by omega
    have hf : f = f' := by omega
    have hcc : c = c' := by omega
    rw [e1, e2, hl, hf, hcc]
  have h2 := nodup_bound 1000000 _ h1 fun x hx => by
    obtain ⟨e, he, rfl⟩ := List.mem_map.mp hx
    obtain ⟨c, f, l, e1, b1, b2, b3, b4, _⟩ := m.ok e he
    rw [e1, codeK3]
    omega
  rw [List.length_map] at h2
  exact Nat.lt_of_le_of_lt h2 (by decide)
theorem Memo.got {n : Nat} {G : Nat → Nat → Nat → V → Prop} {kvs : List (List Key × V)} (m : Memo n G kvs) {c f l : Nat} {v : V} (h : valV kvs (key3 c f l) = some v) : G c f l v := by
  unfold valV at h
  obtain ⟨e, he, rfl⟩ := Option.map_eq_some_iff.mp h
  have h1 := List.mem_of_find?_eq_some he
  have h2 := List.find?_some he
  have h2 : e.1 = key3 c f l := of_decide_eq_true h2
  obtain ⟨c', f', l', e1, _, _, _, _, g⟩ := m.ok e h1
  obtain ⟨rfl, rfl, rfl⟩ := key3_inj (h2.symm.trans e1)
  exact g
theorem Memo.put {n : Nat} {G : Nat → Nat → Nat → V → Prop} {kvs : List (List Key × V)} (m : Memo n G kvs) {c f l : Nat} {v : V} (h1 : 1 ≤ c) (h2 : f ≤ l) (h3 : l < n) (h4 : c ≤ l + 1 - f) (g : G c f l v) :
    Memo n G (putK kvs (key3 c f l) v) := by
  cases h : valV kvs (key3 c f l) with
  | none =>
    refine ⟨nd_putK v m.nd h, fun e he => ?_⟩
    rw [putK_new v h] at he
    rcases List.mem_append.mp he with he | he
    · exact m.ok e he
    · rcases List.mem_singleton.mp he with rfl
      exact ⟨c, f, l, rfl, h1, h2, h3, h4, g⟩
  | some w =>
    have ha : (kvs.any fun kv => decide (kv.1 = key3 c f l)) = true := by
      rw [valV_any, h]
      rfl
    have e1 : putK kvs (key3 c f l) v = kvs.map fun kv => if kv.1 = key3 c f l then (kv.1, v) else kv := by
      unfold putK
      rw [if_pos ha]
    rw [e1]
    refine ⟨?_, fun e he => ?_⟩
    · have e2 : (kvs.map fun kv => if kv.1 = key3 c f l then (kv.1, v) else kv).map (·.1) = kvs.map (·.1) := by
        rw [List.map_map]
        refine List.map_congr_left fun kv _ => ?_
        show (if kv.1 = key3 c f l then (kv.1, v) else kv).1 = kv.1
        split <;> rfl
      rw [e2]
      exact m.nd
    · obtain ⟨kv, hkv, rfl⟩ := List.mem_map.mp he
      by_cases hk : kv.1 = key3 c f l
      · rw [if_pos hk]
        exact ⟨c, f, l, hk, h1, h2, h3, h4, g⟩
      · rw [if_neg hk]
        exact m.ok kv hkv
theorem Memo.nil {n : Nat} {G : Nat → Nat → Nat → V → Prop} : Memo n G [] := ⟨List.nodup_nil, fun _ h => absurd h (by simp)⟩
theorem Memo.imp {n : Nat} {G G' : Nat → Nat → Nat → V → Prop} {kvs : List (List Key × V)} (m : Memo n G kvs) (h : ∀ c f l v, G c f l v → G' c f l v) : Memo n G' kvs :=
  ⟨m.nd, fun e he => let ⟨c, f, l, a, b1, b2, b3, b4, g⟩ := m.ok e he; ⟨c, f, l, a, b1, b2, b3, b4, h _ _ _ _ g⟩⟩
def GC (T : Tk) : Nat → Nat → Nat → V → Prop := fun c f l v => v = .int (own T c f l)
def GP (T : Tk) (H : Hp) : Nat → Nat → Nat → V → Prop := fun c f l v => TD H v (pD (plan T c f l))
/-- a solver stands at s, its memos at dc and dp -/
structure SolvAt (C CT fm : Addr) (H : Hp) (s dc dp : Addr) (T : Tk) (n : Nat) : Prop where
  has : ∃ dx t dn, H s = some (.ins C dx (svF t fm dc dp dn)) ∧ TaskAt CT H t T n
  cs : ∃ kc, H dc = some (.dT kc) ∧ Memo n (GC T) kc
  ps : ∃ kp, H dp = some (.dT kp) ∧ Memo n (GP T H) kp
  ne : dc ≠ dp
  n30 : n ≤ 30
section
variable {C CT fm : Addr} {H H1 : Hp} {s dc dp : Addr} {T : Tk} {n : Nat} {M : List Addr}
/-- what leaves the memos leaves the solver -/
theorem SolvAt.chg (h : SolvAt C CT fm H s dc dp T n) (c : Chg M H H1) (h1 : dc ∉ M) (h2 : dp ∉ M) : SolvAt C CT fm H1 s dc dp T n := by
  obtain ⟨dx, t, dn, e1, e2⟩ := h.has
  obtain ⟨kc, e3, m3⟩ := h.cs
  obtain ⟨kp, e4, m4⟩ := h.ps
  exact ⟨⟨dx, t, dn, c.inss _ _ _ _ e1, e2.chg c⟩, ⟨kc, c.keep _ _ e3 h1, m3⟩, ⟨kp, c.keep _ _ e4 h2, m4.imp fun _ _ _ _ g => TD.chg g c⟩, h.ne, h.n30⟩
theorem SolvAt.pure (h : SolvAt C CT fm H s dc dp T n) (c : Chg [] H H1) : SolvAt C CT fm H1 s dc dp T n := h.chg c (by simp) (by simp)
theorem SolvAt.nin (h : SolvAt C CT fm H s dc dp T n) {p : Addr} {xs : List V} (hp : H p = some (.lst xs)) : p ∉ [dc, dp] := by
  obtain ⟨kc, e3, _⟩ := h.cs
  obtain ⟨kp, e4, _⟩ := h.ps
  simp only [List.mem_cons, List.not_mem_nil, or_false, not_or]
  exact ⟨ne_of hp e3 (by intro z; cases z), ne_of hp e4 (by intro z; cases z)⟩
/-- a list is written -/
theorem SolvAt.lst (h : SolvAt C CT fm H s dc dp T n) {p : Addr} {o : HO} {xs : List V} (hp : H p = some (.lst xs)) : SolvAt C CT fm (upd H p o) s dc dp T n := by
  have q := h.nin hp
  simp only [List.mem_cons, List.not_mem_nil, or_false, not_or] at q
  exact h.chg (Chg.refl.lst (M := [p]) hp (by simp)) (by simp [Ne.symm q.1]) (by simp [Ne.symm q.2])
theorem SolvAt.putC (h : SolvAt C CT fm H s dc dp T n) {kc : List (List Key × V)} (hc : H dc = some (.dT kc)) {c f l : Nat} (h1 : 1 ≤ c) (h2 : f ≤ l) (h3 : l < n) (h4 : c ≤ l + 1 - f) :
    SolvAt C CT fm (upd H dc (.dT (putK kc (key3 c f l) (.int (own T c f l))))) s dc dp T n ∧ kc.length < sizeLine := by
  obtain ⟨dx, t, dn, e1, e2⟩ := h.has
  obtain ⟨kc', e3, m3⟩ := h.cs
  obtain ⟨kp, e4, m4⟩ := h.ps
  rw [hc] at e3
  cases e3
  have ch : Chg [dc] H (upd H dc (.dT (putK kc (key3 c f l) (.int (own T c f l))))) := Chg.refl.dct hc (by simp)
  refine ⟨⟨⟨dx, t, dn, ch.inss _ _ _ _ e1, e2.chg ch⟩, ⟨_, upd_same, m3.put h1 h2 h3 h4 rfl⟩, ⟨kp, ch.keep _ _ e4 (by simp [Ne.symm h.ne]), m4.imp fun _ _ _ _ g => TD.chg g ch⟩, h.ne, h.n30⟩, m3.few ?_⟩
  have := h.n30
  omega
theorem SolvAt.putP (h : SolvAt C CT fm H s dc dp T n) {kp : List (List Key × V)} (hp : H dp = some (.dT kp)) {c f l : Nat} {v : V} (h1 : 1 ≤ c) (h2 : f ≤ l) (h3 : l < n) (h4 : c ≤ l + 1 - f) (hv : TD H v (pD (plan T c f l))) :
    SolvAt C CT fm (upd H dp (.dT (putK kp (key3 c f l) v))) s dc dp T n ∧ kp.length < sizeLine := by
  obtain ⟨dx, t, dn, e1, e2⟩ := h.has
  obtain ⟨kc, e3, m3⟩ := h.cs
  obtain ⟨kp', e4, m4⟩ := h.ps
  rw [hp] at e4
  cases e4
  have ch : Chg [dp] H (upd H dp (.dT (putK kp (key3 c f l) v))) := Chg.refl.dct hp (by simp)
  refine ⟨⟨⟨dx, t, dn, ch.inss _ _ _ _ e1, e2.chg ch⟩, ⟨kc, ch.keep _ _ e3 (by simp [h.ne]), m3⟩, ⟨_, upd_same, (m4.imp fun _ _ _ _ g => TD.chg g ch).put h1 h2 h3 h4 (TD.chg hv ch)⟩, h.ne, h.n30⟩, m4.few ?_⟩
  have := h.n30
  omega
theorem SolvAt.new (h : SolvAt C CT fm H s dc dp T n) {p : Addr} {o : HO} (hp : H p = none) : SolvAt C CT fm (upd H p o) s dc dp T n := h.pure (Chg.new hp)
end
/-- what the class Solver is -/
structure STxt (K : PySem.W.Frag) (mg : Str → Option Value) (C fm : Addr) : Prop where
  cl : Cls K C
  nT : NoAttr K C "task"
  nM : NoAttr K C "may"
  nC : NoAttr K C "costs"
  nP : NoAttr K C "plans"
  nN : NoAttr K C "counts"
  mgM : mg "may_all" = some (.ref fm)
def spMay : Sp := fun vs H Q _ => ∃ a b : Int, vs = [.int a, .int b] ∧ Q (.bl true) H
/-- a def by its address -/
structure Fa (P : Program) (w : World) (K : PySem.W.Frag) (mg : Str → Option Value) (base : Heap) (k : Nat) (f : Addr) (sp : Sp) : Prop where
  has : ∃ (fd : FuncData) (ps : List Str), FnOk P w K mg base CX0 k f fd ps sp ∧ PySem.W.keepIn K (.ref f) = true ∧ Binds K fd ps []
theorem pe_a {X : Cx} {k j : Nat} {f : Addr} {sp : Sp} {o e : Expr} {es : List Expr} {m : Str} {apos pos : Pos} {ta : TE} {t : TA} {pl : Sem Bool} (c : Fa X.prog X.w X.K X.mg X.base k f sp) (hr : Room j X.A) (hk : k ≤ j) (he : PE X o ta) (ha : PA X (e :: es) t)
    (d2 : starEach (e :: es) X.env = (false, eval e X.env) :: starEach es X.env := by rfl) (d3 : (backTo pos (starEach es X.env)).any (·.1) = false := by rfl)
    (d4 : eval (.Call (.Attribute o m apos) (e :: es) [] pos) X.env = (do
      let ov ← eval o X.env
      standAt apos.atName
      let (f, first) ← holding [ov] (getMethod ov m pl)
      callWith pos f first (backTo pos (starEach (e :: es) X.env)) (backToKw pos (keywordEach [] X.env))) := by rfl) :
    PE X (.Call (.Attribute o m apos) (e :: es) [] pos) (tCallF X.K f m sp E0 ta t) := by
  obtain ⟨fd, ps, F, kp, b⟩ := c.has
  exact pe_callF (pl := pl) he F (hr.mono hk) kp b pass0 ha d2 d3 d4
def spChkMost : Sp := fun vs H Q _ => ∃ k : Nat, vs = [.int (k : Nat)] ∧ 1 ≤ k ∧ k ≤ 30 ∧ Q .non H
def spSolvI (C CT fm : Addr) : Sp := fun vs H Q _ => ∃ (p dx t : Addr) (T : Tk) (n : Nat), vs = [.ref p, .ref t, .ref fm] ∧ H p = some (.ins C dx []) ∧ TaskAt CT H t T n ∧ t ≠ p ∧ n ≤ 30 ∧
  ∀ dc dp H', (∀ b o, H b = some o → b ≠ p → H' b = some o) → H dc = none → H dp = none → SolvAt C CT fm H' p dc dp T n → Q .non H'
def spCapped (C : Addr) : Sp := fun vs H Q _ => ∃ (s : Addr) (k f l : Nat), vs = [.ref s, .int (k : Nat), .int (f : Nat), .int (l : Nat)] ∧ f ≤ l ∧
  ∀ p, H p = none → Q (.ref p) (upd H p (.tup [.int ((min k (l + 1 - f) : Nat) : Int), .int (f : Nat), .int (l : Nat)]))
section
variable {P : Program} {w : World} {K : PySem.W.Frag} {mg : Str → Option Value} {base : Heap} {C CT fm : Addr}
theorem scChkMost : FnScope ["most"] ["most"] (defScope sChkMost) := ⟨rfl, rfl, rfl, by decide +kernel, rfl, by decide +kernel, by decide +kernel⟩
theorem ok_chkMost {f : Addr} {fd : FuncData} (F : Fun K "check_most" "check_most" sChkMost f fd) (mR : ∃ t, mg "MOST_RUNS" = some (.int 30 t)) (c1 : Fd P w K mg base 3 "check_number" spChk) : FnOk P w K mg base CX0 4 f fd ["most"] spChkMost := by
  refine F.ok scChkMost (fun vs H Q E h => ?_) (fun cdv A outer s H vs Q E hr h => ?_)
  · obtain ⟨k, rfl, _⟩ := h
    rfl
  obtain ⟨k, rfl, h1, h2, q⟩ := h
  obtain ⟨t, mR⟩ := mR
  refine ⟨_, pss_one (ps_expr (pe_f c1 hr (by decide) rfl (pa_cons (pv 0) (pa_cons pe_int (pa_cons (pe_glob (v := .int 30) (by rfl) mR ⟨_, rfl⟩) pa_nil))))), ?_⟩
  exact ⟨_, rfl, _, 1, 30, rfl, by omega, by omega, q⟩
theorem scMay : FnScope ["hour", "begin"] ["hour", "begin"] (defScope sMay) := ⟨rfl, rfl, rfl, by decide +kernel, rfl, by decide +kernel, by decide +kernel⟩
theorem ok_may {f : Addr} {fd : FuncData} (F : Fun K "may_all" "may_all" sMay f fd) : FnOk P w K mg base CX0 1 f fd ["hour", "begin"] spMay := by
  refine F.ok scMay (fun vs H Q E h => ?_) (fun cdv A outer s H vs Q E hr h => ?_)
  · obtain ⟨a, b, rfl, _⟩ := h
    rfl
  obtain ⟨a, b, rfl, q⟩ := h
  exact ⟨_, pss_one (ps_ret pe_bl), q⟩
theorem scSolvI : FnScope ["self", "task", "may"] ["self", "task", "may"] (defScope sSolvI) := ⟨rfl, rfl, rfl, by decide +kernel, rfl, by decide +kernel, by decide +kernel⟩
theorem ok_solvI {f : Addr} {fd : FuncData} (F : Fun K "__init__" "Solver.__init__" sSolvI f fd) (T : STxt K mg C fm) : FnOk P w K mg base CX0 1 f fd ["self", "task", "may"] (spSolvI C CT fm) := by
  refine F.ok scSolvI (fun vs H Q E h => ?_) (fun cdv A outer s H vs Q E hr h => ?_)
  · obtain ⟨p, dx, t, T, n, rfl, _⟩ := h
    rfl
  obtain ⟨p, dx, t, Tt, n, rfl, hp, ht, htp, hn, q⟩ := h
  refine ⟨_, pss_cons (ps_fld (pv 0) (pv 1) rfl) (pss_cons (ps_fld (pv 0) (pv 2) rfl) (pss_cons (ps_fld (pv 0) pe_dnewT rfl) (pss_cons (ps_fld (pv 0) pe_dnewT rfl) (pss_one (ps_fld (pv 0) pe_dnewT rfl))))), ?_⟩
  refine ⟨_, rfl, _, rfl, p, C, dx, [], rfl, hp, T.cl, T.nT, by show 0 < 1000; decide, ?_⟩
  refine ⟨_, rfl, _, rfl, p, C, dx, _, rfl, upd_same, T.cl, T.nM, by show 1 < 1000; decide, ?_⟩
  intro dc hdc
  have n1 : p ≠ dc := ne_of_none upd_same hdc
  refine ⟨_, rfl, p, C, dx, _, rfl, by rw [upd_ne n1, upd_same], T.cl, T.nC, by show 2 < 1000; decide, ?_⟩
  intro dp hdp
  have n2 : p ≠ dp := ne_of_none upd_same hdp
  refine ⟨_, rfl, p, C, dx, _, rfl, by rw [upd_ne n2, upd_same], T.cl, T.nP, by show 3 < 1000; decide, ?_⟩
  intro dn hdn
  have n3 : p ≠ dn := ne_of_none upd_same hdn
  refine ⟨_, rfl, p, C, dx, _, rfl, by rw [upd_ne n3, upd_same], T.cl, T.nN, by show 4 < 1000; decide, ?_⟩
  have c1 : H dc = none := by
    rw [upd_ne (Ne.symm n1), upd_ne (Ne.symm n1)] at hdc
    exact hdc
  have n4 : dp ≠ dc := fun e => by
    rw [e, upd_ne (Ne.symm n1), upd_same] at hdp
    cases hdp
  have c2 : H dp = none := by
    rw [upd_ne (Ne.symm n2), upd_ne n4, upd_ne (Ne.symm n2), upd_ne (Ne.symm n2)] at hdp
    exact hdp
  have n5 : dn ≠ dc := fun e => by
    rw [e, upd_ne (Ne.symm n1), upd_ne (Ne.symm n4), upd_ne (Ne.symm n1), upd_same] at hdn
    cases hdn
  have n6 : dn ≠ dp := fun e => by
    rw [e, upd_ne (Ne.symm n2), upd_same] at hdn
    cases hdn
  have c3 : H dn = none := by
    rw [upd_ne (Ne.symm n3), upd_ne n6, upd_ne (Ne.symm n3), upd_ne n5, upd_ne (Ne.symm n3), upd_ne (Ne.symm n3)] at hdn
    exact hdn
  have keep : ∀ b o, H b = some o → b ≠ p → ∀ o1 o2 o3 o4 o5 o6 o7 o8, upd (upd (upd (upd (upd (upd (upd (upd H p o1) p o2) dc o3) p o4) dp o5) p o6) dn o7) p o8 b = some o := fun b o hb hne o1 o2 o3 o4 o5 o6 o7 o8 => by
    rw [upd_ne hne, upd_ne (ne_of_none hb c3), upd_ne hne, upd_ne (ne_of_none hb c2), upd_ne hne, upd_ne (ne_of_none hb c1), upd_ne hne, upd_ne hne]
    exact hb
  obtain ⟨dx', wv, lv, e1, e2, e3⟩ := ht.has
  have tups : ∀ b xs, H b = some (.tup xs) → b ≠ p := fun b xs hb => ne_of hb hp (by intro z; cases z)
  refine q dc dp _ (fun b o hb hne => keep b o hb hne _ _ _ _ _ _ _ _) c1 c2 ⟨⟨dx, t, dn, upd_same, dx', wv, lv, keep t _ e1 htp _ _ _ _ _ _ _ _, e2.keep fun b xs hb => keep b _ hb (tups b xs hb) _ _ _ _ _ _ _ _, e3.keep fun b xs hb => keep b _ hb (tups b xs hb) _ _ _ _ _ _ _ _⟩, ⟨[], ?_, .nil⟩, ⟨[], ?_, .nil⟩, Ne.symm n4, hn⟩
  · rw [upd_ne (Ne.symm n1), upd_ne (Ne.symm n5), upd_ne (Ne.symm n1), upd_ne (Ne.symm n4), upd_ne (Ne.symm n1), upd_same]
  · rw [upd_ne (Ne.symm n2), upd_ne (Ne.symm n6), upd_ne (Ne.symm n2), upd_same]
theorem scCapped : FnScope ["self", "most", "first", "last"] ["self", "most", "first", "last"] (defScope sCapped) := ⟨rfl, rfl, rfl, by decide +kernel, rfl, by decide +kernel, by decide +kernel⟩
theorem min_cap (k f l : Nat) (h : f ≤ l) : (if (l : Int) - (f : Int) + 1 < (k : Int) then (l : Int) - (f : Int) + 1 else (k : Int)) = ((min k (l + 1 - f) : Nat) : Int) := by
  split <;> omega
theorem ok_capped {f : Addr} {fd : FuncData} (F : Fun K "capped" "Solver.capped" sCapped f fd) (B : Bt mg) : FnOk P w K mg base CX0 1 f fd ["self", "most", "first", "last"] (spCapped C) := by
  refine F.ok scCapped (fun vs H Q E h => ?_) (fun cdv A outer s H vs Q E hr h => ?_)
  · obtain ⟨s, k, f, l, rfl, _⟩ := h
    rfl
  obtain ⟨s, k, f, l, rfl, hfl, q⟩ := h
  refine ⟨_, pss_one (ps_ret (pe_tup (pa_cons (pe_callB (call_min2 rfl) (by rfl) B.min (by decide +kernel) (pa_cons (pv 1) (pa_cons (pe_op op_add (pe_op op_sub (pv 3) (pv 2)) pe_int) pa_nil))) (pa_cons (pv 2) (pa_cons (pv 3) pa_nil))))), ?_⟩
  refine ⟨_, rfl, _, rfl, _, rfl, _, _, rfl, rfl, _, _, rfl, rfl, _, _, rfl, _, rfl, _, rfl, by show 3 ≤ sizeLine; decide, fun p hp => ?_⟩
  rw [min_cap k f l hfl]
  exact q p hp
end
end K58
end
section
set_option Elab.async false
set_option linter.all false
set_option maxRecDepth 100000
set_option maxHeartbeats 4000000
/-! ### the solver: least costs, defs that call each other -/
namespace K58
open PySem PySem.Spec PyProof.Rows L2
abbrev sAhead : Stmt := inClass (top 23) 2
abbrev sBehind : Stmt := inClass (top 23) 3
abbrev sTop : Stmt := inClass (top 23) 4
abbrev sOwn : Stmt := inClass (top 23) 5
abbrev sSpan : Stmt := inClass (top 23) 6
def optV : Option Int → V
  | none => .non
  | some i => .int i
abbrev SpS := Sp
def spAhead (C CT fm : Addr) (d : Nat) : Sp := fun vs H Q _ => ∃ (s dc dp : Addr) (T : Tk) (n k f t : Nat), vs = [.ref s, .int (k : Nat), .int (f : Nat), .int (t : Nat)] ∧ SolvAt C CT fm H s dc dp T n ∧ 1 ≤ k ∧ f ≤ t ∧ t < n ∧ t ≤ f + d ∧
  ∀ H', Chg [dc, dp] H H' → SolvAt C CT fm H' s dc dp T n → Q (.int (aheadO T (own T) k f t)) H'
def spBehind (C CT fm : Addr) (d : Nat) : Sp := fun vs H Q _ => ∃ (s dc dp : Addr) (T : Tk) (n k t l : Nat), vs = [.ref s, .int (k : Nat), .int (t : Nat), .int (l : Nat)] ∧ SolvAt C CT fm H s dc dp T n ∧ 1 ≤ k ∧ t ≤ l ∧ l < n ∧ l ≤ t + d ∧
  ∀ H', Chg [dc, dp] H H' → SolvAt C CT fm H' s dc dp T n → Q (optV (behindO T (own T) k t l)) H'
def spTop (C CT fm : Addr) (d : Nat) : Sp := fun vs H Q _ => ∃ (s dc dp : Addr) (T : Tk) (n k f l t : Nat), vs = [.ref s, .int (k : Nat), .int (f : Nat), .int (l : Nat), .int (t : Nat)] ∧ SolvAt C CT fm H s dc dp T n ∧ 1 ≤ k ∧ f ≤ t ∧ t ≤ l ∧ l < n ∧ l ≤ f + d ∧
  ∀ H', Chg [dc, dp] H H' → SolvAt C CT fm H' s dc dp T n → Q (optV (topO T (own T) k f l t)) H'
def spOwn (C CT fm : Addr) (d : Nat) : Sp := fun vs H Q _ => ∃ (s dc dp : Addr) (T : Tk) (n k f l : Nat), vs = [.ref s, .int (k : Nat), .int (f : Nat), .int (l : Nat)] ∧ SolvAt C CT fm H s dc dp T n ∧ 1 ≤ k ∧ f ≤ l ∧ l < n ∧ l + 1 ≤ f + d ∧
  ∀ H', Chg [dc, dp] H H' → SolvAt C CT fm H' s dc dp T n → Q (.int (own T k f l)) H'
def spSpan (C CT fm : Addr) (d : Nat) : Sp := fun vs H Q _ => ∃ (s dc dp : Addr) (T : Tk) (n k f l : Nat), vs = [.ref s, .int (k : Nat), .int (f : Nat), .int (l : Nat)] ∧ SolvAt C CT fm H s dc dp T n ∧ 1 ≤ k ∧ f ≤ l ∧ l < n ∧ l + 1 ≤ f + d ∧
  ∀ H', Chg [dc, dp] H H' → SolvAt C CT fm H' s dc dp T n → Q (.int (own T k f l + lk T f f (l + 1))) H'
theorem of_decV {a b : Nat} (h : decide (V.int (a : Int) = V.int (b : Int)) = true) : a = b := by
  have := V.int.inj (of_decide_eq_true h)
  omega
theorem not_decV {a b : Nat} (h : ¬ decide (V.int (a : Int) = V.int (b : Int)) = true) : a ≠ b := by
  rintro rfl
  exact h (decide_eq_true rfl)
section
variable {P : Program} {w : World} {K : PySem.W.Frag} {mg : Str → Option Value} {base : Heap} {C CT fm : Addr} {k0 d : Nat}
theorem scAhead : FnScope ["self", "most", "first", "top", "ahead"] ["self", "most", "first", "top"] (defScope sAhead) := ⟨rfl, rfl, rfl, by decide +kernel, rfl, by decide +kernel, by decide +kernel⟩
theorem ok_ahead {f : Addr} {fd : FuncData} (F : Fun K "ahead_cost" "Solver.ahead_cost" sAhead f fd) (T : STxt K mg C fm) (cM : Fa P w K mg base 1 fm spMay) (cW : Fd P w K mg base 1 "write_of" (spWriteOf CT)) (h0 : 1 ≤ k0)
    (cO : Mt P w K mg base k0 C "own_cost" (spOwn C CT fm d)) : FnOk P w K mg base CX0 (k0 + 1) f fd ["self", "most", "first", "top"] (spAhead C CT fm d) := by
  refine F.ok scAhead (fun vs H Q E h => ?_) (fun cdv A outer s H vs Q E hr h => ?_)
  · obtain ⟨s, dc, dp, T, n, k, f, t, rfl, _⟩ := h
    rfl
  obtain ⟨s, dc, dp, Tt, n, k, f, t, rfl, S, hk, hft, htn, hd, q⟩ := h
  obtain ⟨dx, ta, dn, ho, hta⟩ := id S.has
  refine ⟨_, pss_cons (ps_if (pt_not (pt_val (pe_a cM hr h0 (pv 0) (pa_cons (pv 3) (pa_cons (pv 2) pa_nil))))) (pss_one (ps_ret pe_non)) pss_nil)
    (pss_cons (ps_if (pt_cmpR op_eq (pv 3) (pv 2) (nomark _)) (pss_one (ps_ret (pe_f cW hr h0 rfl (pa_cons (pe_fld (pv 0) rfl) (pa_cons (pv 2) (pa_cons (pv 2) pa_nil)))))) pss_nil)
    (pss_cons (ps_set (i := 4) scAhead.nd rfl (Or.inl rfl) (pe_m cO hr (Nat.le_refl _) (pv 0) (pa_cons (pv 1) (pa_cons (pv 2) (pa_cons (pe_op op_sub (pv 3) pe_int) pa_nil)))))
    (pss_one (ps_ret (pe_ifExp (pt_cmpR op_isN (pv 4) pe_non (nomark _)) pe_non (pe_op op_add (pv 4) (pe_f cW hr h0 rfl (pa_cons (pe_fld (pv 0) rfl) (pa_cons (pv 2) (pa_cons (pv 3) pa_nil)))))))))), ?_⟩
  refine ⟨_, rfl, s, C, dx, _, rfl, ho, T.cl, T.nM, svF_may _ _ _ _ _, _, rfl, _, rfl, _, _, rfl, true, rfl, ?_⟩
  refine iteF ?_
  refine ⟨_, rfl, _, rfl, rfl, _, rfl, ite2 (fun c => ?_) (fun c => ?_)⟩
  · obtain rfl := of_decV c
    refine ⟨_, rfl, s, C, dx, _, _, rfl, ho, T.cl, T.nT, svF_task _ _ _ _ _, _, rfl, _, rfl, ta, Tt, n, t, t, rfl, hta, Nat.le_refl _, htn, ?_⟩
    have e : aheadO Tt (own Tt) k t t = Tt.W t t := by
      unfold aheadO
      rw [if_pos rfl]
    rw [← e]
    exact q H Chg.refl S
  · have hne := not_decV c
    have e : (t : Int) - 1 = ((t - 1 : Nat) : Int) := by omega
    refine ⟨_, rfl, s, dx, _, rfl, ho, svF_no _ _ _ _ _ (by decide +kernel) (by decide +kernel) (by decide +kernel) (by decide +kernel) (by decide +kernel), _, rfl, _, rfl, _, rfl, _, _, rfl, rfl, s, dc, dp, Tt, n, k, f, t - 1, by rw [← e]; rfl, S, hk, by omega, by omega, by omega, fun H1 c1 S1 => ?_⟩
    obtain ⟨dx1, ta1, dn1, ho1, hta1⟩ := id S1.has
    refine ⟨_, rfl, rfl, _, rfl, ?_⟩
    refine iteF ?_
    refine ⟨_, rfl, _, rfl, s, C, dx1, _, _, rfl, ho1, T.cl, T.nT, svF_task _ _ _ _ _, _, rfl, _, rfl, ta1, Tt, n, f, t, rfl, hta1, hft, htn, _, _, rfl, rfl, ?_⟩
    have e2 : aheadO Tt (own Tt) k f t = own Tt k f (t - 1) + Tt.W f t := by
      unfold aheadO
      rw [if_neg hne]
    rw [e2] at q
    exact q H1 c1 S1
theorem scSpan : FnScope ["self", "most", "first", "last", "found"] ["self", "most", "first", "last"] (defScope sSpan) := ⟨rfl, rfl, rfl, by decide +kernel, rfl, by decide +kernel, by decide +kernel⟩
theorem ok_span {f : Addr} {fd : FuncData} (F : Fun K "span_cost" "Solver.span_cost" sSpan f fd) (T : STxt K mg C fm) (cL : Fd P w K mg base 1 "look_sum" (spLookSum CT)) (h0 : 1 ≤ k0)
    (cO : Mt P w K mg base k0 C "own_cost" (spOwn C CT fm d)) : FnOk P w K mg base CX0 (k0 + 1) f fd ["self", "most", "first", "last"] (spSpan C CT fm d) := by
  refine F.ok scSpan (fun vs H Q E h => ?_) (fun cdv A outer s H vs Q E hr h => ?_)
  · obtain ⟨s, dc, dp, T, n, k, f, t, rfl, _⟩ := h
    rfl
  obtain ⟨s, dc, dp, Tt, n, k, f, l, rfl, S, hk, hfl, hln, hd, q⟩ := h
  obtain ⟨dx, ta, dn, ho, hta⟩ := id S.has
  refine ⟨_, pss_cons (ps_set (i := 4) scSpan.nd rfl (Or.inl rfl) (pe_m cO hr (Nat.le_refl _) (pv 0) (pa_cons (pv 1) (pa_cons (pv 2) (pa_cons (pv 3) pa_nil)))))
    (pss_one (ps_ret (pe_ifExp (pt_cmpR op_isN (pv 4) pe_non (nomark _)) pe_non (pe_op op_add (pv 4) (pe_f cL hr h0 rfl (pa_cons (pe_fld (pv 0) rfl) (pa_cons (pv 2) (pa_cons (pv 2) (pa_cons (pv 3) pa_nil))))))))), ?_⟩
  refine ⟨_, rfl, s, dx, _, rfl, ho, svF_no _ _ _ _ _ (by decide +kernel) (by decide +kernel) (by decide +kernel) (by decide +kernel) (by decide +kernel), _, rfl, _, rfl, _, rfl, s, dc, dp, Tt, n, k, f, l, rfl, S, hk, hfl, hln, hd, fun H1 c1 S1 => ?_⟩
  obtain ⟨dx1, ta1, dn1, ho1, hta1⟩ := id S1.has
  refine ⟨_, rfl, rfl, _, rfl, ?_⟩
  refine iteF ?_
  refine ⟨_, rfl, _, rfl, s, C, dx1, _, _, rfl, ho1, T.cl, T.nT, svF_task _ _ _ _ _, _, rfl, _, rfl, _, rfl, ta1, Tt, n, f, f, l + 1, _, rfl, by omega, hta1, Nat.le_refl _, by omega, by omega, by omega, fun H2 c2 => ?_⟩
  exact ⟨_, _, rfl, rfl, q H2 (c1.trans c2.pure) (S1.pure c2)⟩
theorem scBehind : FnScope ["self", "most", "top", "last"] ["self", "most", "top", "last"] (defScope sBehind) := ⟨rfl, rfl, rfl, by decide +kernel, rfl, by decide +kernel, by decide +kernel⟩
theorem ok_behind {f : Addr} {fd : FuncData} (F : Fun K "behind_cost" "Solver.behind_cost" sBehind f fd) (T : STxt K mg C fm) (cS : Mt P w K mg base k0 C "span_cost" (spSpan C CT fm d)) : FnOk P w K mg base CX0 (k0 + 1) f fd ["self", "most", "top", "last"] (spBehind C CT fm d) := by
  refine F.ok scBehind (fun vs H Q E h => ?_) (fun cdv A outer s H vs Q E hr h => ?_)
  · obtain ⟨s, dc, dp, T, n, k, f, t, rfl, _⟩ := h
    rfl
  obtain ⟨s, dc, dp, Tt, n, k, t, l, rfl, S, hk, htl, hln, hd, q⟩ := h
  obtain ⟨dx, ta, dn, ho, hta⟩ := id S.has
  refine ⟨_, pss_cons (ps_if (pt_cmpR op_eq (pv 2) (pv 3) (nomark _)) (pss_one (ps_ret pe_int)) pss_nil)
    (pss_one (ps_ret (pe_ifExp (pt_cmpR op_gt (pv 1) pe_int (nomark _)) (pe_m cS hr (Nat.le_refl _) (pv 0) (pa_cons (pe_op op_sub (pv 1) pe_int) (pa_cons (pe_op op_add (pv 2) pe_int) (pa_cons (pv 3) pa_nil)))) pe_non))), ?_⟩
  unfold behindO at q
  refine ⟨_, rfl, _, rfl, rfl, _, rfl, ite2 (fun c => ?_) (fun c => ?_)⟩
  · obtain rfl := of_decV c
    rw [if_pos rfl] at q
    exact q H Chg.refl S
  · have hne := not_decV c
    rw [if_neg hne] at q
    refine ⟨_, rfl, _, _, rfl, rfl, _, rfl, ite2 (fun c => ?_) (fun c => ?_)⟩
    · have hk1 : k > 1 := by
        have := of_decide_eq_true c
        omega
      rw [if_pos hk1] at q
      have e1 : (k : Int) - 1 = ((k - 1 : Nat) : Int) := by omega
      refine ⟨_, rfl, s, dx, _, rfl, ho, svF_no _ _ _ _ _ (by decide +kernel) (by decide +kernel) (by decide +kernel) (by decide +kernel) (by decide +kernel), _, rfl, _, _, rfl, rfl, _, rfl, _, _, rfl, rfl, _, rfl, s, dc, dp, Tt, n, k - 1, t + 1, l, by rw [← e1]; rfl, S, by omega, by omega, hln, by omega, fun H1 c1 S1 => ?_⟩
      exact q H1 c1 S1
    · have hk1 : ¬ k > 1 := fun z => c (decide_eq_true (by omega))
      rw [if_neg hk1] at q
      exact q H Chg.refl S
theorem scTop : FnScope ["self", "most", "first", "last", "top", "ahead", "behind"] ["self", "most", "first", "last", "top"] (defScope sTop) := ⟨rfl, rfl, rfl, by decide +kernel, rfl, by decide +kernel, by decide +kernel⟩
theorem ok_top {f : Addr} {fd : FuncData} (F : Fun K "top_cost" "Solver.top_cost" sTop f fd) (T : STxt K mg C fm) (cA : Mt P w K mg base k0 C "ahead_cost" (spAhead C CT fm d)) (cB : Mt P w K mg base k0 C "behind_cost" (spBehind C CT fm d)) :
    FnOk P w K mg base CX0 (k0 + 1) f fd ["self", "most", "first", "last", "top"] (spTop C CT fm d) := by
  refine F.ok scTop (fun vs H Q E h => ?_) (fun cdv A outer s H vs Q E hr h => ?_)
  · obtain ⟨s, dc, dp, T, n, k, f, l, t, rfl, _⟩ := h
    rfl
  obtain ⟨s, dc, dp, Tt, n, k, f, l, t, rfl, S, hk, hft, htl, hln, hd, q⟩ := h
  obtain ⟨dx, ta, dn, ho, hta⟩ := id S.has
  refine ⟨_, pss_cons (ps_set (i := 5) scTop.nd rfl (Or.inl rfl) (pe_m cA hr (Nat.le_refl _) (pv 0) (pa_cons (pv 1) (pa_cons (pv 2) (pa_cons (pv 4) pa_nil)))))
    (pss_cons (ps_if (pt_cmpR op_isN (pv 5) pe_non (nomark _)) (pss_one (ps_ret pe_non)) pss_nil)
    (pss_cons (ps_set (i := 6) scTop.nd rfl (Or.inl rfl) (pe_m cB hr (Nat.le_refl _) (pv 0) (pa_cons (pv 1) (pa_cons (pv 4) (pa_cons (pv 3) pa_nil)))))
    (pss_one (ps_ret (pe_ifExp (pt_cmpR op_isN (pv 6) pe_non (nomark _)) pe_non (pe_op op_add (pv 5) (pv 6))))))), ?_⟩
  refine ⟨_, rfl, s, dx, _, rfl, ho, svF_no _ _ _ _ _ (by decide +kernel) (by decide +kernel) (by decide +kernel) (by decide +kernel) (by decide +kernel), _, rfl, _, rfl, _, rfl, s, dc, dp, Tt, n, k, f, t, rfl, S, hk, hft, by omega, by omega, fun H1 c1 S1 => ?_⟩
  obtain ⟨dx1, ta1, dn1, ho1, hta1⟩ := id S1.has
  refine ⟨_, rfl, rfl, _, rfl, ?_⟩
  refine iteF ?_
  refine ⟨_, rfl, s, dx1, _, rfl, ho1, svF_no _ _ _ _ _ (by decide +kernel) (by decide +kernel) (by decide +kernel) (by decide +kernel) (by decide +kernel), _, rfl, _, rfl, _, rfl, s, dc, dp, Tt, n, k, t, l, rfl, S1, hk, htl, hln, by omega, fun H2 c2 S2 => ?_⟩
  unfold topO at q
  cases e : behindO Tt (own Tt) k t l with
  | none =>
    rw [e] at q
    refine ⟨_, rfl, rfl, _, rfl, ?_⟩
    refine iteT ?_
    exact q H2 (c1.trans c2) S2
  | some b =>
    rw [e] at q
    refine ⟨_, rfl, rfl, _, rfl, ?_⟩
    refine iteF ?_
    exact ⟨_, rfl, _, rfl, _, _, rfl, rfl, q H2 (c1.trans c2) S2⟩
theorem scOwn : FnScope ["self", "most", "first", "last", "key", "some", "top", "one"] ["self", "most", "first", "last"] (defScope sOwn) := ⟨rfl, rfl, rfl, by decide +kernel, rfl, by decide +kernel, by decide +kernel⟩
theorem rg_map (f l : Nat) : rg f l = (List.range (l + 1 - f)).map fun j => f + j := by
  unfold rg
  rw [List.range'_eq_map_range]
theorem rg_filterMap {α : Type} (f l : Nat) (g : Nat → Option α) : (rg f l).filterMap g = (List.range (l + 1 - f)).filterMap fun j => g (f + j) := by
  rw [rg_map, List.filterMap_map]
  rfl
end
end K58
end
section
set_option Elab.async false
set_option linter.all false
set_option maxRecDepth 100000
set_option maxHeartbeats 4000000
/-! ### the solver: own_cost -/
namespace K58
open PySem PySem.Spec PyProof.Rows L2
/-- x is not None -/
def tNotN (i : Nat) : TT := tTest (tOp (fun x y H Q => y = .non ∧ Q (.bl (!decide (x = .non))) H) (tVar i) (tC .non))
section
variable {P : Program} {w : World} {K : PySem.W.Frag} {mg : Str → Option Value} {base : Heap} {C CT fm : Addr} {k0 d : Nat}
theorem ok_own {f : Addr} {fd : FuncData} (F : Fun K "own_cost" "Solver.own_cost" sOwn f fd) (B : Bt mg) (T : STxt K mg C fm) (h0 : 1 ≤ k0) (cC : Mt P w K mg base 1 C "capped" (spCapped C)) (cT : Mt P w K mg base k0 C "top_cost" (spTop C CT fm d)) :
    FnOk P w K mg base CX0 (k0 + 1) f fd ["self", "most", "first", "last"] (spOwn C CT fm (d + 1)) := by
  refine F.ok scOwn (fun vs H Q E h => ?_) (fun cdv A outer s H vs Q E hr h => ?_)
  · obtain ⟨s, dc, dp, T, n, k, f, l, rfl, _⟩ := h
    rfl
  obtain ⟨s, dc, dp, Tt, n, k, f, l, rfl, S, hk, hfl, hln, hd, q⟩ := h
  obtain ⟨dx, ta, dn, ho, hta⟩ := id S.has
  have hu := hu_of hr
  refine ⟨_, pss_cons (ps_set (i := 4) scOwn.nd rfl (Or.inr rfl) (pe_m cC hr h0 (pv 0) (pa_cons (pv 1) (pa_cons (pv 2) (pa_cons (pv 3) pa_nil)))))
    (pss_cons (ps_if (pt_cmp (pc_dnotin hu (pv 4) (pe_fld (pv 0) rfl)))
      (pss_cons (ps_setLc (i := 5) (own := [("top", 6)]) (g := gName 6) (tt := tYes) rfl scOwn.nd rfl rfl (sw_true rfl rfl rfl (by decide +kernel)) (pi_range2 (by rfl) B.rng (pa_cons (pv 2) (pa_cons (pe_op op_add (pv 3) pe_int) pa_nil)))
        (blkOk_by (N := ["self", "most", "first", "last", "key", "some", "top", "one"]) (sc := defScope sOwn) (by decide +kernel)) (fun _ _ _ _ _ => pg_name (i := 6) scOwn.nd rfl (Or.inl rfl)) (fun _ _ _ _ _ => pts_nil)
        (fun _ _ _ _ _ => pe_m cT hr (Nat.le_refl _) (pv 0) (pa_cons (pe_ix (r := rIxT K) ix_tup (pv 4) pe_int (fun _ _ => rfl)) (pa_cons (pv 2) (pa_cons (pv 3) (pa_cons (pv 6) pa_nil))))))
      (pss_cons (ps_setLc (i := 5) (own := [("one", 7)]) (g := gName 7) (tt := tNotN 7) rfl scOwn.nd rfl rfl (sw_true rfl rfl rfl (by decide +kernel)) (pi_list (pv 5))
        (blkOk_by (N := ["self", "most", "first", "last", "key", "some", "top", "one"]) (sc := defScope sOwn) (by decide +kernel)) (fun _ _ _ _ _ => pg_name (i := 7) scOwn.nd rfl (Or.inl rfl)) (fun _ _ _ _ _ => pts_one (pt_cmpR op_notN (pv 7) pe_non (nomark _)))
        (fun _ _ _ _ _ => pv 7))
      (pss_one (ps_dput hu (pe_fld (pv 0) rfl) (pv 4) (pe_ifExp (pt_cmpR op_gt (pe_callB call_len_seq (by rfl) B.len PySem.boot_len (pa_cons (pv 5) pa_nil)) pe_int (nomark _))
        (pe_callB (cr_min rfl) (by rfl) B.min (by decide +kernel) (pa_cons (pv 5) pa_nil)) pe_non) rfl)))) pss_nil)
    (pss_one (ps_ret (pe_dget hu (pe_fld (pv 0) rfl) (pv 4) (fun _ _ => rfl))))), ?_⟩
  have e1 : min k (l + 1 - f) ≤ l + 1 - f := Nat.min_le_right _ _
  have e2 : 1 ≤ min k (l + 1 - f) := by omega
  -- key = self.capped(most, first, last)
  refine ⟨_, rfl, s, dx, _, rfl, ho, svF_no _ _ _ _ _ (by decide +kernel) (by decide +kernel) (by decide +kernel) (by decide +kernel) (by decide +kernel), _, rfl, _, rfl, _, rfl, s, k, f, l, rfl, hfl, fun p hp => ?_⟩
  have S1 := S.new (o := .tup [.int ((min k (l + 1 - f) : Nat) : Int), .int (f : Nat), .int (l : Nat)]) hp
  have c1 : Chg [dc, dp] H (upd H p (.tup [.int ((min k (l + 1 - f) : Nat) : Int), .int (f : Nat), .int (l : Nat)])) := Chg.new hp
  have hkey : upd H p (.tup [.int ((min k (l + 1 - f) : Nat) : Int), .int (f : Nat), .int (l : Nat)]) p = some (.tup ((key3 (min k (l + 1 - f)) f l).map kV)) := upd_same
  have hkT : ∀ {H' : Hp}, Chg [dc, dp] (upd H p (.tup [.int ((min k (l + 1 - f) : Nat) : Int), .int (f : Nat), .int (l : Nat)])) H' → H' p = some (.tup ((key3 (min k (l + 1 - f)) f l).map kV)) := fun c => c.tups _ _ hkey
  generalize upd H p (.tup [.int ((min k (l + 1 - f) : Nat) : Int), .int (f : Nat), .int (l : Nat)]) = H1 at *
  obtain ⟨dx1, ta1, dn1, ho1, hta1⟩ := id S1.has
  obtain ⟨kc, hkc, mc⟩ := id S1.cs
  have fin : ∀ (H3 : Hp), Chg [dc, dp] H1 H3 → SolvAt C CT fm H3 s dc dp Tt n → (∃ kc, H3 dc = some (.dT kc) ∧ Memo n (GC Tt) kc ∧ valV kc (key3 (min k (l + 1 - f)) f l) = some (.int (own Tt k f l))) → ∀ (u : Option V) (v : Option V) (w : Option V),
      (tRet (tDGet (tFld K (tVar 0) "costs") (tVar 4))) { nx := fun _ H' => Q .non H', rt := Q } [some (.ref s), some (.int (k : Nat)), some (.int (f : Nat)), some (.int (l : Nat)), some (.ref p), u, v, w] H3 := by
    intro H3 c3 S3 ⟨kc3, hkc3, mc3, hv⟩ u v w
    obtain ⟨dx3, ta3, dn3, ho3, hta3⟩ := id S3.has
    refine ⟨_, rfl, s, C, dx3, _, _, rfl, ho3, T.cl, T.nC, svF_costs _ _ _ _ _, _, rfl, dc, _, rfl, ?_, q H3 (c1.trans c3) S3⟩
    rw [← hv]
    exact DGet.t hkc3 (hkT c3)
  -- if key not in self.costs
  refine ⟨_, rfl, _, rfl, s, C, dx1, _, _, rfl, ho1, T.cl, T.nC, svF_costs _ _ _ _ _, dc, _, rfl, DGet.t hkc hkey, _, rfl, ?_⟩
  cases e : valV kc (key3 (min k (l + 1 - f)) f l) with
  | some v =>
    refine iteF ?_
    have hg := mc.got e
    have hg : v = .int (own Tt (min k (l + 1 - f)) f l) := hg
    rw [(own_cap hk hfl).1] at hg
    subst hg
    exact fin H1 Chg.refl S1 ⟨kc, hkc, mc, e⟩ _ _ _
  | none =>
    refine iteT ?_
    have eN : ((l : Int) + 1 - (f : Int)).toNat = l + 1 - f := by omega
    -- some = [self.top_cost(key[0], first, last, top) for top in range(first, last + 1)]
    refine ⟨_, rfl, _, rfl, _, _, rfl, rfl, _, _, rfl, ⟨by omega, by have := S.n30; omega, by omega, by have := S.n30; omega⟩, fun D hD => lc_range (lo := (f : Nat)) (n := ((l : Int) + 1 - (f : Int)).toNat)
      (fun i H' => Chg [dc, dp] H1 H' ∧ SolvAt C CT fm H' s dc dp Tt n ∧ H' D = some (.lst ((List.range i).map fun j => optV (topO Tt (own Tt) (min k (l + 1 - f)) f l (f + j))))) ⟨Chg.new hD, S1.new hD, upd_same⟩ ?_ ?_⟩
    · intro i H' hi ⟨c, S', hl⟩
      rw [eN] at hi
      obtain ⟨dx', ta', dn', ho', hta'⟩ := id S'.has
      have e3 : (f : Int) + (i : Nat) = ((f + i : Nat) : Int) := by omega
      rw [e3]
      refine ⟨rfl, ?_⟩
      refine ⟨_, rfl, s, dx', _, rfl, ho', svF_no _ _ _ _ _ (by decide +kernel) (by decide +kernel) (by decide +kernel) (by decide +kernel) (by decide +kernel), _, rfl, p, _, _, _, rfl, rfl, SqT.of (hkT c), atI_nat (j := 0) rfl, _, rfl, _, rfl, _, rfl, s, dc, dp, Tt, n, min k (l + 1 - f), f, l, f + i, rfl, S', e2, by omega, by omega, hln, by omega, fun H'' c2 S2 => ?_⟩
      have hD2 := c2.keep _ _ hl (S'.nin hl)
      refine ⟨_, hD2, ?_, (c.trans c2).put hD, S2.lst hD2, ?_⟩
      · rw [List.length_map, List.length_range]
        exact small1000 (by have := S.n30; omega)
      · rw [upd_same, List.range_succ, List.map_append]
        rfl
    · intro H2 ⟨c2, S2, hl⟩
      rw [eN] at hl
      -- some = [one for one in some if one is not None]
      have hlen : ((List.range (l + 1 - f)).map fun j => optV (topO Tt (own Tt) (min k (l + 1 - f)) f l (f + j))).length = l + 1 - f := by rw [List.length_map, List.length_range]
      refine ⟨_, rfl, D, rfl, ⟨_, SqL.of hl⟩, fun D2 hD2 => lc_list (K := K) (a := D) (xs := (List.range (l + 1 - f)).map fun j => optV (topO Tt (own Tt) (min k (l + 1 - f)) f l (f + j)))
        (fun i H' => Chg [] H2 H' ∧ H' D2 = some (.lst (((List.range i).filterMap fun j => topO Tt (own Tt) (min k (l + 1 - f)) f l (f + j)).map V.int))) ⟨Chg.new hD2, upd_same⟩ (fun i H' _ z => SqL.of (z.1.at hl)) ?_ ?_⟩
      · intro i x H' hx ⟨c, hl'⟩
        have hi : i < l + 1 - f := by
          have := (List.getElem?_eq_some_iff.mp hx).1
          rwa [hlen] at this
        rw [List.getElem?_map, List.getElem?_range hi] at hx
        obtain rfl : optV (topO Tt (own Tt) (min k (l + 1 - f)) f l (f + i)) = x := Option.some.inj hx
        have hf : (List.range (i + 1)).filterMap (fun j => topO Tt (own Tt) (min k (l + 1 - f)) f l (f + j)) = (List.range i).filterMap (fun j => topO Tt (own Tt) (min k (l + 1 - f)) f l (f + j)) ++ (topO Tt (own Tt) (min k (l + 1 - f)) f l (f + i)).toList := by
          rw [List.range_succ, List.filterMap_append]
          congr 1
        cases eo : topO Tt (own Tt) (min k (l + 1 - f)) f l (f + i) with
        | none =>
          refine ⟨rfl, _, rfl, rfl, _, rfl, ?_⟩
          refine ⟨c, ?_⟩
          rw [hf, eo]
          simpa using hl'
        | some z =>
          refine ⟨rfl, _, rfl, rfl, _, rfl, ?_⟩
          refine ⟨_, rfl, _, hl', ?_, c.put hD2, ?_⟩
          · rw [List.length_map]
            refine small1000 (Nat.le_trans (List.length_filterMap_le _ _) ?_)
            rw [List.length_range]
            have := S.n30
            omega
          · rw [upd_same, hf, eo, List.map_append]
            rfl
      · intro H3 ⟨c3, hl3⟩
        rw [hlen] at hl3
        have S3 := S2.pure c3
        have eF := rg_filterMap f l (topO Tt (own Tt) (min k (l + 1 - f)) f l)
        rw [← eF] at hl3
        have hne : (rg f l).filterMap (topO Tt (own Tt) (min k (l + 1 - f)) f l) ≠ [] := by
          refine List.ne_nil_of_mem (a := aheadO Tt (own Tt) (min k (l + 1 - f)) f l + 0) (List.mem_filterMap.mpr ⟨l, mem_rg.mpr ⟨hfl, Nat.le_refl _⟩, ?_⟩)
          unfold topO behindO
          simp
        have hpos : 0 < ((rg f l).filterMap (topO Tt (own Tt) (min k (l + 1 - f)) f l)).length := List.length_pos_iff.mpr hne
        obtain ⟨dx3, ta3, dn3, ho3, hta3⟩ := id S3.has
        obtain ⟨kc3, hkc3, mc3⟩ := id S3.cs
        -- self.costs[key] = min(some)
        refine ⟨_, rfl, D2, _, rfl, .inl (SqL.of hl3), _, _, rfl, rfl, true, ?_, ?_⟩
        · rw [List.length_map]
          exact congrArg V.bl (decide_eq_true (by omega))
        refine iteT ?_
        refine ⟨_, rfl, D2, _, rfl, SqL.of hl3, hpos, fun m hm hle => ?_⟩
        have em : m = own Tt (min k (l + 1 - f)) f l := by
          rw [own_eq e2 hfl, show min (min k (l + 1 - f)) (l + 1 - f) = min k (l + 1 - f) by omega]
          exact (minI_is hm hle).symm
        subst em
        obtain ⟨S4, hz⟩ := S3.putC hkc3 e2 hfl hln e1
        refine ⟨_, rfl, s, C, dx3, _, _, rfl, ho3, T.cl, T.nC, svF_costs _ _ _ _ _, _, rfl, dc, _, rfl, DPut.t hkc3 (hkT (c2.trans c3.pure)) hz, ?_⟩
        have c4 : Chg [dc, dp] H1 (upd H3 dc (.dT (putK kc3 (key3 (min k (l + 1 - f)) f l) (.int (own Tt (min k (l + 1 - f)) f l))))) := (c2.trans c3.pure).dct hkc3 (by simp)
        refine fin _ c4 S4 ⟨_, upd_same, ?_, ?_⟩ _ _ _
        · obtain ⟨kc5, hkc5, mc5⟩ := S4.cs
          rw [upd_same] at hkc5
          cases hkc5
          exact mc5
        · rw [L2.valV_put, if_pos rfl, (own_cap hk hfl).1]
end
end K58
end
section
set_option Elab.async false
set_option linter.all false
set_option maxRecDepth 100000
set_option maxHeartbeats 4000000
/-! ### the solver: tops and span_plan -/
namespace K58
open PySem PySem.Spec PyProof.Rows L2
abbrev sTops : Stmt := inClass (top 23) 7
abbrev sPlan : Stmt := inClass (top 23) 8
def topsL (T : Tk) (k f l : Nat) : List Nat := (rg f l).filter fun t => decide (topO T (own T) (min k (l + 1 - f)) f l t = some (own T k f l))
def spTops (C CT fm : Addr) (d : Nat) : Sp := fun vs H Q _ => ∃ (s dc dp : Addr) (T : Tk) (n k f l : Nat), vs = [.ref s, .int (k : Nat), .int (f : Nat), .int (l : Nat)] ∧ SolvAt C CT fm H s dc dp T n ∧ 1 ≤ k ∧ f ≤ l ∧ l < n ∧ l ≤ f + d ∧
  ∀ L H', H L = none → Chg [dc, dp] H H' → SolvAt C CT fm H' s dc dp T n → H' L = some (.lst ((nI (topsL T k f l)).map V.int)) → Q (.ref L) H'
def spPlan (C CT fm : Addr) (d : Nat) : Sp := fun vs H Q _ => ∃ (s dc dp : Addr) (T : Tk) (n k f l : Nat), vs = [.ref s, .int (k : Nat), .int (f : Nat), .int (l : Nat)] ∧ SolvAt C CT fm H s dc dp T n ∧ 1 ≤ k ∧ f ≤ l ∧ l < n ∧ l + 1 ≤ f + d ∧
  ∀ v H', Chg [dc, dp] H H' → SolvAt C CT fm H' s dc dp T n → TD H' v (pD (plan T k f l)) → Q v H'
section
variable {P : Program} {w : World} {K : PySem.W.Frag} {mg : Str → Option Value} {base : Heap} {C CT fm : Addr} {k0 d : Nat}
theorem scTops : FnScope ["self", "most", "first", "last", "due", "few", "top"] ["self", "most", "first", "last"] (defScope sTops) := ⟨rfl, rfl, rfl, by decide +kernel, rfl, by decide +kernel, by decide +kernel⟩
theorem rg_filter (f l : Nat) (g : Nat → Bool) : (rg f l).filter g = ((List.range (l + 1 - f)).filter fun j => g (f + j)).map fun j => f + j := by
  rw [rg_map, List.filter_map]
  rfl
theorem nI_nil : nI [] = [] := rfl
theorem nI_app (a b : List Nat) : nI (a ++ b) = nI a ++ nI b := by
  unfold nI
  rw [List.map_append]
theorem ok_tops {f : Addr} {fd : FuncData} (F : Fun K "tops" "Solver.tops" sTops f fd) (B : Bt mg) (T : STxt K mg C fm) (cO : Mt P w K mg base k0 C "own_cost" (spOwn C CT fm (d + 1))) (cT : Mt P w K mg base k0 C "top_cost" (spTop C CT fm d)) :
    FnOk P w K mg base CX0 (k0 + 1) f fd ["self", "most", "first", "last"] (spTops C CT fm d) := by
  refine F.ok scTops (fun vs H Q E h => ?_) (fun cdv A outer s H vs Q E hr h => ?_)
  · obtain ⟨s, dc, dp, T, n, k, f, l, rfl, _⟩ := h
    rfl
  obtain ⟨s, dc, dp, Tt, n, k, f, l, rfl, S, hk, hfl, hln, hd, q⟩ := h
  obtain ⟨dx, ta, dn, ho, hta⟩ := id S.has
  refine ⟨_, pss_cons (ps_set (i := 4) scTops.nd rfl (Or.inr rfl) (pe_m cO hr (Nat.le_refl _) (pv 0) (pa_cons (pv 1) (pa_cons (pv 2) (pa_cons (pv 3) pa_nil)))))
    (pss_cons (ps_if (pt_cmpR op_isN (pv 4) pe_non (nomark _)) (pss_one (ps_ret (pe_lst pa_nil))) pss_nil)
    (pss_cons (ps_set (i := 5) scTops.nd rfl (Or.inr rfl) (pe_callB (call_min2 rfl) (by rfl) B.min (by decide +kernel) (pa_cons (pv 1) (pa_cons (pe_op op_add (pe_op op_sub (pv 3) (pv 2)) pe_int) pa_nil))))
    (pss_one (ps_ret (pe_lc (own := [("top", 6)]) (g := gName 6) rfl scTops.nd (pi_range2 (by rfl) B.rng (pa_cons (pv 2) (pa_cons (pe_op op_add (pv 3) pe_int) pa_nil)))
        (blkOk_by (N := ["self", "most", "first", "last", "due", "few", "top"]) (sc := defScope sTops) (by decide +kernel)) (fun _ _ _ _ _ => pg_name (i := 6) scTops.nd rfl (Or.inl rfl))
        (fun _ _ _ _ _ => pts_one (pt_cmpR op_eq (pe_m cT hr (Nat.le_refl _) (pv 0) (pa_cons (pv 5) (pa_cons (pv 2) (pa_cons (pv 3) (pa_cons (pv 6) pa_nil))))) (pv 4) (nomark _)))
        (fun _ _ _ _ _ => pv 6)))))), ?_⟩
  refine ⟨_, rfl, s, dx, _, rfl, ho, svF_no _ _ _ _ _ (by decide +kernel) (by decide +kernel) (by decide +kernel) (by decide +kernel) (by decide +kernel), _, rfl, _, rfl, _, rfl, s, dc, dp, Tt, n, k, f, l, rfl, S, hk, hfl, hln, by omega, fun H1 c1 S1 => ?_⟩
  refine ⟨_, rfl, rfl, _, rfl, ?_⟩
  refine iteF ?_
  refine ⟨_, rfl, _, rfl, _, rfl, _, _, rfl, rfl, _, _, rfl, rfl, _, _, rfl, ?_⟩
  rw [min_cap k f l hfl]
  have eN : ((l : Int) + 1 - (f : Int)).toNat = l + 1 - f := by omega
  have e2 : 1 ≤ min k (l + 1 - f) := by omega
  refine ⟨_, rfl, _, rfl, _, _, rfl, rfl, _, _, rfl, ⟨by omega, by have := S.n30; omega, by omega, by have := S.n30; omega⟩, fun D hD => lc_range (lo := (f : Nat)) (n := ((l : Int) + 1 - (f : Int)).toNat)
      (fun i H' => Chg [dc, dp] H1 H' ∧ SolvAt C CT fm H' s dc dp Tt n ∧ H' D = some (.lst ((nI (((List.range i).filter fun j => decide (topO Tt (own Tt) (min k (l + 1 - f)) f l (f + j) = some (own Tt k f l))).map fun j => f + j)).map V.int))) ⟨Chg.new hD, S1.new hD, upd_same⟩ ?_ ?_⟩
  · intro i H' hi ⟨c, S', hl⟩
    rw [eN] at hi
    obtain ⟨dx', ta', dn', ho', hta'⟩ := id S'.has
    have e3 : (f : Int) + (i : Nat) = ((f + i : Nat) : Int) := by omega
    rw [e3]
    refine ⟨rfl, ?_⟩
    refine ⟨_, rfl, s, dx', _, rfl, ho', svF_no _ _ _ _ _ (by decide +kernel) (by decide +kernel) (by decide +kernel) (by decide +kernel) (by decide +kernel), _, rfl, _, rfl, _, rfl, _, rfl, s, dc, dp, Tt, n, min k (l + 1 - f), f, l, f + i, rfl, S', e2, by omega, by omega, hln, hd, fun H2 c2 S2 => ?_⟩
    have hD2 := c2.keep _ _ hl (S'.nin hl)
    cases eo : topO Tt (own Tt) (min k (l + 1 - f)) f l (f + i) with
    | none =>
      refine ⟨_, rfl, rfl, false, rfl, ?_⟩
      refine ⟨c.trans c2, S2, ?_⟩
      rw [List.range_succ, List.filter_append, List.map_append, nI_app, List.map_append]
      simp only [List.filter_cons, List.filter_nil, eo]
      simpa [nI_nil] using hD2
    | some z =>
      by_cases ez : z = own Tt k f l
      · subst ez
        refine ⟨_, rfl, rfl, true, congrArg V.bl (decide_eq_true rfl), ?_⟩
        refine ⟨_, rfl, _, hD2, ?_, (c.trans c2).put hD, S2.lst hD2, ?_⟩
        · unfold nI
          rw [List.length_map, List.length_map, List.length_map]
          refine small1000 (Nat.le_trans (List.length_filter_le _ _) ?_)
          rw [List.length_range]
          have := S.n30
          omega
        · rw [upd_same, List.range_succ, List.filter_append, List.map_append, nI_app, List.map_append]
          simp only [List.filter_cons, List.filter_nil, eo]
          simp [nI]
      · refine ⟨_, rfl, rfl, false, congrArg V.bl (decide_eq_false fun q => ez (V.int.inj q)), ?_⟩
        refine ⟨c.trans c2, S2, ?_⟩
        rw [List.range_succ, List.filter_append, List.map_append, nI_app, List.map_append]
        simp only [List.filter_cons, List.filter_nil, eo]
        simpa [ez, nI_nil] using hD2
  · intro H2 ⟨c2, S2, hl⟩
    rw [eN] at hl
    refine q D H2 (c1.free hD (fun b hb => ?_)) (c1.trans c2) S2 ?_
    · obtain ⟨kc, h1, _⟩ := S1.cs
      obtain ⟨kp, h2, _⟩ := S1.ps
      simp only [List.mem_cons, List.not_mem_nil, or_false] at hb
      rcases hb with rfl | rfl
      · exact ⟨_, h1⟩
      · exact ⟨_, h2⟩
    · unfold topsL
      rw [rg_filter]
      exact hl
theorem topsL_mem {Tt : Tk} {k f l t : Nat} (h : t ∈ topsL Tt k f l) : f ≤ t ∧ t ≤ l ∧ (t < l → 1 < min k (l + 1 - f)) := by
  obtain ⟨h1, h2⟩ := List.mem_filter.mp h
  obtain ⟨h3, h4⟩ := mem_rg.mp h1
  refine ⟨h3, h4, fun h5 => ?_⟩
  have h2 : topO Tt (own Tt) (min k (l + 1 - f)) f l t = some (own Tt k f l) := of_decide_eq_true h2
  unfold topO behindO at h2
  rw [if_neg (by omega)] at h2
  by_cases h6 : min k (l + 1 - f) > 1
  · exact h6
  · rw [if_neg h6] at h2
    cases h2
/-- the plan by a top -/
def byTop (T : Tk) (k f l t : Nat) : List Nat := (if t > f then plan T (min k (l + 1 - f)) f (t - 1) else []) ++ [f] ++ (if t < l then plan T (min k (l + 1 - f) - 1) (t + 1) l else [])
theorem plan_tops {T : Tk} {k f l : Nat} (hk : 1 ≤ k) (hf : f ≤ l) : plan T k f l = minL ((topsL T k f l).map (byTop T k f l)) := plan_eq hk hf
theorem topsL_ne {T : Tk} {k f l : Nat} (hk : 1 ≤ k) (hf : f ≤ l) : topsL T k f l ≠ [] := by
  have h := own_eq (T := T) hk hf
  have hne : (rg f l).filterMap (topO T (own T) (min k (l + 1 - f)) f l) ≠ [] := by
    refine List.ne_nil_of_mem (a := aheadO T (own T) (min k (l + 1 - f)) f l + 0) (List.mem_filterMap.mpr ⟨l, mem_rg.mpr ⟨hf, Nat.le_refl _⟩, ?_⟩)
    unfold topO behindO
    simp
  have hm := minI_mem hne
  rw [← h] at hm
  obtain ⟨t, h1, h2⟩ := List.mem_filterMap.mp hm
  exact List.ne_nil_of_mem (List.mem_filter.mpr ⟨h1, by simpa using h2⟩)
theorem pD_app {H : Hp} {xs ys : List V} {p q : List Nat} (h1 : TDs H xs ((nI p).map PyData.int)) (h2 : TDs H ys ((nI q).map PyData.int)) : TDs H (xs ++ ys) ((nI (p ++ q)).map PyData.int) := by
  rw [nI_app, List.map_append]
  exact h1.app h2
theorem plan_len {T : Tk} {k f l : Nat} (hk : 1 ≤ k) (hf : f ≤ l) : (plan T k f l).length = l + 1 - f := span_len (lst_own (T := T) hk hf).1
/-- a plan's part behind another one -/
theorem cat_plans {H : Hp} {va vb : V} {p q : List Nat} {Q : VK} (ha : TD H va (pD p)) (hb : TD H vb (pD q)) (hz : p.length + q.length ≤ 1000) (h : ∀ v H', Chg [] H H' → TD H' v (pD (p ++ q)) → Q v H') : rCatA K va vb H Q := by
  obtain ⟨a, xs, rfl, h1, h2⟩ := ha.tup_inv
  obtain ⟨b, ys, rfl, h3, h4⟩ := hb.tup_inv
  have l1 : xs.length = p.length := by
    rw [h2.length]
    unfold nI
    rw [List.length_map, List.length_map]
  have l2 : ys.length = q.length := by
    rw [h4.length]
    unfold nI
    rw [List.length_map, List.length_map]
  refine ⟨a, b, xs, ys, rfl, rfl, SqT.of h1, SqT.of h3, by rw [l1, l2]; exact Nat.le_of_lt (small1000 hz), fun e => ?_, fun _ e => ?_, fun _ _ r hr => ?_⟩
  · have e2 : p = [] := List.eq_nil_of_length_eq_zero (by rw [← l1, e]; rfl)
    refine h _ H Chg.refl ?_
    rw [e2]
    exact hb
  · have e2 : q = [] := List.eq_nil_of_length_eq_zero (by rw [← l2, e]; rfl)
    refine h _ H Chg.refl ?_
    rw [e2, List.append_nil]
    exact ha
  · have c : Chg [] H (upd H r (.tup (xs ++ ys))) := Chg.new hr
    exact h _ _ c (.tup upd_same (pD_app (h2.chg c) (h4.chg c)))
theorem scPlan : FnScope ["self", "most", "first", "last", "key", "found", "top", "ahead", "behind"] ["self", "most", "first", "last"] (defScope sPlan) := ⟨rfl, rfl, rfl, by decide +kernel, rfl, by decide +kernel, by decide +kernel⟩
theorem ok_plan {f : Addr} {fd : FuncData} (F : Fun K "span_plan" "Solver.span_plan" sPlan f fd) (B : Bt mg) (T : STxt K mg C fm) (h0 : 1 ≤ k0) (cC : Mt P w K mg base 1 C "capped" (spCapped C)) (cT : Mt P w K mg base k0 C "tops" (spTops C CT fm d))
    (cP : Mt P w K mg base k0 C "span_plan" (spPlan C CT fm d)) : FnOk P w K mg base CX0 (k0 + 1) f fd ["self", "most", "first", "last"] (spPlan C CT fm (d + 1)) := by
  refine F.ok scPlan (fun vs H Q E h => ?_) (fun cdv A outer s H vs Q E hr h => ?_)
  · obtain ⟨s, dc, dp, T, n, k, f, l, rfl, _⟩ := h
    rfl
  obtain ⟨s, dc, dp, Tt, n, k, f, l, rfl, S, hk, hfl, hln, hd, q⟩ := h
  obtain ⟨dx, ta, dn, ho, hta⟩ := id S.has
  have hu := hu_of hr
  refine ⟨_, pss_cons (ps_set (i := 4) scPlan.nd rfl (Or.inl rfl) (pe_m cC hr h0 (pv 0) (pa_cons (pv 1) (pa_cons (pv 2) (pa_cons (pv 3) pa_nil)))))
    (pss_cons (ps_if (pt_cmp (pc_dnotin hu (pv 4) (pe_fld (pv 0) rfl)))
      (pss_cons (ps_set (i := 5) scPlan.nd rfl (Or.inl rfl) (pe_lst pa_nil))
      (pss_cons (ps_for PassesOwn.never rfl (pi_list (pe_m cT hr (Nat.le_refl _) (pv 0) (pa_cons (pv 1) (pa_cons (pv 2) (pa_cons (pv 3) pa_nil))))) (pg_name (i := 6) scPlan.nd rfl (Or.inl rfl))
        (Evl.pss_cut (ps_set (i := 7) scPlan.nd rfl (Or.inl rfl) (pe_ifExp (pt_cmpR op_gt (pv 6) (pv 2) (nomark _)) (pe_m cP hr (Nat.le_refl _) (pv 0) (pa_cons (pe_ix ix_tup (pv 4) pe_int (fun _ _ => rfl)) (pa_cons (pv 2) (pa_cons (pe_op op_sub (pv 6) pe_int) pa_nil)))) (pe_tup pa_nil)))
        (Evl.pss_cut (ps_set (i := 8) scPlan.nd rfl (Or.inl rfl) (pe_ifExp (pt_cmpR op_lt (pv 6) (pv 3) (nomark _)) (pe_m cP hr (Nat.le_refl _) (pv 0) (pa_cons (pe_op op_sub (pe_ix ix_tup (pv 4) pe_int (fun _ _ => rfl)) pe_int) (pa_cons (pe_op op_add (pv 6) pe_int) (pa_cons (pv 3) pa_nil)))) (pe_tup pa_nil)))
        (pss_one (ps_expr (pe_bm PySem.F.plainAttrs_list PySem.F.slot_list_append PySem.F.type_list_append mt_append (pv 5) (pa_cons (pe_op op_catA (pe_op op_catA (pv 7) (pe_tup (pa_cons (pv 2) pa_nil))) (pv 8)) pa_nil)))))))
      (pss_one (ps_dput hu (pe_fld (pv 0) rfl) (pv 4) (pe_callB (cr_minD rfl hr.units) (by rfl) B.min (by decide +kernel) (pa_cons (pv 5) pa_nil)) rfl)))) pss_nil)
    (pss_one (ps_ret (pe_dget hu (pe_fld (pv 0) rfl) (pv 4) (fun _ _ => rfl))))), ?_⟩
  have e1 : min k (l + 1 - f) ≤ l + 1 - f := Nat.min_le_right _ _
  have e2 : 1 ≤ min k (l + 1 - f) := by omega
  refine ⟨_, rfl, s, dx, _, rfl, ho, svF_no _ _ _ _ _ (by decide +kernel) (by decide +kernel) (by decide +kernel) (by decide +kernel) (by decide +kernel), _, rfl, _, rfl, _, rfl, s, k, f, l, rfl, hfl, fun p hp => ?_⟩
  have S1 := S.new (o := .tup [.int ((min k (l + 1 - f) : Nat) : Int), .int (f : Nat), .int (l : Nat)]) hp
  have c1 : Chg [dc, dp] H (upd H p (.tup [.int ((min k (l + 1 - f) : Nat) : Int), .int (f : Nat), .int (l : Nat)])) := Chg.new hp
  have hkey : upd H p (.tup [.int ((min k (l + 1 - f) : Nat) : Int), .int (f : Nat), .int (l : Nat)]) p = some (.tup ((key3 (min k (l + 1 - f)) f l).map kV)) := upd_same
  generalize upd H p (.tup [.int ((min k (l + 1 - f) : Nat) : Int), .int (f : Nat), .int (l : Nat)]) = H1 at *
  obtain ⟨dx1, ta1, dn1, ho1, hta1⟩ := id S1.has
  obtain ⟨kp, hkp, mp⟩ := id S1.ps
  have fin : ∀ (H3 : Hp), Chg [dc, dp] H1 H3 → SolvAt C CT fm H3 s dc dp Tt n → (∃ kp x, H3 dp = some (.dT kp) ∧ valV kp (key3 (min k (l + 1 - f)) f l) = some x ∧ TD H3 x (pD (plan Tt k f l))) → ∀ (u v w z : Option V),
      (tRet (tDGet (tFld K (tVar 0) "plans") (tVar 4))) { nx := fun _ H' => Q .non H', rt := Q } [some (.ref s), some (.int (k : Nat)), some (.int (f : Nat)), some (.int (l : Nat)), some (.ref p), u, v, w, z] H3 := by
    intro H3 c3 S3 ⟨kp3, x, hkp3, hv, hx⟩ u v w z
    obtain ⟨dx3, ta3, dn3, ho3, hta3⟩ := id S3.has
    refine ⟨_, rfl, s, C, dx3, _, _, rfl, ho3, T.cl, T.nP, svF_plans _ _ _ _ _, _, rfl, dp, _, rfl, ?_, q _ H3 (c1.trans c3) S3 hx⟩
    rw [← hv]
    exact DGet.t hkp3 (c3.tups _ _ hkey)
  refine ⟨_, rfl, _, rfl, s, C, dx1, _, _, rfl, ho1, T.cl, T.nP, svF_plans _ _ _ _ _, dp, _, rfl, DGet.t hkp hkey, _, rfl, ?_⟩
  cases e : valV kp (key3 (min k (l + 1 - f)) f l) with
  | some v =>
    refine iteF ?_
    have hg := mp.got e
    have hg : TD H1 v (pD (plan Tt (min k (l + 1 - f)) f l)) := hg
    rw [(own_cap hk hfl).2] at hg
    exact fin H1 Chg.refl S1 ⟨kp, v, hkp, e, hg⟩ _ _ _ _
  | none =>
    refine iteT ?_
    -- found = []
    refine ⟨by show 0 ≤ sizeLine; decide, fun fo hfo => ?_⟩
    have S2 := S1.new (o := .lst []) hfo
    obtain ⟨dx2, ta2, dn2, ho2, hta2⟩ := id S2.has
    refine ⟨_, rfl, s, dx2, _, rfl, ho2, svF_no _ _ _ _ _ (by decide +kernel) (by decide +kernel) (by decide +kernel) (by decide +kernel) (by decide +kernel), _, rfl, _, rfl, _, rfl, s, dc, dp, Tt, n, k, f, l, rfl, S2, hk, hfl, hln, by omega, fun L H3 hL c3 S3 hl3 => ?_⟩
    have hf3 : H3 fo = some (.lst []) := c3.keep _ _ upd_same (S2.nin upd_same)
    have nLf : L ≠ fo := fun z => by
      rw [z, upd_same] at hL
      cases hL
    refine ⟨L, rfl, ⟨_, SqL.of hl3⟩, for_list (K := K) (a := L) (xs := (nI (topsL Tt k f l)).map V.int) (fun i σ H' => (∃ u v w, σ = [some (.ref s), some (.int (k : Nat)), some (.int (f : Nat)), some (.int (l : Nat)), some (.ref p), some (.ref fo), u, v, w]) ∧
      Chg [fo, dc, dp] H3 H' ∧ SolvAt C CT fm H' s dc dp Tt n ∧ ∃ xs, H' fo = some (.lst xs) ∧ TDs H' xs (((topsL Tt k f l).take i).map fun t => pD (byTop Tt k f l t))) ⟨⟨_, _, _, rfl⟩, Chg.refl, S3, [], hf3, .nil⟩ ?_ ?_ ?_⟩
    · intro i σ H' _ ⟨_, c, _, _⟩
      refine SqL.of (c.keep _ _ hl3 ?_)
      have := S3.nin hl3
      simp only [List.mem_cons, List.not_mem_nil, or_false, not_or] at this ⊢
      exact ⟨nLf, this⟩
    · intro i x σ H4 hx ⟨⟨u, v, w', es⟩, c4, S4, xs, hxs, hds⟩
      subst es
      unfold nI at hx
      rw [List.map_map, List.getElem?_map] at hx
      obtain ⟨t, ht, ex⟩ := Option.map_eq_some_iff.mp hx
      obtain rfl : V.int ((t : Nat) : Int) = x := ex
      have hmem : t ∈ topsL Tt k f l := List.mem_of_getElem? ht
      obtain ⟨hft, htl, hkt⟩ := topsL_mem hmem
      obtain ⟨dx4, ta4, dn4, ho4, hta4⟩ := id S4.has
      have hk4 := c4.tups _ _ (c3.tups _ _ ((Chg.new (M := []) (o := .lst []) hfo).tups _ _ hkey))
      -- ahead
      refine ⟨fun σ' H5 => ∃ va, σ' = [some (.ref s), some (.int (k : Nat)), some (.int (f : Nat)), some (.int (l : Nat)), some (.ref p), some (.ref fo), some (.int (t : Nat)), some va, w'] ∧ Chg [dc, dp] H4 H5 ∧ SolvAt C CT fm H5 s dc dp Tt n ∧
        TD H5 va (pD (if t > f then plan Tt (min k (l + 1 - f)) f (t - 1) else [])), ?_, ?_⟩
      · refine ⟨_, rfl, _, rfl, _, _, rfl, rfl, _, rfl, ite2 (fun c => ?_) (fun c => ?_)⟩
        · have htf : t > f := by
            have := of_decide_eq_true c
            omega
          have et : (t : Int) - 1 = ((t - 1 : Nat) : Int) := by omega
          refine ⟨_, rfl, s, dx4, _, rfl, ho4, svF_no _ _ _ _ _ (by decide +kernel) (by decide +kernel) (by decide +kernel) (by decide +kernel) (by decide +kernel), _, rfl, p, _, _, _, rfl, rfl, SqT.of hk4, atI_nat (j := 0) rfl, _, rfl, _, rfl, _, _, rfl, rfl, s, dc, dp, Tt, n, min k (l + 1 - f), f, t - 1, by rw [← et]; rfl, S4, e2, by omega, by omega, by omega, fun va H5 c5 S5 hva => ?_⟩
          refine ⟨va, rfl, c5, S5, ?_⟩
          rw [if_pos htf]
          exact hva
        · have htf : ¬ t > f := fun z => c (decide_eq_true (by omega))
          refine ⟨by show 0 ≤ sizeLine; decide, fun e0 he0 => ⟨_, rfl, Chg.new he0, S4.new he0, ?_⟩⟩
          rw [if_neg htf]
          exact .tup upd_same .nil
      rintro σ5 H5 ⟨va, rfl, c5, S5, hva⟩
      obtain ⟨dx5, ta5, dn5, ho5, hta5⟩ := id S5.has
      have hk5 := c5.tups _ _ hk4
      -- behind
      refine ⟨fun σ' H6 => ∃ vb, σ' = [some (.ref s), some (.int (k : Nat)), some (.int (f : Nat)), some (.int (l : Nat)), some (.ref p), some (.ref fo), some (.int (t : Nat)), some va, some vb] ∧ Chg [dc, dp] H5 H6 ∧ SolvAt C CT fm H6 s dc dp Tt n ∧
        TD H6 vb (pD (if t < l then plan Tt (min k (l + 1 - f) - 1) (t + 1) l else [])), ?_, ?_⟩
      · refine ⟨_, rfl, _, rfl, _, _, rfl, rfl, _, rfl, ite2 (fun c => ?_) (fun c => ?_)⟩
        · have htl2 : t < l := by
            have := of_decide_eq_true c
            omega
          have hk1 := hkt htl2
          have et : ((min k (l + 1 - f) : Nat) : Int) - 1 = ((min k (l + 1 - f) - 1 : Nat) : Int) := by omega
          refine ⟨_, rfl, s, dx5, _, rfl, ho5, svF_no _ _ _ _ _ (by decide +kernel) (by decide +kernel) (by decide +kernel) (by decide +kernel) (by decide +kernel), _, rfl, p, _, _, _, rfl, rfl, SqT.of hk5, atI_nat (j := 0) rfl, _, _, rfl, rfl, _, rfl, _, _, rfl, rfl, _, rfl, s, dc, dp, Tt, n, min k (l + 1 - f) - 1, t + 1, l, by rw [← et]; rfl, S5, by omega, by omega, hln, by omega, fun vb H6 c6 S6 hvb => ?_⟩
          refine ⟨vb, rfl, c6, S6, ?_⟩
          rw [if_pos htl2]
          exact hvb
        · have htl2 : ¬ t < l := fun z => c (decide_eq_true (by omega))
          refine ⟨by show 0 ≤ sizeLine; decide, fun e0 he0 => ⟨_, rfl, Chg.new he0, S5.new he0, ?_⟩⟩
          rw [if_neg htl2]
          exact .tup upd_same .nil
      rintro σ6 H6 ⟨vb, rfl, c6, S6, hvb⟩
      -- found.append(ahead + (first,) + behind)
      have c46 : Chg [dc, dp] H4 H6 := c5.trans c6
      have hf6 : H6 fo = some (.lst xs) := c46.keep _ _ hxs (S4.nin hxs)
      have hn := S.n30
      have la : (if t > f then plan Tt (min k (l + 1 - f)) f (t - 1) else []).length ≤ 100 := by
        split
        · rw [plan_len e2 (by omega)]
          omega
        · simp
      have lb : (if t < l then plan Tt (min k (l + 1 - f) - 1) (t + 1) l else []).length ≤ 100 := by
        split
        · rename_i hc
          rw [plan_len (by have := hkt hc; omega) (by omega)]
          omega
        · simp
      refine ⟨_, rfl, .inl ⟨rfl, _, SqL.of hf6⟩, _, rfl, _, rfl, by show 1 ≤ sizeLine; decide, fun p1 hp1 => ?_⟩
      have c7 : Chg [] H6 (upd H6 p1 (.tup [.int (f : Nat)])) := Chg.new hp1
      refine cat_plans (hva.chg (c6.trans c7.pure)) (q := [f]) (.tup upd_same (.cons (.int _) .nil)) (by rw [List.length_singleton]; omega) fun v8 H8 c8 hv8 => ?_
      have c78 := c7.trans c8
      refine ⟨_, rfl, ?_⟩
      refine cat_plans hv8 (hvb.chg c78) (by rw [List.length_append, List.length_singleton]; omega) fun v9 H9 c9 hv9 => ?_
      have c79 := c78.trans c9
      have hf9 : H9 fo = some (.lst xs) := c79.at hf6
      have hlt : i < (topsL Tt k f l).length := (List.getElem?_eq_some_iff.mp ht).1
      have hlen : xs.length = i := by
        rw [hds.length, List.length_map, List.length_take]
        omega
      have htl : (topsL Tt k f l).length ≤ 30 := by
        refine Nat.le_trans (List.length_filter_le _ _) ?_
        unfold rg
        rw [List.length_range']
        omega
      refine ⟨fo, _, _, rfl, rfl, hf9, small1000 (by omega), ⟨_, _, _, rfl⟩, ?_, ?_, _, upd_same, ?_⟩
      · refine (c4.trans ((c46.mono ?_).trans c79.pure)).lst hf9 (by simp)
        intro b hb
        exact List.mem_cons_of_mem _ hb
      · exact (S6.pure c79).lst hf9
      · have cL : Chg [fo] H9 (upd H9 fo (.lst (xs ++ [v9]))) := Chg.refl.lst hf9 (by simp)
        have cc := ((c46.trans c79.pure).mono (N := [fo, dc, dp]) (fun b hb => List.mem_cons_of_mem _ hb)).trans (cL.mono (N := [fo, dc, dp]) (by simp))
        rw [List.take_succ, ht, Option.toList_some, List.map_append]
        exact (hds.chg cc).snoc (hv9.chg cL)
    · rintro σ H4 ⟨⟨u, v, w', es⟩, c4, S4, xs, hxs, hds⟩
      subst es
      have eL : (List.map V.int (nI (topsL Tt k f l))).length = (topsL Tt k f l).length := by
        unfold nI
        rw [List.length_map, List.length_map]
      rw [eL, List.take_length] at hds
      have hds2 : TDs H4 xs (((topsL Tt k f l).map (byTop Tt k f l)).map pD) := by
        rw [List.map_map]
        exact hds
      refine ⟨_, rfl, ?_⟩
      dsimp only [tNil]
      refine min_plans hxs hds2 (by simpa using topsL_ne (T := Tt) hk hfl) fun x hx => ?_
      rw [← plan_tops hk hfl] at hx
      obtain ⟨dx4, ta4, dn4, ho4, hta4⟩ := id S4.has
      obtain ⟨kp4, hkp4, mp4⟩ := id S4.ps
      have hk4 := c4.tups _ _ (c3.tups _ _ ((Chg.new (M := []) (o := .lst []) hfo).tups _ _ hkey))
      obtain ⟨S5, hz⟩ := S4.putP hkp4 (v := x) e2 hfl hln e1 (by rw [(own_cap hk hfl).2]; exact hx)
      have cP : Chg [dp] H4 (upd H4 dp (.dT (putK kp4 (key3 (min k (l + 1 - f)) f l) x))) := Chg.refl.dct hkp4 (by simp)
      refine ⟨_, rfl, s, C, dx4, _, _, rfl, ho4, T.cl, T.nP, svF_plans _ _ _ _ _, _, rfl, dp, _, rfl, DPut.t hkp4 hk4 hz, ?_⟩
      refine fin _ ?_ S5 ⟨_, x, upd_same, ?_, hx.chg cP⟩ _ _ _ _
      · have c5 : Chg [fo, dc, dp] H1 H4 := ((Chg.new hfo).trans (c3.mono fun b hb => List.mem_cons_of_mem _ hb)).trans c4
        exact (c5.drop hfo).trans (cP.mono (by simp))
      · rw [L2.valV_put, if_pos rfl]
end
end K58
end
section
set_option Elab.async false
set_option linter.all false
set_option maxRecDepth 100000
set_option maxHeartbeats 4000000
/-! ### the solver by induction; least, least_plan -/
namespace K58
open PySem PySem.Spec PyProof.Rows L2
abbrev sBestPair : Stmt := top 24
abbrev sLeastCost : Stmt := top 25
abbrev sLeast : Stmt := top 26
abbrev sLeastPlan : Stmt := top 27
/-- a method as the top leaves it -/
structure MF (K : PySem.W.Frag) (C : Addr) (m qual : Str) (st : Stmt) (ps : List Str) : Prop where
  has : ∃ f fd, Fun K m qual st f fd ∧ Meth K C m f ∧ Binds K fd ps []
/-- a def as the top leaves it -/
structure FF (K : PySem.W.Frag) (mg : Str → Option Value) (x : Str) (st : Stmt) (ps : List Str) : Prop where
  has : ∃ f fd, Fun K x x st f fd ∧ mg x = some (.ref f) ∧ Binds K fd ps []
/-- a class's __init__ -/
structure IF (K : PySem.W.Frag) (mg : Str → Option Value) (x : Str) (C : Addr) (qual : Str) (st : Stmt) (ps : List Str) : Prop where
  has : ∃ f fd, Fun K "__init__" qual st f fd ∧ Mk K C f ∧ mg x = some (.ref C) ∧ Binds K fd ps []
section
variable {P : Program} {w : World} {K : PySem.W.Frag} {mg : Str → Option Value} {base : Heap} {C CT fm : Addr} {k0 d : Nat} {m qual x : Str} {st : Stmt} {ps : List Str} {sp : Sp}
theorem MF.mt (h : MF K C m qual st ps) (c : Cls K C) (ok : ∀ f fd, Fun K m qual st f fd → FnOk P w K mg base CX0 k0 f fd ps sp) : Mt P w K mg base k0 C m sp := by
  obtain ⟨f, fd, F, M, b⟩ := h.has
  exact ⟨f, fd, ps, c, M, ok f fd F, b⟩
theorem FF.fd (h : FF K mg x st ps) (ok : ∀ f fd, Fun K x x st f fd → FnOk P w K mg base CX0 k0 f fd ps sp) : Fd P w K mg base k0 x sp := by
  obtain ⟨f, fd, F, M, b⟩ := h.has
  exact ⟨f, fd, ps, ok f fd F, M, F.kp, b⟩
theorem IF.mc (h : IF K mg x C qual st ps) (ok : ∀ f fd, Fun K "__init__" qual st f fd → FnOk P w K mg base CX0 k0 f fd ps sp) : Mc P w K mg base k0 x C sp := by
  obtain ⟨f, fd, F, M, g, b⟩ := h.has
  exact ⟨f, fd, ps, M, ok f fd F, g, b⟩
/-- where nothing can be asked -/
theorem fn_none {f : Addr} {fd : FuncData} (no : ∀ vs H Q E, ¬ sp vs H Q E) : FnOk P w K mg base CX0 k0 f fd ps sp :=
  ⟨fun vs H Q E h => absurd h (no vs H Q E), fun A outer s H args us vs Q E _ _ _ _ h => absurd h (no vs H Q E)⟩
/-- the solver's methods as the top leaves them -/
structure SFun (K : PySem.W.Frag) (C : Addr) : Prop where
  capped : MF K C "capped" "Solver.capped" sCapped ["self", "most", "first", "last"]
  ahead : MF K C "ahead_cost" "Solver.ahead_cost" sAhead ["self", "most", "first", "top"]
  behind : MF K C "behind_cost" "Solver.behind_cost" sBehind ["self", "most", "top", "last"]
  top : MF K C "top_cost" "Solver.top_cost" sTop ["self", "most", "first", "last", "top"]
  own : MF K C "own_cost" "Solver.own_cost" sOwn ["self", "most", "first", "last"]
  span : MF K C "span_cost" "Solver.span_cost" sSpan ["self", "most", "first", "last"]
  tops : MF K C "tops" "Solver.tops" sTops ["self", "most", "first", "last"]
  plan : MF K C "span_plan" "Solver.span_plan" sPlan ["self", "most", "first", "last"]
section
variable (B : Bt mg) (T : STxt K mg C fm) (S : SFun K C) (cM : Fa P w K mg base 1 fm spMay) (cW : Fd P w K mg base 1 "write_of" (spWriteOf CT)) (cL : Fd P w K mg base 1 "look_sum" (spLookSum CT))
include B T S cM cW cL
theorem all_own : ∀ d : Nat, Mt P w K mg base (4 * d + 1) C "own_cost" (spOwn C CT fm d)
  | 0 => S.own.mt T.cl fun f fd F => fn_none fun vs H Q E h => by
    obtain ⟨s, dc, dp, T, n, k, f, l, rfl, _, _, h1, _, h2, _⟩ := h
    omega
  | d + 1 => by
    have cO := all_own d
    have cA : Mt P w K mg base (4 * d + 3) C "ahead_cost" (spAhead C CT fm d) := (S.ahead.mt T.cl fun f fd F => ok_ahead F T cM cW (by omega) cO).mono (by omega)
    have cS : Mt P w K mg base (4 * d + 2) C "span_cost" (spSpan C CT fm d) := S.span.mt T.cl fun f fd F => ok_span F T cL (by omega) cO
    have cB : Mt P w K mg base (4 * d + 3) C "behind_cost" (spBehind C CT fm d) := S.behind.mt T.cl fun f fd F => ok_behind F T cS
    have cT : Mt P w K mg base (4 * d + 4) C "top_cost" (spTop C CT fm d) := S.top.mt T.cl fun f fd F => ok_top F T cA cB
    have cC : Mt P w K mg base 1 C "capped" (spCapped C) := S.capped.mt T.cl fun f fd F => ok_capped F B
    exact (S.own.mt T.cl fun f fd F => ok_own F B T (by omega) cC cT).mono (by omega)
theorem all_span (d : Nat) : Mt P w K mg base (4 * d + 2) C "span_cost" (spSpan C CT fm d) := S.span.mt T.cl fun f fd F => ok_span F T cL (by omega) (all_own B T S cM cW cL d)
theorem all_top (d : Nat) : Mt P w K mg base (4 * d + 4) C "top_cost" (spTop C CT fm d) := by
  have cO := all_own B T S cM cW cL d
  have cA : Mt P w K mg base (4 * d + 3) C "ahead_cost" (spAhead C CT fm d) := (S.ahead.mt T.cl fun f fd F => ok_ahead F T cM cW (by omega) cO).mono (by omega)
  have cB : Mt P w K mg base (4 * d + 3) C "behind_cost" (spBehind C CT fm d) := S.behind.mt T.cl fun f fd F => ok_behind F T (all_span B T S cM cW cL d)
  exact S.top.mt T.cl fun f fd F => ok_top F T cA cB
theorem all_tops (d : Nat) : Mt P w K mg base (4 * d + 6) C "tops" (spTops C CT fm d) :=
  S.tops.mt T.cl fun f fd F => ok_tops F B T ((all_own B T S cM cW cL (d + 1)).mono (by omega)) ((all_top B T S cM cW cL d).mono (by omega))
theorem all_plan : ∀ d : Nat, Mt P w K mg base (4 * d + 3) C "span_plan" (spPlan C CT fm d)
  | 0 => S.plan.mt T.cl fun f fd F => fn_none fun vs H Q E h => by
    obtain ⟨s, dc, dp, T, n, k, f, l, rfl, _, _, h1, _, h2, _⟩ := h
    omega
  | d + 1 => by
    have cC : Mt P w K mg base 1 C "capped" (spCapped C) := S.capped.mt T.cl fun f fd F => ok_capped F B
    exact (S.plan.mt T.cl fun f fd F => ok_plan F B T (k0 := 4 * d + 6) (by omega) cC (all_tops B T S cM cW cL d) ((all_plan d).mono (by omega))).mono (by omega)
end
/-- nothing that stood is changed -/
theorem Chg.of_same {H H1 : Hp} {M : List Addr} (h : ∀ b o, H b = some o → H1 b = some o) : Chg M H H1 := ⟨fun b o q _ => h b o q, fun b xs q => h b _ q, fun b C dx fs q => h b _ q⟩
def spLeastCost (CT : Addr) : Sp := fun vs H Q _ => ∃ (t : Addr) (T : Tk) (n k : Nat), vs = [.ref t, .int (k : Nat)] ∧ TaskAt CT H t T n ∧ 1 ≤ k ∧ k ≤ 30 ∧ 1 ≤ n ∧ n ≤ 8 ∧
  ∀ H', Chg [] H H' → Q (.int (own T k 0 (n - 1) + lk T 0 0 n)) H'
def spLeastPlan (CT : Addr) : Sp := fun vs H Q _ => ∃ (t : Addr) (T : Tk) (n k : Nat), vs = [.ref t, .int (k : Nat)] ∧ TaskAt CT H t T n ∧ 1 ≤ k ∧ k ≤ 30 ∧ 1 ≤ n ∧ n ≤ 8 ∧
  ∀ v H', Chg [] H H' → TD H' v (pD (plan T k 0 (n - 1))) → Q v H'
def spBestPair (CT fm : Addr) : Sp := fun vs H Q _ => ∃ (t : Addr) (T : Tk) (n k : Nat), vs = [.ref t, .int (k : Nat), .ref fm] ∧ TaskAt CT H t T n ∧ 1 ≤ k ∧ k ≤ 30 ∧ 1 ≤ n ∧ n ≤ 8 ∧
  ∀ v H', Chg [] H H' → TD H' v (cD (own T k 0 (n - 1) + lk T 0 0 n, plan T k 0 (n - 1))) → Q v H'
/-- a new instance -/
theorem Chg.made {H : Hp} {M : List Addr} {x dx : Addr} (hx : H x = none) (hdx : H dx = none) : Chg M H (upd (upd H dx (.own x)) x (.ins C dx [])) := (Chg.new hdx).put hx
theorem TaskAt.ne {H : Hp} {t x : Addr} {T : Tk} {n : Nat} (ht : TaskAt CT H t T n) (hx : H x = none) : t ≠ x := by
  obtain ⟨dt, wv, lv, e1, _⟩ := ht.has
  exact ne_of_none e1 hx
theorem made_post {H H' : Hp} {x dx : Addr} (hx : H x = none) (hdx : H dx = none) (keep : ∀ b o, upd (upd H dx (.own x)) x (.ins C dx []) b = some o → b ≠ x → H' b = some o) :
    Chg [] H H' ∧ ∀ b, upd (upd H dx (.own x)) x (.ins C dx []) b = none → H b = none := by
  have c : Chg [] H (upd (upd H dx (.own x)) x (.ins C dx [])) := Chg.made hx hdx
  refine ⟨.of_same fun b o hb => keep b o (c.at hb) (ne_of_none hb hx), fun b hb => ?_⟩
  cases e : H b with
  | none => rfl
  | some o => rw [c.at e] at hb; cases hb
theorem Chg.drop2 {H H1 : Hp} {a b : Addr} (c : Chg [a, b] H H1) (ha : H a = none) (hb : H b = none) : Chg [] H H1 := (c.drop ha).drop hb
theorem scBestPair : FnScope ["task", "most", "may", "solver", "last", "found"] ["task", "most", "may"] (defScope sBestPair) := ⟨rfl, rfl, rfl, by decide +kernel, rfl, by decide +kernel, by decide +kernel⟩
theorem ok_bestPair {f : Addr} {fd : FuncData} (F : Fun K "best_pair" "best_pair" sBestPair f fd) (h0 : 2 ≤ k0) (cI : Mc P w K mg base 1 "Solver" C (spSolvI C CT fm)) (cN : Fd P w K mg base 1 "length_of" (spLenOf CT))
    (cS : Mt P w K mg base k0 C "span_cost" (spSpan C CT fm 8)) (cP : Mt P w K mg base k0 C "span_plan" (spPlan C CT fm 8)) : FnOk P w K mg base CX0 (k0 + 1) f fd ["task", "most", "may"] (spBestPair CT fm) := by
  refine F.ok scBestPair (fun vs H Q E h => ?_) (fun cdv A outer s H vs Q E hr h => ?_)
  · obtain ⟨t, T, n, k, rfl, _⟩ := h
    rfl
  obtain ⟨t, Tt, n, k, rfl, ht, hk, hk30, hn, hn8, q⟩ := h
  refine ⟨_, pss_cons (ps_set (i := 3) scBestPair.nd rfl (Or.inl rfl) (pe_k cI hr h0 rfl (pa_cons (pv 0) (pa_cons (pv 2) pa_nil))))
    (pss_cons (ps_set (i := 4) scBestPair.nd rfl (Or.inl rfl) (pe_op op_sub (pe_f cN hr (by omega) rfl (pa_cons (pv 0) pa_nil)) pe_int))
    (pss_cons (ps_set (i := 5) scBestPair.nd rfl (Or.inl rfl) (pe_m cS hr (Nat.le_refl _) (pv 3) (pa_cons (pv 1) (pa_cons pe_int (pa_cons (pv 4) pa_nil)))))
    (pss_one (ps_ret (pe_ifExp (pt_cmpR op_isN (pv 5) pe_non (nomark _)) pe_non (pe_tup (pa_cons (pv 5) (pa_cons (pe_m cP hr (Nat.le_refl _) (pv 3) (pa_cons (pv 1) (pa_cons pe_int (pa_cons (pv 4) pa_nil)))) pa_nil)))))))), ?_⟩
  refine ⟨_, rfl, _, rfl, fun so dso hso hdso hne => ⟨so, dso, t, Tt, n, rfl, upd_same, ht.chg (M := []) (Chg.made hso hdso), ht.ne hso, by omega, fun dc dp H1 keep h1 h2 S1 => ⟨rfl, ?_⟩⟩⟩
  obtain ⟨c1, fr⟩ := made_post hso hdso keep
  have hdc := fr _ h1
  have hdp := fr _ h2
  refine ⟨_, rfl, t, Tt, n, rfl, ht.chg c1, _, _, rfl, rfl, ?_⟩
  have en : (n : Int) - 1 = ((n - 1 : Nat) : Int) := by omega
  obtain ⟨dx1, ta1, dn1, ho1, hta1⟩ := id S1.has
  refine ⟨_, rfl, so, dx1, _, rfl, ho1, svF_no _ _ _ _ _ (by decide +kernel) (by decide +kernel) (by decide +kernel) (by decide +kernel) (by decide +kernel), _, rfl, _, rfl, so, dc, dp, Tt, n, k, 0, n - 1, by rw [← en]; rfl, S1, hk, by omega, by omega, by omega, fun H2 c2 S2 => ?_⟩
  rw [show n - 1 + 1 = n by omega]
  obtain ⟨dx2, ta2, dn2, ho2, hta2⟩ := id S2.has
  refine ⟨_, rfl, rfl, _, rfl, ?_⟩
  refine iteF ?_
  refine ⟨_, rfl, _, rfl, so, dx2, _, rfl, ho2, svF_no _ _ _ _ _ (by decide +kernel) (by decide +kernel) (by decide +kernel) (by decide +kernel) (by decide +kernel), _, rfl, _, rfl, so, dc, dp, Tt, n, k, 0, n - 1, by rw [← en]; rfl, S2, hk, by omega, by omega, by omega, fun vp H3 c3 S3 hvp => ?_⟩
  refine ⟨by show 2 ≤ sizeLine; decide, fun p hp => ?_⟩
  have c4 : Chg [] H3 (upd H3 p (.tup [.int (own Tt k 0 (n - 1) + lk Tt 0 0 n), vp])) := Chg.new hp
  refine q _ _ (((c1.pure.trans (c2.trans c3)).trans c4.pure).drop2 hdc hdp) ?_
  exact .tup upd_same (.cons (.int _) (.cons (hvp.chg c4) .nil))
theorem scLeastCost : FnScope ["task", "most"] ["task", "most"] (defScope sLeastCost) := ⟨rfl, rfl, rfl, by decide +kernel, rfl, by decide +kernel, by decide +kernel⟩
theorem ok_leastCost {f : Addr} {fd : FuncData} (F : Fun K "least_cost" "least_cost" sLeastCost f fd) (T : STxt K mg C fm) (h0 : 2 ≤ k0) (cI : Mc P w K mg base 1 "Solver" C (spSolvI C CT fm)) (cN : Fd P w K mg base 1 "length_of" (spLenOf CT))
    (cS : Mt P w K mg base k0 C "span_cost" (spSpan C CT fm 8)) : FnOk P w K mg base CX0 (k0 + 1) f fd ["task", "most"] (spLeastCost CT) := by
  refine F.ok scLeastCost (fun vs H Q E h => ?_) (fun cdv A outer s H vs Q E hr h => ?_)
  · obtain ⟨t, T, n, k, rfl, _⟩ := h
    rfl
  obtain ⟨t, Tt, n, k, rfl, ht, hk, hk30, hn, hn8, q⟩ := h
  refine ⟨_, pss_one (ps_ret (pe_m cS hr (Nat.le_refl _) (pe_k cI hr h0 rfl (pa_cons (pv 0) (pa_cons (pe_glob (v := .ref fm) (by rfl) T.mgM rfl) pa_nil))) (pa_cons (pv 1) (pa_cons pe_int (pa_cons (pe_op op_sub (pe_f cN hr (by omega) rfl (pa_cons (pv 0) pa_nil)) pe_int) pa_nil))))), ?_⟩
  refine ⟨_, rfl, fun so dso hso hdso hne => ⟨so, dso, t, Tt, n, rfl, upd_same, ht.chg (M := []) (Chg.made hso hdso), ht.ne hso, by omega, fun dc dp H1 keep h1 h2 S1 => ⟨rfl, ?_⟩⟩⟩
  obtain ⟨c1, fr⟩ := made_post hso hdso keep
  have hdc := fr _ h1
  have hdp := fr _ h2
  obtain ⟨dx1, ta1, dn1, ho1, hta1⟩ := id S1.has
  have en : (n : Int) - 1 = ((n - 1 : Nat) : Int) := by omega
  refine ⟨so, dx1, _, rfl, ho1, svF_no _ _ _ _ _ (by decide +kernel) (by decide +kernel) (by decide +kernel) (by decide +kernel) (by decide +kernel), _, rfl, _, rfl, t, Tt, n, rfl, ht.chg c1, _, _, rfl, rfl, so, dc, dp, Tt, n, k, 0, n - 1, by rw [← en]; rfl, S1, hk, by omega, by omega, by omega, fun H2 c2 S2 => ?_⟩
  rw [show n - 1 + 1 = n by omega]
  exact q _ ((c1.pure.trans c2).drop2 hdc hdp)
theorem scLeast : FnScope ["task", "most"] ["task", "most"] (defScope sLeast) := ⟨rfl, rfl, rfl, by decide +kernel, rfl, by decide +kernel, by decide +kernel⟩
theorem ok_least {f : Addr} {fd : FuncData} (F : Fun K "least" "least" sLeast f fd) (h0 : 4 ≤ k0) (cC : Fd P w K mg base 4 "check_most" spChkMost) (cL : Fd P w K mg base k0 "least_cost" (spLeastCost CT)) : FnOk P w K mg base CX0 (k0 + 1) f fd ["task", "most"] (spLeastCost CT) := by
  refine F.ok scLeast (fun vs H Q E h => ?_) (fun cdv A outer s H vs Q E hr h => ?_)
  · obtain ⟨t, T, n, k, rfl, _⟩ := h
    rfl
  obtain ⟨t, Tt, n, k, rfl, ht, hk, hk30, hn, hn8, q⟩ := h
  refine ⟨_, pss_cons (ps_expr (pe_f cC hr h0 rfl (pa_cons (pv 1) pa_nil))) (pss_one (ps_ret (pe_f cL hr (Nat.le_refl _) rfl (pa_cons (pv 0) (pa_cons (pv 1) pa_nil))))), ?_⟩
  exact ⟨_, rfl, k, rfl, hk, hk30, _, rfl, _, rfl, t, Tt, n, k, rfl, ht, hk, hk30, hn, hn8, q⟩
theorem scLeastPlan : FnScope ["task", "most"] ["task", "most"] (defScope sLeastPlan) := ⟨rfl, rfl, rfl, by decide +kernel, rfl, by decide +kernel, by decide +kernel⟩
theorem ok_leastPlan {f : Addr} {fd : FuncData} (F : Fun K "least_plan" "least_plan" sLeastPlan f fd) (T : STxt K mg C fm) (h0 : 4 ≤ k0) (cC : Fd P w K mg base 4 "check_most" spChkMost) (cL : Fd P w K mg base k0 "best_pair" (spBestPair CT fm)) : FnOk P w K mg base CX0 (k0 + 1) f fd ["task", "most"] (spLeastPlan CT) := by
  refine F.ok scLeastPlan (fun vs H Q E h => ?_) (fun cdv A outer s H vs Q E hr h => ?_)
  · obtain ⟨t, T, n, k, rfl, _⟩ := h
    rfl
  obtain ⟨t, Tt, n, k, rfl, ht, hk, hk30, hn, hn8, q⟩ := h
  refine ⟨_, pss_cons (ps_expr (pe_f cC hr h0 rfl (pa_cons (pv 1) pa_nil))) (pss_one (ps_ret (pe_ix ix_tup (pe_f cL hr (Nat.le_refl _) rfl (pa_cons (pv 0) (pa_cons (pv 1) (pa_cons (pe_glob (v := .ref fm) (by rfl) T.mgM rfl) pa_nil)))) pe_int (fun _ _ => rfl)))), ?_⟩
  refine ⟨_, rfl, k, rfl, hk, hk30, _, rfl, _, rfl, t, Tt, n, k, rfl, ht, hk, hk30, hn, hn8, fun v H1 c1 hv => ?_⟩
  obtain ⟨a, xs, rfl, hh, hx⟩ := hv.tup_inv
  obtain ⟨vp, hvp, hd⟩ := hx.get (i := 1) (d := pD (plan Tt k 0 (n - 1))) rfl
  exact ⟨a, xs, _, _, rfl, rfl, SqT.of hh, atI_nat (j := 1) hvp, q _ H1 c1 hd⟩
end
end K58
end
section
set_option Elab.async false
set_option linter.all false
set_option maxRecDepth 100000
set_option maxHeartbeats 4000000
/-! ### plans and what stands behind them -/
namespace K58
open PySem PySem.Spec PyProof.Rows L2
abbrev sPlanOf : Stmt := top 30
abbrev sNext : Stmt := top 31
abbrev sAnyPlan : Stmt := top 32
abbrev sBehindL : Stmt := top 33
abbrev sBetween : Stmt := top 35
abbrev sChkBegun : Stmt := top 37
/-- the begins that stand when a run that begins with b is written -/
def stk (bs : List Nat) (b : Nat) : List Nat := (bs.filter fun o => decide (o < b)) ++ [b]
def stkOf (p : List Nat) : List Nat := p.foldl stk []
theorem stkOf_snoc (p : List Nat) (b : Nat) : stkOf (p ++ [b]) = stk (stkOf p) b := by
  unfold stkOf
  rw [List.foldl_append]
  rfl
theorem stkOf_succ {p : List Nat} {i b : Nat} (h : p[i]? = some b) : stkOf (p.take (i + 1)) = stk (stkOf (p.take i)) b := by
  rw [List.take_succ, h, Option.toList_some, stkOf_snoc]
theorem stk_len (bs : List Nat) (b : Nat) : (stk bs b).length ≤ bs.length + 1 := by
  unfold stk
  rw [List.length_append, List.length_singleton]
  have := List.length_filter_le (fun o => decide (o < b)) bs
  omega
theorem stkOf_len (p : List Nat) : (stkOf p).length ≤ p.length := by
  have h : ∀ (p bs : List Nat), (p.foldl stk bs).length ≤ bs.length + p.length := by
    intro p
    induction p with
    | nil => intro bs; exact Nat.le_refl _
    | cons b p ih =>
      intro bs
      have h1 := ih (stk bs b)
      have h2 := stk_len bs b
      rw [List.foldl_cons, List.length_cons]
      omega
  have := h p []
  rw [List.length_nil, Nat.zero_add] at this
  exact this
/-- a plan -/
def ValidP (p : List Nat) : Prop := ∀ i b, p[i]? = some b → b ≤ i ∧ (b = i ∨ b ∈ stkOf (p.take i))
theorem TD.pD_inv {H : Hp} {v : V} {p : List Nat} (h : TD H v (pD p)) : ∃ a, v = .ref a ∧ H a = some (.tup ((nI p).map V.int)) := TD.ints_inv (show TD H v (iD (nI p)) from h)
theorem TD.plan {H : Hp} {a : Addr} {p : List Nat} (h : H a = some (.tup ((nI p).map V.int))) : TD H (.ref a) (pD p) := TD.ints h
theorem nV_len (p : List Nat) : ((nI p).map V.int).length = p.length := by
  unfold nI
  rw [List.length_map, List.length_map]
theorem nV_get {p : List Nat} {i : Nat} {x : V} (h : ((nI p).map V.int)[i]? = some x) : ∃ b, p[i]? = some b ∧ x = .int (b : Nat) := by
  unfold nI at h
  rw [List.map_map, List.getElem?_map] at h
  obtain ⟨b, h1, h2⟩ := Option.map_eq_some_iff.mp h
  exact ⟨b, h1, h2.symm⟩
theorem nV_at {p : List Nat} {i b : Nat} (h : p[i]? = some b) : ((nI p).map V.int)[i]? = some (.int (b : Nat)) := by
  unfold nI
  rw [List.map_map, List.getElem?_map, h]
  rfl
theorem nV_app (p q : List Nat) : (nI (p ++ q)).map V.int = (nI p).map V.int ++ (nI q).map V.int := by
  rw [nI_app, List.map_append]
theorem nV_flat (p : List Nat) : ((nI p).map V.int).all flatV = true := by
  rw [List.all_eq_true]
  intro x hx
  obtain ⟨n, _, rfl⟩ := List.mem_map.mp hx
  rfl
theorem nV_in {p : List Nat} {b : Nat} (h : b ∈ p) : inV (.int (b : Nat)) ((nI p).map V.int) = true := by
  unfold inV
  rw [List.any_eq_true]
  refine ⟨.int (b : Nat), List.mem_map.mpr ⟨(b : Int), List.mem_map.mpr ⟨b, h, rfl⟩, rfl⟩, ?_⟩
  simp [eqV]
/-- tuple + tuple of plans, by values -/
def spNext : Sp := fun vs H Q _ => ∃ (v : V) (bs : List Nat) (b : Nat), vs = [v, .int (b : Nat)] ∧ TD H v (pD bs) ∧ bs.length ≤ 100 ∧ ∀ v' H', Chg [] H H' → TD H' v' (pD (stk bs b)) → Q v' H'
def spPlanOf : Sp := fun vs H Q _ => ∃ (v : V) (p : List Nat), vs = [.int (p.length : Nat), v] ∧ TD H v (pD p) ∧ p.length ≤ 100 ∧ ValidP p ∧ ∀ H', Chg [] H H' → Q (.bl true) H'
def spAnyPlan : Sp := fun vs H Q _ => ∃ (v : V) (p : List Nat), vs = [v] ∧ TD H v (pD p) ∧ 1 ≤ p.length ∧ p.length ≤ 40 ∧ ValidP p ∧ ∀ H', Chg [] H H' → Q (.bl true) H'
def spBehindL : Sp := fun vs H Q _ => ∃ (v : V) (p : List Nat), vs = [v] ∧ TD H v (pD p) ∧ p.length ≤ 100 ∧
  ∀ L H' xs, Chg [] H H' → H' L = some (.lst xs) → TDs H' xs ((List.range p.length).map fun i => pD (stkOf (p.take (i + 1)))) → Q (.ref L) H'
def spChkBegun (CT : Addr) : Sp := fun vs H Q _ => ∃ (t : Addr) (T : Tk) (n : Nat) (v : V) (p : List Nat), vs = [.ref t, v] ∧ TaskAt CT H t T n ∧ TD H v (pD p) ∧ 1 ≤ p.length ∧ p.length < n ∧ n ≤ 40 ∧ ValidP p ∧ ∀ H', Chg [] H H' → Q .non H'
def OptC (H : Hp) (o : Option PP) (v : V) : Prop := (o = none ∧ v = .non) ∨ ∃ x, o = some x ∧ TD H v (cD x)
def spBetween (C CT fm : Addr) : Sp := fun vs H Q _ => ∃ (s dc dp : Addr) (T : Tk) (n f h : Nat) (m l : Int), vs = [.ref s, .int m, .int (f : Nat), .int l] ∧ l = (h : Int) - 1 ∧ SolvAt C CT fm H s dc dp T n ∧ f ≤ h ∧ h ≤ n ∧ n ≤ 8 ∧
  ∀ v H', Chg [dc, dp] H H' → SolvAt C CT fm H' s dc dp T n → OptC H' (btw T m.toNat f h) v → Q v H'
section
variable {P : Program} {w : World} {K : PySem.W.Frag} {mg : Str → Option Value} {base : Heap} {C CT fm : Addr} {k0 : Nat}
theorem scNext : FnScope ["begins", "begin", "one"] ["begins", "begin"] (defScope sNext) := ⟨rfl, rfl, rfl, by decide +kernel, rfl, by decide +kernel, by decide +kernel⟩
theorem ok_next {f : Addr} {fd : FuncData} (F : Fun K "begins_next" "begins_next" sNext f fd) (B : Bt mg) : FnOk P w K mg base CX0 1 f fd ["begins", "begin"] spNext := by
  refine F.ok scNext (fun vs H Q E h => ?_) (fun cdv A outer s H vs Q E hr h => ?_)
  · obtain ⟨v, bs, b, rfl, _⟩ := h
    rfl
  obtain ⟨v, bs, b, rfl, hv, hz, q⟩ := h
  obtain ⟨a, rfl, ha⟩ := hv.pD_inv
  refine ⟨_, pss_one (ps_ret (pe_op op_catA (pe_tupleOf (by rfl) B.tup (pe_lc (own := [("one", 2)]) (g := gName 2) rfl scNext.nd (pi_tup (pv 0))
      (blkOk_by (N := ["begins", "begin", "one"]) (sc := defScope sNext) (by decide +kernel)) (fun _ _ _ _ _ => pg_name (i := 2) scNext.nd rfl (Or.inl rfl)) (fun _ _ _ _ _ => pts_one (pt_cmpR op_lt (pv 2) (pv 1) (nomark _))) (fun _ _ _ _ _ => pv 2)))
    (pe_tup (pa_cons (pv 1) pa_nil)))), ?_⟩
  refine ⟨_, rfl, a, rfl, ⟨_, SqT.of ha⟩, fun D hD => lc_tup (K := K) (a := a) (xs := (nI bs).map V.int) (fun i H' => Chg [] H H' ∧ H' D = some (.lst ((nI ((bs.take i).filter fun o => decide (o < b))).map V.int)))
    ⟨Chg.new hD, upd_same⟩ (fun i H' _ p => SqT.of (p.1.at ha)) ?_ ?_⟩
  · intro i x H' hx ⟨c, hl⟩
    obtain ⟨o, ho, rfl⟩ := nV_get hx
    have hi : i < bs.length := (List.getElem?_eq_some_iff.mp ho).1
    refine ⟨rfl, _, rfl, _, rfl, _, _, rfl, rfl, decide (o < b), ?_, ?_⟩
    · by_cases h : o < b
      · exact congrArg V.bl ((decide_eq_true (by omega)).trans (decide_eq_true h).symm)
      · exact congrArg V.bl ((decide_eq_false (by omega)).trans (decide_eq_false h).symm)
    have e : (bs.take (i + 1)).filter (fun o => decide (o < b)) = (bs.take i).filter (fun o => decide (o < b)) ++ (if o < b then [o] else []) := by
      rw [List.take_succ, ho, Option.toList_some, List.filter_append]
      by_cases h : o < b <;> simp [h]
    by_cases h : o < b
    · rw [decide_eq_true h]
      refine ⟨_, rfl, _, hl, ?_, c.put hD, ?_⟩
      · rw [nV_len]
        refine small1000 (Nat.le_trans (List.length_filter_le _ _) ?_)
        rw [List.length_take]
        omega
      · rw [upd_same, e, if_pos h, nV_app]
        rfl
    · rw [decide_eq_false h]
      refine ⟨c, ?_⟩
      rw [e, if_neg h, List.append_nil]
      exact hl
  · intro H1 ⟨c, hl⟩
    rw [nV_len, List.take_length] at hl
    refine .inl ⟨D, _, rfl, SqL.of hl, fun r hr' => ?_⟩
    refine ⟨_, rfl, by show 1 ≤ sizeLine; decide, fun r2 hr2 => ?_⟩
    have c2 : Chg [] H1 (upd H1 r (.tup ((nI (bs.filter fun o => decide (o < b))).map V.int))) := Chg.new hr'
    have c3 := c2.and_new (o := .tup [.int (b : Nat)]) hr2
    have hlen := List.length_filter_le (fun o => decide (o < b)) bs
    refine cat_plans (p := bs.filter fun o => decide (o < b)) (q := [b]) ((TD.plan upd_same).chg (Chg.new (M := []) hr2)) (.tup upd_same (.cons (.int _) .nil)) (by rw [List.length_singleton]; omega) fun v' H' c' hv' => ?_
    exact q v' H' (c.trans (c3.trans c')) hv'
theorem scPlanOf : FnScope ["hours", "thing", "begins", "hour", "begin"] ["hours", "thing"] (defScope sPlanOf) := ⟨rfl, rfl, rfl, by decide +kernel, rfl, by decide +kernel, by decide +kernel⟩
theorem ok_planOf {f : Addr} {fd : FuncData} (F : Fun K "is_plan_of" "is_plan_of" sPlanOf f fd) (B : Bt mg) (cW : Fd P w K mg base 2 "is_within" spWithin) (cN : Fd P w K mg base 1 "begins_next" spNext) : FnOk P w K mg base CX0 3 f fd ["hours", "thing"] spPlanOf := by
  refine F.ok scPlanOf (fun vs H Q E h => ?_) (fun cdv A outer s H vs Q E hr h => ?_)
  · obtain ⟨v, p, rfl, _⟩ := h
    rfl
  obtain ⟨v, p, rfl, hv, hz, hval, q⟩ := h
  obtain ⟨a, rfl, ha⟩ := hv.pD_inv
  refine ⟨_, pss_cons (ps_if (PW.pt (pw_or (pt_not (pt_val (pe_callB call_isi (by rfl) B.isi (by decide +kernel) (pa_cons (pv 1) (pa_cons (pe_bltn (v := .ty "tuple") (by rfl) B.tup (by decide +kernel) rfl) pa_nil)))))
      (pw_or1 (pt_cmpR op_ne (pe_callB call_len_seq (by rfl) B.len PySem.boot_len (pa_cons (pv 1) pa_nil)) (pv 0) (nomark _))))) (pss_one (ps_ret pe_bl)) pss_nil)
    (pss_cons (ps_set (i := 2) scPlanOf.nd rfl (Or.inl rfl) (pe_tup pa_nil))
    (pss_cons (ps_for PassesOwn.never rfl (pi_enumT (by rfl) B.enm (pa_cons (pv 1) pa_nil))
      (pg_tup rfl (pgs_cons (pg_name (i := 3) scPlanOf.nd rfl (.inl rfl)) (pgs_cons (pg_name (i := 4) scPlanOf.nd rfl (.inl rfl)) pgs_nil)))
      (pss_cons (ps_if (PW.pt (pw_or (pt_not (pt_val (pe_f cW hr (by decide) rfl (pa_cons (pv 4) (pa_cons pe_int (pa_cons (pv 3) pa_nil))))))
          (pw_or1 (PW.pt (pw_and (pt_cmpR op_ne (pv 4) (pv 3) (nomark _)) (pw_and1 (pt_cmpR op_notIn_seq (pv 4) (pv 2) (by rfl)))))))) (pss_one (ps_ret pe_bl)) pss_nil)
      (pss_one (ps_set (i := 2) scPlanOf.nd rfl (Or.inl rfl) (pe_f cN hr (by decide) rfl (pa_cons (pv 2) (pa_cons (pv 4) pa_nil)))))))
    (pss_one (ps_ret pe_bl)))), ?_⟩
  refine ⟨_, rfl, _, _, _, _, true, rfl, .ty _, .base (.tup ha), kit_ty (by decide +kernel), true, rfl, ?_⟩
  refine iteF ?_
  refine ⟨_, rfl, a, _, rfl, .inr (SqT.of ha), _, rfl, rfl, _, rfl, ?_⟩
  rw [nV_len]
  refine iteNS rfl ?_
  refine ⟨by show 0 ≤ sizeLine; decide, fun e0 he0 => ?_⟩
  have c0 : Chg [] H (upd H e0 (.tup [])) := Chg.new he0
  refine ⟨_, rfl, a, _, rfl, SqT.of (c0.at ha), for_it walk_enumT (fun i σ H' => ∃ vb u1 u2, σ = [some (.int (p.length : Nat)), some (.ref a), some vb, u1, u2] ∧ Chg [] H H' ∧ TD H' vb (pD (stkOf (p.take i))))
    ⟨_, _, _, rfl, c0, .tup upd_same .nil⟩ (fun i σ H' _ ⟨_, _, _, _, c, _⟩ => SqT.of (c.at ha)) ?_ ?_⟩
  · intro i v σ H1 H2 hi ⟨vb, u1, u2, es, c, hvb⟩ ⟨T, x, y, ev, hT, eH, ex, ey⟩
    subst es ev eH
    cases ex
    obtain ⟨b, hb, rfl⟩ := nV_get ey
    rw [nV_len] at hi
    obtain ⟨h1, h2⟩ := hval i b hb
    have cT : Chg [] H1 (upd H1 T (.tup [.int (i : Nat), .int (b : Nat)])) := Chg.new hT
    refine ⟨T, _, rfl, SqT.of upd_same, rfl, _, _, rfl, _, _, rfl, rfl, ?_⟩
    refine ⟨_, rfl, _, rfl, b, 0, i, rfl, true, ?_, ?_⟩
    · rw [decide_eq_true (by omega), decide_eq_true (by omega)]
      rfl
    refine iteF ?_
    have hstk : (stkOf (p.take i)).length ≤ 100 := by
      have := stkOf_len (p.take i)
      rw [List.length_take] at this
      omega
    have rest : ∀ Hx, Chg [] H1 Hx → (tAsg (tCall spNext [] E0 (tCons (tVar 2) (tCons (tVar 4) tNil))) (gName 2)) { nx := fun σ' H' => ∃ vb u1 u2, σ' = [some (.int (p.length : Nat)), some (.ref a), some vb, u1, u2] ∧ Chg [] H H' ∧ TD H' vb (pD (stkOf (p.take (i + 1)))), rt := Q }
        [some (.int (p.length : Nat)), some (.ref a), some vb, some (.int (i : Nat)), some (.int (b : Nat))] Hx := by
      intro Hx cx
      refine ⟨_, rfl, _, rfl, vb, stkOf (p.take i), b, rfl, hvb.chg cx, hstk, fun v' H' c' hv' => ?_⟩
      refine ⟨v', _, _, rfl, c.trans (cx.trans c'), ?_⟩
      rw [stkOf_succ hb]
      exact hv'
    refine ⟨_, rfl, _, rfl, rfl, _, rfl, ?_⟩
    by_cases hbi : b = i
    · subst hbi
      refine iteNS rfl ?_
      exact rest _ cT
    · have hmem : b ∈ stkOf (p.take i) := h2.resolve_left hbi
      obtain ⟨ab, rfl, hab⟩ := (hvb.chg cT).pD_inv
      have e1 : decide (V.int ((b : Nat) : Int) = V.int ((i : Nat) : Int)) = false := decide_eq_false fun z => hbi (by have := V.int.inj z; omega)
      rw [e1]
      refine ⟨_, rfl, _, rfl, ab, _, rfl, .inr (SqT.of hab), rfl, nV_flat _, _, rfl, ?_⟩
      rw [nV_in hmem]
      exact rest _ cT
  · intro σ H' ⟨_, _, _, _, c, _⟩
    exact q H' c
end
end K58
end
section
set_option Elab.async false
set_option linter.all false
set_option maxRecDepth 100000
set_option maxHeartbeats 4000000
/-! ### plans: is_any_plan, begins_behind; check_begun, between -/
namespace K58
open PySem PySem.Spec PyProof.Rows L2
section
variable {P : Program} {w : World} {K : PySem.W.Frag} {mg : Str → Option Value} {base : Heap} {C CT fm : Addr} {k0 : Nat}
theorem scAnyPlan : FnScope ["thing"] ["thing"] (defScope sAnyPlan) := ⟨rfl, rfl, rfl, by decide +kernel, rfl, by decide +kernel, by decide +kernel⟩
theorem ok_anyPlan {f : Addr} {fd : FuncData} (F : Fun K "is_any_plan" "is_any_plan" sAnyPlan f fd) (B : Bt mg) (mH : ∃ t, mg "MOST_HOURS_plans" = some (.int 40 t)) (cP : Fd P w K mg base 3 "is_plan_of" spPlanOf) : FnOk P w K mg base CX0 4 f fd ["thing"] spAnyPlan := by
  refine F.ok scAnyPlan (fun vs H Q E h => ?_) (fun cdv A outer s H vs Q E hr h => ?_)
  · obtain ⟨v, p, rfl, _⟩ := h
    rfl
  obtain ⟨v, p, rfl, hv, h1, h40, hval, q⟩ := h
  obtain ⟨a, rfl, ha⟩ := hv.pD_inv
  obtain ⟨t, mH⟩ := mH
  refine ⟨_, pss_one (ps_ret (pe_and (pe_callB call_isi (by rfl) B.isi (by decide +kernel) (pa_cons (pv 0) (pa_cons (pe_bltn (v := .ty "tuple") (by rfl) B.tup (by decide +kernel) rfl) pa_nil)))
    (pe_and (pe_chain op_le op_le pe_int (pe_callB call_len_seq (by rfl) B.len PySem.boot_len (pa_cons (pv 0) pa_nil)) (pe_glob (v := .int 40) (by rfl) mH ⟨_, rfl⟩))
    (pe_one (pe_f cP hr (by decide) rfl (pa_cons (pe_callB call_len_seq (by rfl) B.len PySem.boot_len (pa_cons (pv 0) pa_nil)) (pa_cons (pv 0) pa_nil))))))), ?_⟩
  refine ⟨_, rfl, _, _, _, _, true, rfl, .ty _, .base (.tup ha), kit_ty (by decide +kernel), true, rfl, ?_⟩
  refine iteT ?_
  refine ⟨_, rfl, a, _, rfl, .inr (SqT.of ha), _, _, rfl, rfl, true, ?_, ?_⟩
  · rw [nV_len]
    exact congrArg V.bl (decide_eq_true (by omega))
  refine iteT ?_
  refine ⟨_, _, rfl, rfl, true, ?_, ?_⟩
  · rw [nV_len]
    exact congrArg V.bl (decide_eq_true (by omega))
  refine iteT ?_
  refine ⟨_, rfl, a, _, rfl, .inr (SqT.of ha), _, rfl, _, p, ?_, hv, by omega, hval, q⟩
  rw [nV_len]
  rfl
theorem scBehindL : FnScope ["plan", "found", "begins", "begin"] ["plan"] (defScope sBehindL) := ⟨rfl, rfl, rfl, by decide +kernel, rfl, by decide +kernel, by decide +kernel⟩
theorem ok_behindL {f : Addr} {fd : FuncData} (F : Fun K "begins_behind" "begins_behind" sBehindL f fd) (cN : Fd P w K mg base 1 "begins_next" spNext) : FnOk P w K mg base CX0 2 f fd ["plan"] spBehindL := by
  refine F.ok scBehindL (fun vs H Q E h => ?_) (fun cdv A outer s H vs Q E hr h => ?_)
  · obtain ⟨v, p, rfl, _⟩ := h
    rfl
  obtain ⟨v, p, rfl, hv, hz, q⟩ := h
  obtain ⟨a, rfl, ha⟩ := hv.pD_inv
  refine ⟨_, pss_cons (ps_set (i := 1) scBehindL.nd rfl (Or.inl rfl) (pe_lst pa_nil))
    (pss_cons (ps_set (i := 2) scBehindL.nd rfl (Or.inl rfl) (pe_tup pa_nil))
    (pss_cons (ps_for PassesOwn.never rfl (pi_tup (pv 0)) (pg_name (i := 3) scBehindL.nd rfl (Or.inl rfl))
      (pss_cons (ps_set (i := 2) scBehindL.nd rfl (Or.inl rfl) (pe_f cN hr (by decide) rfl (pa_cons (pv 2) (pa_cons (pv 3) pa_nil))))
      (pss_one (ps_expr (pe_bm PySem.F.plainAttrs_list PySem.F.slot_list_append PySem.F.type_list_append mt_append (pv 1) (pa_cons (pv 2) pa_nil))))))
    (pss_one (ps_ret (pv 1))))), ?_⟩
  refine ⟨by show 0 ≤ sizeLine; decide, fun L hL => ?_⟩
  have cL : Chg [] H (upd H L (.lst [])) := Chg.new hL
  refine ⟨by show 0 ≤ sizeLine; decide, fun e0 he0 => ?_⟩
  have c0 : Chg [] (upd H L (.lst [])) (upd (upd H L (.lst [])) e0 (.tup [])) := Chg.new he0
  refine ⟨_, rfl, a, rfl, ⟨_, SqT.of (c0.at (cL.at ha))⟩, for_tup (K := K) (a := a) (xs := (nI p).map V.int) (fun i σ H' => ∃ vb u xs, σ = [some (.ref a), some (.ref L), some vb, u] ∧ Chg [] H H' ∧ TD H' vb (pD (stkOf (p.take i))) ∧ H' L = some (.lst xs) ∧ TDs H' xs ((List.range i).map fun j => pD (stkOf (p.take (j + 1)))))
    ⟨_, _, _, rfl, cL.trans c0, .tup upd_same .nil, c0.at upd_same, .nil⟩ (fun i σ H' _ ⟨_, _, _, _, c, _⟩ => SqT.of (c.at ha)) ?_ ?_⟩
  · intro i x σ H1 hx ⟨vb, u, xs, es, c, hvb, hl, hds⟩
    subst es
    obtain ⟨b, hb, rfl⟩ := nV_get hx
    have hi : i < p.length := (List.getElem?_eq_some_iff.mp hb).1
    have hstk : (stkOf (p.take i)).length ≤ 100 := by
      have := stkOf_len (p.take i)
      rw [List.length_take] at this
      omega
    refine ⟨_, rfl, _, rfl, vb, stkOf (p.take i), b, rfl, hvb, hstk, fun v' H2 c2 hv' => ?_⟩
    have hl2 := c2.at hl
    have hlen : xs.length = i := by
      rw [hds.length, List.length_map, List.length_range]
    have hv2 : TD H2 v' (pD (stkOf (p.take (i + 1)))) := by
      rw [stkOf_succ hb]
      exact hv'
    have cW : Chg [L] H2 (upd H2 L (.lst (xs ++ [v']))) := Chg.refl.lst hl2 (by simp)
    refine ⟨_, rfl, .inl ⟨rfl, _, SqL.of hl2⟩, _, rfl, L, _, _, rfl, rfl, hl2, small1000 (by omega), _, _, _, rfl, (c.trans c2).put hL, hv2.chg cW, upd_same, ?_⟩
    rw [List.range_succ, List.map_append]
    exact ((hds.chg c2).chg cW).snoc (hv2.chg cW)
  · intro σ H1 ⟨vb, u, xs, es, c, hvb, hl, hds⟩
    subst es
    rw [nV_len] at hds
    exact ⟨_, rfl, q L H1 xs c hl hds⟩
theorem scChkBegun : FnScope ["task", "thing"] ["task", "thing"] (defScope sChkBegun) := ⟨rfl, rfl, rfl, by decide +kernel, rfl, by decide +kernel, by decide +kernel⟩
theorem ok_chkBegun {f : Addr} {fd : FuncData} (F : Fun K "check_begun" "check_begun" sChkBegun f fd) (B : Bt mg) (cP : Fd P w K mg base 4 "is_any_plan" spAnyPlan) (cN : Fd P w K mg base 1 "length_of" (spLenOf CT)) : FnOk P w K mg base CX0 5 f fd ["task", "thing"] (spChkBegun CT) := by
  refine F.ok scChkBegun (fun vs H Q E h => ?_) (fun cdv A outer s H vs Q E hr h => ?_)
  · obtain ⟨t, T, n, v, p, rfl, _⟩ := h
    rfl
  obtain ⟨t, Tt, n, v, p, rfl, ht, hv, h1, hn, h40, hval, q⟩ := h
  refine ⟨_, pss_one (ps_if (PW.pt (pw_or (pt_not (pt_val (pe_f cP hr (by decide) rfl (pa_cons (pv 1) pa_nil))))
      (pw_or1 (pt_cmpR op_ge (pe_callB call_len_seq (by rfl) B.len PySem.boot_len (pa_cons (pv 1) pa_nil)) (pe_f cN hr (by decide) rfl (pa_cons (pv 0) pa_nil)) (nomark _))))) (pss_one ps_never) pss_nil), ?_⟩
  refine ⟨_, rfl, v, p, rfl, hv, h1, by omega, hval, fun H1 c1 => ⟨true, rfl, ?_⟩⟩
  refine iteF ?_
  obtain ⟨a, rfl, ha⟩ := (hv.chg c1).pD_inv
  refine ⟨_, rfl, a, _, rfl, .inr (SqT.of ha), _, rfl, t, Tt, n, rfl, ht.chg c1, _, _, rfl, rfl, false, ?_, ?_⟩
  · rw [nV_len]
    exact congrArg V.bl (decide_eq_false (by omega))
  · exact q H1 c1
theorem scBetween : FnScope ["solver", "most", "first", "last", "found"] ["solver", "most", "first", "last"] (defScope sBetween) := ⟨rfl, rfl, rfl, by decide +kernel, rfl, by decide +kernel, by decide +kernel⟩
theorem ok_between {f : Addr} {fd : FuncData} (F : Fun K "between" "between" sBetween f fd) (cS : Mt P w K mg base k0 C "span_cost" (spSpan C CT fm 8)) (cP : Mt P w K mg base k0 C "span_plan" (spPlan C CT fm 8)) :
    FnOk P w K mg base CX0 (k0 + 1) f fd ["solver", "most", "first", "last"] (spBetween C CT fm) := by
  refine F.ok scBetween (fun vs H Q E h => ?_) (fun cdv A outer s H vs Q E hr h => ?_)
  · obtain ⟨s, dc, dp, T, n, f, h, m, l, rfl, _⟩ := h
    rfl
  obtain ⟨s, dc, dp, Tt, n, f, h, m, l, rfl, rfl, S, hfh, hhn, hn8, q⟩ := h
  refine ⟨_, pss_cons (ps_if (pt_cmpR op_gt (pv 2) (pv 3) (nomark _)) (pss_one (ps_ret (pe_tup (pa_cons pe_int (pa_cons (pe_tup pa_nil) pa_nil))))) pss_nil)
    (pss_cons (ps_if (pt_cmpR op_lt (pv 1) pe_int (nomark _)) (pss_one (ps_ret pe_non)) pss_nil)
    (pss_cons (ps_set (i := 4) scBetween.nd rfl (Or.inl rfl) (pe_m cS hr (Nat.le_refl _) (pv 0) (pa_cons (pv 1) (pa_cons (pv 2) (pa_cons (pv 3) pa_nil)))))
    (pss_one (ps_ret (pe_ifExp (pt_cmpR op_isN (pv 4) pe_non (nomark _)) pe_non (pe_tup (pa_cons (pv 4) (pa_cons (pe_m cP hr (Nat.le_refl _) (pv 0) (pa_cons (pv 1) (pa_cons (pv 2) (pa_cons (pv 3) pa_nil)))) pa_nil)))))))), ?_⟩
  refine ⟨_, rfl, _, rfl, _, _, rfl, rfl, _, rfl, ite2 (fun c => ?_) (fun c => ?_)⟩
  · have hle : h ≤ f := by
      have := of_decide_eq_true c
      omega
    refine ⟨by show 0 ≤ sizeLine; decide, fun e0 he0 => ⟨by show 2 ≤ sizeLine; decide, fun r hr' => ?_⟩⟩
    have c1 : Chg [] H (upd H e0 (.tup [])) := Chg.new he0
    have c2 : Chg [] (upd H e0 (.tup [])) (upd (upd H e0 (.tup [])) r (.tup [.int 0, .ref e0])) := Chg.new hr'
    refine q _ _ (c1.trans c2).pure (S.pure (c1.trans c2)) (.inr ⟨(0, []), ?_, ?_⟩)
    · unfold btw
      rw [if_pos hle]
    · exact .tup upd_same (.cons (.int 0) (.cons (.tup (c2.at upd_same) .nil) .nil))
  · have hlt : f < h := by
      have := of_decide_eq_false (Bool.eq_false_iff.mpr c)
      omega
    refine ⟨_, rfl, _, _, rfl, rfl, _, rfl, ite2 (fun c2 => ?_) (fun c2 => ?_)⟩
    · have hm : m < 1 := of_decide_eq_true c2
      refine q _ H Chg.refl S (.inl ⟨?_, rfl⟩)
      unfold btw
      rw [if_neg (by omega), if_pos (by omega)]
    · have hm : ¬ m < 1 := of_decide_eq_false (Bool.eq_false_iff.mpr c2)
      have em : m = ((m.toNat : Nat) : Int) := by omega
      have eh : (h : Int) - 1 = ((h - 1 : Nat) : Int) := by omega
      obtain ⟨dx, ta, dn, ho, hta⟩ := id S.has
      refine ⟨_, rfl, s, dx, _, rfl, ho, svF_no _ _ _ _ _ (by decide +kernel) (by decide +kernel) (by decide +kernel) (by decide +kernel) (by decide +kernel), _, rfl, _, rfl, _, rfl, s, dc, dp, Tt, n, m.toNat, f, h - 1, by rw [← eh, ← em]; rfl, S, by omega, by omega, by omega, by omega, fun H1 c1 S1 => ?_⟩
      refine ⟨_, rfl, rfl, _, rfl, ?_⟩
      refine iteF ?_
      obtain ⟨dx1, ta1, dn1, ho1, hta1⟩ := id S1.has
      refine ⟨_, rfl, _, rfl, s, dx1, _, rfl, ho1, svF_no _ _ _ _ _ (by decide +kernel) (by decide +kernel) (by decide +kernel) (by decide +kernel) (by decide +kernel), _, rfl, _, rfl, _, rfl, s, dc, dp, Tt, n, m.toNat, f, h - 1, by rw [← eh, ← em]; rfl, S1, by omega, by omega, by omega, by omega, fun vp H2 c3 S2 hvp => ?_⟩
      refine ⟨by show 2 ≤ sizeLine; decide, fun r hr' => ?_⟩
      rw [show h - 1 + 1 = h by omega]
      have c4 : Chg [] H2 (upd H2 r (.tup [.int (own Tt m.toNat f (h - 1) + lk Tt f f h), vp])) := Chg.new hr'
      refine q _ _ (c1.trans (c3.trans c4.pure)) (S2.pure c4) (.inr ⟨(own Tt m.toNat f (h - 1) + lk Tt f f h, plan Tt m.toNat f (h - 1)), ?_, ?_⟩)
      · unfold btw
        rw [if_neg (by omega), if_neg (by omega)]
      · exact .tup upd_same (.cons (.int _) (.cons (hvp.chg c4) .nil))
end
end K58
end
section
set_option Elab.async false
set_option linter.all false
set_option maxRecDepth 100000
set_option maxHeartbeats 4000000
/-! ### the rest: what stands in it, its making, the elder runs' looks -/
namespace K58
open PySem PySem.Spec PyProof.Rows L2
abbrev sRestI : Stmt := inClass (top 38) 0
abbrev sElder : Stmt := inClass (top 38) 1
def rsF (t so kn : Addr) (k f : Nat) (bv : V) : List (Str × V) := putF "known" (.ref kn) (putF "solver" (.ref so) (putF "begins" bv (putF "first" (.int (f : Nat)) (putF "most" (.int (k : Nat)) (putF "task" (.ref t) [])))))
section
variable (t so kn : Addr) (k f : Nat) (bv : V)
theorem rsF_task : (rsF t so kn k f bv).lookup ("task" : Str) = some (.ref t) := by
  unfold rsF
  rw [lookup_putF, if_neg (by decide +kernel), lookup_putF, if_neg (by decide +kernel), lookup_putF, if_neg (by decide +kernel), lookup_putF, if_neg (by decide +kernel), lookup_putF, if_neg (by decide +kernel), lookup_putF, if_pos rfl]
theorem rsF_most : (rsF t so kn k f bv).lookup ("most" : Str) = some (.int (k : Nat)) := by
  unfold rsF
  rw [lookup_putF, if_neg (by decide +kernel), lookup_putF, if_neg (by decide +kernel), lookup_putF, if_neg (by decide +kernel), lookup_putF, if_neg (by decide +kernel), lookup_putF, if_pos rfl]
theorem rsF_first : (rsF t so kn k f bv).lookup ("first" : Str) = some (.int (f : Nat)) := by
  unfold rsF
  rw [lookup_putF, if_neg (by decide +kernel), lookup_putF, if_neg (by decide +kernel), lookup_putF, if_neg (by decide +kernel), lookup_putF, if_pos rfl]
theorem rsF_begins : (rsF t so kn k f bv).lookup ("begins" : Str) = some bv := by
  unfold rsF
  rw [lookup_putF, if_neg (by decide +kernel), lookup_putF, if_neg (by decide +kernel), lookup_putF, if_pos rfl]
theorem rsF_solver : (rsF t so kn k f bv).lookup ("solver" : Str) = some (.ref so) := by
  unfold rsF
  rw [lookup_putF, if_neg (by decide +kernel), lookup_putF, if_pos rfl]
theorem rsF_known : (rsF t so kn k f bv).lookup ("known" : Str) = some (.ref kn) := by
  unfold rsF
  rw [lookup_putF, if_pos rfl]
theorem rsF_no {m : Str} (h1 : ¬ m = "known") (h2 : ¬ m = "solver") (h3 : ¬ m = "begins") (h4 : ¬ m = "first") (h5 : ¬ m = "most") (h6 : ¬ m = "task") : (rsF t so kn k f bv).lookup m = none := by
  unfold rsF
  rw [lookup_putF, if_neg h1, lookup_putF, if_neg h2, lookup_putF, if_neg h3, lookup_putF, if_neg h4, lookup_putF, if_neg h5, lookup_putF, if_neg h6]
  rfl
end
/-- a known way as a datum -/
def knD (e : Kn) : PyData := .tuple [.int ((e.t1 : Int) - 1), .int (e.m : Nat), .int e.c, pD e.p]
/-- a rest stands at r: its solver at so with the memos dc, dp, its list of known ways at kn -/
structure RestAt (CR CS CT fm : Addr) (H : Hp) (r so dc dp kn : Addr) (T : Tk) (n k f : Nat) (bs : List Nat) (known : List Kn) : Prop where
  has : ∃ dx t bv, H r = some (.ins CR dx (rsF t so kn k f bv)) ∧ TaskAt CT H t T n ∧ TD H bv (pD bs)
  sv : SolvAt CS CT fm H so dc dp T n
  ls : ∃ xs, H kn = some (.lst xs) ∧ TDs H xs (known.map knD)
  n8 : n ≤ 8
  fn : f ≤ n
  f1 : 1 ≤ f
  bf : ∀ b ∈ bs, b < f
  bl : bs.length ≤ f
section
variable {CR CS CT fm : Addr} {H H1 : Hp} {r so dc dp kn : Addr} {T : Tk} {n k f : Nat} {bs : List Nat} {known : List Kn}
theorem RestAt.step (h : RestAt CR CS CT fm H r so dc dp kn T n k f bs known) (c : Chg [dc, dp] H H1) (S : SolvAt CS CT fm H1 so dc dp T n) : RestAt CR CS CT fm H1 r so dc dp kn T n k f bs known := by
  obtain ⟨dx, t, bv, e1, e2, e3⟩ := h.has
  obtain ⟨xs, e4, e5⟩ := h.ls
  exact ⟨⟨dx, t, bv, c.inss _ _ _ _ e1, e2.chg c, e3.chg c⟩, S, ⟨xs, c.keep _ _ e4 (h.sv.nin e4), e5.chg c⟩, h.n8, h.fn, h.f1, h.bf, h.bl⟩
theorem RestAt.pure (h : RestAt CR CS CT fm H r so dc dp kn T n k f bs known) (c : Chg [] H H1) : RestAt CR CS CT fm H1 r so dc dp kn T n k f bs known := h.step c.pure (h.sv.pure c)
end
structure RTxt (K : PySem.W.Frag) (C : Addr) : Prop where
  cl : Cls K C
  nT : NoAttr K C "task"
  nM : NoAttr K C "most"
  nF : NoAttr K C "first"
  nB : NoAttr K C "begins"
  nS : NoAttr K C "solver"
  nK : NoAttr K C "known"
/-- all but the object at r stays -/
def Kb (r : Addr) (H H1 : Hp) : Prop := ∀ b o, H b = some o → b ≠ r → H1 b = some o
section
variable {r : Addr} {H H1 H2 : Hp}
theorem Kb.refl : Kb r H H := fun _ _ h _ => h
theorem Kb.trans (a : Kb r H H1) (b : Kb r H1 H2) : Kb r H H2 := fun c o h n => b c o (a c o h n) n
theorem Kb.upd (a : Kb r H H1) {o : HO} : Kb r H (upd H1 r o) := fun c u h n => by rw [upd_ne n]; exact a c u h n
theorem Kb.chg (a : Kb r H H1) (c : Chg [] H1 H2) : Kb r H H2 := fun b o h n => c.at (a b o h n)
theorem Kb.td (a : Kb r H H1) {C dx : Addr} {fs : List (Str × V)} (hr : H r = some (.ins C dx fs)) {v : V} {d : PyData} (h : TD H v d) : TD H1 v d := h.keep fun b xs q => a b _ q (ne_of q hr (by intro z; cases z))
theorem Kb.task (a : Kb r H H1) {C dx CT t : Addr} {fs : List (Str × V)} {T : Tk} {n : Nat} (hr : H r = some (.ins C dx fs)) (h : TaskAt CT H t T n) (ne : t ≠ r) : TaskAt CT H1 t T n := by
  obtain ⟨dt, wv, lv, e1, e2, e3⟩ := h.has
  exact ⟨dt, wv, lv, a _ _ e1 ne, a.td hr e2, a.td hr e3⟩
theorem Kb.free (a : Kb r H H1) {p : Addr} (h : H1 p = none) (ne : p ≠ r) : H p = none := by
  cases e : H p with
  | none => rfl
  | some o => rw [a p o e ne] at h; cases h
end
theorem stkOf_sub {p : List Nat} {b : Nat} (h : b ∈ stkOf p) : b ∈ p := by
  have g : ∀ (p bs : List Nat), b ∈ p.foldl stk bs → b ∈ bs ∨ b ∈ p := by
    intro p
    induction p with
    | nil => intro bs h; exact .inl h
    | cons a p ih =>
      intro bs h
      rcases ih _ h with h | h
      · unfold stk at h
        rcases List.mem_append.mp h with h | h
        · exact .inl (List.mem_filter.mp h).1
        · rcases List.mem_singleton.mp h with rfl
          exact .inr List.mem_cons_self
      · exact .inr (List.mem_cons_of_mem _ h)
  rcases g p [] h with h | h
  · cases h
  · exact h
theorem ValidP.lt {p : List Nat} (h : ValidP p) {b : Nat} (hb : b ∈ stkOf p) : b < p.length := by
  obtain ⟨i, hi, e⟩ := List.mem_iff_getElem.mp (stkOf_sub hb)
  have := (h i b (by rw [List.getElem?_eq_getElem hi, e])).1
  omega
theorem atI_neg1 {xs : List V} {v : V} {m : Nat} (hl : xs.length = m + 1) (h : xs[m]? = some v) : atI xs (-1) = some v := by
  unfold atI ixN
  rw [if_neg (by omega), if_pos (by omega)]
  show xs[((-1 : Int) + (xs.length : Int)).toNat]? = some v
  rw [show ((-1 : Int) + (xs.length : Int)).toNat = m by omega]
  exact h
def spRestI (CR CS CT fm : Addr) : Sp := fun vs H Q _ => ∃ (r dx t : Addr) (T : Tk) (n k : Nat) (bv : V) (p : List Nat), vs = [.ref r, .ref t, .int (k : Nat), bv] ∧ H r = some (.ins CR dx []) ∧ TaskAt CT H t T n ∧ t ≠ r ∧ TD H bv (pD p) ∧ ValidP p ∧ 1 ≤ p.length ∧ p.length < n ∧ n ≤ 8 ∧
  ∀ so dc dp kn H', Kb r H H' → H dc = none → H dp = none → H kn = none → RestAt CR CS CT fm H' r so dc dp kn T n k p.length (stkOf p) [⟨p.length, (stkOf p).length, 0, p⟩] → Q .non H'
def spElder (CR CS CT fm : Addr) : Sp := fun vs H Q _ => ∃ (r so dc dp kn : Addr) (T : Tk) (n k f : Nat) (bs : List Nat) (known : List Kn) (m f1 h : Nat) (l : Int), vs = [.ref r, .int (m : Nat), .int (f1 : Nat), .int l] ∧ l = (h : Int) - 1 ∧
  RestAt CR CS CT fm H r so dc dp kn T n k f bs known ∧ f ≤ f1 ∧ f1 ≤ h ∧ h ≤ n ∧ m ≤ bs.length ∧ ∀ H', Chg [] H H' → Q (.int (elk T (bs.take m) f1 h)) H'
/-- o.f within a comprehension -/
theorem pe_fK {X : Cx} {K : PySem.W.Frag} {e : Expr} {f : Str} {pos : Pos} {ta : TE} (hK : X.K = K) (he : PE X e ta) (hb : attributeBase e f X.env (eval e X.env) = eval e X.env) : PE X (.Attribute e f pos) (tFld K ta f) := by
  subst hK
  exact pe_fld he hb
/-- the first m of a tuple -/
theorem sl_take {K : PySem.W.Frag} {H : Hp} {v : V} {p : List Nat} {m : Nat} {Q : VK} (hv : TD H v (pD p)) (h : ∀ a H', Chg [] H H' → H' a = some (.tup ((nI (p.take m)).map V.int)) → Q (.ref a) H') : rSlA K v none (some (m : Int)) H Q := by
  obtain ⟨a, rfl, ha⟩ := hv.pD_inv
  refine ⟨a, _, rfl, SqT.of ha, fun hw => ?_, fun _ q hq => ?_⟩
  · refine h a H Chg.refl ?_
    have e := hw.2
    rw [HT.sIx_nat, nV_len] at e
    rw [List.take_of_length_le (by omega)]
    exact ha
  · refine h q _ (Chg.new hq) ?_
    rw [upd_same]
    unfold cutV
    rw [HT.sIx_nat, HT.sIx_none, nV_len, List.drop_zero, Nat.sub_zero]
    have e : (nI (p.take m)).map V.int = ((nI p).map V.int).take (min m p.length) := by
      unfold nI
      rw [← List.map_take, ← List.map_take, List.take_eq_take_min]
    rw [e]
section
variable {P : Program} {w : World} {K : PySem.W.Frag} {mg : Str → Option Value} {base : Heap} {CR CS CT fm : Addr} {k0 : Nat}
theorem scRestI : FnScope ["self", "task", "most", "begun"] ["self", "task", "most", "begun"] (defScope sRestI) := ⟨rfl, rfl, rfl, by decide +kernel, rfl, by decide +kernel, by decide +kernel⟩
theorem ok_restI {f : Addr} {fd : FuncData} (F : Fun K "__init__" "Rest.__init__" sRestI f fd) (B : Bt mg) (R : RTxt K CR) (T : STxt K mg CS fm) (cB : Fd P w K mg base 2 "begins_behind" spBehindL) (cI : Mc P w K mg base 1 "Solver" CS (spSolvI CS CT fm)) :
    FnOk P w K mg base CX0 3 f fd ["self", "task", "most", "begun"] (spRestI CR CS CT fm) := by
  refine F.ok scRestI (fun vs H Q E h => ?_) (fun cdv A outer s H vs Q E hr h => ?_)
  · obtain ⟨r, dx, t, T, n, k, bv, p, rfl, _⟩ := h
    rfl
  obtain ⟨r, dx, t, Tt, n, k, bv, p, rfl, hor, ht, htr, hbv, hval, h1, hpn, hn8, q⟩ := h
  refine ⟨_, pss_cons (ps_fld (pv 0) (pv 1) rfl)
    (pss_cons (ps_fld (pv 0) (pv 2) rfl)
    (pss_cons (ps_fld (pv 0) (pe_callB call_len_seq (by rfl) B.len PySem.boot_len (pa_cons (pv 3) pa_nil)) rfl)
    (pss_cons (ps_fld (pv 0) (pe_ix ix_list (pe_f cB hr (by decide) rfl (pa_cons (pv 3) pa_nil)) (pe_un un_neg pe_int) (fun _ _ => rfl)) rfl)
    (pss_cons (ps_fld (pv 0) (pe_k cI hr (by decide) rfl (pa_cons (pv 1) (pa_cons (pe_glob (v := .ref fm) (by rfl) T.mgM rfl) pa_nil))) rfl)
    (pss_one (ps_fld (pv 0) (pe_lst (pa_cons (pe_tup (pa_cons (pe_op op_sub (pe_fld (pv 0) rfl) pe_int) (pa_cons (pe_callB call_len_seq (by rfl) B.len PySem.boot_len (pa_cons (pe_fld (pv 0) rfl) pa_nil)) (pa_cons pe_int (pa_cons (pv 3) pa_nil))))) pa_nil)) rfl)))))), ?_⟩
  refine ⟨_, rfl, _, rfl, r, CR, dx, [], rfl, hor, R.cl, R.nT, by show 0 < 1000; decide, ?_⟩
  refine ⟨_, rfl, _, rfl, r, CR, dx, _, rfl, upd_same, R.cl, R.nM, by show 1 < 1000; decide, ?_⟩
  -- len(begun)
  have k1 : Kb r H (upd (upd H r (.ins CR dx (putF "task" (.ref t) []))) r (.ins CR dx (putF "most" (.int (k : Nat)) (putF "task" (.ref t) [])))) := (Kb.refl.upd).upd
  generalize e1 : upd (upd H r (.ins CR dx (putF "task" (.ref t) []))) r (.ins CR dx (putF "most" (.int (k : Nat)) (putF "task" (.ref t) []))) = H1
  rw [e1] at k1
  have o1 : H1 r = some (.ins CR dx (putF "most" (.int (k : Nat)) (putF "task" (.ref t) []))) := by rw [← e1, upd_same]
  obtain ⟨ab, eb, hab⟩ := (k1.td hor hbv).pD_inv
  refine ⟨_, rfl, ab, _, congrArg (fun z => [z]) eb, .inr (SqT.of hab), _, rfl, r, CR, dx, _, rfl, o1, R.cl, R.nF, by show 2 < 1000; decide, ?_⟩
  rw [nV_len]
  have k2 : Kb r H (upd H1 r (.ins CR dx (putF "first" (.int (p.length : Nat)) (putF "most" (.int (k : Nat)) (putF "task" (.ref t) []))))) := k1.upd
  generalize e2 : upd H1 r (.ins CR dx (putF "first" (.int (p.length : Nat)) (putF "most" (.int (k : Nat)) (putF "task" (.ref t) [])))) = H2
  rw [e2] at k2
  have o2 : H2 r = some (.ins CR dx (putF "first" (.int (p.length : Nat)) (putF "most" (.int (k : Nat)) (putF "task" (.ref t) [])))) := by rw [← e2, upd_same]
  -- begins_behind(begun)[-1]
  refine ⟨_, rfl, bv, p, rfl, k2.td hor hbv, by omega, fun L H3 xs c3 hL hds => ?_⟩
  have k3 := k2.chg c3
  have o3 := c3.at o2
  obtain ⟨bsv, hbsv, hbsd⟩ := hds.get (i := p.length - 1) (d := pD (stkOf p)) (by
    rw [List.getElem?_map, List.getElem?_range (by omega)]
    show some (pD (stkOf (p.take (p.length - 1 + 1)))) = _
    rw [List.take_of_length_le (by omega)])
  refine ⟨_, rfl, L, xs, _, bsv, rfl, rfl, SqL.of hL, atI_neg1 (m := p.length - 1) (by rw [hds.length, List.length_map, List.length_range]; omega) hbsv, ?_⟩
  refine ⟨_, rfl, r, CR, dx, _, rfl, o3, R.cl, R.nB, by show 3 < 1000; decide, ?_⟩
  have k4 : Kb r H (upd H3 r (.ins CR dx (putF "begins" bsv (putF "first" (.int (p.length : Nat)) (putF "most" (.int (k : Nat)) (putF "task" (.ref t) [])))))) := k3.upd
  have k34 : Kb r H3 (upd H3 r (.ins CR dx (putF "begins" bsv (putF "first" (.int (p.length : Nat)) (putF "most" (.int (k : Nat)) (putF "task" (.ref t) [])))))) := Kb.refl.upd
  generalize e4 : upd H3 r (.ins CR dx (putF "begins" bsv (putF "first" (.int (p.length : Nat)) (putF "most" (.int (k : Nat)) (putF "task" (.ref t) []))))) = H4
  rw [e4] at k4 k34
  have o4 : H4 r = some (.ins CR dx (putF "begins" bsv (putF "first" (.int (p.length : Nat)) (putF "most" (.int (k : Nat)) (putF "task" (.ref t) []))))) := by rw [← e4, upd_same]
  have b4 : TD H4 bsv (pD (stkOf p)) := k34.td o3 hbsd
  have t4 : TaskAt CT H4 t Tt n := k4.task hor ht htr
  -- Solver(task, may_all)
  refine ⟨_, rfl, fun so dso hso hdso hne => ⟨so, dso, t, Tt, n, rfl, upd_same, t4.chg (M := []) (Chg.made hso hdso), t4.ne hso, by omega, fun dc dp H5 keep h1' h2' S5 => ⟨rfl, ?_⟩⟩⟩
  obtain ⟨c5, fr⟩ := made_post hso hdso keep
  have fdc := fr _ h1'
  have fdp := fr _ h2'
  have k5 := k4.chg c5
  have o5 := c5.at o4
  have b5 := b4.chg c5
  have t5 := t4.chg c5
  obtain ⟨dso5, tso5, dn5, hos5, hts5⟩ := id S5.has
  obtain ⟨kc5, hkc5, mc5⟩ := id S5.cs
  obtain ⟨kp5, hkp5, mp5⟩ := id S5.ps
  have nrso : so ≠ r := Ne.symm (ne_of_none o4 hso)
  refine ⟨_, rfl, r, CR, dx, _, rfl, o5, R.cl, R.nS, by show 4 < 1000; decide, ?_⟩
  have k56 : Kb r H5 (upd H5 r (.ins CR dx (putF "solver" (.ref so) (putF "begins" bsv (putF "first" (.int (p.length : Nat)) (putF "most" (.int (k : Nat)) (putF "task" (.ref t) []))))))) := Kb.refl.upd
  generalize e6 : upd H5 r (.ins CR dx (putF "solver" (.ref so) (putF "begins" bsv (putF "first" (.int (p.length : Nat)) (putF "most" (.int (k : Nat)) (putF "task" (.ref t) [])))))) = H6
  rw [e6] at k56
  have o6 : H6 r = some (.ins CR dx (putF "solver" (.ref so) (putF "begins" bsv (putF "first" (.int (p.length : Nat)) (putF "most" (.int (k : Nat)) (putF "task" (.ref t) [])))))) := by rw [← e6, upd_same]
  -- self.known = [(self.first - 1, len(self.begins), 0, begun)]
  obtain ⟨abs, ebs, habs⟩ := (k56.td o5 b5).pD_inv
  refine ⟨_, rfl, r, CR, dx, _, _, rfl, o6, R.cl, R.nF, by rw [lookup_putF, if_neg (by decide +kernel), lookup_putF, if_neg (by decide +kernel), lookup_putF, if_pos rfl], _, _, rfl, rfl, ?_⟩
  refine ⟨_, rfl, r, CR, dx, _, _, rfl, o6, R.cl, R.nB, by rw [lookup_putF, if_neg (by decide +kernel), lookup_putF, if_pos rfl], abs, _, congrArg (fun z => [z]) ebs, .inr (SqT.of habs), _, rfl, by show 4 ≤ sizeLine; decide, fun tp htp => ?_⟩
  rw [nV_len]
  refine ⟨by show 1 ≤ sizeLine; decide, fun kn hkn => ?_⟩
  have nrk : kn ≠ r := by
    intro z
    rw [z, upd_ne (ne_of_none o6 htp), o6] at hkn
    cases hkn
  have ntk : kn ≠ tp := by
    intro z
    rw [z, upd_same] at hkn
    cases hkn
  have hkn6 : H6 kn = none := by
    rw [upd_ne ntk] at hkn
    exact hkn
  have nrt : tp ≠ r := Ne.symm (ne_of_none o6 htp)
  refine ⟨_, rfl, r, CR, dx, _, rfl, by rw [upd_ne (Ne.symm nrk), upd_ne (Ne.symm nrt)]; exact o6, R.cl, R.nK, by show 5 < 1000; decide, ?_⟩
  have k67 : Kb r H6 (upd (upd (upd H6 tp (.tup [.int ((p.length : Int) - 1), .int ((stkOf p).length : Nat), .int 0, bv])) kn (.lst [.ref tp])) r (.ins CR dx (rsF t so kn k p.length bsv))) := by
    intro b o hb hne
    rw [upd_ne hne, upd_ne (ne_of_none hb hkn6), upd_ne (ne_of_none hb htp)]
    exact hb
  have kall := (k5.trans k56).trans k67
  have k57 := k56.trans k67
  have htp7 : upd (upd (upd H6 tp (.tup [.int ((p.length : Int) - 1), .int ((stkOf p).length : Nat), .int 0, bv])) kn (.lst [.ref tp])) r (.ins CR dx (rsF t so kn k p.length bsv)) tp = some (.tup [.int ((p.length : Int) - 1), .int ((stkOf p).length : Nat), .int 0, bv]) := by
    rw [upd_ne nrt, upd_ne (Ne.symm ntk), upd_same]
  have hkn7 : upd (upd (upd H6 tp (.tup [.int ((p.length : Int) - 1), .int ((stkOf p).length : Nat), .int 0, bv])) kn (.lst [.ref tp])) r (.ins CR dx (rsF t so kn k p.length bsv)) kn = some (.lst [.ref tp]) := by
    rw [upd_ne nrk, upd_same]
  have o7 : upd (upd (upd H6 tp (.tup [.int ((p.length : Int) - 1), .int ((stkOf p).length : Nat), .int 0, bv])) kn (.lst [.ref tp])) r (.ins CR dx (rsF t so kn k p.length bsv)) r = some (.ins CR dx (rsF t so kn k p.length bsv)) := upd_same
  refine q so dc dp kn _ kall ?_ ?_ ?_ ?_
  · exact k4.free fdc (ne_of hkc5 o5 (by intro z; cases z))
  · exact k4.free fdp (ne_of hkp5 o5 (by intro z; cases z))
  · exact (k5.trans k56).free hkn6 nrk
  · refine ⟨⟨dx, t, bsv, o7, k57.task o5 t5 htr, k57.td o5 b5⟩, ⟨⟨dso5, tso5, dn5, k57 _ _ hos5 nrso, ?_⟩, ⟨kc5, k57 _ _ hkc5 (ne_of hkc5 o5 (by intro z; cases z)), ?_⟩, ⟨kp5, k57 _ _ hkp5 (ne_of hkp5 o5 (by intro z; cases z)), ?_⟩, S5.ne, S5.n30⟩, ⟨_, hkn7, ?_⟩, hn8, by omega, h1, fun b hb => hval.lt hb, stkOf_len p⟩
    · refine k57.task o5 hts5 ?_
      intro z
      obtain ⟨dt9, wv9, lv9, e9, _⟩ := hts5.has
      rw [z, o5] at e9
      injection e9 with e9
      injection e9 with _ _ e9
      have e10 := congrArg (fun fs => fs.lookup ("first" : Str)) e9
      have l1 : (putF "begins" bsv (putF "first" (.int (p.length : Nat)) (putF "most" (.int (k : Nat)) (putF "task" (.ref t) [])))).lookup ("first" : Str) = some (.int (p.length : Nat)) := by
        rw [lookup_putF, if_neg (by decide +kernel), lookup_putF, if_pos rfl]
      have l2 : (tkF wv9 lv9).lookup ("first" : Str) = none := by
        unfold tkF
        rw [lookup_putF, if_neg (by decide +kernel), lookup_putF, if_neg (by decide +kernel)]
        rfl
      rw [show (putF "begins" bsv (putF "first" (.int (p.length : Nat)) (putF "most" (.int (k : Nat)) (putF "task" (.ref t) [])))).lookup ("first" : Str) = (tkF wv9 lv9).lookup ("first" : Str) from e10, l2] at l1
      cases l1
    · exact mc5
    · exact mp5.imp fun _ _ _ _ g => k57.td o5 g
    · exact .cons (.tup htp7 (.cons (.int _) (.cons (.int _) (.cons (.int _) (.cons (kall.td hor hbv) .nil))))) .nil
theorem scElder : FnScope ["self", "many", "first", "last", "begin"] ["self", "many", "first", "last"] (defScope sElder) := ⟨rfl, rfl, rfl, by decide +kernel, rfl, by decide +kernel, by decide +kernel⟩
theorem ok_elder {f : Addr} {fd : FuncData} (F : Fun K "elder_looks" "Rest.elder_looks" sElder f fd) (B : Bt mg) (R : RTxt K CR) (cL : Fd P w K mg base 1 "look_sum" (spLookSum CT)) :
    FnOk P w K mg base CX0 2 f fd ["self", "many", "first", "last"] (spElder CR CS CT fm) := by
  refine F.ok scElder (fun vs H Q E h => ?_) (fun cdv A outer s H vs Q E hr h => ?_)
  · obtain ⟨r, so, dc, dp, kn, T, n, k, f, bs, known, m, f1, h, l, rfl, _⟩ := h
    rfl
  obtain ⟨r, so, dc, dp, kn, Tt, n, k, ff, bs, known, m, f1, h, l, rfl, hl, hR, b1, b2, b3, b4, q⟩ := h
  obtain ⟨dx, t, bv, hor, ht, hbv⟩ := id hR.has
  refine ⟨_, pss_one (ps_ret (pe_callB (cr_sum rfl) (by rfl) B.sum (by decide +kernel) (pa_cons (pe_lc (own := [("begin", 4)]) (g := gName 4) (tt := tYes) rfl scElder.nd (pi_tup (pe_slice sl_tupA (pe_fld (pv 0) rfl) po_none (po_some (pv 1))))
      (blkOk_by (N := ["self", "many", "first", "last", "begin"]) (sc := defScope sElder) (by decide +kernel)) (fun _ _ _ _ _ => pg_name (i := 4) scElder.nd rfl (Or.inl rfl)) (fun _ _ _ _ _ => pts_nil)
      (fun _ _ _ _ _ => pe_f cL hr (by decide) rfl (pa_cons (pe_fK (K := K) rfl (pv 0) rfl) (pa_cons (pv 4) (pa_cons (pv 2) (pa_cons (pv 3) pa_nil)))))) pa_nil))), ?_⟩
  refine ⟨_, rfl, r, CR, dx, _, _, rfl, hor, R.cl, R.nB, rsF_begins _ _ _ _ _ _, _, rfl, _, rfl, sl_take hbv fun a H1 c1 ha => ?_⟩
  refine ⟨a, rfl, ⟨_, SqT.of ha⟩, fun D hD => lc_tup (K := K) (a := a) (xs := (nI (bs.take m)).map V.int) (fun i H' => Chg [] H1 H' ∧ H' D = some (.lst ((((bs.take m).take i).map fun b => lk Tt b f1 h).map V.int)))
    ⟨Chg.new hD, upd_same⟩ (fun i H' _ p => SqT.of (p.1.at ha)) ?_ ?_⟩
  · intro i x H' hx ⟨c, hl'⟩
    obtain ⟨o, ho, rfl⟩ := nV_get hx
    have hi : i < (bs.take m).length := (List.getElem?_eq_some_iff.mp ho).1
    have hbo : o < ff := hR.bf o (List.mem_of_mem_take (List.mem_of_getElem? ho))
    refine ⟨rfl, ?_⟩
    have R' := hR.pure (c1.trans c)
    obtain ⟨dx', t', bv', hor', ht', hbv'⟩ := id R'.has
    refine ⟨_, rfl, r, CR, dx', _, _, rfl, hor', R.cl, R.nT, rsF_task _ _ _ _ _ _, _, rfl, _, rfl, _, rfl, t', Tt, n, o, f1, h, l, rfl, hl, ht', by omega, b2, b3, by have := hR.fn; omega, fun H'' c2 => ?_⟩
    refine ⟨_, c2.at hl', ?_, (c.trans c2).put hD, ?_⟩
    · rw [List.length_map, List.length_map, List.length_take, List.length_take]
      have := hR.bl
      have := hR.fn
      have := hR.n8
      exact small1000 (by omega)
    · rw [upd_same, List.take_succ, ho, Option.toList_some, List.map_append, List.map_append]
      rfl
  · intro H2 ⟨c2, hl⟩
    rw [nV_len, List.take_length] at hl
    refine ⟨D, _, rfl, SqL.of hl, q H2 (c1.trans c2) ⟩
end
end K58
end
section
set_option Elab.async false
set_option linter.all false
set_option maxRecDepth 100000
set_option maxHeartbeats 4000000
/-! ### the ways to an hour -/
namespace K58
open PySem PySem.Spec PyProof.Rows L2
abbrev sWays : Stmt := inClass (top 38) 2
/-- a way as a datum -/
def wD (w : Nat × PP) : PyData := .tuple [.int (w.1 : Nat), .int w.2.1, pD w.2.2]
/-- what holds of the known ways at the hour h -/
structure KnOk (f h : Nat) (bs : List Nat) (known : List Kn) : Prop where
  ok : ∀ e ∈ known, f ≤ e.t1 ∧ e.t1 ≤ h ∧ e.m ≤ bs.length ∧ e.p.length = e.t1
  few : known.length ≤ 100
theorem btw_len {T : Tk} {k f h : Nat} {x : PP} (hf : f ≤ h) (e : btw T k f h = some x) : x.2.length = h - f := span_len (btw_some hf e).1
section
variable {CR CS CT fm : Addr} {H H1 : Hp} {r so dc dp kn : Addr} {T : Tk} {n k f : Nat} {bs : List Nat} {known : List Kn}
theorem RestAt.lst (h : RestAt CR CS CT fm H r so dc dp kn T n k f bs known) {p : Addr} {xs ys : List V} (hp : H p = some (.lst xs)) (ne : p ≠ kn) : RestAt CR CS CT fm (upd H p (.lst ys)) r so dc dp kn T n k f bs known := by
  have c : Chg [p] H (upd H p (.lst ys)) := Chg.refl.lst hp (by simp)
  obtain ⟨dx, t, bv, e1, e2, e3⟩ := h.has
  obtain ⟨zs, e4, e5⟩ := h.ls
  exact ⟨⟨dx, t, bv, c.inss _ _ _ _ e1, e2.chg c, e3.chg c⟩, h.sv.lst hp, ⟨zs, by rw [upd_ne (Ne.symm ne)]; exact e4, e5.chg c⟩, h.n8, h.fn, h.f1, h.bf, h.bl⟩
theorem RestAt.ext (h : RestAt CR CS CT fm H r so dc dp kn T n k f bs known) {xs ys : List V} {more : List Kn} (hp : H kn = some (.lst xs)) (hy : TDs H ys (more.map knD)) : RestAt CR CS CT fm (upd H kn (.lst (xs ++ ys))) r so dc dp kn T n k f bs (known ++ more) := by
  have c : Chg [kn] H (upd H kn (.lst (xs ++ ys))) := Chg.refl.lst hp (by simp)
  obtain ⟨dx, t, bv, e1, e2, e3⟩ := h.has
  obtain ⟨zs, e4, e5⟩ := h.ls
  rw [hp] at e4
  injection e4 with e4
  injection e4 with e4
  subst e4
  refine ⟨⟨dx, t, bv, c.inss _ _ _ _ e1, e2.chg c, e3.chg c⟩, h.sv.lst hp, ⟨_, upd_same, ?_⟩, h.n8, h.fn, h.f1, h.bf, h.bl⟩
  rw [List.map_append]
  exact (e5.chg c).app (hy.chg c)
end
theorem waysTo_take {T : Tk} {k : Nat} {bs : List Nat} {known : List Kn} {h i : Nat} {e : Kn} (he : known[i]? = some e) : waysTo T k bs (known.take (i + 1)) h = waysTo T k bs (known.take i) h ++ ((btw T (k - e.m) e.t1 h).map fun x => (e.m, ((e.c + x.1 + elk T (bs.take e.m) e.t1 h, e.p ++ x.2) : PP))).toList := by
  unfold waysTo
  rw [List.take_succ, he, Option.toList_some, List.filterMap_append]
  congr 1
theorem waysTo_len {T : Tk} {k : Nat} {bs : List Nat} {known : List Kn} {h : Nat} : (waysTo T k bs known h).length ≤ known.length := List.length_filterMap_le _ _
def spWays (CR CS CT fm : Addr) : Sp := fun vs H Q _ => ∃ (r so dc dp kn : Addr) (T : Tk) (n k f : Nat) (bs : List Nat) (known : List Kn) (h : Nat), vs = [.ref r, .int (h : Nat)] ∧
  RestAt CR CS CT fm H r so dc dp kn T n k f bs known ∧ KnOk f h bs known ∧ f ≤ h ∧ h ≤ n ∧
  ∀ L H' xs, H L = none → Chg [dc, dp] H H' → RestAt CR CS CT fm H' r so dc dp kn T n k f bs known → H' L = some (.lst xs) → TDs H' xs ((waysTo T k bs known h).map wD) → Q (.ref L) H'
section
variable {P : Program} {w : World} {K : PySem.W.Frag} {mg : Str → Option Value} {base : Heap} {CR CS CT fm : Addr} {k0 : Nat}
theorem scWays : FnScope ["self", "hour", "found", "ahead", "many", "cost", "plan", "more", "paid"] ["self", "hour"] (defScope sWays) := ⟨rfl, rfl, rfl, by decide +kernel, rfl, by decide +kernel, by decide +kernel⟩
theorem ok_ways {f : Addr} {fd : FuncData} (F : Fun K "ways_to" "Rest.ways_to" sWays f fd) (B : Bt mg) (R : RTxt K CR) (h0 : 2 ≤ k0) (cB : Fd P w K mg base k0 "between" (spBetween CS CT fm)) (cE : Mt P w K mg base 2 CR "elder_looks" (spElder CR CS CT fm)) :
    FnOk P w K mg base CX0 (k0 + 1) f fd ["self", "hour"] (spWays CR CS CT fm) := by
  refine F.ok scWays (fun vs H Q E h => ?_) (fun cdv A outer s H vs Q E hr h => ?_)
  · obtain ⟨r, so, dc, dp, kn, T, n, k, f, bs, known, h, rfl, _⟩ := h
    rfl
  obtain ⟨r, so, dc, dp, kn, Tt, n, k, ff, bs, known, h, rfl, hR, hK, hfh, hhn, q⟩ := h
  obtain ⟨dx, t, bv, hor, ht, hbv⟩ := id hR.has
  obtain ⟨ks, hks, hkd⟩ := id hR.ls
  refine ⟨_, pss_cons (ps_set (i := 2) scWays.nd rfl (Or.inl rfl) (pe_lst pa_nil))
    (pss_cons (ps_for PassesOwn.never rfl (pi_list (pe_fld (pv 0) rfl))
      (pg_tup rfl (pgs_cons (pg_name (i := 3) scWays.nd rfl (.inl rfl)) (pgs_cons (pg_name (i := 4) scWays.nd rfl (.inl rfl)) (pgs_cons (pg_name (i := 5) scWays.nd rfl (.inl rfl)) (pgs_cons (pg_name (i := 6) scWays.nd rfl (.inl rfl)) pgs_nil)))))
      (pss_cons (ps_set (i := 7) scWays.nd rfl (Or.inl rfl) (pe_f cB hr (Nat.le_refl _) rfl (pa_cons (pe_fld (pv 0) rfl) (pa_cons (pe_op op_sub (pe_fld (pv 0) rfl) (pv 4)) (pa_cons (pe_op op_add (pv 3) pe_int) (pa_cons (pe_op op_sub (pv 1) pe_int) pa_nil))))))
      (pss_one (ps_if (pt_cmpR op_notN (pv 7) pe_non (nomark _))
        (pss_cons (ps_set (i := 8) scWays.nd rfl (Or.inl rfl) (pe_op op_add (pe_op op_add (pv 5) (pe_ix ix_tup (pv 7) pe_int (fun _ _ => rfl))) (pe_m cE hr h0 (pv 0) (pa_cons (pv 4) (pa_cons (pe_op op_add (pv 3) pe_int) (pa_cons (pe_op op_sub (pv 1) pe_int) pa_nil))))))
        (pss_one (ps_expr (pe_bm PySem.F.plainAttrs_list PySem.F.slot_list_append PySem.F.type_list_append mt_append (pv 2) (pa_cons (pe_tup (pa_cons (pv 4) (pa_cons (pv 8) (pa_cons (pe_op op_catA (pv 6) (pe_ix ix_tup (pv 7) pe_int (fun _ _ => rfl))) pa_nil)))) pa_nil))))) pss_nil))))
    (pss_one (ps_ret (pv 2)))), ?_⟩
  refine ⟨by show 0 ≤ sizeLine; decide, fun fo hfo => ?_⟩
  have c1 : Chg [] H (upd H fo (.lst [])) := Chg.new hfo
  have R1 := hR.pure c1
  have hfo1 : upd H fo (.lst []) fo = some (.lst []) := upd_same
  have hks1 := c1.at hks
  have nfk : fo ≠ kn := Ne.symm (ne_of_none hks hfo)
  have hor1 := c1.at hor
  generalize upd H fo (.lst []) = H1 at *
  refine ⟨_, rfl, r, CR, dx, _, _, rfl, hor1, R.cl, R.nK, rsF_known _ _ _ _ _ _, kn, rfl, ⟨_, SqL.of hks1⟩, for_list (K := K) (a := kn) (xs := ks) (fun i σ H' => (∃ u1 u2 u3 u4 u5 u6, σ = [some (.ref r), some (.int (h : Nat)), some (.ref fo), u1, u2, u3, u4, u5, u6]) ∧
      Chg [fo, dc, dp] H1 H' ∧ RestAt CR CS CT fm H' r so dc dp kn Tt n k ff bs known ∧ H' kn = some (.lst ks) ∧ TDs H' ks (known.map knD) ∧ ∃ xs, H' fo = some (.lst xs) ∧ TDs H' xs ((waysTo Tt k bs (known.take i) h).map wD)) ⟨⟨_, _, _, _, _, _, rfl⟩, Chg.refl, R1, hks1, hkd.chg c1, [], hfo1, .nil⟩ ?_ ?_ ?_⟩
  · intro i σ H' _ ⟨_, _, _, hk', _⟩
    exact SqL.of hk'
  · intro i x σ H2 hx ⟨⟨u1, u2, u3, u4, u5, u6, es⟩, c2, R2, hk2, hkd2, xs, hxs, hds⟩
    subst es
    obtain ⟨d, hd, hxd⟩ := hkd2.got hx
    rw [List.getElem?_map] at hd
    obtain ⟨e, he, rfl⟩ := Option.map_eq_some_iff.mp hd
    obtain ⟨a1, a2, a3, a4⟩ := hK.ok e (List.mem_of_getElem? he)
    obtain ⟨tp, ys, rfl, htp, hys⟩ := hxd.tup_inv
    cases hys with
    | cons y1 hys =>
    obtain rfl := y1.int_inv
    cases hys with
    | cons y2 hys =>
    obtain rfl := y2.int_inv
    cases hys with
    | cons y3 hys =>
    obtain rfl := y3.int_inv
    cases hys with
    | cons y4 hys =>
    cases hys
    rename_i vp
    refine ⟨tp, _, rfl, SqT.of htp, rfl, _, _, rfl, _, _, rfl, _, _, rfl, _, _, rfl, rfl, ?_⟩
    obtain ⟨dx2, t2, bv2, hor2, ht2, hbv2⟩ := id R2.has
    refine ⟨_, rfl, r, CR, dx2, _, _, rfl, hor2, R.cl, R.nS, rsF_solver _ _ _ _ _ _, _, rfl, r, CR, dx2, _, _, rfl, hor2, R.cl, R.nM, rsF_most _ _ _ _ _ _, _, rfl, _, _, rfl, rfl, _, rfl, _, _, rfl, rfl, _, rfl, _, _, rfl, rfl,
      so, dc, dp, Tt, n, e.t1, h, (k : Int) - (e.m : Nat), (h : Int) - 1, (by
        show [V.ref so, V.int ((k : Int) - (e.m : Nat)), V.int ((e.t1 : Int) - 1 + 1), V.int ((h : Int) - 1)] = _
        rw [show (e.t1 : Int) - 1 + 1 = (e.t1 : Nat) by omega]), rfl, R2.sv, a2, hhn, R2.n8, fun v H3 c3 S3 hv => ?_⟩
    rw [show ((k : Int) - (e.m : Nat)).toNat = k - e.m by omega] at hv
    have R3 := R2.step c3 S3
    have hk3 := c3.keep _ _ hk2 (R2.sv.nin hk2)
    have hxs3 := c3.keep _ _ hxs (R2.sv.nin hxs)
    have c13 : Chg [fo, dc, dp] H1 H3 := c2.trans (c3.mono fun b hb => List.mem_cons_of_mem _ hb)
    refine ⟨_, rfl, rfl, _, rfl, ?_⟩
    rcases hv with ⟨hn, rfl⟩ | ⟨x, hx', hxd⟩
    · refine iteF ?_
      refine ⟨⟨_, _, _, _, _, _, rfl⟩, c13, R3, hk3, hkd2.chg c3, xs, hxs3, ?_⟩
      rw [waysTo_take he, hn]
      simpa using hds.chg c3
    · obtain ⟨tx, zs, rfl, htx, hzs⟩ := hxd.tup_inv
      cases hzs with
      | cons z1 hzs =>
      obtain rfl := z1.int_inv
      cases hzs with
      | cons z2 hzs =>
      cases hzs
      rename_i vq
      refine iteT ?_
      obtain ⟨dx3, t3, bv3, hor3, ht3, hbv3⟩ := id R3.has
      refine ⟨_, rfl, _, rfl, tx, _, _, _, rfl, rfl, SqT.of htx, atI_nat (j := 0) rfl, _, _, rfl, rfl, _, rfl, r, dx3, _, rfl, hor3, rsF_no _ _ _ _ _ _ (by decide +kernel) (by decide +kernel) (by decide +kernel) (by decide +kernel) (by decide +kernel) (by decide +kernel), _, rfl, _, rfl, _, _, rfl, rfl, _, rfl, _, _, rfl, rfl,
        r, so, dc, dp, kn, Tt, n, k, ff, bs, known, e.m, e.t1, h, (h : Int) - 1, (by
          show [V.ref r, V.int (e.m : Nat), V.int ((e.t1 : Int) - 1 + 1), V.int ((h : Int) - 1)] = _
          rw [show (e.t1 : Int) - 1 + 1 = (e.t1 : Nat) by omega]), rfl, R3, a1, a2, hhn, a3, fun H4 c4 => ?_⟩
      have R4 := R3.pure c4
      refine ⟨_, _, rfl, rfl, ?_⟩
      refine ⟨_, rfl, .inl ⟨rfl, _, SqL.of (c4.at hxs3)⟩, _, rfl, _, rfl, _, rfl, _, rfl, tx, _, _, _, rfl, rfl, SqT.of (c4.at htx), atI_nat (j := 1) rfl, ?_⟩
      have lx := btw_len a2 hx'
      refine cat_plans ((y4.chg c3).chg c4) (z2.chg c4) (by have := R2.n8; omega) fun v5 H5 c5 hv5 => ?_
      refine ⟨by show 3 ≤ sizeLine; decide, fun p6 hp6 => ?_⟩
      have c6 : Chg [] H5 (upd H5 p6 (.tup [.int (e.m : Nat), .int (e.c + x.1 + elk Tt (bs.take e.m) e.t1 h), v5])) := Chg.new hp6
      have c46 := (c4.trans c5).trans c6
      have hxs6 := c46.at hxs3
      have hlen := hds.length
      rw [List.length_map] at hlen
      have hw := waysTo_len (T := Tt) (k := k) (bs := bs) (known := known.take i) (h := h)
      rw [List.length_take] at hw
      have hfew := hK.few
      have cL : Chg [fo] _ (upd (upd H5 p6 (.tup [.int (e.m : Nat), .int (e.c + x.1 + elk Tt (bs.take e.m) e.t1 h), v5])) fo (.lst (xs ++ [.ref p6]))) := Chg.refl.lst hxs6 (by simp)
      refine ⟨fo, _, _, rfl, rfl, hxs6, small1000 (by omega), ⟨_, _, _, _, _, _, rfl⟩, ?_, ?_, ?_, ?_, _, upd_same, ?_⟩
      · exact (c13.trans c46.pure).trans (cL.mono (by simp))
      · exact (R3.pure c46).lst hxs6 nfk
      · rw [upd_ne (Ne.symm nfk)]
        exact c46.at hk3
      · exact ((hkd2.chg c3).chg c46).chg cL
      · rw [waysTo_take he, hx', List.map_append]
        refine (((hds.chg c3).chg c46).chg cL).snoc (TD.chg ?_ cL)
        exact .tup upd_same (.cons (.int _) (.cons (.int _) (.cons (hv5.chg c6) .nil)))
  · rintro σ H2 ⟨⟨u1, u2, u3, u4, u5, u6, es⟩, c2, R2, hk2, hkd2, xs, hxs, hds⟩
    subst es
    have hl := hkd2.length
    rw [List.length_map] at hl
    rw [hl, List.take_length] at hds
    exact ⟨_, rfl, q fo H2 xs hfo ((c1.pure.trans c2).drop hfo) R2 hxs hds⟩
end
end K58
end
section
set_option Elab.async false
set_option linter.all false
set_option maxRecDepth 100000
set_option maxHeartbeats 4000000
/-! ### what is written at an hour -/
namespace K58
open PySem PySem.Spec PyProof.Rows L2
abbrev sWritten : Stmt := inClass (top 38) 3
theorem ways_len {T : Tk} {k f h : Nat} {bs : List Nat} {known : List Kn} (K : KnOk f h bs known) : ∀ w ∈ waysTo T k bs known h, w.2.2.length = h := by
  intro w hw
  unfold waysTo at hw
  obtain ⟨e, he, hx⟩ := List.mem_filterMap.mp hw
  obtain ⟨x, hb, rfl⟩ := Option.map_eq_some_iff.mp hx
  obtain ⟨h1, h2, h3, h4⟩ := K.ok e he
  have h5 := btw_len h2 hb
  show (e.p ++ x.2).length = h
  rw [List.length_append]
  omega
theorem some_len {T : Tk} {k f h : Nat} {bs : List Nat} {known : List Kn} {a : Nat} (K : KnOk f h bs known) : ∀ x ∈ someOf (waysTo T k bs known h) a, x.2.length = h := by
  intro x hx
  unfold someOf at hx
  obtain ⟨w, hw, rfl⟩ := List.mem_map.mp hx
  exact ways_len K w (List.mem_filter.mp hw).1
theorem writtenA_ok {T : Tk} {k f h : Nat} {bs : List Nat} {known : List Kn} {a : Nat} {e : Kn} (K : KnOk f h bs known) (ha : a < bs.length) (he : writtenA T bs (waysTo T k bs known h) h a = some e) : e.t1 = h + 1 ∧ e.m ≤ bs.length ∧ e.p.length = h + 1 := by
  unfold writtenA at he
  by_cases hs : someOf (waysTo T k bs known h) a = []
  · rw [if_pos hs] at he
    cases he
  · rw [if_neg hs] at he
    cases he
    refine ⟨rfl, ha, ?_⟩
    show ((minP (someOf (waysTo T k bs known h) a)).2 ++ [bs.getD a 0]).length = h + 1
    rw [List.length_append, some_len K _ (minP_mem hs), List.length_singleton]
theorem writtenAt_ok {T : Tk} {k f h : Nat} {bs : List Nat} {known : List Kn} (K : KnOk f h bs known) : ∀ e ∈ writtenAt T k bs known h, e.t1 = h + 1 ∧ e.m ≤ bs.length ∧ e.p.length = h + 1 := by
  intro e he
  obtain ⟨a, ha, hx⟩ := List.mem_filterMap.mp he
  exact writtenA_ok K (by have := List.mem_range.mp ha; omega) hx
theorem writtenAt_len {T : Tk} {k h : Nat} {bs : List Nat} {known : List Kn} : (writtenAt T k bs known h).length ≤ bs.length := by
  refine Nat.le_trans (List.length_filterMap_le _ _) ?_
  rw [List.length_range]
  omega
theorem someOf_take {ws : List (Nat × PP)} {i a : Nat} {w : Nat × PP} (h : ws[i]? = some w) : someOf (ws.take (i + 1)) a = someOf (ws.take i) a ++ (if w.1 > a then [w.2] else []) := by
  unfold someOf
  rw [List.take_succ, h, Option.toList_some, List.filter_append, List.map_append]
  by_cases c : w.1 > a <;> simp [c]
def spWritten (CR CS CT fm : Addr) : Sp := fun vs H Q _ => ∃ (r so dc dp kn : Addr) (T : Tk) (n k f : Nat) (bs : List Nat) (known : List Kn) (h : Nat), vs = [.ref r, .int (h : Nat)] ∧
  RestAt CR CS CT fm H r so dc dp kn T n k f bs known ∧ KnOk f h bs known ∧ f ≤ h ∧ h < n ∧
  ∀ L H' xs, H L = none → Chg [dc, dp] H H' → RestAt CR CS CT fm H' r so dc dp kn T n k f bs known → H' L = some (.lst xs) → TDs H' xs ((writtenAt T k bs known h).map knD) → Q (.ref L) H'
section
variable {P : Program} {w : World} {K : PySem.W.Frag} {mg : Str → Option Value} {base : Heap} {CR CS CT fm : Addr} {k0 : Nat}
theorem scWritten : FnScope ["self", "hour", "ways", "found", "at", "some", "many", "cost", "plan", "more"] ["self", "hour"] (defScope sWritten) := ⟨rfl, rfl, rfl, by decide +kernel, rfl, by decide +kernel, by decide +kernel⟩
theorem min_two (m k : Nat) : (if (k : Int) < (m : Int) then (k : Int) else (m : Int)) = ((min m k : Nat) : Int) := by
  split <;> omega
theorem ok_written {f : Addr} {fd : FuncData} (F : Fun K "written_at" "Rest.written_at" sWritten f fd) (B : Bt mg) (R : RTxt K CR) (h0 : 2 ≤ k0) (cY : Mt P w K mg base k0 CR "ways_to" (spWays CR CS CT fm)) (cE : Mt P w K mg base 2 CR "elder_looks" (spElder CR CS CT fm))
    (cW : Fd P w K mg base 1 "write_of" (spWriteOf CT)) : FnOk P w K mg base CX0 (k0 + 1) f fd ["self", "hour"] (spWritten CR CS CT fm) := by
  refine F.ok scWritten (fun vs H Q E h => ?_) (fun cdv A outer s H vs Q E hr h => ?_)
  · obtain ⟨r, so, dc, dp, kn, T, n, k, f, bs, known, h, rfl, _⟩ := h
    rfl
  obtain ⟨r, so, dc, dp, kn, Tt, n, k, ff, bs, known, h, rfl, hR, hK, hfh, hhn, q⟩ := h
  obtain ⟨dx, t, bv, hor, ht, hbv⟩ := id hR.has
  refine ⟨_, pss_cons (ps_set (i := 2) scWritten.nd rfl (Or.inl rfl) (pe_m cY hr (Nat.le_refl _) (pv 0) (pa_cons (pv 1) pa_nil)))
    (pss_cons (ps_set (i := 3) scWritten.nd rfl (Or.inl rfl) (pe_lst pa_nil))
    (pss_cons (ps_for PassesOwn.never rfl (pi_range1 (by rfl) B.rng (pa_cons (pe_callB (call_min2 rfl) (by rfl) B.min (by decide +kernel) (pa_cons (pe_callB call_len_seq (by rfl) B.len PySem.boot_len (pa_cons (pe_fld (pv 0) rfl) pa_nil)) (pa_cons (pe_fld (pv 0) rfl) pa_nil))) pa_nil))
      (pg_name (i := 4) scWritten.nd rfl (.inr rfl))
      (pss_cons (ps_setLc (i := 5) (own := [("many", 6), ("cost", 7), ("plan", 8)]) (g := gTup K 3 (gCons (gName 6) (gCons (gName 7) (gCons (gName 8) gNil)))) rfl scWritten.nd rfl rfl (sw_true rfl rfl rfl (by decide +kernel)) (pi_list (pv 2))
        (blkOk_by (N := ["self", "hour", "ways", "found", "at", "some", "many", "cost", "plan", "more"]) (sc := defScope sWritten) (by decide +kernel))
        (fun _ _ _ _ _ => pg_tup rfl (pgs_cons (pg_name (i := 6) scWritten.nd rfl (Or.inl rfl)) (pgs_cons (pg_name (i := 7) scWritten.nd rfl (Or.inl rfl)) (pgs_cons (pg_name (i := 8) scWritten.nd rfl (Or.inl rfl)) pgs_nil))))
        (fun _ _ _ _ _ => pts_one (pt_cmpR op_gt (pv 6) (pv 4) (nomark _)))
        (fun _ _ _ _ _ => pe_tup (pa_cons (pv 7) (pa_cons (pv 8) pa_nil))))
      (pss_one (ps_if (pt_cmpR op_gt (pe_callB call_len_seq (by rfl) B.len PySem.boot_len (pa_cons (pv 5) pa_nil)) pe_int (nomark _))
        (pss_cons (ps_asg (pe_callB (cr_minD rfl hr.units) (by rfl) B.min (by decide +kernel) (pa_cons (pv 5) pa_nil)) (pg_tup rfl (pgs_cons (pg_name (i := 7) scWritten.nd rfl (.inl rfl)) (pgs_cons (pg_name (i := 8) scWritten.nd rfl (.inl rfl)) pgs_nil))))
        (pss_cons (ps_set (i := 9) scWritten.nd rfl (Or.inl rfl) (pe_op op_add (pe_f cW hr (by omega) rfl (pa_cons (pe_fld (pv 0) rfl) (pa_cons (pe_ix ix_tup (pe_fld (pv 0) rfl) (pv 4) (fun _ _ => rfl)) (pa_cons (pv 1) pa_nil))))
            (pe_m cE hr h0 (pv 0) (pa_cons (pe_op op_add (pv 4) pe_int) (pa_cons (pv 1) (pa_cons (pv 1) pa_nil))))))
        (pss_one (ps_expr (pe_bm PySem.F.plainAttrs_list PySem.F.slot_list_append PySem.F.type_list_append mt_append (pv 3) (pa_cons (pe_tup (pa_cons (pv 1) (pa_cons (pe_op op_add (pv 4) pe_int) (pa_cons (pe_op op_add (pv 7) (pv 9)) (pa_cons (pe_op op_catA (pv 8) (pe_tup (pa_cons (pe_ix ix_tup (pe_fld (pv 0) rfl) (pv 4) (fun _ _ => rfl)) pa_nil))) pa_nil))))) pa_nil)))))) pss_nil))))
    (pss_one (ps_ret (pv 3))))), ?_⟩
  -- ways = self.ways_to(hour)
  refine ⟨_, rfl, r, dx, _, rfl, hor, rsF_no _ _ _ _ _ _ (by decide +kernel) (by decide +kernel) (by decide +kernel) (by decide +kernel) (by decide +kernel) (by decide +kernel), _, rfl, r, so, dc, dp, kn, Tt, n, k, ff, bs, known, h, rfl, hR, hK, hfh, by omega, fun L H1 ws hL c1 R1 hl1 hd1 => ?_⟩
  -- found = []
  refine ⟨by show 0 ≤ sizeLine; decide, fun fo hfo => ?_⟩
  obtain ⟨ks, hks, hkd⟩ := id R1.ls
  have nfk : fo ≠ kn := Ne.symm (ne_of_none hks hfo)
  have nfL : fo ≠ L := Ne.symm (ne_of_none hl1 hfo)
  have c12 : Chg [] H1 (upd H1 fo (.lst [])) := Chg.new hfo
  have fo0 : H fo = none := by
    refine c1.free hfo fun b hb => ?_
    obtain ⟨kc, h1, _⟩ := R1.sv.cs
    obtain ⟨kp, h2, _⟩ := R1.sv.ps
    simp only [List.mem_cons, List.not_mem_nil, or_false] at hb
    rcases hb with rfl | rfl
    · exact ⟨_, h1⟩
    · exact ⟨_, h2⟩
  have R2 := R1.pure c12
  have hf2 : upd H1 fo (.lst []) fo = some (.lst []) := upd_same
  have hl2 := c12.at hl1
  have hd2 := hd1.chg c12
  have c02 : Chg [dc, dp] H (upd H1 fo (.lst [])) := c1.trans c12.pure
  generalize upd H1 fo (.lst []) = H2 at *
  obtain ⟨dx2, t2, bv2, hor2, ht2, hbv2⟩ := id R2.has
  obtain ⟨ab, rfl, hab⟩ := hbv2.pD_inv
  -- for at in range(min(len(self.begins), self.most))
  refine ⟨_, rfl, r, CR, dx2, _, _, rfl, hor2, R.cl, R.nB, rsF_begins _ _ _ _ _ _, ab, _, rfl, .inr (SqT.of hab), _, rfl, r, CR, dx2, _, _, rfl, hor2, R.cl, R.nM, rsF_most _ _ _ _ _ _, ?_⟩
  rw [nV_len]
  refine ⟨_, _, rfl, _, rfl, ?_⟩
  rw [min_two]
  have hbl := hR.bl
  have hn8 := hR.n8
  refine ⟨by omega, by omega, for_range (lo := 0) (n := ((min bs.length k : Nat) : Int).toNat) (fun i σ H' => (∃ u4 u5 u6 u7 u8 u9, σ = [some (.ref r), some (.int (h : Nat)), some (.ref L), some (.ref fo), u4, u5, u6, u7, u8, u9]) ∧
      Chg [fo] H2 H' ∧ RestAt CR CS CT fm H' r so dc dp kn Tt n k ff bs known ∧ H' L = some (.lst ws) ∧ TDs H' ws ((waysTo Tt k bs known h).map wD) ∧
      ∃ xs, H' fo = some (.lst xs) ∧ TDs H' xs (((List.range i).filterMap (writtenA Tt bs (waysTo Tt k bs known h) h)).map knD)) ⟨⟨_, _, _, _, _, _, rfl⟩, Chg.refl, R2, hl2, hd2, [], hf2, .nil⟩ ?_ ?_⟩
  · rintro a σ H3 ha ⟨⟨u4, u5, u6, u7, u8, u9, es⟩, c3, R3, hl3, hd3, xs, hxs, hds⟩
    subst es
    have ha : a < min bs.length k := by omega
    rw [show (0 : Int) + (a : Nat) = ((a : Nat) : Int) by omega]
    -- some = [(cost, plan) for many, cost, plan in ways if many > at]
    refine ⟨_, rfl, L, rfl, ⟨_, SqL.of hl3⟩, fun D hD => lc_list (K := K) (a := L) (xs := ws) (fun i H' => Chg [] H3 H' ∧ ∃ zs, H' D = some (.lst zs) ∧ TDs H' zs ((someOf ((waysTo Tt k bs known h).take i) a).map cD))
      ⟨Chg.new hD, [], upd_same, .nil⟩ (fun i H' _ z => SqL.of (z.1.at hl3)) ?_ ?_⟩
    · intro i x H4 hx ⟨c4, zs, hzs, hdz⟩
      obtain ⟨d, hdd, hxd⟩ := (hd3.chg c4).got hx
      rw [List.getElem?_map] at hdd
      obtain ⟨w', hw', rfl⟩ := Option.map_eq_some_iff.mp hdd
      obtain ⟨tp, ys, rfl, htp, hys⟩ := hxd.tup_inv
      cases hys with
      | cons y1 hys =>
      obtain rfl := y1.int_inv
      cases hys with
      | cons y2 hys =>
      obtain rfl := y2.int_inv
      cases hys with
      | cons y3 hys =>
      cases hys
      rename_i vp
      refine ⟨tp, _, rfl, SqT.of htp, rfl, _, _, rfl, _, _, rfl, _, _, rfl, rfl, rfl, _, rfl, _, rfl, _, _, rfl, rfl, _, rfl, ?_⟩
      by_cases c : w'.1 > a
      · rw [decide_eq_true (show ((w'.1 : Nat) : Int) > ((a : Nat) : Int) by omega)]
        refine ⟨_, rfl, _, rfl, by show 2 ≤ sizeLine; decide, fun p hp => ?_⟩
        have c5 : Chg [] H4 (upd H4 p (.tup [.int w'.2.1, vp])) := Chg.new hp
        have hfew := hK.few
        have hz := hdz.length
        rw [List.length_map] at hz
        have hz2 : (someOf ((waysTo Tt k bs known h).take i) a).length ≤ 100 := by
          unfold someOf
          rw [List.length_map]
          refine Nat.le_trans (List.length_filter_le _ _) ?_
          rw [List.length_take]
          have := waysTo_len (T := Tt) (k := k) (bs := bs) (known := known) (h := h)
          omega
        have cL := (c4.trans c5).put (o := .lst (zs ++ [.ref p])) hD
        refine ⟨_, c5.at hzs, small1000 (by omega), cL, _, upd_same, ?_⟩
        rw [someOf_take hw', if_pos c, List.map_append]
        have cq : Chg [D] (upd H4 p (.tup [.int w'.2.1, vp])) (upd (upd H4 p (.tup [.int w'.2.1, vp])) D (.lst (zs ++ [.ref p]))) := Chg.refl.lst (c5.at hzs) (by simp)
        exact ((hdz.chg c5).chg cq).snoc (TD.chg (.tup upd_same (.cons (.int _) (.cons (y3.chg c5) .nil))) cq)
      · rw [decide_eq_false (show ¬ ((w'.1 : Nat) : Int) > ((a : Nat) : Int) by omega)]
        refine ⟨c4, zs, hzs, ?_⟩
        rw [someOf_take hw', if_neg c, List.append_nil]
        exact hdz
    · intro H4 ⟨c4, zs, hzs, hdz⟩
      have hw2 := hd3.length
      rw [List.length_map] at hw2
      rw [hw2, List.take_length] at hdz
      have hz := hdz.length
      rw [List.length_map] at hz
      have R4 := R3.pure c4
      have hl4 := c4.at hl3
      have hd4 := hd3.chg c4
      have hxs4 := c4.at hxs
      have hds4 := hds.chg c4
      have c24 : Chg [fo] H2 H4 := c3.trans c4.pure
      -- if len(some) > 0
      refine ⟨_, rfl, D, _, rfl, .inl (SqL.of hzs), _, _, rfl, rfl, _, rfl, ite2 (fun c => ?_) (fun c => ?_)⟩
      · have hpos : 0 < zs.length := by
          have := of_decide_eq_true c
          omega
        have hne : someOf (waysTo Tt k bs known h) a ≠ [] := by
          intro z
          rw [z] at hz
          simp at hz
          rw [hz] at hpos
          simp at hpos
        have eA : writtenA Tt bs (waysTo Tt k bs known h) h a = some ⟨h + 1, a + 1, (minP (someOf (waysTo Tt k bs known h) a)).1 + (Tt.W (bs.getD a 0) h + elk Tt (bs.take (a + 1)) h (h + 1)), (minP (someOf (waysTo Tt k bs known h) a)).2 ++ [bs.getD a 0]⟩ := by
          unfold writtenA
          rw [if_neg hne]
        have hml := some_len hK _ (minP_mem hne)
        refine ⟨_, rfl, ?_⟩
        dsimp only [tNil]
        refine min_pairs hzs hdz hne fun v hv => ?_
        generalize minP (someOf (waysTo Tt k bs known h) a) = mn at *
        obtain ⟨tv, zs', rfl, htv, hzs'⟩ := hv.tup_inv
        cases hzs' with
        | cons y1 hys =>
        obtain rfl := y1.int_inv
        cases hys with
        | cons y2 hys =>
        cases hys
        rename_i vp
        refine ⟨tv, _, rfl, SqT.of htv, rfl, _, _, rfl, _, _, rfl, rfl, ?_⟩
        have hb : bs[a]? = some (bs.getD a 0) := by
          rw [List.getD_eq_getElem?_getD, List.getElem?_eq_getElem (by omega)]
          rfl
        have hbh : bs.getD a 0 < ff := hR.bf _ (List.mem_of_getElem? hb)
        generalize bs.getD a 0 = b at *
        obtain ⟨dx4, t4, bv4, hor4, ht4, hbv4⟩ := id R4.has
        obtain ⟨ab4, rfl, hab4⟩ := hbv4.pD_inv
        refine ⟨_, rfl, r, CR, dx4, _, _, rfl, hor4, R.cl, R.nT, rsF_task _ _ _ _ _ _, _, rfl, r, CR, dx4, _, _, rfl, hor4, R.cl, R.nB, rsF_begins _ _ _ _ _ _, _, rfl, ab4, _, _, _, rfl, rfl, SqT.of hab4, atI_nat (j := a) (nV_at hb), _, rfl, t4, Tt, n, b, h, rfl, ht4, by omega, hhn, ?_⟩
        refine ⟨_, rfl, r, dx4, _, rfl, hor4, rsF_no _ _ _ _ _ _ (by decide +kernel) (by decide +kernel) (by decide +kernel) (by decide +kernel) (by decide +kernel) (by decide +kernel), _, rfl, _, _, rfl, rfl, _, rfl, _, rfl,
          r, so, dc, dp, kn, Tt, n, k, ff, bs, known, a + 1, h, h + 1, (h : Int), rfl, by omega, R4, hfh, Nat.le_succ h, hhn, by omega, fun H5 c5 => ?_⟩
        refine ⟨_, _, rfl, rfl, ?_⟩
        have hxs5 := c5.at hxs4
        have R5 := R4.pure c5
        obtain ⟨dx5, t5, bv5, hor5, ht5, hbv5⟩ := id R5.has
        obtain ⟨ab5, rfl, hab5⟩ := hbv5.pD_inv
        refine ⟨_, rfl, .inl ⟨rfl, _, SqL.of hxs5⟩, _, rfl, _, rfl, _, _, rfl, rfl, _, rfl, _, rfl, _, _, rfl, rfl, _, rfl, _, rfl, r, CR, dx5, _, _, rfl, hor5, R.cl, R.nB, rsF_begins _ _ _ _ _ _, _, rfl, ab5, _, _, _, rfl, rfl, SqT.of hab5, atI_nat (j := a) (nV_at hb), by show 1 ≤ sizeLine; decide, fun p6 hp6 => ?_⟩
        have c6 : Chg [] H5 (upd H5 p6 (.tup [.int (b : Nat)])) := Chg.new hp6
        refine cat_plans ((y2.chg c5).chg c6) (q := [b]) (.tup upd_same (.cons (.int _) .nil)) (by rw [List.length_singleton]; omega) fun v7 H7 c7 hv7 => ?_
        refine ⟨by show 4 ≤ sizeLine; decide, fun p8 hp8 => ?_⟩
        have c8 : Chg [] H7 (upd H7 p8 (.tup [.int (h : Nat), .int ((a : Nat) + 1), .int (mn.1 + (Tt.W b h + elk Tt (bs.take (a + 1)) h (h + 1))), v7])) := Chg.new hp8
        have c58 := c5.trans ((c6.trans c7).trans c8)
        have hxs8 := c58.at hxs4
        have hlen := hds.length
        rw [List.length_map] at hlen
        have hlen2 := List.length_filterMap_le (writtenA Tt bs (waysTo Tt k bs known h) h) (List.range a)
        rw [List.length_range] at hlen2
        have cL : Chg [fo] _ (upd (upd H7 p8 (.tup [.int (h : Nat), .int ((a : Nat) + 1), .int (mn.1 + (Tt.W b h + elk Tt (bs.take (a + 1)) h (h + 1))), v7])) fo (.lst (xs ++ [.ref p8]))) := Chg.refl.lst hxs8 (by simp)
        refine ⟨fo, _, _, rfl, rfl, hxs8, small1000 (by omega), ⟨_, _, _, _, _, _, rfl⟩, ?_, ?_, ?_, ?_, _, upd_same, ?_⟩
        · exact (c24.trans c58.pure).trans cL
        · exact (R4.pure c58).lst hxs8 nfk
        · rw [upd_ne (Ne.symm nfL)]
          exact c58.at hl4
        · exact (hd4.chg c58).chg cL
        · rw [List.range_succ, List.filterMap_append, List.map_append]
          refine ((hds4.chg c58).chg cL).app ?_
          simp only [List.filterMap_cons, List.filterMap_nil, eA, List.map_cons, List.map_nil]
          refine .cons (TD.chg ?_ cL) .nil
          unfold knD
          rw [show ((h + 1 : Nat) : Int) - 1 = (h : Nat) by omega]
          exact .tup upd_same (.cons (.int _) (.cons (.int _) (.cons (.int _) (.cons (hv7.chg c8) .nil))))
      · have hz0 : someOf (waysTo Tt k bs known h) a = [] := by
          have : ¬ ((zs.length : Nat) : Int) > 0 := fun z => c (decide_eq_true z)
          refine List.eq_nil_of_length_eq_zero ?_
          omega
        refine ⟨⟨_, _, _, _, _, _, rfl⟩, c24, R4, hl4, hd4, xs, hxs4, ?_⟩
        rw [List.range_succ, List.filterMap_append]
        have eA : writtenA Tt bs (waysTo Tt k bs known h) h a = none := by
          unfold writtenA
          rw [if_pos hz0]
        simpa [eA] using hds4
  · rintro σ H3 ⟨⟨u4, u5, u6, u7, u8, u9, es⟩, c3, R3, hl3, hd3, xs, hxs, hds⟩
    subst es
    refine ⟨_, rfl, q fo H3 xs fo0 ?_ R3 hxs ?_⟩
    · exact ((c02.mono (N := fo :: [dc, dp]) fun b hb => List.mem_cons_of_mem _ hb).trans (c3.mono (by simp))).drop fo0
    · rw [show ((min bs.length k : Nat) : Int).toNat = min bs.length k by omega] at hds
      exact hds
end
end K58
end
section
set_option Elab.async false
set_option linter.all false
set_option maxRecDepth 100000
set_option maxHeartbeats 4000000
/-! ### the best rest -/
namespace K58
open PySem PySem.Spec PyProof.Rows L2
abbrev sBest : Stmt := inClass (top 38) 4
abbrev sRest : Stmt := top 39
theorem known_ok {T : Tk} {k f : Nat} {bs begun : List Nat} (hp : begun.length = f) (hb : bs.length ≤ 8) : ∀ i, i ≤ 8 → (∀ e ∈ knownAt T k bs begun f i, f ≤ e.t1 ∧ e.t1 ≤ f + i ∧ e.m ≤ bs.length ∧ e.p.length = e.t1) ∧ (knownAt T k bs begun f i).length ≤ 1 + 8 * i
  | 0, _ => by
    refine ⟨fun e he => ?_, Nat.le_refl _⟩
    rcases List.mem_singleton.mp he with rfl
    exact ⟨Nat.le_refl _, Nat.le_refl _, Nat.le_refl _, hp⟩
  | i + 1, hi => by
    obtain ⟨h1, h2⟩ := known_ok hp hb i (by omega)
    refine ⟨fun e he => ?_, ?_⟩
    · rcases List.mem_append.mp he with he | he
      · obtain ⟨a1, a2, a3, a4⟩ := h1 e he
        exact ⟨a1, by omega, a3, a4⟩
      · obtain ⟨a1, a2, a3⟩ := writtenAt_ok (f := f) (h := f + i) ⟨h1, by omega⟩ e he
        exact ⟨by omega, by omega, a2, by omega⟩
    · show (knownAt T k bs begun f i ++ writtenAt T k bs (knownAt T k bs begun f i) (f + i)).length ≤ _
      rw [List.length_append]
      have := writtenAt_len (T := T) (k := k) (h := f + i) (bs := bs) (known := knownAt T k bs begun f i)
      omega
theorem known_okK {T : Tk} {k f i : Nat} {bs begun : List Nat} (hp : begun.length = f) (hb : bs.length ≤ 8) (hi : i ≤ 8) : KnOk f (f + i) bs (knownAt T k bs begun f i) :=
  ⟨(known_ok hp hb i hi).1, by have := (known_ok (T := T) (k := k) hp hb i hi).2; omega⟩
def spBest (CR CS CT fm : Addr) : Sp := fun vs H Q _ => ∃ (r so dc dp kn : Addr) (T : Tk) (n k f : Nat) (bs begun : List Nat), vs = [.ref r] ∧ 1 ≤ k ∧ begun.length = f ∧
  RestAt CR CS CT fm H r so dc dp kn T n k f bs (knownAt T k bs begun f 0) ∧ ∀ v H', Chg [kn, dc, dp] H H' → TD H' v (cD (bestOf T k bs begun f n)) → Q v H'
def spRest (CT : Addr) : Sp := fun vs H Q _ => ∃ (t : Addr) (T : Tk) (n k : Nat) (v : V) (p : List Nat), vs = [.ref t, .int (k : Nat), v] ∧ TaskAt CT H t T n ∧ TD H v (pD p) ∧ ValidP p ∧ 1 ≤ k ∧ k ≤ 30 ∧ 1 ≤ p.length ∧ p.length < n ∧ n ≤ 8 ∧
  ∀ v H', Chg [] H H' → TD H' v (cD (bestOf T k (stkOf p) p p.length n)) → Q v H'
section
variable {P : Program} {w : World} {K : PySem.W.Frag} {mg : Str → Option Value} {base : Heap} {CR CS CT fm : Addr} {k0 : Nat}
theorem scBest : FnScope ["self", "hours", "hour", "many", "cost", "plan"] ["self"] (defScope sBest) := ⟨rfl, rfl, rfl, by decide +kernel, rfl, by decide +kernel, by decide +kernel⟩
theorem ok_best {f : Addr} {fd : FuncData} (F : Fun K "best" "Rest.best" sBest f fd) (B : Bt mg) (R : RTxt K CR) (h0 : 1 ≤ k0) (cY : Mt P w K mg base k0 CR "ways_to" (spWays CR CS CT fm)) (cA : Mt P w K mg base k0 CR "written_at" (spWritten CR CS CT fm))
    (cN : Fd P w K mg base 1 "length_of" (spLenOf CT)) : FnOk P w K mg base CX0 (k0 + 1) f fd ["self"] (spBest CR CS CT fm) := by
  refine F.ok scBest (fun vs H Q E h => ?_) (fun cdv A outer s H vs Q E hr h => ?_)
  · obtain ⟨r, so, dc, dp, kn, T, n, k, f, bs, begun, rfl, _⟩ := h
    rfl
  obtain ⟨r, so, dc, dp, kn, Tt, n, k, ff, bs, begun, rfl, hk, hp, hR, q⟩ := h
  obtain ⟨dx, t, bv, hor, ht, hbv⟩ := id hR.has
  refine ⟨_, pss_cons (ps_set (i := 1) scBest.nd rfl (Or.inl rfl) (pe_f cN hr h0 rfl (pa_cons (pe_fld (pv 0) rfl) pa_nil)))
    (pss_cons (ps_for PassesOwn.never rfl (pi_range2 (by rfl) B.rng (pa_cons (pe_fld (pv 0) rfl) (pa_cons (pv 1) pa_nil))) (pg_name (i := 2) scBest.nd rfl (.inl rfl))
      (pss_one (ps_expr (pe_bm PySem.F.plainAttrs_list PySem.F.slot_list_extend PySem.F.type_list_extend mt_extend (pe_fld (pv 0) rfl) (pa_cons (pe_m cA hr (Nat.le_refl _) (pv 0) (pa_cons (pv 2) pa_nil)) pa_nil)))))
    (pss_one (ps_ret (pe_callB (cr_minD rfl hr.units) (by rfl) B.min (by decide +kernel) (pa_cons (pe_lc (own := [("many", 3), ("cost", 4), ("plan", 5)]) (g := gTup K 3 (gCons (gName 3) (gCons (gName 4) (gCons (gName 5) gNil)))) (tt := tYes) rfl scBest.nd
        (pi_list (pe_m cY hr (Nat.le_refl _) (pv 0) (pa_cons (pv 1) pa_nil)))
        (blkOk_by (N := ["self", "hours", "hour", "many", "cost", "plan"]) (sc := defScope sBest) (by decide +kernel))
        (fun _ _ _ _ _ => pg_tup rfl (pgs_cons (pg_name (i := 3) scBest.nd rfl (Or.inl rfl)) (pgs_cons (pg_name (i := 4) scBest.nd rfl (Or.inl rfl)) (pgs_cons (pg_name (i := 5) scBest.nd rfl (Or.inl rfl)) pgs_nil))))
        (fun _ _ _ _ _ => pts_nil)
        (fun _ _ _ _ _ => pe_tup (pa_cons (pv 4) (pa_cons (pv 5) pa_nil)))) pa_nil))))), ?_⟩
  refine ⟨_, rfl, r, CR, dx, _, _, rfl, hor, R.cl, R.nT, rsF_task _ _ _ _ _ _, t, Tt, n, rfl, ht, ?_⟩
  have hfn := hR.fn
  have hbl := hR.bl
  have hn8 := hR.n8
  refine ⟨_, rfl, r, CR, dx, _, _, rfl, hor, R.cl, R.nF, rsF_first _ _ _ _ _ _, _, rfl, _, _, rfl, ⟨by omega, by omega, by omega, by omega⟩, for_range (lo := (ff : Nat)) (n := ((n : Int) - (ff : Int)).toNat) (fun i σ H' => (∃ u2, σ = [some (.ref r), some (.int (n : Nat)), u2, none, none, none]) ∧
      Chg [kn, dc, dp] H H' ∧ RestAt CR CS CT fm H' r so dc dp kn Tt n k ff bs (knownAt Tt k bs begun ff i)) ⟨⟨_, rfl⟩, Chg.refl, hR⟩ ?_ ?_⟩
  · rintro i σ H1 hi ⟨⟨u2, es⟩, c1, R1⟩
    subst es
    obtain ⟨dx1, t1, bv1, hor1, ht1, hbv1⟩ := id R1.has
    obtain ⟨ks, hks, hkd⟩ := id R1.ls
    rw [show (ff : Int) + (i : Nat) = ((ff + i : Nat) : Int) by omega]
    refine ⟨_, rfl, r, CR, dx1, _, _, rfl, hor1, R.cl, R.nK, rsF_known _ _ _ _ _ _, .inl ⟨rfl, _, SqL.of hks⟩, _, rfl, r, dx1, _, rfl, hor1, rsF_no _ _ _ _ _ _ (by decide +kernel) (by decide +kernel) (by decide +kernel) (by decide +kernel) (by decide +kernel) (by decide +kernel), _, rfl, r, so, dc, dp, kn, Tt, n, k, ff, bs, _, ff + i, rfl, R1, known_okK hp (by omega) (by omega), by omega, by omega, fun L H2 ws hL c2 R2 hl2 hd2 => ?_⟩
    have hks2 := c2.keep _ _ hks (R1.sv.nin hks)
    have l1 := hkd.length
    have l2 := hd2.length
    rw [List.length_map] at l1 l2
    have l3 := (known_ok (T := Tt) (k := k) (f := ff) (bs := bs) (begun := begun) hp (by omega) i (by omega)).2
    have l4 := writtenAt_len (T := Tt) (k := k) (h := ff + i) (bs := bs) (known := knownAt Tt k bs begun ff i)
    refine ⟨kn, L, ks, ws, rfl, rfl, hks2, hl2, Nat.le_of_lt (small1000 (by omega)), ⟨_, rfl⟩, ?_, R2.ext hks2 hd2⟩
    exact (c1.trans (c2.mono fun b hb => List.mem_cons_of_mem _ hb)).lst hks2 (by simp)
  · rintro σ H1 ⟨⟨u2, es⟩, c1, R1⟩
    subst es
    rw [show ((n : Int) - (ff : Int)).toNat = n - ff by omega] at R1
    obtain ⟨dx1, t1, bv1, hor1, ht1, hbv1⟩ := id R1.has
    have hKO := known_okK (T := Tt) (k := k) (f := ff) (i := n - ff) (bs := bs) (begun := begun) hp (by omega) (by omega)
    rw [show ff + (n - ff) = n by omega] at hKO
    refine ⟨_, rfl, r, dx1, _, rfl, hor1, rsF_no _ _ _ _ _ _ (by decide +kernel) (by decide +kernel) (by decide +kernel) (by decide +kernel) (by decide +kernel) (by decide +kernel), _, rfl, r, so, dc, dp, kn, Tt, n, k, ff, bs, _, n, rfl, R1, hKO, by omega, Nat.le_refl _, fun L H2 ws hL c2 R2 hl2 hd2 => ?_⟩
    have hbne := (best_lst (T := Tt) (k := k) (bs0 := bs) (begun := begun) (f := ff) (n := n) hk (by omega)).1
    refine ⟨L, rfl, ⟨_, SqL.of hl2⟩, fun D hD => lc_list (K := K) (a := L) (xs := ws) (fun i H' => Chg [] H2 H' ∧ ∃ zs, H' D = some (.lst zs) ∧ TDs H' zs ((((waysTo Tt k bs (knownAt Tt k bs begun ff (n - ff)) n).take i).map (·.2)).map cD))
      ⟨Chg.new hD, [], upd_same, .nil⟩ (fun i H' _ z => SqL.of (z.1.at hl2)) ?_ ?_⟩
    · intro i x H4 hx ⟨c4, zs, hzs, hdz⟩
      obtain ⟨d, hdd, hxd⟩ := (hd2.chg c4).got hx
      rw [List.getElem?_map] at hdd
      obtain ⟨w', hw', rfl⟩ := Option.map_eq_some_iff.mp hdd
      obtain ⟨tp, ys, rfl, htp, hys⟩ := hxd.tup_inv
      cases hys with
      | cons y1 hys =>
      obtain rfl := y1.int_inv
      cases hys with
      | cons y2 hys =>
      obtain rfl := y2.int_inv
      cases hys with
      | cons y3 hys =>
      cases hys
      rename_i vp
      refine ⟨tp, _, rfl, SqT.of htp, rfl, _, _, rfl, _, _, rfl, _, _, rfl, rfl, rfl, ?_⟩
      refine ⟨_, rfl, _, rfl, by show 2 ≤ sizeLine; decide, fun p hp' => ?_⟩
      have c5 : Chg [] H4 (upd H4 p (.tup [.int w'.2.1, vp])) := Chg.new hp'
      have hfew := hKO.few
      have hz := hdz.length
      rw [List.length_map, List.length_map, List.length_take] at hz
      have hwl := waysTo_len (T := Tt) (k := k) (bs := bs) (known := knownAt Tt k bs begun ff (n - ff)) (h := n)
      have cL := (c4.trans c5).put (o := .lst (zs ++ [.ref p])) hD
      refine ⟨_, c5.at hzs, small1000 (by omega), cL, _, upd_same, ?_⟩
      rw [List.take_succ, hw', Option.toList_some, List.map_append, List.map_append]
      have cq : Chg [D] (upd H4 p (.tup [.int w'.2.1, vp])) (upd (upd H4 p (.tup [.int w'.2.1, vp])) D (.lst (zs ++ [.ref p]))) := Chg.refl.lst (c5.at hzs) (by simp)
      exact ((hdz.chg c5).chg cq).snoc (TD.chg (.tup upd_same (.cons (.int _) (.cons (y3.chg c5) .nil))) cq)
    · intro H4 ⟨c4, zs, hzs, hdz⟩
      have hw2 := hd2.length
      rw [List.length_map] at hw2
      rw [hw2, List.take_length] at hdz
      dsimp only [tNil]
      refine min_pairs hzs hdz (by simpa using hbne) fun v hv => ?_
      exact q v H4 ((c1.trans (c2.mono fun b hb => List.mem_cons_of_mem _ hb)).trans c4.pure) hv
theorem scRest : FnScope ["task", "most", "begun"] ["task", "most", "begun"] (defScope sRest) := ⟨rfl, rfl, rfl, by decide +kernel, rfl, by decide +kernel, by decide +kernel⟩
theorem ok_rest {f : Addr} {fd : FuncData} (F : Fun K "rest" "rest" sRest f fd) (R : RTxt K CR) (h0 : 5 ≤ k0) (cC : Fd P w K mg base 4 "check_most" spChkMost) (cG : Fd P w K mg base 5 "check_begun" (spChkBegun CT)) (cI : Mc P w K mg base 3 "Rest" CR (spRestI CR CS CT fm))
    (cB : Mt P w K mg base k0 CR "best" (spBest CR CS CT fm)) : FnOk P w K mg base CX0 (k0 + 1) f fd ["task", "most", "begun"] (spRest CT) := by
  refine F.ok scRest (fun vs H Q E h => ?_) (fun cdv A outer s H vs Q E hr h => ?_)
  · obtain ⟨t, T, n, k, v, p, rfl, _⟩ := h
    rfl
  obtain ⟨t, Tt, n, k, v, p, rfl, ht, hv, hval, hk, hk30, h1, hpn, hn8, q⟩ := h
  refine ⟨_, pss_cons (ps_expr (pe_f cC hr (by omega) rfl (pa_cons (pv 1) pa_nil))) (pss_cons (ps_expr (pe_f cG hr h0 rfl (pa_cons (pv 0) (pa_cons (pv 2) pa_nil))))
    (pss_one (ps_ret (pe_m0 cB hr (Nat.le_refl _) (pe_k cI hr (by omega) rfl (pa_cons (pv 0) (pa_cons (pv 1) (pa_cons (pv 2) pa_nil)))))))), ?_⟩
  refine ⟨_, rfl, k, rfl, hk, hk30, _, rfl, _, rfl, t, Tt, n, v, p, rfl, ht, hv, h1, hpn, by omega, hval, fun H1 c1 => ?_⟩
  refine ⟨_, rfl, _, rfl, _, rfl, fun r dr hrn hdr hne => ⟨r, dr, t, Tt, n, k, v, p, rfl, upd_same, (ht.chg c1).chg (M := []) (Chg.made hrn hdr), (ht.chg c1).ne hrn, (hv.chg c1).chg (M := []) (Chg.made hrn hdr), hval, h1, hpn, hn8, fun so dc dp kn H2 keep e1 e2 e3 R2 => ⟨rfl, ?_⟩⟩⟩
  obtain ⟨c2, fr⟩ := made_post hrn hdr keep
  have hdc := fr _ e1
  have hdp := fr _ e2
  have hkn := fr _ e3
  obtain ⟨dx2, t2, bv2, hor2, ht2, hbv2⟩ := id R2.has
  refine ⟨r, dx2, _, rfl, hor2, rsF_no _ _ _ _ _ _ (by decide +kernel) (by decide +kernel) (by decide +kernel) (by decide +kernel) (by decide +kernel) (by decide +kernel), r, so, dc, dp, kn, Tt, n, k, p.length, stkOf p, p, rfl, hk, rfl, R2, fun v' H3 c3 hv' => ?_⟩
  exact q v' H3 (c1.trans ((((c2.pure.trans c3).drop hkn).drop hdc).drop hdp)) hv'
end
end K58
end
section
set_option Elab.async false
set_option linter.all false
set_option maxRecDepth 100000
set_option maxHeartbeats 4000000
/-! ### the law's hand -/
namespace K58
open PySem PySem.Spec PyProof.Rows L2
abbrev sHand : Stmt := top 41
abbrev sDraw : Stmt := top 42
structure HandAt (H : Hp) (hd ca : Addr) : Prop where
  has : ∃ (cs : List Int) (pos : Nat) (rem seed cnt : Int), H hd = some (.lst [.ref ca, .int (pos : Nat), .int rem, .int seed, .int cnt]) ∧ H ca = some (.lst (cs.map V.int))
section
variable {H H1 : Hp} {hd ca p : Addr} {o : HO}
theorem HandAt.ne (h : HandAt H hd ca) : hd ≠ ca := by
  obtain ⟨cs, pos, rem, seed, cnt, h1, h2⟩ := h.has
  intro e
  rw [e, h2] at h1
  injection h1 with h1
  injection h1 with h1
  cases cs with
  | nil => cases h1
  | cons c cs => cases h1
theorem HandAt.chg (h : HandAt H hd ca) (c : Chg [] H H1) : HandAt H1 hd ca := by
  obtain ⟨cs, pos, rem, seed, cnt, h1, h2⟩ := h.has
  exact ⟨cs, pos, rem, seed, cnt, c.at h1, c.at h2⟩
theorem HandAt.upd (h : HandAt H hd ca) (n1 : p ≠ hd) (n2 : p ≠ ca) : HandAt (upd H p o) hd ca := by
  obtain ⟨cs, pos, rem, seed, cnt, h1, h2⟩ := h.has
  exact ⟨cs, pos, rem, seed, cnt, by rw [upd_ne (Ne.symm n1)]; exact h1, by rw [upd_ne (Ne.symm n2)]; exact h2⟩
theorem HandAt.new1 (h : HandAt H hd ca) (hp : H p = none) : p ≠ hd := by
  obtain ⟨cs, pos, rem, seed, cnt, h1, h2⟩ := h.has
  exact Ne.symm (ne_of_none h1 hp)
theorem HandAt.new2 (h : HandAt H hd ca) (hp : H p = none) : p ≠ ca := by
  obtain ⟨cs, pos, rem, seed, cnt, h1, h2⟩ := h.has
  exact Ne.symm (ne_of_none h2 hp)
/-- the hand's list is written -/
theorem HandAt.put (h : HandAt H hd ca) {pos : Nat} {rem seed cnt : Int} : HandAt (L2.upd H hd (.lst [.ref ca, .int (pos : Nat), .int rem, .int seed, .int cnt])) hd ca ∧ Chg [hd] H (L2.upd H hd (.lst [.ref ca, .int (pos : Nat), .int rem, .int seed, .int cnt])) := by
  have hn := h.ne
  obtain ⟨cs, pos', rem', seed', cnt', h1, h2⟩ := h.has
  exact ⟨⟨cs, pos, rem, seed, cnt, upd_same, by rw [upd_ne (Ne.symm hn)]; exact h2⟩, Chg.refl.lst h1 (by simp)⟩
end
def spHand (K : PySem.W.Frag) : Sp := fun vs H Q _ => ∃ (a : Addr) (ns : List Int), vs = [.ref a] ∧ SqL K H a (ns.map V.int) ∧ ∀ hd ca H', Chg [] H H' → H hd = none → H ca = none → HandAt H' hd ca → Q (.ref hd) H'
def spDraw : Sp := fun vs H Q _ => ∃ (hd ca : Addr) (m : Nat), vs = [.ref hd, .int (m : Nat)] ∧ HandAt H hd ca ∧ 1 ≤ m ∧ m < 1073741824 ∧ ∀ (d : Nat) H', Chg [hd] H H' → HandAt H' hd ca → d < m → Q (.int (d : Nat)) H'
theorem mod_nat (x : Int) {m : Nat} (h : 1 ≤ m) : ∃ d : Nat, x % (m : Int) = (d : Nat) ∧ d < m := by
  have h1 := Int.emod_nonneg x (show (m : Int) ≠ 0 by omega)
  have h2 := Int.emod_lt_of_pos x (show (0 : Int) < m by omega)
  exact ⟨(x % (m : Int)).toNat, by omega, by omega⟩
section
variable {P : Program} {w : World} {K : PySem.W.Frag} {mg : Str → Option Value} {base : Heap}
theorem scHand : FnScope ["_law_script", "_law_cells", "_law_cell"] ["_law_script"] (defScope sHand) := ⟨rfl, rfl, rfl, by decide +kernel, rfl, by decide +kernel, by decide +kernel⟩
theorem ok_hand {f : Addr} {fd : FuncData} (F : Fun K "_law_hand" "_law_hand" sHand f fd) (B : Bt mg) : FnOk P w K mg base CX0 1 f fd ["_law_script"] (spHand K) := by
  refine F.ok scHand (fun vs H Q E h => ?_) (fun cdv A outer s H vs Q E hr h => ?_)
  · obtain ⟨a, ns, rfl, _⟩ := h
    rfl
  obtain ⟨a, ns, rfl, hS, q⟩ := h
  refine ⟨_, pss_cons (ps_setLc (i := 1) (own := [("_law_cell", 2)]) (g := gName 2) (tt := tYes) rfl scHand.nd rfl rfl (sw_true rfl rfl rfl (by decide +kernel)) (pi_list (pe_slice sl_list (pv 0) po_none (po_some pe_int)))
      (blkOk_by (N := ["_law_script", "_law_cells", "_law_cell"]) (sc := defScope sHand) (by decide +kernel)) (fun _ _ _ _ _ => pg_name (i := 2) scHand.nd rfl (Or.inl rfl)) (fun _ _ _ _ _ => pts_nil)
      (fun _ _ _ _ _ => pe_callB call_abs (by rfl) B.abs (by decide +kernel) (pa_cons (pe_callTy call_int1 (by rfl) B.int (by decide +kernel) (pa_cons (pv 2) pa_nil)) pa_nil)))
    (pss_one (ps_ret (pe_lst (pa_cons (pv 1) (pa_cons pe_int (pa_cons pe_int (pa_cons (pe_op op_add pe_int (pe_callB call_len_seq (by rfl) B.len PySem.boot_len (pa_cons (pv 1) pa_nil))) (pa_cons pe_int pa_nil)))))))), ?_⟩
  refine ⟨_, rfl, _, rfl, a, _, rfl, hS, fun p hp => ?_⟩
  have eC : cutV (ns.map V.int) none (some 63) = (ns.take 63).map V.int := by
    unfold cutV
    rw [HT.sIx_none, List.drop_zero, List.length_map, Nat.sub_zero]
    rw [show (63 : Int) = ((63 : Nat) : Int) from rfl, HT.sIx_nat, ← List.map_take, ← List.take_eq_take_min]
  rw [eC]
  have c1 : Chg [] H (upd H p (.lst ((ns.take 63).map V.int))) := Chg.new hp
  have hp1 : upd H p (.lst ((ns.take 63).map V.int)) p = some (.lst ((ns.take 63).map V.int)) := upd_same
  generalize upd H p (.lst ((ns.take 63).map V.int)) = H1 at *
  refine ⟨p, rfl, ⟨_, SqL.of hp1⟩, fun D hD => lc_list (K := K) (a := p) (xs := (ns.take 63).map V.int) (fun i H' => Chg [] H1 H' ∧ ∃ cs : List Int, H' D = some (.lst (cs.map V.int)) ∧ cs.length = i)
    ⟨Chg.new hD, [], upd_same, rfl⟩ (fun i H' _ z => SqL.of (z.1.at hp1)) ?_ ?_⟩
  · intro i x H' hx ⟨c, cs, hcs, hl⟩
    have hi : i < ((ns.take 63).map V.int).length := (List.getElem?_eq_some_iff.mp hx).1
    rw [List.length_map, List.length_take] at hi
    rw [List.getElem?_map] at hx
    obtain ⟨z, _, rfl⟩ := Option.map_eq_some_iff.mp hx
    refine ⟨rfl, _, rfl, .inl ⟨z, rfl, z, rfl, _, hcs, ?_, c.put hD, cs ++ [if z < 0 then -z else z], ?_, ?_⟩⟩
    · rw [List.length_map, hl]
      exact small1000 (by omega)
    · rw [upd_same, List.map_append]
      rfl
    · rw [List.length_append, hl]
      rfl
  · intro H2 ⟨c2, cs, hcs, hl⟩
    refine ⟨_, rfl, _, rfl, D, _, rfl, .inl (SqL.of hcs), _, _, rfl, rfl, by show 5 ≤ sizeLine; decide, fun hd hhd => ?_⟩
    have c3 : Chg [] H2 (upd H2 hd (.lst [.ref D, .int 0, .int 0, .int (1 + ((cs.map V.int).length : Nat)), .int 0])) := Chg.new hhd
    have c13 := (c1.trans c2).trans c3
    refine q hd D _ c13 ((c1.trans c2).free hhd fun b hb => absurd hb (by simp)) (c1.free hD fun b hb => absurd hb (by simp)) ⟨cs, 0, 0, _, 0, upd_same, c3.at hcs⟩
theorem mod_small {x m : Int} (h1 : 0 < m) (h2 : m < 2 ^ 64) : -(2 ^ 64) < x % m ∧ x % m < 2 ^ 64 := by
  have h3 := Int.emod_nonneg x (show m ≠ 0 by omega)
  have h4 := Int.emod_lt_of_pos x h1
  exact ⟨by omega, by omega⟩
theorem draw_end {Q : VK} {H : Hp} {x : Int} {m : Nat} (h1 : 1 ≤ m) (h : ∀ d : Nat, d < m → Q (.int (d : Nat)) H) : Q (.int (x % (m : Int))) H := by
  obtain ⟨d, ed, hdm⟩ := mod_nat x h1
  rw [ed]
  exact h d hdm
theorem scDraw : FnScope ["_law_hand_here", "_law_many", "_law_cell", "_law_digit", "_law_number"] ["_law_hand_here", "_law_many"] (defScope sDraw) := ⟨rfl, rfl, rfl, by decide +kernel, rfl, by decide +kernel, by decide +kernel⟩
theorem ok_draw {f : Addr} {fd : FuncData} (F : Fun K "_law_draw" "_law_draw" sDraw f fd) (B : Bt mg) : FnOk P w K mg base CX0 1 f fd ["_law_hand_here", "_law_many"] spDraw := by
  refine F.ok scDraw (fun vs H Q E h => ?_) (fun cdv A outer s H vs Q E hr h => ?_)
  · obtain ⟨hd, ca, m, rfl, _⟩ := h
    rfl
  obtain ⟨hd, ca, m, rfl, hH, h1, h2, q⟩ := h
  refine ⟨_, Evl.pss_cut (ps_if (PW.pt (pw_and (pt_cmpR op_eq (pe_ix ix_list (pv 0) pe_int (fun _ _ => rfl)) pe_int (nomark _))
        (pw_and1 (pt_cmpR op_lt (pe_ix ix_list (pv 0) pe_int (fun _ _ => rfl)) (pe_callB call_len_seq (by rfl) B.len PySem.boot_len (pa_cons (pe_ix ix_list (pv 0) pe_int (fun _ _ => rfl)) pa_nil)) (nomark _)))))
      (pss_cons (ps_set (i := 2) scDraw.nd rfl (Or.inl rfl) (pe_ix ix_list (pe_ix ix_list (pv 0) pe_int (fun _ _ => rfl)) (pe_ix ix_list (pv 0) pe_int (fun _ _ => rfl)) (fun _ _ => rfl)))
      (pss_cons (ps_asg (pe_op op_add (pe_ix ix_list (pv 0) pe_int (fun _ _ => rfl)) pe_int) (pg_sub (pv 0) pe_int set_list))
      (pss_cons (ps_asg (pe_op op_mod (pe_callTy call_int1 (by rfl) B.int (by decide +kernel) (pa_cons (pe_op op_add (pe_op op_add (pe_op op_mul (pe_ix ix_list (pv 0) pe_int (fun _ _ => rfl)) pe_int) (pv 2)) pe_int) pa_nil)) pe_int) (pg_sub (pv 0) pe_int set_list))
      (pss_one (ps_if (pt_cmpR op_ge (pv 2) (pe_op op_pow pe_int pe_int) (nomark _)) (pss_one (ps_asg (pv 2) (pg_sub (pv 0) pe_int set_list))) pss_nil))))) pss_nil)
    (pss_cons (ps_if (pt_cmpR op_gt (pe_ix ix_list (pv 0) pe_int (fun _ _ => rfl)) pe_int (nomark _))
      (pss_cons (ps_set (i := 3) scDraw.nd rfl (Or.inl rfl) (pe_op op_mod (pe_callTy call_int1 (by rfl) B.int (by decide +kernel) (pa_cons (pe_ix ix_list (pv 0) pe_int (fun _ _ => rfl)) pa_nil)) (pv 1)))
      (pss_cons (ps_asg (pe_op op_fdiv (pe_ix ix_list (pv 0) pe_int (fun _ _ => rfl)) (pv 1)) (pg_sub (pv 0) pe_int set_list))
      (pss_one (ps_ret (pv 3))))) pss_nil)
    (pss_cons (ps_asg (pe_op op_add (pe_ix ix_list (pv 0) pe_int (fun _ _ => rfl)) pe_int) (pg_sub (pv 0) pe_int set_list))
    (pss_cons (ps_set (i := 4) scDraw.nd rfl (Or.inl rfl) (pe_op op_mod (pe_callTy call_int1 (by rfl) B.int (by decide +kernel) (pa_cons (pe_op op_mul (pe_callTy call_int1 (by rfl) B.int (by decide +kernel) (pa_cons (pe_op op_add (pe_ix ix_list (pv 0) pe_int (fun _ _ => rfl)) (pe_op op_mul pe_int (pe_ix ix_list (pv 0) pe_int (fun _ _ => rfl)))) pa_nil)) pe_int) pa_nil)) pe_int))
    (pss_cons (ps_set (i := 4) scDraw.nd rfl (Or.inl rfl) (pe_op op_mod (pe_callTy call_int1 (by rfl) B.int (by decide +kernel) (pa_cons (pe_op op_mul (pv 4) (pe_op op_add (pe_op op_fdiv (pv 4) pe_int) pe_int)) pa_nil)) pe_int))
    (pss_cons (ps_set (i := 4) scDraw.nd rfl (Or.inl rfl) (pe_op op_mod (pe_callTy call_int1 (by rfl) B.int (by decide +kernel) (pa_cons (pe_op op_mul (pv 4) (pe_op op_add (pe_op op_fdiv (pv 4) pe_int) pe_int)) pa_nil)) pe_int))
    (pss_one (ps_ret (pe_op op_mod (pe_callTy call_int1 (by rfl) B.int (by decide +kernel) (pa_cons (pe_op op_fdiv (pv 4) pe_int) pa_nil)) (pv 1))))))))), ?_⟩
  refine ⟨fun σ' H' => (∃ u, σ' = [some (.ref hd), some (.int (m : Nat)), u, none, none]) ∧ Chg [hd] H H' ∧ HandAt H' hd ca, ?_, ?_⟩
  · obtain ⟨cs, pos, rem, seed, cnt, e1, e2⟩ := id hH.has
    refine ⟨_, rfl, hd, _, _, _, rfl, rfl, SqL.of e1, atI_nat (j := 2) rfl, rfl, _, rfl, ?_⟩
    by_cases hz : rem = 0
    · rw [decide_eq_true (show V.int rem = V.int 0 by rw [hz])]
      refine ⟨_, rfl, hd, _, _, _, rfl, rfl, SqL.of e1, atI_nat (j := 1) rfl, _, rfl, hd, _, _, _, rfl, rfl, SqL.of e1, atI_nat (j := 0) rfl, ca, _, rfl, .inl (SqL.of e2), _, _, rfl, rfl, _, rfl, ite2 (fun c => ?_) (fun c => ?_)⟩
      · have hlt : pos < cs.length := by
          have := of_decide_eq_true c
          rw [List.length_map] at this
          omega
        obtain ⟨z, hz'⟩ : ∃ z, cs[pos]? = some z := ⟨_, List.getElem?_eq_getElem hlt⟩
        have hzv : (cs.map V.int)[pos]? = some (.int z) := by rw [List.getElem?_map, hz']; rfl
        refine ⟨_, rfl, hd, _, _, _, rfl, rfl, SqL.of e1, atI_nat (j := 0) rfl, _, rfl, hd, _, _, _, rfl, rfl, SqL.of e1, atI_nat (j := 1) rfl, ca, _, _, _, rfl, rfl, SqL.of e2, atI_nat (j := pos) hzv, ?_⟩
        -- pos
        refine ⟨_, rfl, hd, _, _, _, rfl, rfl, SqL.of e1, atI_nat (j := 1) rfl, _, _, rfl, rfl, _, rfl, hd, _, _, 1, rfl, rfl, e1, rfl, ?_⟩
        obtain ⟨h3, c3⟩ := hH.put (pos := pos + 1) (rem := rem) (seed := seed) (cnt := cnt)
        have e3 : L2.upd H hd (.lst ([V.ref ca, V.int (pos : Nat), V.int rem, V.int seed, V.int cnt].set 1 (V.int ((pos : Nat) + 1)))) hd = some (.lst [.ref ca, .int ((pos : Nat) + 1), .int rem, .int seed, .int cnt]) := upd_same
        refine ⟨_, rfl, hd, _, _, _, rfl, rfl, SqL.of e3, atI_nat (j := 3) rfl, _, _, rfl, rfl, .inr ⟨by omega, by omega⟩, _, rfl, _, _, rfl, rfl, _, _, rfl, rfl, .inl ⟨_, rfl, _, _, rfl, rfl, by show (0 : Int) < 2147483629; decide, _, rfl, hd, _, _, 3, rfl, rfl, e3, rfl, ?_⟩⟩
        obtain ⟨h4, c4⟩ := h3.put (pos := pos + 1) (rem := rem) (seed := (seed * 69621 + z + 11) % 2147483629) (cnt := cnt)
        refine ⟨_, rfl, _, _, rfl, rfl, ⟨by decide, by decide, by decide⟩, _, _, rfl, rfl, _, rfl, ite2 (fun c => ?_) (fun c => ?_)⟩
        · obtain ⟨h5, c5⟩ := h4.put (pos := pos + 1) (rem := z) (seed := (seed * 69621 + z + 11) % 2147483629) (cnt := cnt)
          refine ⟨_, rfl, _, rfl, hd, _, _, 2, rfl, rfl, upd_same, rfl, ⟨_, rfl⟩, ?_, ?_⟩
          · exact (c3.trans c4).trans c5
          · exact h5
        · exact ⟨⟨_, rfl⟩, c3.trans c4, h4⟩
      · refine ⟨⟨_, rfl⟩, Chg.refl, hH⟩
    · rw [decide_eq_false (fun e => hz (V.int.inj e))]
      exact ⟨⟨_, rfl⟩, Chg.refl, hH⟩
  · rintro σ1 H1 ⟨⟨u, rfl⟩, c1, hH1⟩
    obtain ⟨cs, pos, rem, seed, cnt, e1, e2⟩ := id hH1.has
    refine ⟨_, rfl, hd, _, _, _, rfl, rfl, SqL.of e1, atI_nat (j := 2) rfl, _, _, rfl, rfl, _, rfl, ite2 (fun c => ?_) (fun c => ?_)⟩
    · obtain ⟨d, ed, hdm⟩ := mod_nat rem h1
      refine ⟨_, rfl, hd, _, _, _, rfl, rfl, SqL.of e1, atI_nat (j := 2) rfl, .inl ⟨_, rfl, _, rfl, _, _, rfl, rfl, by show (0 : Int) < (m : Int); omega, ?_⟩⟩
      refine ⟨_, rfl, hd, _, _, _, rfl, rfl, SqL.of e1, atI_nat (j := 2) rfl, _, rfl, _, _, rfl, rfl, ⟨by omega, by omega⟩, _, rfl, hd, _, _, 2, rfl, rfl, e1, rfl, ?_⟩
      obtain ⟨h3, c3⟩ := hH1.put (pos := pos) (rem := rem / (m : Int)) (seed := seed) (cnt := cnt)
      have z := q d _ (c1.trans c3) h3 hdm
      rw [← ed] at z
      exact ⟨_, rfl, z⟩
    · obtain ⟨h3, c3⟩ := hH1.put (pos := pos) (rem := rem) (seed := seed) (cnt := cnt + 1)
      have e3 : L2.upd H1 hd (.lst ([V.ref ca, V.int (pos : Nat), V.int rem, V.int seed, V.int cnt].set 4 (V.int (cnt + 1)))) hd = some (.lst [.ref ca, .int (pos : Nat), .int rem, .int seed, .int (cnt + 1)]) := upd_same
      refine ⟨_, rfl, hd, _, _, _, rfl, rfl, SqL.of e1, atI_nat (j := 4) rfl, _, _, rfl, rfl, _, rfl, hd, _, _, 4, rfl, rfl, e1, rfl, ?_⟩
      refine ⟨_, rfl, hd, _, _, _, rfl, rfl, SqL.of e3, atI_nat (j := 3) rfl, _, rfl, hd, _, _, _, rfl, rfl, SqL.of e3, atI_nat (j := 4) rfl, _, _, rfl, rfl, .inl ⟨by decide, by decide⟩, _, _, rfl, rfl, .inl ⟨_, rfl, _, _, rfl, rfl, .inr ⟨by decide, by decide⟩, .inl ⟨_, rfl, _, _, rfl, rfl, by show (0 : Int) < 2147483647; decide, ?_⟩⟩⟩
      refine ⟨_, rfl, _, rfl, _, _, rfl, rfl, ⟨by decide, by decide⟩, _, _, rfl, rfl, _, _, rfl, rfl, .inl (mod_small (by decide) (by decide)), .inl ⟨_, rfl, _, _, rfl, rfl, by show (0 : Int) < 2147483647; decide, ?_⟩⟩
      refine ⟨_, rfl, _, rfl, _, _, rfl, rfl, ⟨by decide, by decide⟩, _, _, rfl, rfl, _, _, rfl, rfl, .inl (mod_small (by decide) (by decide)), .inl ⟨_, rfl, _, _, rfl, rfl, by show (0 : Int) < 2147483399; decide, ?_⟩⟩
      refine ⟨_, rfl, _, _, rfl, rfl, ⟨by decide, by decide⟩, .inl ⟨_, rfl, _, rfl, _, _, rfl, rfl, by show (0 : Int) < (m : Int); omega, ?_⟩⟩
      refine draw_end h1 fun d hdm => q d _ (c1.trans c3) h3 hdm
end
end K58
end
section
set_option Elab.async false
set_option linter.all false
set_option maxRecDepth 100000
set_option maxHeartbeats 4000000
/-! ### the law's own equality -/
namespace K58
open PySem PySem.Spec PyProof.Rows L2
abbrev sIs : Stmt := top 43
def OkN : Nat → PyData → Prop
  | 0, _ => False
  | n + 1, x => (∃ i, x = .int i) ∨ ∃ ds, x = .tuple ds ∧ ds.length ≤ 100 ∧ ∀ d ∈ ds, OkN n d
theorem okN_iD {ns : List Int} {n : Nat} (h : ns.length ≤ 100) : OkN (n + 2) (iD ns) := by
  refine .inr ⟨_, rfl, by rw [List.length_map]; exact h, fun d hd => ?_⟩
  obtain ⟨i, _, rfl⟩ := List.mem_map.mp hd
  exact .inl ⟨i, rfl⟩
theorem okN_cD {x : PP} (h : x.2.length ≤ 100) : OkN 3 (cD x) := by
  refine .inr ⟨_, rfl, by show 2 ≤ 100; decide, fun d hd => ?_⟩
  rcases List.mem_cons.mp hd with rfl | hd
  · exact .inl ⟨_, rfl⟩
  · rcases List.mem_singleton.mp hd with rfl
    refine okN_iD (n := 0) ?_
    unfold nI
    rw [List.length_map]
    exact h
def spIs (n : Nat) : Sp := fun vs H Q _ => ∃ (a b : V) (x : PyData), vs = [a, b] ∧ TD H a x ∧ TD H b x ∧ OkN n x ∧ ∀ H', Chg [] H H' → Q (.bl true) H'
section
variable {P : Program} {w : World} {K : PySem.W.Frag} {mg : Str → Option Value} {base : Heap} {k0 n : Nat}
theorem walk_zipT {a b : Addr} {xs ys : List V} (hn : ys.length = xs.length) : Walk (RZ.ItzT K a b) xs.length (fun H => SqT K H a xs ∧ SqT K H b ys) (YPair (fun i => xs[i]?) (fun i => ys[i]?)) := by
  refine ⟨fun i _ hi q => ?_, fun _ q => ⟨xs, ys, q.1, q.2, by omega⟩, fun i H v H' _ q y => ?_⟩
  · have h2 : i < ys.length := by omega
    exact ⟨xs, ys, xs[i], ys[i], q.1, q.2, by simp [hi], by simp [h2]⟩
  · obtain ⟨T, x, z, h1, h2, h3, h4, h5⟩ := y
    exact ⟨T, x, z, h1, h2, h3, h4 xs q.1, h5 ys q.2⟩
theorem kit_tt : PySem.W.kitAny K (.type "tuple") [.type "tuple", .type "list"] = some true := kitAny_cons (b := true) (kit_ty (by decide +kernel)) (fun z => absurd z (by decide)) (fun _ => rfl)
theorem kit_it : PySem.W.kitAny K (.type "int") [.type "tuple", .type "list"] = some false :=
  kitAny_cons (b := false) (kit_ty (by decide +kernel)) (fun _ => kitAny_cons (b := false) (kit_ty (by decide +kernel)) (fun _ => rfl) (fun z => absurd z (by decide))) (fun z => absurd z (by decide))
theorem scIs : FnScope ["_law_got", "_law_due", "_law_one", "_law_two"] ["_law_got", "_law_due"] (defScope sIs) := ⟨rfl, rfl, rfl, by decide +kernel, rfl, by decide +kernel, by decide +kernel⟩
theorem ok_is {f : Addr} {fd : FuncData} (F : Fun K "_law_is" "_law_is" sIs f fd) (B : Bt mg) (cR : Fd P w K mg base k0 "_law_is" (spIs n)) : FnOk P w K mg base CX0 (k0 + 1) f fd ["_law_got", "_law_due"] (spIs (n + 1)) := by
  refine F.ok scIs (fun vs H Q E h => ?_) (fun cdv A outer s H vs Q E hr h => ?_)
  · obtain ⟨a, b, x, rfl, _⟩ := h
    rfl
  obtain ⟨a, b, x, rfl, ha, hb, hx, q⟩ := h
  refine ⟨_, pss_cons (ps_if (pt_val (pe_callB call_isiT (by rfl) B.isi (by decide +kernel) (pa_cons (pv 1) (pa_cons (pe_tup (pa_cons (pe_bltn (v := .ty "tuple") (by rfl) B.tup (by decide +kernel) rfl) (pa_cons (pe_bltn (v := .ty "list") (by rfl) B.lst (by decide +kernel) rfl) pa_nil))) pa_nil))))
      (pss_cons (ps_if (PW.pt (pw_or (pt_cmpR op_ne (pe_callB call_isi (by rfl) B.isi (by decide +kernel) (pa_cons (pv 0) (pa_cons (pe_bltn (v := .ty "tuple") (by rfl) B.tup (by decide +kernel) rfl) pa_nil))) (pe_callB call_isi (by rfl) B.isi (by decide +kernel) (pa_cons (pv 1) (pa_cons (pe_bltn (v := .ty "tuple") (by rfl) B.tup (by decide +kernel) rfl) pa_nil))) (nomark _))
          (pw_or1 (pt_not (pt_val (pe_callB call_isiT (by rfl) B.isi (by decide +kernel) (pa_cons (pv 0) (pa_cons (pe_tup (pa_cons (pe_bltn (v := .ty "tuple") (by rfl) B.tup (by decide +kernel) rfl) (pa_cons (pe_bltn (v := .ty "list") (by rfl) B.lst (by decide +kernel) rfl) pa_nil))) pa_nil))))))))
        (pss_one (ps_ret pe_bl)) pss_nil)
      (pss_one (ps_ret (pe_and (pe_cmpR op_eq (pe_callB call_len_seq (by rfl) B.len PySem.boot_len (pa_cons (pv 0) pa_nil)) (pe_callB call_len_seq (by rfl) B.len PySem.boot_len (pa_cons (pv 1) pa_nil)) (nomark _))
        (pe_one (pe_callB (cr_all rfl) (by rfl) B.all (by decide +kernel) (pa_cons (pe_lc (own := [("_law_one", 2), ("_law_two", 3)]) (g := gTup K 2 (gCons (gName 2) (gCons (gName 3) gNil))) (tt := tYes) rfl scIs.nd (RZ.pi_zipA (by rfl) B.zip (pa_cons (pv 0) (pa_cons (pv 1) pa_nil)))
          (blkOk_by (N := ["_law_got", "_law_due", "_law_one", "_law_two"]) (sc := defScope sIs) (by decide +kernel)) (fun _ _ _ _ _ => pg_tup rfl (pgs_cons (pg_name (i := 2) scIs.nd rfl (Or.inl rfl)) (pgs_cons (pg_name (i := 3) scIs.nd rfl (Or.inl rfl)) pgs_nil))) (fun _ _ _ _ _ => pts_nil)
          (fun _ _ _ _ _ => pe_f cR hr (Nat.le_refl _) rfl (pa_cons (pv 2) (pa_cons (pv 3) pa_nil)))) pa_nil))))))) pss_nil)
    (pss_one (ps_ret (pe_and (pe_cmpR op_eq (pe_callB call_isi (by rfl) B.isi (by decide +kernel) (pa_cons (pv 0) (pa_cons (pe_bltn (v := .ty "bool") (by rfl) B.bool (by decide +kernel) rfl) pa_nil))) (pe_callB call_isi (by rfl) B.isi (by decide +kernel) (pa_cons (pv 1) (pa_cons (pe_bltn (v := .ty "bool") (by rfl) B.bool (by decide +kernel) rfl) pa_nil))) (nomark _))
      (pe_one (pe_cmpR op_eq (pv 0) (pv 1) (nomark _)))))), ?_⟩
  rcases hx with ⟨i, rfl⟩ | ⟨ds, rfl, hl, hds⟩
  · obtain rfl := ha.int_inv
    obtain rfl := hb.int_inv
    refine ⟨_, rfl, by show 2 ≤ sizeLine; decide, fun p hp => ⟨_, p, _, _, _, false, rfl, upd_same, .cons (.ty _) (.cons (.ty _) .nil), .base (.int _), kit_it, false, rfl, ?_⟩⟩
    refine iteF ?_
    refine ⟨_, rfl, _, _, _, _, false, rfl, .ty _, .base (.int _), kit_ty (by decide +kernel), _, rfl, _, _, _, _, false, rfl, .ty _, .base (.int _), kit_ty (by decide +kernel), rfl, true, rfl, ?_⟩
    refine ⟨_, rfl, _, rfl, rfl, ?_⟩
    have z := q _ (Chg.new (M := []) (o := .tup [.ty "tuple", .ty "list"]) hp)
    rw [← decide_eq_true (show V.int i = V.int i from rfl)] at z
    exact z
  · obtain ⟨aa, xs, rfl, ha1, ha2⟩ := ha.tup_inv
    obtain ⟨ab, ys, rfl, hb1, hb2⟩ := hb.tup_inv
    have l1 := ha2.length
    have l2 := hb2.length
    refine ⟨_, rfl, by show 2 ≤ sizeLine; decide, fun p hp => ?_⟩
    have c1 : Chg [] H (upd H p (.tup [.ty "tuple", .ty "list"])) := Chg.new hp
    refine ⟨_, p, _, _, _, true, rfl, upd_same, .cons (.ty _) (.cons (.ty _) .nil), .base (.tup (c1.at hb1)), kit_tt, true, rfl, ?_⟩
    refine iteT ?_
    refine ⟨_, rfl, _, _, _, _, true, rfl, .ty _, .base (.tup (c1.at ha1)), kit_ty (by decide +kernel), _, rfl, _, _, _, _, true, rfl, .ty _, .base (.tup (c1.at hb1)), kit_ty (by decide +kernel), rfl, false, rfl, ?_⟩
    refine ⟨_, rfl, by show 2 ≤ sizeLine; decide, fun p2 hp2 => ?_⟩
    have c2 := c1.trans (Chg.new (M := []) (o := .tup [.ty "tuple", .ty "list"]) hp2)
    refine ⟨_, p2, _, _, _, true, rfl, upd_same, .cons (.ty _) (.cons (.ty _) .nil), .base (.tup (c2.at ha1)), kit_tt, true, rfl, ?_⟩
    refine iteF ?_
    refine ⟨_, rfl, aa, _, rfl, .inr (SqT.of (c2.at ha1)), _, rfl, ab, _, rfl, .inr (SqT.of (c2.at hb1)), rfl, true, ?_, ?_⟩
    · rw [l1, l2]
      exact congrArg V.bl (decide_eq_true rfl)
    generalize upd (upd H p (.tup [.ty "tuple", .ty "list"])) p2 (.tup [.ty "tuple", .ty "list"]) = H2 at *
    refine ⟨_, rfl, _, rfl, aa, ab, xs, ys, rfl, .inr ⟨SqT.of (c2.at ha1), SqT.of (c2.at hb1), fun D hD => lc_it (walk_zipT (K := K) (by rw [l1, l2])) (fun i H' => Chg [] H2 H' ∧ H' D = some (.lst ((List.replicate i true).map V.bl)))
      ⟨Chg.new hD, upd_same⟩ (fun i H' _ z => ⟨SqT.of (z.1.at (c2.at ha1)), SqT.of (z.1.at (c2.at hb1))⟩) ?_ ?_⟩⟩
    · intro i v H3 H4 hi ⟨c3, hl3⟩ ⟨T, x, y, ev, hT, eH, ex, ey⟩
      subst ev eH
      have cT : Chg [] H3 (upd H3 T (.tup [x, y])) := Chg.new hT
      obtain ⟨d, hd, hxd⟩ := (ha2.chg (c2.trans (c3.trans cT))).got ex
      obtain ⟨d', hd', hyd⟩ := (hb2.chg (c2.trans (c3.trans cT))).got ey
      rw [hd] at hd'
      cases hd'
      refine ⟨T, _, rfl, SqT.of upd_same, rfl, _, _, rfl, _, _, rfl, rfl, rfl, ?_⟩
      refine ⟨_, rfl, _, rfl, x, y, d, rfl, hxd, hyd, hds d (List.mem_of_getElem? hd), fun H5 c5 => ?_⟩
      refine ⟨_, c5.at (cT.at hl3), ?_, (c3.trans (cT.trans c5)).put hD, ?_⟩
      · rw [List.length_map, List.length_replicate]
        exact small1000 (by omega)
      · rw [upd_same, List.replicate_succ', List.map_append]
        rfl
    · intro H3 ⟨c3, hl3⟩
      refine ⟨D, _, rfl, SqL.of hl3, ?_⟩
      have z := q H3 (c2.trans c3)
      have e : (List.replicate xs.length true).all id = true := by simp
      rw [← e] at z
      exact z
end
end K58
end
section
set_option Elab.async false
set_option linter.all false
set_option maxRecDepth 100000
set_option maxHeartbeats 4000000
/-! ### the law's triangles -/
namespace K58
open PySem PySem.Spec PyProof.Rows L2
abbrev sTri : Stmt := top 44
abbrev sSummed : Stmt := top 45
def TriB (F : Nat → Nat → Int) (m : Int) (n : Nat) : Prop := ∀ i j, i ≤ j → j < n → 0 ≤ F i j ∧ F i j ≤ m
def RowsOk (rows : List (List Int)) (m : Int) (n : Nat) : Prop := ∀ a r, rows[a]? = some r → r.length = n - a ∧ ∀ x ∈ r, 0 ≤ x ∧ x ≤ m
def FR (rows : List (List Int)) (a b : Nat) : Int := (rows.getD a []).getD (b - a) 0
theorem FR_at {rows : List (List Int)} {a : Nat} {r : List Int} (h : rows[a]? = some r) (j : Nat) : FR rows a (a + j) = r.getD j 0 := by
  unfold FR
  have e : rows.getD a [] = r := by rw [List.getD_eq_getElem?_getD, h]; rfl
  rw [e, show a + j - a = j by omega]
theorem tri_rows {rows : List (List Int)} {m : Int} {n : Nat} (hl : rows.length = n) (h : RowsOk rows m n) : triD (FR rows) n = .tuple (rows.map iD) ∧ TriB (FR rows) m n := by
  constructor
  · unfold triD
    congr 1
    refine List.ext_getElem? fun a => ?_
    by_cases ha : a < n
    · obtain ⟨r, hr⟩ : ∃ r, rows[a]? = some r := ⟨_, List.getElem?_eq_getElem (by omega)⟩
      obtain ⟨h1, h2⟩ := h a r hr
      rw [List.getElem?_map, List.getElem?_range ha, List.getElem?_map, hr]
      show some (iD (rowD (FR rows) n a)) = some (iD r)
      congr 2
      unfold rowD
      refine List.ext_getElem? fun j => ?_
      by_cases hj : j < n - a
      · rw [List.getElem?_map, List.getElem?_range hj]
        show some (FR rows a (a + j)) = _
        rw [FR_at hr, List.getD_eq_getElem?_getD, List.getElem?_eq_getElem (by omega)]
        rfl
      · rw [List.getElem?_eq_none (by rw [List.length_map, List.length_range]; omega), List.getElem?_eq_none (by omega)]
    · rw [List.getElem?_eq_none (by rw [List.length_map, List.length_range]; omega), List.getElem?_eq_none (by rw [List.length_map]; omega)]
  · intro i j hij hj
    obtain ⟨r, hr⟩ : ∃ r, rows[i]? = some r := ⟨_, List.getElem?_eq_getElem (by omega)⟩
    obtain ⟨h1, h2⟩ := h i r hr
    have e := FR_at hr (j - i)
    rw [show i + (j - i) = j by omega] at e
    rw [e, List.getD_eq_getElem?_getD, List.getElem?_eq_getElem (by omega)]
    exact h2 _ (List.getElem_mem _)
theorem RowsOk.snoc {rows : List (List Int)} {m : Int} {n : Nat} {r : List Int} (h : RowsOk rows m n) (h1 : r.length = n - rows.length) (h2 : ∀ x ∈ r, 0 ≤ x ∧ x ≤ m) : RowsOk (rows ++ [r]) m n := by
  intro a q hq
  by_cases ha : a < rows.length
  · rw [List.getElem?_append_left ha] at hq
    exact h a q hq
  · rw [List.getElem?_append_right (by omega)] at hq
    have : a - rows.length = 0 := by
      have := (List.getElem?_eq_some_iff.mp hq).1
      simp at this
      omega
    rw [this] at hq
    cases hq
    exact ⟨by rw [h1]; congr 1; omega, h2⟩
theorem TriB.mono {F : Nat → Nat → Int} {m m' : Int} {n : Nat} (h : TriB F m n) (hm : m ≤ m') : TriB F m' n := fun i j h1 h2 => ⟨(h i j h1 h2).1, Int.le_trans (h i j h1 h2).2 hm⟩
theorem pe_tupleOfK {X : Cx} {K : PySem.W.Frag} {a : Expr} {ta : TE} {p pos : Pos} (hK : X.K = K) (hg : Gl X "tuple") (hm : X.mg "tuple" = none) (ha : PE X a ta) (na : starEach [a] X.env = (false, eval a X.env) :: starEach [] X.env := by rfl) :
    PE X (.Call (.Name "tuple" p) [a] [] pos) (tThen ta (kTup K)) := by
  subst hK
  exact pe_tupleOf hg hm ha na
theorem nin1 {p hd : Addr} (h : p ≠ hd) : p ∉ [hd] := by simpa using h
def spTri : Sp := fun vs H Q _ => ∃ (hd ca : Addr) (n m : Nat), vs = [.ref hd, .int (n : Nat), .int (m : Nat)] ∧ HandAt H hd ca ∧ n ≤ 8 ∧ m ≤ 1000000000 ∧ ∀ v H' F, Chg [hd] H H' → HandAt H' hd ca → TriB F (m : Int) n → TD H' v (triD F n) → Q v H'
def spSummed : Sp := fun vs H Q _ => ∃ (l : Addr) (zs : List Int), vs = [.ref l] ∧ H l = some (.lst (zs.map V.int)) ∧ zs.length ≤ 8 ∧ (∀ z ∈ zs, 0 ≤ z ∧ z ≤ 5) ∧ ∀ v H' F, Chg [] H H' → TriB F 1000000000 zs.length → TD H' v (triD F zs.length) → Q v H'
section
variable {P : Program} {w : World} {K : PySem.W.Frag} {mg : Str → Option Value} {base : Heap}
theorem scTri : FnScope ["_law_hand_here", "_law_hours", "_law_most", "_law_first", "_law_hour"] ["_law_hand_here", "_law_hours", "_law_most"] (defScope sTri) := ⟨rfl, rfl, rfl, by decide +kernel, rfl, by decide +kernel, by decide +kernel⟩
theorem ok_tri {f : Addr} {fd : FuncData} (F : Fun K "_law_triangle" "_law_triangle" sTri f fd) (B : Bt mg) (cD : Fd P w K mg base 1 "_law_draw" spDraw) : FnOk P w K mg base CX0 2 f fd ["_law_hand_here", "_law_hours", "_law_most"] spTri := by
  refine F.ok scTri (fun vs H Q E h => ?_) (fun cdv A outer s H vs Q E hr h => ?_)
  · obtain ⟨hd, ca, n, m, rfl, _⟩ := h
    rfl
  obtain ⟨hd, ca, n, m, rfl, hH, hn, hm, q⟩ := h
  refine ⟨_, pss_one (ps_ret (pe_tupleOf (by rfl) B.tup (pe_lc (own := [("_law_first", 3)]) (g := gName 3) (tt := tYes) rfl scTri.nd (pi_range1 (by rfl) B.rng (pa_cons (pv 1) pa_nil))
      (blkOk_by (N := ["_law_hand_here", "_law_hours", "_law_most", "_law_first", "_law_hour"]) (sc := defScope sTri) (by decide +kernel)) (fun _ _ _ _ _ => pg_name (i := 3) scTri.nd rfl (Or.inl rfl)) (fun _ _ _ _ _ => pts_nil)
      (fun _ _ _ _ _ => pe_tupleOfK (K := K) rfl (by rfl) B.tup (pe_lc (own := [("_law_hour", 4)]) (g := gName 4) (tt := tYes) rfl scTri.nd (pi_range2 (by rfl) B.rng (pa_cons (pv 3) (pa_cons (pv 1) pa_nil)))
        (by refine blkOk_by ?_; rfl) (fun _ _ _ _ _ => pg_name (i := 4) scTri.nd rfl (Or.inl rfl)) (fun _ _ _ _ _ => pts_nil)
        (fun _ _ _ _ _ => pe_f cD hr (by decide) rfl (pa_cons (pv 0) (pa_cons (pe_op op_add (pv 2) pe_int) pa_nil)))))))), ?_⟩
  refine ⟨_, rfl, _, rfl, by omega, by omega, fun D hD => lc_range (lo := 0) (n := ((n : Nat) : Int).toNat) (fun i H' => Chg [hd] H H' ∧ HandAt H' hd ca ∧ ∃ zs rows, H' D = some (.lst zs) ∧ TDs H' zs (rows.map iD) ∧ rows.length = i ∧ RowsOk rows (m : Int) n)
    ⟨Chg.new hD, hH.upd (hH.new1 hD) (hH.new2 hD), [], [], upd_same, .nil, rfl, fun a r h => absurd h (by simp)⟩ ?_ ?_⟩
  · intro i H1 hi ⟨c1, hH1, zs, rows, hzs, hrs, hrl, hro⟩
    have hi : i < n := by omega
    have eN : ((n : Int) - (i : Int)).toNat = n - i := by omega
    rw [show (0 : Int) + (i : Nat) = ((i : Nat) : Int) by omega]
    refine ⟨rfl, ?_⟩
    refine ⟨_, rfl, _, rfl, _, _, rfl, ⟨by omega, by omega, by omega, by omega⟩, fun D2 hD2 => lc_range (lo := (i : Nat)) (n := ((n : Int) - (i : Int)).toNat) (fun j H' => Chg [hd] H1 H' ∧ HandAt H' hd ca ∧ ∃ ds : List Int, H' D2 = some (.lst (ds.map V.int)) ∧ ds.length = j ∧ ∀ x ∈ ds, 0 ≤ x ∧ x ≤ (m : Int))
      ⟨Chg.new hD2, hH1.upd (hH1.new1 hD2) (hH1.new2 hD2), [], upd_same, rfl, fun x h => absurd h (by simp)⟩ ?_ ?_⟩
    · intro j H2 hj ⟨c2, hH2, ds, hds, hdl, hdb⟩
      refine ⟨rfl, ?_⟩
      refine ⟨_, rfl, _, rfl, _, _, rfl, rfl, hd, ca, m + 1, rfl, hH2, by omega, by omega, fun d H3 c3 hH3 hdm => ?_⟩
      have n1 := hH1.new1 hD2
      have n2 := hH1.new2 hD2
      refine ⟨_, c3.keep _ _ hds (nin1 n1), ?_, (c2.trans c3).put hD2, hH3.upd n1 n2, ds ++ [(d : Int)], ?_, ?_, ?_⟩
      · rw [List.length_map, hdl]
        exact small1000 (by omega)
      · rw [upd_same, List.map_append]
        rfl
      · rw [List.length_append, hdl]
        rfl
      · intro x hx
        rcases List.mem_append.mp hx with hx | hx
        · exact hdb x hx
        · rcases List.mem_singleton.mp hx with rfl
          exact ⟨by omega, by omega⟩
    · intro H2 ⟨c2, hH2, ds, hds, hdl, hdb⟩
      rw [eN] at hdl
      refine .inl ⟨D2, _, rfl, SqL.of hds, fun t ht => ?_⟩
      have n1 := hH.new1 hD
      have n2 := hH.new2 hD
      have c3 : Chg [] H2 (upd H2 t (.tup (ds.map V.int))) := Chg.new ht
      have hz2 := c3.at (c2.keep _ _ hzs (nin1 n1))
      have hzl := hrs.length
      rw [List.length_map] at hzl
      have cL : Chg [D] _ (upd (upd H2 t (.tup (ds.map V.int))) D (.lst (zs ++ [.ref t]))) := Chg.refl.lst hz2 (by simp)
      refine ⟨_, hz2, small1000 (by omega), (c1.trans (c2.trans c3.pure)).put hD, (hH2.chg c3).upd n1 n2, _, rows ++ [ds], upd_same, ?_, ?_, ?_⟩
      · rw [List.map_append]
        exact (((hrs.chg c2).chg c3).chg cL).snoc (TD.chg (TD.ints upd_same) cL)
      · rw [List.length_append, hrl]
        rfl
      · exact hro.snoc (by rw [hdl, hrl]) hdb
  · intro H1 ⟨c1, hH1, zs, rows, hzs, hrs, hrl, hro⟩
    refine .inl ⟨D, _, rfl, SqL.of hzs, fun t ht => ?_⟩
    have c3 : Chg [] H1 (upd H1 t (.tup zs)) := Chg.new ht
    obtain ⟨e1, e2⟩ := tri_rows (by omega : rows.length = n) hro
    refine q _ _ (FR rows) (c1.trans c3.pure) (hH1.chg c3) e2 ?_
    rw [e1]
    exact .tup upd_same (hrs.chg c3)
theorem scSummed : FnScope ["_law_sizes", "_law_hours", "_law_first", "_law_hour"] ["_law_sizes"] (defScope sSummed) := ⟨rfl, rfl, rfl, by decide +kernel, rfl, by decide +kernel, by decide +kernel⟩
theorem sum_bound {m : Int} : ∀ (zs : List Int), (∀ z ∈ zs, 0 ≤ z ∧ z ≤ m) → 0 ≤ zs.sum ∧ zs.sum ≤ m * (zs.length : Nat)
  | [], _ => by simp
  | z :: zs, h => by
    obtain ⟨h1, h2⟩ := sum_bound zs fun y hy => h y (List.mem_cons_of_mem _ hy)
    obtain ⟨h3, h4⟩ := h z List.mem_cons_self
    rw [List.sum_cons, List.length_cons]
    have : m * ((zs.length + 1 : Nat) : Int) = m * (zs.length : Nat) + m := by
      rw [Int.natCast_add, Int.mul_add]
      simp
    omega
theorem cutV_map (zs : List Int) (lo hi : Option Int) : ∃ ys : List Int, cutV (zs.map V.int) lo hi = ys.map V.int ∧ ys.length ≤ zs.length ∧ ∀ y ∈ ys, y ∈ zs := by
  refine ⟨(zs.drop (HT.sIx (zs.map V.int).length 0 lo)).take (HT.sIx (zs.map V.int).length (zs.map V.int).length hi - HT.sIx (zs.map V.int).length 0 lo), ?_, ?_, fun y hy => ?_⟩
  · unfold cutV
    rw [List.map_take, List.map_drop]
  · rw [List.length_take, List.length_drop]
    omega
  · exact List.mem_of_mem_drop (List.mem_of_mem_take hy)
theorem ok_summed {f : Addr} {fd : FuncData} (F : Fun K "_law_summed" "_law_summed" sSummed f fd) (B : Bt mg) : FnOk P w K mg base CX0 1 f fd ["_law_sizes"] spSummed := by
  refine F.ok scSummed (fun vs H Q E h => ?_) (fun cdv A outer s H vs Q E hr h => ?_)
  · obtain ⟨l, zs, rfl, _⟩ := h
    rfl
  obtain ⟨l, zs, rfl, hl, hn, hb, q⟩ := h
  refine ⟨_, pss_cons (ps_set (i := 1) scSummed.nd rfl (Or.inr rfl) (pe_callB call_len_seq (by rfl) B.len PySem.boot_len (pa_cons (pv 0) pa_nil)))
    (pss_one (ps_ret (pe_tupleOf (by rfl) B.tup (pe_lc (own := [("_law_first", 2)]) (g := gName 2) (tt := tYes) rfl scSummed.nd (pi_range1 (by rfl) B.rng (pa_cons (pv 1) pa_nil))
      (blkOk_by (N := ["_law_sizes", "_law_hours", "_law_first", "_law_hour"]) (sc := defScope sSummed) (by decide +kernel)) (fun _ _ _ _ _ => pg_name (i := 2) scSummed.nd rfl (Or.inr rfl)) (fun _ _ _ _ _ => pts_nil)
      (fun _ _ _ _ _ => pe_tupleOfK (K := K) rfl (by rfl) B.tup (pe_lc (own := [("_law_hour", 3)]) (g := gName 3) (tt := tYes) rfl scSummed.nd (pi_range2 (by rfl) B.rng (pa_cons (pv 2) (pa_cons (pv 1) pa_nil)))
        (by refine blkOk_by ?_; rfl) (fun _ _ _ _ _ => pg_name (i := 3) scSummed.nd rfl (Or.inl rfl)) (fun _ _ _ _ _ => pts_nil)
        (fun _ _ _ _ _ => pe_callB (r := rSum K) (cr_sum rfl) (by rfl) B.sum (by decide +kernel) (pa_cons (pe_slice (r := rSlL K) sl_list (pv 0) (po_some (pv 2)) (po_some (pe_op op_add (pv 3) pe_int))) pa_nil)))))))), ?_⟩
  refine ⟨_, rfl, l, _, rfl, .inl (SqL.of hl), ?_⟩
  rw [List.length_map]
  refine ⟨_, rfl, _, rfl, by omega, by omega, fun D hD => lc_range (lo := 0) (n := ((zs.length : Nat) : Int).toNat) (fun i H' => Chg [] H H' ∧ ∃ vs rows, H' D = some (.lst vs) ∧ TDs H' vs (rows.map iD) ∧ rows.length = i ∧ RowsOk rows 1000000000 zs.length)
    ⟨Chg.new hD, [], [], upd_same, .nil, rfl, fun a r h => absurd h (by simp)⟩ ?_ ?_⟩
  · intro i H1 hi ⟨c1, vs, rows, hvs, hrs, hrl, hro⟩
    have hi : i < zs.length := by omega
    have eN : ((zs.length : Int) - (i : Int)).toNat = zs.length - i := by omega
    rw [show (0 : Int) + (i : Nat) = ((i : Nat) : Int) by omega]
    refine ⟨rfl, ?_⟩
    refine ⟨_, rfl, _, rfl, _, _, rfl, ⟨by omega, by omega, by omega, by omega⟩, fun D2 hD2 => lc_range (lo := (i : Nat)) (n := ((zs.length : Int) - (i : Int)).toNat) (fun j H' => Chg [] H1 H' ∧ ∃ ds : List Int, H' D2 = some (.lst (ds.map V.int)) ∧ ds.length = j ∧ ∀ x ∈ ds, 0 ≤ x ∧ x ≤ 1000000000)
      ⟨Chg.new hD2, [], upd_same, rfl, fun x h => absurd h (by simp)⟩ ?_ ?_⟩
    · intro j H2 hj ⟨c2, ds, hds, hdl, hdb⟩
      refine ⟨rfl, ?_⟩
      refine ⟨_, rfl, _, rfl, _, rfl, _, rfl, _, _, rfl, rfl, _, rfl, l, _, rfl, SqL.of (c2.at (c1.at hl)), fun p hp => ?_⟩
      obtain ⟨ys, ey, ly, my⟩ := cutV_map zs (some (i : Nat)) (some ((i : Nat) + (j : Nat) + 1))
      refine ⟨p, ys, rfl, SqL.of (by rw [upd_same]; exact congrArg (fun z => some (HO.lst z)) ey), ?_⟩
      have c3 : Chg [] H2 (upd H2 p (.lst (cutV (zs.map V.int) (some (i : Nat)) (some ((i : Nat) + (j : Nat) + 1))))) := Chg.new hp
      obtain ⟨b1, b2⟩ := sum_bound (m := 5) ys fun y hy => hb y (my y hy)
      refine ⟨_, c3.at hds, ?_, (c2.trans c3).put hD2, ds ++ [ys.sum], ?_, ?_, ?_⟩
      · rw [List.length_map, hdl]
        exact small1000 (by omega)
      · rw [upd_same, List.map_append]
        rfl
      · rw [List.length_append, hdl]
        rfl
      · intro x hx
        rcases List.mem_append.mp hx with hx | hx
        · exact hdb x hx
        · rcases List.mem_singleton.mp hx with rfl
          exact ⟨by omega, by omega⟩
    · intro H2 ⟨c2, ds, hds, hdl, hdb⟩
      rw [eN] at hdl
      refine .inl ⟨D2, _, rfl, SqL.of hds, fun t ht => ?_⟩
      have c3 : Chg [] H2 (upd H2 t (.tup (ds.map V.int))) := Chg.new ht
      have hz2 := c3.at (c2.at hvs)
      have hzl := hrs.length
      rw [List.length_map] at hzl
      have cL : Chg [D] _ (upd (upd H2 t (.tup (ds.map V.int))) D (.lst (vs ++ [.ref t]))) := Chg.refl.lst hz2 (by simp)
      refine ⟨_, hz2, small1000 (by omega), (c1.trans (c2.trans c3)).put hD, _, rows ++ [ds], upd_same, ?_, ?_, ?_⟩
      · rw [List.map_append]
        exact (((hrs.chg c2).chg c3).chg cL).snoc (TD.chg (TD.ints upd_same) cL)
      · rw [List.length_append, hrl]
        rfl
      · exact hro.snoc (by rw [hdl, hrl]) hdb
  · intro H1 ⟨c1, vs, rows, hvs, hrs, hrl, hro⟩
    refine .inl ⟨D, _, rfl, SqL.of hvs, fun t ht => ?_⟩
    have c3 : Chg [] H1 (upd H1 t (.tup vs)) := Chg.new ht
    obtain ⟨e1, e2⟩ := tri_rows (by omega : rows.length = zs.length) hro
    refine q _ _ (FR rows) (c1.trans c3) e2 ?_
    rw [e1]
    exact .tup upd_same (hrs.chg c3)
end
end K58
end
section
set_option Elab.async false
set_option linter.all false
set_option maxRecDepth 100000
set_option maxHeartbeats 4000000
/-! ### the law's prices -/
namespace K58
open PySem PySem.Spec PyProof.Rows L2
abbrev sPrices : Stmt := top 46
def spPrices : Sp := fun vs H Q _ => ∃ (hd ca : Addr) (n : Nat), vs = [.ref hd, .int (n : Nat)] ∧ HandAt H hd ca ∧ n ≤ 8 ∧ ∀ p H' W L wv lv, Chg [hd] H H' → HandAt H' hd ca → TriB W 1000000000 n → TriB L 1000000000 n →
  H' p = some (.tup [wv, lv]) → TD H' wv (triD W n) → TD H' lv (triD L n) → Q (.ref p) H'
theorem pick5 {a b c d e : Nat} {k : Nat} (h1 : 3 ≤ k) (h2 : k < 8) (ha : a ≤ 1000000000) (hb : b ≤ 1000000000) (hc : c ≤ 1000000000) (hd : d ≤ 1000000000) (he : e ≤ 1000000000) :
    ∃ m : Nat, m ≤ 1000000000 ∧ atI [V.int (a : Nat), V.int (b : Nat), V.int (c : Nat), V.int (d : Nat), V.int (e : Nat)] ((k : Int) - 3) = some (.int (m : Nat)) := by
  rw [show (k : Int) - 3 = ((k - 3 : Nat) : Int) by omega]
  rcases (by omega : k = 3 ∨ k = 4 ∨ k = 5 ∨ k = 6 ∨ k = 7) with rfl | rfl | rfl | rfl | rfl
  · exact ⟨a, ha, atI_nat (j := 0) rfl⟩
  · exact ⟨b, hb, atI_nat (j := 1) rfl⟩
  · exact ⟨c, hc, atI_nat (j := 2) rfl⟩
  · exact ⟨d, hd, atI_nat (j := 3) rfl⟩
  · exact ⟨e, he, atI_nat (j := 4) rfl⟩
theorem pick2 {a b : Nat} {k : Nat} (h1 : 1 ≤ k) (h2 : k < 3) (ha : a ≤ 1000000000) (hb : b ≤ 1000000000) : ∃ m : Nat, m ≤ 1000000000 ∧ atI [V.int (a : Nat), V.int (b : Nat)] ((k : Int) - 1) = some (.int (m : Nat)) := by
  rw [show (k : Int) - 1 = ((k - 1 : Nat) : Int) by omega]
  rcases (by omega : k = 1 ∨ k = 2) with rfl | rfl
  · exact ⟨a, ha, atI_nat (j := 0) rfl⟩
  · exact ⟨b, hb, atI_nat (j := 1) rfl⟩
section
variable {P : Program} {w : World} {K : PySem.W.Frag} {mg : Str → Option Value} {base : Heap}
theorem scPrices : FnScope ["_law_hand_here", "_law_hours", "_law_kind", "_law_zeros", "_law_sizes", "_law_hour", "_law_most"] ["_law_hand_here", "_law_hours"] (defScope sPrices) := ⟨rfl, rfl, rfl, by decide +kernel, rfl, by decide +kernel, by decide +kernel⟩
theorem ok_prices {f : Addr} {fd : FuncData} (F : Fun K "_law_prices" "_law_prices" sPrices f fd) (B : Bt mg) (cD : Fd P w K mg base 1 "_law_draw" spDraw) (cT : Fd P w K mg base 2 "_law_triangle" spTri) (cS : Fd P w K mg base 1 "_law_summed" spSummed) :
    FnOk P w K mg base CX0 3 f fd ["_law_hand_here", "_law_hours"] spPrices := by
  refine F.ok scPrices (fun vs H Q E h => ?_) (fun cdv A outer s H vs Q E hr h => ?_)
  · obtain ⟨hd, ca, n, rfl, _⟩ := h
    rfl
  obtain ⟨hd, ca, n, rfl, hH, hn, q⟩ := h
  refine ⟨_, pss_cons (ps_set (i := 2) scPrices.nd rfl (Or.inl rfl) (pe_f cD hr (by decide) rfl (pa_cons (pv 0) (pa_cons pe_int pa_nil))))
    (pss_cons (ps_if (pt_cmpR op_eq (pv 2) pe_int (nomark _))
      (pss_cons (ps_set (i := 3) scPrices.nd rfl (Or.inl rfl) (pe_f cT hr (by decide) rfl (pa_cons (pv 0) (pa_cons (pv 1) (pa_cons pe_int pa_nil)))))
      (pss_one (ps_ret (pe_tup (pa_cons (pv 3) (pa_cons (pv 3) pa_nil)))))) pss_nil)
    (pss_cons (ps_if (pt_cmpR op_lt (pv 2) pe_int (nomark _))
      (pss_cons (ps_setLc (i := 4) (own := [("_law_hour", 5)]) (g := gName 5) (tt := tYes) rfl scPrices.nd rfl rfl (sw_true rfl rfl rfl (by decide +kernel)) (pi_range1 (by rfl) B.rng (pa_cons (pv 1) pa_nil))
        (blkOk_by (N := ["_law_hand_here", "_law_hours", "_law_kind", "_law_zeros", "_law_sizes", "_law_hour", "_law_most"]) (sc := defScope sPrices) (by decide +kernel)) (fun _ _ _ _ _ => pg_name (i := 5) scPrices.nd rfl (Or.inl rfl)) (fun _ _ _ _ _ => pts_nil)
        (fun _ _ _ _ _ => pe_f cD hr (by decide) rfl (pa_cons (pv 0) (pa_cons pe_int pa_nil))))
      (pss_one (ps_ret (pe_tup (pa_cons (pe_f cS hr (by decide) rfl (pa_cons (pv 4) pa_nil)) (pa_cons (pe_f cT hr (by decide) rfl (pa_cons (pv 0) (pa_cons (pv 1) (pa_cons (pe_ix ix_list (pe_lst (pa_cons pe_int (pa_cons pe_int pa_nil))) (pe_op op_sub (pv 2) pe_int) (fun _ _ => rfl)) pa_nil)))) pa_nil)))))) pss_nil)
    (pss_cons (ps_set (i := 6) scPrices.nd rfl (Or.inl rfl) (pe_ix ix_list (pe_lst (pa_cons pe_int (pa_cons pe_int (pa_cons pe_int (pa_cons pe_int (pa_cons (pe_op op_pow pe_int pe_int) pa_nil)))))) (pe_op op_sub (pv 2) pe_int) (fun _ _ => rfl)))
    (pss_one (ps_ret (pe_tup (pa_cons (pe_f cT hr (by decide) rfl (pa_cons (pv 0) (pa_cons (pv 1) (pa_cons (pv 6) pa_nil)))) (pa_cons (pe_f cT hr (by decide) rfl (pa_cons (pv 0) (pa_cons (pv 1) (pa_cons (pe_ix ix_list (pe_lst (pa_cons pe_int (pa_cons pe_int (pa_cons pe_int (pa_cons pe_int (pa_cons (pe_op op_pow pe_int pe_int) pa_nil)))))) (pe_op op_sub (pv 2) pe_int) (fun _ _ => rfl)) pa_nil)))) pa_nil)))))))), ?_⟩
  refine ⟨_, rfl, hd, ca, 8, rfl, hH, by decide, by decide, fun d H1 c1 hH1 hd8 => ?_⟩
  refine ⟨_, rfl, rfl, _, rfl, ite2 (fun c => ?_) (fun c => ?_)⟩
  · refine ⟨_, rfl, _, rfl, hd, ca, n, 0, rfl, hH1, hn, by decide, fun v H2 Z c2 hH2 hB hv => ?_⟩
    refine ⟨_, rfl, _, rfl, by show 2 ≤ sizeLine; decide, fun p hp => ?_⟩
    have c3 : Chg [] H2 (upd H2 p (.tup [v, v])) := Chg.new hp
    exact q p _ Z Z v v (c1.trans (c2.trans c3.pure)) (hH2.chg c3) (hB.mono (by decide)) (hB.mono (by decide)) upd_same (hv.chg c3) (hv.chg c3)
  · have hd0 : d ≠ 0 := fun z => c (by rw [z]; exact decide_eq_true rfl)
    refine ⟨_, rfl, _, _, rfl, rfl, _, rfl, ite2 (fun c => ?_) (fun c => ?_)⟩
    · have hd3 : d < 3 := by
        have := of_decide_eq_true c
        omega
      refine ⟨_, rfl, _, rfl, by omega, by omega, fun D hD => lc_range (lo := 0) (n := ((n : Nat) : Int).toNat) (fun i H' => Chg [hd] H1 H' ∧ HandAt H' hd ca ∧ ∃ ds : List Int, H' D = some (.lst (ds.map V.int)) ∧ ds.length = i ∧ ∀ x ∈ ds, 0 ≤ x ∧ x ≤ 5)
        ⟨Chg.new hD, hH1.upd (hH1.new1 hD) (hH1.new2 hD), [], upd_same, rfl, fun x h => absurd h (by simp)⟩ ?_ ?_⟩
      · intro j H2 hj ⟨c2, hH2, ds, hds, hdl, hdb⟩
        refine ⟨rfl, ?_⟩
        refine ⟨_, rfl, hd, ca, 6, rfl, hH2, by decide, by decide, fun e H3 c3 hH3 he => ?_⟩
        have n1 := hH1.new1 hD
        have n2 := hH1.new2 hD
        refine ⟨_, c3.keep _ _ hds (nin1 n1), ?_, (c2.trans c3).put hD, hH3.upd n1 n2, ds ++ [(e : Int)], ?_, ?_, ?_⟩
        · rw [List.length_map, hdl]
          exact small1000 (by omega)
        · rw [upd_same, List.map_append]
          rfl
        · rw [List.length_append, hdl]
          rfl
        · intro x hx
          rcases List.mem_append.mp hx with hx | hx
          · exact hdb x hx
          · rcases List.mem_singleton.mp hx with rfl
            exact ⟨by omega, by omega⟩
      · intro H2 ⟨c2, hH2, ds, hds, hdl, hdb⟩
        have hdl : ds.length = n := by omega
        refine ⟨_, rfl, D, ds, rfl, hds, by omega, hdb, fun wv H3 W c3 hW hwv => ?_⟩
        rw [hdl] at hW hwv
        refine ⟨_, rfl, _, rfl, by show 2 ≤ sizeLine; decide, fun l hl => ?_⟩
        have c4 : Chg [] H3 (upd H3 l (.lst [.int 2, .int 4])) := Chg.new hl
        obtain ⟨m, hm, em⟩ := pick2 (a := 2) (b := 4) (by omega) hd3 (by decide) (by decide)
        refine ⟨_, rfl, _, _, rfl, rfl, l, _, _, _, rfl, rfl, SqL.of upd_same, em, hd, ca, n, m, rfl, (hH2.chg c3).chg c4, hn, hm, fun lv H5 L c5 hH5 hL hlv => ?_⟩
        refine ⟨by show 2 ≤ sizeLine; decide, fun p hp => ?_⟩
        have c6 : Chg [] H5 (upd H5 p (.tup [wv, lv])) := Chg.new hp
        exact q p _ W L wv lv (c1.trans (c2.trans ((c3.trans c4).pure.trans (c5.trans c6.pure)))) (hH5.chg c6) hW (hL.mono (by omega)) upd_same (((hwv.chg c4).chg c5).chg c6) (hlv.chg c6)
    · have hd3 : 3 ≤ d := by
        have : ¬ (d : Int) < 3 := of_decide_eq_false (Bool.eq_false_iff.mpr c)
        omega
      refine ⟨_, _, rfl, rfl, ⟨by decide, by decide, by decide⟩, by show 5 ≤ sizeLine; decide, fun l hl => ?_⟩
      have c2 : Chg [] H1 (upd H1 l (.lst [.int 1, .int 3, .int 9, .int 60, .int (10 ^ (9 : Int).toNat)])) := Chg.new hl
      obtain ⟨m, hm, em⟩ := pick5 (a := 1) (b := 3) (c := 9) (d := 60) (e := 1000000000) hd3 hd8 (by decide) (by decide) (by decide) (by decide) (by decide)
      refine ⟨_, rfl, _, _, rfl, rfl, l, _, _, _, rfl, rfl, SqL.of upd_same, em, ?_⟩
      refine ⟨_, rfl, _, rfl, _, rfl, hd, ca, n, m, rfl, hH1.chg c2, hn, hm, fun wv H3 W c3 hH3 hW hwv => ?_⟩
      refine ⟨_, rfl, _, rfl, _, _, rfl, rfl, ⟨by decide, by decide, by decide⟩, by show 5 ≤ sizeLine; decide, fun l2 hl2 => ?_⟩
      have c4 : Chg [] H3 (upd H3 l2 (.lst [.int 1, .int 2, .int 9, .int 20, .int (10 ^ (9 : Int).toNat)])) := Chg.new hl2
      obtain ⟨m2, hm2, em2⟩ := pick5 (a := 1) (b := 2) (c := 9) (d := 20) (e := 1000000000) hd3 hd8 (by decide) (by decide) (by decide) (by decide) (by decide)
      refine ⟨_, rfl, _, _, rfl, rfl, l2, _, _, _, rfl, rfl, SqL.of upd_same, em2, hd, ca, n, m2, rfl, hH3.chg c4, hn, hm2, fun lv H5 L c5 hH5 hL hlv => ?_⟩
      refine ⟨by show 2 ≤ sizeLine; decide, fun p hp => ?_⟩
      have c6 : Chg [] H5 (upd H5 p (.tup [wv, lv])) := Chg.new hp
      exact q p _ W L wv lv (c1.trans (c2.pure.trans (c3.trans (c4.pure.trans (c5.trans c6.pure))))) (hH5.chg c6) (hW.mono (by omega)) (hL.mono (by omega)) upd_same (((hwv.chg c4).chg c5).chg c6) (hlv.chg c6)
end
end K58
end
section
set_option Elab.async false
set_option linter.all false
set_option maxRecDepth 100000
set_option maxHeartbeats 4000000
/-! ### the law's begins, the law's plan -/
namespace K58
open PySem PySem.Spec PyProof.Rows L2
abbrev sLBegins : Stmt := top 47
abbrev sLPlan : Stmt := top 48
theorem sorted_filter : ∀ (S : List Nat), S.Pairwise (· < ·) → ∀ (a b : Nat), S[a]? = some b → S.filter (fun o => decide (o < b)) = S.take a
  | [], _, a, b, h => by simp at h
  | x :: S, hs, a, b, h => by
    have hp := List.pairwise_cons.mp hs
    cases a with
    | zero =>
      simp at h
      subst h
      rw [List.take_zero, List.filter_eq_nil_iff]
      intro y hy
      rcases List.mem_cons.mp hy with rfl | hy
      · simp
      · have := hp.1 y hy
        simp
        omega
    | succ a =>
      have h : S[a]? = some b := by simpa using h
      have := hp.1 b (List.mem_of_getElem? h)
      rw [List.filter_cons, if_pos (decide_eq_true this), sorted_filter S hp.2 a b h, List.take_succ_cons]
theorem stk_sorted {bs : List Nat} {b : Nat} (h : bs.Pairwise (· < ·)) : (stk bs b).Pairwise (· < ·) := by
  unfold stk
  rw [List.pairwise_append]
  refine ⟨h.filter _, List.pairwise_singleton _ _, fun x hx y hy => ?_⟩
  rcases List.mem_singleton.mp hy with rfl
  simpa using (List.mem_filter.mp hx).2
theorem stkOf_sorted (p : List Nat) : (stkOf p).Pairwise (· < ·) := by
  have h : ∀ (p bs : List Nat), bs.Pairwise (· < ·) → (p.foldl stk bs).Pairwise (· < ·) := by
    intro p
    induction p with
    | nil => intro bs h; exact h
    | cons b p ih => intro bs h; exact ih _ (stk_sorted h)
  exact h p [] .nil
/-- what stands behind a run that begins where the stand says -/
theorem stk_at {bs : List Nat} {h a b : Nat} (hs : bs.Pairwise (· < ·)) (hb : ∀ x ∈ bs, x < h) (e : (bs ++ [h])[a]? = some b) : stk bs b = (bs ++ [h]).take (a + 1) := by
  have hS : (bs ++ [h]).Pairwise (· < ·) := by
    rw [List.pairwise_append]
    refine ⟨hs, List.pairwise_singleton _ _, fun x hx y hy => ?_⟩
    rcases List.mem_singleton.mp hy with rfl
    exact hb x hx
  have h1 := sorted_filter _ hS a b e
  have hle : b ≤ h := by
    rcases List.mem_append.mp (List.mem_of_getElem? e) with hm | hm
    · exact Nat.le_of_lt (hb b hm)
    · rcases List.mem_singleton.mp hm with rfl
      exact Nat.le_refl _
  have h2 : (bs ++ [h]).filter (fun o => decide (o < b)) = bs.filter (fun o => decide (o < b)) := by
    rw [List.filter_append]
    have : [h].filter (fun o => decide (o < b)) = [] := by
      rw [List.filter_eq_nil_iff]
      intro y hy
      rcases List.mem_singleton.mp hy with rfl
      simp
      omega
    rw [this, List.append_nil]
  unfold stk
  rw [← h2, h1, List.take_succ, e]
  rfl
theorem ValidP.snoc {p : List Nat} {b : Nat} (h : ValidP p) (h1 : b ≤ p.length) (h2 : b = p.length ∨ b ∈ stkOf p) : ValidP (p ++ [b]) := by
  intro i c hc
  by_cases hi : i < p.length
  · rw [List.getElem?_append_left hi] at hc
    obtain ⟨q1, q2⟩ := h i c hc
    refine ⟨q1, ?_⟩
    rw [List.take_append_of_le_length (Nat.le_of_lt hi)]
    exact q2
  · rw [List.getElem?_append_right (by omega)] at hc
    have e : i - p.length = 0 := by
      have := (List.getElem?_eq_some_iff.mp hc).1
      simp at this
      omega
    rw [e] at hc
    cases hc
    have e2 : i = p.length := by omega
    subst e2
    rw [List.take_left']
    · exact ⟨h1, h2⟩
    · rfl
def spLPlan : Sp := fun vs H Q _ => ∃ (hd ca : Addr) (n k : Nat), vs = [.ref hd, .int (n : Nat), .int (k : Nat)] ∧ HandAt H hd ca ∧ n ≤ 8 ∧ 1 ≤ k ∧ k ≤ 100 ∧ ∀ v H' p, Chg [hd] H H' → HandAt H' hd ca → p.length = n → ValidP p → TD H' v (pD p) → Q v H'
section
variable {P : Program} {w : World} {K : PySem.W.Frag} {mg : Str → Option Value} {base : Heap}
theorem scLBegins : FnScope ["_law_plan_here", "_law_found", "_law_hour", "_law_begin", "_law_ahead", "_law_one"] ["_law_plan_here"] (defScope sLBegins) := ⟨rfl, rfl, rfl, by decide +kernel, rfl, by decide +kernel, by decide +kernel⟩
theorem ok_lBegins {f : Addr} {fd : FuncData} (F : Fun K "_law_begins" "_law_begins" sLBegins f fd) (B : Bt mg) : FnOk P w K mg base CX0 1 f fd ["_law_plan_here"] spBehindL := by
  refine F.ok scLBegins (fun vs H Q E h => ?_) (fun cdv A outer s H vs Q E hr h => ?_)
  · obtain ⟨v, p, rfl, _⟩ := h
    rfl
  obtain ⟨v, p, rfl, hv, hz, q⟩ := h
  obtain ⟨a, rfl, ha⟩ := hv.pD_inv
  refine ⟨_, pss_cons (ps_set (i := 1) scLBegins.nd rfl (Or.inl rfl) (pe_lst pa_nil))
    (pss_cons (ps_for PassesOwn.never rfl (pi_enumT (by rfl) B.enm (pa_cons (pv 0) pa_nil))
      (pg_tup rfl (pgs_cons (pg_name (i := 2) scLBegins.nd rfl (.inl rfl)) (pgs_cons (pg_name (i := 3) scLBegins.nd rfl (.inr rfl)) pgs_nil)))
      (Evl.pss_cut (ps_set (i := 4) scLBegins.nd rfl (Or.inl rfl) (pe_ifExp (pt_cmpR op_gt (pv 2) pe_int (nomark _)) (pe_ix ix_list (pv 1) (pe_un un_neg pe_int) (fun _ _ => rfl)) (pe_tup pa_nil)))
      (pss_one (ps_expr (pe_bm PySem.F.plainAttrs_list PySem.F.slot_list_append PySem.F.type_list_append mt_append (pv 1) (pa_cons (pe_op op_catA (pe_tupleOf (by rfl) B.tup (pe_lc (own := [("_law_one", 5)]) (g := gName 5) rfl scLBegins.nd (pi_tup (pv 4))
        (blkOk_by (N := ["_law_plan_here", "_law_found", "_law_hour", "_law_begin", "_law_ahead", "_law_one"]) (sc := defScope sLBegins) (by decide +kernel)) (fun _ _ _ _ _ => pg_name (i := 5) scLBegins.nd rfl (Or.inl rfl)) (fun _ _ _ _ _ => pts_one (pt_cmpR op_lt (pv 5) (pv 3) (nomark _))) (fun _ _ _ _ _ => pv 5)))
        (pe_tup (pa_cons (pv 3) pa_nil))) pa_nil))))))
    (pss_one (ps_ret (pv 1)))), ?_⟩
  refine ⟨by show 0 ≤ sizeLine; decide, fun fo hfo => ?_⟩
  have c0 : Chg [] H (upd H fo (.lst [])) := Chg.new hfo
  refine ⟨_, rfl, a, _, rfl, SqT.of (c0.at ha), for_it walk_enumT (fun i σ H' => (∃ u2 u3 u4 u5, σ = [some (.ref a), some (.ref fo), u2, u3, u4, u5]) ∧ Chg [] H H' ∧ ∃ xs, H' fo = some (.lst xs) ∧ TDs H' xs ((List.range i).map fun i => pD (stkOf (p.take (i + 1)))))
    ⟨⟨_, _, _, _, rfl⟩, c0, [], upd_same, .nil⟩ (fun i σ H' _ ⟨_, c, _⟩ => SqT.of (c.at ha)) ?_ ?_⟩
  · intro i v σ H1 H2 hi ⟨⟨u2, u3, u4, u5, es⟩, c, xs, hxs, hds⟩ ⟨T, x, y, ev, hT, eH, ex, ey⟩
    subst es ev eH
    cases ex
    obtain ⟨b, hb, rfl⟩ := nV_get ey
    rw [nV_len] at hi
    have cT : Chg [] H1 (upd H1 T (.tup [.int (i : Nat), .int (b : Nat)])) := Chg.new hT
    refine ⟨T, _, rfl, SqT.of upd_same, rfl, _, _, rfl, _, _, rfl, rfl, ?_⟩
    have hxsT := cT.at hxs
    have hdsT := hds.chg cT
    generalize upd H1 T (.tup [.int (i : Nat), .int (b : Nat)]) = H2 at *
    have hlen := hds.length
    rw [List.length_map, List.length_range] at hlen
    refine ⟨fun σ' H' => ∃ aa, σ' = [some (.ref a), some (.ref fo), some (.int (i : Nat)), some (.int (b : Nat)), some (.ref aa), u5] ∧ Chg [] H2 H' ∧ H' aa = some (.tup ((nI (stkOf (p.take i))).map V.int)), ?_, ?_⟩
    · refine ⟨_, rfl, _, _, rfl, rfl, _, rfl, ite2 (fun c => ?_) (fun c => ?_)⟩
      · have hpos : 0 < i := by
          have := of_decide_eq_true c
          omega
        obtain ⟨vl, hvl, hvd⟩ := hdsT.get (i := i - 1) (d := pD (stkOf (p.take i))) (by
          rw [List.getElem?_map, List.getElem?_range (by omega)]
          show some (pD (stkOf (p.take (i - 1 + 1)))) = _
          rw [show i - 1 + 1 = i by omega])
        obtain ⟨aa, rfl, haa⟩ := hvd.pD_inv
        refine ⟨_, rfl, _, rfl, fo, xs, _, _, rfl, rfl, SqL.of hxsT, atI_neg1 (m := i - 1) (by omega) hvl, ?_⟩
        exact ⟨aa, rfl, Chg.refl, haa⟩
      · have hz0 : i = 0 := by
          have : ¬ ((i : Int) > 0) := fun z => c (decide_eq_true z)
          omega
        subst hz0
        refine ⟨by show 0 ≤ sizeLine; decide, fun e0 he0 => ⟨e0, rfl, Chg.new he0, upd_same⟩⟩
    rintro σ3 H3 ⟨aa, rfl, c3, haa⟩
    have hxs3 := c3.at hxsT
    have hds3 := hdsT.chg c3
    refine ⟨_, rfl, .inl ⟨rfl, _, SqL.of hxs3⟩, ?_⟩
    refine ⟨_, rfl, aa, rfl, ⟨_, SqT.of haa⟩, fun D hD => lc_tup (K := K) (a := aa) (xs := (nI (stkOf (p.take i))).map V.int) (fun j H' => Chg [] H3 H' ∧ H' D = some (.lst ((nI (((stkOf (p.take i)).take j).filter fun o => decide (o < b))).map V.int)))
      ⟨Chg.new hD, upd_same⟩ (fun j H' _ z => SqT.of (z.1.at haa)) ?_ ?_⟩
    · intro j x H' hx ⟨c, hl⟩
      obtain ⟨o, ho, rfl⟩ := nV_get hx
      have hj : j < (stkOf (p.take i)).length := (List.getElem?_eq_some_iff.mp ho).1
      have hj2 := stkOf_len (p.take i)
      rw [List.length_take] at hj2
      refine ⟨rfl, _, rfl, _, rfl, _, _, rfl, rfl, decide (o < b), ?_, ?_⟩
      · by_cases h : o < b
        · exact congrArg V.bl ((decide_eq_true (by omega)).trans (decide_eq_true h).symm)
        · exact congrArg V.bl ((decide_eq_false (by omega)).trans (decide_eq_false h).symm)
      have e : ((stkOf (p.take i)).take (j + 1)).filter (fun o => decide (o < b)) = ((stkOf (p.take i)).take j).filter (fun o => decide (o < b)) ++ (if o < b then [o] else []) := by
        rw [List.take_succ, ho, Option.toList_some, List.filter_append]
        by_cases h : o < b <;> simp [h]
      by_cases h : o < b
      · rw [decide_eq_true h]
        refine ⟨_, rfl, _, hl, ?_, c.put hD, ?_⟩
        · rw [nV_len]
          refine small1000 (Nat.le_trans (List.length_filter_le _ _) ?_)
          rw [List.length_take]
          omega
        · rw [upd_same, e, if_pos h, nV_app]
          rfl
      · rw [decide_eq_false h]
        refine ⟨c, ?_⟩
        rw [e, if_neg h, List.append_nil]
        exact hl
    · intro H4 ⟨c4, hl⟩
      rw [nV_len, List.take_length] at hl
      refine .inl ⟨D, _, rfl, SqL.of hl, fun r hr' => ?_⟩
      refine ⟨_, rfl, by show 1 ≤ sizeLine; decide, fun r2 hr2 => ?_⟩
      have c5 : Chg [] H4 (upd H4 r (.tup ((nI ((stkOf (p.take i)).filter fun o => decide (o < b))).map V.int))) := Chg.new hr'
      have c6 := c5.and_new (o := .tup [.int (b : Nat)]) hr2
      have hlf := List.length_filter_le (fun o => decide (o < b)) (stkOf (p.take i))
      have hj2 := stkOf_len (p.take i)
      rw [List.length_take] at hj2
      refine cat_plans (p := (stkOf (p.take i)).filter fun o => decide (o < b)) (q := [b]) ((TD.plan upd_same).chg (Chg.new (M := []) hr2)) (.tup upd_same (.cons (.int _) .nil)) (by rw [List.length_singleton]; omega) fun v7 H7 c7 hv7 => ?_
      have c37 := c4.trans (c6.trans c7)
      have hx7 := c37.at hxs3
      have cL : Chg [fo] H7 (upd H7 fo (.lst (xs ++ [v7]))) := Chg.refl.lst hx7 (by simp)
      refine ⟨fo, _, _, rfl, rfl, hx7, small1000 (by omega), ⟨_, _, _, _, rfl⟩, ((c.trans cT).trans (c3.trans c37)).put hfo, _, upd_same, ?_⟩
      rw [List.range_succ, List.map_append]
      refine ((hds3.chg c37).chg cL).snoc (TD.chg ?_ cL)
      show TD H7 v7 (pD (stkOf (p.take (i + 1))))
      rw [stkOf_succ hb]
      exact hv7
  · rintro σ H1 ⟨⟨u2, u3, u4, u5, es⟩, c, xs, hxs, hds⟩
    subst es
    rw [nV_len] at hds
    exact ⟨_, rfl, q fo H1 xs c hxs hds⟩
theorem scLPlan : FnScope ["_law_hand_here", "_law_hours", "_law_most", "_law_found", "_law_begins_here", "_law_hour", "_law_stands", "_law_at"] ["_law_hand_here", "_law_hours", "_law_most"] (defScope sLPlan) := ⟨rfl, rfl, rfl, by decide +kernel, rfl, by decide +kernel, by decide +kernel⟩
theorem ok_lPlan {f : Addr} {fd : FuncData} (F : Fun K "_law_plan" "_law_plan" sLPlan f fd) (B : Bt mg) (cD : Fd P w K mg base 1 "_law_draw" spDraw) : FnOk P w K mg base CX0 2 f fd ["_law_hand_here", "_law_hours", "_law_most"] spLPlan := by
  refine F.ok scLPlan (fun vs H Q E h => ?_) (fun cdv A outer s H vs Q E hr h => ?_)
  · obtain ⟨hd, ca, n, k, rfl, _⟩ := h
    rfl
  obtain ⟨hd, ca, n, k, rfl, hH, hn, hk, hk2, q⟩ := h
  refine ⟨_, pss_cons (ps_set (i := 3) scLPlan.nd rfl (Or.inl rfl) (pe_tup pa_nil))
    (pss_cons (ps_set (i := 4) scLPlan.nd rfl (Or.inl rfl) (pe_tup pa_nil))
    (pss_cons (ps_for PassesOwn.never rfl (pi_range1 (by rfl) B.rng (pa_cons (pv 1) pa_nil)) (pg_name (i := 5) scLPlan.nd rfl (.inl rfl))
      (pss_cons (ps_set (i := 6) scLPlan.nd rfl (Or.inl rfl) (pe_op op_catA (pv 4) (pe_tup (pa_cons (pv 5) pa_nil))))
      (pss_cons (ps_set (i := 7) scLPlan.nd rfl (Or.inl rfl) (pe_f cD hr (by decide) rfl (pa_cons (pv 0) (pa_cons (pe_callB (call_min2 rfl) (by rfl) B.min (by decide +kernel) (pa_cons (pv 2) (pa_cons (pe_callB call_len_seq (by rfl) B.len PySem.boot_len (pa_cons (pv 6) pa_nil)) pa_nil))) pa_nil))))
      (pss_cons (ps_set (i := 3) scLPlan.nd rfl (Or.inl rfl) (pe_op op_catA (pv 3) (pe_tup (pa_cons (pe_ix ix_tup (pv 6) (pv 7) (fun _ _ => rfl)) pa_nil))))
      (pss_one (ps_set (i := 4) scLPlan.nd rfl (Or.inl rfl) (pe_slice sl_tupA (pv 6) po_none (po_some (pe_op op_add (pv 7) pe_int)))))))))
    (pss_one (ps_ret (pv 3))))), ?_⟩
  refine ⟨by show 0 ≤ sizeLine; decide, fun e0 he0 => ⟨by show 0 ≤ sizeLine; decide, fun e1 he1 => ?_⟩⟩
  have c0 : Chg [] H (upd H e0 (.tup [])) := Chg.new he0
  have c1 : Chg [] (upd H e0 (.tup [])) (upd (upd H e0 (.tup [])) e1 (.tup [])) := Chg.new he1
  have t0 : TD (upd (upd H e0 (.tup [])) e1 (.tup [])) (.ref e0) (pD []) := .tup (c1.at upd_same) .nil
  have t1 : TD (upd (upd H e0 (.tup [])) e1 (.tup [])) (.ref e1) (pD []) := .tup upd_same .nil
  have c01 := c0.trans c1
  have hH1 := hH.chg c01
  generalize upd (upd H e0 (.tup [])) e1 (.tup []) = H1 at *
  refine ⟨_, rfl, _, rfl, by omega, by omega, for_range (lo := 0) (n := ((n : Nat) : Int).toNat) (fun i σ H' => (∃ vp vb u5 u6 u7 p, σ = [some (.ref hd), some (.int (n : Nat)), some (.int (k : Nat)), some vp, some vb, u5, u6, u7] ∧ p.length = i ∧ ValidP p ∧ TD H' vp (pD p) ∧ TD H' vb (pD (stkOf p))) ∧ Chg [hd] H H' ∧ HandAt H' hd ca)
    ⟨⟨_, _, _, _, _, [], rfl, rfl, fun i b h => absurd h (by simp), t0, t1⟩, c01.pure, hH1⟩ ?_ ?_⟩
  · rintro i σ H2 hi ⟨⟨vp, vb, u5, u6, u7, p, rfl, hpl, hval, hvp, hvb⟩, c2, hH2⟩
    have hi : i < n := by omega
    rw [show (0 : Int) + (i : Nat) = ((i : Nat) : Int) by omega]
    -- stands
    refine ⟨_, rfl, _, rfl, by show 1 ≤ sizeLine; decide, fun p3 hp3 => ?_⟩
    have c3 : Chg [] H2 (upd H2 p3 (.tup [.int (i : Nat)])) := Chg.new hp3
    have hsl := stkOf_len p
    refine cat_plans (hvb.chg c3) (q := [i]) (.tup upd_same (.cons (.int _) .nil)) (by rw [List.length_singleton]; omega) fun vs4 H4 c4 hs4 => ?_
    have c24 := c3.trans c4
    obtain ⟨as, rfl, has⟩ := hs4.pD_inv
    -- at
    refine ⟨_, rfl, _, rfl, _, rfl, as, _, rfl, .inr (SqT.of has), ?_⟩
    rw [nV_len]
    refine ⟨_, _, rfl, ?_⟩
    rw [show (if (((stkOf p ++ [i]).length : Nat) : Int) < (k : Int) then (((stkOf p ++ [i]).length : Nat) : Int) else (k : Int)) = ((min k ((stkOf p ++ [i]).length) : Nat) : Int) by split <;> omega]
    have hal : (stkOf p ++ [i]).length = (stkOf p).length + 1 := by rw [List.length_append]; rfl
    refine ⟨hd, ca, min k ((stkOf p ++ [i]).length), rfl, hH2.chg c24, by omega, by omega, fun d H5 c5 hH5 hdm => ?_⟩
    have hdl : d < (stkOf p ++ [i]).length := by omega
    obtain ⟨b, hb⟩ : ∃ b, (stkOf p ++ [i])[d]? = some b := ⟨_, List.getElem?_eq_getElem hdl⟩
    have has5 := c5.tups _ _ has
    -- found
    refine ⟨_, rfl, _, rfl, _, rfl, as, _, _, _, rfl, rfl, SqT.of has5, atI_nat (j := d) (nV_at hb), by show 1 ≤ sizeLine; decide, fun p6 hp6 => ?_⟩
    have c6 : Chg [] H5 (upd H5 p6 (.tup [.int (b : Nat)])) := Chg.new hp6
    refine cat_plans (((hvp.chg c24).chg c5).chg c6) (q := [b]) (.tup upd_same (.cons (.int _) .nil)) (by rw [List.length_singleton]; omega) fun v7 H7 c7 hv7 => ?_
    have c57 := c6.trans c7
    -- begins
    refine ⟨_, rfl, _, rfl, _, _, rfl, rfl, _, rfl, sl_take (m := d + 1) (p := stkOf p ++ [i]) (.plan (c57.tups _ _ has5)) fun a8 H8 c8 ha8 => ?_⟩
    have hble : b ≤ p.length ∧ (b = p.length ∨ b ∈ stkOf p) := by
      rcases List.mem_append.mp (List.mem_of_getElem? hb) with hm | hm
      · exact ⟨Nat.le_of_lt (hval.lt hm), .inr hm⟩
      · rcases List.mem_singleton.mp hm with rfl
        exact ⟨by omega, .inl (by omega)⟩
    refine ⟨⟨_, _, _, _, _, p ++ [b], rfl, ?_, hval.snoc hble.1 hble.2, hv7.chg c8, ?_⟩, ?_, ?_⟩
    · rw [List.length_append, hpl]
      rfl
    · rw [stkOf_snoc, stk_at (h := i) (stkOf_sorted p) (fun x hx => by have := hval.lt hx; omega) hb]
      exact .plan ha8
    · exact c2.trans (c24.pure.trans (c5.trans (c57.trans c8).pure))
    · exact hH5.chg (c57.trans c8)
  · rintro σ H2 ⟨⟨vp, vb, u5, u6, u7, p, rfl, hpl, hval, hvp, hvb⟩, c2, hH2⟩
    exact ⟨_, rfl, q vp H2 p c2 hH2 (by omega) hval hvp⟩
end
end K58
end
section
set_option Elab.async false
set_option linter.all false
set_option maxRecDepth 100000
set_option maxHeartbeats 4000000
/-! ### the law's own way: all plans behind what is begun -/
namespace K58
open PySem PySem.Spec PyProof.Rows L2
abbrev sHourCost : Stmt := top 49
abbrev sLBehind : Stmt := top 50
def spHourCost : Sp := fun vs H Q _ => ∃ (wv lv bv : V) (T : Tk) (n h m b : Nat) (bs : List Nat), vs = [wv, lv, bv, .int (h : Nat)] ∧ TD H wv (triD T.W n) ∧ TD H lv (triD T.L n) ∧ TD H bv (pD bs) ∧ bs.length = m + 1 ∧ m ≤ 100 ∧ bs[m]? = some b ∧ h < n ∧ (∀ b ∈ bs, b ≤ h) ∧
  ∀ H', Chg [] H H' → Q (.int (T.W b h + (bs.map fun b => T.L b h).sum)) H'
section
variable {P : Program} {w : World} {K : PySem.W.Frag} {mg : Str → Option Value} {base : Heap}
theorem scHourCost : FnScope ["_law_writes", "_law_looks", "_law_begins_here", "_law_hour", "_law_one"] ["_law_writes", "_law_looks", "_law_begins_here", "_law_hour"] (defScope sHourCost) := ⟨rfl, rfl, rfl, by decide +kernel, rfl, by decide +kernel, by decide +kernel⟩
theorem ok_hourCost {f : Addr} {fd : FuncData} (F : Fun K "_law_hour_cost" "_law_hour_cost" sHourCost f fd) (B : Bt mg) : FnOk P w K mg base CX0 1 f fd ["_law_writes", "_law_looks", "_law_begins_here", "_law_hour"] spHourCost := by
  refine F.ok scHourCost (fun vs H Q E h => ?_) (fun cdv A outer s H vs Q E hr h => ?_)
  · obtain ⟨wv, lv, bv, T, n, h, m, b, bs, rfl, _⟩ := h
    rfl
  obtain ⟨wv, lv, bv, T, n, h, m, b, bs, rfl, hw, hl, hb, hm, hm2, hbm, hn, hbh, q⟩ := h
  obtain ⟨ab, rfl, hab⟩ := hb.pD_inv
  refine ⟨_, pss_one (ps_ret (pe_op op_add (pe_ix ix_tup (pe_ix ix_tup (pv 0) (pe_ix ix_tup (pv 2) (pe_un un_neg pe_int) (fun _ _ => rfl)) (fun _ _ => rfl)) (pe_op op_sub (pv 3) (pe_ix ix_tup (pv 2) (pe_un un_neg pe_int) (fun _ _ => rfl))) (fun _ _ => rfl))
    (pe_callB (cr_sum rfl) (by rfl) B.sum (by decide +kernel) (pa_cons (pe_lc (own := [("_law_one", 4)]) (g := gName 4) (tt := tYes) rfl scHourCost.nd (pi_tup (pv 2))
      (blkOk_by (N := ["_law_writes", "_law_looks", "_law_begins_here", "_law_hour", "_law_one"]) (sc := defScope sHourCost) (by decide +kernel)) (fun _ _ _ _ _ => pg_name (i := 4) scHourCost.nd rfl (Or.inl rfl)) (fun _ _ _ _ _ => pts_nil)
      (fun _ _ _ _ _ => pe_ix (r := rIxT K) ix_tup (pe_ix (r := rIxT K) ix_tup (pv 1) (pv 4) (fun _ _ => rfl)) (pe_op op_sub (pv 3) (pv 4)) (fun _ _ => rfl))) pa_nil)))), ?_⟩
  have e1 : ((nI bs).map V.int).length = m + 1 := by rw [nV_len, hm]
  obtain ⟨aw, xw, ar, rfl, hhw, hx, har⟩ := tri_at hw (a := b) (by have := hbh b (List.mem_of_getElem? hbm); omega)
  refine ⟨_, rfl, _, rfl, _, rfl, ab, _, _, _, rfl, rfl, SqT.of hab, atI_neg1 e1 (nV_at hbm), aw, _, _, _, rfl, rfl, SqT.of hhw, atI_nat hx, _, rfl, _, rfl, _, rfl, ab, _, _, _, rfl, rfl, SqT.of hab, atI_neg1 e1 (nV_at hbm), _, _, rfl, rfl, ar, _, _, _, rfl, rfl, SqT.of har, row_at (hbh b (List.mem_of_getElem? hbm)) hn, ?_⟩
  refine ⟨_, rfl, ab, rfl, ⟨_, SqT.of hab⟩, fun D hD => lc_tup (K := K) (a := ab) (xs := (nI bs).map V.int) (fun i H' => Chg [] H H' ∧ H' D = some (.lst (((bs.take i).map fun b => T.L b h).map V.int)))
    ⟨Chg.new hD, upd_same⟩ (fun i H' _ z => SqT.of (z.1.at hab)) ?_ ?_⟩
  · intro i x H' hx ⟨c, hl'⟩
    obtain ⟨o, ho, rfl⟩ := nV_get hx
    have hi : i < bs.length := (List.getElem?_eq_some_iff.mp ho).1
    have hoh := hbh o (List.mem_of_getElem? ho)
    obtain ⟨al, xl, ar2, rfl, hhl, hx2, har2⟩ := tri_at (hl.chg c) (a := o) (by omega)
    refine ⟨rfl, ?_⟩
    refine ⟨_, rfl, _, rfl, al, _, _, _, rfl, rfl, SqT.of hhl, atI_nat hx2, _, rfl, _, rfl, _, _, rfl, rfl, ar2, _, _, _, rfl, rfl, SqT.of har2, row_at hoh hn, ?_⟩
    refine ⟨_, hl', ?_, c.put hD, ?_⟩
    · rw [List.length_map, List.length_map, List.length_take]
      exact small1000 (by omega)
    · rw [upd_same, List.take_succ, ho, Option.toList_some, List.map_append, List.map_append]
      rfl
  · intro H2 ⟨c2, hl'⟩
    rw [nV_len, List.take_length] at hl'
    exact ⟨D, _, rfl, SqL.of hl', _, _, rfl, rfl, q H2 c2⟩
end
/-- a way as the law keeps it -/
def brD (e : Br) : PyData := .tuple [pD e.p, .int e.c, pD e.bs]
structure BrOk (h : Nat) (e : Br) : Prop where
  p : e.p.length = h
  n : e.bs.length ≤ h
  b : ∀ b ∈ e.bs, b < h
theorem BrOk.one {T : Tk} {h a : Nat} {e : Br} (k : BrOk h e) : BrOk (h + 1) (brOne T h e a) := by
  refine ⟨?_, ?_, fun b hb => ?_⟩
  · show (e.p ++ [(e.bs ++ [h]).getD a 0]).length = h + 1
    rw [List.length_append, k.p]
    rfl
  · show ((e.bs ++ [h]).take (a + 1)).length ≤ h + 1
    rw [List.length_take, List.length_append]
    have := k.n
    simp
    omega
  · have hb : b ∈ (e.bs ++ [h]).take (a + 1) := hb
    rcases List.mem_append.mp (List.mem_of_mem_take hb) with hb | hb
    · have := k.b b hb
      omega
    · rcases List.mem_singleton.mp hb with rfl
      omega
theorem brAt_ok {T : Tk} {k f : Nat} {bs0 begun : List Nat} (h0 : BrOk f ⟨begun, 0, bs0⟩) : ∀ i, ∀ e ∈ brAt T k bs0 begun f i, BrOk (f + i) e
  | 0, e, he => by
    rcases List.mem_singleton.mp he with rfl
    exact h0
  | i + 1, e, he => by
    obtain ⟨e', h1, h2⟩ := List.mem_flatMap.mp (show e ∈ (brAt T k bs0 begun f i).flatMap _ from he)
    obtain ⟨a, _, rfl⟩ := List.mem_map.mp h2
    exact (brAt_ok h0 i e' h1).one
theorem flat_len {α β : Type} {m : Nat} {g : α → List β} : ∀ (l : List α), (∀ e ∈ l, (g e).length ≤ m) → (l.flatMap g).length ≤ l.length * m
  | [], _ => by simp
  | x :: l, h => by
    have h1 := flat_len l fun e he => h e (List.mem_cons_of_mem _ he)
    have h2 := h x List.mem_cons_self
    rw [List.flatMap_cons, List.length_append, List.length_cons, Nat.succ_mul]
    omega
theorem brAt_len {T : Tk} {k f : Nat} {bs0 begun : List Nat} (h0 : BrOk f ⟨begun, 0, bs0⟩) : ∀ i, f + i ≤ 8 → (brAt T k bs0 begun f i).length ≤ 8 ^ i
  | 0, _ => Nat.le_refl _
  | i + 1, hi => by
    have h1 := brAt_len (T := T) (k := k) h0 i (by omega)
    have h2 : (brAt T k bs0 begun f (i + 1)).length ≤ (brAt T k bs0 begun f i).length * 8 := flat_len _ fun e he => by
      rw [List.length_map, List.length_range]
      have := (brAt_ok h0 i e he).n
      omega
    rw [Nat.pow_succ]
    omega
theorem pow8 {i : Nat} (h : i ≤ 6) : 8 ^ i * 8 ≤ 2097152 := by
  have := Nat.pow_le_pow_right (show 0 < 8 by decide) h
  have e : (8 : Nat) ^ 6 = 262144 := by decide
  omega
theorem smallB {n : Nat} (h : n ≤ 2097152) : n < sizeLine := Nat.lt_of_le_of_lt h (by decide)
theorem map_snoc {β γ : Type} (f : β → γ) (g : Nat → β) (X : List β) (a : Nat) : (X ++ (List.range (a + 1)).map g).map f = (X ++ (List.range a).map g).map f ++ [f (g a)] := by simp [List.range_succ]
def spLBehind : Sp := fun vs H Q _ => ∃ (wv lv v : V) (T : Tk) (n k : Nat) (p : List Nat), vs = [wv, lv, .int (k : Nat), v] ∧ TD H wv (triD T.W n) ∧ TD H lv (triD T.L n) ∧ TD H v (pD p) ∧ ValidP p ∧ 1 ≤ p.length ∧ p.length ≤ n ∧ n ≤ 8 ∧
  ∀ L H' xs, Chg [] H H' → H' L = some (.lst xs) → TDs H' xs ((brAt T k (stkOf p) p p.length (n - p.length)).map fun e => cD (e.c, e.p)) → Q (.ref L) H'
section
variable {P : Program} {w : World} {K : PySem.W.Frag} {mg : Str → Option Value} {base : Heap}
theorem scLBehind : FnScope ["_law_writes", "_law_looks", "_law_most", "_law_begun", "_law_found", "_law_hour", "_law_later", "_law_plan_here", "_law_paid", "_law_begins_here", "_law_stands", "_law_at", "_law_now"] ["_law_writes", "_law_looks", "_law_most", "_law_begun"] (defScope sLBehind) := ⟨rfl, rfl, rfl, by decide +kernel, rfl, by decide +kernel, by decide +kernel⟩
theorem ok_lBehind {f : Addr} {fd : FuncData} (F : Fun K "_law_behind" "_law_behind" sLBehind f fd) (B : Bt mg) (cB : Fd P w K mg base 1 "_law_begins" spBehindL) (cH : Fd P w K mg base 1 "_law_hour_cost" spHourCost) : FnOk P w K mg base CX0 2 f fd ["_law_writes", "_law_looks", "_law_most", "_law_begun"] spLBehind := by
  refine F.ok scLBehind (fun vs H Q E h => ?_) (fun cdv A outer s H vs Q E hr h => ?_)
  · obtain ⟨wv, lv, v, T, n, k, p, rfl, _⟩ := h
    rfl
  obtain ⟨wv, lv, v, T, n, k, p, rfl, hw, hl, hv, hval, h1, hpn, hn, q⟩ := h
  refine ⟨_, pss_cons (ps_set (i := 4) scLBehind.nd rfl (Or.inl rfl) (pe_lst (pa_cons (pe_tup (pa_cons (pv 3) (pa_cons pe_int (pa_cons (pe_ix ix_list (pe_f cB hr (by decide) rfl (pa_cons (pv 3) pa_nil)) (pe_un un_neg pe_int) (fun _ _ => rfl)) pa_nil)))) pa_nil)))
    (pss_cons (ps_for PassesOwn.never rfl (pi_range2 (by rfl) B.rng (pa_cons (pe_callB call_len_seq (by rfl) B.len PySem.boot_len (pa_cons (pv 3) pa_nil)) (pa_cons (pe_callB call_len_seq (by rfl) B.len PySem.boot_len (pa_cons (pv 0) pa_nil)) pa_nil))) (pg_name (i := 5) scLBehind.nd rfl (.inl rfl))
      (pss_cons (ps_set (i := 6) scLBehind.nd rfl (Or.inl rfl) (pe_lst pa_nil))
      (pss_cons (ps_for PassesOwn.never rfl (pi_list (pv 4)) (pg_tup rfl (pgs_cons (pg_name (i := 7) scLBehind.nd rfl (.inl rfl)) (pgs_cons (pg_name (i := 8) scLBehind.nd rfl (.inl rfl)) (pgs_cons (pg_name (i := 9) scLBehind.nd rfl (.inl rfl)) pgs_nil))))
        (pss_cons (ps_set (i := 10) scLBehind.nd rfl (Or.inl rfl) (pe_op op_catA (pv 9) (pe_tup (pa_cons (pv 5) pa_nil))))
        (pss_one (ps_for PassesOwn.never rfl (pi_range1 (by rfl) B.rng (pa_cons (pe_callB (call_min2 rfl) (by rfl) B.min (by decide +kernel) (pa_cons (pv 2) (pa_cons (pe_callB call_len_seq (by rfl) B.len PySem.boot_len (pa_cons (pv 10) pa_nil)) pa_nil))) pa_nil)) (pg_name (i := 11) scLBehind.nd rfl (.inl rfl))
          (pss_cons (ps_set (i := 12) scLBehind.nd rfl (Or.inl rfl) (pe_slice sl_tupA (pv 10) po_none (po_some (pe_op op_add (pv 11) pe_int))))
          (pss_one (ps_expr (pe_bm PySem.F.plainAttrs_list PySem.F.slot_list_append PySem.F.type_list_append mt_append (pv 6) (pa_cons (pe_tup (pa_cons (pe_op op_catA (pv 7) (pe_tup (pa_cons (pe_ix ix_tup (pv 10) (pv 11) (fun _ _ => rfl)) pa_nil)))
            (pa_cons (pe_op op_add (pv 8) (pe_f cH hr (by decide) rfl (pa_cons (pv 0) (pa_cons (pv 1) (pa_cons (pv 12) (pa_cons (pv 5) pa_nil)))))) (pa_cons (pv 12) pa_nil)))) pa_nil)))))))))
      (pss_one (ps_set (i := 4) scLBehind.nd rfl (Or.inl rfl) (pv 6))))))
    (pss_one (ps_ret (pe_lc (own := [("_law_plan_here", 7), ("_law_paid", 8), ("_law_begins_here", 9)]) (g := gTup K 3 (gCons (gName 7) (gCons (gName 8) (gCons (gName 9) gNil)))) (tt := tYes) rfl scLBehind.nd (pi_list (pv 4))
      (blkOk_by (N := ["_law_writes", "_law_looks", "_law_most", "_law_begun", "_law_found", "_law_hour", "_law_later", "_law_plan_here", "_law_paid", "_law_begins_here", "_law_stands", "_law_at", "_law_now"]) (sc := defScope sLBehind) (by decide +kernel))
      (fun _ _ _ _ _ => pg_tup rfl (pgs_cons (pg_name (i := 7) scLBehind.nd rfl (Or.inl rfl)) (pgs_cons (pg_name (i := 8) scLBehind.nd rfl (Or.inl rfl)) (pgs_cons (pg_name (i := 9) scLBehind.nd rfl (Or.inl rfl)) pgs_nil)))) (fun _ _ _ _ _ => pts_nil)
      (fun _ _ _ _ _ => pe_tup (pa_cons (pv 8) (pa_cons (pv 7) pa_nil))))))), ?_⟩
  obtain ⟨aw, xw, rfl, hhw, hxw⟩ := id hw.tup_inv
  have lw : xw.length = n := by rw [hxw.length, List.length_map, List.length_range]
  obtain ⟨ap, rfl, hap⟩ := hv.pD_inv
  have hO : BrOk p.length ⟨p, 0, stkOf p⟩ := ⟨rfl, stkOf_len p, fun b hb => hval.lt hb⟩
  -- found = [(begun, 0, _law_begins(begun)[-1])]
  refine ⟨_, rfl, _, rfl, .ref ap, p, rfl, hv, by omega, fun L0 H1 ls c1 hL0 hds0 => ?_⟩
  obtain ⟨bsv, hbsv, hbsd⟩ := hds0.get (i := p.length - 1) (d := pD (stkOf p)) (by
    rw [List.getElem?_map, List.getElem?_range (by omega)]
    show some (pD (stkOf (p.take (p.length - 1 + 1)))) = _
    rw [List.take_of_length_le (by omega)])
  refine ⟨_, rfl, L0, ls, _, bsv, rfl, rfl, SqL.of hL0, atI_neg1 (m := p.length - 1) (by rw [hds0.length, List.length_map, List.length_range]; omega) hbsv, by show 3 ≤ sizeLine; decide, fun t0 ht0 => ⟨by show 1 ≤ sizeLine; decide, fun Lf hLf => ?_⟩⟩
  have c2 : Chg [] H1 (upd H1 t0 (.tup [.ref ap, .int 0, bsv])) := Chg.new ht0
  have c3 : Chg [] (upd H1 t0 (.tup [.ref ap, .int 0, bsv])) (upd (upd H1 t0 (.tup [.ref ap, .int 0, bsv])) Lf (.lst [.ref t0])) := Chg.new hLf
  have c03 := c1.trans (c2.trans c3)
  have hd3 : TDs (upd (upd H1 t0 (.tup [.ref ap, .int 0, bsv])) Lf (.lst [.ref t0])) [.ref t0] ((brAt T k (stkOf p) p p.length 0).map brD) :=
    .cons (.tup (c3.at upd_same) (.cons (hv.chg c03) (.cons (.int _) (.cons (hbsd.chg (c2.trans c3)) .nil)))) .nil
  have hL3 : upd (upd H1 t0 (.tup [.ref ap, .int 0, bsv])) Lf (.lst [.ref t0]) Lf = some (.lst [.ref t0]) := upd_same
  generalize upd (upd H1 t0 (.tup [.ref ap, .int 0, bsv])) Lf (.lst [.ref t0]) = H3 at *
  -- for hour in range(len(begun), len(writes))
  refine ⟨_, rfl, ap, _, rfl, .inr (SqT.of (c03.at hap)), _, rfl, aw, _, rfl, .inr (SqT.of (c03.at hhw)), ?_⟩
  rw [nV_len, lw]
  have eN : ((n : Int) - (p.length : Int)).toNat = n - p.length := by omega
  refine ⟨_, _, rfl, ⟨by omega, by omega, by omega, by omega⟩, for_range (lo := (p.length : Nat)) (n := ((n : Int) - (p.length : Int)).toNat) (fun i σ H' => (∃ Lf xs u5 u6 u7 u8 u9 u10 u11 u12, σ = [some (.ref aw), some lv, some (.int (k : Nat)), some (.ref ap), some (.ref Lf), u5, u6, u7, u8, u9, u10, u11, u12] ∧
      H' Lf = some (.lst xs) ∧ TDs H' xs ((brAt T k (stkOf p) p p.length i).map brD)) ∧ Chg [] H H') ⟨⟨Lf, _, _, _, _, _, _, _, _, _, rfl, hL3, hd3⟩, c03⟩ ?_ ?_⟩
  · rintro i σ H4 hi ⟨⟨Lf, xs, u5, u6, u7, u8, u9, u10, u11, u12, rfl, hLf4, hd4⟩, c04⟩
    rw [show (p.length : Int) + (i : Nat) = ((p.length + i : Nat) : Int) by omega]
    have hBO := brAt_ok (T := T) (k := k) hO i
    have hBL := brAt_len (T := T) (k := k) hO i (by omega)
    have hB8 := pow8 (i := i) (by omega)
    have eX : brAt T k (stkOf p) p p.length (i + 1) = (brAt T k (stkOf p) p p.length i).flatMap fun e => (List.range (min k (e.bs.length + 1))).map (brOne T (p.length + i) e) := rfl
    have hhn : p.length + i < n := by omega
    generalize brAt T k (stkOf p) p p.length i = Bs at *
    generalize p.length + i = h at *
    -- later = []
    refine ⟨by show 0 ≤ sizeLine; decide, fun la hla => ?_⟩
    have c5 : Chg [] H4 (upd H4 la (.lst [])) := Chg.new hla
    have nLl : Lf ≠ la := ne_of_none hLf4 hla
    refine ⟨_, rfl, Lf, rfl, ⟨_, SqL.of (c5.at hLf4)⟩, for_list (K := K) (a := Lf) (xs := xs) (fun j σ H' => (∃ u7 u8 u9 u10 u11 u12, σ = [some (.ref aw), some lv, some (.int (k : Nat)), some (.ref ap), some (.ref Lf), some (.int (h : Nat)), some (.ref la), u7, u8, u9, u10, u11, u12]) ∧ Chg [] H4 H' ∧
      ∃ ys, H' la = some (.lst ys) ∧ TDs H' ys (((Bs.take j).flatMap fun e => (List.range (min k (e.bs.length + 1))).map (brOne T h e)).map brD)) ⟨⟨_, _, _, _, _, _, rfl⟩, c5, [], upd_same, .nil⟩ (fun j σ H' _ ⟨_, c, _⟩ => SqL.of (c.at hLf4)) ?_ ?_⟩
    · rintro j x σ H6 hx ⟨⟨u7, u8, u9, u10, u11, u12, rfl⟩, c6, ys, hys, hdy⟩
      obtain ⟨d, hdd, hxd⟩ := (hd4.chg c6).got hx
      rw [List.getElem?_map] at hdd
      obtain ⟨e, he, rfl⟩ := Option.map_eq_some_iff.mp hdd
      have hEO := hBO e (List.mem_of_getElem? he)
      have hjl : j < Bs.length := (List.getElem?_eq_some_iff.mp he).1
      obtain ⟨tp, zs, rfl, htp, hzs⟩ := hxd.tup_inv
      cases hzs with
      | cons y1 hzs =>
      cases hzs with
      | cons y2 hzs =>
      obtain rfl := y2.int_inv
      cases hzs with
      | cons y3 hzs =>
      cases hzs
      rename_i vp vbs
      refine ⟨tp, _, rfl, SqT.of htp, rfl, _, _, rfl, _, _, rfl, _, _, rfl, rfl, ?_⟩
      -- stands
      refine ⟨_, rfl, _, rfl, by show 1 ≤ sizeLine; decide, fun p7 hp7 => ?_⟩
      have c7 : Chg [] H6 (upd H6 p7 (.tup [.int (h : Nat)])) := Chg.new hp7
      have hen := hEO.n
      have hep := hEO.p
      refine cat_plans (y3.chg c7) (q := [h]) (.tup upd_same (.cons (.int _) .nil)) (by rw [List.length_singleton]; omega) fun vs8 H8 c8 hs8 => ?_
      obtain ⟨as, rfl, has⟩ := hs8.pD_inv
      have c68 := c7.trans c8
      have hal : (e.bs ++ [h]).length = e.bs.length + 1 := by rw [List.length_append]; rfl
      -- for at in range(min(most, len(stands)))
      refine ⟨_, rfl, _, rfl, as, _, rfl, .inr (SqT.of has), ?_⟩
      rw [nV_len, hal]
      refine ⟨_, _, rfl, _, rfl, ?_⟩
      rw [min_two k (e.bs.length + 1)]
      have hfl : ((Bs.take j).flatMap fun e => (List.range (min k (e.bs.length + 1))).map (brOne T h e)).length ≤ j * 8 := by
        have h1 := flat_len (m := 8) (g := fun e : Br => (List.range (min k (e.bs.length + 1))).map (brOne T h e)) (Bs.take j) (fun e' he' => by
          rw [List.length_map, List.length_range]
          have := (hBO e' (List.mem_of_mem_take he')).n
          omega)
        rw [List.length_take] at h1
        omega
      have eM : ((min k (e.bs.length + 1) : Nat) : Int).toNat = min k (e.bs.length + 1) := by omega
      refine ⟨by omega, by omega, for_range (lo := 0) (n := ((min k (e.bs.length + 1) : Nat) : Int).toNat) (fun a σ H' => (∃ u11 u12, σ = [some (.ref aw), some lv, some (.int (k : Nat)), some (.ref ap), some (.ref Lf), some (.int (h : Nat)), some (.ref la), some vp, some (.int e.c), some vbs, some (.ref as), u11, u12]) ∧ Chg [] H4 H' ∧ Chg [la] H8 H' ∧
        ∃ ys, H' la = some (.lst ys) ∧ TDs H' ys ((((Bs.take j).flatMap fun e => (List.range (min k (e.bs.length + 1))).map (brOne T h e)) ++ (List.range a).map (brOne T h e)).map brD)) ⟨⟨_, _, rfl⟩, c6.trans c68, Chg.refl, ys, c68.at hys, ?_⟩ ?_ ?_⟩
      · rw [List.range_zero, List.map_nil, List.append_nil]
        exact hdy.chg c68
      · rintro a σ H9 ha ⟨⟨u11, u12, rfl⟩, c9, c89, ys9, hys9, hdy9⟩
        have ha : a < min k (e.bs.length + 1) := by omega
        rw [show (0 : Int) + (a : Nat) = ((a : Nat) : Int) by omega]
        have has9 := c89.tups _ _ has
        have hb : (e.bs ++ [h])[a]? = some ((e.bs ++ [h]).getD a 0) := by
          rw [List.getD_eq_getElem?_getD, List.getElem?_eq_getElem (by omega)]
          rfl
        have eB : brOne T h e a = ⟨e.p ++ [(e.bs ++ [h]).getD a 0], e.c + (T.W ((e.bs ++ [h]).getD a 0) h + (((e.bs ++ [h]).take (a + 1)).map fun b => T.L b h).sum), (e.bs ++ [h]).take (a + 1)⟩ := rfl
        generalize (e.bs ++ [h]).getD a 0 = b at *
        -- now
        refine ⟨_, rfl, _, rfl, _, _, rfl, rfl, _, rfl, sl_take (m := a + 1) (p := e.bs ++ [h]) (.plan has9) fun an H10 c10 han => ?_⟩
        refine ⟨_, rfl, .inl ⟨rfl, _, SqL.of (c10.at hys9)⟩, _, rfl, _, rfl, _, rfl, as, _, _, _, rfl, rfl, SqT.of (c10.at has9), atI_nat (j := a) (nV_at hb), by show 1 ≤ sizeLine; decide, fun p11 hp11 => ?_⟩
        have c11 : Chg [] H10 (upd H10 p11 (.tup [.int (b : Nat)])) := Chg.new hp11
        refine cat_plans (((((y1.chg c7).chg c8).chg c89).chg c10).chg c11) (q := [b]) (.tup upd_same (.cons (.int _) .nil)) (by rw [List.length_singleton]; omega) fun v12 H12 c12 hv12 => ?_
        have c912 := c10.trans (c11.trans c12)
        have c012 : Chg [] H H12 := (c04.trans c9).trans c912
        refine ⟨_, rfl, _, rfl, _, rfl, _, rfl, _, rfl, .ref aw, lv, .ref an, T, n, h, a, b, (e.bs ++ [h]).take (a + 1), rfl, hw.chg c012, hl.chg c012, .plan ((c11.trans c12).at han), ?_, by omega, ?_, hhn, ?_, fun H13 c13 => ?_⟩
        · rw [List.length_take]
          omega
        · rw [List.getElem?_take_of_lt (Nat.lt_succ_self a)]
          exact hb
        · intro b' hb'
          rcases List.mem_append.mp (List.mem_of_mem_take hb') with hm | hm
          · exact Nat.le_of_lt (hEO.b b' hm)
          · rcases List.mem_singleton.mp hm with rfl
            exact Nat.le_refl _
        refine ⟨_, _, rfl, rfl, _, rfl, by show 3 ≤ sizeLine; decide, fun p14 hp14 => ?_⟩
        have c14 : Chg [] H13 (upd H13 p14 (.tup [v12, .int (e.c + (T.W b h + (((e.bs ++ [h]).take (a + 1)).map fun b => T.L b h).sum)), .ref an])) := Chg.new hp14
        have c914 := c912.trans (c13.trans c14)
        have hys14 := c914.at hys9
        have hlen := hdy9.length
        rw [List.length_map, List.length_append, List.length_map, List.length_range] at hlen
        have cL : Chg [la] _ (upd (upd H13 p14 (.tup [v12, .int (e.c + (T.W b h + (((e.bs ++ [h]).take (a + 1)).map fun b => T.L b h).sum)), .ref an])) la (.lst (ys9 ++ [.ref p14]))) := Chg.refl.lst hys14 (by simp)
        have h8j : (j + 1) * 8 ≤ 2097152 := Nat.le_trans (Nat.mul_le_mul_right 8 (Nat.le_trans hjl hBL)) hB8
        refine ⟨la, _, _, rfl, rfl, hys14, smallB (by omega), ⟨_, _, rfl⟩, ?_, ?_, _, upd_same, ?_⟩
        · exact (c9.trans c914).put hla
        · exact (c89.trans c914.pure).trans cL
        · rw [map_snoc]
          refine ((hdy9.chg c914).chg cL).app ?_
          rw [eB]
          refine .cons (TD.chg ?_ cL) .nil
          exact .tup upd_same (.cons ((hv12.chg c13).chg c14) (.cons (.int _) (.cons (.plan (((c11.trans c12).trans (c13.trans c14)).at han)) .nil)))
      · rintro σ H9 ⟨⟨u11, u12, rfl⟩, c9, c89, ys9, hys9, hdy9⟩
        rw [eM] at hdy9
        refine ⟨⟨_, _, _, _, _, _, rfl⟩, c9, ys9, hys9, ?_⟩
        rw [List.take_succ, he, Option.toList_some, List.flatMap_append, List.flatMap_cons, List.flatMap_nil, List.append_nil]
        exact hdy9
    · rintro σ H6 ⟨⟨u7, u8, u9, u10, u11, u12, rfl⟩, c6, ys, hys, hdy⟩
      have hl4 := hd4.length
      rw [List.length_map] at hl4
      rw [hl4, List.take_length] at hdy
      refine ⟨_, rfl, ⟨la, ys, _, _, _, _, _, _, _, _, rfl, hys, ?_⟩, c04.trans c6⟩
      rw [eX]
      exact hdy
  · rintro σ H4 ⟨⟨Lf, xs, u5, u6, u7, u8, u9, u10, u11, u12, rfl, hLf4, hd4⟩, c04⟩
    rw [eN] at hd4
    have hBL := brAt_len (T := T) (k := k) hO (n - p.length) (by omega)
    have hB8 : 8 ^ (n - p.length) ≤ 2097152 := by
      have := Nat.pow_le_pow_right (show 0 < 8 by decide) (show n - p.length ≤ 7 by omega)
      have e : (8 : Nat) ^ 7 = 2097152 := by decide
      omega
    generalize brAt T k (stkOf p) p p.length (n - p.length) = Bs at *
    have hl4 := hd4.length
    rw [List.length_map] at hl4
    refine ⟨_, rfl, Lf, rfl, ⟨_, SqL.of hLf4⟩, fun D hD => lc_list (K := K) (a := Lf) (xs := xs) (fun j H' => Chg [] H4 H' ∧ ∃ zs, H' D = some (.lst zs) ∧ TDs H' zs ((Bs.take j).map fun e => cD (e.c, e.p)))
      ⟨Chg.new hD, [], upd_same, .nil⟩ (fun j H' _ z => SqL.of (z.1.at hLf4)) ?_ ?_⟩
    · intro j x H5 hx ⟨c5, zs, hzs, hdz⟩
      obtain ⟨d, hdd, hxd⟩ := (hd4.chg c5).got hx
      rw [List.getElem?_map] at hdd
      obtain ⟨e, he, rfl⟩ := Option.map_eq_some_iff.mp hdd
      have hjl : j < Bs.length := (List.getElem?_eq_some_iff.mp he).1
      obtain ⟨tp, ts, rfl, htp, hts⟩ := hxd.tup_inv
      cases hts with
      | cons y1 hts =>
      cases hts with
      | cons y2 hts =>
      obtain rfl := y2.int_inv
      cases hts with
      | cons y3 hts =>
      cases hts
      rename_i vp vbs
      refine ⟨tp, _, rfl, SqT.of htp, rfl, _, _, rfl, _, _, rfl, _, _, rfl, rfl, rfl, ?_⟩
      refine ⟨_, rfl, _, rfl, by show 2 ≤ sizeLine; decide, fun t6 ht6 => ?_⟩
      have c6 : Chg [] H5 (upd H5 t6 (.tup [.int e.c, vp])) := Chg.new ht6
      have hz := hdz.length
      rw [List.length_map, List.length_take] at hz
      have cL := (c5.trans c6).put (o := .lst (zs ++ [.ref t6])) hD
      have cq : Chg [D] (upd H5 t6 (.tup [.int e.c, vp])) (upd (upd H5 t6 (.tup [.int e.c, vp])) D (.lst (zs ++ [.ref t6]))) := Chg.refl.lst (c6.at hzs) (by simp)
      refine ⟨_, c6.at hzs, smallB (by omega), cL, _, upd_same, ?_⟩
      rw [List.take_succ, he, Option.toList_some, List.map_append]
      exact ((hdz.chg c6).chg cq).snoc (TD.chg (.tup upd_same (.cons (.int _) (.cons (y1.chg c6) .nil))) cq)
    · intro H5 ⟨c5, zs, hzs, hdz⟩
      rw [hl4, List.take_length] at hdz
      exact q D H5 zs (c04.trans c5) hzs hdz
end
end K58
end
section
set_option Elab.async false
set_option linter.all false
set_option maxRecDepth 100000
set_option maxHeartbeats 4000000
/-! ### the law -/
namespace K58
open PySem PySem.Spec PyProof.Rows L2
abbrev sLaw : Stmt := top 51
theorem can_all : ∀ (ds : List PyData), (∀ d ∈ ds, d.canLay0 = true) → PyData.canLayAll0 ds = true
  | [], _ => by simp [PyData.canLayAll0]
  | d :: ds, h => by
    have h1 := can_all ds fun e he => h e (List.mem_cons_of_mem _ he)
    have h2 := h d List.mem_cons_self
    simp [PyData.canLayAll0, h1, h2]
theorem can_tup {ds : List PyData} (h : ∀ d ∈ ds, d.canLay0 = true) : (PyData.tuple ds).canLay0 = true := by
  have := can_all ds h
  simp [PyData.canLay0, this]
theorem can_iD (ns : List Int) : (iD ns).canLay0 = true := can_tup fun d hd => by
  obtain ⟨i, _, rfl⟩ := List.mem_map.mp hd
  simp [PyData.canLay0]
theorem shaped_cD (x : PP) : SeqAt.shaped (cD x) = true := by
  have h1 : (cD x).canLay0 = true := can_tup fun d hd => by
    rcases List.mem_cons.mp hd with rfl | hd
    · simp [PyData.canLay0]
    · rcases List.mem_singleton.mp hd with rfl
      exact can_iD _
  unfold SeqAt.shaped
  rw [h1, depth_cD]
  rfl
theorem shaped_triD (F : Nat → Nat → Int) (n : Nat) : SeqAt.shaped (triD F n) = true := by
  have h1 : (triD F n).canLay0 = true := can_tup fun d hd => by
    obtain ⟨a, _, rfl⟩ := List.mem_map.mp hd
    exact can_iD _
  have h2 : (triD F n).depth ≤ 2 := by
    unfold triD
    rw [PyData.depth]
    have := depth_all (fun a => iD (rowD F n a)) 1 (fun a => by rw [depth_iD]; exact Nat.le_refl _) (List.range n)
    omega
  unfold SeqAt.shaped
  rw [h1, decide_eq_true (by omega)]
  rfl
theorem ne_self {K : PySem.W.Frag} {x y : V} {d : PyData} {H : Hp} {Q : VK} (hx : TD H x d) (hy : TD H y d) (sd : SeqAt.shaped d = true) (q : Q (.bl false) H) : rNeD K x y H Q := by
  refine ⟨d, d, hx.dp K, hy.dp K, sd, sd, ?_⟩
  rw [SeqAt.eqv_refl d (SeqAt.canLay_of_shaped sd)]
  exact q
theorem pick4 {v : V} {i : Nat} (h : i < 4) {a b c d : Nat} (ha : 2 ≤ a ∧ a ≤ 8) (hb : 2 ≤ b ∧ b ≤ 8) (hc : 2 ≤ c ∧ c ≤ 8) (hd : 2 ≤ d ∧ d ≤ 8) : ∃ n : Nat, 2 ≤ n ∧ n ≤ 8 ∧ atI [V.int (a : Nat), V.int (b : Nat), V.int (c : Nat), V.int (d : Nat)] (i : Nat) = some (.int (n : Nat)) := by
  rcases (by omega : i = 0 ∨ i = 1 ∨ i = 2 ∨ i = 3) with rfl | rfl | rfl | rfl
  · exact ⟨a, ha.1, ha.2, atI_nat (j := 0) rfl⟩
  · exact ⟨b, hb.1, hb.2, atI_nat (j := 1) rfl⟩
  · exact ⟨c, hc.1, hc.2, atI_nat (j := 2) rfl⟩
  · exact ⟨d, hd.1, hd.2, atI_nat (j := 3) rfl⟩
theorem pick3 {i : Nat} (h : i < 3) {a b c : Nat} (ha : 1 ≤ a ∧ a ≤ 30) (hb : 1 ≤ b ∧ b ≤ 30) (hc : 1 ≤ c ∧ c ≤ 30) : ∃ n : Nat, 1 ≤ n ∧ n ≤ 30 ∧ atI [V.int (a : Nat), V.int (b : Nat), V.int (c : Nat)] (i : Nat) = some (.int (n : Nat)) := by
  rcases (by omega : i = 0 ∨ i = 1 ∨ i = 2) with rfl | rfl | rfl
  · exact ⟨a, ha.1, ha.2, atI_nat (j := 0) rfl⟩
  · exact ⟨b, hb.1, hb.2, atI_nat (j := 1) rfl⟩
  · exact ⟨c, hc.1, hc.2, atI_nat (j := 2) rfl⟩
theorem valid_range (m : Nat) : ValidP (List.range m) := by
  intro i b h
  have hi := (List.getElem?_eq_some_iff.mp h).1
  rw [List.length_range] at hi
  rw [List.getElem?_range hi] at h
  cases h
  exact ⟨Nat.le_refl _, .inl rfl⟩
theorem valid_zero : ValidP [0] := by
  intro i b h
  cases i with
  | zero => cases h; exact ⟨Nat.le_refl _, .inl rfl⟩
  | succ i => simp at h
theorem best_len {T : Tk} {k f n : Nat} {bs0 begun : List Nat} (hk : 1 ≤ k) (hf : f ≤ n) (hl : begun.length = f) : (bestOf T k bs0 begun f n).2.length = n := by
  obtain ⟨p, bs, r, e⟩ := (best_lst (T := T) (k := k) (bs0 := bs0) (begun := begun) (f := f) (n := n) hk hf).2.1
  rw [e, List.length_append, hl, r.le.2]
  omega
def spLaw (K : PySem.W.Frag) : Sp := fun vs H Q _ => ∃ (a : Addr) (ns : List Int), vs = [.ref a] ∧ SqL K H a (ns.map V.int) ∧ ∀ H', Q (.bl true) H'
section
variable {P : Program} {w : World} {K : PySem.W.Frag} {mg : Str → Option Value} {base : Heap} {CT : Addr} {k0 : Nat}
theorem scLaw : FnScope ["_law_script", "_law_hand_here", "_law_turn", "_law_hours", "_law_writes", "_law_looks", "_law_task", "_law_most", "_law_many", "_law_begun", "_law_due", "_law_free"] ["_law_script"] (defScope sLaw) := ⟨rfl, rfl, rfl, by decide +kernel, rfl, by decide +kernel, by decide +kernel⟩
theorem ok_law {f : Addr} {fd : FuncData} (F : Fun K "law" "law" sLaw f fd) (B : Bt mg) (T : TTxt K mg CT) (h0 : 10 ≤ k0) (cHa : Fd P w K mg base 1 "_law_hand" (spHand K)) (cDr : Fd P w K mg base 1 "_law_draw" spDraw) (cP : Fd P w K mg base 3 "_law_prices" spPrices)
    (cT : Mc P w K mg base 5 "Task" CT (spTaskI CT)) (cLP : Fd P w K mg base 2 "_law_plan" spLPlan) (cLB : Fd P w K mg base 2 "_law_behind" spLBehind) (cI : Fd P w K mg base 4 "_law_is" (spIs 3)) (cR : Fd P w K mg base k0 "rest" (spRest CT))
    (cL : Fd P w K mg base k0 "least" (spLeastCost CT)) (cLp : Fd P w K mg base k0 "least_plan" (spLeastPlan CT)) : FnOk P w K mg base CX0 (k0 + 1) f fd ["_law_script"] (spLaw K) := by
  refine F.ok scLaw (fun vs H Q E h => ?_) (fun cdv A outer s H vs Q E hr h => ?_)
  · obtain ⟨a, ns, rfl, _⟩ := h
    rfl
  obtain ⟨a, ns, rfl, hS, q⟩ := h
  have k1 : 1 ≤ k0 := by omega
  have k2 : 2 ≤ k0 := by omega
  have k3 : 3 ≤ k0 := by omega
  have k4 : 4 ≤ k0 := by omega
  have k6 : 5 + 1 ≤ k0 := by omega
  refine ⟨_, pss_cons (ps_set (i := 1) scLaw.nd rfl (Or.inl rfl) (pe_f cHa hr k1 rfl (pa_cons (pv 0) pa_nil)))
    (pss_cons (ps_for PassesOwn.never rfl (pi_range1 (by rfl) B.rng (pa_cons pe_int pa_nil)) (pg_name (i := 2) scLaw.nd rfl (.inl rfl))
      (pss_cons (ps_set (i := 3) scLaw.nd rfl (Or.inl rfl) (pe_ix ix_list (pe_lst (pa_cons (pe_op op_add pe_int (pe_f cDr hr k1 rfl (pa_cons (pv 1) (pa_cons pe_int pa_nil)))) (pa_cons pe_int (pa_cons pe_int (pa_cons
          (pe_ix ix_list (pe_lst (pa_cons pe_int (pa_cons pe_int pa_nil))) (pe_callTy call_int1 (by rfl) B.int (by decide +kernel) (pa_cons (pe_cmpR op_eq (pe_f cDr hr k1 rfl (pa_cons (pv 1) (pa_cons pe_int pa_nil))) pe_int (nomark _)) pa_nil)) (fun _ _ => rfl)) pa_nil))))) (pv 2) (fun _ _ => rfl)))
      (pss_cons (ps_asg (pe_f cP hr k3 rfl (pa_cons (pv 1) (pa_cons (pv 3) pa_nil))) (pg_tup rfl (pgs_cons (pg_name (i := 4) scLaw.nd rfl (.inl rfl)) (pgs_cons (pg_name (i := 5) scLaw.nd rfl (.inl rfl)) pgs_nil))))
      (pss_cons (ps_set (i := 6) scLaw.nd rfl (Or.inl rfl) (pe_k cT hr k6 rfl (pa_cons (pv 4) (pa_cons (pv 5) pa_nil))))
      (pss_cons (ps_set (i := 7) scLaw.nd rfl (Or.inl rfl) (pe_ix ix_list (pe_lst (pa_cons (pe_op op_add pe_int (pe_f cDr hr k1 rfl (pa_cons (pv 1) (pa_cons pe_int pa_nil)))) (pa_cons (pe_op op_add pe_int (pe_f cDr hr k1 rfl (pa_cons (pv 1) (pa_cons (pv 3) pa_nil)))) (pa_cons pe_int pa_nil)))) (pe_f cDr hr k1 rfl (pa_cons (pv 1) (pa_cons pe_int pa_nil))) (fun _ _ => rfl)))
      (pss_cons (ps_set (i := 8) scLaw.nd rfl (Or.inl rfl) (pe_op op_add pe_int (pe_f cDr hr k1 rfl (pa_cons (pv 1) (pa_cons (pe_op op_sub (pv 3) pe_int) pa_nil)))))
      (pss_cons (ps_set (i := 9) scLaw.nd rfl (Or.inl rfl) (pe_f cLP hr k2 rfl (pa_cons (pv 1) (pa_cons (pv 8) (pa_cons (pv 8) pa_nil)))))
      (Evl.pss_cut (ps_if (pt_cmpR op_eq (pe_f cDr hr k1 rfl (pa_cons (pv 1) (pa_cons pe_int pa_nil))) pe_int (nomark _)) (pss_one (ps_set (i := 9) scLaw.nd rfl (Or.inl rfl) (pe_tupRg rfl (by rfl) B.tup (prg_1 (by rfl) B.rng (pv 8))))) pss_nil)
      (pss_cons (ps_set (i := 10) scLaw.nd rfl (Or.inl rfl) (pe_callB (cr_minD rfl hr.units) (by rfl) B.min (by decide +kernel) (pa_cons (pe_f cLB hr k2 rfl (pa_cons (pv 4) (pa_cons (pv 5) (pa_cons (pv 7) (pa_cons (pv 9) pa_nil))))) pa_nil)))
      (pss_cons (ps_if (pt_not (pt_val (pe_f cI hr k4 rfl (pa_cons (pe_f cR hr (Nat.le_refl _) rfl (pa_cons (pv 6) (pa_cons (pv 7) (pa_cons (pv 9) pa_nil)))) (pa_cons (pv 10) pa_nil))))) (pss_one (ps_ret pe_bl)) pss_nil)
      (pss_cons (ps_set (i := 11) scLaw.nd rfl (Or.inl rfl) (pe_tup (pa_cons (pe_op op_sub (pe_op op_sub (pe_f cL hr (Nat.le_refl _) rfl (pa_cons (pv 6) (pa_cons (pv 7) pa_nil))) (pe_ix ix_tup (pe_ix ix_tup (pv 4) pe_int (fun _ _ => rfl)) pe_int (fun _ _ => rfl))) (pe_ix ix_tup (pe_ix ix_tup (pv 5) pe_int (fun _ _ => rfl)) pe_int (fun _ _ => rfl)))
          (pa_cons (pe_f cLp hr (Nat.le_refl _) rfl (pa_cons (pv 6) (pa_cons (pv 7) pa_nil))) pa_nil))))
      (pss_cons (ps_if (PW.pt (pw_or (pt_not (pt_val (pe_f cI hr k4 rfl (pa_cons (pe_f cR hr (Nat.le_refl _) rfl (pa_cons (pv 6) (pa_cons (pv 7) (pa_cons (pe_tup (pa_cons pe_int pa_nil)) pa_nil)))) (pa_cons (pv 11) pa_nil)))))
          (pw_or1 (pt_cmpR (op_neD hr.units) (pe_f cR hr (Nat.le_refl _) rfl (pa_cons (pv 6) (pa_cons (pv 7) (pa_cons (pv 9) pa_nil)))) (pv 10) (nomark _))))) (pss_one (ps_ret pe_bl)) pss_nil)
      (pss_one (ps_if (PW.pt (pw_or (pt_cmpR (op_neD hr.units) (pe_fld (pv 6) rfl) (pv 4) (nomark _)) (pw_or1 (pt_cmpR (op_neD hr.units) (pe_fld (pv 6) rfl) (pv 5) (nomark _))))) (pss_one (ps_ret pe_bl)) pss_nil))))))))))))))
    (pss_one (ps_ret pe_bl))), ?_⟩
  refine ⟨_, rfl, a, ns, rfl, hS, fun hd ca H1 c1 _ _ hH1 => ?_⟩
  refine ⟨_, rfl, by decide, by decide, for_range (lo := 0) (n := (4 : Int).toNat) (fun i σ H' => (∃ u2 u3 u4 u5 u6 u7 u8 u9 u10 u11, σ = [some (.ref a), some (.ref hd), u2, u3, u4, u5, u6, u7, u8, u9, u10, u11]) ∧ HandAt H' hd ca) ⟨⟨_, _, _, _, _, _, _, _, _, _, rfl⟩, hH1⟩ ?_ ?_⟩
  · rintro i σ H2 hi ⟨⟨u2, u3, u4, u5, u6, u7, u8, u9, u10, u11, rfl⟩, hH2⟩
    have hi : i < 4 := hi
    rw [show (0 : Int) + (i : Nat) = ((i : Nat) : Int) by omega]
    -- hours
    refine ⟨_, rfl, hd, ca, 5, rfl, hH2, by decide, by decide, fun d1 H3 c3 hH3 hd1 => ⟨_, _, rfl, rfl, by show 2 ≤ sizeLine; decide, fun l4 hl4 => ?_⟩⟩
    have hH4 := hH3.chg (Chg.new (o := .lst [.int 7, .int 8]) hl4)
    refine ⟨_, rfl, hd, ca, 6, rfl, hH4, by decide, by decide, fun d2 H5 c5 hH5 hd2 => ⟨rfl, .inr ⟨_, rfl, ?_⟩⟩⟩
    have hl5 := c5.keep _ _ (upd_same (H := H3) (a := l4) (o := .lst [.int 7, .int 8])) (nin1 (hH3.new1 hl4))
    obtain ⟨x, hx1, hx2, ex⟩ : ∃ x : Nat, 2 ≤ x ∧ x ≤ 8 ∧ atI [V.int 7, V.int 8] (if decide (V.int ((d2 : Nat) : Int) = V.int 0) = true then 1 else 0) = some (.int (x : Nat)) := by
      by_cases c : decide (V.int ((d2 : Nat) : Int) = V.int 0) = true
      · rw [if_pos c]
        exact ⟨8, by decide, by decide, atI_nat (j := 1) rfl⟩
      · rw [if_neg c]
        exact ⟨7, by decide, by decide, atI_nat (j := 0) rfl⟩
    refine ⟨l4, _, _, _, rfl, rfl, SqL.of hl5, ex, by show 4 ≤ sizeLine; decide, fun l6 hl6 => ?_⟩
    have hH6 := hH5.chg (Chg.new (o := .lst [.int (2 + (d1 : Nat)), .int 4, .int 5, .int (x : Nat)]) hl6)
    obtain ⟨n, hn1, hn2, en⟩ := pick4 (v := .non) hi (a := 2 + d1) (b := 4) (c := 5) (d := x) (by omega) (by omega) (by omega) (by omega)
    refine ⟨_, rfl, l6, _, _, _, rfl, rfl, SqL.of upd_same, en, ?_⟩
    generalize upd H5 l6 (.lst [.int (2 + (d1 : Nat)), .int 4, .int 5, .int (x : Nat)]) = H6 at *
    -- prices
    refine ⟨_, rfl, _, rfl, hd, ca, n, rfl, hH6, hn2, fun p7 H7 W L wv lv c7 hH7 hW hL hp7 hwv hlv => ?_⟩
    refine ⟨p7, _, rfl, SqT.of hp7, rfl, _, _, rfl, _, _, rfl, rfl, ?_⟩
    obtain ⟨Tt, rfl, rfl⟩ : ∃ Tt : Tk, W = Tt.W ∧ L = Tt.L := ⟨⟨W, L⟩, rfl, rfl⟩
    -- the task
    refine ⟨_, rfl, _, rfl, fun t dt htn hdt hne => ⟨t, dt, wv, lv, Tt, n, rfl, upd_same, hwv.chg (M := []) (Chg.made htn hdt), hlv.chg (M := []) (Chg.made htn hdt), by omega, by omega, hW, hL, fun H8 keep ht8 => ⟨rfl, ?_⟩⟩⟩
    obtain ⟨c8, _⟩ := made_post htn hdt keep
    have hH8 := hH7.chg c8
    have hT8 : TaskAt CT H8 t Tt n := ⟨dt, wv, lv, ht8, hwv.chg c8, hlv.chg c8⟩
    have hwv8 := hwv.chg c8
    have hlv8 := hlv.chg c8
    -- most
    refine ⟨_, rfl, hd, ca, 3, rfl, hH8, by decide, by decide, fun d3 H9 c9 hH9 hd3 => ⟨_, _, rfl, rfl, _, rfl, _, rfl, hd, ca, n, rfl, hH9, by omega, by omega, fun d4 H10 c10 hH10 hd4 => ⟨_, _, rfl, rfl, by show 3 ≤ sizeLine; decide, fun l11 hl11 => ?_⟩⟩⟩
    have c11 : Chg [] H10 (upd H10 l11 (.lst [.int (1 + (d3 : Nat)), .int (1 + (d4 : Nat)), .int 30])) := Chg.new hl11
    refine ⟨_, rfl, hd, ca, 3, rfl, hH10.chg c11, by decide, by decide, fun d5 H12 c12 hH12 hd5 => ?_⟩
    obtain ⟨k, hk, hk30, ek⟩ := pick3 hd5 (a := 1 + d3) (b := 1 + d4) (c := 30) (by omega) (by omega) (by omega)
    refine ⟨l11, _, _, _, rfl, rfl, SqL.of (c12.keep _ _ upd_same (nin1 (hH10.new1 hl11))), ek, ?_⟩
    have c812 : Chg [hd] H8 H12 := c9.trans (c10.trans (c11.pure.trans c12))
    -- many
    refine ⟨_, rfl, _, rfl, _, _, rfl, rfl, hd, ca, n - 1, (by
      show [V.ref hd, V.int ((n : Int) - 1)] = _
      rw [show (n : Int) - 1 = ((n - 1 : Nat) : Int) by omega]), hH12, by omega, by omega, fun d6 H13 c13 hH13 hd6 => ⟨_, _, rfl, rfl, ?_⟩⟩
    -- begun
    refine ⟨_, rfl, _, rfl, _, rfl, hd, ca, 1 + d6, 1 + d6, rfl, hH13, by omega, by omega, by omega, fun vb0 H14 p0 c14 hH14 hpl0 hval0 hvb0 => ?_⟩
    have c814 := c812.trans (c13.trans c14)
    refine ⟨fun σ' H' => ∃ vb p, σ' = [some (.ref a), some (.ref hd), some (.int (i : Nat)), some (.int (n : Nat)), some wv, some lv, some (.ref t), some (.int (k : Nat)), some (.int ((1 + d6 : Nat) : Int)), some vb, u10, u11] ∧ p.length = 1 + d6 ∧ ValidP p ∧ TD H' vb (pD p) ∧ Chg [hd] H8 H' ∧ HandAt H' hd ca, ?_, ?_⟩
    · refine ⟨_, rfl, hd, ca, 4, rfl, hH14, by decide, by decide, fun d7 H15 c15 hH15 hd7 => ⟨rfl, _, rfl, ite2 (fun c => ?_) (fun c => ?_)⟩⟩
      · refine ⟨_, rfl, _, rfl, RgOk.of_le (by decide) (by omega) (by decide) (by omega), fun tq htq => ⟨_, List.range (1 + d6), rfl, List.length_range, valid_range _, ?_, ?_, hH15.chg (Chg.new htq)⟩⟩
        · refine .plan ?_
          rw [upd_same]
          have e : rgV 0 (1 + (d6 : Nat)) = (nI (List.range (1 + d6))).map V.int := by
            unfold rgV nI
            rw [show ((1 : Int) + (d6 : Nat) - 0).toNat = 1 + d6 by omega, List.map_map]
            refine List.map_congr_left fun z _ => ?_
            show V.int (0 + (z : Int)) = V.int (z : Int)
            rw [Int.zero_add]
          rw [e]
        · exact (c814.trans c15).trans (Chg.new htq)
      · exact ⟨vb0, p0, rfl, hpl0, hval0, hvb0.chg c15, c814.trans c15, hH15⟩
    rintro σ3 H15 ⟨vb, p, rfl, hpl, hval, hvb, c815, hH15⟩
    have hT15 := hT8.chg c815
    have hwv15 := hwv8.chg c815
    have hlv15 := hlv8.chg c815
    have ht15 := c815.inss _ _ _ _ ht8
    -- due
    refine ⟨_, rfl, _, rfl, _, rfl, _, rfl, wv, lv, vb, Tt, n, k, p, rfl, hwv15, hlv15, hvb, hval, by omega, by omega, hn2, fun Lb H16 xs c16 hLb hbd => ?_⟩
    dsimp only [tNil]
    refine min_pairs (ps := (brAt Tt k (stkOf p) p p.length (n - p.length)).map fun e => (e.c, e.p)) hLb (by rw [List.map_map]; exact hbd) (by simpa using br_ne (T := Tt) (bs0 := stkOf p) (begun := p) (f := p.length) hk (n - p.length)) fun vd hvd => ?_
    rw [br_best hk (by omega)] at hvd
    have hbl := best_len (T := Tt) (k := k) (n := n) (bs0 := stkOf p) (begun := p) hk (by omega) rfl
    -- if not _law_is(rest(task, most, begun), due)
    refine ⟨_, rfl, _, rfl, _, rfl, t, Tt, n, k, vb, p, rfl, hT15.chg c16, hvb.chg c16, hval, hk, hk30, by omega, by omega, hn2, fun vr H17 c17 hvr => ?_⟩
    refine ⟨_, rfl, vr, vd, cD (bestOf Tt k (stkOf p) p p.length n), rfl, hvr, hvd.chg c17, okN_cD (by omega), fun H18 c18 => ⟨true, rfl, ?_⟩⟩
    refine iteF ?_
    have c1518 := c16.trans (c17.trans c18)
    -- free
    obtain ⟨aw, xw, arw, rfl, hhw, hxw, harw⟩ := tri_at hwv15 (a := 0) (by omega)
    obtain ⟨al, xl, arl, rfl, hhl, hxl, harl⟩ := tri_at hlv15 (a := 0) (by omega)
    refine ⟨_, rfl, _, rfl, t, Tt, n, k, rfl, hT15.chg c1518, hk, hk30, by omega, hn2, fun H19 c19 => ?_⟩
    have c1519 := c1518.trans c19
    refine ⟨_, rfl, aw, _, _, _, rfl, rfl, SqT.of (c1519.at hhw), atI_nat (j := 0) hxw, arw, _, _, _, rfl, rfl, SqT.of (c1519.at harw), row_at (f := 0) (l := 0) (Nat.le_refl _) (by omega), _, _, rfl, rfl,
      _, rfl, al, _, _, _, rfl, rfl, SqT.of (c1519.at hhl), atI_nat (j := 0) hxl, arl, _, _, _, rfl, rfl, SqT.of (c1519.at harl), row_at (f := 0) (l := 0) (Nat.le_refl _) (by omega), _, _, rfl, rfl,
      _, rfl, _, rfl, t, Tt, n, k, rfl, hT15.chg c1519, hk, hk30, by omega, hn2, fun vp H20 c20 hvp => ⟨by show 2 ≤ sizeLine; decide, fun tf htf => ?_⟩⟩
    have c21 : Chg [] H20 (upd H20 tf (.tup [.int (own Tt k 0 (n - 1) + lk Tt 0 0 n - Tt.W 0 0 - Tt.L 0 0), vp])) := Chg.new htf
    have c1521 := c1519.trans (c20.trans c21)
    have hfree : TD (upd H20 tf (.tup [.int (own Tt k 0 (n - 1) + lk Tt 0 0 n - Tt.W 0 0 - Tt.L 0 0), vp])) (.ref tf) (cD (bestOf Tt k [0] [0] 1 n)) := by
      rw [best_first hk (by omega)]
      exact .tup upd_same (.cons (.int _) (.cons (hvp.chg c21) .nil))
    generalize upd H20 tf (.tup [.int (own Tt k 0 (n - 1) + lk Tt 0 0 n - Tt.W 0 0 - Tt.L 0 0), vp]) = H21 at *
    have hbl2 := best_len (T := Tt) (k := k) (n := n) (bs0 := [0]) (begun := [0]) (f := 1) hk (by omega) rfl
    -- if not _law_is(rest(task, most, (0,)), free) or rest(task, most, begun) != due
    refine ⟨_, rfl, _, rfl, by show 1 ≤ sizeLine; decide, fun tz htz => ?_⟩
    have c22 : Chg [] H21 (upd H21 tz (.tup [.int 0])) := Chg.new htz
    refine ⟨t, Tt, n, k, .ref tz, [0], rfl, hT15.chg (c1521.trans c22), .plan (p := [0]) upd_same, valid_zero, hk, hk30, by decide, by show 1 < n; omega, hn2, fun vr2 H23 c23 hvr2 => ?_⟩
    have c2123 := c22.trans c23
    refine ⟨_, rfl, vr2, .ref tf, cD (bestOf Tt k [0] [0] 1 n), rfl, hvr2, hfree.chg c2123, okN_cD (by omega), fun H24 c24 => ⟨true, rfl, ?_⟩⟩
    refine iteF ?_
    have c1524 := c1521.trans (c2123.trans c24)
    refine ⟨_, rfl, _, rfl, _, rfl, t, Tt, n, k, vb, p, rfl, hT15.chg c1524, hvb.chg c1524, hval, hk, hk30, by omega, by omega, hn2, fun vr3 H25 c25 hvr3 => ?_⟩
    have c1525 := c1524.trans c25
    have cd : Chg [] H16 H25 := (c17.trans c18).trans (c19.trans ((c20.trans c21).trans ((c2123.trans c24).trans c25)))
    refine ⟨_, rfl, ne_self hvr3 (hvd.chg cd) (shaped_cD _) ⟨_, rfl, ?_⟩⟩
    refine iteF ?_
    -- if task.writes != writes or task.looks != looks
    have ht25 := c1525.inss _ _ _ _ ht15
    refine ⟨_, rfl, t, CT, dt, _, _, rfl, ht25, T.cl, T.nW, tkF_w _ _, _, rfl, ne_self (hwv15.chg c1525) (hwv15.chg c1525) (shaped_triD _ _) ⟨_, rfl, ?_⟩⟩
    refine iteF ?_
    refine ⟨_, rfl, t, CT, dt, _, _, rfl, ht25, T.cl, T.nL, tkF_l _ _, _, rfl, ne_self (hlv15.chg c1525) (hlv15.chg c1525) (shaped_triD _ _) ⟨_, rfl, ?_⟩⟩
    refine iteF ?_
    exact ⟨⟨_, _, _, _, _, _, _, _, _, _, rfl⟩, hH15.chg c1525⟩
  · rintro σ H2 ⟨⟨u2, u3, u4, u5, u6, u7, u8, u9, u10, u11, rfl⟩, hH2⟩
    exact q H2
end
end K58
end
section
set_option Elab.async false
set_option linter.all false
set_option maxRecDepth 100000
set_option maxHeartbeats 4000000
/-! ### what the top leaves, and the law from it -/
namespace K58
open PySem PySem.Spec PyProof.Rows L2
section
variable {K : PySem.W.Frag} {mg : Str → Option Value} {h : Heap} {x qual m : Str} {st : Stmt} {ps : List Str} {f C : Addr} {oc : Value} {od an : Option Addr} {sl : Array (Option Value)} {kV dc pm cd ct : Value}
/-- the words bind the arguments one by one -/
def BindOk (x qual : Str) (st : Stmt) (ps : List Str) : Prop := ∀ (kV doc pm : Value) (an : Option Addr) (cdv ct : Value) (us : List Value), us.length = ps.length → bindArgs (PySem.W.fnOf x qual (defArgs st) (defBody st) (defScope st) .none kV doc pm an cdv ct) ⟨us, []⟩ = pure (ps.zip us)
theorem FF.of (hb : BindOk x x st ps) (X : K.In h) (G : h.Ns mainGlobals mg) (a : PySem.W.nsIn K mainGlobals x = some (some (.ref f))) (l : K.lookup f = some ⟨oc, od, .func (PySem.W.fnOf x x (defArgs st) (defBody st) (defScope st) .none kV dc pm an cd ct), sl⟩)
    (c : PySem.W.codeIn K cd x = true) (k : PySem.W.keepIn K (.ref f) = true) : FF K mg x st ps :=
  ⟨f, _, fun_mk l c k, PySem.W.mg_of X G a, (fun_mk l c k).binds hb⟩
theorem MF.of (hb : BindOk m qual st ps) (a : PySem.W.findIn K (.ref C) m = some (some (.ref f))) (i : PySem.W.isFn K (.ref f) = true) (l : K.lookup f = some ⟨oc, od, .func (PySem.W.fnOf m qual (defArgs st) (defBody st) (defScope st) .none kV dc pm an cd ct), sl⟩)
    (c : PySem.W.codeIn K cd qual = true) (k : PySem.W.keepIn K (.ref f) = true) : MF K C m qual st ps :=
  ⟨f, _, fun_mk l c k, ⟨a, i, k⟩, (fun_mk l c k).binds hb⟩
theorem IF.of (hb : BindOk "__init__" qual st ps) (X : K.In h) (G : h.Ns mainGlobals mg) (g : PySem.W.nsIn K mainGlobals x = some (some (.ref C))) (a : PySem.W.findIn K (.ref C) "__init__" = some (some (.ref f))) (i : PySem.W.isFn K (.ref f) = true)
    (l : K.lookup f = some ⟨oc, od, .func (PySem.W.fnOf "__init__" qual (defArgs st) (defBody st) (defScope st) .none kV dc pm an cd ct), sl⟩) (c : PySem.W.codeIn K cd qual = true) (k : PySem.W.keepIn K (.ref f) = true) (mk : PySem.W.makesIn K C = true) (kc : PySem.W.keepIn K (.ref C) = true) : IF K mg x C qual st ps :=
  ⟨f, _, fun_mk l c k, ⟨mk, a, i, kc⟩, PySem.W.mg_of X G g, (fun_mk l c k).binds hb⟩
end
theorem bo_sIsInt : BindOk "is_integer" "is_integer" sIsInt ["thing"] := fun _ _ _ _ _ _ us hl => match us, hl with | [_], _ => rfl
theorem bo_sWithin : BindOk "is_within" "is_within" sWithin ["thing", "least", "most"] := fun _ _ _ _ _ _ us hl => match us, hl with | [_, _, _], _ => rfl
theorem bo_sIsRow : BindOk "is_row" "is_row" sIsRow ["thing", "size", "least", "most"] := fun _ _ _ _ _ _ us hl => match us, hl with | [_, _, _, _], _ => rfl
theorem bo_sWrong : BindOk "first_wrong_row" "first_wrong_row" sWrong ["rows", "least", "most"] := fun _ _ _ _ _ _ us hl => match us, hl with | [_, _, _], _ => rfl
theorem bo_sChkNum : BindOk "check_number" "check_number" sChkNum ["thing", "least", "most"] := fun _ _ _ _ _ _ us hl => match us, hl with | [_, _, _], _ => rfl
theorem bo_sLenOf : BindOk "length_of" "length_of" sLenOf ["task"] := fun _ _ _ _ _ _ us hl => match us, hl with | [_], _ => rfl
theorem bo_sWriteOf : BindOk "write_of" "write_of" sWriteOf ["task", "first", "last"] := fun _ _ _ _ _ _ us hl => match us, hl with | [_, _, _], _ => rfl
theorem bo_sLookSum : BindOk "look_sum" "look_sum" sLookSum ["task", "begin", "first", "last"] := fun _ _ _ _ _ _ us hl => match us, hl with | [_, _, _, _], _ => rfl
theorem bo_sChkMost : BindOk "check_most" "check_most" sChkMost ["most"] := fun _ _ _ _ _ _ us hl => match us, hl with | [_], _ => rfl
theorem bo_sMay : BindOk "may_all" "may_all" sMay ["hour", "begin"] := fun _ _ _ _ _ _ us hl => match us, hl with | [_, _], _ => rfl
theorem bo_sBestPair : BindOk "best_pair" "best_pair" sBestPair ["task", "most", "may"] := fun _ _ _ _ _ _ us hl => match us, hl with | [_, _, _], _ => rfl
theorem bo_sLeastCost : BindOk "least_cost" "least_cost" sLeastCost ["task", "most"] := fun _ _ _ _ _ _ us hl => match us, hl with | [_, _], _ => rfl
theorem bo_sLeast : BindOk "least" "least" sLeast ["task", "most"] := fun _ _ _ _ _ _ us hl => match us, hl with | [_, _], _ => rfl
theorem bo_sLeastPlan : BindOk "least_plan" "least_plan" sLeastPlan ["task", "most"] := fun _ _ _ _ _ _ us hl => match us, hl with | [_, _], _ => rfl
theorem bo_sPlanOf : BindOk "is_plan_of" "is_plan_of" sPlanOf ["hours", "thing"] := fun _ _ _ _ _ _ us hl => match us, hl with | [_, _], _ => rfl
theorem bo_sNext : BindOk "begins_next" "begins_next" sNext ["begins", "begin"] := fun _ _ _ _ _ _ us hl => match us, hl with | [_, _], _ => rfl
theorem bo_sAnyPlan : BindOk "is_any_plan" "is_any_plan" sAnyPlan ["thing"] := fun _ _ _ _ _ _ us hl => match us, hl with | [_], _ => rfl
theorem bo_sBehindL : BindOk "begins_behind" "begins_behind" sBehindL ["plan"] := fun _ _ _ _ _ _ us hl => match us, hl with | [_], _ => rfl
theorem bo_sBetween : BindOk "between" "between" sBetween ["solver", "most", "first", "last"] := fun _ _ _ _ _ _ us hl => match us, hl with | [_, _, _, _], _ => rfl
theorem bo_sChkBegun : BindOk "check_begun" "check_begun" sChkBegun ["task", "thing"] := fun _ _ _ _ _ _ us hl => match us, hl with | [_, _], _ => rfl
theorem bo_sRest : BindOk "rest" "rest" sRest ["task", "most", "begun"] := fun _ _ _ _ _ _ us hl => match us, hl with | [_, _, _], _ => rfl
theorem bo_sHand : BindOk "_law_hand" "_law_hand" sHand ["_law_script"] := fun _ _ _ _ _ _ us hl => match us, hl with | [_], _ => rfl
theorem bo_sDraw : BindOk "_law_draw" "_law_draw" sDraw ["_law_hand_here", "_law_many"] := fun _ _ _ _ _ _ us hl => match us, hl with | [_, _], _ => rfl
theorem bo_sIs : BindOk "_law_is" "_law_is" sIs ["_law_got", "_law_due"] := fun _ _ _ _ _ _ us hl => match us, hl with | [_, _], _ => rfl
theorem bo_sTri : BindOk "_law_triangle" "_law_triangle" sTri ["_law_hand_here", "_law_hours", "_law_most"] := fun _ _ _ _ _ _ us hl => match us, hl with | [_, _, _], _ => rfl
theorem bo_sSummed : BindOk "_law_summed" "_law_summed" sSummed ["_law_sizes"] := fun _ _ _ _ _ _ us hl => match us, hl with | [_], _ => rfl
theorem bo_sPrices : BindOk "_law_prices" "_law_prices" sPrices ["_law_hand_here", "_law_hours"] := fun _ _ _ _ _ _ us hl => match us, hl with | [_, _], _ => rfl
theorem bo_sLBegins : BindOk "_law_begins" "_law_begins" sLBegins ["_law_plan_here"] := fun _ _ _ _ _ _ us hl => match us, hl with | [_], _ => rfl
theorem bo_sLPlan : BindOk "_law_plan" "_law_plan" sLPlan ["_law_hand_here", "_law_hours", "_law_most"] := fun _ _ _ _ _ _ us hl => match us, hl with | [_, _, _], _ => rfl
theorem bo_sHourCost : BindOk "_law_hour_cost" "_law_hour_cost" sHourCost ["_law_writes", "_law_looks", "_law_begins_here", "_law_hour"] := fun _ _ _ _ _ _ us hl => match us, hl with | [_, _, _, _], _ => rfl
theorem bo_sLBehind : BindOk "_law_behind" "_law_behind" sLBehind ["_law_writes", "_law_looks", "_law_most", "_law_begun"] := fun _ _ _ _ _ _ us hl => match us, hl with | [_, _, _, _], _ => rfl
theorem bo_sLaw : BindOk "law" "law" sLaw ["_law_script"] := fun _ _ _ _ _ _ us hl => match us, hl with | [_], _ => rfl
theorem bo_sTaskI : BindOk "__init__" "Task.__init__" sTaskI ["self", "writes", "looks"] := fun _ _ _ _ _ _ us hl => match us, hl with | [_, _, _], _ => rfl
theorem bo_sSolvI : BindOk "__init__" "Solver.__init__" sSolvI ["self", "task", "may"] := fun _ _ _ _ _ _ us hl => match us, hl with | [_, _, _], _ => rfl
theorem bo_sRestI : BindOk "__init__" "Rest.__init__" sRestI ["self", "task", "most", "begun"] := fun _ _ _ _ _ _ us hl => match us, hl with | [_, _, _, _], _ => rfl
theorem bo_sCapped : BindOk "capped" "Solver.capped" sCapped ["self", "most", "first", "last"] := fun _ _ _ _ _ _ us hl => match us, hl with | [_, _, _, _], _ => rfl
theorem bo_sAhead : BindOk "ahead_cost" "Solver.ahead_cost" sAhead ["self", "most", "first", "top"] := fun _ _ _ _ _ _ us hl => match us, hl with | [_, _, _, _], _ => rfl
theorem bo_sBehind : BindOk "behind_cost" "Solver.behind_cost" sBehind ["self", "most", "top", "last"] := fun _ _ _ _ _ _ us hl => match us, hl with | [_, _, _, _], _ => rfl
theorem bo_sTop : BindOk "top_cost" "Solver.top_cost" sTop ["self", "most", "first", "last", "top"] := fun _ _ _ _ _ _ us hl => match us, hl with | [_, _, _, _, _], _ => rfl
theorem bo_sOwn : BindOk "own_cost" "Solver.own_cost" sOwn ["self", "most", "first", "last"] := fun _ _ _ _ _ _ us hl => match us, hl with | [_, _, _, _], _ => rfl
theorem bo_sSpan : BindOk "span_cost" "Solver.span_cost" sSpan ["self", "most", "first", "last"] := fun _ _ _ _ _ _ us hl => match us, hl with | [_, _, _, _], _ => rfl
theorem bo_sTops : BindOk "tops" "Solver.tops" sTops ["self", "most", "first", "last"] := fun _ _ _ _ _ _ us hl => match us, hl with | [_, _, _, _], _ => rfl
theorem bo_sPlan : BindOk "span_plan" "Solver.span_plan" sPlan ["self", "most", "first", "last"] := fun _ _ _ _ _ _ us hl => match us, hl with | [_, _, _, _], _ => rfl
theorem bo_sElder : BindOk "elder_looks" "Rest.elder_looks" sElder ["self", "many", "first", "last"] := fun _ _ _ _ _ _ us hl => match us, hl with | [_, _, _, _], _ => rfl
theorem bo_sWays : BindOk "ways_to" "Rest.ways_to" sWays ["self", "hour"] := fun _ _ _ _ _ _ us hl => match us, hl with | [_, _], _ => rfl
theorem bo_sWritten : BindOk "written_at" "Rest.written_at" sWritten ["self", "hour"] := fun _ _ _ _ _ _ us hl => match us, hl with | [_, _], _ => rfl
theorem bo_sBest : BindOk "best" "Rest.best" sBest ["self"] := fun _ _ _ _ _ _ us hl => match us, hl with | [_], _ => rfl
structure Facts (K : PySem.W.Frag) (mg : Str → Option Value) (CT CS CR fm : Addr) : Prop where
  B : Bt mg
  f_sIsInt : FF K mg "is_integer" sIsInt ["thing"]
  f_sWithin : FF K mg "is_within" sWithin ["thing", "least", "most"]
  f_sIsRow : FF K mg "is_row" sIsRow ["thing", "size", "least", "most"]
  f_sWrong : FF K mg "first_wrong_row" sWrong ["rows", "least", "most"]
  f_sChkNum : FF K mg "check_number" sChkNum ["thing", "least", "most"]
  f_sLenOf : FF K mg "length_of" sLenOf ["task"]
  f_sWriteOf : FF K mg "write_of" sWriteOf ["task", "first", "last"]
  f_sLookSum : FF K mg "look_sum" sLookSum ["task", "begin", "first", "last"]
  f_sChkMost : FF K mg "check_most" sChkMost ["most"]
  f_sMay : FF K mg "may_all" sMay ["hour", "begin"]
  f_sBestPair : FF K mg "best_pair" sBestPair ["task", "most", "may"]
  f_sLeastCost : FF K mg "least_cost" sLeastCost ["task", "most"]
  f_sLeast : FF K mg "least" sLeast ["task", "most"]
  f_sLeastPlan : FF K mg "least_plan" sLeastPlan ["task", "most"]
  f_sPlanOf : FF K mg "is_plan_of" sPlanOf ["hours", "thing"]
  f_sNext : FF K mg "begins_next" sNext ["begins", "begin"]
  f_sAnyPlan : FF K mg "is_any_plan" sAnyPlan ["thing"]
  f_sBehindL : FF K mg "begins_behind" sBehindL ["plan"]
  f_sBetween : FF K mg "between" sBetween ["solver", "most", "first", "last"]
  f_sChkBegun : FF K mg "check_begun" sChkBegun ["task", "thing"]
  f_sRest : FF K mg "rest" sRest ["task", "most", "begun"]
  f_sHand : FF K mg "_law_hand" sHand ["_law_script"]
  f_sDraw : FF K mg "_law_draw" sDraw ["_law_hand_here", "_law_many"]
  f_sIs : FF K mg "_law_is" sIs ["_law_got", "_law_due"]
  f_sTri : FF K mg "_law_triangle" sTri ["_law_hand_here", "_law_hours", "_law_most"]
  f_sSummed : FF K mg "_law_summed" sSummed ["_law_sizes"]
  f_sPrices : FF K mg "_law_prices" sPrices ["_law_hand_here", "_law_hours"]
  f_sLBegins : FF K mg "_law_begins" sLBegins ["_law_plan_here"]
  f_sLPlan : FF K mg "_law_plan" sLPlan ["_law_hand_here", "_law_hours", "_law_most"]
  f_sHourCost : FF K mg "_law_hour_cost" sHourCost ["_law_writes", "_law_looks", "_law_begins_here", "_law_hour"]
  f_sLBehind : FF K mg "_law_behind" sLBehind ["_law_writes", "_law_looks", "_law_most", "_law_begun"]
  f_sTaskI : IF K mg "Task" CT "Task.__init__" sTaskI ["self", "writes", "looks"]
  f_sSolvI : IF K mg "Solver" CS "Solver.__init__" sSolvI ["self", "task", "may"]
  f_sRestI : IF K mg "Rest" CR "Rest.__init__" sRestI ["self", "task", "most", "begun"]
  sf : SFun K CS
  f_sElder : MF K CR "elder_looks" "Rest.elder_looks" sElder ["self", "many", "first", "last"]
  f_sWays : MF K CR "ways_to" "Rest.ways_to" sWays ["self", "hour"]
  f_sWritten : MF K CR "written_at" "Rest.written_at" sWritten ["self", "hour"]
  f_sBest : MF K CR "best" "Rest.best" sBest ["self"]
  T : TTxt K mg CT
  S : STxt K mg CS fm
  R : RTxt K CR
  mR : ∃ t, mg "MOST_RUNS" = some (.int 30 t)
  mH : ∃ t, mg "MOST_HOURS_plans" = some (.int 40 t)
section
variable {P : Program} {w : World} {K : PySem.W.Frag} {mg : Str → Option Value} {base : Heap} {CT CS CR fm : Addr}
theorem law_ok (X : Facts K mg CT CS CR fm) {f : Addr} {fd : FuncData} (F : Fun K "law" "law" sLaw f fd) : FnOk P w K mg base CX0 41 f fd ["_law_script"] (spLaw K) := by
  have B := X.B
  have cInt : Fd P w K mg base 1 "is_integer" spIsInt := X.f_sIsInt.fd fun f fd F => ok_isInt F B
  have cWithin : Fd P w K mg base 2 "is_within" spWithin := X.f_sWithin.fd fun f fd F => ok_within F cInt
  have cIsRow : Fd P w K mg base 3 "is_row" spIsRow := X.f_sIsRow.fd fun f fd F => ok_isRow F B cWithin
  have cWrong : Fd P w K mg base 4 "first_wrong_row" spWrong := X.f_sWrong.fd fun f fd F => ok_wrong F B cIsRow
  have cChkNum : Fd P w K mg base 3 "check_number" spChk := X.f_sChkNum.fd fun f fd F => ok_chkNum F cWithin
  have cTask : Mc P w K mg base 5 "Task" CT (spTaskI CT) := X.f_sTaskI.mc fun f fd F => ok_taskI F B X.T cWrong
  have cLen : Fd P w K mg base 1 "length_of" (spLenOf CT) := X.f_sLenOf.fd fun f fd F => ok_lenOf F B X.T
  have cWrite : Fd P w K mg base 1 "write_of" (spWriteOf CT) := X.f_sWriteOf.fd fun f fd F => ok_writeOf F X.T
  have cLook : Fd P w K mg base 1 "look_sum" (spLookSum CT) := X.f_sLookSum.fd fun f fd F => ok_lookSum F B X.T
  have cMost : Fd P w K mg base 4 "check_most" spChkMost := X.f_sChkMost.fd fun f fd F => ok_chkMost F X.mR cChkNum
  have cMay : Fa P w K mg base 1 fm spMay := by
    obtain ⟨g, gd, G, e, b⟩ := X.f_sMay.has
    have e2 := e.symm.trans X.S.mgM
    cases e2
    exact ⟨gd, _, ok_may G, G.kp, b⟩
  have cSolv : Mc P w K mg base 1 "Solver" CS (spSolvI CS CT fm) := X.f_sSolvI.mc fun f fd F => ok_solvI F X.S
  have cSpan : Mt P w K mg base 35 CS "span_cost" (spSpan CS CT fm 8) := (all_span B X.S X.sf cMay cWrite cLook 8).mono (by decide)
  have cPlan : Mt P w K mg base 35 CS "span_plan" (spPlan CS CT fm 8) := (all_plan B X.S X.sf cMay cWrite cLook 8).mono (by decide)
  have cPair : Fd P w K mg base 36 "best_pair" (spBestPair CT fm) := X.f_sBestPair.fd fun f fd F => ok_bestPair F (by decide) cSolv cLen cSpan cPlan
  have cLC : Fd P w K mg base 36 "least_cost" (spLeastCost CT) := X.f_sLeastCost.fd fun f fd F => ok_leastCost F X.S (by decide) cSolv cLen cSpan
  have cLeast : Fd P w K mg base 37 "least" (spLeastCost CT) := X.f_sLeast.fd fun f fd F => ok_least F (by decide) cMost cLC
  have cLeastP : Fd P w K mg base 37 "least_plan" (spLeastPlan CT) := X.f_sLeastPlan.fd fun f fd F => ok_leastPlan F X.S (by decide) cMost cPair
  have cNext : Fd P w K mg base 1 "begins_next" spNext := X.f_sNext.fd fun f fd F => ok_next F B
  have cPlanOf : Fd P w K mg base 3 "is_plan_of" spPlanOf := X.f_sPlanOf.fd fun f fd F => ok_planOf F B cWithin cNext
  have cAnyPlan : Fd P w K mg base 4 "is_any_plan" spAnyPlan := X.f_sAnyPlan.fd fun f fd F => ok_anyPlan F B X.mH cPlanOf
  have cBehindL : Fd P w K mg base 2 "begins_behind" spBehindL := X.f_sBehindL.fd fun f fd F => ok_behindL F cNext
  have cBetween : Fd P w K mg base 36 "between" (spBetween CS CT fm) := X.f_sBetween.fd fun f fd F => ok_between F cSpan cPlan
  have cBegun : Fd P w K mg base 5 "check_begun" (spChkBegun CT) := X.f_sChkBegun.fd fun f fd F => ok_chkBegun F B cAnyPlan cLen
  have cRestI : Mc P w K mg base 3 "Rest" CR (spRestI CR CS CT fm) := X.f_sRestI.mc fun f fd F => ok_restI F B X.R X.S cBehindL cSolv
  have cElder : Mt P w K mg base 2 CR "elder_looks" (spElder CR CS CT fm) := X.f_sElder.mt X.R.cl fun f fd F => ok_elder F B X.R cLook
  have cWays : Mt P w K mg base 37 CR "ways_to" (spWays CR CS CT fm) := X.f_sWays.mt X.R.cl fun f fd F => ok_ways F B X.R (by decide) cBetween cElder
  have cWritten : Mt P w K mg base 38 CR "written_at" (spWritten CR CS CT fm) := X.f_sWritten.mt X.R.cl fun f fd F => ok_written F B X.R (by decide) cWays cElder cWrite
  have cBest : Mt P w K mg base 39 CR "best" (spBest CR CS CT fm) := X.f_sBest.mt X.R.cl fun f fd F => ok_best F B X.R (by decide) (cWays.mono (by decide)) cWritten cLen
  have cRest : Fd P w K mg base 40 "rest" (spRest CT) := X.f_sRest.fd fun f fd F => ok_rest F X.R (by decide) cMost cBegun cRestI cBest
  have cHand : Fd P w K mg base 1 "_law_hand" (spHand K) := X.f_sHand.fd fun f fd F => ok_hand F B
  have cDraw : Fd P w K mg base 1 "_law_draw" spDraw := X.f_sDraw.fd fun f fd F => ok_draw F B
  have cIs0 : Fd P w K mg base 1 "_law_is" (spIs 0) := X.f_sIs.fd fun f fd F => fn_none fun vs H Q E h => by
    obtain ⟨a, b, x, _, _, _, z, _⟩ := h
    exact z
  have cIs1 : Fd P w K mg base 2 "_law_is" (spIs 1) := X.f_sIs.fd fun f fd F => ok_is F B cIs0
  have cIs2 : Fd P w K mg base 3 "_law_is" (spIs 2) := X.f_sIs.fd fun f fd F => ok_is F B cIs1
  have cIs3 : Fd P w K mg base 4 "_law_is" (spIs 3) := X.f_sIs.fd fun f fd F => ok_is F B cIs2
  have cTri : Fd P w K mg base 2 "_law_triangle" spTri := X.f_sTri.fd fun f fd F => ok_tri F B cDraw
  have cSummed : Fd P w K mg base 1 "_law_summed" spSummed := X.f_sSummed.fd fun f fd F => ok_summed F B
  have cPrices : Fd P w K mg base 3 "_law_prices" spPrices := X.f_sPrices.fd fun f fd F => ok_prices F B cDraw cTri cSummed
  have cLBegins : Fd P w K mg base 1 "_law_begins" spBehindL := X.f_sLBegins.fd fun f fd F => ok_lBegins F B
  have cLPlan : Fd P w K mg base 2 "_law_plan" spLPlan := X.f_sLPlan.fd fun f fd F => ok_lPlan F B cDraw
  have cHourCost : Fd P w K mg base 1 "_law_hour_cost" spHourCost := X.f_sHourCost.fd fun f fd F => ok_hourCost F B
  have cLBehind : Fd P w K mg base 2 "_law_behind" spLBehind := X.f_sLBehind.fd fun f fd F => ok_lBehind F B cLBegins cHourCost
  exact ok_law F B X.T (by decide) cHand cDraw cPrices cTask cLPlan cLBehind cIs3 cRest (cLeast.mono (by decide)) (cLeastP.mono (by decide))
end
/-- the top's loose number -/
theorem loose_price {p : Program} {mg : Str → Option Value} {h : Heap} (X : PySem.W.XL p [("MOST_PRICE", .int 1000000000)] mg h) : ∃ t, mg "MOST_PRICE" = some (.int 1000000000 t) := by
  obtain ⟨v, hv, hr⟩ := X.2.val ("MOST_PRICE", .int 1000000000) (by simp)
  cases hr with
  | int => exact ⟨_, hv⟩
theorem walkX {l : PySem.W.OpenLaw} {q : Program} {loose : List Str} {XP : (Str → Option Value) → Heap → Prop} {YP : World → Heap → Prop} {d : DefRec} {K : Params → PySem.W.Frag} (hn : l.most = some 63) (hdf : d.params.defaults = [])
    (hY : ∀ (w : World) (h : Heap), YP w h → (K w.params).In h)
    (F : ∀ (w : World) (mg : Str → Option Value) (fa : Addr) (h : Heap), (K w.params).In h → h.Ns mainGlobals mg → XP mg h → mg d.name = some (.ref fa) →
      ∃ fd : FuncData, (∀ (s : Shared) (u : Value), BindsTo s fd ⟨[u], []⟩ [("_law_script", u)]) ∧ ∀ base : Heap, (K w.params).In base → base.Ns mainGlobals mg → FnOk l.prog w (K w.params) mg base CX0 41 fa fd ["_law_script"] (spLaw (K w.params))) :
    PySem.W.WalkO q loose XP YP l.row.toRowW d [] (fun f vs => PySem.call f vs) := by
  refine Att.attach_call hn hdf fun w s₀ s₁ mg mb fa o pm cd doc a vs ns G Y ho hd hcd hmg hobj hints hlen hg => ?_
  have KX := hY w _ Y
  obtain ⟨fd, hb, hF⟩ := F w mg fa _ KX G.T.g G.X hmg
  exact law_call KX G.T.g G.T.b G.T.builtins G.T.nolimit hg hobj hints (Nat.le_trans hlen (by decide)) ⟨rfl, by decide, by decide⟩ hF hb (fun H _ hS => ⟨a, ns, rfl, hS, fun _ => rfl⟩) fun _ _ _ z => z
/-- the law's own def, last -/
theorem law_mk {l : PySem.W.OpenLaw} {w : World} {K : PySem.W.Frag} {h : Heap} {mg : Str → Option Value} {fa f CT CS CR fm : Addr} {oc : Value} {od an : Option Addr} {sl : Array (Option Value)} {kV dc pm cd ct : Value} (X : K.In h) (G : h.Ns mainGlobals mg) (hfa : mg "law" = some (.ref fa)) (Y : Facts K mg CT CS CR fm)
    (a : PySem.W.nsIn K mainGlobals "law" = some (some (.ref f))) (lk : K.lookup f = some ⟨oc, od, .func (PySem.W.fnOf "law" "law" (defArgs sLaw) (defBody sLaw) (defScope sLaw) .none kV dc pm an cd ct), sl⟩) (c : PySem.W.codeIn K cd "law" = true) (k : PySem.W.keepIn K (.ref f) = true) :
    ∃ fd : FuncData, (∀ (s : Shared) (v : Value), BindsTo s fd ⟨[v], []⟩ [("_law_script", v)]) ∧ ∀ base : Heap, K.In base → base.Ns mainGlobals mg → FnOk l.prog w K mg base CX0 41 fa fd ["_law_script"] (spLaw K) := by
  have e := hfa.symm.trans (PySem.W.mg_of X G a)
  cases e
  exact ⟨_, fun s v => .of_eq rfl, fun base _ _ => law_ok Y (fun_mk (st := sLaw) lk c k)⟩
end K58
end
section
set_option Elab.async false
set_option linter.all false
set_option maxRecDepth 100000
set_option maxHeartbeats 4000000
/-! ### packages: a class with its methods, the built-ins -/
namespace K58
open PySem PySem.Spec PyProof.Rows L2
section
variable {K : PySem.W.Frag} {mg : Str → Option Value} {h : Heap}
theorem bt_mk (X : K.In h) (G : h.Ns mainGlobals mg) (z0 : PySem.W.nsIn K mainGlobals "isinstance" = some none) (z1 : PySem.W.nsIn K mainGlobals "int" = some none) (z2 : PySem.W.nsIn K mainGlobals "bool" = some none) (z3 : PySem.W.nsIn K mainGlobals "tuple" = some none) (z4 : PySem.W.nsIn K mainGlobals "list" = some none) (z5 : PySem.W.nsIn K mainGlobals "len" = some none) (z6 : PySem.W.nsIn K mainGlobals "all" = some none) (z7 : PySem.W.nsIn K mainGlobals "enumerate" = some none) (z8 : PySem.W.nsIn K mainGlobals "sum" = some none) (z9 : PySem.W.nsIn K mainGlobals "range" = some none) (z10 : PySem.W.nsIn K mainGlobals "min" = some none) (z11 : PySem.W.nsIn K mainGlobals "abs" = some none) (z12 : PySem.W.nsIn K mainGlobals "zip" = some none) : Bt mg :=
  ⟨PySem.W.mg_none_of X G z0, PySem.W.mg_none_of X G z1, PySem.W.mg_none_of X G z2, PySem.W.mg_none_of X G z3, PySem.W.mg_none_of X G z4, PySem.W.mg_none_of X G z5, PySem.W.mg_none_of X G z6, PySem.W.mg_none_of X G z7, PySem.W.mg_none_of X G z8, PySem.W.mg_none_of X G z9, PySem.W.mg_none_of X G z10, PySem.W.mg_none_of X G z11, PySem.W.mg_none_of X G z12⟩
theorem num_mk {x : Str} {i : Int} {t : Tok} (X : K.In h) (G : h.Ns mainGlobals mg) (z : PySem.W.nsIn K mainGlobals x = some (some (.int i t))) : ∃ t, mg x = some (.int i t) := ⟨t, PySem.W.mg_of X G z⟩
theorem cls_mk {C : Addr} (pg : PySem.W.plainGet K C Str.empty = true) (hd : PySem.W.hasDictIn K C = true) (po : PySem.W.plainOver K C = true) (sa : PySem.W.findIn K (.ref C) "__setattr__" = some (some (.builtin "object.__setattr__"))) : Cls K C := ⟨pg, hd, po, sa⟩
theorem mk_Task {C : Addr} {f0 : Addr} {oc0 : Value} {od0 an0 : Option Addr} {sl0 : Array (Option Value)} {kV0 dc0 pm0 cd0 ct0 : Value} (X : K.In h) (G : h.Ns mainGlobals mg) (mH : ∃ t, mg "MOST_HOURS_tasks" = some (.int 30 t)) (mP : ∃ t, mg "MOST_PRICE" = some (.int 1000000000 t)) (g : PySem.W.nsIn K mainGlobals "Task" = some (some (.ref C))) (pg : PySem.W.plainGet K C Str.empty = true) (hd : PySem.W.hasDictIn K C = true) (po : PySem.W.plainOver K C = true) (sa : PySem.W.findIn K (.ref C) "__setattr__" = some (some (.builtin "object.__setattr__"))) (mk : PySem.W.makesIn K C = true) (kc : PySem.W.keepIn K (.ref C) = true) (n0 : PySem.W.findIn K (.ref C) "writes" = some none) (n1 : PySem.W.findIn K (.ref C) "looks" = some none) (a0 : PySem.W.findIn K (.ref C) "__init__" = some (some (.ref f0))) (i0 : PySem.W.isFn K (.ref f0) = true) (l0 : K.lookup f0 = some ⟨oc0, od0, .func (PySem.W.fnOf "__init__" "Task.__init__" (defArgs sTaskI) (defBody sTaskI) (defScope sTaskI) .none kV0 dc0 pm0 an0 cd0 ct0), sl0⟩) (c0 : PySem.W.codeIn K cd0 "Task.__init__" = true) (k0 : PySem.W.keepIn K (.ref f0) = true) : ∃ C, TTxt K mg C ∧ IF K mg "Task" C "Task.__init__" sTaskI ["self", "writes", "looks"] := ⟨C, ⟨cls_mk pg hd po sa, n0, n1, mH, mP⟩, IF.of bo_sTaskI X G g a0 i0 l0 c0 k0 mk kc⟩
theorem mk_Solver {C : Addr} {f0 : Addr} {oc0 : Value} {od0 an0 : Option Addr} {sl0 : Array (Option Value)} {kV0 dc0 pm0 cd0 ct0 : Value} {f1 : Addr} {oc1 : Value} {od1 an1 : Option Addr} {sl1 : Array (Option Value)} {kV1 dc1 pm1 cd1 ct1 : Value} {f2 : Addr} {oc2 : Value} {od2 an2 : Option Addr} {sl2 : Array (Option Value)} {kV2 dc2 pm2 cd2 ct2 : Value} {f3 : Addr} {oc3 : Value} {od3 an3 : Option Addr} {sl3 : Array (Option Value)} {kV3 dc3 pm3 cd3 ct3 : Value} {f4 : Addr} {oc4 : Value} {od4 an4 : Option Addr} {sl4 : Array (Option Value)} {kV4 dc4 pm4 cd4 ct4 : Value} {f5 : Addr} {oc5 : Value} {od5 an5 : Option Addr} {sl5 : Array (Option Value)} {kV5 dc5 pm5 cd5 ct5 : Value} {f6 : Addr} {oc6 : Value} {od6 an6 : Option Addr} {sl6 : Array (Option Value)} {kV6 dc6 pm6 cd6 ct6 : Value} {f7 : Addr} {oc7 : Value} {od7 an7 : Option Addr} {sl7 : Array (Option Value)} {kV7 dc7 pm7 cd7 ct7 : Value} {f8 : Addr} {oc8 : Value} {od8 an8 : Option Addr} {sl8 : Array (Option Value)} {kV8 dc8 pm8 cd8 ct8 : Value} (X : K.In h) (G : h.Ns mainGlobals mg) (mM : ∃ fm, mg "may_all" = some (.ref fm)) (g : PySem.W.nsIn K mainGlobals "Solver" = some (some (.ref C))) (pg : PySem.W.plainGet K C Str.empty = true) (hd : PySem.W.hasDictIn K C = true) (po : PySem.W.plainOver K C = true) (sa : PySem.W.findIn K (.ref C) "__setattr__" = some (some (.builtin "object.__setattr__"))) (mk : PySem.W.makesIn K C = true) (kc : PySem.W.keepIn K (.ref C) = true) (n0 : PySem.W.findIn K (.ref C) "task" = some none) (n1 : PySem.W.findIn K (.ref C) "may" = some none) (n2 : PySem.W.findIn K (.ref C) "costs" = some none) (n3 : PySem.W.findIn K (.ref C) "plans" = some none) (n4 : PySem.W.findIn K (.ref C) "counts" = some none) (a0 : PySem.W.findIn K (.ref C) "__init__" = some (some (.ref f0))) (i0 : PySem.W.isFn K (.ref f0) = true) (l0 : K.lookup f0 = some ⟨oc0, od0, .func (PySem.W.fnOf "__init__" "Solver.__init__" (defArgs sSolvI) (defBody sSolvI) (defScope sSolvI) .none kV0 dc0 pm0 an0 cd0 ct0), sl0⟩) (c0 : PySem.W.codeIn K cd0 "Solver.__init__" = true) (k0 : PySem.W.keepIn K (.ref f0) = true) (a1 : PySem.W.findIn K (.ref C) "capped" = some (some (.ref f1))) (i1 : PySem.W.isFn K (.ref f1) = true) (l1 : K.lookup f1 = some ⟨oc1, od1, .func (PySem.W.fnOf "capped" "Solver.capped" (defArgs sCapped) (defBody sCapped) (defScope sCapped) .none kV1 dc1 pm1 an1 cd1 ct1), sl1⟩) (c1 : PySem.W.codeIn K cd1 "Solver.capped" = true) (k1 : PySem.W.keepIn K (.ref f1) = true) (a2 : PySem.W.findIn K (.ref C) "ahead_cost" = some (some (.ref f2))) (i2 : PySem.W.isFn K (.ref f2) = true) (l2 : K.lookup f2 = some ⟨oc2, od2, .func (PySem.W.fnOf "ahead_cost" "Solver.ahead_cost" (defArgs sAhead) (defBody sAhead) (defScope sAhead) .none kV2 dc2 pm2 an2 cd2 ct2), sl2⟩) (c2 : PySem.W.codeIn K cd2 "Solver.ahead_cost" = true) (k2 : PySem.W.keepIn K (.ref f2) = true) (a3 : PySem.W.findIn K (.ref C) "behind_cost" = some (some (.ref f3))) (i3 : PySem.W.isFn K (.ref f3) = true) (l3 : K.lookup f3 = some ⟨oc3, od3, .func (PySem.W.fnOf "behind_cost" "Solver.behind_cost" (defArgs sBehind) (defBody sBehind) (defScope sBehind) .none kV3 dc3 pm3 an3 cd3 ct3), sl3⟩) (c3 : PySem.W.codeIn K cd3 "Solver.behind_cost" = true) (k3 : PySem.W.keepIn K (.ref f3) = true) (a4 : PySem.W.findIn K (.ref C) "top_cost" = some (some (.ref f4))) (i4 : PySem.W.isFn K (.ref f4) = true) (l4 : K.lookup f4 = some ⟨oc4, od4, .func (PySem.W.fnOf "top_cost" "Solver.top_cost" (defArgs sTop) (defBody sTop) (defScope sTop) .none kV4 dc4 pm4 an4 cd4 ct4), sl4⟩) (c4 : PySem.W.codeIn K cd4 "Solver.top_cost" = true) (k4 : PySem.W.keepIn K (.ref f4) = true) (a5 : PySem.W.findIn K (.ref C) "own_cost" = some (some (.ref f5))) (i5 : PySem.W.isFn K (.ref f5) = true) (l5 : K.lookup f5 = some ⟨oc5, od5, .func (PySem.W.fnOf "own_cost" "Solver.own_cost" (defArgs sOwn) (defBody sOwn) (defScope sOwn) .none kV5 dc5 pm5 an5 cd5 ct5), sl5⟩) (c5 : PySem.W.codeIn K cd5 "Solver.own_cost" = true) (k5 : PySem.W.keepIn K (.ref f5) = true) (a6 : PySem.W.findIn K (.ref C) "span_cost" = some (some (.ref f6))) (i6 : PySem.W.isFn K (.ref f6) = true) (l6 : K.lookup f6 = some ⟨oc6, od6, .func (PySem.W.fnOf "span_cost" "Solver.span_cost" (defArgs sSpan) (defBody sSpan) (defScope sSpan) .none kV6 dc6 pm6 an6 cd6 ct6), sl6⟩) (c6 : PySem.W.codeIn K cd6 "Solver.span_cost" = true) (k6 : PySem.W.keepIn K (.ref f6) = true) (a7 : PySem.W.findIn K (.ref C) "tops" = some (some (.ref f7))) (i7 : PySem.W.isFn K (.ref f7) = true) (l7 : K.lookup f7 = some ⟨oc7, od7, .func (PySem.W.fnOf "tops" "Solver.tops" (defArgs sTops) (defBody sTops) (defScope sTops) .none kV7 dc7 pm7 an7 cd7 ct7), sl7⟩) (c7 : PySem.W.codeIn K cd7 "Solver.tops" = true) (k7 : PySem.W.keepIn K (.ref f7) = true) (a8 : PySem.W.findIn K (.ref C) "span_plan" = some (some (.ref f8))) (i8 : PySem.W.isFn K (.ref f8) = true) (l8 : K.lookup f8 = some ⟨oc8, od8, .func (PySem.W.fnOf "span_plan" "Solver.span_plan" (defArgs sPlan) (defBody sPlan) (defScope sPlan) .none kV8 dc8 pm8 an8 cd8 ct8), sl8⟩) (c8 : PySem.W.codeIn K cd8 "Solver.span_plan" = true) (k8 : PySem.W.keepIn K (.ref f8) = true) : ∃ C fm, STxt K mg C fm ∧ IF K mg "Solver" C "Solver.__init__" sSolvI ["self", "task", "may"] ∧ SFun K C := by
  obtain ⟨fm, mM⟩ := mM
  exact ⟨C, fm, ⟨cls_mk pg hd po sa, n0, n1, n2, n3, n4, mM⟩, IF.of bo_sSolvI X G g a0 i0 l0 c0 k0 mk kc, ⟨MF.of bo_sCapped a1 i1 l1 c1 k1, MF.of bo_sAhead a2 i2 l2 c2 k2, MF.of bo_sBehind a3 i3 l3 c3 k3, MF.of bo_sTop a4 i4 l4 c4 k4, MF.of bo_sOwn a5 i5 l5 c5 k5, MF.of bo_sSpan a6 i6 l6 c6 k6, MF.of bo_sTops a7 i7 l7 c7 k7, MF.of bo_sPlan a8 i8 l8 c8 k8⟩⟩
theorem mk_Rest {C : Addr} {f0 : Addr} {oc0 : Value} {od0 an0 : Option Addr} {sl0 : Array (Option Value)} {kV0 dc0 pm0 cd0 ct0 : Value} {f1 : Addr} {oc1 : Value} {od1 an1 : Option Addr} {sl1 : Array (Option Value)} {kV1 dc1 pm1 cd1 ct1 : Value} {f2 : Addr} {oc2 : Value} {od2 an2 : Option Addr} {sl2 : Array (Option Value)} {kV2 dc2 pm2 cd2 ct2 : Value} {f3 : Addr} {oc3 : Value} {od3 an3 : Option Addr} {sl3 : Array (Option Value)} {kV3 dc3 pm3 cd3 ct3 : Value} {f4 : Addr} {oc4 : Value} {od4 an4 : Option Addr} {sl4 : Array (Option Value)} {kV4 dc4 pm4 cd4 ct4 : Value} (X : K.In h) (G : h.Ns mainGlobals mg) (g : PySem.W.nsIn K mainGlobals "Rest" = some (some (.ref C))) (pg : PySem.W.plainGet K C Str.empty = true) (hd : PySem.W.hasDictIn K C = true) (po : PySem.W.plainOver K C = true) (sa : PySem.W.findIn K (.ref C) "__setattr__" = some (some (.builtin "object.__setattr__"))) (mk : PySem.W.makesIn K C = true) (kc : PySem.W.keepIn K (.ref C) = true) (n0 : PySem.W.findIn K (.ref C) "task" = some none) (n1 : PySem.W.findIn K (.ref C) "most" = some none) (n2 : PySem.W.findIn K (.ref C) "first" = some none) (n3 : PySem.W.findIn K (.ref C) "begins" = some none) (n4 : PySem.W.findIn K (.ref C) "solver" = some none) (n5 : PySem.W.findIn K (.ref C) "known" = some none) (a0 : PySem.W.findIn K (.ref C) "__init__" = some (some (.ref f0))) (i0 : PySem.W.isFn K (.ref f0) = true) (l0 : K.lookup f0 = some ⟨oc0, od0, .func (PySem.W.fnOf "__init__" "Rest.__init__" (defArgs sRestI) (defBody sRestI) (defScope sRestI) .none kV0 dc0 pm0 an0 cd0 ct0), sl0⟩) (c0 : PySem.W.codeIn K cd0 "Rest.__init__" = true) (k0 : PySem.W.keepIn K (.ref f0) = true) (a1 : PySem.W.findIn K (.ref C) "elder_looks" = some (some (.ref f1))) (i1 : PySem.W.isFn K (.ref f1) = true) (l1 : K.lookup f1 = some ⟨oc1, od1, .func (PySem.W.fnOf "elder_looks" "Rest.elder_looks" (defArgs sElder) (defBody sElder) (defScope sElder) .none kV1 dc1 pm1 an1 cd1 ct1), sl1⟩) (c1 : PySem.W.codeIn K cd1 "Rest.elder_looks" = true) (k1 : PySem.W.keepIn K (.ref f1) = true) (a2 : PySem.W.findIn K (.ref C) "ways_to" = some (some (.ref f2))) (i2 : PySem.W.isFn K (.ref f2) = true) (l2 : K.lookup f2 = some ⟨oc2, od2, .func (PySem.W.fnOf "ways_to" "Rest.ways_to" (defArgs sWays) (defBody sWays) (defScope sWays) .none kV2 dc2 pm2 an2 cd2 ct2), sl2⟩) (c2 : PySem.W.codeIn K cd2 "Rest.ways_to" = true) (k2 : PySem.W.keepIn K (.ref f2) = true) (a3 : PySem.W.findIn K (.ref C) "written_at" = some (some (.ref f3))) (i3 : PySem.W.isFn K (.ref f3) = true) (l3 : K.lookup f3 = some ⟨oc3, od3, .func (PySem.W.fnOf "written_at" "Rest.written_at" (defArgs sWritten) (defBody sWritten) (defScope sWritten) .none kV3 dc3 pm3 an3 cd3 ct3), sl3⟩) (c3 : PySem.W.codeIn K cd3 "Rest.written_at" = true) (k3 : PySem.W.keepIn K (.ref f3) = true) (a4 : PySem.W.findIn K (.ref C) "best" = some (some (.ref f4))) (i4 : PySem.W.isFn K (.ref f4) = true) (l4 : K.lookup f4 = some ⟨oc4, od4, .func (PySem.W.fnOf "best" "Rest.best" (defArgs sBest) (defBody sBest) (defScope sBest) .none kV4 dc4 pm4 an4 cd4 ct4), sl4⟩) (c4 : PySem.W.codeIn K cd4 "Rest.best" = true) (k4 : PySem.W.keepIn K (.ref f4) = true) : ∃ C, RTxt K C ∧ IF K mg "Rest" C "Rest.__init__" sRestI ["self", "task", "most", "begun"] ∧ MF K C "elder_looks" "Rest.elder_looks" sElder ["self", "many", "first", "last"] ∧ MF K C "ways_to" "Rest.ways_to" sWays ["self", "hour"] ∧ MF K C "written_at" "Rest.written_at" sWritten ["self", "hour"] ∧ MF K C "best" "Rest.best" sBest ["self"] := ⟨C, ⟨cls_mk pg hd po sa, n0, n1, n2, n3, n4, n5⟩, IF.of bo_sRestI X G g a0 i0 l0 c0 k0 mk kc, MF.of bo_sElder a1 i1 l1 c1 k1, MF.of bo_sWays a2 i2 l2 c2 k2, MF.of bo_sWritten a3 i3 l3 c3 k3, MF.of bo_sBest a4 i4 l4 c4 k4⟩
theorem useP {A R : Prop} (a : A) (r : A → R) : R := r a
theorem may_mk {f : Addr} (X : K.In h) (G : h.Ns mainGlobals mg) (a : PySem.W.nsIn K mainGlobals "may_all" = some (some (.ref f))) : ∃ fm, mg "may_all" = some (.ref fm) := ⟨f, PySem.W.mg_of X G a⟩
end
end K58
end
section
set_option Elab.async false
set_option maxRecDepth 100000
open PySem PySem.W PyProof.Rows
set_option maxRecDepth 100000 in
set_option maxHeartbeats 0 in
theorem PySem.Challenge.cw_joinshelf_k58_whole_rests_by_all_plans_holds : PySem.Challenge.rw_joinshelf_k58_whole_rests_by_all_plans.Holds := by
  w_on; o_law; k_head; (case hw => w_witness2)
  k_fill
  refine K58.walkX (l := PySem.Challenge.rw_joinshelf_k58_whole_rests_by_all_plans) rfl rfl (fun w h Y => PySem.W.kIn_of Y) ?F
  case F =>
    intro w mg fa h KX G XP hmg
    have hp := K58.loose_price XP
    refine' K58.useP (K58.bt_mk KX G ?z0_1 ?z1_1 ?z2_1 ?z3_1 ?z4_1 ?z5_1 ?z6_1 ?z7_1 ?z8_1 ?z9_1 ?z10_1 ?z11_1 ?z12_1) ?r_1
    (case z0_1 => k_is); (case z1_1 => k_is); (case z2_1 => k_is); (case z3_1 => k_is); (case z4_1 => k_is); (case z5_1 => k_is); (case z6_1 => k_is); (case z7_1 => k_is); (case z8_1 => k_is); (case z9_1 => k_is); (case z10_1 => k_is); (case z11_1 => k_is); (case z12_1 => k_is)
    intro hB
    refine' K58.useP (K58.num_mk (x := "MOST_RUNS") (i := 30) KX G ?z_2) ?r_2
    (case z_2 => k_is)
    intro hR
    refine' K58.useP (K58.num_mk (x := "MOST_HOURS_plans") (i := 40) KX G ?z_3) ?r_3
    (case z_3 => k_is)
    intro hH
    refine' K58.useP (K58.num_mk (x := "MOST_HOURS_tasks") (i := 30) KX G ?z_4) ?r_4
    (case z_4 => k_is)
    intro hT
    refine' K58.useP (K58.may_mk KX G ?z_5) ?r_5
    (case z_5 => k_is)
    intro hM
    refine' K58.useP (K58.FF.of K58.bo_sIsInt KX G ?a_6 ?l_6 ?c_6 ?k_6) ?r_6
    (case a_6 => k_is); (case l_6 => k_is); (case c_6 => k_is); (case k_6 => k_is)
    intro f_sIsInt
    refine' K58.useP (K58.FF.of K58.bo_sWithin KX G ?a_7 ?l_7 ?c_7 ?k_7) ?r_7
    (case a_7 => k_is); (case l_7 => k_is); (case c_7 => k_is); (case k_7 => k_is)
    intro f_sWithin
    refine' K58.useP (K58.FF.of K58.bo_sIsRow KX G ?a_8 ?l_8 ?c_8 ?k_8) ?r_8
    (case a_8 => k_is); (case l_8 => k_is); (case c_8 => k_is); (case k_8 => k_is)
    intro f_sIsRow
    refine' K58.useP (K58.FF.of K58.bo_sWrong KX G ?a_9 ?l_9 ?c_9 ?k_9) ?r_9
    (case a_9 => k_is); (case l_9 => k_is); (case c_9 => k_is); (case k_9 => k_is)
    intro f_sWrong
    refine' K58.useP (K58.FF.of K58.bo_sChkNum KX G ?a_10 ?l_10 ?c_10 ?k_10) ?r_10
    (case a_10 => k_is); (case l_10 => k_is); (case c_10 => k_is); (case k_10 => k_is)
    intro f_sChkNum
    refine' K58.useP (K58.FF.of K58.bo_sLenOf KX G ?a_11 ?l_11 ?c_11 ?k_11) ?r_11
    (case a_11 => k_is); (case l_11 => k_is); (case c_11 => k_is); (case k_11 => k_is)
    intro f_sLenOf
    refine' K58.useP (K58.FF.of K58.bo_sWriteOf KX G ?a_12 ?l_12 ?c_12 ?k_12) ?r_12
    (case a_12 => k_is); (case l_12 => k_is); (case c_12 => k_is); (case k_12 => k_is)
    intro f_sWriteOf
    refine' K58.useP (K58.FF.of K58.bo_sLookSum KX G ?a_13 ?l_13 ?c_13 ?k_13) ?r_13
    (case a_13 => k_is); (case l_13 => k_is); (case c_13 => k_is); (case k_13 => k_is)
    intro f_sLookSum
    refine' K58.useP (K58.FF.of K58.bo_sChkMost KX G ?a_14 ?l_14 ?c_14 ?k_14) ?r_14
    (case a_14 => k_is); (case l_14 => k_is); (case c_14 => k_is); (case k_14 => k_is)
    intro f_sChkMost
    refine' K58.useP (K58.FF.of K58.bo_sMay KX G ?a_15 ?l_15 ?c_15 ?k_15) ?r_15
    (case a_15 => k_is); (case l_15 => k_is); (case c_15 => k_is); (case k_15 => k_is)
    intro f_sMay
    refine' K58.useP (K58.FF.of K58.bo_sBestPair KX G ?a_16 ?l_16 ?c_16 ?k_16) ?r_16
    (case a_16 => k_is); (case l_16 => k_is); (case c_16 => k_is); (case k_16 => k_is)
    intro f_sBestPair
    refine' K58.useP (K58.FF.of K58.bo_sLeastCost KX G ?a_17 ?l_17 ?c_17 ?k_17) ?r_17
    (case a_17 => k_is); (case l_17 => k_is); (case c_17 => k_is); (case k_17 => k_is)
    intro f_sLeastCost
    refine' K58.useP (K58.FF.of K58.bo_sLeast KX G ?a_18 ?l_18 ?c_18 ?k_18) ?r_18
    (case a_18 => k_is); (case l_18 => k_is); (case c_18 => k_is); (case k_18 => k_is)
    intro f_sLeast
    refine' K58.useP (K58.FF.of K58.bo_sLeastPlan KX G ?a_19 ?l_19 ?c_19 ?k_19) ?r_19
    (case a_19 => k_is); (case l_19 => k_is); (case c_19 => k_is); (case k_19 => k_is)
    intro f_sLeastPlan
    refine' K58.useP (K58.FF.of K58.bo_sPlanOf KX G ?a_20 ?l_20 ?c_20 ?k_20) ?r_20
    (case a_20 => k_is); (case l_20 => k_is); (case c_20 => k_is); (case k_20 => k_is)
    intro f_sPlanOf
    refine' K58.useP (K58.FF.of K58.bo_sNext KX G ?a_21 ?l_21 ?c_21 ?k_21) ?r_21
    (case a_21 => k_is); (case l_21 => k_is); (case c_21 => k_is); (case k_21 => k_is)
    intro f_sNext
    refine' K58.useP (K58.FF.of K58.bo_sAnyPlan KX G ?a_22 ?l_22 ?c_22 ?k_22) ?r_22
    (case a_22 => k_is); (case l_22 => k_is); (case c_22 => k_is); (case k_22 => k_is)
    intro f_sAnyPlan
    refine' K58.useP (K58.FF.of K58.bo_sBehindL KX G ?a_23 ?l_23 ?c_23 ?k_23) ?r_23
    (case a_23 => k_is); (case l_23 => k_is); (case c_23 => k_is); (case k_23 => k_is)
    intro f_sBehindL
    refine' K58.useP (K58.FF.of K58.bo_sBetween KX G ?a_24 ?l_24 ?c_24 ?k_24) ?r_24
    (case a_24 => k_is); (case l_24 => k_is); (case c_24 => k_is); (case k_24 => k_is)
    intro f_sBetween
    refine' K58.useP (K58.FF.of K58.bo_sChkBegun KX G ?a_25 ?l_25 ?c_25 ?k_25) ?r_25
    (case a_25 => k_is); (case l_25 => k_is); (case c_25 => k_is); (case k_25 => k_is)
    intro f_sChkBegun
    refine' K58.useP (K58.FF.of K58.bo_sRest KX G ?a_26 ?l_26 ?c_26 ?k_26) ?r_26
    (case a_26 => k_is); (case l_26 => k_is); (case c_26 => k_is); (case k_26 => k_is)
    intro f_sRest
    refine' K58.useP (K58.FF.of K58.bo_sHand KX G ?a_27 ?l_27 ?c_27 ?k_27) ?r_27
    (case a_27 => k_is); (case l_27 => k_is); (case c_27 => k_is); (case k_27 => k_is)
    intro f_sHand
    refine' K58.useP (K58.FF.of K58.bo_sDraw KX G ?a_28 ?l_28 ?c_28 ?k_28) ?r_28
    (case a_28 => k_is); (case l_28 => k_is); (case c_28 => k_is); (case k_28 => k_is)
    intro f_sDraw
    refine' K58.useP (K58.FF.of K58.bo_sIs KX G ?a_29 ?l_29 ?c_29 ?k_29) ?r_29
    (case a_29 => k_is); (case l_29 => k_is); (case c_29 => k_is); (case k_29 => k_is)
    intro f_sIs
    refine' K58.useP (K58.FF.of K58.bo_sTri KX G ?a_30 ?l_30 ?c_30 ?k_30) ?r_30
    (case a_30 => k_is); (case l_30 => k_is); (case c_30 => k_is); (case k_30 => k_is)
    intro f_sTri
    refine' K58.useP (K58.FF.of K58.bo_sSummed KX G ?a_31 ?l_31 ?c_31 ?k_31) ?r_31
    (case a_31 => k_is); (case l_31 => k_is); (case c_31 => k_is); (case k_31 => k_is)
    intro f_sSummed
    refine' K58.useP (K58.FF.of K58.bo_sPrices KX G ?a_32 ?l_32 ?c_32 ?k_32) ?r_32
    (case a_32 => k_is); (case l_32 => k_is); (case c_32 => k_is); (case k_32 => k_is)
    intro f_sPrices
    refine' K58.useP (K58.FF.of K58.bo_sLBegins KX G ?a_33 ?l_33 ?c_33 ?k_33) ?r_33
    (case a_33 => k_is); (case l_33 => k_is); (case c_33 => k_is); (case k_33 => k_is)
    intro f_sLBegins
    refine' K58.useP (K58.FF.of K58.bo_sLPlan KX G ?a_34 ?l_34 ?c_34 ?k_34) ?r_34
    (case a_34 => k_is); (case l_34 => k_is); (case c_34 => k_is); (case k_34 => k_is)
    intro f_sLPlan
    refine' K58.useP (K58.FF.of K58.bo_sHourCost KX G ?a_35 ?l_35 ?c_35 ?k_35) ?r_35
    (case a_35 => k_is); (case l_35 => k_is); (case c_35 => k_is); (case k_35 => k_is)
    intro f_sHourCost
    refine' K58.useP (K58.FF.of K58.bo_sLBehind KX G ?a_36 ?l_36 ?c_36 ?k_36) ?r_36
    (case a_36 => k_is); (case l_36 => k_is); (case c_36 => k_is); (case k_36 => k_is)
    intro f_sLBehind
    refine' K58.useP (K58.mk_Task KX G hT hp ?g_37 ?pg_37 ?hd_37 ?po_37 ?sa_37 ?mk_37 ?kc_37 ?n0_37 ?n1_37 ?a0_37 ?i0_37 ?l0_37 ?c0_37 ?k0_37) ?r_37
    (case g_37 => k_is); (case pg_37 => k_is); (case hd_37 => k_is); (case po_37 => k_is); (case sa_37 => k_is); (case mk_37 => k_is); (case kc_37 => k_is); (case n0_37 => k_is); (case n1_37 => k_is); (case a0_37 => k_is); (case i0_37 => k_is); (case l0_37 => k_is); (case c0_37 => k_is); (case k0_37 => k_is)
    intro hTask
    obtain ⟨CT, xT, iT⟩ := hTask
    refine' K58.useP (K58.mk_Solver KX G hM ?g_38 ?pg_38 ?hd_38 ?po_38 ?sa_38 ?mk_38 ?kc_38 ?n0_38 ?n1_38 ?n2_38 ?n3_38 ?n4_38 ?a0_38 ?i0_38 ?l0_38 ?c0_38 ?k0_38 ?a1_38 ?i1_38 ?l1_38 ?c1_38 ?k1_38 ?a2_38 ?i2_38 ?l2_38 ?c2_38 ?k2_38 ?a3_38 ?i3_38 ?l3_38 ?c3_38 ?k3_38 ?a4_38 ?i4_38 ?l4_38 ?c4_38 ?k4_38 ?a5_38 ?i5_38 ?l5_38 ?c5_38 ?k5_38 ?a6_38 ?i6_38 ?l6_38 ?c6_38 ?k6_38 ?a7_38 ?i7_38 ?l7_38 ?c7_38 ?k7_38 ?a8_38 ?i8_38 ?l8_38 ?c8_38 ?k8_38) ?r_38
    (case g_38 => k_is); (case pg_38 => k_is); (case hd_38 => k_is); (case po_38 => k_is); (case sa_38 => k_is); (case mk_38 => k_is); (case kc_38 => k_is); (case n0_38 => k_is); (case n1_38 => k_is); (case n2_38 => k_is); (case n3_38 => k_is); (case n4_38 => k_is); (case a0_38 => k_is); (case i0_38 => k_is); (case l0_38 => k_is); (case c0_38 => k_is); (case k0_38 => k_is); (case a1_38 => k_is); (case i1_38 => k_is); (case l1_38 => k_is); (case c1_38 => k_is); (case k1_38 => k_is); (case a2_38 => k_is); (case i2_38 => k_is); (case l2_38 => k_is); (case c2_38 => k_is); (case k2_38 => k_is); (case a3_38 => k_is); (case i3_38 => k_is); (case l3_38 => k_is); (case c3_38 => k_is); (case k3_38 => k_is); (case a4_38 => k_is); (case i4_38 => k_is); (case l4_38 => k_is); (case c4_38 => k_is); (case k4_38 => k_is); (case a5_38 => k_is); (case i5_38 => k_is); (case l5_38 => k_is); (case c5_38 => k_is); (case k5_38 => k_is); (case a6_38 => k_is); (case i6_38 => k_is); (case l6_38 => k_is); (case c6_38 => k_is); (case k6_38 => k_is); (case a7_38 => k_is); (case i7_38 => k_is); (case l7_38 => k_is); (case c7_38 => k_is); (case k7_38 => k_is); (case a8_38 => k_is); (case i8_38 => k_is); (case l8_38 => k_is); (case c8_38 => k_is); (case k8_38 => k_is)
    intro hSolver
    obtain ⟨CS, fm, xS, iS, sf⟩ := hSolver
    refine' K58.useP (K58.mk_Rest KX G ?g_39 ?pg_39 ?hd_39 ?po_39 ?sa_39 ?mk_39 ?kc_39 ?n0_39 ?n1_39 ?n2_39 ?n3_39 ?n4_39 ?n5_39 ?a0_39 ?i0_39 ?l0_39 ?c0_39 ?k0_39 ?a1_39 ?i1_39 ?l1_39 ?c1_39 ?k1_39 ?a2_39 ?i2_39 ?l2_39 ?c2_39 ?k2_39 ?a3_39 ?i3_39 ?l3_39 ?c3_39 ?k3_39 ?a4_39 ?i4_39 ?l4_39 ?c4_39 ?k4_39) ?r_39
    (case g_39 => k_is); (case pg_39 => k_is); (case hd_39 => k_is); (case po_39 => k_is); (case sa_39 => k_is); (case mk_39 => k_is); (case kc_39 => k_is); (case n0_39 => k_is); (case n1_39 => k_is); (case n2_39 => k_is); (case n3_39 => k_is); (case n4_39 => k_is); (case n5_39 => k_is); (case a0_39 => k_is); (case i0_39 => k_is); (case l0_39 => k_is); (case c0_39 => k_is); (case k0_39 => k_is); (case a1_39 => k_is); (case i1_39 => k_is); (case l1_39 => k_is); (case c1_39 => k_is); (case k1_39 => k_is); (case a2_39 => k_is); (case i2_39 => k_is); (case l2_39 => k_is); (case c2_39 => k_is); (case k2_39 => k_is); (case a3_39 => k_is); (case i3_39 => k_is); (case l3_39 => k_is); (case c3_39 => k_is); (case k3_39 => k_is); (case a4_39 => k_is); (case i4_39 => k_is); (case l4_39 => k_is); (case c4_39 => k_is); (case k4_39 => k_is)
    intro hRest
    obtain ⟨CR, xR, iR, m1, m2, m3, m4⟩ := hRest
    refine' K58.law_mk KX G hmg (CT := CT) (CS := CS) (CR := CR) (fm := fm) ⟨hB, f_sIsInt, f_sWithin, f_sIsRow, f_sWrong, f_sChkNum, f_sLenOf, f_sWriteOf, f_sLookSum, f_sChkMost, f_sMay, f_sBestPair, f_sLeastCost, f_sLeast, f_sLeastPlan, f_sPlanOf, f_sNext, f_sAnyPlan, f_sBehindL, f_sBetween, f_sChkBegun, f_sRest, f_sHand, f_sDraw, f_sIs, f_sTri, f_sSummed, f_sPrices, f_sLBegins, f_sLPlan, f_sHourCost, f_sLBehind, iT, iS, iR, sf, m1, m2, m3, m4, xT, xS, xR, hR, hH⟩ ?a_40 ?l_40 ?c_40 ?k_40
    (case a_40 => k_is); (case l_40 => k_is); (case c_40 => k_is); (case k_40 => k_is)
end
