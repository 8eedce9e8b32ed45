import PyProof.Rows.All
import Wide.All
import OpenK.AllK
import Wide.FinOn
import HandS.ForMost
import HandS.Evl
import HandS.Codes
import HandS.Gcd
import HandS.IsInst
import HandS.Wide
import HandS.WideBits
import HandS.Style
import HandS.NoneIn
import HandS.Conv
import HandS.Zip
import HandS.TupSets
import HandS.SetBool
import HandS.SortOrd
import HandS.HeadWalk
import KE.GoesZip
import KE.GoesMore
import KE.GoesEnum
import KE.KMathG
import PySem.Challenge.RW_windfigure_k57_whole_shores_held_off_tog
section
set_option linter.all false
/-! Plane points, the chain of a lower border. -/
namespace Sh
abbrev P2 := Int × Int
/-- twice the area of a, b, c, above 0 if c lies to the left of the way from a to b -/
def orient (a b c : P2) : Int := (b.1 - a.1) * (c.2 - a.2) - (b.2 - a.2) * (c.1 - a.1)
def lt2 (a b : P2) : Prop := a.1 < b.1 ∨ (a.1 = b.1 ∧ a.2 < b.2)
def le2 (a b : P2) : Prop := a.1 < b.1 ∨ (a.1 = b.1 ∧ a.2 ≤ b.2)
instance (a b : P2) : Decidable (lt2 a b) := by unfold lt2; exact inferInstance
instance (a b : P2) : Decidable (le2 a b) := by unfold le2; exact inferInstance
theorem ext2 {a b : P2} (h1 : a.1 = b.1) (h2 : a.2 = b.2) : a = b := Prod.ext h1 h2
theorem lt2.trans {a b c : P2} (h : lt2 a b) (h' : lt2 b c) : lt2 a c := by unfold lt2 at *; omega
theorem lt2.irrefl (a : P2) : ¬ lt2 a a := by unfold lt2; omega
theorem lt2.le {a b : P2} (h : lt2 a b) : le2 a b := by unfold lt2 at h; unfold le2; omega
theorem le2.refl (a : P2) : le2 a a := by unfold le2; omega
theorem le2_of_not {a b : P2} (h : ¬ lt2 a b) : le2 b a := by unfold lt2 at h; unfold le2; omega
theorem le2.eq_or {a b : P2} (h : le2 a b) : a = b ∨ lt2 a b := by
  unfold le2 at h
  rcases h with h | ⟨h1, h2⟩
  · exact .inr (.inl h)
  · by_cases e : a.2 = b.2
    · exact .inl (ext2 h1 e)
    · exact .inr (.inr ⟨h1, by omega⟩)
theorem lt2.ne {a b : P2} (h : lt2 a b) : a ≠ b := fun e => by subst e; exact lt2.irrefl a h
theorem lt2.asymm {a b : P2} (h : lt2 a b) (h' : lt2 b a) : False := lt2.irrefl a (h.trans h')
theorem lt_le {a b c : P2} (h : lt2 a b) (h' : le2 b c) : lt2 a c := by unfold lt2 le2 at *; omega
theorem le_lt {a b c : P2} (h : le2 a b) (h' : lt2 b c) : lt2 a c := by unfold lt2 le2 at *; omega
theorem tri2 (a b : P2) : lt2 a b ∨ a = b ∨ lt2 b a := by
  by_cases h : lt2 a b
  · exact .inl h
  · rcases (le2_of_not h).eq_or with e | e
    · exact .inr (.inl e.symm)
    · exact .inr (.inr e)

theorem pos_of_mul_pos {a b : Int} (ha : 0 < a) (h : 0 < a * b) : 0 < b := by
  rcases Int.lt_or_le 0 b with c | c
  · exact c
  · have := Int.mul_nonpos_of_nonneg_of_nonpos (Int.le_of_lt ha) c
    omega
theorem nonneg_of_mul_nonneg {a b : Int} (ha : 0 < a) (h : 0 ≤ a * b) : 0 ≤ b := by
  rcases Int.lt_or_le b 0 with c | c
  · have := Int.mul_neg_of_pos_of_neg ha c
    omega
  · exact c
theorem mul_nn {a b : Int} (ha : 0 ≤ a) (hb : 0 ≤ b) : 0 ≤ a * b := Int.mul_nonneg ha hb

/-! the order of vectors to the right -/
/-- u x v >= 0, v x w >= 0 give u x w >= 0 for vectors to the right -/
theorem tr_nn {ux uy vx vy wx wy : Int} (hu : 0 < ux ∨ (ux = 0 ∧ 0 < uy)) (hv : 0 < vx ∨ (vx = 0 ∧ 0 < vy)) (hw : 0 < wx ∨ (wx = 0 ∧ 0 < wy))
    (h1 : 0 ≤ ux * vy - uy * vx) (h2 : 0 ≤ vx * wy - vy * wx) : 0 ≤ ux * wy - uy * wx := by
  have hux : 0 ≤ ux := by omega
  have hwx : 0 ≤ wx := by omega
  rcases hv with hv | ⟨hv, hvy⟩
  · have e : vx * (ux * wy - uy * wx) = ux * (vx * wy - vy * wx) + wx * (ux * vy - uy * vx) := by grind
    have a1 := mul_nn hux h2
    have a2 := mul_nn hwx h1
    exact nonneg_of_mul_nonneg hv (by rw [e]; omega)
  · subst hv
    have e2 : wx = 0 := by
      rcases hw with hw | hw
      · have := Int.mul_pos hvy hw
        omega
      · exact hw.1
    subst e2
    have hwy : 0 < wy := by omega
    have := mul_nn hux (Int.le_of_lt hwy)
    omega
theorem tr_pos {ux uy vx vy wx wy : Int} (hu : 0 < ux ∨ (ux = 0 ∧ 0 < uy)) (hv : 0 < vx ∨ (vx = 0 ∧ 0 < vy)) (hw : 0 < wx ∨ (wx = 0 ∧ 0 < wy))
    (h1 : 0 < ux * vy - uy * vx) (h2 : 0 ≤ vx * wy - vy * wx) : 0 < ux * wy - uy * wx := by
  have hux : 0 ≤ ux := by omega
  have hwx : 0 ≤ wx := by omega
  rcases hv with hv | ⟨hv, hvy⟩
  · have e : vx * (ux * wy - uy * wx) = ux * (vx * wy - vy * wx) + wx * (ux * vy - uy * vx) := by grind
    have a1 := mul_nn hux h2
    rcases hw with hw | ⟨hw, hwy⟩
    · have a2 := Int.mul_pos hw h1
      exact pos_of_mul_pos hv (by rw [e]; omega)
    · subst hw
      have hux' : 0 < ux := by
        rcases hu with hu | ⟨hu, huy⟩
        · exact hu
        · subst hu
          have := Int.mul_pos huy hv
          omega
      have := Int.mul_pos hux' hwy
      omega
  · subst hv
    have hux' : 0 < ux := by
      rcases hu with hu | ⟨hu, huy⟩
      · exact hu
      · subst hu
        omega
    have e2 : wx = 0 := by
      rcases hw with hw | hw
      · have := Int.mul_pos hvy hw
        omega
      · exact hw.1
    subst e2
    have hwy : 0 < wy := by omega
    have := Int.mul_pos hux' hwy
    omega
theorem tr_pos' {ux uy vx vy wx wy : Int} (hu : 0 < ux ∨ (ux = 0 ∧ 0 < uy)) (hv : 0 < vx ∨ (vx = 0 ∧ 0 < vy)) (hw : 0 < wx ∨ (wx = 0 ∧ 0 < wy))
    (h1 : 0 ≤ ux * vy - uy * vx) (h2 : 0 < vx * wy - vy * wx) : 0 < ux * wy - uy * wx := by
  have hux : 0 ≤ ux := by omega
  have hwx : 0 ≤ wx := by omega
  rcases hv with hv | ⟨hv, hvy⟩
  · have e : vx * (ux * wy - uy * wx) = ux * (vx * wy - vy * wx) + wx * (ux * vy - uy * vx) := by grind
    have a1 := mul_nn hwx h1
    rcases hu with hu | ⟨hu, huy⟩
    · have a2 := Int.mul_pos hu h2
      exact pos_of_mul_pos hv (by rw [e]; omega)
    · subst hu
      have := Int.mul_pos huy hv
      omega
  · subst hv
    have : 0 < wx ∨ wx = 0 := by omega
    rcases this with h | h
    · have := Int.mul_pos hvy h
      omega
    · subst h
      omega
theorem lp_of {a b : P2} (h : lt2 a b) : 0 < b.1 - a.1 ∨ (b.1 - a.1 = 0 ∧ 0 < b.2 - a.2) := by unfold lt2 at h; omega

/-- a < b < c < z, two turns to the left: so is the long one -/
theorem or_far {a b c z : P2} (h1 : lt2 a b) (h2 : lt2 b c) (h3 : lt2 c z) (o1 : 0 < orient a b c) (o2 : 0 < orient b c z) : 0 < orient a b z := by
  have t := tr_pos (lp_of h1) (lp_of h2) (lp_of h3) (by unfold orient at o1; grind) (by unfold orient at o2; grind)
  unfold orient at *
  grind
/-- behind a turn to the left at t all that is left of the way before is left of the way behind -/
theorem or_back {t' t z r : P2} (h1 : lt2 t' t) (h2 : lt2 t z) (h3 : lt2 r t) (o1 : 0 < orient t' t z) (o2 : 0 ≤ orient t' t r) : 0 < orient t z r := by
  have t := tr_pos' (lp_of h3) (lp_of h1) (lp_of h2) (by unfold orient at o2; grind) (by unfold orient at o1; grind)
  unfold orient at *
  grind
/-- t is taken off: what lies behind t -/
theorem or_pop1 {t' t z r : P2} (h1 : lt2 t' t) (h2 : lt2 t z) (h3 : le2 t r) (h4 : lt2 r z) (o1 : orient t' t z ≤ 0) (o2 : 0 ≤ orient t z r) : 0 ≤ orient t' z r := by
  have e : (z.1 - t.1) * orient t' z r = (z.1 - t'.1) * orient t z r + (z.1 - r.1) * orient t' z t := by unfold orient; grind
  have e2 : orient t' z t = - orient t' t z := by unfold orient; grind
  have hz1 : 0 ≤ z.1 - t'.1 := by unfold lt2 at h1 h2; omega
  have hz2 : 0 ≤ z.1 - r.1 := by unfold lt2 at h4; omega
  have a1 := mul_nn hz1 o2
  have a2 := mul_nn hz2 (show 0 ≤ orient t' z t by omega)
  by_cases hx : t.1 < z.1
  · exact nonneg_of_mul_nonneg (show 0 < z.1 - t.1 by omega) (by rw [e]; omega)
  · have hxz : t.1 = z.1 := by unfold lt2 at h2; omega
    have hy : t.2 < z.2 := by unfold lt2 at h2; omega
    have hr : r.1 = z.1 := by unfold le2 at h3; unfold lt2 at h4; omega
    have hd : 0 ≤ z.1 - t'.1 := hz1
    have e3 : orient t' t z = (z.1 - t'.1) * (z.2 - t.2) := by unfold orient; rw [hxz]; grind
    have hd0 : z.1 - t'.1 = 0 := by
      have : ¬ 0 < z.1 - t'.1 := fun q => by
        have := Int.mul_pos q (show 0 < z.2 - t.2 by omega)
        omega
      omega
    have : orient t' z r = (z.1 - t'.1) * (r.2 - z.2) := by unfold orient; rw [hr]; grind
    rw [this, hd0]
    omega
/-- t is taken off: what lies between t' and t -/
theorem or_pop2 {t' t z r : P2} (h1 : lt2 t' t) (h2 : lt2 t z) (h3 : le2 t' r) (h4 : lt2 r t) (o1 : orient t' t z ≤ 0) (o2 : 0 ≤ orient t' t r) : 0 ≤ orient t' z r := by
  have e : (t.1 - t'.1) * orient t' z r = (z.1 - t'.1) * orient t' t r + (r.1 - t'.1) * orient t' z t := by unfold orient; grind
  have e2 : orient t' z t = - orient t' t z := by unfold orient; grind
  have hz1 : 0 ≤ z.1 - t'.1 := by unfold lt2 at h1 h2; omega
  have hz2 : 0 ≤ r.1 - t'.1 := by unfold le2 at h3; omega
  have a1 := mul_nn hz1 o2
  have a2 := mul_nn hz2 (show 0 ≤ orient t' z t by omega)
  by_cases hx : t'.1 < t.1
  · exact nonneg_of_mul_nonneg (show 0 < t.1 - t'.1 by omega) (by rw [e]; omega)
  · have hxz : t.1 = t'.1 := by unfold lt2 at h1; omega
    have hr : r.1 = t'.1 := by unfold le2 at h3; unfold lt2 at h4; omega
    have hy : 0 ≤ r.2 - t'.2 := by unfold le2 at h3; omega
    have : orient t' z r = (z.1 - t'.1) * (r.2 - t'.2) := by unfold orient; rw [hr]; grind
    rw [this]
    exact mul_nn hz1 hy

/-! ### the stack: its top first -/
def pops : List P2 → P2 → List P2
  | t :: t' :: r, z => if 0 < orient t' t z then t :: t' :: r else pops (t' :: r) z
  | [t], _ => [t]
  | [], _ => []
def push (st : List P2) (z : P2) : List P2 := z :: pops st z
def chainR (S : List P2) : List P2 := S.foldl push []
def chain (S : List P2) : List P2 := (chainR S).reverse

/-- neighbours on the stack t above t': all of D is left of the way from t' to t, and ways turn left -/
def Cv (D : P2 → Prop) : List P2 → Prop
  | t :: t' :: r => lt2 t' t ∧ (∀ x, D x → 0 ≤ orient t' t x) ∧ (∀ u r', r = u :: r' → 0 < orient u t' t) ∧ Cv D (t' :: r)
  | _ => True
theorem cv_add {D : P2 → Prop} {z : P2} : ∀ (r : List P2) (t t' : P2), Cv D (t :: t' :: r) → lt2 t z → 0 < orient t' t z → Cv (fun x => x = z ∨ D x) (t :: t' :: r)
  | [], t, t', h, hz, ho => by
    obtain ⟨h1, h2, h3, _⟩ := h
    refine ⟨h1, fun x hx => ?_, fun u r' e => (by cases e), True.intro⟩
    rcases hx with e | hx
    · subst e; omega
    · exact h2 x hx
  | u :: r, t, t', h, hz, ho => by
    obtain ⟨h1, h2, h3, h4⟩ := h
    have h5 := h3 u r rfl
    have hut : lt2 u t' := h4.1
    have ih := cv_add r t' u h4 (h1.trans hz) (by
      have q := or_far hut h1 hz h5 ho
      exact q)
    refine ⟨h1, fun x hx => ?_, h3, ih⟩
    rcases hx with e | hx
    · subst e; omega
    · exact h2 x hx
/-- the stack st of what D has, m its least -/
theorem pops_ok {D : P2 → Prop} {z m : P2} (hm : ∀ x, D x → le2 m x) : ∀ (st : List P2) (t : P2) (r : List P2), st = t :: r → Cv D st → st.getLast? = some m → lt2 t z → (∀ x, D x → lt2 x z) → (∀ x, D x → le2 t x → 0 ≤ orient t z x) →
    Cv (fun x => x = z ∨ D x) (z :: pops st z)
  | [], t, r, e, _, _, _, _, _ => by cases e
  | [t0], t, r, e, hc, hl, hz, hD, hH => by
    cases e
    have et : t0 = m := by simpa using hl
    subst et
    refine ⟨hz, fun x hx => ?_, fun u r' e => (by cases e), True.intro⟩
    rcases hx with e | hx
    · subst e; unfold orient; grind
    · exact hH x hx (hm x hx)
  | t0 :: t' :: r0, t, r, e, hc, hl, hz, hD, hH => by
    cases e
    unfold pops
    obtain ⟨h1, h2, h3, h4⟩ := id hc
    split
    · rename_i ho
      refine ⟨hz, fun x hx => ?_, fun u r' e => ?_, cv_add r0 t0 t' hc hz ho⟩
      · rcases hx with e | hx
        · subst e; unfold orient; grind
        · by_cases hxt : lt2 x t0
          · exact Int.le_of_lt (or_back h1 hz hxt ho (h2 x hx))
          · exact hH x hx (le2_of_not hxt)
      · cases e
        exact ho
    · rename_i ho
      refine pops_ok hm (t' :: r0) t' r0 rfl h4 (by rw [List.getLast?_cons_cons] at hl; exact hl) (h1.trans hz) hD fun x hx hle => ?_
      by_cases hxt : lt2 x t0
      · exact or_pop2 h1 hz hle hxt (by omega) (h2 x hx)
      · exact or_pop1 h1 hz (le2_of_not hxt) (hD x hx) (by omega) (hH x hx (le2_of_not hxt))
theorem pops_last {z m : P2} : ∀ (st : List P2), st.getLast? = some m → (pops st z).getLast? = some m
  | [], h => by cases h
  | [t], h => h
  | t :: t' :: r, h => by
    unfold pops
    split
    · exact h
    · exact pops_last (t' :: r) (by rw [List.getLast?_cons_cons] at h; exact h)
theorem pops_mem {z x : P2} : ∀ (st : List P2), x ∈ pops st z → x ∈ st
  | [], h => h
  | [t], h => h
  | t :: t' :: r, h => by
    unfold pops at h
    split at h
    · exact h
    · exact List.mem_cons_of_mem _ (pops_mem (t' :: r) h)
theorem pops_ne {z : P2} : ∀ (st : List P2), st ≠ [] → pops st z ≠ []
  | [], h => h
  | [t], h => h
  | t :: t' :: r, h => by
    unfold pops
    split
    · exact h
    · exact pops_ne (t' :: r) (by simp)
/-- what holds behind each turn -/
structure Stk (D : P2 → Prop) (m : P2) (st : List P2) : Prop where
  cv : Cv D st
  top : ∃ t r, st = t :: r ∧ D t ∧ ∀ x, D x → le2 x t
  bot : st.getLast? = some m
  least : ∀ x, D x → le2 m x
  sub : ∀ x ∈ st, D x
theorem stk_push {D : P2 → Prop} {m z : P2} {st : List P2} (h : Stk D m st) (hz : ∀ x, D x → lt2 x z) : Stk (fun x => x = z ∨ D x) m (push st z) := by
  obtain ⟨t, r, e, ht, hmax⟩ := h.top
  have hDm : D m := h.sub m (List.mem_of_getLast? h.bot)
  refine ⟨pops_ok h.least st t r e h.cv h.bot (hz t ht) hz fun x hx hle => ?_, ⟨z, pops st z, rfl, .inl rfl, fun x hx => ?_⟩, ?_, fun x hx => ?_, fun x hx => ?_⟩
  · have : x = t := by
      rcases (hmax x hx).eq_or with e | q
      · exact e
      · exact absurd (lt_le q hle) (lt2.irrefl x)
    subst this
    unfold orient
    grind
  · rcases hx with e | hx
    · subst e; exact le2.refl _
    · exact (hz x hx).le
  · unfold push
    have q := pops_last (z := z) st h.bot
    have ne : pops st z ≠ [] := pops_ne st (by rw [e]; simp)
    cases hp : pops st z with
    | nil => exact absurd hp ne
    | cons a l => rw [List.getLast?_cons_cons, ← hp]; exact q
  · rcases hx with e | hx
    · subst e; exact (hz m hDm).le
    · exact h.least x hx
  · rcases List.mem_cons.mp hx with e | hx
    · exact .inl e
    · exact .inr (h.sub x (pops_mem st hx))
theorem stk_one (m : P2) : Stk (fun x => x = m) m [m] :=
  ⟨True.intro, ⟨m, [], rfl, rfl, fun x e => by subst e; exact le2.refl _⟩, rfl, fun x e => by subst e; exact le2.refl _, fun x hx => List.mem_singleton.mp hx⟩
theorem stk_fold {m : P2} : ∀ (S : List P2) (D : P2 → Prop) (st : List P2), Stk D m st → S.Pairwise lt2 → (∀ x y, D x → y ∈ S → lt2 x y) → Stk (fun x => D x ∨ x ∈ S) m (S.foldl push st)
  | [], D, st, h, _, _ => by
    have e : (fun x => D x ∨ x ∈ ([] : List P2)) = D := funext fun x => propext ⟨fun q => q.elim id (fun z => by cases z), .inl⟩
    rw [e]
    exact h
  | z :: S, D, st, h, hp, hz => by
    obtain ⟨p1, p2⟩ := List.pairwise_cons.mp hp
    have ih := stk_fold S (fun x => x = z ∨ D x) (push st z) (stk_push h fun x hx => hz x z hx List.mem_cons_self) p2 fun x y hx hy => by
      rcases hx with e | hx
      · subst e; exact p1 y hy
      · exact hz x y hx (List.mem_cons_of_mem _ hy)
    have e : (fun x => D x ∨ x ∈ z :: S) = (fun x => (x = z ∨ D x) ∨ x ∈ S) := funext fun x => propext (by rw [List.mem_cons]; grind)
    rw [e]
    exact ih
/-- THE CHAIN of an ascending list -/
theorem chain_stk {m : P2} {S : List P2} (hp : (m :: S).Pairwise lt2) : Stk (fun x => x ∈ m :: S) m (chainR (m :: S)) := by
  obtain ⟨p1, p2⟩ := List.pairwise_cons.mp hp
  have h := stk_fold S (fun x => x = m) [m] (stk_one m) p2 fun x y hx hy => by subst hx; exact p1 y hy
  have e : (fun x => x ∈ m :: S) = (fun x => x = m ∨ x ∈ S) := funext fun x => propext List.mem_cons
  rw [e]
  exact h
end Sh
end
section
set_option linter.all false
/-! The hull of ascending dots. -/
namespace Sh
/-! ### neighbours in a list -/
def prs {α : Type} : List α → List (α × α)
  | a :: b :: r => (a, b) :: prs (b :: r)
  | _ => []
theorem prs_cons {α : Type} (a b : α) (r : List α) : prs (a :: b :: r) = (a, b) :: prs (b :: r) := rfl
theorem prs_app {α : Type} : ∀ (xs : List α) (y : α) (ys : List α), prs (xs ++ y :: ys) = prs (xs ++ [y]) ++ prs (y :: ys)
  | [], y, ys => rfl
  | [x], y, ys => rfl
  | x :: x' :: xs, y, ys => by
    show (x, x') :: prs ((x' :: xs) ++ y :: ys) = ((x, x') :: prs ((x' :: xs) ++ [y])) ++ prs (y :: ys)
    rw [prs_app (x' :: xs) y ys]
    rfl
theorem mem_prs_app {α : Type} {a b : α} : ∀ (pre post : List α), (a, b) ∈ prs (pre ++ a :: b :: post)
  | [], post => List.mem_cons_self
  | [x], post => List.mem_cons_of_mem _ List.mem_cons_self
  | x :: x' :: pre, post => List.mem_cons_of_mem _ (mem_prs_app (x' :: pre) post)
theorem prs_split {α : Type} {a b : α} : ∀ (l : List α), (a, b) ∈ prs l → ∃ pre post, l = pre ++ a :: b :: post
  | [], h => by cases h
  | [x], h => by cases h
  | x :: y :: r, h => by
    rcases List.mem_cons.mp h with e | h
    · cases e
      exact ⟨[], r, rfl⟩
    · obtain ⟨pre, post, e⟩ := prs_split (y :: r) h
      exact ⟨x :: pre, post, by rw [e]; rfl⟩
theorem prs_mem {α : Type} {a b : α} {l : List α} (h : (a, b) ∈ prs l) : a ∈ l ∧ b ∈ l := by
  obtain ⟨pre, post, e⟩ := prs_split l h
  subst e
  simp
theorem prs_rev {α : Type} {a b : α} {l : List α} : (a, b) ∈ prs l.reverse ↔ (b, a) ∈ prs l := by
  constructor
  · intro h
    obtain ⟨pre, post, e⟩ := prs_split _ h
    have e2 : l = (pre ++ a :: b :: post).reverse := by rw [← e, List.reverse_reverse]
    rw [e2]
    simp only [List.reverse_append, List.reverse_cons, List.append_assoc, List.singleton_append]
    exact mem_prs_app _ _
  · intro h
    obtain ⟨pre, post, e⟩ := prs_split _ h
    rw [e]
    simp only [List.reverse_append, List.reverse_cons, List.append_assoc, List.singleton_append]
    exact mem_prs_app _ _
theorem prs_map {α β : Type} (f : α → β) : ∀ (l : List α), prs (l.map f) = (prs l).map fun p => (f p.1, f p.2)
  | [] => rfl
  | [x] => rfl
  | x :: y :: r => by
    show (f x, f y) :: prs ((y :: r).map f) = (f x, f y) :: (prs (y :: r)).map _
    rw [prs_map f (y :: r)]
/-- the neighbours on the way round -/
def cyc {α : Type} (l : List α) : List (α × α) := prs (l ++ l.take 1)

/-! ### what a stack tells -/
theorem cv_prs {D : P2 → Prop} : ∀ (st : List P2) (a b : P2), Cv D st → (b, a) ∈ prs st → lt2 a b ∧ ∀ x, D x → 0 ≤ orient a b x
  | [], a, b, _, h => by cases h
  | [x], a, b, _, h => by cases h
  | t :: t' :: r, a, b, hc, h => by
    obtain ⟨h1, h2, h3, h4⟩ := hc
    rcases List.mem_cons.mp h with e | h
    · cases e
      exact ⟨h1, h2⟩
    · exact cv_prs (t' :: r) a b h4 h
theorem cv_desc {D : P2 → Prop} : ∀ (st : List P2), Cv D st → st.Pairwise (fun a b => lt2 b a)
  | [], _ => List.Pairwise.nil
  | [x], _ => List.pairwise_singleton _ _
  | t :: t' :: r, hc => by
    obtain ⟨h1, h2, h3, h4⟩ := hc
    have ih := cv_desc (t' :: r) h4
    refine List.pairwise_cons.mpr ⟨fun x hx => ?_, ih⟩
    rcases List.mem_cons.mp hx with e | hx
    · subst e; exact h1
    · exact ((List.pairwise_cons.mp ih).1 x hx).trans h1
/-- a corner between its neighbours -/
theorem low_mid {D : P2 → Prop} {u x t a b : P2} (h1 : lt2 u x) (h2 : lt2 x t) (o1 : 0 ≤ orient u x a) (o2 : 0 ≤ orient x t b) (o3 : 0 < orient u x t) (ha : lt2 a x) (hb : lt2 x b) : 0 < orient a x b := by
  have t1 := tr_pos' (lp_of ha) (lp_of h1) (lp_of h2) (by unfold orient at o1; grind) (by unfold orient at o3; grind)
  have t2 := tr_pos (lp_of ha) (lp_of h2) (lp_of hb) t1 (by unfold orient at o2; grind)
  unfold orient
  grind
theorem cv_low {D : P2 → Prop} {a b : P2} (ha : D a) (hb : D b) : ∀ (st : List P2) (t x : P2) (r : List P2), st = t :: r → Cv D st → x ∈ r → (∀ m, st.getLast? = some m → le2 m a) → lt2 a x → lt2 x b → 0 < orient a x b
  | [], t, x, r, e, _, _, _, _, _ => by cases e
  | [t0], t, x, r, e, _, hx, _, _, _ => by cases e; cases hx
  | [t0, t1], t, x, r, e, hc, hx, hl, h1, h2 => by
    cases e
    have ex : x = t1 := List.mem_singleton.mp hx
    subst ex
    exact absurd (lt_le h1 (hl x rfl)) (lt2.irrefl a)
  | t0 :: t1 :: u :: r0, t, x, r, e, hc, hx, hl, h1, h2 => by
    cases e
    obtain ⟨c1, c2, c3, c4⟩ := hc
    rcases List.mem_cons.mp hx with e | hx
    · subst e
      exact low_mid (D := D) c4.1 c1 (c4.2.1 a ha) (c2 b hb) (c3 u r0 rfl) h1 h2
    · exact cv_low ha hb (t1 :: u :: r0) t1 x (u :: r0) rfl c4 hx (fun m hm => hl m (by rw [List.getLast?_cons_cons]; exact hm)) h1 h2
theorem Stk.low {D : P2 → Prop} {m x a b : P2} {st : List P2} (h : Stk D m st) (hx : x ∈ st) (ha : D a) (hb : D b) (h1 : lt2 a x) (h2 : lt2 x b) : 0 < orient a x b := by
  obtain ⟨t, r, e, ht, hmax⟩ := h.top
  subst e
  rcases List.mem_cons.mp hx with e | hx
  · subst e
    exact absurd (lt_le h2 (hmax b hb)) (lt2.irrefl x)
  · exact cv_low ha hb _ t x r rfl h.cv hx (fun m' hm => by rw [h.bot] at hm; cases hm; exact h.least a ha) h1 h2
theorem cv_between {s : P2} : ∀ (st : List P2) (t : P2) (r : List P2), st = t :: r → le2 s t → (∀ m, st.getLast? = some m → le2 m s) → s ∈ st ∨ ∃ a b, (b, a) ∈ prs st ∧ lt2 a s ∧ lt2 s b
  | [], t, r, e, _, _ => by cases e
  | [t0], t, r, e, h, hl => by
    cases e
    rcases h.eq_or with e | q
    · subst e; exact .inl List.mem_cons_self
    · exact absurd (lt_le q (hl t0 rfl)) (lt2.irrefl s)
  | t0 :: t1 :: r0, t, r, e, h, hl => by
    cases e
    rcases h.eq_or with e | q
    · subst e; exact .inl List.mem_cons_self
    · by_cases c : lt2 t1 s
      · exact .inr ⟨t1, t0, List.mem_cons_self, c, q⟩
      · rcases cv_between (t1 :: r0) t1 r0 rfl (le2_of_not c) (fun m hm => hl m (by rw [List.getLast?_cons_cons]; exact hm)) with z | ⟨a, b, h1, h2⟩
        · exact .inl (List.mem_cons_of_mem _ z)
        · exact .inr ⟨a, b, List.mem_cons_of_mem _ h1, h2⟩
theorem Stk.between {D : P2 → Prop} {m s : P2} {st : List P2} (h : Stk D m st) (hs : D s) : s ∈ st ∨ ∃ a b, (b, a) ∈ prs st ∧ lt2 a s ∧ lt2 s b := by
  obtain ⟨t, r, e, ht, hmax⟩ := h.top
  exact cv_between st t r e (hmax s hs) fun m' hm => by rw [h.bot] at hm; cases hm; exact h.least s hs
/-- a form that grows upwards and is above 0 at the corners is above 0 at all -/
theorem form_seg {A B C : Int} {a b s : P2} (hab : lt2 a b) (h1 : lt2 a s) (h2 : lt2 s b) (o : 0 ≤ orient a b s) (hB : 0 ≤ B) (fa : 0 < A * a.1 + B * a.2 + C) (fb : 0 < A * b.1 + B * b.2 + C) : 0 < A * s.1 + B * s.2 + C := by
  have e : (b.1 - a.1) * (A * s.1 + B * s.2 + C) = (b.1 - s.1) * (A * a.1 + B * a.2 + C) + (s.1 - a.1) * (A * b.1 + B * b.2 + C) + B * orient a b s := by unfold orient; grind
  have q := mul_nn hB o
  by_cases hx : a.1 < b.1
  · refine pos_of_mul_pos (show 0 < b.1 - a.1 by omega) ?_
    rw [e]
    by_cases hs : a.1 < s.1
    · have q1 := Int.mul_pos (show 0 < s.1 - a.1 by omega) fb
      have q2 := mul_nn (show 0 ≤ b.1 - s.1 by unfold lt2 at h2; omega) (Int.le_of_lt fa)
      omega
    · have hs1 : s.1 = a.1 := by unfold lt2 at h1; omega
      have q1 := Int.mul_pos (show 0 < b.1 - s.1 by omega) fa
      have q2 : (s.1 - a.1) * (A * b.1 + B * b.2 + C) = 0 := by rw [hs1, Int.sub_self, Int.zero_mul]
      omega
  · have hs : s.1 = a.1 := by unfold lt2 at h1 h2 hab; omega
    have hy : 0 ≤ s.2 - a.2 := by unfold lt2 at h1; omega
    have q3 := mul_nn hB hy
    have e2 : A * s.1 + B * s.2 + C = (A * a.1 + B * a.2 + C) + B * (s.2 - a.2) := by rw [hs]; grind
    omega
theorem Stk.form {D : P2 → Prop} {m : P2} {st : List P2} (h : Stk D m st) {A B C : Int} (hB : 0 ≤ B) (hf : ∀ x ∈ st, 0 < A * x.1 + B * x.2 + C) {s : P2} (hs : D s) : 0 < A * s.1 + B * s.2 + C := by
  rcases h.between hs with q | ⟨a, b, hp, h1, h2⟩
  · exact hf s q
  · obtain ⟨c1, c2⟩ := cv_prs st a b h.cv hp
    obtain ⟨m1, m2⟩ := prs_mem hp
    exact form_seg c1 h1 h2 (c2 s hs) hB (hf a m2) (hf b m1)

/-! ### the chain by its members -/
theorem asc_ext : ∀ {l l' : List P2}, l.Pairwise lt2 → l'.Pairwise lt2 → (∀ x, x ∈ l ↔ x ∈ l') → l = l'
  | [], [], _, _, _ => rfl
  | [], b :: l', _, _, h => absurd ((h b).mpr List.mem_cons_self) (by simp)
  | a :: l, [], _, _, h => absurd ((h a).mp List.mem_cons_self) (by simp)
  | a :: l, b :: l', h1, h2, h => by
    obtain ⟨p1, p2⟩ := List.pairwise_cons.mp h1
    obtain ⟨q1, q2⟩ := List.pairwise_cons.mp h2
    have hab : a = b := by
      rcases List.mem_cons.mp ((h a).mp List.mem_cons_self) with e | ha
      · exact e
      · rcases List.mem_cons.mp ((h b).mpr List.mem_cons_self) with e | hb
        · exact e.symm
        · exact ((p1 b hb).asymm (q1 a ha)).elim
    subst hab
    have ih := asc_ext p2 q2 fun x => by
      constructor
      · intro hx
        rcases List.mem_cons.mp ((h x).mp (List.mem_cons_of_mem _ hx)) with e | hx'
        · subst e; exact absurd (p1 x hx) (lt2.irrefl x)
        · exact hx'
      · intro hx
        rcases List.mem_cons.mp ((h x).mpr (List.mem_cons_of_mem _ hx)) with e | hx'
        · subst e; exact absurd (q1 x hx) (lt2.irrefl x)
        · exact hx'
    rw [ih]
theorem asc_rev {l : List P2} (h : l.Pairwise (fun a b => lt2 b a)) : l.reverse.Pairwise lt2 := List.pairwise_reverse.mpr h
theorem chain_asc {S : List P2} (hp : S.Pairwise lt2) : (chain S).Pairwise lt2 := by
  cases S with
  | nil => exact List.Pairwise.nil
  | cons m S => exact asc_rev (cv_desc _ (chain_stk hp).cv)
theorem mem_chain {S : List P2} (hp : S.Pairwise lt2) {x : P2} : x ∈ chain S ↔ x ∈ S ∧ ∀ a b, a ∈ S → b ∈ S → lt2 a x → lt2 x b → 0 < orient a x b := by
  cases S with
  | nil => exact ⟨fun h => (by cases h), fun h => (by cases h.1)⟩
  | cons m S =>
    have K := chain_stk hp
    unfold chain
    rw [List.mem_reverse]
    constructor
    · intro h
      exact ⟨K.sub x h, fun a b ha hb h1 h2 => K.low h ha hb h1 h2⟩
    · rintro ⟨h1, h2⟩
      rcases K.between h1 with q | ⟨a, b, hq, l1, l2⟩
      · exact q
      · obtain ⟨c1, c2⟩ := cv_prs _ a b K.cv hq
        obtain ⟨m1, m2⟩ := prs_mem hq
        have z := h2 a b (K.sub a m2) (K.sub b m1) l1 l2
        have z2 := c2 x h1
        have e : orient a b x = - orient a x b := by unfold orient; grind
        omega
/-- fewer dots with all the corners have the same chain -/
theorem chain_same {S S' : List P2} (hp : S.Pairwise lt2) (hp' : S'.Pairwise lt2) (h1 : ∀ x, x ∈ S' → x ∈ S) (h2 : ∀ x, x ∈ chain S → x ∈ S') : chain S' = chain S := by
  refine asc_ext (chain_asc hp') (chain_asc hp) fun x => ?_
  constructor
  · intro hx
    obtain ⟨q1, q2⟩ := (mem_chain hp').mp hx
    cases S with
    | nil => exact absurd (h1 x q1) (by simp)
    | cons m S =>
      have K := chain_stk hp
      rcases K.between (h1 x q1) with q | ⟨a, b, hq, l1, l2⟩
      · unfold chain; exact List.mem_reverse.mpr q
      · obtain ⟨c1, c2⟩ := cv_prs _ a b K.cv hq
        obtain ⟨m1, m2⟩ := prs_mem hq
        have z := q2 a b (h2 a (by unfold chain; exact List.mem_reverse.mpr m2)) (h2 b (by unfold chain; exact List.mem_reverse.mpr m1)) l1 l2
        have z2 := c2 x (h1 x q1)
        have e : orient a b x = - orient a x b := by unfold orient; grind
        omega
  · intro hx
    obtain ⟨q1, q2⟩ := (mem_chain hp).mp hx
    exact (mem_chain hp').mpr ⟨h2 x hx, fun a b ha hb l1 l2 => q2 a b (h1 a ha) (h1 b hb) l1 l2⟩

/-! ### turned by half a turn -/
def ng (p : P2) : P2 := (-p.1, -p.2)
theorem ng_ng (p : P2) : ng (ng p) = p := by unfold ng; simp
theorem ng_lt {a b : P2} : lt2 (ng a) (ng b) ↔ lt2 b a := by unfold lt2 ng; simp only; omega
theorem ng_or (a b c : P2) : orient (ng a) (ng b) (ng c) = orient a b c := by unfold orient ng; simp only; grind
theorem pops_ng {z : P2} : ∀ (st : List P2), pops (st.map ng) (ng z) = (pops st z).map ng
  | [] => rfl
  | [t] => rfl
  | t :: t' :: r => by
    show (if 0 < orient (ng t') (ng t) (ng z) then ng t :: ng t' :: r.map ng else pops ((t' :: r).map ng) (ng z)) = (if 0 < orient t' t z then t :: t' :: r else pops (t' :: r) z).map ng
    rw [ng_or, pops_ng (t' :: r)]
    split <;> rfl
theorem fold_ng : ∀ (S st : List P2), (S.map ng).foldl push (st.map ng) = (S.foldl push st).map ng
  | [], st => rfl
  | z :: S, st => by
    show (S.map ng).foldl push (ng z :: pops (st.map ng) (ng z)) = (S.foldl push (push st z)).map ng
    rw [pops_ng, ← fold_ng S (push st z)]
    rfl
theorem chain_ng (S : List P2) : chain (S.map ng) = (chain S).map ng := by
  unfold chain chainR
  rw [List.map_reverse]
  exact congrArg List.reverse (fold_ng S [])
theorem rev_ng {R : List P2} (hp : R.Pairwise lt2) : (R.reverse.map ng).Pairwise lt2 :=
  List.pairwise_map.mpr (List.pairwise_reverse.mpr (List.Pairwise.imp (fun {a b} h => ng_lt.mpr h) hp))
theorem mem_map_ng {x : P2} {l : List P2} : x ∈ l.map ng ↔ ng x ∈ l := by
  rw [List.mem_map]
  constructor
  · rintro ⟨y, hy, e⟩
    rw [← e, ng_ng]; exact hy
  · intro h
    exact ⟨ng x, h, ng_ng x⟩
/-- the upper border of ascending dots: a descending chain -/
def upper (R : List P2) : List P2 := chain R.reverse
theorem upper_ng (R : List P2) : upper R = (chain (R.reverse.map ng)).map ng := by
  unfold upper
  rw [chain_ng, List.map_map]
  have e : ng ∘ ng = id := funext ng_ng
  rw [e, List.map_id]

/-! ### ends of a chain -/
theorem chain_first {m : P2} {S : List P2} (hp : (m :: S).Pairwise lt2) : ∃ r, chain (m :: S) = m :: r := by
  have K := chain_stk hp
  have b := K.bot
  rw [← List.head?_reverse] at b
  unfold chain
  cases h : (chainR (m :: S)).reverse with
  | nil => rw [h] at b; cases b
  | cons a l => rw [h] at b; cases b; exact ⟨l, rfl⟩
theorem chain_last {M : P2} {S : List P2} (hp : (S ++ [M]).Pairwise lt2) : ∃ r, chain (S ++ [M]) = r ++ [M] := by
  have h2 : (chainR (S ++ [M])).head? = some M := by
    unfold chainR
    rw [List.foldl_append]
    rfl
  unfold chain
  cases h : chainR (S ++ [M]) with
  | nil => rw [h] at h2; cases h2
  | cons a l =>
    rw [h] at h2
    cases h2
    exact ⟨l.reverse, by simp⟩
end Sh
end
section
set_option linter.all false
/-! The hull of ascending dots, both borders. -/
namespace Sh
theorem lower_pairs {R : List P2} (hp : R.Pairwise lt2) {a b : P2} (h : (a, b) ∈ prs (chain R)) : lt2 a b ∧ ∀ x ∈ R, 0 ≤ orient a b x := by
  cases R with
  | nil => cases h
  | cons m S =>
    have K := chain_stk hp
    exact cv_prs _ a b K.cv (prs_rev.mp h)
theorem upper_pairs {R : List P2} (hp : R.Pairwise lt2) {a b : P2} (h : (a, b) ∈ prs (upper R)) : lt2 b a ∧ ∀ x ∈ R, 0 ≤ orient a b x := by
  rw [upper_ng, prs_map] at h
  obtain ⟨⟨c, d⟩, hq, e⟩ := List.mem_map.mp h
  have e1 : ng c = a := congrArg Prod.fst e
  have e2 : ng d = b := congrArg Prod.snd e
  obtain ⟨q1, q2⟩ := lower_pairs (rev_ng hp) hq
  rw [← e1, ← e2]
  refine ⟨ng_lt.mpr q1, fun x hx => ?_⟩
  have z := q2 (ng x) (List.mem_map.mpr ⟨x, List.mem_reverse.mpr hx, rfl⟩)
  rw [← ng_or, ng_ng, ng_ng]
  exact z
theorem lower_form {R : List P2} (hp : R.Pairwise lt2) {A B C : Int} (hB : 0 ≤ B) (hf : ∀ x ∈ chain R, 0 < A * x.1 + B * x.2 + C) : ∀ x ∈ R, 0 < A * x.1 + B * x.2 + C := by
  cases R with
  | nil => intro x hx; cases hx
  | cons m S =>
    intro x hx
    exact (chain_stk hp).form hB (fun y hy => hf y (by unfold chain; exact List.mem_reverse.mpr hy)) hx
theorem upper_form {R : List P2} (hp : R.Pairwise lt2) {A B C : Int} (hB : B ≤ 0) (hf : ∀ x ∈ upper R, 0 < A * x.1 + B * x.2 + C) : ∀ x ∈ R, 0 < A * x.1 + B * x.2 + C := by
  intro x hx
  have z := lower_form (rev_ng hp) (A := -A) (B := -B) (C := C) (by omega) (fun y hy => by
    have q := hf (ng y) (by rw [upper_ng, mem_map_ng, ng_ng]; exact hy)
    unfold ng at q
    simp only at q
    grind) (ng x) (List.mem_map.mpr ⟨x, List.mem_reverse.mpr hx, rfl⟩)
  unfold ng at z
  simp only at z
  grind
theorem mem_upper {R : List P2} (hp : R.Pairwise lt2) {x : P2} : x ∈ upper R ↔ x ∈ R ∧ ∀ a b, a ∈ R → b ∈ R → lt2 x a → lt2 b x → 0 < orient a x b := by
  rw [upper_ng, mem_map_ng, mem_chain (rev_ng hp)]
  rw [mem_map_ng, ng_ng, List.mem_reverse]
  constructor
  · rintro ⟨h1, h2⟩
    refine ⟨h1, fun a b ha hb l1 l2 => ?_⟩
    have q := h2 (ng a) (ng b) (by rw [mem_map_ng, ng_ng]; exact List.mem_reverse.mpr ha) (by rw [mem_map_ng, ng_ng]; exact List.mem_reverse.mpr hb) (ng_lt.mpr l1) (ng_lt.mpr l2)
    rw [ng_or] at q
    exact q
  · rintro ⟨h1, h2⟩
    refine ⟨h1, fun a b ha hb l1 l2 => ?_⟩
    have q := h2 (ng a) (ng b) (List.mem_reverse.mp (mem_map_ng.mp ha)) (List.mem_reverse.mp (mem_map_ng.mp hb)) (by rw [← ng_lt, ng_ng]; exact l1) (by rw [← ng_lt, ng_ng]; exact l2)
    rw [← ng_or, ng_ng, ng_ng] at q
    exact q
theorem upper_desc {R : List P2} (hp : R.Pairwise lt2) : (upper R).Pairwise (fun a b => lt2 b a) := by
  rw [upper_ng]
  exact List.pairwise_map.mpr (List.Pairwise.imp (fun {a b} h => ng_lt.mpr h) (chain_asc (rev_ng hp)))
theorem upper_same {S S' : List P2} (hp : S.Pairwise lt2) (hp' : S'.Pairwise lt2) (h1 : ∀ x, x ∈ S' → x ∈ S) (h2 : ∀ x, x ∈ upper S → x ∈ S') : upper S' = upper S := by
  rw [upper_ng, upper_ng]
  refine congrArg (List.map ng) (chain_same (rev_ng hp) (rev_ng hp') (fun x hx => ?_) (fun x hx => ?_))
  · rw [mem_map_ng] at *
    exact List.mem_reverse.mpr (h1 _ (List.mem_reverse.mp hx))
  · rw [mem_map_ng]
    exact List.mem_reverse.mpr (h2 _ (by rw [upper_ng, mem_map_ng, ng_ng]; exact hx))
theorem upper_first {M : P2} {S : List P2} (hp : (S ++ [M]).Pairwise lt2) : ∃ r, upper (S ++ [M]) = M :: r := by
  have hq := rev_ng hp
  have e : (S ++ [M]).reverse.map ng = ng M :: S.reverse.map ng := by simp
  rw [e] at hq
  obtain ⟨r, h⟩ := chain_first hq
  rw [upper_ng, e, h]
  exact ⟨r.map ng, by rw [List.map_cons, ng_ng]⟩
theorem upper_last {m : P2} {S : List P2} (hp : (m :: S).Pairwise lt2) : ∃ r, upper (m :: S) = r ++ [m] := by
  have hq := rev_ng hp
  have e : (m :: S).reverse.map ng = S.reverse.map ng ++ [ng m] := by simp
  rw [e] at hq
  obtain ⟨r, h⟩ := chain_last hq
  rw [upper_ng, e, h]
  exact ⟨r.map ng, by simp [ng_ng]⟩

/-! ### the hull -/
def hullZ (R : List P2) : List P2 := if R.length = 1 then R else (chain R).dropLast ++ (chain R.reverse).dropLast
/-- two dots or more: the borders -/
structure Brd (R : List P2) (m M : P2) (l u : List P2) : Prop where
  lt : lt2 m M
  low : chain R = m :: (l ++ [M])
  up : upper R = M :: (u ++ [m])
  min : ∀ x ∈ R, le2 m x
  max : ∀ x ∈ R, le2 x M
  mR : m ∈ R
  MR : M ∈ R
theorem brd_of {R : List P2} (hp : R.Pairwise lt2) (h2 : 2 ≤ R.length) : ∃ m M l u, Brd R m M l u := by
  obtain ⟨m, S, e1⟩ : ∃ m S, R = m :: S := by
    cases R with
    | nil => simp at h2
    | cons m S => exact ⟨m, S, rfl⟩
  obtain ⟨S', M, e2⟩ : ∃ S' M, R = S' ++ [M] := by
    have hne : R ≠ [] := by rw [e1]; simp
    exact ⟨R.dropLast, R.getLast hne, (List.dropLast_concat_getLast hne).symm⟩
  have mR : m ∈ R := by rw [e1]; exact List.mem_cons_self
  have MR : M ∈ R := by rw [e2]; simp
  have hmin : ∀ x ∈ R, le2 m x := fun x hx => by
    rw [e1] at hx hp
    rcases List.mem_cons.mp hx with e | hx
    · subst e; exact le2.refl _
    · exact ((List.pairwise_cons.mp hp).1 x hx).le
  have hmax : ∀ x ∈ R, le2 x M := fun x hx => by
    rw [e2] at hx hp
    rcases List.mem_append.mp hx with hx | hx
    · exact ((List.pairwise_append.mp hp).2.2 x hx M (List.mem_singleton.mpr rfl)).le
    · rw [List.mem_singleton.mp hx]; exact le2.refl _
  have hlt : lt2 m M := by
    rw [e1] at MR hp h2
    rcases List.mem_cons.mp MR with e | h
    · exfalso
      subst e
      obtain ⟨p1, p2⟩ := List.pairwise_cons.mp hp
      cases S with
      | nil => simp at h2
      | cons y S => exact absurd (lt_le (p1 y List.mem_cons_self) (hmax y (by rw [e1]; simp))) (lt2.irrefl _)
    · exact (List.pairwise_cons.mp hp).1 M h
  obtain ⟨r1, f1⟩ := chain_first (m := m) (S := S) (by rw [← e1]; exact hp)
  obtain ⟨r2, f2⟩ := chain_last (M := M) (S := S') (by rw [← e2]; exact hp)
  obtain ⟨r3, f3⟩ := upper_first (M := M) (S := S') (by rw [← e2]; exact hp)
  obtain ⟨r4, f4⟩ := upper_last (m := m) (S := S) (by rw [← e1]; exact hp)
  rw [← e1] at f1 f4
  rw [← e2] at f2 f3
  have key : ∀ {a b : P2} {x y : List P2} {z : List P2}, a ≠ b → z = a :: x → z = y ++ [b] → ∃ w, z = a :: (w ++ [b]) := by
    intro a b x y z hne h1 h2
    cases y with
    | nil =>
      rw [h1] at h2
      have e : a = b := by simpa using (List.cons.inj h2).1
      exact absurd e hne
    | cons y0 y =>
      rw [h1] at h2
      obtain ⟨e1, e2⟩ := List.cons.inj h2
      exact ⟨y, by rw [h1, e2] <;> rfl⟩
  obtain ⟨l, hl⟩ := key hlt.ne f1 f2
  obtain ⟨u, hu⟩ := key hlt.ne.symm f3 f4
  exact ⟨m, M, l, u, hlt, hl, hu, hmin, hmax, mR, MR⟩
theorem dropLast_ends (a b : P2) (w : List P2) : (a :: (w ++ [b])).dropLast = a :: w := by
  rw [← List.cons_append, List.dropLast_concat]
theorem Brd.hull {R : List P2} {m M : P2} {l u : List P2} (h : Brd R m M l u) (h2 : 2 ≤ R.length) : hullZ R = m :: (l ++ M :: u) := by
  unfold hullZ
  rw [if_neg (by omega)]
  have e : chain R.reverse = M :: (u ++ [m]) := h.up
  rw [h.low, e, dropLast_ends, dropLast_ends]
  rfl
theorem Brd.cyc {R : List P2} {m M : P2} {l u : List P2} (h : Brd R m M l u) (h2 : 2 ≤ R.length) : cyc (hullZ R) = prs (chain R) ++ prs (upper R) := by
  rw [h.hull h2, h.low, h.up]
  unfold Sh.cyc
  have e : (m :: (l ++ M :: u)) ++ (m :: (l ++ M :: u)).take 1 = (m :: l) ++ M :: (u ++ [m]) := by simp
  rw [e, prs_app]
  simp
theorem one_of {R : List P2} (h : R.length = 1) : ∃ p, R = [p] := by
  match R, h with
  | [p], _ => exact ⟨p, rfl⟩
theorem hull_cases {R : List P2} (hp : R.Pairwise lt2) (hne : R ≠ []) : (∃ p, R = [p] ∧ hullZ R = [p]) ∨ ∃ m M l u, 2 ≤ R.length ∧ Brd R m M l u := by
  by_cases h : R.length = 1
  · obtain ⟨p, e⟩ := one_of h
    refine .inl ⟨p, e, ?_⟩
    subst e
    rfl
  · have h2 : 2 ≤ R.length := by
      have := List.length_pos_iff.mpr hne
      omega
    obtain ⟨m, M, l, u, b⟩ := brd_of hp h2
    exact .inr ⟨m, M, l, u, h2, b⟩
theorem hull_pairs {R : List P2} (hp : R.Pairwise lt2) (hne : R ≠ []) {a b : P2} (h : (a, b) ∈ cyc (hullZ R)) : ∀ x ∈ R, 0 ≤ orient a b x := by
  rcases hull_cases hp hne with ⟨p, e1, e2⟩ | ⟨m, M, l, u, h2, B⟩
  · rw [e2] at h
    have e : (a, b) = (p, p) := by simpa [cyc, prs] using h
    cases e
    intro x hx
    unfold orient
    grind
  · rw [B.cyc h2] at h
    rcases List.mem_append.mp h with h | h
    · exact (lower_pairs hp h).2
    · exact (upper_pairs hp h).2
theorem hull_pair_ne {R : List P2} (hp : R.Pairwise lt2) (h2 : 2 ≤ R.length) {a b : P2} (h : (a, b) ∈ cyc (hullZ R)) : a ≠ b := by
  obtain ⟨m, M, l, u, B⟩ := brd_of hp h2
  rw [B.cyc h2] at h
  rcases List.mem_append.mp h with h | h
  · exact (lower_pairs hp h).1.ne
  · exact (upper_pairs hp h).1.ne.symm
theorem Brd.mem {R : List P2} {m M : P2} {l u : List P2} (h : Brd R m M l u) (h2 : 2 ≤ R.length) (x : P2) : x ∈ hullZ R ↔ x ∈ chain R ∨ x ∈ upper R := by
  rw [h.hull h2, h.low, h.up]
  simp only [List.mem_cons, List.mem_append, List.not_mem_nil, or_false]
  grind
theorem hull_mem {R : List P2} (hp : R.Pairwise lt2) (hne : R ≠ []) {x : P2} (h : x ∈ hullZ R) : x ∈ R := by
  rcases hull_cases hp hne with ⟨p, e1, e2⟩ | ⟨m, M, l, u, h2, B⟩
  · rw [e2] at h
    rw [e1]; exact h
  · rcases (B.mem h2 x).mp h with h | h
    · exact ((mem_chain hp).mp h).1
    · exact ((mem_upper hp).mp h).1
theorem hull_ne {R : List P2} (hp : R.Pairwise lt2) (hne : R ≠ []) : hullZ R ≠ [] := by
  rcases hull_cases hp hne with ⟨p, e1, e2⟩ | ⟨m, M, l, u, h2, B⟩
  · rw [e2]; simp
  · rw [B.hull h2]; simp
theorem hull_form {R : List P2} (hp : R.Pairwise lt2) (hne : R ≠ []) {A B C : Int} (hf : ∀ x ∈ hullZ R, 0 < A * x.1 + B * x.2 + C) : ∀ x ∈ R, 0 < A * x.1 + B * x.2 + C := by
  rcases hull_cases hp hne with ⟨p, e1, e2⟩ | ⟨m, M, l, u, h2, b⟩
  · rw [e2] at hf
    rw [e1]; exact hf
  · rcases Int.le_total 0 B with c | c
    · exact lower_form hp c fun x hx => hf x ((b.mem h2 x).mpr (.inl hx))
    · exact upper_form hp c fun x hx => hf x ((b.mem h2 x).mpr (.inr hx))
theorem desc_nodup {l : List P2} (h : l.Pairwise (fun a b => lt2 b a)) : l.Nodup := List.Pairwise.imp (fun {a b} q => q.ne.symm) h
theorem asc_nodup {l : List P2} (h : l.Pairwise lt2) : l.Nodup := List.Pairwise.imp (fun {a b} q => q.ne) h
theorem hull_nodup {R : List P2} (hp : R.Pairwise lt2) (hne : R ≠ []) : (hullZ R).Nodup := by
  rcases hull_cases hp hne with ⟨p, e1, e2⟩ | ⟨m, M, l, u, h2, b⟩
  · rw [e2]; simp
  · have e : hullZ R = (m :: l) ++ (M :: u) := by rw [b.hull h2]; rfl
    rw [e]
    have n1 : (m :: (l ++ [M])).Pairwise lt2 := by rw [← b.low]; exact chain_asc hp
    have n2 : (M :: (u ++ [m])).Pairwise (fun a b => lt2 b a) := by rw [← b.up]; exact upper_desc hp
    have n1' : (m :: l).Pairwise lt2 := by rw [← List.cons_append] at n1; exact (List.pairwise_append.mp n1).1
    have n2' : (M :: u).Pairwise (fun a b => lt2 b a) := by rw [← List.cons_append] at n2; exact (List.pairwise_append.mp n2).1
    refine List.nodup_append.mpr ⟨asc_nodup n1', desc_nodup n2', fun x hx y hy exy => ?_⟩
    subst exy
    have hxM : lt2 x M := by rw [← List.cons_append] at n1; exact (List.pairwise_append.mp n1).2.2 x hx M (List.mem_singleton.mpr rfl)
    have hmx : lt2 m x := by rw [← List.cons_append] at n2; exact (List.pairwise_append.mp n2).2.2 x hy m (List.mem_singleton.mpr rfl)
    have q1 := ((mem_chain hp).mp (by rw [b.low, ← List.cons_append]; exact List.mem_append_left _ hx)).2 m M b.mR b.MR hmx hxM
    have q2 := ((mem_upper hp).mp (by rw [b.up, ← List.cons_append]; exact List.mem_append_left _ hy)).2 M m b.MR b.mR hxM hmx
    have e3 : orient M x m = - orient m x M := by unfold orient; grind
    omega
/-- the hull of a hull -/
theorem hull_idem {R R' : List P2} (hp : R.Pairwise lt2) (hne : R ≠ []) (hp' : R'.Pairwise lt2) (hm : ∀ x, x ∈ R' ↔ x ∈ hullZ R) : hullZ R' = hullZ R := by
  rcases hull_cases hp hne with ⟨p, e1, e2⟩ | ⟨m, M, l, u, h2, b⟩
  · rw [e2] at hm ⊢
    have e : R' = [p] := asc_ext hp' (List.pairwise_singleton _ _) hm
    rw [e]
    rfl
  · have c1 : chain R' = chain R := chain_same hp hp' (fun x hx => hull_mem hp hne ((hm x).mp hx)) fun x hx => (hm x).mpr ((b.mem h2 x).mpr (.inl hx))
    have c2 : upper R' = upper R := upper_same hp hp' (fun x hx => hull_mem hp hne ((hm x).mp hx)) fun x hx => (hm x).mpr ((b.mem h2 x).mpr (.inr hx))
    have mR : m ∈ R' := (hm m).mpr ((b.mem h2 m).mpr (.inl (by rw [b.low]; exact List.mem_cons_self)))
    have MR : M ∈ R' := (hm M).mpr ((b.mem h2 M).mpr (.inr (by rw [b.up]; exact List.mem_cons_self)))
    have h2' : R'.length ≠ 1 := fun q => by
      obtain ⟨p, e⟩ := one_of q
      rw [e] at mR MR
      exact b.lt.ne ((List.mem_singleton.mp mR).trans (List.mem_singleton.mp MR).symm)
    unfold hullZ
    rw [if_neg h2', if_neg (by omega), c1]
    have c3 : chain R'.reverse = chain R.reverse := c2
    rw [c3]
/-- no more members than what they are of -/
theorem nodup_len {α : Type} [DecidableEq α] : ∀ (l D : List α), l.Nodup → (∀ x ∈ l, x ∈ D) → l.length ≤ D.length
  | [], _, _, _ => Nat.zero_le _
  | x :: l, D, hn, hs => by
    obtain ⟨h1, h2⟩ := List.nodup_cons.mp hn
    have hx : x ∈ D := hs x List.mem_cons_self
    have ih := nodup_len l (D.erase x) h2 fun y hy => by
      have hne : y ≠ x := fun e => h1 (e ▸ hy)
      exact (List.mem_erase_of_ne hne).2 (hs y (List.mem_cons_of_mem _ hy))
    have e := List.length_erase_of_mem hx
    have hp : 0 < D.length := List.length_pos_of_mem hx
    rw [List.length_cons]
    omega
theorem hull_len {R : List P2} (hp : R.Pairwise lt2) (hne : R ≠ []) : (hullZ R).length ≤ R.length := nodup_len _ _ (hull_nodup hp hne) fun x hx => hull_mem hp hne hx
end Sh
end
section
set_option linter.all false
/-! Points by three numbers, the hull of points. -/
namespace Sh
abbrev P3 := Int × Int × Int
def comDiv (l : List Int) : Int := l.foldl (fun f n => ((Nat.gcd f.natAbs n.natAbs : Nat) : Int)) 0
def lowL (l : List Int) : List Int := l.map fun n => n / comDiv l
def g3 (p : P3) : Int := comDiv [p.1, p.2.1, p.2.2]
def red (p : P3) : P3 := (p.1 / g3 p, p.2.1 / g3 p, p.2.2 / g3 p)
theorem g3_nat (p : P3) : g3 p = ((Nat.gcd (Nat.gcd p.1.natAbs p.2.1.natAbs) p.2.2.natAbs : Nat) : Int) := by
  unfold g3 comDiv
  simp
def isPt (p : P3) : Prop := 0 < p.2.2 ∧ g3 p = 1
def smul (k : Int) (p : P3) : P3 := (k * p.1, k * p.2.1, k * p.2.2)
theorem ext3 {p q : P3} (h1 : p.1 = q.1) (h2 : p.2.1 = q.2.1) (h3 : p.2.2 = q.2.2) : p = q := Prod.ext h1 (Prod.ext h2 h3)
theorem g3_smul {k : Int} (hk : 0 < k) (p : P3) : g3 (smul k p) = k * g3 p := by
  rw [g3_nat, g3_nat]
  unfold smul
  simp only [Int.natAbs_mul]
  rw [Nat.gcd_mul_left, Nat.gcd_mul_left]
  have : (k.natAbs : Int) = k := by omega
  rw [Int.natCast_mul, this]
theorem red_smul {k : Int} (hk : 0 < k) {p : P3} (h : g3 p = 1) : red (smul k p) = p := by
  have e : g3 (smul k p) = k := by rw [g3_smul hk, h, Int.mul_one]
  have ne : k ≠ 0 := by omega
  unfold red
  rw [e]
  exact ext3 (Int.mul_ediv_cancel_left _ ne) (Int.mul_ediv_cancel_left _ ne) (Int.mul_ediv_cancel_left _ ne)
theorem g3_pos {p : P3} (h : p.2.2 ≠ 0) : 0 < g3 p := by
  rw [g3_nat]
  have : 0 < Nat.gcd (Nat.gcd p.1.natAbs p.2.1.natAbs) p.2.2.natAbs := Nat.gcd_pos_of_pos_right _ (by omega)
  omega
theorem g3_dvd (p : P3) : g3 p ∣ p.1 ∧ g3 p ∣ p.2.1 ∧ g3 p ∣ p.2.2 := by
  rw [g3_nat]
  refine ⟨?_, ?_, ?_⟩
  · exact Int.natAbs_dvd_natAbs.mp (show Nat.gcd (Nat.gcd p.1.natAbs p.2.1.natAbs) p.2.2.natAbs ∣ p.1.natAbs from Nat.dvd_trans (Nat.gcd_dvd_left _ _) (Nat.gcd_dvd_left _ _))
  · exact Int.natAbs_dvd_natAbs.mp (show Nat.gcd (Nat.gcd p.1.natAbs p.2.1.natAbs) p.2.2.natAbs ∣ p.2.1.natAbs from Nat.dvd_trans (Nat.gcd_dvd_left _ _) (Nat.gcd_dvd_right _ _))
  · exact Int.natAbs_dvd_natAbs.mp (show Nat.gcd (Nat.gcd p.1.natAbs p.2.1.natAbs) p.2.2.natAbs ∣ p.2.2.natAbs from Nat.gcd_dvd_right _ _)
theorem red_mul {p : P3} : smul (g3 p) (red p) = p := by
  obtain ⟨h1, h2, h3⟩ := g3_dvd p
  exact ext3 (Int.mul_ediv_cancel' h1) (Int.mul_ediv_cancel' h2) (Int.mul_ediv_cancel' h3)
theorem red_pt {p : P3} (h : 0 < p.2.2) : isPt (red p) := by
  have hg : 0 < g3 p := g3_pos (by omega)
  have e := red_mul (p := p)
  have e2 : g3 (smul (g3 p) (red p)) = g3 p := by rw [e]
  rw [g3_smul hg] at e2
  have e3 : g3 (red p) = 1 := by
    have : g3 p * g3 (red p) = g3 p * 1 := by omega
    exact Int.eq_of_mul_eq_mul_left (by omega) this
  refine ⟨?_, e3⟩
  have e4 : g3 p * (red p).2.2 = p.2.2 := congrArg (fun q : P3 => q.2.2) e
  exact pos_of_mul_pos hg (by omega)
/-- two points on one ray are one -/
theorem pt_inj {p q : P3} (hp : isPt p) (hq : isPt q) {a b : Int} (ha : 0 < a) (hb : 0 < b) (h : smul a p = smul b q) : p = q := by
  have e1 : g3 (smul a p) = g3 (smul b q) := by rw [h]
  rw [g3_smul ha, g3_smul hb, hp.2, hq.2] at e1
  have e2 : a = b := by omega
  subst e2
  have h1 : a * p.1 = a * q.1 := congrArg (fun z : P3 => z.1) h
  have h2 : a * p.2.1 = a * q.2.1 := congrArg (fun z : P3 => z.2.1) h
  have h3 : a * p.2.2 = a * q.2.2 := congrArg (fun z : P3 => z.2.2) h
  have ne : a ≠ 0 := by omega
  exact ext3 (Int.eq_of_mul_eq_mul_left ne h1) (Int.eq_of_mul_eq_mul_left ne h2) (Int.eq_of_mul_eq_mul_left ne h3)

/-! ### forms -/
def frm (F p : P3) : Int := F.1 * p.1 + F.2.1 * p.2.1 + F.2.2 * p.2.2
def det3 (p q r : P3) : Int := p.1 * (q.2.1 * r.2.2 - q.2.2 * r.2.1) + p.2.1 * (q.2.2 * r.1 - q.1 * r.2.2) + p.2.2 * (q.1 * r.2.1 - q.2.1 * r.1)
/-- the form that is det3 p q _ -/
def side3 (p q : P3) : P3 := (p.2.1 * q.2.2 - p.2.2 * q.2.1, p.2.2 * q.1 - p.1 * q.2.2, p.1 * q.2.1 - p.2.1 * q.1)
theorem side_det (p q r : P3) : frm (side3 p q) r = det3 p q r := by unfold frm side3 det3; grind
theorem frm_smul (F : P3) (k : Int) (p : P3) : frm F (smul k p) = k * frm F p := by unfold frm smul; grind
theorem frm_red {F p : P3} (h : 0 < p.2.2) : g3 p * frm F (red p) = frm F p := by rw [← frm_smul, red_mul]
theorem frm_red_pos {F p : P3} (h : 0 < p.2.2) : 0 < frm F (red p) ↔ 0 < frm F p := by
  have hg : 0 < g3 p := g3_pos (by omega)
  have e := frm_red (F := F) h
  constructor
  · intro q
    have := Int.mul_pos hg q
    omega
  · intro q
    exact pos_of_mul_pos hg (by omega)
theorem frm_red_nn {F p : P3} (h : 0 < p.2.2) : 0 ≤ frm F (red p) ↔ 0 ≤ frm F p := by
  have hg : 0 < g3 p := g3_pos (by omega)
  have e := frm_red (F := F) h
  constructor
  · intro q
    have := mul_nn (Int.le_of_lt hg) q
    omega
  · intro q
    exact nonneg_of_mul_nonneg hg (by omega)
theorem frm_red_zero {F p : P3} (h : 0 < p.2.2) (e0 : frm F p = 0) : frm F (red p) = 0 := by
  have hg : 0 < g3 p := g3_pos (by omega)
  have e := frm_red (F := F) h
  rw [e0] at e
  rcases Int.mul_eq_zero.mp e with q | q
  · omega
  · exact q

/-! ### sorted, each once -/
def ins (x : P2) : List P2 → List P2
  | [] => [x]
  | y :: r => if lt2 x y then x :: y :: r else if x = y then y :: r else y :: ins x r
def sortD (l : List P2) : List P2 := l.foldr ins []
theorem mem_ins {x z : P2} : ∀ (l : List P2), z ∈ ins x l ↔ z = x ∨ z ∈ l
  | [] => by simp [ins]
  | y :: r => by
    unfold ins
    split
    · simp
    · split
      · rename_i h
        subst h
        simp
      · rw [List.mem_cons, mem_ins r, List.mem_cons]
        grind
theorem ins_asc {x : P2} : ∀ (l : List P2), l.Pairwise lt2 → (ins x l).Pairwise lt2
  | [], _ => List.pairwise_singleton _ _
  | y :: r, h => by
    obtain ⟨h1, h2⟩ := List.pairwise_cons.mp h
    unfold ins
    split
    · rename_i c
      refine List.pairwise_cons.mpr ⟨fun z hz => ?_, h⟩
      rcases List.mem_cons.mp hz with e | hz
      · subst e; exact c
      · exact c.trans (h1 z hz)
    · split
      · exact h
      · rename_i c1 c2
        refine List.pairwise_cons.mpr ⟨fun z hz => ?_, ins_asc r h2⟩
        rcases (mem_ins r).mp hz with e | hz
        · subst e
          rcases tri2 y z with q | q | q
          · exact q
          · exact absurd q.symm c2
          · exact absurd q c1
        · exact h1 z hz
theorem sortD_asc (l : List P2) : (sortD l).Pairwise lt2 := by
  induction l with
  | nil => exact List.Pairwise.nil
  | cons x l ih => exact ins_asc _ ih
theorem mem_sortD {z : P2} (l : List P2) : z ∈ sortD l ↔ z ∈ l := by
  induction l with
  | nil => exact Iff.rfl
  | cons x l ih =>
    show z ∈ ins x (sortD l) ↔ _
    rw [mem_ins, ih, List.mem_cons]
theorem sortD_ne {l : List P2} (h : l ≠ []) : sortD l ≠ [] := by
  cases l with
  | nil => exact absurd rfl h
  | cons x l =>
    intro e
    have := (mem_sortD (x :: l)).mpr (List.mem_cons_self (a := x))
    rw [e] at this
    cases this
theorem sortD_uniq {l R : List P2} (h : R.Pairwise lt2) (hm : ∀ z, z ∈ R ↔ z ∈ l) : R = sortD l := asc_ext h (sortD_asc l) fun z => by rw [hm, mem_sortD]

/-! ### the hull of points -/
def und (pts : List P3) : Int := pts.foldl (fun u p => ((Nat.lcm u.natAbs p.2.2.natAbs : Nat) : Int)) 1
def sc (u : Int) (p : P3) : P2 := (p.1 * (u / p.2.2), p.2.1 * (u / p.2.2))
def hull3 (pts : List P3) : List P3 := (hullZ (sortD (pts.map (sc (und pts))))).map fun a => red (a.1, a.2, und pts)
theorem und_fold : ∀ (pts : List P3) (u : Int), 0 < u → (∀ p ∈ pts, 0 < p.2.2) → 0 < pts.foldl (fun u p => ((Nat.lcm u.natAbs p.2.2.natAbs : Nat) : Int)) u ∧ u ∣ pts.foldl (fun u p => ((Nat.lcm u.natAbs p.2.2.natAbs : Nat) : Int)) u ∧
    ∀ p ∈ pts, p.2.2 ∣ pts.foldl (fun u p => ((Nat.lcm u.natAbs p.2.2.natAbs : Nat) : Int)) u
  | [], u, hu, _ => ⟨hu, Int.dvd_refl _, fun p h => by cases h⟩
  | q :: pts, u, hu, hp => by
    have hq := hp q List.mem_cons_self
    have hl : 0 < Nat.lcm u.natAbs q.2.2.natAbs := Nat.lcm_pos (by omega) (by omega)
    obtain ⟨h1, h2, h3⟩ := und_fold pts ((Nat.lcm u.natAbs q.2.2.natAbs : Nat) : Int) (by omega) fun p h => hp p (List.mem_cons_of_mem _ h)
    have d1 : u ∣ ((Nat.lcm u.natAbs q.2.2.natAbs : Nat) : Int) := Int.natAbs_dvd_natAbs.mp (show u.natAbs ∣ Nat.lcm u.natAbs q.2.2.natAbs from Nat.dvd_lcm_left _ _)
    have d2 : q.2.2 ∣ ((Nat.lcm u.natAbs q.2.2.natAbs : Nat) : Int) := Int.natAbs_dvd_natAbs.mp (show q.2.2.natAbs ∣ Nat.lcm u.natAbs q.2.2.natAbs from Nat.dvd_lcm_right _ _)
    refine ⟨h1, Int.dvd_trans d1 h2, fun p h => ?_⟩
    rcases List.mem_cons.mp h with e | h
    · subst e; exact Int.dvd_trans d2 h2
    · exact h3 p h
theorem und_ok {pts : List P3} (hp : ∀ p ∈ pts, 0 < p.2.2) : 0 < und pts ∧ ∀ p ∈ pts, p.2.2 ∣ und pts :=
  let ⟨h1, _, h3⟩ := und_fold pts 1 (by omega) hp
  ⟨h1, h3⟩
/-- the factor of a point -/
theorem sc_fact {u : Int} {p : P3} (hu : 0 < u) (hp : 0 < p.2.2) (hd : p.2.2 ∣ u) : 0 < u / p.2.2 ∧ p.2.2 * (u / p.2.2) = u := by
  have e := Int.mul_ediv_cancel' hd
  exact ⟨pos_of_mul_pos hp (by omega), e⟩
theorem red_sc {u : Int} {p : P3} (hu : 0 < u) (hp : isPt p) (hd : p.2.2 ∣ u) : red ((sc u p).1, (sc u p).2, u) = p := by
  obtain ⟨h1, h2⟩ := sc_fact hu hp.1 hd
  have e : (((sc u p).1, (sc u p).2, u) : P3) = smul (u / p.2.2) p := ext3 (Int.mul_comm _ _) (Int.mul_comm _ _) (by show u = u / p.2.2 * p.2.2; rw [Int.mul_comm]; exact h2.symm)
  rw [e, red_smul h1 hp.2]
theorem frm_sc {u : Int} {p F : P3} (hu : 0 < u) (hp : 0 < p.2.2) (hd : p.2.2 ∣ u) : F.1 * (sc u p).1 + F.2.1 * (sc u p).2 + F.2.2 * u = (u / p.2.2) * frm F p := by
  obtain ⟨h1, h2⟩ := sc_fact hu hp hd
  unfold sc frm
  simp only
  generalize u / p.2.2 = k at *
  rw [← h2]
  grind
theorem det_sc {u : Int} {p q r : P3} {a b c : Int} (h1 : p.2.2 * a = u) (h2 : q.2.2 * b = u) (h3 : r.2.2 * c = u) :
    det3 p q r * (a * b * c) = u * orient (p.1 * a, p.2.1 * a) (q.1 * b, q.2.1 * b) (r.1 * c, r.2.1 * c) := by
  have e : det3 p q r * (a * b * c) = (p.1 * a) * ((q.2.1 * b) * (r.2.2 * c) - (q.2.2 * b) * (r.2.1 * c)) + (p.2.1 * a) * ((q.2.2 * b) * (r.1 * c) - (q.1 * b) * (r.2.2 * c)) + (p.2.2 * a) * ((q.1 * b) * (r.2.1 * c) - (q.2.1 * b) * (r.1 * c)) := by
    unfold det3; grind
  rw [e, h1, h2, h3]
  unfold orient
  grind
theorem cyc_map {α β : Type} (f : α → β) (l : List α) : cyc (l.map f) = (cyc l).map fun p => (f p.1, f p.2) := by
  unfold cyc
  rw [← List.map_take, ← List.map_append, prs_map]
section
variable {pts : List P3} (hp : ∀ p ∈ pts, isPt p)
include hp
theorem h3_w : ∀ p ∈ pts, 0 < p.2.2 := fun p h => (hp p h).1
theorem h3_row {a : P2} (ha : a ∈ sortD (pts.map (sc (und pts)))) : ∃ p ∈ pts, a = sc (und pts) p ∧ red (a.1, a.2, und pts) = p := by
  obtain ⟨p, h, e⟩ := List.mem_map.mp ((mem_sortD _).mp ha)
  obtain ⟨hu, hd⟩ := und_ok (h3_w hp)
  refine ⟨p, h, e.symm, ?_⟩
  rw [← e]
  exact red_sc hu (hp p h) (hd p h)
theorem hull3_mem (hne : pts ≠ []) {h : P3} (hh : h ∈ hull3 pts) : h ∈ pts := by
  obtain ⟨a, ha, e⟩ := List.mem_map.mp hh
  obtain ⟨p, h1, h2, h3⟩ := h3_row hp (hull_mem (sortD_asc _) (sortD_ne (by simpa using hne)) ha)
  rw [← e, h3]
  exact h1
theorem hull3_ne (hne : pts ≠ []) : hull3 pts ≠ [] := by
  unfold hull3
  intro e
  exact hull_ne (sortD_asc _) (sortD_ne (by simpa using hne)) (List.map_eq_nil_iff.mp e)
theorem hull3_pairs (hne : pts ≠ []) {P Q : P3} (h : (P, Q) ∈ cyc (hull3 pts)) : ∀ r ∈ pts, 0 ≤ det3 P Q r := by
  intro r hr
  unfold hull3 at h
  rw [cyc_map] at h
  obtain ⟨⟨a, b⟩, hab, e⟩ := List.mem_map.mp h
  have e1 : red (a.1, a.2, und pts) = P := congrArg Prod.fst e
  have e2 : red (b.1, b.2, und pts) = Q := congrArg Prod.snd e
  have hm := prs_mem hab
  have mm : ∀ x, x ∈ hullZ (sortD (pts.map (sc (und pts)))) ++ (hullZ (sortD (pts.map (sc (und pts))))).take 1 → x ∈ sortD (pts.map (sc (und pts))) := fun x hx => by
    refine hull_mem (sortD_asc _) (sortD_ne (by simpa using hne)) ?_
    rcases List.mem_append.mp hx with z | z
    · exact z
    · exact List.mem_of_mem_take z
  obtain ⟨p, p1, p2, p3⟩ := h3_row hp (mm a hm.1)
  obtain ⟨q, q1, q2, q3⟩ := h3_row hp (mm b hm.2)
  rw [p3] at e1
  rw [q3] at e2
  subst e1 e2
  have o := hull_pairs (sortD_asc _) (sortD_ne (by simpa using hne)) hab (sc (und pts) r) ((mem_sortD _).mpr (List.mem_map.mpr ⟨r, hr, rfl⟩))
  rw [p2, q2] at o
  obtain ⟨hu, hd⟩ := und_ok (h3_w hp)
  obtain ⟨a1, a2⟩ := sc_fact hu (hp p p1).1 (hd p p1)
  obtain ⟨b1, b2⟩ := sc_fact hu (hp q q1).1 (hd q q1)
  obtain ⟨c1, c2⟩ := sc_fact hu (hp r hr).1 (hd r hr)
  have e3 := det_sc a2 b2 c2
  have o2 : 0 ≤ und pts * orient (sc (und pts) p) (sc (und pts) q) (sc (und pts) r) := mul_nn (Int.le_of_lt hu) o
  have e4 : und pts * orient (sc (und pts) p) (sc (und pts) q) (sc (und pts) r) = det3 p q r * ((und pts / p.2.2) * (und pts / q.2.2) * (und pts / r.2.2)) := e3.symm
  rw [e4, Int.mul_comm] at o2
  exact nonneg_of_mul_nonneg (Int.mul_pos (Int.mul_pos a1 b1) c1) o2
theorem hull3_form (hne : pts ≠ []) {F : P3} (hf : ∀ h ∈ hull3 pts, 0 < frm F h) : ∀ p ∈ pts, 0 < frm F p := by
  obtain ⟨hu, hd⟩ := und_ok (h3_w hp)
  intro p h
  obtain ⟨a1, a2⟩ := sc_fact hu (hp p h).1 (hd p h)
  have z := hull_form (R := sortD (pts.map (sc (und pts)))) (sortD_asc _) (sortD_ne (by simpa using hne)) (A := F.1) (B := F.2.1) (C := F.2.2 * und pts) (fun x hx => by
    obtain ⟨q, q1, q2, q3⟩ := h3_row hp (hull_mem (sortD_asc _) (sortD_ne (by simpa using hne)) hx)
    have w := hf q (by unfold hull3; exact List.mem_map.mpr ⟨x, hx, q3⟩)
    rw [q2, frm_sc hu (hp q q1).1 (hd q q1)]
    exact Int.mul_pos (sc_fact hu (hp q q1).1 (hd q q1)).1 w) (sc (und pts) p) ((mem_sortD _).mpr (List.mem_map.mpr ⟨p, h, rfl⟩))
  rw [frm_sc hu (hp p h).1 (hd p h)] at z
  exact pos_of_mul_pos a1 z
/-- no more corners than different points -/
theorem hull3_len (hne : pts ≠ []) {D : List P3} (hD : ∀ p ∈ pts, p ∈ D) : (hull3 pts).length ≤ D.length ∧ (sortD (pts.map (sc (und pts)))).length ≤ D.length := by
  have h1 := hull_len (R := sortD (pts.map (sc (und pts)))) (sortD_asc _) (sortD_ne (by simpa using hne))
  have h2 := nodup_len (sortD (pts.map (sc (und pts)))) (D.map (sc (und pts))) (asc_nodup (sortD_asc _)) fun x hx => by
    obtain ⟨q, q1, q2, q3⟩ := h3_row hp hx
    rw [q2]
    exact List.mem_map.mpr ⟨q, hD q q1, rfl⟩
  rw [List.length_map] at h2
  unfold hull3
  rw [List.length_map]
  omega
end
end Sh
end
section
set_option linter.all false
/-! Cuts by lines through nought: what is left, and weights. -/
namespace Sh
def lf (n : P2) (p : P3) : Int := n.1 * p.1 + n.2 * p.2.1
def Pos (m : P2) (L : List P3) : Prop := ∀ p ∈ L, 0 < lf m p
theorem lf_frm (n : P2) (p : P3) : frm (n.1, n.2, 0) p = lf n p := by unfold frm lf; simp
/-- u, v of a crossing of a chord: what m tells there -/
structure CutOK (f : P2) (L L' : List P3) : Prop where
  snd : ∀ p ∈ L', lf f p ≤ 0
  cone : ∀ m, Pos m L → Pos m L'
  sub : ∀ g : P2, (∀ p ∈ L, lf g p ≤ 0) → ∀ p ∈ L', lf g p ≤ 0
  keep : ∀ m, Pos m L' → ∀ p ∈ L, lf f p ≤ 0 → 0 < lf m p
  cross : (∃ p ∈ L, 0 < lf f p) → (∃ p ∈ L, lf f p ≤ 0) → ∃ X : P3, lf f X = 0 ∧ (∀ m, Pos m L → 0 < lf m X) ∧ (∀ m, Pos m L' → 0 < lf m X)
theorem bnd : ∀ l : List (Int × Int), ∃ N : Int, 0 < N ∧ ∀ q ∈ l, -N < q.1 ∧ q.1 < N ∧ -N < q.2 ∧ q.2 < N
  | [] => ⟨1, by omega, fun q h => by cases h⟩
  | a :: l => by
    obtain ⟨N, h1, h2⟩ := bnd l
    refine ⟨N + a.1.natAbs + a.2.natAbs + 1, by omega, fun q h => ?_⟩
    rcases List.mem_cons.mp h with e | h
    · subst e; omega
    · have := h2 q h
      omega
/-- one number of steps along f for all -/
theorem interval : ∀ l : List (Int × Int), (∀ q ∈ l, q.2 ≤ 0 → 0 < q.1) → (∀ q ∈ l, ∀ r ∈ l, 0 < q.2 → r.2 < 0 → 0 < q.1 * (-r.2) + r.1 * q.2) → ∃ s t : Int, 0 < s ∧ 0 ≤ t ∧ ∀ q ∈ l, 0 < s * q.1 + t * q.2
  | [], _, _ => ⟨1, 0, by omega, by omega, fun q h => by cases h⟩
  | (u, v) :: l, h1, h2 => by
    obtain ⟨s, t, hs, ht, hl⟩ := interval l (fun q h => h1 q (List.mem_cons_of_mem _ h)) fun q h r h' => h2 q (List.mem_cons_of_mem _ h) r (List.mem_cons_of_mem _ h')
    by_cases c : 0 < s * u + t * v
    · refine ⟨s, t, hs, ht, fun q h => ?_⟩
      rcases List.mem_cons.mp h with e | h
      · subst e; exact c
      · exact hl q h
    · obtain ⟨N, hN, hb⟩ := bnd l
      rcases Int.lt_or_le 0 v with hv | hv
      · have htv := mul_nn ht (Int.le_of_lt hv)
        have hu : u ≤ 0 := by
          rcases Int.lt_or_le 0 u with z | z
          · have := Int.mul_pos hs z
            omega
          · exact z
        have hnu := mul_nn (Int.le_of_lt hN) (show 0 ≤ -u by omega)
        refine ⟨N * v, N * (-u) + 1, Int.mul_pos hN hv, by omega, fun q h => ?_⟩
        rcases List.mem_cons.mp h with e | h
        · subst e
          have e : N * v * u + (N * (-u) + 1) * v = v := by grind
          show 0 < N * v * u + (N * (-u) + 1) * v
          omega
        · have e : N * v * q.1 + (N * (-u) + 1) * q.2 = N * (v * q.1 - u * q.2) + q.2 := by grind
          have hE : 0 < v * q.1 - u * q.2 := by
            rcases Int.lt_or_le q.2 0 with z | z
            · have w := h2 (u, v) List.mem_cons_self q (List.mem_cons_of_mem _ h) hv z
              have e3 : u * (-q.2) + q.1 * v = v * q.1 - u * q.2 := by grind
              simp only at w
              omega
            · have e3 : s * (v * q.1 - u * q.2) = v * (s * q.1 + t * q.2) + q.2 * (-(s * u + t * v)) := by grind
              have a1 := Int.mul_pos hv (hl q h)
              have a2 := mul_nn z (show 0 ≤ -(s * u + t * v) by omega)
              exact pos_of_mul_pos hs (by omega)
          have hb' := hb q h
          have hNE : N * 1 ≤ N * (v * q.1 - u * q.2) := Int.mul_le_mul_of_nonneg_left (by omega) (by omega)
          rw [e]
          omega
      · have hu : 0 < u := h1 (u, v) List.mem_cons_self hv
        have hsu := Int.mul_pos hs hu
        have hv' : v < 0 := by
          rcases Int.lt_or_le v 0 with z | z
          · exact z
          · have e : v = 0 := by omega
            subst e
            rw [Int.mul_zero] at c
            omega
        refine ⟨N * (-v) + 1, N * u, by have := mul_nn (Int.le_of_lt hN) (show 0 ≤ -v by omega); omega, mul_nn (Int.le_of_lt hN) (Int.le_of_lt hu), fun q h => ?_⟩
        rcases List.mem_cons.mp h with e | h
        · subst e
          have e : (N * (-v) + 1) * u + N * u * v = u := by grind
          show 0 < (N * (-v) + 1) * u + N * u * v
          omega
        · have e : (N * (-v) + 1) * q.1 + N * u * q.2 = N * (u * q.2 - v * q.1) + q.1 := by grind
          have hE : 0 < u * q.2 - v * q.1 := by
            rcases Int.lt_or_le 0 q.2 with z | z
            · have w := h2 q (List.mem_cons_of_mem _ h) (u, v) List.mem_cons_self z hv'
              have e3 : q.1 * (-v) + u * q.2 = u * q.2 - v * q.1 := by grind
              simp only at w
              omega
            · have e3 : s * (u * q.2 - v * q.1) = (-v) * (s * q.1 + t * q.2) + (-q.2) * (-(s * u + t * v)) := by grind
              have a1 := Int.mul_pos (show 0 < -v by omega) (hl q h)
              have a2 := mul_nn (show 0 ≤ -q.2 by omega) (show 0 ≤ -(s * u + t * v) by omega)
              exact pos_of_mul_pos hs (by omega)
          have hb' := hb q h
          have hNE : N * 1 ≤ N * (u * q.2 - v * q.1) := Int.mul_le_mul_of_nonneg_left (by omega) (by omega)
          rw [e]
          omega
def lin (s : Int) (m : P2) (t : Int) (f : P2) : P2 := (s * m.1 + t * f.1, s * m.2 + t * f.2)
theorem lf_lin (s t : Int) (m f : P2) (p : P3) : lf (lin s m t f) p = s * lf m p + t * lf f p := by unfold lf lin; grind
/-- a form above 0 behind a cut, and the cut's own, make one above 0 ahead of it -/
theorem cut_back {f m m0 : P2} {L L' : List P3} (c : CutOK f L L') (h0 : Pos m0 L) (h : Pos m L') : ∃ s t : Int, 0 < s ∧ 0 ≤ t ∧ Pos (lin s m t f) L := by
  obtain ⟨s, t, hs, ht, hl⟩ := interval (L.map fun p => (lf m p, lf f p)) (fun q hq hle => by
    obtain ⟨p, hp, e⟩ := List.mem_map.mp hq
    subst e
    exact c.keep m h p hp hle) (fun q hq r hr h1 h2 => by
    obtain ⟨p, hp, e⟩ := List.mem_map.mp hq
    obtain ⟨d, hd, e'⟩ := List.mem_map.mp hr
    subst e e'
    simp only at *
    obtain ⟨X, x1, x2, x3⟩ := c.cross ⟨p, hp, h1⟩ ⟨d, hd, by omega⟩
    have y1 := x2 m0 h0
    have y2 := x3 m h
    have y3 := h0 p hp
    have y4 := h0 d hd
    -- the crossing of the chord lies on the ray of X
    have y5 : 0 < lf m0 p * (-lf f d) + lf m0 d * lf f p := by
      have a1 := Int.mul_pos y3 (show 0 < -lf f d by omega)
      have a2 := Int.mul_pos y4 h1
      omega
    have e : (lf m p * (-lf f d) + lf m d * lf f p) * lf m0 X = lf m X * (lf m0 p * (-lf f d) + lf m0 d * lf f p) := by
      have k : (lf m p * lf m0 X - lf m X * lf m0 p) * lf f d = (lf m d * lf m0 X - lf m X * lf m0 d) * lf f p + (lf m p * lf m0 d - lf m d * lf m0 p) * lf f X := by unfold lf; grind
      rw [x1] at k
      grind
    have a3 := Int.mul_pos y2 y5
    rw [← e, Int.mul_comm] at a3
    exact pos_of_mul_pos y1 a3)
  refine ⟨s, t, hs, ht, fun p hp => ?_⟩
  rw [lf_lin]
  exact hl _ (List.mem_map.mpr ⟨p, hp, rfl⟩)

/-! ### a run of cuts -/
inductive InCone : List P2 → P2 → Prop where
  | nil : InCone [] (0, 0)
  | cons {n : P2} {ns : List P2} {m : P2} (w : Int) (hw : 0 ≤ w) (h : InCone ns m) : InCone (n :: ns) (lin 1 m w n)
theorem InCone.scale {ns : List P2} {m : P2} (h : InCone ns m) {s : Int} (hs : 0 ≤ s) : InCone ns (s * m.1, s * m.2) := by
  induction h with
  | nil => simp only [Int.mul_zero]; exact .nil
  | @cons n ns m w hw h ih =>
    have e : ((s * (lin 1 m w n).1, s * (lin 1 m w n).2) : P2) = lin 1 (s * m.1, s * m.2) (s * w) n := by unfold lin; refine Prod.ext ?_ ?_ <;> simp only <;> grind
    rw [e]
    exact .cons _ (mul_nn hs hw) ih
inductive Run : List P2 → List P3 → List P3 → Prop where
  | nil {L : List P3} : Run [] L L
  | cons {f : P2} {fs : List P2} {L L' Lf : List P3} (c : CutOK f L L') (r : Run fs L' Lf) : Run (f :: fs) L Lf
theorem run_back {fs : List P2} {L Lf : List P3} (r : Run fs L Lf) {m0 : P2} : Pos m0 L → Lf = [] → ∃ m, InCone fs m ∧ Pos m L := by
  induction r with
  | nil =>
    intro _ e
    subst e
    exact ⟨(0, 0), .nil, fun p h => by cases h⟩
  | @cons f fs L L' Lf c r ih =>
    intro h0 e
    obtain ⟨m, k, hm⟩ := ih (c.cone m0 h0) e
    obtain ⟨s, t, hs, ht, hp⟩ := cut_back c h0 hm
    have q := InCone.cons (n := f) t ht (k.scale (Int.le_of_lt hs))
    refine ⟨_, q, fun p hpL => ?_⟩
    have z := hp p hpL
    have e2 : lin 1 (s * m.1, s * m.2) t f = lin s m t f := by unfold lin; simp
    rw [e2]
    exact z
theorem run_le {fs : List P2} {L Lf : List P3} (r : Run fs L Lf) : (∀ g : P2, (∀ p ∈ L, lf g p ≤ 0) → ∀ p ∈ Lf, lf g p ≤ 0) ∧ (∀ g ∈ fs, ∀ p ∈ Lf, lf g p ≤ 0) ∧ ∀ m, Pos m L → Pos m Lf := by
  induction r with
  | nil => exact ⟨fun g h => h, fun g h => (by cases h), fun m h => h⟩
  | @cons f fs L L' Lf c r ih =>
    obtain ⟨i1, i2, i3⟩ := ih
    refine ⟨fun g h => i1 g (c.sub g h), fun g h => ?_, fun m h => i3 m (c.cone m h)⟩
    rcases List.mem_cons.mp h with e | h
    · subst e; exact i1 g c.snd
    · exact i2 g h
theorem cone_le {fs : List P2} {m : P2} (h : InCone fs m) {p : P3} (hp : ∀ g ∈ fs, lf g p ≤ 0) : lf m p ≤ 0 := by
  induction h with
  | nil => unfold lf; simp
  | @cons n ns m w hw h ih =>
    rw [lf_lin]
    have a1 := ih fun g hg => hp g (List.mem_cons_of_mem _ hg)
    have a2 := mul_nn hw (show 0 ≤ - lf n p by have := hp n List.mem_cons_self; omega)
    have e : w * -lf n p = -(w * lf n p) := Int.mul_neg _ _
    omega
/-- what is left at the end is not barred -/
theorem run_sound {fs : List P2} {L Lf : List P3} (r : Run fs L Lf) {m : P2} (k : InCone fs m) (hm : Pos m L) : Lf = [] := by
  cases Lf with
  | nil => rfl
  | cons p Lf =>
    obtain ⟨_, h2, h3⟩ := run_le r
    have a1 := h3 m hm p List.mem_cons_self
    have a2 := cone_le k fun g hg => h2 g hg p List.mem_cons_self
    omega
end Sh
end
section
set_option linter.all false
/-! The two cuts: the program's and the law's. -/
namespace Sh
def cmb (a : Int) (p : P3) (b : Int) (q : P3) : P3 := (a * p.1 + b * q.1, a * p.2.1 + b * q.2.1, a * p.2.2 + b * q.2.2)
theorem frm_cmb (F : P3) (a b : Int) (p q : P3) : frm F (cmb a p b q) = a * frm F p + b * frm F q := by unfold frm cmb; grind
theorem lf_cmb (m : P2) (a b : Int) (p q : P3) : lf m (cmb a p b q) = a * lf m p + b * lf m q := by unfold lf cmb; grind
def opp (f : P2) (p q : P3) : Prop := (lf f p < 0 ∧ 0 < lf f q) ∨ (0 < lf f p ∧ lf f q < 0)
instance (f : P2) (p q : P3) : Decidable (opp f p q) := by unfold opp; exact inferInstance
/-- the crossing of the way from p to q, not reduced -/
def pc (f : P2) (p q : P3) : P3 := cmb ((lf f q).natAbs : Int) p ((lf f p).natAbs : Int) q
def crossPt (f : P2) (p q : P3) : P3 := red (pc f p q)
theorem pc_w {f : P2} {p q : P3} (hp : 0 < p.2.2) (hq : 0 < q.2.2) (h : opp f p q) : 0 < (pc f p q).2.2 := by
  show 0 < ((lf f q).natAbs : Int) * p.2.2 + ((lf f p).natAbs : Int) * q.2.2
  have h1 : (0 : Int) < ((lf f q).natAbs : Int) := by unfold opp at h; omega
  have h2 : (0 : Int) < ((lf f p).natAbs : Int) := by unfold opp at h; omega
  have a1 := Int.mul_pos h1 hp
  have a2 := Int.mul_pos h2 hq
  omega
theorem pc_zero {f : P2} {p q : P3} (h : opp f p q) : lf f (pc f p q) = 0 := by
  unfold pc
  rw [lf_cmb]
  rcases h with ⟨h1, h2⟩ | ⟨h1, h2⟩
  · have e1 : ((lf f q).natAbs : Int) = lf f q := by omega
    have e2 : ((lf f p).natAbs : Int) = - lf f p := by omega
    rw [e1, e2]; grind
  · have e1 : ((lf f q).natAbs : Int) = - lf f q := by omega
    have e2 : ((lf f p).natAbs : Int) = lf f p := by omega
    rw [e1, e2]; grind
section
variable {f : P2} {p q : P3} (hp : 0 < p.2.2) (hq : 0 < q.2.2) (h : opp f p q)
include hp hq h
theorem cp_pt : isPt (crossPt f p q) := red_pt (pc_w hp hq h)
theorem cp_zero : lf f (crossPt f p q) = 0 := by
  have := frm_red_zero (F := (f.1, f.2, 0)) (pc_w hp hq h) (by rw [lf_frm]; exact pc_zero h)
  rw [lf_frm] at this
  exact this
theorem cp_pos_iff (F : P3) : 0 < frm F (crossPt f p q) ↔ 0 < ((lf f q).natAbs : Int) * frm F p + ((lf f p).natAbs : Int) * frm F q := by
  unfold crossPt
  rw [frm_red_pos (pc_w hp hq h)]
  unfold pc
  rw [frm_cmb]
theorem cp_nn_iff (F : P3) : 0 ≤ frm F (crossPt f p q) ↔ 0 ≤ ((lf f q).natAbs : Int) * frm F p + ((lf f p).natAbs : Int) * frm F q := by
  unfold crossPt
  rw [frm_red_nn (pc_w hp hq h)]
  unfold pc
  rw [frm_cmb]
theorem cp_pos (F : P3) (h1 : 0 < frm F p) (h2 : 0 < frm F q) : 0 < frm F (crossPt f p q) := by
  rw [cp_pos_iff hp hq h]
  have a1 := Int.mul_pos (show (0 : Int) < ((lf f q).natAbs : Int) by unfold opp at h; omega) h1
  have a2 := Int.mul_pos (show (0 : Int) < ((lf f p).natAbs : Int) by unfold opp at h; omega) h2
  omega
theorem cp_nn (F : P3) (h1 : 0 ≤ frm F p) (h2 : 0 ≤ frm F q) : 0 ≤ frm F (crossPt f p q) := by
  rw [cp_nn_iff hp hq h]
  have a1 := mul_nn (Int.natCast_nonneg (lf f q).natAbs) h1
  have a2 := mul_nn (Int.natCast_nonneg (lf f p).natAbs) h2
  omega
theorem cp_le (g : P2) (h1 : lf g p ≤ 0) (h2 : lf g q ≤ 0) : lf g (crossPt f p q) ≤ 0 := by
  have := cp_nn hp hq h (-g.1, -g.2, 0) (by unfold frm; unfold lf at h1; simp only; grind) (by unfold frm; unfold lf at h2; simp only; grind)
  unfold frm at this
  unfold lf
  simp only at this
  grind
end
theorem lf_pos {F : P3} : ∀ {m : P2} {p : P3}, F = (m.1, m.2, 0) → (0 < frm F p ↔ 0 < lf m p) := fun {m p} e => by rw [e, lf_frm]

/-! ### there are ways out and in -/
theorem prs_ivt {α : Type} {P : α → Prop} : ∀ (l : List α) (a b : α), P a → b ∈ l → ¬ P b → ∃ p q, (p, q) ∈ prs (a :: l) ∧ P p ∧ ¬ P q
  | [], a, b, _, h, _ => by cases h
  | c :: l, a, b, ha, hb, hn => by
    rcases Classical.em (P c) with hc | hc
    · rcases List.mem_cons.mp hb with e | hb
      · subst e; exact absurd hc hn
      · obtain ⟨p, q, h1, h2⟩ := prs_ivt l c b hc hb hn
        exact ⟨p, q, List.mem_cons_of_mem _ h1, h2⟩
    · exact ⟨a, c, List.mem_cons_self, ha, hc⟩
theorem prs_sub {α : Type} {x : α × α} (pre l : List α) (h : x ∈ prs l) : x ∈ prs (pre ++ l) := by
  obtain ⟨a, b⟩ := x
  obtain ⟨p1, p2, e⟩ := prs_split l h
  rw [e, ← List.append_assoc]
  exact mem_prs_app _ _
theorem cyc_ivt {α : Type} {P : α → Prop} {L : List α} (h1 : ∃ c ∈ L, P c) (h2 : ∃ d ∈ L, ¬ P d) : ∃ p q, (p, q) ∈ cyc L ∧ P p ∧ ¬ P q := by
  obtain ⟨c, hc, pc⟩ := h1
  obtain ⟨d, hd, nd⟩ := h2
  cases L with
  | nil => cases hc
  | cons a l =>
    show ∃ p q, (p, q) ∈ prs ((a :: l) ++ [a]) ∧ P p ∧ ¬ P q
    rcases Classical.em (P a) with ha | ha
    · have hd' : d ∈ l ++ [a] := by
        rcases List.mem_cons.mp hd with e | hd
        · subst e; exact absurd ha nd
        · exact List.mem_append_left _ hd
      exact prs_ivt (l ++ [a]) a d ha hd' nd
    · obtain ⟨pre, post, e⟩ := List.append_of_mem hc
      rw [e]
      obtain ⟨p, q, h1, h2⟩ := prs_ivt (post ++ [a]) c a pc (by simp) ha
      refine ⟨p, q, ?_, h2⟩
      have e2 : (pre ++ c :: post) ++ [a] = pre ++ (c :: (post ++ [a])) := by simp
      rw [e2]
      exact prs_sub _ _ h1
theorem cyc_mem {α : Type} {L : List α} {p q : α} (h : (p, q) ∈ cyc L) : p ∈ L ∧ q ∈ L := by
  have k : ∀ x, x ∈ L ++ L.take 1 → x ∈ L := fun x hx => (List.mem_append.mp hx).elim id List.mem_of_mem_take
  have := prs_mem h
  exact ⟨k _ this.1, k _ this.2⟩

/-! ### what a cut's points are -/
/-- S has those of L that f keeps, and crossings -/
structure Cutting (f : P2) (L S : List P3) : Prop where
  kept : ∀ p ∈ L, lf f p ≤ 0 → p ∈ S
  crs : ∀ p q, (p, q) ∈ cyc L → opp f p q → crossPt f p q ∈ S
  of : ∀ s ∈ S, (s ∈ L ∧ lf f s ≤ 0) ∨ ∃ p q, (p, q) ∈ cyc L ∧ opp f p q ∧ s = crossPt f p q
theorem Cutting.pts {f : P2} {L S : List P3} (c : Cutting f L S) (hL : ∀ p ∈ L, isPt p) : ∀ s ∈ S, isPt s := fun s hs => by
  rcases c.of s hs with ⟨h, _⟩ | ⟨p, q, h, o, e⟩
  · exact hL s h
  · obtain ⟨h1, h2⟩ := cyc_mem h
    rw [e]
    exact cp_pt (hL p h1).1 (hL q h2).1 o
theorem Cutting.le {f : P2} {L S : List P3} (c : Cutting f L S) (hL : ∀ p ∈ L, isPt p) : ∀ s ∈ S, lf f s ≤ 0 := fun s hs => by
  rcases c.of s hs with ⟨_, h⟩ | ⟨p, q, h, o, e⟩
  · exact h
  · obtain ⟨h1, h2⟩ := cyc_mem h
    rw [e, cp_zero (hL p h1).1 (hL q h2).1 o]
    exact Int.le_refl 0
theorem Cutting.nn {f : P2} {L S : List P3} (c : Cutting f L S) (hL : ∀ p ∈ L, isPt p) {F : P3} (hF : ∀ p ∈ L, 0 ≤ frm F p) : ∀ s ∈ S, 0 ≤ frm F s := fun s hs => by
  rcases c.of s hs with ⟨h, _⟩ | ⟨p, q, h, o, e⟩
  · exact hF s h
  · obtain ⟨h1, h2⟩ := cyc_mem h
    rw [e]
    exact cp_nn (hL p h1).1 (hL q h2).1 o F (hF p h1) (hF q h2)
theorem Cutting.ok {f : P2} {L S : List P3} (c : Cutting f L S) (hL : ∀ p ∈ L, isPt p) : CutOK f L S where
  snd := c.le hL
  cone := fun m hm s hs => by
    rcases c.of s hs with ⟨h, _⟩ | ⟨p, q, h, o, e⟩
    · exact hm s h
    · obtain ⟨h1, h2⟩ := cyc_mem h
      rw [e]
      have := cp_pos (hL p h1).1 (hL q h2).1 o (m.1, m.2, 0) (by rw [lf_frm]; exact hm p h1) (by rw [lf_frm]; exact hm q h2)
      rw [lf_frm] at this
      exact this
  sub := fun g hg s hs => by
    rcases c.of s hs with ⟨h, _⟩ | ⟨p, q, h, o, e⟩
    · exact hg s h
    · obtain ⟨h1, h2⟩ := cyc_mem h
      rw [e]
      exact cp_le (hL p h1).1 (hL q h2).1 o g (hg p h1) (hg q h2)
  keep := fun m hm p hp hle => hm p (c.kept p hp hle)
  cross := fun ho hi => by
    obtain ⟨p, q, h, h1, h2⟩ := cyc_ivt (P := fun x => 0 < lf f x) ho (by obtain ⟨d, hd, e⟩ := hi; exact ⟨d, hd, by omega⟩)
    obtain ⟨m1, m2⟩ := cyc_mem h
    by_cases hz : lf f q = 0
    · exact ⟨q, hz, fun m hm => hm q m2, fun m hm => hm q (c.kept q m2 (by omega))⟩
    · have o : opp f p q := .inr ⟨h1, by omega⟩
      refine ⟨crossPt f p q, cp_zero (hL p m1).1 (hL q m2).1 o, fun m hm => ?_, fun m hm => hm _ (c.crs p q h o)⟩
      have := cp_pos (hL p m1).1 (hL q m2).1 o (m.1, m.2, 0) (by rw [lf_frm]; exact hm p m1) (by rw [lf_frm]; exact hm q m2)
      rw [lf_frm] at this
      exact this
theorem CutOK.hull {f : P2} {L S : List P3} (c : CutOK f L S) (hS : ∀ p ∈ S, isPt p) (hne : S ≠ []) : CutOK f L (hull3 S) where
  snd := fun p hp => c.snd p (hull3_mem hS hne hp)
  cone := fun m hm p hp => c.cone m hm p (hull3_mem hS hne hp)
  sub := fun g hg p hp => c.sub g hg p (hull3_mem hS hne hp)
  keep := fun m hm => c.keep m fun p hp => by
    have := hull3_form hS hne (F := (m.1, m.2, 0)) (fun h hh => by rw [lf_frm]; exact hm h hh) p hp
    rw [lf_frm] at this
    exact this
  cross := fun h1 h2 => by
    obtain ⟨X, x1, x2, x3⟩ := c.cross h1 h2
    exact ⟨X, x1, x2, fun m hm => x3 m fun p hp => by
      have := hull3_form hS hne (F := (m.1, m.2, 0)) (fun h hh => by rw [lf_frm]; exact hm h hh) p hp
      rw [lf_frm] at this
      exact this⟩

/-! ### nought is held -/
def cr (p q : P3) : Int := p.1 * q.2.1 - p.2.1 * q.1
structure Ctr (L : List P3) : Prop where
  no : ∀ m, ¬ Pos m L
  b0 : ∀ p q, (p, q) ∈ cyc L → 0 ≤ cr p q
theorem plk (f : P2) (u v z : P3) : lf f u * cr v z + lf f v * cr z u + lf f z * cr u v = 0 := by unfold lf cr; grind
theorem ctr_no {f : P2} {L S : List P3} (c : Cutting f L S) (hL : ∀ p ∈ L, isPt p) (h : Ctr L) : ∀ m, ¬ Pos m S := by
  intro m hm
  rcases Classical.em (∃ p ∈ L, 0 < lf f p) with ho | ho
  · rcases Classical.em (∃ p ∈ L, ¬ 0 < lf f p) with hi | hi
    · obtain ⟨p', q', hd, d1, d2⟩ := cyc_ivt (P := fun x => 0 < lf f x) ho hi
      obtain ⟨p, q, hu, u1, u2⟩ := cyc_ivt (P := fun x => ¬ 0 < lf f x) hi (by obtain ⟨a, b, e⟩ := ho; exact ⟨a, b, fun z => z e⟩)
      have u2 : 0 < lf f q := Classical.byContradiction u2
      obtain ⟨m1, m2⟩ := cyc_mem hd
      obtain ⟨m3, m4⟩ := cyc_mem hu
      -- a crossing, told as a sum
      have key : ∀ a b : P3, ((a, b) ∈ cyc L ∨ (b, a) ∈ cyc L) → a ∈ L → b ∈ L → lf f a ≤ 0 → 0 < lf f b → 0 < lf m (cmb (lf f b) a (-(lf f a)) b) := fun a b hab ha hb l1 l2 => by
        rw [lf_cmb]
        by_cases hz : lf f a = 0
        · rw [hz]
          have := Int.mul_pos l2 (hm a (c.kept a ha l1))
          omega
        · rcases hab with hab | hab
          · have o : opp f a b := .inl ⟨by omega, l2⟩
            have z := (cp_pos_iff (hL a ha).1 (hL b hb).1 o (m.1, m.2, 0)).mp (by rw [lf_frm]; exact hm _ (c.crs a b hab o))
            rw [lf_frm, lf_frm] at z
            have e1 : ((lf f b).natAbs : Int) = lf f b := by omega
            have e2 : ((lf f a).natAbs : Int) = - lf f a := by omega
            rw [e1, e2] at z
            exact z
          · have o : opp f b a := .inr ⟨l2, by omega⟩
            have z := (cp_pos_iff (hL b hb).1 (hL a ha).1 o (m.1, m.2, 0)).mp (by rw [lf_frm]; exact hm _ (c.crs b a hab o))
            rw [lf_frm, lf_frm] at z
            have e1 : ((lf f b).natAbs : Int) = lf f b := by omega
            have e2 : ((lf f a).natAbs : Int) = - lf f a := by omega
            rw [e1, e2] at z
            omega
      have hU := key p q (.inl hu) m3 m4 (by omega) u2
      have hV := key q' p' (.inr hd) m2 m1 (by omega) d1
      have bU : 0 ≤ cr (cmb (lf f q) p (-(lf f p)) q) q := by
        have e : cr (cmb (lf f q) p (-(lf f p)) q) q = lf f q * cr p q := by unfold cr cmb; grind
        rw [e]
        exact mul_nn (Int.le_of_lt u2) (h.b0 p q hu)
      have bV : 0 ≤ cr p' (cmb (lf f p') q' (-(lf f q')) p') := by
        have e : cr p' (cmb (lf f p') q' (-(lf f q')) p') = lf f p' * cr p' q' := by unfold cr cmb; grind
        rw [e]
        exact mul_nn (Int.le_of_lt d1) (h.b0 p' q' hd)
      have zU : lf f (cmb (lf f q) p (-(lf f p)) q) = 0 := by rw [lf_cmb]; grind
      have zV : lf f (cmb (lf f p') q' (-(lf f q')) p') = 0 := by rw [lf_cmb]; grind
      generalize cmb (lf f q) p (-(lf f p)) q = U at *
      generalize cmb (lf f p') q' (-(lf f q')) p' = V at *
      have k1 := plk f U q p'
      rw [zU] at k1
      have k2 : lf f q * cr U p' = lf f p' * cr U q := by
        have e : cr p' U = - cr U p' := by unfold cr; grind
        rw [e] at k1
        grind
      have c1 : 0 ≤ cr U p' := nonneg_of_mul_nonneg u2 (by rw [k2]; exact mul_nn (Int.le_of_lt d1) bU)
      have k3 := plk f U V p'
      rw [zU, zV] at k3
      have c2 : cr U V = 0 := by
        have : lf f p' * cr U V = 0 := by omega
        rcases Int.mul_eq_zero.mp this with e | e
        · omega
        · exact e
      have k4 := plk m U V p'
      rw [c2] at k4
      have e5 : cr p' U = - cr U p' := by unfold cr; grind
      have e6 : cr V p' = - cr p' V := by unfold cr; grind
      rw [e5, e6] at k4
      have a1 := mul_nn (Int.le_of_lt hU) bV
      have a2 := mul_nn (Int.le_of_lt hV) c1
      have c3 : cr U p' = 0 := by
        have : lf m V * cr U p' = 0 := by grind
        rcases Int.mul_eq_zero.mp this with e | e
        · omega
        · exact e
      have e7 : lf f p' * lf m U - lf f U * lf m p' = (m.1 * f.2 - m.2 * f.1) * cr U p' := by unfold lf cr; grind
      rw [zU, c3] at e7
      have a3 := Int.mul_pos d1 hU
      omega
    · refine h.no f fun p hp => ?_
      exact Classical.byContradiction fun z => hi ⟨p, hp, z⟩
  · exact h.no m fun p hp => hm p (c.kept p hp (by
      have : ¬ 0 < lf f p := fun z => ho ⟨p, hp, z⟩
      omega))
theorem ctr_hull {S : List P3} (hS : ∀ p ∈ S, isPt p) (hn : ∀ m, ¬ Pos m S) : Ctr (hull3 S) := by
  have hne : S ≠ [] := fun e => hn (0, 0) (by rw [e]; intro p hp; cases hp)
  refine ⟨fun m hm => hn m fun p hp => ?_, fun p q h => ?_⟩
  · have := hull3_form hS hne (F := (m.1, m.2, 0)) (fun h hh => by rw [lf_frm]; exact hm h hh) p hp
    rw [lf_frm] at this
    exact this
  · refine Classical.byContradiction fun hneg => hn ((side3 p q).1, (side3 p q).2.1) fun r hr => ?_
    have z := hull3_pairs hS hne h r hr
    rw [← side_det] at z
    have hw := (hS r hr).1
    have hneg' : 0 < -(side3 p q).2.2 := by unfold side3; unfold cr at hneg; simp only; omega
    have a1 := Int.mul_pos hneg' hw
    unfold frm at z
    unfold lf
    simp only
    have e : -(side3 p q).2.2 * r.2.2 = -((side3 p q).2.2 * r.2.2) := Int.neg_mul _ _
    omega
end Sh
end
section
set_option linter.all false
/-! The law's cut walked, small lines, small points. -/
namespace Sh
/-! ### the program's found points -/
def progFound (f : P2) (L : List P3) : List P3 := L.filter (fun p => decide (lf f p ≤ 0)) ++ (cyc L).flatMap fun e => if opp f e.1 e.2 then [crossPt f e.1 e.2] else []
theorem prog_cutting (f : P2) (L : List P3) : Cutting f L (progFound f L) where
  kept := fun p hp h => List.mem_append_left _ (List.mem_filter.mpr ⟨hp, decide_eq_true h⟩)
  crs := fun p q h o => List.mem_append_right _ (List.mem_flatMap.mpr ⟨(p, q), h, by rw [if_pos o]; exact List.mem_singleton.mpr rfl⟩)
  of := fun s hs => by
    rcases List.mem_append.mp hs with h | h
    · obtain ⟨h1, h2⟩ := List.mem_filter.mp h
      exact .inl ⟨h1, of_decide_eq_true h2⟩
    · obtain ⟨⟨p, q⟩, h1, h2⟩ := List.mem_flatMap.mp h
      by_cases o : opp f p q
      · rw [if_pos o] at h2
        exact .inr ⟨p, q, h1, o, List.mem_singleton.mp h2⟩
      · rw [if_neg o] at h2
        cases h2

/-! ### the law's cut -/
def emit (f : P2) (p q : P3) : List P3 := (if opp f p q then [crossPt f p q] else []) ++ (if lf f q ≤ 0 then [q] else [])
def cutw (f : P2) : P3 → List P3 → List P3
  | _, [] => []
  | p, q :: r => emit f p q ++ cutw f q r
def lastD {α : Type} : α → List α → α
  | d, [] => d
  | _, q :: r => lastD q r
def lawCut (f : P2) (L : List P3) : List P3 := cutw f (lastD (0, 0, 1) L) L
theorem lastD_app {α : Type} : ∀ (xs ys : List α) (d : α), lastD d (xs ++ ys) = lastD (lastD d xs) ys
  | [], _, _ => rfl
  | x :: xs, ys, d => lastD_app xs ys x
theorem lastD_ne {α : Type} : ∀ {l : List α} (d e : α), l ≠ [] → lastD d l = lastD e l
  | [], _, _, h => absurd rfl h
  | x :: l, _, _, _ => rfl
theorem lastD_get {α : Type} : ∀ {l : List α} (d : α), l ≠ [] → l.getLast? = some (lastD d l)
  | [], _, h => absurd rfl h
  | [x], _, _ => rfl
  | x :: y :: l, d, _ => by
    rw [List.getLast?_cons_cons]
    exact lastD_get (l := y :: l) x (by simp)
theorem lastD_mem {α : Type} {l : List α} (d : α) (h : l ≠ []) : lastD d l ∈ l := List.mem_of_getLast? (lastD_get d h)
theorem cutw_eq (f : P2) : ∀ (L : List P3) (p : P3), cutw f p L = (prs (p :: L)).flatMap fun e => emit f e.1 e.2
  | [], p => rfl
  | q :: r, p => by
    show emit f p q ++ cutw f q r = _
    rw [cutw_eq f r q]
    rfl
theorem mem_cyc_last {α : Type} {L : List α} (d : α) (h : L ≠ []) (x : α × α) : x ∈ prs (lastD d L :: L) ↔ x ∈ cyc L := by
  obtain ⟨l, z, e⟩ : ∃ l z, L = l ++ [z] := ⟨L.dropLast, L.getLast h, (List.dropLast_concat_getLast h).symm⟩
  have ez : lastD d L = z := by
    have := lastD_get d h
    rw [e, List.getLast?_append] at this
    rw [e]
    simpa using this.symm
  rw [ez]
  cases L with
  | nil => exact absurd rfl h
  | cons a t =>
    have e1 : cyc (a :: t) = prs (l ++ z :: [a]) := by
      unfold cyc
      rw [show (a :: t).take 1 = [a] from rfl, e]
      simp
    rw [e1, prs_app, ← e]
    show x ∈ (z, a) :: prs (a :: t) ↔ x ∈ prs (a :: t) ++ [(z, a)]
    rw [List.mem_append, List.mem_cons, List.mem_singleton]
    exact Or.comm
theorem law_cutting {f : P2} {L : List P3} : Cutting f L (lawCut f L) := by
  rcases Classical.em (L = []) with e | hne
  · subst e
    exact ⟨fun p h => (by cases h), fun p q h => (by cases h), fun s h => (by cases h)⟩
  · have key : ∀ s, s ∈ lawCut f L ↔ ∃ p q, (p, q) ∈ cyc L ∧ s ∈ emit f p q := fun s => by
      unfold lawCut
      rw [cutw_eq, List.mem_flatMap]
      constructor
      · rintro ⟨⟨p, q⟩, h1, h2⟩
        exact ⟨p, q, (mem_cyc_last _ hne _).mp h1, h2⟩
      · rintro ⟨p, q, h1, h2⟩
        exact ⟨(p, q), (mem_cyc_last _ hne _).mpr h1, h2⟩
    have sec : ∀ {p : P3}, p ∈ L → ∃ q, (q, p) ∈ cyc L := fun {p} hp => by
      obtain ⟨pre, post, e⟩ := List.append_of_mem hp
      have : ∃ q, (q, p) ∈ prs (lastD (0, 0, 1) L :: L) := by
        rw [e]
        rcases List.eq_nil_or_concat pre with e2 | ⟨pre', y, e2⟩
        · subst e2
          exact ⟨_, List.mem_cons_self⟩
        · subst e2
          refine ⟨y, ?_⟩
          have e3 : (lastD (0, 0, 1) (pre' ++ [y] ++ p :: post) :: (pre' ++ [y] ++ p :: post)) = (lastD (0, 0, 1) (pre' ++ [y] ++ p :: post) :: pre') ++ y :: p :: post := by simp
          rw [List.concat_eq_append, e3]
          exact mem_prs_app _ _
      obtain ⟨q, hq⟩ := this
      exact ⟨q, (mem_cyc_last _ hne _).mp hq⟩
    refine ⟨fun p hp h => ?_, fun p q h o => ?_, fun s hs => ?_⟩
    · obtain ⟨q, hq⟩ := sec hp
      refine (key p).mpr ⟨q, p, hq, List.mem_append_right _ ?_⟩
      rw [if_pos h]; exact List.mem_singleton.mpr rfl
    · refine (key _).mpr ⟨p, q, h, List.mem_append_left _ ?_⟩
      rw [if_pos o]; exact List.mem_singleton.mpr rfl
    · obtain ⟨p, q, h1, h2⟩ := (key s).mp hs
      rcases List.mem_append.mp h2 with z | z
      · by_cases o : opp f p q
        · rw [if_pos o] at z
          exact .inr ⟨p, q, h1, o, List.mem_singleton.mp z⟩
        · rw [if_neg o] at z; cases z
      · by_cases c : lf f q ≤ 0
        · rw [if_pos c] at z
          have e := List.mem_singleton.mp z
          subst e
          exact .inl ⟨(cyc_mem h1).2, c⟩
        · rw [if_neg c] at z; cases z

/-! ### a relation of neighbours that a cut keeps -/
def wk (R : P3 → P3 → Prop) : P3 → List P3 → Prop
  | _, [] => True
  | p, q :: r => R p q ∧ wk R q r
theorem wk_app {R : P3 → P3 → Prop} : ∀ (xs ys : List P3) (s : P3), wk R s (xs ++ ys) ↔ wk R s xs ∧ wk R (lastD s xs) ys
  | [], ys, s => by
    show wk R s ys ↔ True ∧ wk R s ys
    rw [true_and]
  | x :: xs, ys, s => by
    show R s x ∧ wk R x (xs ++ ys) ↔ (R s x ∧ wk R x xs) ∧ wk R (lastD x xs) ys
    rw [wk_app xs ys x, and_assoc]
theorem wk_prs {R : P3 → P3 → Prop} : ∀ (l : List P3) (s : P3), wk R s l ↔ ∀ a b, (a, b) ∈ prs (s :: l) → R a b
  | [], s => ⟨fun _ a b h => (by cases h), fun _ => True.intro⟩
  | q :: r, s => by
    show R s q ∧ wk R q r ↔ _
    rw [wk_prs r q]
    constructor
    · rintro ⟨h1, h2⟩ a b h
      rcases List.mem_cons.mp h with e | h
      · cases e; exact h1
      · exact h2 a b h
    · intro h
      exact ⟨h s q List.mem_cons_self, fun a b hab => h a b (List.mem_cons_of_mem _ hab)⟩
def Rc (R : P3 → P3 → Prop) (L : List P3) : Prop := ∀ p q, (p, q) ∈ cyc L → R p q
def inv (f : P2) (p s : P3) : Prop := (lf f p ≤ 0 ∧ s = p) ∨ (0 < lf f p ∧ lf f s = 0)
structure Keeps (f : P2) (R : P3 → P3 → Prop) : Prop where
  fst : ∀ p q, isPt p → isPt q → opp f p q → R p q → R p (crossPt f p q)
  snd : ∀ p q, isPt p → isPt q → opp f p q → R p q → R (crossPt f p q) q
  line : ∀ p q, lf f p = 0 → lf f q = 0 → R p q
theorem emit_ok {f : P2} {R : P3 → P3 → Prop} (k : Keeps f R) {p q s : P3} (hp : isPt p) (hq : isPt q) (hR : R p q) (hi : inv f p s) : wk R s (emit f p q) ∧ inv f q (lastD s (emit f p q)) := by
  unfold emit
  rcases hi with ⟨h1, e⟩ | ⟨h1, h2⟩
  · subst e
    by_cases hq0 : lf f q ≤ 0
    · have no : ¬ opp f s q := by unfold opp; omega
      rw [if_neg no, if_pos hq0]
      exact ⟨⟨hR, True.intro⟩, .inl ⟨hq0, rfl⟩⟩
    · rw [if_neg hq0]
      by_cases hz : lf f s = 0
      · have no : ¬ opp f s q := by unfold opp; omega
        rw [if_neg no]
        exact ⟨True.intro, .inr ⟨by omega, hz⟩⟩
      · have o : opp f s q := .inl ⟨by omega, by omega⟩
        rw [if_pos o]
        exact ⟨⟨k.fst s q hp hq o hR, True.intro⟩, .inr ⟨by omega, cp_zero hp.1 hq.1 o⟩⟩
  · by_cases hq0 : lf f q ≤ 0
    · rw [if_pos hq0]
      by_cases hz : lf f q = 0
      · have no : ¬ opp f p q := by unfold opp; omega
        rw [if_neg no]
        exact ⟨⟨k.line s q h2 hz, True.intro⟩, .inl ⟨hq0, rfl⟩⟩
      · have o : opp f p q := .inr ⟨h1, by omega⟩
        rw [if_pos o]
        exact ⟨⟨k.line _ _ h2 (cp_zero hp.1 hq.1 o), k.snd p q hp hq o hR, True.intro⟩, .inl ⟨hq0, rfl⟩⟩
    · have no : ¬ opp f p q := by unfold opp; omega
      rw [if_neg no, if_neg hq0]
      exact ⟨True.intro, .inr ⟨by omega, h2⟩⟩
theorem cutw_ok {f : P2} {R : P3 → P3 → Prop} (k : Keeps f R) : ∀ (L : List P3) (p s : P3), isPt p → (∀ x ∈ L, isPt x) → wk R p L → inv f p s → wk R s (cutw f p L) ∧ inv f (lastD p L) (lastD s (cutw f p L))
  | [], p, s, _, _, _, hi => ⟨True.intro, hi⟩
  | q :: r, p, s, hp, hL, hw, hi => by
    have hq := hL q List.mem_cons_self
    obtain ⟨e1, e2⟩ := emit_ok k hp hq hw.1 hi
    obtain ⟨i1, i2⟩ := cutw_ok k r q _ hq (fun x hx => hL x (List.mem_cons_of_mem _ hx)) hw.2 e2
    refine ⟨(wk_app _ _ _).mpr ⟨e1, i1⟩, ?_⟩
    show inv f (lastD q r) (lastD s (emit f p q ++ cutw f q r))
    rw [lastD_app]
    exact i2
theorem law_rc {f : P2} {R : P3 → P3 → Prop} (k : Keeps f R) {L : List P3} (hL : ∀ p ∈ L, isPt p) (h : Rc R L) : Rc R (lawCut f L) := by
  rcases Classical.em (L = []) with e | hne
  · subst e; intro p q h; cases h
  · rcases Classical.em (lawCut f L = []) with e | hne'
    · rw [e]; intro p q h; cases h
    · have hz : isPt (lastD (0, 0, 1) L) := hL _ (lastD_mem _ hne)
      have hw : wk R (lastD (0, 0, 1) L) L := (wk_prs _ _).mpr fun a b hab => h a b ((mem_cyc_last _ hne _).mp hab)
      have ez : lastD (lastD (0, 0, 1) L) L = lastD (0, 0, 1) L := lastD_ne _ _ hne
      have fin : wk R (lastD (0, 0, 1) (lawCut f L)) (lawCut f L) := by
        by_cases hin : lf f (lastD (0, 0, 1) L) ≤ 0
        · obtain ⟨i1, i2⟩ := cutw_ok k L _ _ hz hL hw (.inl ⟨hin, rfl⟩)
          rw [ez] at i2
          rcases i2 with ⟨_, e⟩ | ⟨c, _⟩
          · have e2 : lastD (0, 0, 1) (lawCut f L) = lastD (0, 0, 1) L := (lastD_ne _ _ hne').trans e
            rw [e2]
            exact i1
          · omega
        · obtain ⟨i1, i2⟩ := cutw_ok k L _ (0, 0, 1) hz hL hw (.inr ⟨by omega, by unfold lf; simp⟩)
          rw [ez] at i2
          exact (cutw_ok k L _ _ hz hL hw i2).1
      intro p q hpq
      exact (wk_prs _ _).mp fin p q ((mem_cyc_last _ hne' _).mpr hpq)

/-! ### nought held: the law's cut -/
theorem keeps_cr {f : P2} (hf : f ≠ (0, 0)) : Keeps f (fun p q => 0 ≤ cr p q) where
  fst := fun p q hp hq o h => by
    have z := cp_nn hp.1 hq.1 o (-p.2.1, p.1, 0) (by unfold frm; simp only; grind) (by unfold frm; unfold cr at h; simp only; grind)
    unfold frm at z
    unfold cr
    simp only at z
    grind
  snd := fun p q hp hq o h => by
    have z := cp_nn hp.1 hq.1 o (q.2.1, -q.1, 0) (by unfold frm; unfold cr at h; simp only; grind) (by unfold frm; simp only; grind)
    unfold frm at z
    unfold cr
    simp only at z
    grind
  line := fun p q h1 h2 => by
    have z := plk f p q (f.1, f.2, 1)
    rw [h1, h2] at z
    have hpos : 0 < lf f (f.1, f.2, 1) := by
      unfold lf
      simp only
      have sq : ∀ x : Int, 0 ≤ x * x := fun x => by
        rcases Int.le_total 0 x with c | c
        · exact Int.mul_nonneg c c
        · exact Int.mul_nonneg_of_nonpos_of_nonpos c c
      have a1 : 0 ≤ f.1 * f.1 := sq _
      have a2 : 0 ≤ f.2 * f.2 := sq _
      rcases Classical.em (f.1 = 0) with e | e
      · have e2 : f.2 ≠ 0 := fun q => hf (Prod.ext e q)
        have : 0 < f.2 * f.2 := by
          rcases Int.lt_or_lt_of_ne e2 with c | c
          · exact Int.mul_pos_of_neg_of_neg c c
          · exact Int.mul_pos c c
        omega
      · have : 0 < f.1 * f.1 := by
          rcases Int.lt_or_lt_of_ne e with c | c
          · exact Int.mul_pos_of_neg_of_neg c c
          · exact Int.mul_pos c c
        omega
    have e : lf f (f.1, f.2, 1) * cr p q = 0 := by omega
    rcases Int.mul_eq_zero.mp e with c | c
    · omega
    · rw [c]; exact Int.le_refl 0
theorem ctr_law {f : P2} (hf : f ≠ (0, 0)) {L : List P3} (hL : ∀ p ∈ L, isPt p) (h : Ctr L) : Ctr (lawCut f L) :=
  ⟨ctr_no law_cutting hL h, law_rc (keeps_cr hf) hL h.b0⟩
end Sh
end
section
set_option linter.all false
/-! Small lines, small points; the program's polygons. -/
namespace Sh
def sml (N : Int) (F : P3) : Prop := (-N ≤ F.1 ∧ F.1 ≤ N) ∧ (-N ≤ F.2.1 ∧ F.2.1 ≤ N) ∧ (-N ≤ F.2.2 ∧ F.2.2 ≤ N)
def R2 (p q : P3) : Prop := ∃ F : P3, sml 72 F ∧ F ≠ (0, 0, 0) ∧ frm F p = 0 ∧ frm F q = 0
def nrm (f : P2) : Prop := (-3 ≤ f.1 ∧ f.1 ≤ 3) ∧ (-3 ≤ f.2 ∧ f.2 ≤ 3)
theorem frm_cp_zero {f : P2} {F p q : P3} (hp : isPt p) (hq : isPt q) (o : opp f p q) (h1 : frm F p = 0) (h2 : frm F q = 0) : frm F (crossPt f p q) = 0 := by
  unfold crossPt
  refine frm_red_zero (pc_w hp.1 hq.1 o) ?_
  unfold pc
  rw [frm_cmb, h1, h2]
  simp
theorem keeps_r2 {f : P2} (hf : f ≠ (0, 0)) (hn : nrm f) : Keeps f R2 where
  fst := fun p q hp hq o ⟨F, s, n, h1, h2⟩ => ⟨F, s, n, h1, frm_cp_zero hp hq o h1 h2⟩
  snd := fun p q hp hq o ⟨F, s, n, h1, h2⟩ => ⟨F, s, n, frm_cp_zero hp hq o h1 h2, h2⟩
  line := fun p q h1 h2 => ⟨(f.1, f.2, 0), by unfold sml; unfold nrm at hn; simp only; omega, fun e => hf (by
    have e1 : f.1 = 0 := congrArg (fun z : P3 => z.1) e
    have e2 : f.2 = 0 := congrArg (fun z : P3 => z.2.1) e
    exact Prod.ext e1 e2), by rw [lf_frm]; exact h1, by rw [lf_frm]; exact h2⟩

/-- a reduced point along a vector -/
theorem prim {X V : P3} (hX : isPt X) (h1 : V.1 * X.2.2 = V.2.2 * X.1) (h2 : V.2.1 * X.2.2 = V.2.2 * X.2.1) : ∃ k : Int, V = smul k X := by
  have hw := hX.1
  have hd : X.2.2.natAbs ∣ V.2.2.natAbs := by
    have d1 : X.2.2.natAbs ∣ V.2.2.natAbs * X.1.natAbs := by
      rw [← Int.natAbs_mul, ← h1, Int.natAbs_mul]
      exact Nat.dvd_mul_left _ _
    have d2 : X.2.2.natAbs ∣ V.2.2.natAbs * X.2.1.natAbs := by
      rw [← Int.natAbs_mul, ← h2, Int.natAbs_mul]
      exact Nat.dvd_mul_left _ _
    have d3 : X.2.2.natAbs ∣ V.2.2.natAbs * X.2.2.natAbs := Nat.dvd_mul_left _ _
    have d4 := Nat.dvd_gcd (Nat.dvd_gcd d1 d2) d3
    rw [Nat.gcd_mul_left, Nat.gcd_mul_left] at d4
    have e := hX.2
    rw [g3_nat] at e
    have e2 : Nat.gcd (Nat.gcd X.1.natAbs X.2.1.natAbs) X.2.2.natAbs = 1 := by omega
    rw [e2, Nat.mul_one] at d4
    exact d4
  obtain ⟨k, hk⟩ := Int.natAbs_dvd_natAbs.mp hd
  have ne : X.2.2 ≠ 0 := by omega
  refine ⟨k, ext3 ?_ ?_ ?_⟩
  · refine Int.eq_of_mul_eq_mul_right ne ?_
    rw [h1, hk]
    show X.2.2 * k * X.1 = k * X.1 * X.2.2
    grind
  · refine Int.eq_of_mul_eq_mul_right ne ?_
    rw [h2, hk]
    show X.2.2 * k * X.2.1 = k * X.2.1 * X.2.2
    grind
  · rw [hk]
    exact Int.mul_comm _ _
theorem small_mul {k x B : Int} (hk : k ≠ 0) (h : -B ≤ k * x ∧ k * x ≤ B) : -B ≤ x ∧ x ≤ B := by
  have e : (k * x).natAbs = k.natAbs * x.natAbs := Int.natAbs_mul k x
  have h1 : 1 * x.natAbs ≤ k.natAbs * x.natAbs := Nat.mul_le_mul_right _ (by omega)
  omega
theorem prod_bd {a b A B : Int} (h1 : -A ≤ a ∧ a ≤ A) (h2 : -B ≤ b ∧ b ≤ B) : -(A * B) ≤ a * b ∧ a * b ≤ A * B := by
  have e : (a * b).natAbs = a.natAbs * b.natAbs := Int.natAbs_mul a b
  have h3 : a.natAbs * b.natAbs ≤ A.natAbs * B.natAbs := Nat.mul_le_mul (by omega) (by omega)
  have e2 : (A * B).natAbs = A.natAbs * B.natAbs := Int.natAbs_mul A B
  have h4 : 0 ≤ A * B := Int.mul_nonneg (by omega) (by omega)
  omega
/-- a crossing of a small line and a shore's line is a small point -/
theorem cp_small {f : P2} (hn : nrm f) {p q : P3} (hp : isPt p) (hq : isPt q) (o : opp f p q) (h : R2 p q) : sml 432 (crossPt f p q) := by
  obtain ⟨F, hs, hne, h1, h2⟩ := h
  have hX := cp_pt hp.1 hq.1 o
  have z1 := frm_cp_zero hp hq o h1 h2
  have z2 := cp_zero hp.1 hq.1 o
  have hfp : lf f p ≠ 0 := by unfold opp at o; omega
  generalize crossPt f p q = X at *
  -- the cross product of both lines
  have e1 : (-(F.2.2 * f.2)) * X.2.2 = (F.1 * f.2 - F.2.1 * f.1) * X.1 := by unfold frm at z1; unfold lf at z2; grind
  have e2 : (F.2.2 * f.1) * X.2.2 = (F.1 * f.2 - F.2.1 * f.1) * X.2.1 := by unfold frm at z1; unfold lf at z2; grind
  obtain ⟨k, hk⟩ := prim (X := X) (V := (-(F.2.2 * f.2), F.2.2 * f.1, F.1 * f.2 - F.2.1 * f.1)) hX e1 e2
  have k1 : -(F.2.2 * f.2) = k * X.1 := congrArg (fun z : P3 => z.1) hk
  have k2 : F.2.2 * f.1 = k * X.2.1 := congrArg (fun z : P3 => z.2.1) hk
  have k3 : F.1 * f.2 - F.2.1 * f.1 = k * X.2.2 := congrArg (fun z : P3 => z.2.2) hk
  have hk0 : k ≠ 0 := by
    intro e
    subst e
    rw [Int.zero_mul] at k1 k2 k3
    -- then F is along f
    have c1 : F.1 * lf f p = 0 := by
      have : F.1 * lf f p = f.1 * frm F p + p.2.1 * (F.1 * f.2 - F.2.1 * f.1) - p.2.2 * (F.2.2 * f.1) := by unfold lf frm; grind
      rw [this, h1, k3, k2]; simp
    have c2 : F.2.1 * lf f p = 0 := by
      have : F.2.1 * lf f p = f.2 * frm F p - p.1 * (F.1 * f.2 - F.2.1 * f.1) + p.2.2 * (-(F.2.2 * f.2)) := by unfold lf frm; grind
      rw [this, h1, k3, k1]; simp
    have c3 : F.2.2 * lf f p = 0 := by
      have : F.2.2 * lf f p = p.1 * (F.2.2 * f.1) - p.2.1 * (-(F.2.2 * f.2)) := by unfold lf; grind
      rw [this, k1, k2]; simp
    refine hne (ext3 ?_ ?_ ?_)
    · rcases Int.mul_eq_zero.mp c1 with c | c
      · exact c
      · exact absurd c hfp
    · rcases Int.mul_eq_zero.mp c2 with c | c
      · exact c
      · exact absurd c hfp
    · rcases Int.mul_eq_zero.mp c3 with c | c
      · exact c
      · exact absurd c hfp
  obtain ⟨s1, s2, s3⟩ := hs
  obtain ⟨n1, n2⟩ := hn
  have b1 := prod_bd s3 n2
  have b2 := prod_bd s3 n1
  have b3 := prod_bd s1 n2
  have b4 := prod_bd s2 n1
  refine ⟨small_mul hk0 (by omega), small_mul hk0 (by omega), small_mul hk0 (by omega)⟩
/-! the law's lists -/
structure LawL (L : List P3) : Prop where
  pts : ∀ p ∈ L, isPt p
  sm : ∀ p ∈ L, sml 432 p
  edge : Rc R2 L
theorem LawL.cut {f : P2} (hf : f ≠ (0, 0)) (hn : nrm f) {L : List P3} (h : LawL L) : LawL (lawCut f L) where
  pts := law_cutting.pts h.pts
  sm := fun s hs => by
    rcases law_cutting.of s hs with ⟨z, _⟩ | ⟨p, q, z, o, e⟩
    · exact h.sm s z
    · rw [e]
      obtain ⟨m1, m2⟩ := cyc_mem z
      exact cp_small hn (h.pts p m1) (h.pts q m2) o (h.edge p q z)
  edge := law_rc (keeps_r2 hf hn) h.pts h.edge
theorem emit_len (f : P2) (p q : P3) : (emit f p q).length ≤ 2 := by
  unfold emit
  rw [List.length_append]
  split <;> split <;> simp
theorem cutw_len (f : P2) : ∀ (L : List P3) (p : P3), (cutw f p L).length ≤ 2 * L.length
  | [], p => Nat.le_refl _
  | q :: r, p => by
    have h1 := emit_len f p q
    have h2 := cutw_len f r q
    show (emit f p q ++ cutw f q r).length ≤ 2 * (r.length + 1)
    rw [List.length_append]
    omega

/-! ### the crossings of a polygon -/
theorem plk3 (F : P3) (a b c d : P3) : frm F a * det3 b c d - frm F b * det3 a c d + frm F c * det3 a b d - frm F d * det3 a b c = 0 := by unfold frm det3; grind
theorem cram (G : P3) (c u v x : P3) : det3 c u v * frm G x = det3 x u v * frm G c + det3 c x v * frm G u + det3 c u x * frm G v := by unfold frm det3; grind
theorem cmb_w (a b : Int) (p q : P3) : (cmb a p b q).2.2 = a * p.2.2 + b * q.2.2 := rfl
/-- the way down and the way up of a polygon at a line -/
structure Gate (f : P2) (L : List P3) (p q p' q' : P3) : Prop where
  d : (p, q) ∈ cyc L
  d1 : 0 < lf f p
  d2 : lf f q ≤ 0
  u : (p', q') ∈ cyc L
  u1 : lf f p' ≤ 0
  u2 : 0 < lf f q'
/-- not reduced: the crossing of a point above 0 and one not above 0 -/
def xing (f : P2) (c d : P3) : P3 := cmb (lf f c) d (-(lf f d)) c
theorem xing_zero (f : P2) (c d : P3) : lf f (xing f c d) = 0 := by unfold xing; rw [lf_cmb]; grind
theorem xing_frm (f : P2) (c d F : P3) : frm F (xing f c d) = lf f c * frm F d + -(lf f d) * frm F c := by unfold xing; rw [frm_cmb]
theorem xing_w {f : P2} {c d : P3} (hc : 0 < c.2.2) (hd : 0 < d.2.2) (h1 : 0 < lf f c) (h2 : lf f d ≤ 0) : 0 < (xing f c d).2.2 := by
  unfold xing
  rw [cmb_w]
  have a1 := Int.mul_pos h1 hd
  have a2 := mul_nn (show 0 ≤ -(lf f d) by omega) (Int.le_of_lt hc)
  omega
/-- along the line -/
theorem along_line {f : P2} {c u v : P3} (hc : 0 < lf f c) (hu : lf f u = 0) (hv : lf f v = 0) (z : P3) : lf f c * det3 z u v = lf f z * det3 c u v := by
  have k := plk3 (f.1, f.2, 0) c z u v
  rw [lf_frm, lf_frm, lf_frm, lf_frm, hu, hv] at k
  omega
section
variable {f : P2} {L : List P3} (hL : ∀ p ∈ L, isPt p) (hb : ∀ p q, (p, q) ∈ cyc L → ∀ r ∈ L, 0 ≤ det3 p q r)
include hL hb
/-- what lies on the line is on the inner side of the way down -/
theorem down_le {p q : P3} (h : (p, q) ∈ cyc L) (h1 : 0 < lf f p) {X : P3} (hX : lf f X = 0) (hX2 : 0 ≤ det3 p q X) : 0 ≤ det3 p (xing f p q) X := by
  have e : det3 p (xing f p q) X = lf f p * det3 p q X := by unfold xing cmb det3; grind
  rw [e]
  exact mul_nn (Int.le_of_lt h1) hX2
theorem up_le {p q : P3} (h : (p, q) ∈ cyc L) (h1 : 0 < lf f q) {X : P3} (hX : lf f X = 0) (hX2 : 0 ≤ det3 p q X) : 0 ≤ det3 q X (xing f q p) := by
  have e : det3 q X (xing f q p) = lf f q * det3 p q X := by unfold xing cmb det3; grind
  rw [e]
  exact mul_nn (Int.le_of_lt h1) hX2
theorem det_xing {p q c d : P3} (h : (p, q) ∈ cyc L) (hc : c ∈ L) (hd : d ∈ L) (h1 : 0 < lf f c) (h2 : lf f d ≤ 0) : 0 ≤ det3 p q (xing f c d) := by
  rw [← side_det, xing_frm, side_det, side_det]
  have a1 := mul_nn (Int.le_of_lt h1) (hb p q h d hd)
  have a2 := mul_nn (show 0 ≤ -(lf f d) by omega) (hb p q h c hc)
  omega
/-- any chord crosses between the two ways -/
theorem chord {p q p' q' : P3} (g : Gate f L p q p' q') {G : P3} (gd : 0 ≤ frm G (xing f p q)) (gu : 0 ≤ frm G (xing f q' p')) {c d : P3} (hc : c ∈ L) (hd : d ∈ L) (h1 : 0 < lf f c) (h2 : lf f d ≤ 0) : 0 ≤ frm G (xing f c d) := by
  obtain ⟨m1, m2⟩ := cyc_mem g.d
  obtain ⟨m3, m4⟩ := cyc_mem g.u
  have wd := xing_w (hL p m1).1 (hL q m2).1 g.d1 g.d2
  have wu := xing_w (hL q' m4).1 (hL p' m3).1 g.u2 g.u1
  have wx := xing_w (hL c hc).1 (hL d hd).1 h1 h2
  have zd := xing_zero f p q
  have zu := xing_zero f q' p'
  have zx := xing_zero f c d
  have i1 := down_le hL hb g.d g.d1 zx (det_xing hL hb g.d hc hd h1 h2)
  have i2 := up_le hL hb g.u g.u2 zx (det_xing hL hb g.u hc hd h1 h2)
  have i3 := down_le hL hb g.d g.d1 zu (det_xing hL hb g.d m4 m3 g.u2 g.u1)
  generalize xing f p q = D at *
  generalize xing f q' p' = U at *
  generalize xing f c d = X at *
  -- all over the point c
  have j1 : 0 ≤ det3 c D X := by
    have e := along_line h1 zd zx p
    have := mul_nn (Int.le_of_lt h1) i1
    exact nonneg_of_mul_nonneg g.d1 (by rw [← e]; exact this)
  have j2 : 0 ≤ det3 c X U := by
    have e := along_line h1 zx zu q'
    have := mul_nn (Int.le_of_lt h1) i2
    exact nonneg_of_mul_nonneg g.u2 (by rw [← e]; exact this)
  have j3 : 0 ≤ det3 c D U := by
    have e := along_line h1 zd zu p
    have := mul_nn (Int.le_of_lt h1) i3
    exact nonneg_of_mul_nonneg g.d1 (by rw [← e]; exact this)
  have j4 : det3 X D U = 0 := by
    have e := along_line h1 zd zu X
    rw [zx, Int.zero_mul] at e
    rcases Int.mul_eq_zero.mp e with z | z
    · omega
    · exact z
  have k := cram G c D U X
  rw [j4, Int.zero_mul] at k
  have a1 := mul_nn j2 gd
  have a2 := mul_nn j1 gu
  by_cases hz : det3 c D U = 0
  · -- both crossings are one
    have kw := cram (0, 0, 1) c D U X
    have ew : ∀ z : P3, frm (0, 0, 1) z = z.2.2 := fun z => by unfold frm; simp
    rw [j4, hz, ew, ew, ew, ew] at kw
    have b1 := mul_nn j2 (Int.le_of_lt wd)
    have b2 := mul_nn j1 (Int.le_of_lt wu)
    have b3 : det3 c D X * U.2.2 = 0 := by omega
    have b4 : det3 c D X = 0 := by
      rcases Int.mul_eq_zero.mp b3 with z | z
      · exact z
      · omega
    -- X along D
    have par : ∀ z : P3, det3 z D X = 0 := fun z => by
      have e := along_line h1 zd zx z
      rw [b4, Int.mul_zero] at e
      rcases Int.mul_eq_zero.mp e with q | q
      · omega
      · exact q
    have e1 := par (1, 0, 0)
    have e2 := par (0, 1, 0)
    have e3 : D.2.2 * frm G X = X.2.2 * frm G D := by
      unfold det3 at e1 e2
      simp only at e1 e2
      unfold frm
      grind
    have a3 := mul_nn (Int.le_of_lt wx) gd
    exact nonneg_of_mul_nonneg wd (by rw [e3]; exact a3)
  · exact nonneg_of_mul_nonneg (show 0 < det3 c D U by omega) (by rw [k]; omega)
/-- two ways down cross at one point -/
theorem down_one {p q p2 q2 : P3} (h : (p, q) ∈ cyc L) (h' : (p2, q2) ∈ cyc L) (d1 : 0 < lf f p) (d2 : lf f q < 0) (e1 : 0 < lf f p2) (e2 : lf f q2 < 0) : crossPt f p q = crossPt f p2 q2 := by
  obtain ⟨m1, m2⟩ := cyc_mem h
  obtain ⟨m3, m4⟩ := cyc_mem h'
  have z1 := xing_zero f p q
  have z2 := xing_zero f p2 q2
  have w1 := xing_w (hL p m1).1 (hL q m2).1 d1 (Int.le_of_lt d2)
  have w2 := xing_w (hL p2 m3).1 (hL q2 m4).1 e1 (Int.le_of_lt e2)
  have i1 := down_le hL hb h d1 z2 (det_xing hL hb h m3 m4 e1 (Int.le_of_lt e2))
  have i2 := down_le hL hb h' e1 z1 (det_xing hL hb h' m1 m2 d1 (Int.le_of_lt d2))
  have x1 : xing f p q = pc f p q := by
    unfold xing pc cmb
    have a1 : ((lf f q).natAbs : Int) = - lf f q := by omega
    have a2 : ((lf f p).natAbs : Int) = lf f p := by omega
    rw [a1, a2]
    refine ext3 ?_ ?_ ?_ <;> exact Int.add_comm _ _
  have x2 : xing f p2 q2 = pc f p2 q2 := by
    unfold xing pc cmb
    have a1 : ((lf f q2).natAbs : Int) = - lf f q2 := by omega
    have a2 : ((lf f p2).natAbs : Int) = lf f p2 := by omega
    rw [a1, a2]
    refine ext3 ?_ ?_ ?_ <;> exact Int.add_comm _ _
  unfold crossPt
  rw [← x1, ← x2]
  generalize xing f p q = D at *
  generalize xing f p2 q2 = E at *
  have k1 := along_line e1 z1 z2 p
  have sw : det3 p2 E D = - det3 p2 D E := by unfold det3; grind
  have c1 : 0 ≤ det3 p2 D E := by
    have := mul_nn (Int.le_of_lt e1) i1
    exact nonneg_of_mul_nonneg d1 (by rw [← k1]; exact this)
  have c2 : det3 p2 D E = 0 := by omega
  have par : ∀ z : P3, det3 z D E = 0 := fun z => by
    have e := along_line e1 z1 z2 z
    rw [c2, Int.mul_zero] at e
    rcases Int.mul_eq_zero.mp e with q | q
    · omega
    · exact q
  have f1 := par (1, 0, 0)
  have f2 := par (0, 1, 0)
  have hr1 := red_mul (p := D)
  have hr2 := red_mul (p := E)
  have g1 : 0 < g3 D := g3_pos (by omega)
  have g2 : 0 < g3 E := g3_pos (by omega)
  refine pt_inj (red_pt w1) (red_pt w2) (a := E.2.2 * g3 D) (b := D.2.2 * g3 E) (Int.mul_pos w2 g1) (Int.mul_pos w1 g2) ?_
  have s1 : smul (E.2.2 * g3 D) (red D) = smul E.2.2 D := by
    have : smul (E.2.2 * g3 D) (red D) = smul E.2.2 (smul (g3 D) (red D)) := by unfold smul; refine ext3 ?_ ?_ ?_ <;> exact Int.mul_assoc _ _ _
    rw [this, hr1]
  have s2 : smul (D.2.2 * g3 E) (red E) = smul D.2.2 E := by
    have : smul (D.2.2 * g3 E) (red E) = smul D.2.2 (smul (g3 E) (red E)) := by unfold smul; refine ext3 ?_ ?_ ?_ <;> exact Int.mul_assoc _ _ _
    rw [this, hr2]
  rw [s1, s2]
  unfold det3 at f1 f2
  simp only at f1 f2
  unfold smul
  refine ext3 ?_ ?_ ?_
  · show E.2.2 * D.1 = D.2.2 * E.1
    grind
  · show E.2.2 * D.2.1 = D.2.2 * E.2.1
    grind
  · exact Int.mul_comm _ _
end
end Sh
end
section
set_option linter.all false
/-! The program's polygons stay good. -/
namespace Sh
structure Poly (L : List P3) : Prop where
  ne : L ≠ []
  pts : ∀ p ∈ L, isPt p
  sm : ∀ p ∈ L, sml 432 p
  nd : L.Nodup
  b : ∀ p q, (p, q) ∈ cyc L → ∀ r ∈ L, 0 ≤ det3 p q r
  edge : ∀ p q, (p, q) ∈ cyc L → p ≠ q → R2 p q
theorem opp_ne {f : P2} {p q : P3} (o : opp f p q) : p ≠ q := fun e => by subst e; unfold opp at o; omega
theorem cyc_succ {α : Type} {L : List α} {p : α} (h : p ∈ L) : ∃ q, (p, q) ∈ cyc L := by
  obtain ⟨pre, post, e⟩ := List.append_of_mem h
  cases hc : post ++ L.take 1 with
  | nil =>
    exfalso
    cases L with
    | nil => cases h
    | cons a l => simp at hc
  | cons q r =>
    refine ⟨q, ?_⟩
    unfold cyc
    have e2 : L ++ L.take 1 = pre ++ p :: q :: r := by
      rw [← hc]
      conv => lhs; lhs; rw [e]
      simp
    rw [e2]
    exact mem_prs_app _ _
theorem cyc_pred {α : Type} {L : List α} {p : α} (h : p ∈ L) : ∃ q, (q, p) ∈ cyc L := by
  have hne : L ≠ [] := fun e => by rw [e] at h; cases h
  obtain ⟨pre, post, e⟩ := List.append_of_mem h
  rcases List.eq_nil_or_concat pre with e2 | ⟨pre', y, e2⟩
  · subst e2
    rw [List.nil_append] at e
    refine ⟨lastD p L, (mem_cyc_last p hne _).mp ?_⟩
    have : prs (lastD p L :: L) = prs (lastD p L :: p :: post) := by rw [← e]
    rw [this]
    exact List.mem_cons_self
  · subst e2
    refine ⟨y, (mem_cyc_last p hne _).mp ?_⟩
    have e3 : (lastD p L :: L) = (lastD p L :: pre') ++ y :: p :: post := by rw [List.cons_append]; congr 1; rw [e]; simp
    rw [e3]
    exact mem_prs_app _ _
theorem cyc_self {α : Type} {L : List α} {p : α} (hn : L.Nodup) (h : (p, p) ∈ cyc L) : L = [p] := by
  cases L with
  | nil => cases h
  | cons a t =>
    have h' : (p, p) ∈ prs ((a :: t) ++ [a]) := h
    obtain ⟨pre, post, e⟩ := prs_split _ h'
    rcases List.eq_nil_or_concat post with e2 | ⟨post', y, e2⟩
    · subst e2
      have e3 : (a :: t) ++ [a] = (pre ++ [p]) ++ [p] := by rw [e]; simp
      have e4 := List.append_inj_right' e3 rfl
      have e5 := List.append_inj_left' e3 rfl
      have ea : a = p := by simpa using e4
      subst ea
      cases pre with
      | nil => rw [e5]; rfl
      | cons b pre =>
        exfalso
        rw [e5] at hn
        have eb : a = b := by
          have := (List.cons.inj e5).1
          exact this
        subst eb
        exact (List.nodup_cons.mp hn).1 (by simp)
    · subst e2
      exfalso
      have e3 : (a :: t) ++ [a] = (pre ++ p :: p :: post') ++ [y] := by rw [e]; simp
      have e5 := List.append_inj_left' e3 rfl
      rw [e5] at hn
      have := (List.nodup_append.mp hn).2.1
      exact (List.nodup_cons.mp this).1 List.mem_cons_self
theorem pt_indep {p q : P3} (hp : isPt p) (hq : isPt q) (hne : p ≠ q) : ∃ z, det3 p q z ≠ 0 := by
  refine Classical.byContradiction fun hno => hne ?_
  have par : ∀ z, det3 p q z = 0 := fun z => Classical.byContradiction fun c => hno ⟨z, c⟩
  have f1 := par (1, 0, 0)
  have f2 := par (0, 1, 0)
  unfold det3 at f1 f2
  simp only at f1 f2
  refine pt_inj hp hq hq.1 hp.1 ?_
  unfold smul
  refine ext3 ?_ ?_ ?_
  · show q.2.2 * p.1 = p.2.2 * q.1
    grind
  · show q.2.2 * p.2.1 = p.2.2 * q.2.1
    grind
  · exact Int.mul_comm _ _
theorem on_line {F p q r : P3} (hp : isPt p) (hq : isPt q) (hne : p ≠ q) (h1 : frm F p = 0) (h2 : frm F q = 0) (h3 : det3 p q r = 0) : frm F r = 0 := by
  obtain ⟨z, hz⟩ := pt_indep hp hq hne
  have k := plk3 F p q r z
  rw [h1, h2, h3] at k
  have : frm F r * det3 p q z = 0 := by omega
  rcases Int.mul_eq_zero.mp this with e | e
  · exact e
  · exact absurd e hz
theorem hull3_nodup {pts : List P3} (hp : ∀ p ∈ pts, isPt p) (hne : pts ≠ []) : (hull3 pts).Nodup := by
  unfold hull3
  have h := hull_nodup (R := sortD (pts.map (sc (und pts)))) (sortD_asc _) (sortD_ne (by simpa using hne))
  refine List.pairwise_map.mpr (List.Pairwise.imp_of_mem (fun {a b} ha hb hab e => ?_) h)
  obtain ⟨p, _, p2, p3⟩ := h3_row hp (hull_mem (sortD_asc _) (sortD_ne (by simpa using hne)) ha)
  obtain ⟨q, _, q2, q3⟩ := h3_row hp (hull_mem (sortD_asc _) (sortD_ne (by simpa using hne)) hb)
  rw [p3, q3] at e
  exact hab (by rw [p2, q2, e])
theorem opp_neg {f : P2} {p q : P3} : crossPt (-f.1, -f.2) p q = crossPt f p q := by
  have e : ∀ z, lf (-f.1, -f.2) z = - lf f z := fun z => by unfold lf; simp only; grind
  unfold crossPt pc
  rw [e, e, Int.natAbs_neg, Int.natAbs_neg]
section
variable {f : P2} (hf : f ≠ (0, 0)) (hn : nrm f) {L : List P3} (h : Poly L)
include hf hn h
theorem found_small : ∀ s ∈ progFound f L, sml 432 s := fun s hs => by
  rcases (prog_cutting f L).of s hs with ⟨z, _⟩ | ⟨p, q, z, o, e⟩
  · exact h.sm s z
  · rw [e]
    obtain ⟨m1, m2⟩ := cyc_mem z
    exact cp_small hn (h.pts p m1) (h.pts q m2) o (h.edge p q z (opp_ne o))
/-- at most two crossings -/
theorem found_few : ∃ X Y : P3, ∀ s ∈ progFound f L, s ∈ L ++ [X, Y] := by
  have c1 : ∃ X : P3, ∀ p q, (p, q) ∈ cyc L → 0 < lf f p → lf f q < 0 → crossPt f p q = X := by
    rcases Classical.em (∃ p q, (p, q) ∈ cyc L ∧ 0 < lf f p ∧ lf f q < 0) with ⟨p, q, a, b, c⟩ | hno
    · exact ⟨crossPt f p q, fun p2 q2 a2 b2 c2 => down_one h.pts h.b a2 a b2 c2 b c⟩
    · exact ⟨(0, 0, 1), fun p q a b c => absurd ⟨p, q, a, b, c⟩ hno⟩
  have e : ∀ z, lf (-f.1, -f.2) z = - lf f z := fun z => by unfold lf; simp only; grind
  have c2 : ∃ X : P3, ∀ p q, (p, q) ∈ cyc L → lf f p < 0 → 0 < lf f q → crossPt f p q = X := by
    rcases Classical.em (∃ p q, (p, q) ∈ cyc L ∧ lf f p < 0 ∧ 0 < lf f q) with ⟨p, q, a, b, c⟩ | hno
    · refine ⟨crossPt f p q, fun p2 q2 a2 b2 c2 => ?_⟩
      rw [← opp_neg, ← opp_neg (p := p)]
      exact down_one h.pts h.b a2 a (by rw [e]; omega) (by rw [e]; omega) (by rw [e]; omega) (by rw [e]; omega)
    · exact ⟨(0, 0, 1), fun p q a b c => absurd ⟨p, q, a, b, c⟩ hno⟩
  obtain ⟨X, hX⟩ := c1
  obtain ⟨Y, hY⟩ := c2
  refine ⟨X, Y, fun s hs => ?_⟩
  rcases (prog_cutting f L).of s hs with ⟨z, _⟩ | ⟨p, q, z, o, e⟩
  · exact List.mem_append_left _ z
  · refine List.mem_append_right _ ?_
    rw [e]
    rcases o with ⟨o1, o2⟩ | ⟨o1, o2⟩
    · rw [hY p q z o1 o2]; simp
    · rw [hX p q z o1 o2]; simp
/-- a form not below 0 on what is left is not below 0 at a chord's crossing -/
theorem left_chord {G : P3} (hG : ∀ s ∈ progFound f L, 0 ≤ frm G s) {c d : P3} (hc : c ∈ L) (hd : d ∈ L) (h1 : 0 < lf f c) (h2 : lf f d ≤ 0) : 0 ≤ frm G (xing f c d) := by
  obtain ⟨p, q, a1, a2, a3⟩ := cyc_ivt (P := fun x => 0 < lf f x) ⟨c, hc, h1⟩ ⟨d, hd, by omega⟩
  obtain ⟨p', q', b1, b2, b3⟩ := cyc_ivt (P := fun x => ¬ 0 < lf f x) ⟨d, hd, by omega⟩ ⟨c, hc, fun z => z h1⟩
  have b3 : 0 < lf f q' := Classical.byContradiction b3
  have C := prog_cutting f L
  have key : ∀ a b : P3, ((a, b) ∈ cyc L ∨ (b, a) ∈ cyc L) → a ∈ L → b ∈ L → 0 < lf f a → lf f b ≤ 0 → 0 ≤ frm G (xing f a b) := fun a b hab ha hb l1 l2 => by
    rw [xing_frm]
    by_cases hz : lf f b = 0
    · rw [hz]
      have := mul_nn (Int.le_of_lt l1) (hG b (C.kept b hb l2))
      omega
    · rcases hab with hab | hab
      · have o : opp f a b := .inr ⟨l1, by omega⟩
        have z := (cp_nn_iff (h.pts a ha).1 (h.pts b hb).1 o G).mp (hG _ (C.crs a b hab o))
        have e1 : ((lf f b).natAbs : Int) = - lf f b := by omega
        have e2 : ((lf f a).natAbs : Int) = lf f a := by omega
        rw [e1, e2] at z
        omega
      · have o : opp f b a := .inl ⟨by omega, l1⟩
        have z := (cp_nn_iff (h.pts b hb).1 (h.pts a ha).1 o G).mp (hG _ (C.crs b a hab o))
        have e1 : ((lf f b).natAbs : Int) = - lf f b := by omega
        have e2 : ((lf f a).natAbs : Int) = lf f a := by omega
        rw [e1, e2] at z
        omega
  obtain ⟨m1, m2⟩ := cyc_mem a1
  obtain ⟨m3, m4⟩ := cyc_mem b1
  exact chord h.pts h.b ⟨a1, a2, by omega, b1, by omega, b3⟩ (key p q (.inl a1) m1 m2 a2 (by omega)) (key q' p' (.inr b1) m4 m3 b3 (by omega)) hc hd h1 h2
/-- so an edge of what is left has all of the polygon to its left, where an end lies below the line -/
theorem left_edge {p q : P3} (hpq : ∀ s ∈ progFound f L, 0 ≤ det3 p q s) {c : P3} (hc : c = p ∨ c = q) (hcL : c ∈ L) (hc0 : lf f c < 0) : ∀ r ∈ L, 0 ≤ det3 p q r := by
  intro r hr
  by_cases hle : lf f r ≤ 0
  · exact hpq r ((prog_cutting f L).kept r hr hle)
  · have z := left_chord hf hn h (G := side3 p q) (fun s hs => by rw [side_det]; exact hpq s hs) hr hcL (by omega) (Int.le_of_lt hc0)
    rw [xing_frm, side_det, side_det] at z
    have e : det3 p q c = 0 := by
      rcases hc with e | e
      · subst e; unfold det3; grind
      · subst e; unfold det3; grind
    rw [e, Int.mul_zero] at z
    exact nonneg_of_mul_nonneg (show 0 < -(lf f c) by omega) (by omega)
theorem poly_hull (hne : progFound f L ≠ []) : Poly (hull3 (progFound f L)) := by
  have C := prog_cutting f L
  have hS := C.pts h.pts
  have hSle := C.le h.pts
  refine ⟨hull3_ne hS hne, fun p hp => hS p (hull3_mem hS hne hp), fun p hp => found_small hf hn h p (hull3_mem hS hne hp), hull3_nodup hS hne, fun p q hpq r hr => hull3_pairs hS hne hpq r (hull3_mem hS hne hr), fun p q hpq hne2 => ?_⟩
  obtain ⟨m1, m2⟩ := cyc_mem hpq
  have s1 := hull3_mem hS hne m1
  have s2 := hull3_mem hS hne m2
  have hb := hull3_pairs hS hne hpq
  have inL : ∀ s ∈ progFound f L, lf f s < 0 → s ∈ L := fun s hs hlt => by
    rcases C.of s hs with ⟨z, _⟩ | ⟨a, b, z, o, e⟩
    · exact z
    · obtain ⟨m3, m4⟩ := cyc_mem z
      have := cp_zero (h.pts a m3).1 (h.pts b m4).1 o
      rw [← e] at this
      omega
  have alone : ∀ s, s ∈ L → (s, s) ∈ cyc L → ∀ t ∈ progFound f L, t = s := fun s hs hss t ht => by
    have eL := cyc_self h.nd hss
    rcases C.of t ht with ⟨z, _⟩ | ⟨a, b, z, o, e⟩
    · rw [eL] at z; exact List.mem_singleton.mp z
    · exfalso
      obtain ⟨m3, m4⟩ := cyc_mem z
      rw [eL] at m3 m4
      exact opp_ne o ((List.mem_singleton.mp m3).trans (List.mem_singleton.mp m4).symm)
  by_cases hp0 : lf f p < 0
  · have pL := inL p s1 hp0
    obtain ⟨n, hpn⟩ := cyc_succ pL
    have nL := (cyc_mem hpn).2
    have pn : p ≠ n := fun e => by subst e; exact hne2 (alone p pL hpn q s2).symm
    obtain ⟨F, f1, f2, f3, f4⟩ := h.edge p n hpn pn
    have z1 : 0 ≤ det3 p n q := by
      rw [← side_det]
      exact C.nn h.pts (fun r hr => by rw [side_det]; exact h.b p n hpn r hr) q s2
    have z2 := left_edge hf hn h hb (.inl rfl) pL hp0 n nL
    have e : det3 p q n = - det3 p n q := by unfold det3; grind
    exact ⟨F, f1, f2, f3, on_line (h.pts p pL) (h.pts n nL) pn f3 f4 (by omega)⟩
  · by_cases hq0 : lf f q < 0
    · have qL := inL q s2 hq0
      obtain ⟨n, hpn⟩ := cyc_pred qL
      have nL := (cyc_mem hpn).1
      have qn : n ≠ q := fun e => by subst e; exact hne2 (alone n qL hpn p s1)
      obtain ⟨F, f1, f2, f3, f4⟩ := h.edge n q hpn qn
      have z1 : 0 ≤ det3 n q p := by
        rw [← side_det]
        exact C.nn h.pts (fun r hr => by rw [side_det]; exact h.b n q hpn r hr) p s1
      have z2 := left_edge hf hn h hb (.inr rfl) qL hq0 n nL
      have e : det3 p q n = - det3 n q p := by unfold det3; grind
      exact ⟨F, f1, f2, on_line (h.pts n nL) (h.pts q qL) qn f3 f4 (by omega), f4⟩
    · have := hSle p s1
      have := hSle q s2
      exact (keeps_r2 hf hn).line p q (by omega) (by omega)
theorem poly_len (hne : progFound f L ≠ []) : (hull3 (progFound f L)).length ≤ L.length + 2 ∧ (sortD ((progFound f L).map (sc (und (progFound f L))))).length ≤ L.length + 2 := by
  obtain ⟨X, Y, hXY⟩ := found_few hf hn h
  have := hull3_len ((prog_cutting f L).pts h.pts) hne hXY
  rw [List.length_append] at this
  exact this
end
end Sh
end
section
set_option linter.all false
/-! The drawn polygon. -/
namespace Sh
def spot (s : Int) (a : P2) : P3 := red (a.1, a.2, s)
def speeds (s : Int) (rim : List P2) : List P3 := rim.map (spot s)
def sm2 (N : Int) (a : P2) : Prop := (-N ≤ a.1 ∧ a.1 ≤ N) ∧ (-N ≤ a.2 ∧ a.2 ≤ N)
/-! scaled dots -/
def sl2 (k : Int) (a : P2) : P2 := (k * a.1, k * a.2)
theorem sl_or (k : Int) (a b c : P2) : orient (sl2 k a) (sl2 k b) (sl2 k c) = k * k * orient a b c := by unfold orient sl2; grind
theorem sl_or_pos {k : Int} (hk : 0 < k) (a b c : P2) : 0 < orient (sl2 k a) (sl2 k b) (sl2 k c) ↔ 0 < orient a b c := by
  rw [sl_or]
  have h2 : 0 < k * k := Int.mul_pos hk hk
  constructor
  · intro h; exact pos_of_mul_pos h2 h
  · intro h; exact Int.mul_pos h2 h
theorem sl_lt {k : Int} (hk : 0 < k) {a b : P2} : lt2 (sl2 k a) (sl2 k b) ↔ lt2 a b := by
  unfold lt2 sl2
  simp only
  have e1 : k * a.1 < k * b.1 ↔ a.1 < b.1 := Int.mul_lt_mul_left hk
  have e2 : k * a.2 < k * b.2 ↔ a.2 < b.2 := Int.mul_lt_mul_left hk
  have e3 : k * a.1 = k * b.1 ↔ a.1 = b.1 := ⟨fun h => Int.eq_of_mul_eq_mul_left (by omega) h, fun h => by rw [h]⟩
  rw [e1, e2, e3]
theorem sl_inj {k : Int} (hk : 0 < k) {a b : P2} (h : sl2 k a = sl2 k b) : a = b :=
  ext2 (Int.eq_of_mul_eq_mul_left (by omega) (congrArg Prod.fst h)) (Int.eq_of_mul_eq_mul_left (by omega) (congrArg Prod.snd h))
theorem pops_sl {k : Int} (hk : 0 < k) {z : P2} : ∀ (st : List P2), pops (st.map (sl2 k)) (sl2 k z) = (pops st z).map (sl2 k)
  | [] => rfl
  | [t] => rfl
  | t :: t' :: r => by
    show (if 0 < orient (sl2 k t') (sl2 k t) (sl2 k z) then sl2 k t :: sl2 k t' :: r.map (sl2 k) else pops ((t' :: r).map (sl2 k)) (sl2 k z)) = (if 0 < orient t' t z then t :: t' :: r else pops (t' :: r) z).map (sl2 k)
    rw [pops_sl hk (t' :: r)]
    by_cases c : 0 < orient t' t z
    · rw [if_pos c, if_pos ((sl_or_pos hk _ _ _).mpr c)]; rfl
    · rw [if_neg c, if_neg (fun q => c ((sl_or_pos hk _ _ _).mp q))]
theorem fold_sl {k : Int} (hk : 0 < k) : ∀ (S st : List P2), (S.map (sl2 k)).foldl push (st.map (sl2 k)) = (S.foldl push st).map (sl2 k)
  | [], st => rfl
  | z :: S, st => by
    show (S.map (sl2 k)).foldl push (sl2 k z :: pops (st.map (sl2 k)) (sl2 k z)) = (S.foldl push (push st z)).map (sl2 k)
    rw [pops_sl hk, ← fold_sl hk S (push st z)]
    rfl
theorem chain_sl {k : Int} (hk : 0 < k) (S : List P2) : chain (S.map (sl2 k)) = (chain S).map (sl2 k) := by
  unfold chain chainR
  rw [List.map_reverse]
  exact congrArg List.reverse (fold_sl hk S [])
theorem hullZ_sl {k : Int} (hk : 0 < k) (R : List P2) : hullZ (R.map (sl2 k)) = (hullZ R).map (sl2 k) := by
  unfold hullZ
  rw [List.length_map]
  split
  · rfl
  · rw [chain_sl hk, ← List.map_reverse, chain_sl hk, List.map_append, ← List.map_dropLast, ← List.map_dropLast]
theorem map_inj_list {α β : Type} {f : α → β} (hf : ∀ a b, f a = f b → a = b) : ∀ {l l' : List α}, l.map f = l'.map f → l = l'
  | [], [], _ => rfl
  | [], b :: l', h => by cases h
  | a :: l, [], h => by cases h
  | a :: l, b :: l', h => by
    obtain ⟨h1, h2⟩ := List.cons.inj h
    rw [hf a b h1, map_inj_list hf h2]

theorem det_red {p q r : P3} (hp : 0 < p.2.2) (hq : 0 < q.2.2) (hr : 0 < r.2.2) (h : 0 ≤ det3 p q r) : 0 ≤ det3 (red p) (red q) (red r) := by
  have e1 := red_mul (p := p)
  have e2 := red_mul (p := q)
  have e3 := red_mul (p := r)
  have g1 : 0 < g3 p := g3_pos (by omega)
  have g2 : 0 < g3 q := g3_pos (by omega)
  have g3' : 0 < g3 r := g3_pos (by omega)
  generalize red p = P at *
  generalize red q = Q at *
  generalize red r = S at *
  rw [← e1, ← e2, ← e3] at h
  generalize g3 p = a at *
  generalize g3 q = b at *
  generalize g3 r = c at *
  have e : det3 (smul a P) (smul b Q) (smul c S) = a * b * c * det3 P Q S := by unfold det3 smul; grind
  rw [e] at h
  exact nonneg_of_mul_nonneg (Int.mul_pos (Int.mul_pos g1 g2) g3') h
theorem red_le {p : P3} (hw : 0 < p.2.2) {B C : Int} (h1 : -B ≤ p.1 ∧ p.1 ≤ B) (h2 : -B ≤ p.2.1 ∧ p.2.1 ≤ B) (h3 : p.2.2 ≤ C) : (-B ≤ (red p).1 ∧ (red p).1 ≤ B) ∧ (-B ≤ (red p).2.1 ∧ (red p).2.1 ≤ B) ∧ (red p).2.2 ≤ C := by
  have e := red_mul (p := p)
  have g : 0 < g3 p := g3_pos (by omega)
  have k1 : g3 p * (red p).1 = p.1 := congrArg (fun z : P3 => z.1) e
  have k2 : g3 p * (red p).2.1 = p.2.1 := congrArg (fun z : P3 => z.2.1) e
  have k3 : g3 p * (red p).2.2 = p.2.2 := congrArg (fun z : P3 => z.2.2) e
  have b3 := small_mul (k := g3 p) (x := (red p).2.2) (B := C) (by omega) (by omega)
  exact ⟨small_mul (k := g3 p) (by omega) (by omega), small_mul (k := g3 p) (by omega) (by omega), b3.2⟩
theorem spot_inj {s : Int} (hs : 0 < s) {a b : P2} (h : spot s a = spot s b) : a = b := by
  have e1 := red_mul (p := (a.1, a.2, s))
  have e2 := red_mul (p := (b.1, b.2, s))
  have h' : red (a.1, a.2, s) = red (b.1, b.2, s) := h
  rw [h'] at e1
  have g1 : 0 < g3 (a.1, a.2, s) := g3_pos (by show s ≠ 0; omega)
  have w := (red_pt (p := (b.1, b.2, s)) hs).1
  generalize red (b.1, b.2, s) = P at *
  have k1 : g3 (a.1, a.2, s) * P.2.2 = s := congrArg (fun z : P3 => z.2.2) e1
  have k2 : g3 (b.1, b.2, s) * P.2.2 = s := congrArg (fun z : P3 => z.2.2) e2
  have eg : g3 (a.1, a.2, s) = g3 (b.1, b.2, s) := Int.eq_of_mul_eq_mul_right (by omega) (k1.trans k2.symm)
  rw [eg] at e1
  have e3 := e1.symm.trans e2
  exact ext2 (congrArg (fun z : P3 => z.1) e3) (congrArg (fun z : P3 => z.2.1) e3)
theorem side_ne {p q : P3} (hp : isPt p) (hq : isPt q) (h : p ≠ q) : side3 p q ≠ (0, 0, 0) := fun e => by
  obtain ⟨z, hz⟩ := pt_indep hp hq h
  rw [← side_det, e] at hz
  unfold frm at hz
  simp at hz
theorem lcm_dvd_fold : ∀ (pts : List P3) (u s : Int), u ∣ s → (∀ p ∈ pts, p.2.2 ∣ s) → pts.foldl (fun u p => ((Nat.lcm u.natAbs p.2.2.natAbs : Nat) : Int)) u ∣ s
  | [], u, s, h, _ => h
  | q :: pts, u, s, h, hp => lcm_dvd_fold pts _ s (Int.natAbs_dvd_natAbs.mp (Nat.lcm_dvd (Int.natAbs_dvd_natAbs.mpr h) (Int.natAbs_dvd_natAbs.mpr (hp q List.mem_cons_self)))) fun p hp' => hp p (List.mem_cons_of_mem _ hp')
theorem cyc_nodup_ne {α : Type} {l : List α} (h : l.Nodup) (h2 : 2 ≤ l.length) {a b : α} (hab : (a, b) ∈ cyc l) : a ≠ b := fun e => by
  subst e
  rw [cyc_self h hab] at h2
  simp at h2
section
variable {R : List P2} (hp : R.Pairwise lt2) (hne : R ≠ []) (h6 : ∀ a ∈ R, sm2 6 a) {s : Int} (hs : 1 ≤ s ∧ s ≤ 3)
include hp hne h6 hs
theorem sp_pt : ∀ p ∈ speeds s (hullZ R), isPt p := fun p h => by
  obtain ⟨a, ha, e⟩ := List.mem_map.mp h
  rw [← e]
  exact red_pt (by show 0 < s; omega)
theorem sp_small : ∀ p ∈ speeds s (hullZ R), ((-6 ≤ p.1 ∧ p.1 ≤ 6) ∧ (-6 ≤ p.2.1 ∧ p.2.1 ≤ 6) ∧ p.2.2 ≤ 3) := fun p h => by
  obtain ⟨a, ha, e⟩ := List.mem_map.mp h
  have q := h6 a (hull_mem hp hne ha)
  rw [← e]
  exact red_le (show 0 < s by omega) q.1 q.2 hs.2
theorem sp_line {p q : P3} (h1 : p ∈ speeds s (hullZ R)) (h2 : q ∈ speeds s (hullZ R)) : R2 p q := by
  have p1 := sp_pt hp hne h6 hs p h1
  have p2 := sp_pt hp hne h6 hs q h2
  obtain ⟨a1, a2, a3⟩ := sp_small hp hne h6 hs p h1
  obtain ⟨b1, b2, b3⟩ := sp_small hp hne h6 hs q h2
  by_cases e : p = q
  · subst e
    refine ⟨(0, p.2.2, -p.2.1), ?_, fun e => ?_, ?_, ?_⟩
    · unfold sml
      have := p1.1
      simp only
      omega
    · have : p.2.2 = 0 := congrArg (fun z : P3 => z.2.1) e
      have := p1.1
      omega
    · unfold frm; simp only; grind
    · unfold frm; simp only; grind
  · refine ⟨side3 p q, ?_, side_ne p1 p2 e, ?_, ?_⟩
    · have w1 : -3 ≤ p.2.2 ∧ p.2.2 ≤ 3 := by have := p1.1; omega
      have w2 : -3 ≤ q.2.2 ∧ q.2.2 ≤ 3 := by have := p2.1; omega
      have c1 := prod_bd a2 w2
      have c2 := prod_bd w1 b2
      have c3 := prod_bd w1 b1
      have c4 := prod_bd a1 w2
      have c5 := prod_bd a1 b2
      have c6 := prod_bd a2 b1
      unfold sml side3
      simp only
      omega
    · rw [side_det]; unfold det3; grind
    · rw [side_det]; unfold det3; grind
theorem sp_law : LawL (speeds s (hullZ R)) where
  pts := sp_pt hp hne h6 hs
  sm := fun p h => by
    obtain ⟨a1, a2, a3⟩ := sp_small hp hne h6 hs p h
    have := (sp_pt hp hne h6 hs p h).1
    unfold sml
    omega
  edge := fun p q h => sp_line hp hne h6 hs (cyc_mem h).1 (cyc_mem h).2
theorem sp_poly : Poly (speeds s (hullZ R)) where
  ne := fun e => hull_ne hp hne (List.map_eq_nil_iff.mp e)
  pts := sp_pt hp hne h6 hs
  sm := (sp_law hp hne h6 hs).sm
  nd := List.pairwise_map.mpr (List.Pairwise.imp (fun {a b} hab e => hab (spot_inj (by omega) e)) (hull_nodup hp hne))
  b := fun p q h r hr => by
    unfold speeds at h
    rw [cyc_map] at h
    obtain ⟨⟨a, b⟩, hab, e⟩ := List.mem_map.mp h
    have e1 : spot s a = p := congrArg Prod.fst e
    have e2 : spot s b = q := congrArg Prod.snd e
    obtain ⟨c, hc, e3⟩ := List.mem_map.mp hr
    rw [← e1, ← e2, ← e3]
    refine det_red (show 0 < s by omega) (show 0 < s by omega) (show 0 < s by omega) ?_
    have o := hull_pairs hp hne hab c (hull_mem hp hne hc)
    have e4 : det3 (a.1, a.2, s) (b.1, b.2, s) (c.1, c.2, s) = s * orient a b c := by unfold det3 orient; grind
    rw [e4]
    exact mul_nn (by omega) o
  edge := fun p q h _ => sp_line hp hne h6 hs (cyc_mem h).1 (cyc_mem h).2
/-- the program's look at the polygon -/
theorem sp_hull : hull3 (speeds s (hullZ R)) = speeds s (hullZ R) := by
  have hs0 : 0 < s := by omega
  have hpt := sp_pt hp hne h6 hs
  have hw : ∀ p ∈ speeds s (hullZ R), 0 < p.2.2 := fun p h => (hpt p h).1
  obtain ⟨hu, hd⟩ := und_ok hw
  have hds : ∀ p ∈ speeds s (hullZ R), p.2.2 ∣ s := fun p h => by
    obtain ⟨a, ha, e⟩ := List.mem_map.mp h
    have k : g3 (a.1, a.2, s) * (spot s a).2.2 = s := congrArg (fun z : P3 => z.2.2) (red_mul (p := (a.1, a.2, s)))
    rw [← e]
    exact ⟨g3 (a.1, a.2, s), by rw [Int.mul_comm]; exact k.symm⟩
  obtain ⟨k, hk⟩ : und (speeds s (hullZ R)) ∣ s := lcm_dvd_fold _ 1 s (Int.one_dvd _) hds
  have hk0 : 0 < k := pos_of_mul_pos hu (by omega)
  -- a dot is its spot scaled
  have hdot : ∀ a ∈ hullZ R, sl2 k (sc (und (speeds s (hullZ R))) (spot s a)) = a := fun a ha => by
    have hm : spot s a ∈ speeds s (hullZ R) := List.mem_map.mpr ⟨a, ha, rfl⟩
    obtain ⟨c1, c2⟩ := sc_fact hu (hw _ hm) (hd _ hm)
    have e := red_mul (p := (a.1, a.2, s))
    have k1 : g3 (a.1, a.2, s) * (spot s a).1 = a.1 := congrArg (fun z : P3 => z.1) e
    have k2 : g3 (a.1, a.2, s) * (spot s a).2.1 = a.2 := congrArg (fun z : P3 => z.2.1) e
    have k3 : g3 (a.1, a.2, s) * (spot s a).2.2 = s := congrArg (fun z : P3 => z.2.2) e
    have w := hw _ hm
    unfold sc sl2
    simp only
    generalize und (speeds s (hullZ R)) / (spot s a).2.2 = d at *
    generalize spot s a = P at *
    generalize und (speeds s (hullZ R)) = u at *
    generalize g3 (a.1, a.2, s) = g at *
    have eg : g = k * d := by
      refine Int.eq_of_mul_eq_mul_right (show P.2.2 ≠ 0 by omega) ?_
      rw [k3, hk, ← c2]
      grind
    rw [eg] at k1 k2
    refine ext2 ?_ ?_
    · show k * (P.1 * d) = a.1
      grind
    · show k * (P.2.1 * d) = a.2
      grind
  have e1 : ((speeds s (hullZ R)).map (sc (und (speeds s (hullZ R))))).map (sl2 k) = hullZ R := by
    have hspd : (speeds s (hullZ R)).map (sc (und (speeds s (hullZ R)))) = (hullZ R).map fun a => sc (und (speeds s (hullZ R))) (spot s a) := by
      unfold speeds; rw [List.map_map]; rfl
    rw [hspd, List.map_map]
    conv => rhs; rw [← List.map_id (hullZ R)]
    exact List.map_congr_left fun a ha => hdot a ha
  have e2 : hullZ (sortD ((speeds s (hullZ R)).map (sc (und (speeds s (hullZ R)))))) = (speeds s (hullZ R)).map (sc (und (speeds s (hullZ R)))) := by
    refine map_inj_list (f := sl2 k) (fun a b h => sl_inj hk0 h) ?_
    rw [e1, ← hullZ_sl hk0]
    refine hull_idem hp hne (List.pairwise_map.mpr (List.Pairwise.imp (fun {a b} h => (sl_lt hk0).mpr h) (sortD_asc _))) fun x => ?_
    have q : x ∈ hullZ R ↔ x ∈ ((speeds s (hullZ R)).map (sc (und (speeds s (hullZ R))))).map (sl2 k) := by rw [e1]
    rw [q]
    simp only [List.mem_map, mem_sortD]
  unfold hull3
  rw [e2, List.map_map]
  conv => rhs; rw [← List.map_id (speeds s (hullZ R))]
  exact List.map_congr_left fun p hm => red_sc hu (hpt p hm) (hd p hm)
end
end Sh
end
section
set_option linter.all false
/-! What is left and what bars it; two weights are enough. -/
namespace Sh
def Okf (fs : List P2) : Prop := ∀ f ∈ fs, f ≠ (0, 0) ∧ nrm f
def progCut (f : P2) (L : List P3) : Option (List P3) := if progFound f L = [] then none else some (hull3 (progFound f L))
def partOff (o : Option (List P3)) (fs : List P2) : Option (List P3) := fs.foldl (fun o f => o.bind fun L => progCut f L) o
def lawLeft (L : List P3) (fs : List P2) : List P3 := fs.foldl (fun L f => lawCut f L) L
def Barred (fs : List P2) (L : List P3) : Prop := ∃ m, InCone fs m ∧ Pos m L
theorem part_none (fs : List P2) : partOff none fs = none := by
  induction fs with
  | nil => rfl
  | cons f fs ih => exact ih
theorem prog_run : ∀ (fs : List P2) (L : List P3), Okf fs → (L = [] ∨ Poly L) → ∃ Lf, Run fs L Lf ∧ (L = [] → Lf = []) ∧ (L ≠ [] → (partOff (some L) fs = none → Lf = []) ∧ ∀ P, partOff (some L) fs = some P → Lf = P ∧ Poly P ∧ P.length ≤ L.length + 2 * fs.length)
  | [], L, _, hL => ⟨L, .nil, fun e => e, fun hne => ⟨fun e => (by cases e), fun P e => by cases e; exact ⟨rfl, hL.resolve_left hne, Nat.le_add_right _ _⟩⟩⟩
  | f :: fs, L, hk, hL => by
    have hf := hk f List.mem_cons_self
    have hk' : Okf fs := fun g hg => hk g (List.mem_cons_of_mem _ hg)
    rcases Classical.em (L = []) with e | hne
    · subst e
      obtain ⟨Lf, r, h1, _⟩ := prog_run fs [] hk' (.inl rfl)
      exact ⟨Lf, .cons ((prog_cutting f []).ok (fun p h => by cases h)) r, fun _ => h1 rfl, fun z => absurd rfl z⟩
    · have hP := hL.resolve_left hne
      rcases Classical.em (progFound f L = []) with e | hS
      · obtain ⟨Lf, r, h1, _⟩ := prog_run fs [] hk' (.inl rfl)
        have hc : CutOK f L [] := by
          have := (prog_cutting f L).ok hP.pts
          rw [e] at this
          exact this
        have en : partOff (some L) (f :: fs) = none := by
          show partOff (progCut f L) fs = none
          unfold progCut
          rw [if_pos e]
          exact part_none fs
        refine ⟨Lf, .cons hc r, fun z => absurd z hne, fun _ => ⟨fun _ => h1 rfl, fun P q => ?_⟩⟩
        rw [en] at q; cases q
      · have hH := poly_hull hf.1 hf.2 hP hS
        obtain ⟨Lf, r, _, h2⟩ := prog_run fs (hull3 (progFound f L)) hk' (.inr hH)
        have hc : CutOK f L (hull3 (progFound f L)) := ((prog_cutting f L).ok hP.pts).hull ((prog_cutting f L).pts hP.pts) hS
        have en : partOff (some L) (f :: fs) = partOff (some (hull3 (progFound f L))) fs := by
          show partOff (progCut f L) fs = _
          unfold progCut
          rw [if_neg hS]
        obtain ⟨h3, h4⟩ := h2 hH.ne
        refine ⟨Lf, .cons hc r, fun z => absurd z hne, fun _ => ⟨fun q => h3 (en ▸ q), fun P q => ?_⟩⟩
        obtain ⟨q1, q2, q3⟩ := h4 P (en ▸ q)
        have := (poly_len hf.1 hf.2 hP hS).1
        refine ⟨q1, q2, ?_⟩
        rw [List.length_cons]
        omega
theorem law_run : ∀ (fs : List P2) (L : List P3), Okf fs → LawL L → Run fs L (lawLeft L fs) ∧ LawL (lawLeft L fs)
  | [], L, _, h => ⟨.nil, h⟩
  | f :: fs, L, hk, h => by
    have hf := hk f List.mem_cons_self
    obtain ⟨r, k⟩ := law_run fs (lawCut f L) (fun g hg => hk g (List.mem_cons_of_mem _ hg)) (h.cut hf.1 hf.2)
    exact ⟨.cons (law_cutting.ok h.pts) r, k⟩
theorem law_ctr : ∀ (fs : List P2) (L : List P3), Okf fs → LawL L → Ctr L → Ctr (lawLeft L fs)
  | [], L, _, _, h => h
  | f :: fs, L, hk, hl, h => by
    have hf := hk f List.mem_cons_self
    exact law_ctr fs (lawCut f L) (fun g hg => hk g (List.mem_cons_of_mem _ hg)) (hl.cut hf.1 hf.2) (ctr_law hf.1 hl.pts h)
theorem ctr_nil : ¬ Ctr [] := fun h => h.no (0, 0) fun p hp => by cases hp
theorem prog_ctr : ∀ (fs : List P2) (L : List P3), Okf fs → Poly L → Ctr L → partOff (some L) fs ≠ none
  | [], L, _, _, _ => fun e => by cases e
  | f :: fs, L, hk, hP, h => by
    have hf := hk f List.mem_cons_self
    have hn := ctr_no (prog_cutting f L) hP.pts h
    have hS : progFound f L ≠ [] := fun e => hn (0, 0) (by rw [e]; intro p hp; cases hp)
    have en : partOff (some L) (f :: fs) = partOff (some (hull3 (progFound f L))) fs := by
      show partOff (progCut f L) fs = _
      unfold progCut
      rw [if_neg hS]
    rw [en]
    exact prog_ctr fs _ (fun g hg => hk g (List.mem_cons_of_mem _ hg)) (poly_hull hf.1 hf.2 hP hS) (ctr_hull ((prog_cutting f L).pts hP.pts) hn)
theorem ctr_poly {L : List P3} (h : Poly L) (hn : ∀ m, ¬ Pos m L) : Ctr L := by
  refine ⟨hn, fun p q hpq => Classical.byContradiction fun hneg => hn ((side3 p q).1, (side3 p q).2.1) fun r hr => ?_⟩
  have z := h.b p q hpq r hr
  rw [← side_det] at z
  have hw := (h.pts r hr).1
  have hneg' : 0 < -(side3 p q).2.2 := by unfold side3; unfold cr at hneg; simp only; omega
  have a1 := Int.mul_pos hneg' hw
  unfold frm at z
  unfold lf
  simp only
  have e : -(side3 p q).2.2 * r.2.2 = -((side3 p q).2.2 * r.2.2) := Int.neg_mul _ _
  omega
section
variable {L : List P3} (hP : Poly L) {fs : List P2} (hk : Okf fs)
include hP hk
theorem prog_iff : partOff (some L) fs = none ↔ Barred fs L := by
  obtain ⟨Lf, r, _, h⟩ := prog_run fs L hk (.inr hP)
  obtain ⟨h1, h2⟩ := h hP.ne
  constructor
  · intro e
    rcases Classical.em (∃ m0, Pos m0 L) with ⟨m0, h0⟩ | hno
    · exact run_back r h0 (h1 e)
    · exact absurd e (prog_ctr fs L hk hP (ctr_poly hP fun m hm => hno ⟨m, hm⟩))
  · rintro ⟨m, k, hm⟩
    have e := run_sound r k hm
    cases q : partOff (some L) fs with
    | none => rfl
    | some P =>
      obtain ⟨q1, q2, _⟩ := h2 P q
      exact absurd (q1.symm.trans e) q2.ne
theorem law_iff (hl : LawL L) : lawLeft L fs = [] ↔ Barred fs L := by
  obtain ⟨r, _⟩ := law_run fs L hk hl
  constructor
  · intro e
    rcases Classical.em (∃ m0, Pos m0 L) with ⟨m0, h0⟩ | hno
    · exact run_back r h0 e
    · have := law_ctr fs L hk hl (ctr_poly hP fun m hm => hno ⟨m, hm⟩)
      rw [e] at this
      exact absurd this ctr_nil
  · rintro ⟨m, k, hm⟩
    exact run_sound r k hm
/-- what is told is in the polygon and holds off all -/
theorem prog_told {P : List P3} (e : partOff (some L) fs = some P) : Poly P ∧ P.length ≤ L.length + 2 * fs.length ∧ ∀ p ∈ P, ∀ g ∈ fs, lf g p ≤ 0 := by
  obtain ⟨Lf, r, _, h⟩ := prog_run fs L hk (.inr hP)
  obtain ⟨h1, h2⟩ := h hP.ne
  obtain ⟨q1, q2, q3⟩ := h2 P e
  subst q1
  exact ⟨q2, q3, fun p hp g hg => (run_le r).2.1 g hg p hp⟩
end
/-- forms not below 0 at a polygon are not below 0 at what is left -/
theorem part_nn {F : P3} : ∀ (fs : List P2) (L P : List P3), Okf fs → Poly L → (∀ p ∈ L, 0 ≤ frm F p) → partOff (some L) fs = some P → ∀ p ∈ P, 0 ≤ frm F p
  | [], L, P, _, _, h, e => by cases e; exact h
  | f :: fs, L, P, hk, hP, h, e => by
    have hf := hk f List.mem_cons_self
    rcases Classical.em (progFound f L = []) with hS | hS
    · have en : partOff (some L) (f :: fs) = none := by
        show partOff (progCut f L) fs = none
        unfold progCut
        rw [if_pos hS]
        exact part_none fs
      rw [en] at e; cases e
    · have en : partOff (some L) (f :: fs) = partOff (some (hull3 (progFound f L))) fs := by
        show partOff (progCut f L) fs = _
        unfold progCut
        rw [if_neg hS]
      rw [en] at e
      refine part_nn fs _ P (fun g hg => hk g (List.mem_cons_of_mem _ hg)) (poly_hull hf.1 hf.2 hP hS) (fun p hp => ?_) e
      exact (prog_cutting f L).nn hP.pts h p (hull3_mem ((prog_cutting f L).pts hP.pts) hS hp)

/-! ### two of the weights are enough -/
theorem InCone.zero : ∀ fs : List P2, InCone fs (0, 0)
  | [] => .nil
  | f :: fs => by
    have := InCone.cons (n := f) 0 (Int.le_refl 0) (InCone.zero fs)
    have e : lin 1 (0, 0) 0 f = (0, 0) := by unfold lin; simp
    rw [e] at this
    exact this
theorem InCone.mem : ∀ {fs : List P2} {f : P2} {w : Int}, f ∈ fs → 0 ≤ w → InCone fs (w * f.1, w * f.2)
  | [], _, _, h, _ => by cases h
  | g :: fs, f, w, h, hw => by
    rcases List.mem_cons.mp h with e | h
    · subst e
      have := InCone.cons (n := f) w hw (InCone.zero fs)
      have e : lin 1 (0, 0) w f = (w * f.1, w * f.2) := by unfold lin; simp
      rw [e] at this
      exact this
    · have := InCone.cons (n := g) 0 (Int.le_refl 0) (InCone.mem h hw)
      have e : lin 1 (w * f.1, w * f.2) 0 g = (w * f.1, w * f.2) := by unfold lin; simp
      rw [e] at this
      exact this
theorem InCone.add {fs : List P2} {m : P2} (h : InCone fs m) : ∀ {m' : P2}, InCone fs m' → InCone fs (m.1 + m'.1, m.2 + m'.2) := by
  induction h with
  | nil => intro m' h'; cases h'; exact .nil
  | @cons n ns m w hw h ih =>
    intro m' h'
    cases h' with
    | @cons _ _ k v hv h2 =>
      have e : ((lin 1 m w n).1 + (lin 1 k v n).1, (lin 1 m w n).2 + (lin 1 k v n).2) = lin 1 (m.1 + k.1, m.2 + k.2) (w + v) n := by unfold lin; refine Prod.ext ?_ ?_ <;> simp only <;> grind
      rw [e]
      exact .cons _ (by omega) (ih h2)
def comb2 (a : Int) (f : P2) (b : Int) (g : P2) : P2 := (a * f.1 + b * g.1, a * f.2 + b * g.2)
theorem pair_cone {fs : List P2} {f g : P2} (hf : f ∈ fs) (hg : g ∈ fs) {a b : Int} (ha : 0 ≤ a) (hb : 0 ≤ b) : InCone fs (comb2 a f b g) := (InCone.mem hf ha).add (InCone.mem hg hb)
theorem cone_pair {f g m : P2} (h : InCone [f, g] m) : ∃ a b, 0 ≤ a ∧ 0 ≤ b ∧ m = comb2 a f b g := by
  cases h with
  | @cons _ _ m1 w hw h1 =>
    cases h1 with
    | @cons _ _ m2 v hv h2 =>
      cases h2
      refine ⟨w, v, hw, hv, ?_⟩
      unfold lin comb2
      refine Prod.ext ?_ ?_ <;> simp only <;> grind
/-- the least share -/
def good (a x b y c z : Int) : Prop := 0 < x ∧ (0 < y → a * y ≤ x * b) ∧ (0 < z → a * z ≤ x * c)
theorem le_cancel {k a b : Int} (hk : 0 < k) (h : k * a ≤ k * b) : a ≤ b := by
  rcases Int.lt_or_le b a with c | c
  · have := Int.mul_lt_mul_of_pos_left c hk
    omega
  · exact c
theorem good_tr {a x b y c z : Int} (hx : 0 < x) (hy : 0 < y) (hz : 0 < z) (h1 : a * y ≤ x * b) (h2 : b * z ≤ y * c) : a * z ≤ x * c := by
  refine le_cancel hy ?_
  have q1 := Int.mul_le_mul_of_nonneg_right h1 (Int.le_of_lt hz)
  have q2 := Int.mul_le_mul_of_nonneg_left h2 (Int.le_of_lt hx)
  have e1 : y * (a * z) = a * y * z := by grind
  have e2 : x * b * z = x * (b * z) := by grind
  have e3 : y * (x * c) = x * (y * c) := by grind
  omega
theorem pick {a b c x y z : Int} (h : 0 < x ∨ 0 < y ∨ 0 < z) : good a x b y c z ∨ good b y a x c z ∨ good c z a x b y := by
  -- the better one of two
  have two : ∀ {a x b y : Int}, 0 < x → 0 < y → a * y ≤ x * b ∨ b * x ≤ y * a := fun {a x b y} _ _ => by
    rcases Int.le_total (a * y) (x * b) with q | q
    · exact .inl q
    · right
      have e1 : b * x = x * b := Int.mul_comm _ _
      have e2 : y * a = a * y := Int.mul_comm _ _
      omega
  by_cases hx : 0 < x
  · by_cases hy : 0 < y
    · by_cases hz : 0 < z
      · rcases two (a := a) (b := b) hx hy with q | q
        · rcases two (a := a) (b := c) hx hz with r | r
          · exact .inl ⟨hx, fun _ => q, fun _ => r⟩
          · exact .inr (.inr ⟨hz, fun _ => r, fun _ => good_tr hz hx hy r q⟩)
        · rcases two (a := b) (b := c) hy hz with r | r
          · exact .inr (.inl ⟨hy, fun _ => q, fun _ => r⟩)
          · exact .inr (.inr ⟨hz, fun _ => good_tr hz hy hx r q, fun _ => r⟩)
      · rcases two (a := a) (b := b) hx hy with q | q
        · exact .inl ⟨hx, fun _ => q, fun w => absurd w hz⟩
        · exact .inr (.inl ⟨hy, fun _ => q, fun w => absurd w hz⟩)
    · by_cases hz : 0 < z
      · rcases two (a := a) (b := c) hx hz with q | q
        · exact .inl ⟨hx, fun w => absurd w hy, fun _ => q⟩
        · exact .inr (.inr ⟨hz, fun _ => q, fun w => absurd w hy⟩)
      · exact .inl ⟨hx, fun w => absurd w hy, fun w => absurd w hz⟩
  · by_cases hy : 0 < y
    · by_cases hz : 0 < z
      · rcases two (a := b) (b := c) hy hz with q | q
        · exact .inr (.inl ⟨hy, fun w => absurd w hx, fun _ => q⟩)
        · exact .inr (.inr ⟨hz, fun w => absurd w hx, fun _ => q⟩)
      · exact .inr (.inl ⟨hy, fun w => absurd w hx, fun w => absurd w hz⟩)
    · have hz : 0 < z := by omega
      exact .inr (.inr ⟨hz, fun w => absurd w hx, fun w => absurd w hy⟩)
theorem good_nn {a x b y c z : Int} (ha : 0 ≤ a) (hb : 0 ≤ b) (hc : 0 ≤ c) (h : good a x b y c z) : 0 ≤ x * b - a * y ∧ 0 ≤ x * c - a * z := by
  obtain ⟨hx, h1, h2⟩ := h
  have key : ∀ {b y : Int}, 0 ≤ b → (0 < y → a * y ≤ x * b) → 0 ≤ x * b - a * y := fun {b y} hb h => by
    by_cases hy : 0 < y
    · have := h hy; omega
    · have q1 := mul_nn (Int.le_of_lt hx) hb
      have q2 := mul_nn ha (show 0 ≤ -y by omega)
      have e : a * -y = -(a * y) := Int.mul_neg _ _
      omega
  exact ⟨key hb h1, key hc h2⟩
def c2 (f g : P2) : Int := f.1 * g.2 - f.2 * g.1
def dt (f g : P2) : Int := f.1 * g.1 + f.2 * g.2
/-- above 0 at L with three weights: with two of them -/
theorem three {L : List P3} {u v w : P2} {a b c : Int} (ha : 0 ≤ a) (hb : 0 ≤ b) (hc : 0 ≤ c) (h : ∀ p ∈ L, 0 < a * lf u p + b * lf v p + c * lf w p) :
    ∃ x y : P2, (x = u ∨ x = v) ∧ (y = v ∨ y = w) ∧ ∃ s t, 0 ≤ s ∧ 0 ≤ t ∧ ∀ p ∈ L, 0 < s * lf x p + t * lf y p := by
  -- by a relation with numbers d1, d2, d3, one of them above 0
  have rel : ∀ d1 d2 d3 : Int, (0 < d1 ∨ 0 < d2 ∨ 0 < d3) → (∀ p : P3, d1 * lf u p + d2 * lf v p + d3 * lf w p = 0) → ∃ x y : P2, (x = u ∨ x = v) ∧ (y = v ∨ y = w) ∧ ∃ s t, 0 ≤ s ∧ 0 ≤ t ∧ ∀ p ∈ L, 0 < s * lf x p + t * lf y p := by
    intro d1 d2 d3 hd hz
    rcases pick (a := a) (b := b) (c := c) hd with g | g | g
    · obtain ⟨g1, g2⟩ := good_nn ha hb hc g
      refine ⟨v, w, .inr rfl, .inr rfl, _, _, g1, g2, fun p hp => ?_⟩
      have e : (d1 * b - a * d2) * lf v p + (d1 * c - a * d3) * lf w p = d1 * (a * lf u p + b * lf v p + c * lf w p) - a * (d1 * lf u p + d2 * lf v p + d3 * lf w p) := by grind
      have := Int.mul_pos g.1 (h p hp)
      rw [e, hz p]
      omega
    · obtain ⟨g1, g2⟩ := good_nn hb ha hc g
      refine ⟨u, w, .inl rfl, .inr rfl, _, _, g1, g2, fun p hp => ?_⟩
      have e : (d2 * a - b * d1) * lf u p + (d2 * c - b * d3) * lf w p = d2 * (a * lf u p + b * lf v p + c * lf w p) - b * (d1 * lf u p + d2 * lf v p + d3 * lf w p) := by grind
      have := Int.mul_pos g.1 (h p hp)
      rw [e, hz p]
      omega
    · obtain ⟨g1, g2⟩ := good_nn hc ha hb g
      refine ⟨u, v, .inl rfl, .inl rfl, _, _, g1, g2, fun p hp => ?_⟩
      have e : (d3 * a - c * d1) * lf u p + (d3 * b - c * d2) * lf v p = d3 * (a * lf u p + b * lf v p + c * lf w p) - c * (d1 * lf u p + d2 * lf v p + d3 * lf w p) := by grind
      have := Int.mul_pos g.1 (h p hp)
      rw [e, hz p]
      omega
  by_cases hD : c2 v w = 0 ∧ c2 w u = 0 ∧ c2 u v = 0
  · obtain ⟨D1, D2, D3⟩ := hD
    -- all along one line: u = 0, or v along u
    by_cases hu : u = (0, 0)
    · exact ⟨v, w, .inr rfl, .inr rfl, b, c, hb, hc, fun p hp => by
        have := h p hp
        have e : lf u p = 0 := by rw [hu]; unfold lf; simp
        rw [e, Int.mul_zero] at this
        omega⟩
    · -- v = (u.v / u.u) u: the relation (u.v, -(u.u), 0) or its opposite
      have huu : 0 < dt u u := by
        unfold dt
        have sq : ∀ x : Int, 0 ≤ x * x := fun x => by
          rcases Int.le_total 0 x with c | c
          · exact Int.mul_nonneg c c
          · exact Int.mul_nonneg_of_nonpos_of_nonpos c c
        have sp : ∀ x : Int, x ≠ 0 → 0 < x * x := fun x hx => by
          rcases Int.lt_or_lt_of_ne hx with c | c
          · exact Int.mul_pos_of_neg_of_neg c c
          · exact Int.mul_pos c c
        have a1 := sq u.1
        have a2 := sq u.2
        rcases Classical.em (u.1 = 0) with e | e
        · have := sp u.2 fun q => hu (Prod.ext e q)
          omega
        · have := sp u.1 e
          omega
      refine rel (-(dt u v)) (dt u u) 0 (.inr (.inl huu)) fun p => ?_
      unfold c2 at D3
      unfold dt lf
      grind
  · have hz : ∀ p : P3, c2 v w * lf u p + c2 w u * lf v p + c2 u v * lf w p = 0 := fun p => by unfold c2 lf; grind
    by_cases hpos : 0 < c2 v w ∨ 0 < c2 w u ∨ 0 < c2 u v
    · exact rel _ _ _ hpos hz
    · refine rel (-(c2 v w)) (-(c2 w u)) (-(c2 u v)) (by omega) fun p => ?_
      have := hz p
      grind
theorem cone_two {L : List P3} (hne : L ≠ []) : ∀ {fs : List P2} {m : P2}, InCone fs m → ∀ (u : P2) (a s : Int), 0 ≤ a → 0 ≤ s → (∀ p ∈ L, 0 < a * lf u p + s * lf m p) → ∃ x y, (x = u ∨ x ∈ fs) ∧ (y = u ∨ y ∈ fs) ∧ ∃ b t, 0 ≤ b ∧ 0 ≤ t ∧ ∀ p ∈ L, 0 < b * lf x p + t * lf y p := by
  intro fs m h
  induction h with
  | nil =>
    intro u a s ha hs hp
    exact ⟨u, u, .inl rfl, .inl rfl, a, 0, ha, Int.le_refl 0, fun p hp' => by
      have := hp p hp'
      have e : lf (0, 0) p = 0 := by unfold lf; simp
      rw [e, Int.mul_zero] at this
      omega⟩
  | @cons n ns m w hw h ih =>
    intro u a s ha hs hp
    -- a u + s m + s w n: first m by one of its own, then three
    have hp' : ∀ p ∈ L, 0 < a * lf u p + s * lf m p + (s * w) * lf n p := fun p hp1 => by
      have := hp p hp1
      rw [lf_lin] at this
      grind
    -- take u and n for u of the smaller cone: three by two
    have key : ∀ (k : P2), (∀ p ∈ L, 0 < a * lf u p + s * lf k p + (s * w) * lf n p) → True := fun _ _ => True.intro
    obtain ⟨x, y, hx, hy, b, t, hb, ht, hpos⟩ := three (L := L) (u := u) (v := m) (w := n) ha hs (mul_nn hs hw) hp'
    -- those two are u, m | u, n | m, m | m, n
    rcases hx with e | e
    · subst e
      rcases hy with e | e
      · subst e
        obtain ⟨x2, y2, g1, g2, g3⟩ := ih x b t hb ht hpos
        exact ⟨x2, y2, g1.imp id (List.mem_cons_of_mem _), g2.imp id (List.mem_cons_of_mem _), g3⟩
      · subst e
        exact ⟨x, y, .inl rfl, .inr List.mem_cons_self, b, t, hb, ht, hpos⟩
    · subst e
      rcases hy with e | e
      · subst e
        obtain ⟨x2, y2, g1, g2, g3⟩ := ih n 0 (b + t) (Int.le_refl 0) (by omega) (fun p hp1 => by
          have := hpos p hp1
          grind)
        exact ⟨x2, y2, .inr (g1.elim (fun e => by rw [e]; exact List.mem_cons_self) (List.mem_cons_of_mem _)), .inr (g2.elim (fun e => by rw [e]; exact List.mem_cons_self) (List.mem_cons_of_mem _)), g3⟩
      · subst e
        obtain ⟨x2, y2, g1, g2, g3⟩ := ih y t b ht hb (fun p hp1 => by
          have := hpos p hp1
          omega)
        exact ⟨x2, y2, .inr (g1.elim (fun e => by rw [e]; exact List.mem_cons_self) (List.mem_cons_of_mem _)), .inr (g2.elim (fun e => by rw [e]; exact List.mem_cons_self) (List.mem_cons_of_mem _)), g3⟩
/-- HELLY -/
theorem helly {L : List P3} (hne : L ≠ []) {fs : List P2} (h : Barred fs L) : ∃ x ∈ fs, ∃ y ∈ fs, Barred [x, y] L := by
  obtain ⟨m, k, hm⟩ := h
  cases k with
  | nil =>
    exfalso
    cases L with
    | nil => exact hne rfl
    | cons p L =>
      have := hm p List.mem_cons_self
      unfold lf at this
      simp at this
  | @cons n ns m w hw k =>
    obtain ⟨x, y, h1, h2, b, t, hb, ht, hpos⟩ := cone_two hne k n w 1 hw (by omega) (fun p hp => by
      have := hm p hp
      rw [lf_lin] at this
      omega)
    have mem : ∀ z, z = n ∨ z ∈ ns → z ∈ n :: ns := fun z hz => hz.elim (fun e => by rw [e]; exact List.mem_cons_self) (List.mem_cons_of_mem _)
    refine ⟨x, mem x h1, y, mem y h2, comb2 b x t y, pair_cone (by simp) (by simp) hb ht, fun p hp => ?_⟩
    have := hpos p hp
    unfold comb2
    unfold lf at *
    simp only
    grind
theorem barred_swap {x y : P2} {L : List P3} (h : Barred [x, y] L) : Barred [y, x] L := by
  obtain ⟨m, k, hm⟩ := h
  obtain ⟨a, b, ha, hb, e⟩ := cone_pair k
  refine ⟨comb2 b y a x, pair_cone (by simp) (by simp) hb ha, ?_⟩
  have e2 : comb2 b y a x = m := by rw [e]; unfold comb2; refine Prod.ext ?_ ?_ <;> exact Int.add_comm _ _
  rw [e2]
  exact hm
theorem barred_all {x y : P2} {fs : List P2} {L : List P3} (hx : x ∈ fs) (hy : y ∈ fs) (h : Barred [x, y] L) : Barred fs L := by
  obtain ⟨m, k, hm⟩ := h
  obtain ⟨a, b, ha, hb, e⟩ := cone_pair k
  exact ⟨m, by rw [e]; exact pair_cone hx hy ha hb, hm⟩
end Sh
end
section
set_option linter.all false
/-! The weights that are told; the forms; the pairs. -/
namespace Sh
def g2 (p : P2) : Int := comDiv [p.1, p.2]
def low2 (p : P2) : P2 := (p.1 / g2 p, p.2 / g2 p)
theorem g2_nat (p : P2) : g2 p = ((Nat.gcd p.1.natAbs p.2.natAbs : Nat) : Int) := by
  unfold g2 comDiv
  simp
theorem low2_mul {p : P2} (h : 0 < p.1) : 0 < g2 p ∧ g2 p * (low2 p).1 = p.1 ∧ g2 p * (low2 p).2 = p.2 := by
  have hg : 0 < g2 p := by
    rw [g2_nat]
    have : 0 < Nat.gcd p.1.natAbs p.2.natAbs := Nat.gcd_pos_of_pos_left _ (by omega)
    omega
  refine ⟨hg, Int.mul_ediv_cancel' ?_, Int.mul_ediv_cancel' ?_⟩
  · rw [g2_nat]; exact Int.natAbs_dvd_natAbs.mp (show Nat.gcd p.1.natAbs p.2.natAbs ∣ p.1.natAbs from Nat.gcd_dvd_left _ _)
  · rw [g2_nat]; exact Int.natAbs_dvd_natAbs.mp (show Nat.gcd p.1.natAbs p.2.natAbs ∣ p.2.natAbs from Nat.gcd_dvd_right _ _)
def mix (u v : Int) : Prop := (0 < u ∧ v < 0) ∨ (u < 0 ∧ 0 < v)
instance (u v : Int) : Decidable (mix u v) := by unfold mix; exact inferInstance
def rowOf (f g : P2) (c : P3) : List P2 := if mix (lf f c) (lf g c) then [low2 (((lf g c).natAbs : Int), ((lf f c).natAbs : Int))] else []
def rows (f g : P2) (L : List P3) : List P2 := [(1, 0), (0, 1)] ++ L.flatMap (rowOf f g)
theorem rows_nn {f g : P2} {L : List P3} {r : P2} (h : r ∈ rows f g L) : 0 ≤ r.1 ∧ 0 ≤ r.2 := by
  unfold rows at h
  rcases List.mem_append.mp h with h | h
  · simp only [List.mem_cons, List.not_mem_nil, or_false] at h
    rcases h with e | e <;> subst e <;> exact ⟨by decide, by decide⟩
  · obtain ⟨c, hc, hr⟩ := List.mem_flatMap.mp h
    unfold rowOf at hr
    split at hr
    · rename_i hm
      rw [List.mem_singleton.mp hr]
      have hp : 0 < (((lf g c).natAbs : Int), ((lf f c).natAbs : Int)).1 := by unfold mix at hm; show 0 < ((lf g c).natAbs : Int); omega
      obtain ⟨k1, k2, k3⟩ := low2_mul hp
      exact ⟨nonneg_of_mul_nonneg k1 (by rw [k2]; exact Int.natCast_nonneg _), nonneg_of_mul_nonneg k1 (by rw [k3]; exact Int.natCast_nonneg _)⟩
    · cases hr
/-- the greatest of the least shares -/
theorem lo_row {α : Type} (U V : α → Int) {w1 w2 : Int} (h1 : 0 ≤ w1) (h2 : 0 ≤ w2) {L : List α} (hw : ∀ c ∈ L, 0 < w1 * U c + w2 * V c) : ∀ (S : List α), (∀ c ∈ S, c ∈ L) →
    ∃ r : P2, (r = (0, 1) ∨ ∃ c ∈ S, 0 < U c ∧ V c < 0 ∧ r = (-V c, U c)) ∧ ∀ c ∈ S, 0 < U c → V c < 0 → 0 ≤ r.1 * U c + r.2 * V c
  | [], _ => ⟨(0, 1), .inl rfl, fun c h => by cases h⟩
  | d :: S, hs => by
    obtain ⟨r, hr, hall⟩ := lo_row U V h1 h2 hw S fun c h => hs c (List.mem_cons_of_mem _ h)
    have up : ∀ c ∈ S, c ∈ d :: S := fun c h => List.mem_cons_of_mem _ h
    by_cases hd : 0 < U d ∧ V d < 0
    · by_cases hn : 0 ≤ r.1 * U d + r.2 * V d
      · refine ⟨r, hr.imp id (fun ⟨c, a, b⟩ => ⟨c, up c a, b⟩), fun c hc => ?_⟩
        rcases List.mem_cons.mp hc with e | hc
        · subst e; exact fun _ _ => hn
        · exact hall c hc
      · refine ⟨(-V d, U d), .inr ⟨d, List.mem_cons_self, hd.1, hd.2, rfl⟩, fun c hc c1 c2 => ?_⟩
        rcases List.mem_cons.mp hc with e | hc
        · subst e
          show 0 ≤ -V c * U c + U c * V c
          grind
        · have q := hall c hc c1 c2
          have r2 : 0 < r.2 := by
            rcases hr with e | ⟨k, _, k1, k2, e⟩
            · rw [e]; decide
            · rw [e]; exact k1
          refine nonneg_of_mul_nonneg r2 ?_
          have e : r.2 * (-V d * U c + U d * V c) = U c * (-(r.1 * U d + r.2 * V d)) + U d * (r.1 * U c + r.2 * V c) := by grind
          show 0 ≤ r.2 * (-V d * U c + U d * V c)
          rw [e]
          have a1 := mul_nn (Int.le_of_lt c1) (show 0 ≤ -(r.1 * U d + r.2 * V d) by omega)
          have a2 := mul_nn (Int.le_of_lt hd.1) q
          omega
    · refine ⟨r, hr.imp id (fun ⟨c, a, b⟩ => ⟨c, up c a, b⟩), fun c hc c1 c2 => ?_⟩
      rcases List.mem_cons.mp hc with e | hc
      · subst e; exact absurd ⟨c1, c2⟩ hd
      · exact hall c hc c1 c2
/-- what it is worth at the others -/
theorem lo_strict {α : Type} {U V : α → Int} {w1 w2 : Int} (h1 : 0 ≤ w1) (h2 : 0 ≤ w2) {L : List α} (hw : ∀ c ∈ L, 0 < w1 * U c + w2 * V c) {r : P2} (hr : r = (0, 1) ∨ ∃ c ∈ L, 0 < U c ∧ V c < 0 ∧ r = (-V c, U c)) :
    0 ≤ r.1 ∧ 0 < r.2 ∧ ∀ c ∈ L, U c < 0 → 0 < V c → 0 < r.1 * U c + r.2 * V c := by
  rcases hr with e | ⟨d, hd, d1, d2, e⟩
  · subst e
    refine ⟨by decide, by decide, fun c hc c1 c2 => ?_⟩
    show 0 < 0 * U c + 1 * V c
    omega
  · subst e
    refine ⟨by show 0 ≤ -V d; omega, d1, fun c hc c1 c2 => ?_⟩
    show 0 < -V d * U c + U d * V c
    have q1 := hw d hd
    have q2 := hw c hc
    have w1p : 0 < w1 := by
      rcases Int.lt_or_le 0 w1 with z | z
      · exact z
      · have e : w1 = 0 := by omega
        rw [e, Int.zero_mul] at q1
        have := mul_nn h2 (show 0 ≤ -V d by omega)
        have e2 : w2 * -V d = -(w2 * V d) := Int.mul_neg _ _
        omega
    refine pos_of_mul_pos w1p ?_
    have e : w1 * (-V d * U c + U d * V c) = V c * (w1 * U d + w2 * V d) + (-V d) * (w1 * U c + w2 * V c) := by grind
    rw [e]
    have a1 := Int.mul_pos c2 q1
    have a2 := Int.mul_pos (show 0 < -V d by omega) q2
    omega
theorem weights {f g : P2} {L : List P3} (h : Barred [f, g] L) : ∃ r ∈ rows f g L, ∃ r' ∈ rows f g L, ∀ c ∈ L, 0 < (r.1 + r'.1) * lf f c + (r.2 + r'.2) * lf g c := by
  obtain ⟨m, k, hm⟩ := h
  obtain ⟨w1, w2, h1, h2, e⟩ := cone_pair k
  have hw : ∀ c ∈ L, 0 < w1 * lf f c + w2 * lf g c := fun c hc => by
    have := hm c hc
    rw [e] at this
    unfold comb2 at this
    unfold lf at *
    simp only at this
    grind
  have hw' : ∀ c ∈ L, 0 < w2 * lf g c + w1 * lf f c := fun c hc => by have := hw c hc; omega
  obtain ⟨r, r1, r2⟩ := lo_row (lf f) (lf g) h1 h2 hw L fun c h => h
  obtain ⟨s, s1, s2⟩ := lo_row (lf g) (lf f) h2 h1 hw' L fun c h => h
  obtain ⟨r3, r4, r5⟩ := lo_strict h1 h2 hw r1
  obtain ⟨s3, s4, s5⟩ := lo_strict h2 h1 hw' s1
  -- as rows that are told
  have R : ∃ x ∈ rows f g L, ∃ k : Int, 0 < k ∧ r = (k * x.1, k * x.2) := by
    rcases r1 with e | ⟨c, hc, c1, c2, e⟩
    · exact ⟨(0, 1), by unfold rows; simp, 1, by decide, by rw [e]; rfl⟩
    · have hp : 0 < (((lf g c).natAbs : Int), ((lf f c).natAbs : Int)).1 := by show 0 < ((lf g c).natAbs : Int); omega
      obtain ⟨k1, k2, k3⟩ := low2_mul hp
      refine ⟨_, List.mem_append_right _ (List.mem_flatMap.mpr ⟨c, hc, by unfold rowOf; rw [if_pos (show mix _ _ from .inl ⟨c1, c2⟩)]; exact List.mem_singleton.mpr rfl⟩), _, k1, ?_⟩
      rw [k2, k3, e]
      refine Prod.ext ?_ ?_ <;> simp only <;> omega
  have S : ∃ x ∈ rows f g L, ∃ k : Int, 0 < k ∧ s = (k * x.2, k * x.1) := by
    rcases s1 with e | ⟨c, hc, c1, c2, e⟩
    · exact ⟨(1, 0), by unfold rows; simp, 1, by decide, by rw [e]; rfl⟩
    · have hp : 0 < (((lf g c).natAbs : Int), ((lf f c).natAbs : Int)).1 := by show 0 < ((lf g c).natAbs : Int); omega
      obtain ⟨k1, k2, k3⟩ := low2_mul hp
      refine ⟨_, List.mem_append_right _ (List.mem_flatMap.mpr ⟨c, hc, by unfold rowOf; rw [if_pos (show mix _ _ from .inr ⟨c2, c1⟩)]; exact List.mem_singleton.mpr rfl⟩), _, k1, ?_⟩
      rw [k2, k3, e]
      refine Prod.ext ?_ ?_ <;> simp only <;> omega
  obtain ⟨x, hx, a, ha, ea⟩ := R
  obtain ⟨y, hy, b, hb, eb⟩ := S
  subst ea eb
  simp only at *
  have x1 : 0 ≤ x.1 := nonneg_of_mul_nonneg ha r3
  have x2 : 0 < x.2 := pos_of_mul_pos ha r4
  have y1 : 0 < y.1 := pos_of_mul_pos hb s4
  have y2 : 0 ≤ y.2 := nonneg_of_mul_nonneg hb s3
  refine ⟨x, hx, y, hy, fun c hc => ?_⟩
  have q := hw c hc
  have sx : a * (x.1 * lf f c + x.2 * lf g c) = a * x.1 * lf f c + a * x.2 * lf g c := by grind
  have sy : b * (y.1 * lf f c + y.2 * lf g c) = b * y.2 * lf g c + b * y.1 * lf f c := by grind
  have et : (x.1 + y.1) * lf f c + (x.2 + y.2) * lf g c = (x.1 * lf f c + x.2 * lf g c) + (y.1 * lf f c + y.2 * lf g c) := by grind
  rw [et]
  rcases Int.lt_or_le 0 (lf f c) with cu | cu
  · rcases Int.lt_or_le (lf g c) 0 with cv | cv
    · have b1 := r2 c hc cu cv
      have b2 := s5 c hc cv cu
      have d1 : 0 ≤ x.1 * lf f c + x.2 * lf g c := nonneg_of_mul_nonneg ha (by omega)
      have d2 : 0 < y.1 * lf f c + y.2 * lf g c := pos_of_mul_pos hb (by omega)
      omega
    · have d1 := mul_nn x1 (Int.le_of_lt cu)
      have d2 := mul_nn (Int.le_of_lt x2) cv
      have d3 := Int.mul_pos y1 cu
      have d4 := mul_nn y2 cv
      omega
  · rcases Int.lt_or_le 0 (lf g c) with cv | cv
    · rcases Int.lt_or_le (lf f c) 0 with cu' | cu'
      · have b1 := r5 c hc cu' cv
        have b2 := s2 c hc cv cu'
        have d1 : 0 < x.1 * lf f c + x.2 * lf g c := pos_of_mul_pos ha (by omega)
        have d2 : 0 ≤ y.1 * lf f c + y.2 * lf g c := nonneg_of_mul_nonneg hb (by omega)
        omega
      · have e0 : lf f c = 0 := by omega
        have d1 := Int.mul_pos x2 cv
        have d2 := mul_nn y2 (Int.le_of_lt cv)
        rw [e0, Int.mul_zero, Int.mul_zero]
        omega
    · exfalso
      have d1 := mul_nn h1 (show 0 ≤ -lf f c by omega)
      have d2 := mul_nn h2 (show 0 ≤ -lf g c by omega)
      have e1 : w1 * -lf f c = -(w1 * lf f c) := Int.mul_neg _ _
      have e2 : w2 * -lf g c = -(w2 * lf g c) := Int.mul_neg _ _
      omega

/-! ### sums of weights -/
def wsum (g : P3 → Int) : List Int → List P3 → Int
  | w :: ws, s :: sh => w * g s + wsum g ws sh
  | _, _ => 0
theorem wsum_zero (g : P3 → Int) : ∀ (n : Nat) (sh : List P3), wsum g (List.replicate n 0) sh = 0
  | 0, _ => rfl
  | n + 1, [] => rfl
  | n + 1, s :: sh => by
    show 0 * g s + wsum g (List.replicate n 0) sh = 0
    rw [wsum_zero g n sh]
    omega
theorem wsum_set (g : P3 → Int) (d : Int) : ∀ (ws : List Int) (sh : List P3) (i : Nat) (s : P3) (w : Int), sh[i]? = some s → ws[i]? = some w → wsum g (ws.set i (w + d)) sh = wsum g ws sh + d * g s
  | [], _, i, _, _, _, h => by simp at h
  | _ :: _, [], i, _, _, h, _ => by simp at h
  | v :: ws, t :: sh, 0, s, w, h1, h2 => by
    have e1 : t = s := Option.some.inj h1
    have e2 : v = w := Option.some.inj h2
    subst e1 e2
    show (v + d) * g t + wsum g ws sh = v * g t + wsum g ws sh + d * g t
    grind
  | v :: ws, t :: sh, i + 1, s, w, h1, h2 => by
    have := wsum_set g d ws sh i s w h1 h2
    show v * g t + wsum g (ws.set i (w + d)) sh = v * g t + wsum g ws sh + d * g s
    rw [this]
    omega
theorem wsum_lin (x y : Int) : ∀ (ws : List Int) (sh : List P3), wsum (fun s => s.1 * x + s.2.1 * y) ws sh = wsum (fun s => s.1) ws sh * x + wsum (fun s => s.2.1) ws sh * y
  | [], _ => by simp [wsum]
  | _ :: _, [] => by simp [wsum]
  | w :: ws, s :: sh => by
    show w * (s.1 * x + s.2.1 * y) + wsum _ ws sh = (w * s.1 + wsum _ ws sh) * x + (w * s.2.1 + wsum _ ws sh) * y
    rw [wsum_lin x y ws sh]
    grind
/-- the weights that a pair of rows makes -/
def wts (n i j : Nat) (a b : Int) : List Int := ((List.replicate n 0).set i a).set j ((((List.replicate n (0 : Int)).set i a)[j]?).getD 0 + b)
theorem wts_len (n i j : Nat) (a b : Int) : (wts n i j a b).length = n := by unfold wts; simp
theorem wts_sum (g : P3 → Int) {sh : List P3} {i j : Nat} {s t : P3} (hi : sh[i]? = some s) (hj : sh[j]? = some t) (a b : Int) : wsum g (wts sh.length i j a b) sh = a * g s + b * g t := by
  have li : i < sh.length := (List.getElem?_eq_some_iff.mp hi).1
  have lj : j < sh.length := (List.getElem?_eq_some_iff.mp hj).1
  have h1 := wsum_set g a (List.replicate sh.length 0) sh i s 0 hi (by rw [List.getElem?_replicate, if_pos li])
  rw [wsum_zero, Int.zero_add, Int.zero_add] at h1
  unfold wts
  obtain ⟨w, hw⟩ : ∃ w, ((List.replicate sh.length (0 : Int)).set i a)[j]? = some w := by
    refine ⟨_, List.getElem?_eq_getElem ?_⟩
    simpa using lj
  have h2 := wsum_set g b ((List.replicate sh.length 0).set i a) sh j t w hj hw
  rw [hw]
  show wsum g (((List.replicate sh.length 0).set i a).set j (w + b)) sh = _
  rw [h2, h1]
theorem wts_nn {n i j : Nat} {a b : Int} (ha : 0 ≤ a) (hb : 0 ≤ b) : ∀ w ∈ wts n i j a b, 0 ≤ w := fun w hw => by
  have h1 : ∀ v ∈ (List.replicate n (0 : Int)).set i a, 0 ≤ v := fun v hv => by
    rcases List.mem_or_eq_of_mem_set hv with h | e
    · rw [(List.mem_replicate.mp h).2]; exact Int.le_refl 0
    · rw [e]; exact ha
  unfold wts at hw
  rcases List.mem_or_eq_of_mem_set hw with h | e
  · exact h1 w h
  · rw [e]
    cases q : ((List.replicate n (0 : Int)).set i a)[j]? with
    | none => show 0 ≤ 0 + b; omega
    | some v =>
      have := h1 v (List.mem_of_getElem? q)
      show 0 ≤ v + b
      omega
theorem filter_set (x : Int) (P : Int → Bool) : ∀ (l : List Int) (i : Nat), ((l.set i x).filter P).length ≤ (l.filter P).length + 1
  | [], i => by simp
  | v :: l, 0 => by
    show ((x :: l).filter P).length ≤ ((v :: l).filter P).length + 1
    simp only [List.filter_cons]
    split <;> split <;> simp <;> omega
  | v :: l, i + 1 => by
    have := filter_set x P l i
    show ((v :: l.set i x).filter P).length ≤ ((v :: l).filter P).length + 1
    rw [List.filter_cons, List.filter_cons]
    split
    · rw [List.length_cons, List.length_cons]; omega
    · exact this
theorem wts_few (n i j : Nat) (a b : Int) : ((wts n i j a b).filter fun w => decide (0 < w)).length ≤ 2 := by
  unfold wts
  have h1 := filter_set a (fun w => decide (0 < w)) (List.replicate n 0) i
  have h2 := filter_set ((((List.replicate n (0 : Int)).set i a)[j]?).getD 0 + b) (fun w => decide (0 < w)) ((List.replicate n 0).set i a) j
  have h0 : ((List.replicate n (0 : Int)).filter fun w => decide (0 < w)) = [] := List.filter_eq_nil_iff.mpr fun w hw => by
    rw [(List.mem_replicate.mp hw).2]; decide
  have h3 : ((List.replicate n (0 : Int)).filter fun w => decide (0 < w)).length = 0 := by rw [h0]; rfl
  omega
def isBarred (L : List P3) (sh : List P3) (ws : List Int) : Bool := L.all fun c => decide (0 < wsum (fun s => s.1) ws sh * c.1 + wsum (fun s => s.2.1) ws sh * c.2.1)

/-! ### the forms of the law -/
def ng3 (F : P3) : P3 := (0 - F.1, 0 - F.2.1, 0 - F.2.2)
def forms (L : List P3) : List P3 :=
  if 2 < L.length then (prs (lastD (0, 0, 1) L :: L)).map fun e => side3 e.1 e.2
  else
    let p := L.headD (0, 0, 1)
    let q := lastD (0, 0, 1) L
    if L.length = 1 then [(p.2.2, 0, 0 - p.1), (0 - p.2.2, 0, p.1), (0, p.2.2, 0 - p.2.1), (0, 0 - p.2.2, p.2.1)]
    else
      let u := q.1 * p.2.2 - p.1 * q.2.2
      let v := q.2.1 * p.2.2 - p.2.1 * q.2.2
      [side3 p q, ng3 (side3 p q), (u * p.2.2, v * p.2.2, 0 - u * p.1 - v * p.2.1), (0 - u * q.2.2, 0 - v * q.2.2, u * q.1 + v * q.2.1)]
theorem sq_nn (x : Int) : 0 ≤ x * x := by
  rcases Int.le_total 0 x with c | c
  · exact Int.mul_nonneg c c
  · exact Int.mul_nonneg_of_nonpos_of_nonpos c c
theorem forms_nn {L : List P3} (h : Poly L) : ∀ F ∈ forms L, ∀ p ∈ L, 0 ≤ frm F p := by
  intro F hF z hz
  unfold forms at hF
  split at hF
  · obtain ⟨⟨p, q⟩, hpq, e⟩ := List.mem_map.mp hF
    rw [← e, side_det]
    exact h.b p q ((mem_cyc_last _ h.ne _).mp hpq) z hz
  · rename_i hlen
    split at hF
    · rename_i h1
      match L, h1, hz, hF with
      | [p], _, hz, hF =>
        have ez := List.mem_singleton.mp hz
        subst ez
        simp only [List.headD_cons, List.mem_cons, List.not_mem_nil, or_false] at hF
        rcases hF with e | e | e | e <;> subst e <;> unfold frm <;> simp only <;> grind
    · rename_i h1
      have h2 : L.length = 2 := by
        have := List.length_pos_iff.mpr h.ne
        omega
      match L, h2, hz, hF with
      | [p, q], _, hz, hF =>
        simp only [List.headD_cons, lastD, List.mem_cons, List.not_mem_nil, or_false] at hF hz
        have s1 := sq_nn (q.1 * p.2.2 - p.1 * q.2.2)
        have s2 := sq_nn (q.2.1 * p.2.2 - p.2.1 * q.2.2)
        rcases hF with e | e | e | e <;> subst e <;> rcases hz with e2 | e2 <;> subst e2 <;> unfold frm <;> (try unfold ng3) <;> (try unfold side3) <;> simp only <;> grind

/-! ### the least pair -/
structure IsPair (bad : Nat → Nat → Prop) (n : Nat) (r : Option (Nat × Nat)) : Prop where
  no : r = none → ∀ i j, i ≤ j → j < n → ¬ bad i j
  yes : ∀ i j, r = some (i, j) → i ≤ j ∧ j < n ∧ bad i j ∧ ∀ i' j', i' ≤ j' → j' < n → (i' < i ∨ (i' = i ∧ j' < j)) → ¬ bad i' j'
theorem IsPair.uniq {bad : Nat → Nat → Prop} {n : Nat} {r r' : Option (Nat × Nat)} (h : IsPair bad n r) (h' : IsPair bad n r') : r = r' := by
  cases r with
  | none =>
    cases r' with
    | none => rfl
    | some q =>
      obtain ⟨i, j⟩ := q
      obtain ⟨a, b, c, _⟩ := h'.yes i j rfl
      exact absurd c (h.no rfl i j a b)
  | some p =>
    obtain ⟨i, j⟩ := p
    obtain ⟨a, b, c, d⟩ := h.yes i j rfl
    cases r' with
    | none => exact absurd c (h'.no rfl i j a b)
    | some q =>
      obtain ⟨k, l⟩ := q
      obtain ⟨a2, b2, c2, d2⟩ := h'.yes k l rfl
      have e1 : ¬ (i < k ∨ (i = k ∧ j < l)) := fun z => d2 i j a b z c
      have e2 : ¬ (k < i ∨ (k = i ∧ l < j)) := fun z => d k l a2 b2 z c2
      have : i = k ∧ j = l := by omega
      rw [this.1, this.2]
theorem IsPair.congr {bad bad' : Nat → Nat → Prop} {n : Nat} {r : Option (Nat × Nat)} (h : IsPair bad n r) (e : ∀ i j, i < n → j < n → (bad i j ↔ bad' i j)) : IsPair bad' n r := by
  refine ⟨fun q i j a b c => h.no q i j a b ((e i j (by omega) b).mpr c), fun i j q => ?_⟩
  obtain ⟨a, b, c, d⟩ := h.yes i j q
  exact ⟨a, b, (e i j (by omega) b).mp c, fun i' j' a' b' c' z => d i' j' a' b' c' ((e i' j' (by omega) b').mpr z)⟩
end Sh
end
section
set_option Elab.async false
set_option linter.all false
set_option maxRecDepth 100000
namespace Wk
open PySem L2 C8 Evl

/-! ### a heap with some addresses left out -/
def Hd (X : List Addr) (H : Hp) : Hp := fun a => if a ∈ X then none else H a
def Own (X : List Addr) (H : Hp) : Prop := ∀ a, a ∈ X → H a ≠ none
theorem hd_le {X : List Addr} {H : Hp} : Ex (Hd X H) H := fun a o h => by
  unfold Hd at h
  split at h
  · cases h
  · exact h
theorem hd_at {X : List Addr} {H : Hp} {a : Addr} {o : HO} (n : a ∉ X) (h : H a = some o) : Hd X H a = some o := by
  unfold Hd
  rw [if_neg n]
  exact h
theorem hd_mono {X : List Addr} {H H' : Hp} (e : Ex H H') : Ex (Hd X H) (Hd X H') := fun a o h => by
  unfold Hd at h
  split at h
  · cases h
  · rename_i n
    exact hd_at n (e a o h)
theorem hd_new {X : List Addr} {H H' : Hp} {l : Addr} (e : Ex H H') (hl : H l = none) : Ex (Hd X H) (Hd (l :: X) H') := fun a o h => by
  unfold Hd at h
  split at h
  · cases h
  · rename_i n
    refine hd_at ?_ (e a o h)
    intro m
    rcases List.mem_cons.mp m with q | q
    · rw [q, hl] at h
      cases h
    · exact n q
theorem hd_tail {X : List Addr} {H : Hp} {l : Addr} : Ex (Hd (l :: X) H) (Hd X H) := fun a o h => by
  unfold Hd at h
  split at h
  · cases h
  · rename_i n
    exact hd_at (fun m => n (List.mem_cons_of_mem _ m)) h
theorem hd_upd {X : List Addr} {H : Hp} {l : Addr} {o : HO} (h : l ∈ X) : Hd X (upd H l o) = Hd X H := by
  funext a
  unfold Hd
  by_cases m : a ∈ X
  · rw [if_pos m, if_pos m]
  · rw [if_neg m, if_neg m]
    exact upd_ne (fun e => m (e ▸ h))
theorem own_not {X : List Addr} {H : Hp} {a : Addr} (O : Own X H) (h : H a = none) : a ∉ X := fun m => O a m h
theorem Own.mono {X : List Addr} {H H' : Hp} (O : Own X H) (e : Ex H H') : Own X H' := fun a m => by
  cases h : H a with
  | none => exact absurd h (O a m)
  | some o =>
    rw [e a o h]
    exact fun z => by cases z
/-- the word for an address of which nothing is known -/
def adrD (a : Nat) : PyData := .dict [(.int (Int.ofNat a), .none)]
/-- the word for a list of whole numbers that nobody changes -/
def frzD (ns : List Int) : PyData := .dict [(.none, .list (ns.map PyData.int))]
mutual
/-- data in a heap; every list its own tracked one -/
inductive Dq (K : PySem.W.Frag) (H : Hp) : V → PyData → Prop
  | non : Dq K H .non PyData.none
  | bl (b : Bool) : Dq K H (.bl b) (PyData.bool b)
  | int (i : Int) : Dq K H (.int i) (PyData.int i)
  | str (x : Str) : Dq K H (.str x) (PyData.str x)
  | adr (a : Addr) : Dq K H (.ref a) (.dict [(.int (Int.ofNat a), .none)])
  | frz {a : Addr} {kvs : List (PyData × PyData)} (ns : List Int) : kvs = [(PyData.none, .list (ns.map PyData.int))] → SqL K H a (ns.map V.int) → Dq K H (.ref a) (.dict kvs)
  | lst {a : Addr} {xs : List V} {ds : List PyData} : H a = some (.lst xs) → DqAll K H xs ds → Dq K H (.ref a) (.list ds)
  | tup {a : Addr} {xs : List V} {ds : List PyData} : SqT K H a xs → DqAll K H xs ds → Dq K H (.ref a) (.tuple ds)
inductive DqAll (K : PySem.W.Frag) (H : Hp) : List V → List PyData → Prop
  | nil : DqAll K H [] []
  | cons {v : V} {vs : List V} {d : PyData} {ds : List PyData} (h1 : Dq K H v d) (h2 : DqAll K H vs ds) : DqAll K H (v :: vs) (d :: ds)
end
mutual
theorem dp_mono {K : PySem.W.Frag} {H H' : Hp} (e : Ex H H') : ∀ (d : PyData) (v : V), Dq K H v d → Dq K H' v d
  | .none, _, h => by cases h; exact .non
  | .bool b, _, h => by cases h; exact .bl b
  | .int i, _, h => by cases h; exact .int i
  | .str x, _, h => by cases h; exact .str x
  | .list ds, _, h => by
    cases h with
    | lst hs ha => exact .lst (e _ _ hs) (dpAll_mono e ds _ ha)
  | .tuple ds, _, h => by
    cases h with
    | tup hs ha => exact .tup (ex_t e hs) (dpAll_mono e ds _ ha)
  | .dict _, _, h => by
    cases h with
    | adr a => exact .adr a
    | frz ns q hs => exact .frz ns q (ex_l e hs)
theorem dpAll_mono {K : PySem.W.Frag} {H H' : Hp} (e : Ex H H') : ∀ (ds : List PyData) (vs : List V), DqAll K H vs ds → DqAll K H' vs ds
  | [], _, h => by cases h; exact .nil
  | d :: ds, _, h => by
    cases h with
    | cons h1 h2 => exact .cons (dp_mono e d _ h1) (dpAll_mono e ds _ h2)
end
mutual
theorem dq_dp {K : PySem.W.Frag} {H : Hp} : ∀ (d : PyData) (v : V), d.canLay0 = true → Dq K H v d → L2.Dp K H v d
  | .none, _, _, h => by cases h; exact .non
  | .bool b, _, _, h => by cases h; exact .bl b
  | .int i, _, _, h => by cases h; exact .int i
  | .str x, _, _, h => by cases h; exact .str x
  | .list ds, _, c, h => by
    cases h with
    | lst hs ha => exact .lst (sq_of hs) (dqAll_dp ds _ (by simpa only [PyData.canLay0] using c) ha)
  | .tuple ds, _, c, h => by
    cases h with
    | tup hs ha => exact .tup hs (dqAll_dp ds _ (by simpa only [PyData.canLay0] using c) ha)
  | .dict _, _, c, h => by simp [PyData.canLay0] at c
theorem dqAll_dp {K : PySem.W.Frag} {H : Hp} : ∀ (ds : List PyData) (vs : List V), PyData.canLayAll0 ds = true → DqAll K H vs ds → L2.DpAll K H vs ds
  | [], _, _, h => by cases h; exact .nil
  | d :: ds, _, c, h => by
    cases h with
    | cons h1 h2 =>
      simp only [PyData.canLayAll0, Bool.and_eq_true] at c
      exact .cons (dq_dp d _ c.1 h1) (dqAll_dp ds _ c.2 h2)
end
section
variable {K : PySem.W.Frag} {H H' : Hp}
theorem dpa_len : ∀ {ds : List PyData} {vs : List V}, DqAll K H vs ds → vs.length = ds.length
  | [], _, h => by cases h; rfl
  | d :: ds, _, h => by
    cases h with
    | cons h1 h2 =>
      show _ + 1 = _ + 1
      rw [dpa_len h2]
theorem dpa_get : ∀ {ds : List PyData} {vs : List V} {i : Nat} {d : PyData}, DqAll K H vs ds → ds[i]? = some d → ∃ v, vs[i]? = some v ∧ Dq K H v d
  | [], _, i, d, h, e => by simp at e
  | d0 :: ds, _, 0, d, h, e => by
    cases h with
    | cons h1 h2 =>
      simp at e
      subst e
      exact ⟨_, rfl, h1⟩
  | d0 :: ds, _, i + 1, d, h, e => by
    cases h with
    | cons h1 h2 =>
      obtain ⟨v, e1, e2⟩ := dpa_get (i := i) h2 (by simpa using e)
      exact ⟨v, by simpa using e1, e2⟩
theorem dpa_app : ∀ {ds es : List PyData} {vs us : List V}, DqAll K H vs ds → DqAll K H us es → DqAll K H (vs ++ us) (ds ++ es)
  | [], _, _, _, h, h' => by cases h; exact h'
  | d :: ds, _, _, _, h, h' => by
    cases h with
    | cons h1 h2 => exact .cons h1 (dpa_app h2 h')
theorem dpa_one {v : V} {d : PyData} (h : Dq K H v d) : DqAll K H [v] [d] := .cons h .nil
theorem dpa_take : ∀ {ds : List PyData} {vs : List V} (n : Nat), DqAll K H vs ds → DqAll K H (vs.take n) (ds.take n)
  | [], _, n, h => by cases h; simp; exact .nil
  | d :: ds, _, 0, h => by simp; exact .nil
  | d :: ds, _, n + 1, h => by
    cases h with
    | cons h1 h2 => exact .cons h1 (dpa_take n h2)
theorem dpa_drop : ∀ {ds : List PyData} {vs : List V} (n : Nat), DqAll K H vs ds → DqAll K H (vs.drop n) (ds.drop n)
  | [], _, n, h => by cases h; simp; exact .nil
  | d :: ds, _, 0, h => by simpa using h
  | d :: ds, _, n + 1, h => by
    cases h with
    | cons h1 h2 => simpa using dpa_drop n h2
theorem dpa_rev : ∀ {ds : List PyData} {vs : List V}, DqAll K H vs ds → DqAll K H vs.reverse ds.reverse
  | [], _, h => by cases h; exact .nil
  | d :: ds, _, h => by
    cases h with
    | cons h1 h2 =>
      rw [List.reverse_cons, List.reverse_cons]
      exact dpa_app (dpa_rev h2) (dpa_one h1)
theorem dpa_dropLast {ds : List PyData} {vs : List V} (h : DqAll K H vs ds) : DqAll K H vs.dropLast ds.dropLast := by
  rw [List.dropLast_eq_take, List.dropLast_eq_take, dpa_len h]
  exact dpa_take _ h
theorem dpa_set : ∀ {ds : List PyData} {vs : List V} {v : V} {d : PyData} (i : Nat), DqAll K H vs ds → Dq K H v d → DqAll K H (vs.set i v) (ds.set i d)
  | [], _, _, _, i, h, _ => by cases h; simp; exact .nil
  | d0 :: ds, _, v, d, 0, h, h' => by
    cases h with
    | cons h1 h2 => exact .cons h' h2
  | d0 :: ds, _, v, d, i + 1, h, h' => by
    cases h with
    | cons h1 h2 => exact .cons h1 (dpa_set i h2 h')
/-- data without a heap -/
def flat : PyData → Bool
  | .none => true
  | .bool _ => true
  | .int _ => true
  | .str _ => true
  | _ => false
theorem dp_flat {d : PyData} {v : V} (f : flat d = true) (h : Dq K H v d) : Dq K H' v d := by
  cases h with
  | non => exact .non
  | bl b => exact .bl b
  | int i => exact .int i
  | str x => exact .str x
  | adr _ => cases f
  | frz _ _ _ => cases f
  | lst _ _ => cases f
  | tup _ _ => cases f
theorem dp_int {v : V} {i : Int} (h : Dq K H v (.int i)) : v = .int i := by cases h; rfl
theorem dp_bl {v : V} {b : Bool} (h : Dq K H v (.bool b)) : v = .bl b := by cases h; rfl
theorem dp_non {v : V} (h : Dq K H v .none) : v = .non := by cases h; rfl
theorem dp_str {v : V} {x : Str} (h : Dq K H v (.str x)) : v = .str x := by cases h; rfl
theorem dp_adr {v : V} {a : Nat} (h : Dq K H v (adrD a)) : v = .ref a := by
  cases h with
  | adr _ => rfl
  | frz _ q _ => cases q
theorem dp_lst {v : V} {ds : List PyData} (h : Dq K H v (.list ds)) : ∃ a xs, v = .ref a ∧ H a = some (.lst xs) ∧ DqAll K H xs ds := by
  cases h with
  | lst hs ha => exact ⟨_, _, rfl, hs, ha⟩
theorem dp_tup {v : V} {ds : List PyData} (h : Dq K H v (.tuple ds)) : ∃ a xs, v = .ref a ∧ SqT K H a xs ∧ DqAll K H xs ds := by
  cases h with
  | tup hs ha => exact ⟨_, _, rfl, hs, ha⟩
theorem dpa_ints : ∀ {ns : List Int} {vs : List V}, DqAll K H vs (ns.map PyData.int) → vs = ns.map V.int
  | [], _, h => by cases h; rfl
  | n :: ns, _, h => by
    cases h with
    | cons h1 h2 => rw [dp_int h1, dpa_ints h2]; rfl
theorem dpa_bls : ∀ {ns : List Bool} {vs : List V}, DqAll K H vs (ns.map PyData.bool) → vs = ns.map V.bl
  | [], _, h => by cases h; rfl
  | n :: ns, _, h => by
    cases h with
    | cons h1 h2 => rw [dp_bl h1, dpa_bls h2]; rfl
theorem ints_dpa : ∀ (ns : List Int), DqAll K H (ns.map V.int) (ns.map PyData.int)
  | [] => .nil
  | n :: ns => .cons (.int n) (ints_dpa ns)
theorem dpa_map {α : Type} {f : α → V} {g : α → PyData} (h : ∀ x, Dq K H (f x) (g x)) : ∀ xs : List α, DqAll K H (xs.map f) (xs.map g)
  | [] => .nil
  | x :: xs => .cons (h x) (dpa_map h xs)
end

/-! ### slots -/
abbrev SD := List (Option PyData)
def StD (K : PySem.W.Frag) (H : Hp) (σ : L2.St) (ss : SD) : Prop := σ.length = ss.length ∧ ∀ (i : Nat) (d : PyData), ss[i]? = some (some d) → ∃ v, σ[i]? = some (some v) ∧ Dq K H v d
def LeD (a b : SD) : Prop := a.length = b.length ∧ ∀ (i : Nat) (d : PyData), a[i]? = some (some d) → b[i]? = some (some d)
def setsD (ss : SD) : List (Nat × PyData) → SD
  | [] => ss
  | (j, d) :: r => setsD (ss.set j (some d)) r
def setL (σ : L2.St) : List Nat → List V → L2.St
  | j :: js, v :: vs => setL (σ.set j (some v)) js vs
  | _, _ => σ
def wipeD (ss : SD) : List Nat → SD
  | [] => ss
  | v :: vs => (wipeD ss vs).set v none
section
variable {K : PySem.W.Frag} {H H' : Hp} {σ : L2.St} {ss : SD}
theorem StD.mono (e : Ex H H') (h : StD K H σ ss) : StD K H' σ ss := ⟨h.1, fun i d q => by
  obtain ⟨v, a, b⟩ := h.2 i d q
  exact ⟨v, a, dp_mono e d v b⟩⟩
theorem StD.le {a : SD} (e : LeD a ss) (h : StD K H σ ss) : StD K H σ a := ⟨h.1.trans e.1.symm, fun i d q => h.2 i d (e.2 i d q)⟩
theorem LeD.refl (a : SD) : LeD a a := ⟨rfl, fun _ _ h => h⟩
theorem StD.set {v : V} {d : PyData} (i : Nat) (h : StD K H σ ss) (hv : Dq K H v d) : StD K H (σ.set i (some v)) (ss.set i (some d)) := by
  refine ⟨by rw [List.length_set, List.length_set, h.1], fun j e q => ?_⟩
  by_cases n : i = j
  · subst n
    rw [List.getElem?_set_self'] at q ⊢
    cases g : ss[i]? with
    | none =>
      rw [g] at q
      cases q
    | some o =>
      rw [g] at q
      have lt : i < σ.length := by
        have := (List.getElem?_eq_some_iff.mp g).1
        rw [h.1]
        exact this
      have e' : d = e := by simpa using q
      subst e'
      exact ⟨v, by simp [lt], hv⟩
  · rw [List.getElem?_set_ne n] at q ⊢
    exact h.2 j e q
theorem StD.unset {x : Option V} (i : Nat) (h : StD K H σ ss) : StD K H (σ.set i x) (ss.set i none) := by
  refine ⟨by rw [List.length_set, List.length_set, h.1], fun j e q => ?_⟩
  by_cases n : i = j
  · subst n
    rw [List.getElem?_set_self'] at q
    cases g : ss[i]? with
    | none =>
      rw [g] at q
      cases q
    | some o =>
      rw [g] at q
      simp at q
  · rw [List.getElem?_set_ne n] at q ⊢
    exact h.2 j e q
theorem StD.sets : ∀ (as : List (Nat × PyData)) {vs : List V} {σ : L2.St} {ss : SD}, StD K H σ ss → DqAll K H vs (as.map (·.2)) → StD K H (setL σ (as.map (·.1)) vs) (setsD ss as)
  | [], vs, σ, ss, h, hv => by cases hv; exact h
  | (j, d) :: as, vs, σ, ss, h, hv => by
    cases hv with
    | cons h1 h2 => exact StD.sets as (h.set j h1) h2
theorem StD.wipe : ∀ (vs : List Nat), StD K H σ ss → StD K H (wipe σ vs) (wipeD ss vs)
  | [], h => h
  | v :: vs, h => (StD.wipe vs h).unset v
theorem StD.var {i : Nat} {d : PyData} (h : StD K H σ ss) (e : ss[i]? = some (some d)) : ∃ v, σ[i]? = some (some v) ∧ Dq K H v d := h.2 i d e
theorem setL_len : ∀ (js : List Nat) (vs : List V) (σ : L2.St), (setL σ js vs).length = σ.length
  | [], _, _ => rfl
  | _ :: _, [], _ => rfl
  | j :: js, v :: vs, σ => by
    show (setL (σ.set j (some v)) js vs).length = _
    rw [setL_len, List.length_set]
theorem setL_ne : ∀ (js : List Nat) (vs : List V) (σ : L2.St) {i : Nat}, i ∉ js → (setL σ js vs)[i]? = σ[i]?
  | [], _, _, _, _ => rfl
  | _ :: _, [], _, _, _ => rfl
  | j :: js, v :: vs, σ, i, h => by
    show (setL (σ.set j (some v)) js vs)[i]? = _
    rw [setL_ne js vs _ (fun m => h (List.mem_cons_of_mem _ m)), List.getElem?_set_ne (fun (e : j = i) => h (e ▸ List.mem_cons_self))]
theorem wipe_get (σ : L2.St) : ∀ (vs : List Nat) (i : Nat), (wipe σ vs)[i]? = if i ∈ vs then (σ[i]?).map (fun _ => none) else σ[i]?
  | [], i => by simp [wipe]
  | v :: vs, i => by
    unfold wipe
    by_cases e : v = i
    · subst e
      rw [List.getElem?_set_self', wipe_get σ vs v, if_pos (List.mem_cons_self)]
      by_cases m : v ∈ vs
      · rw [if_pos m]
        cases σ[v]? <;> rfl
      · rw [if_neg m]
        cases σ[v]? <;> rfl
    · rw [List.getElem?_set_ne e, wipe_get σ vs i]
      by_cases m : i ∈ vs
      · rw [if_pos m, if_pos (List.mem_cons_of_mem _ m)]
      · rw [if_neg m, if_neg]
        intro q
        rcases List.mem_cons.mp q with z | z
        · exact e z.symm
        · exact m z
theorem wipe_sets {vs js : List Nat} {us : List V} (h : ∀ j ∈ js, j ∈ vs) : wipe (setL (wipe σ vs) js us) vs = wipe σ vs := by
  apply List.ext_getElem?
  intro i
  rw [wipe_get, wipe_get]
  by_cases m : i ∈ vs
  · rw [if_pos m, if_pos m]
    by_cases lt : i < σ.length
    · have a : i < (setL (wipe σ vs) js us).length := by rw [setL_len, wipe_length]; exact lt
      rw [List.getElem?_eq_getElem a, List.getElem?_eq_getElem lt]
      rfl
    · have a : ¬ i < (setL (wipe σ vs) js us).length := by rw [setL_len, wipe_length]; exact lt
      rw [List.getElem?_eq_none (by omega), List.getElem?_eq_none (by omega)]
  · rw [if_neg m, if_neg m, setL_ne _ _ _ (fun q => m (h i q)), wipe_get, if_neg m]
end
end Wk
end
section
set_option Elab.async false
set_option linter.all false
set_option maxRecDepth 100000
namespace Wk
open PySem L2 C8 Evl

/-- an expression comes to data, a test to a truth, arguments to data; whatever addresses X are left out -/
def EvD (K : PySem.W.Frag) (te : TE) (ss : SD) (d : PyData) : Prop := ∀ (X : List Addr) (σ : L2.St) (H : Hp), Own X H → StD K (Hd X H) σ ss → ∀ Q : VK, (∀ v H', Ex H H' → Dq K (Hd X H') v d → Q v H') → te σ H Q
def EvB (K : PySem.W.Frag) (tt : TT) (ss : SD) (b : Bool) : Prop := ∀ (X : List Addr) (σ : L2.St) (H : Hp), Own X H → StD K (Hd X H) σ ss → ∀ Q : Bool → Hp → Prop, (∀ H', Ex H H' → Q b H') → tt σ H Q
def EvAD (K : PySem.W.Frag) (ta : TA) (ss : SD) (ds : List PyData) : Prop := ∀ (X : List Addr) (σ : L2.St) (H : Hp), Own X H → StD K (Hd X H) σ ss → ∀ Q : List V → Hp → Prop, (∀ vs H', Ex H H' → DqAll K (Hd X H') vs ds → Q vs H') → ta σ H Q
/-- .. to a new list -/
def EvN (K : PySem.W.Frag) (te : TE) (ss : SD) (es : List PyData) : Prop := ∀ (X : List Addr) (σ : L2.St) (H : Hp), Own X H → StD K (Hd X H) σ ss → ∀ Q : VK, (∀ p xs H', H p = none → Ex H H' → H' p = some (.lst xs) → DqAll K (Hd (p :: X) H') xs es → Q (.ref p) H') → te σ H Q

section
variable {K : PySem.W.Frag} {ss : SD} {ta tb te : TE} {t u : TT} {d e : PyData}
theorem EvN.dat {es : List PyData} (h : EvN K te ss es) : EvD K te ss (.list es) := fun X σ H O S Q q => h X σ H O S Q fun p xs H' hp e hx ha =>
  q _ H' e (.lst (hd_at (own_not O hp) hx) (dpAll_mono hd_tail _ _ ha))
theorem EvD.le {a : SD} (l : LeD a ss) (h : EvD K te a d) : EvD K te ss d := fun X σ H O S => h X σ H O (S.le l)
theorem ed_var {i : Nat} (h : ss[i]? = some (some d)) : EvD K (tVar i) ss d := fun X σ H O S Q q => by
  obtain ⟨v, e, hv⟩ := S.var h
  exact ⟨v, e, q v H (Ex.refl H) hv⟩
theorem ed_int {i : Int} : EvD K (tC (.int i)) ss (.int i) := fun X σ H O S Q q => q _ H (Ex.refl H) (.int i)
theorem ed_bl {b : Bool} : EvD K (tC (.bl b)) ss (.bool b) := fun X σ H O S Q q => q _ H (Ex.refl H) (.bl b)
theorem ed_non : EvD K (tC .non) ss PyData.none := fun X σ H O S Q q => q _ H (Ex.refl H) .non
theorem ed_str {x : Str} : EvD K (tC (.str x)) ss (.str x) := fun X σ H O S Q q => q _ H (Ex.refl H) (.str x)
/-- two expressions in a row -/
theorem ed_op2 {r : R2} {z : PyData} (ha : EvD K ta ss d) (hb : EvD K tb ss e)
    (hr : ∀ (X : List Addr) (H : Hp) (x y : V) (Q : VK), Own X H → Dq K (Hd X H) x d → Dq K (Hd X H) y e → (∀ v H', Ex H H' → Dq K (Hd X H') v z → Q v H') → r x y H Q) : EvD K (tOp r ta tb) ss z := fun X σ H O S Q q =>
  ha X σ H O S _ fun x H1 e1 h1 => hb X σ H1 (O.mono e1) (S.mono (hd_mono e1)) _ fun y H2 e2 h2 =>
    hr X H2 x y Q (O.mono (e1.trans e2)) (dp_mono (hd_mono e2) _ _ h1) h2 fun v H3 e3 h3 => q v H3 ((e1.trans e2).trans e3) h3
theorem ed_I0 {g : Int → Int → V} {i j : Int} {z : PyData} (hz : ∀ H, Dq K H (g i j) z) (ha : EvD K ta ss (.int i)) (hb : EvD K tb ss (.int j)) : EvD K (tOp (rI0 g) ta tb) ss z :=
  ed_op2 ha hb fun X H x y Q O hx hy q => ⟨i, j, dp_int hx, dp_int hy, q _ H (Ex.refl H) (hz _)⟩
theorem ed_I {C : Int → Int → Prop} {g : Int → Int → V} {i j : Int} {z : PyData} (hz : ∀ H, Dq K H (g i j) z) (ha : EvD K ta ss (.int i)) (hb : EvD K tb ss (.int j)) (hc : C i j) : EvD K (tOp (rI C g) ta tb) ss z :=
  ed_op2 ha hb fun X H x y Q O hx hy q => ⟨i, j, dp_int hx, dp_int hy, hc, q _ H (Ex.refl H) (hz _)⟩
variable {i j : Int}
theorem ed_add (ha : EvD K ta ss (.int i)) (hb : EvD K tb ss (.int j)) : EvD K (tOp (rI0 fun i j => .int (i + j)) ta tb) ss (.int (i + j)) := ed_I0 (fun _ => .int _) ha hb
theorem ed_sub (ha : EvD K ta ss (.int i)) (hb : EvD K tb ss (.int j)) : EvD K (tOp (rI0 fun i j => .int (i - j)) ta tb) ss (.int (i - j)) := ed_I0 (fun _ => .int _) ha hb
theorem ed_lt (ha : EvD K ta ss (.int i)) (hb : EvD K tb ss (.int j)) : EvD K (tOp (rI0 fun i j => .bl (decide (i < j))) ta tb) ss (.bool (decide (i < j))) := ed_I0 (fun _ => .bl _) ha hb
theorem ed_gt (ha : EvD K ta ss (.int i)) (hb : EvD K tb ss (.int j)) : EvD K (tOp (rI0 fun i j => .bl (decide (j < i))) ta tb) ss (.bool (decide (j < i))) := ed_I0 (fun _ => .bl _) ha hb
theorem ed_le (ha : EvD K ta ss (.int i)) (hb : EvD K tb ss (.int j)) : EvD K (tOp (rI0 fun i j => .bl (decide (i ≤ j))) ta tb) ss (.bool (decide (i ≤ j))) := ed_I0 (fun _ => .bl _) ha hb
theorem ed_ge (ha : EvD K ta ss (.int i)) (hb : EvD K tb ss (.int j)) : EvD K (tOp (rI0 fun i j => .bl (decide (j ≤ i))) ta tb) ss (.bool (decide (j ≤ i))) := ed_I0 (fun _ => .bl _) ha hb
theorem ed_mul (hc : CMulW i j) (ha : EvD K ta ss (.int i)) (hb : EvD K tb ss (.int j)) : EvD K (tOp (rI CMulW fun i j => .int (i * j)) ta tb) ss (.int (i * j)) := ed_I (fun _ => .int _) ha hb hc
theorem ed_fdiv (hc : CDivW i j) (ha : EvD K ta ss (.int i)) (hb : EvD K tb ss (.int j)) : EvD K (tOp (rI CDivW fun i j => .int (i / j)) ta tb) ss (.int (i / j)) := ed_I (fun _ => .int _) ha hb hc
theorem ed_mod (hc : 0 < j) (ha : EvD K ta ss (.int i)) (hb : EvD K tb ss (.int j)) : EvD K (tOp (rI (fun _ j => 0 < j) fun i j => .int (i % j)) ta tb) ss (.int (i % j)) := ed_I (fun _ => .int _) ha hb hc
theorem ed_neg (ha : EvD K ta ss (.int i)) : EvD K (tUn (rU fun i => .int (-i)) ta) ss (.int (-i)) := fun X σ H O S Q q =>
  ha X σ H O S _ fun x H1 e1 h1 => ⟨i, dp_int h1, q _ H1 e1 (.int _)⟩
theorem ed_is (h : EvD K te ss d) (q : d = e) : EvD K te ss e := q ▸ h
theorem ed_eqI (ha : EvD K ta ss (.int i)) (hb : EvD K tb ss (.int j)) : EvD K (tOp rEq ta tb) ss (.bool (decide (i = j))) :=
  ed_op2 ha hb fun X H x y Q O hx hy q => by
    rw [dp_int hx, dp_int hy]
    refine ⟨rfl, q _ H (Ex.refl H) ?_⟩
    have : decide (V.int i = V.int j) = decide (i = j) := by rw [dec_int]; exact Bool.beq_eq_decide_eq i j
    rw [this]
    exact .bl _
theorem ed_neI (ha : EvD K ta ss (.int i)) (hb : EvD K tb ss (.int j)) : EvD K (tOp rNe ta tb) ss (.bool (!decide (i = j))) :=
  ed_op2 ha hb fun X H x y Q O hx hy q => by
    rw [dp_int hx, dp_int hy]
    refine ⟨rfl, q _ H (Ex.refl H) ?_⟩
    have : decide (V.int i = V.int j) = decide (i = j) := by rw [dec_int]; exact Bool.beq_eq_decide_eq i j
    rw [this]
    exact .bl _
theorem ed_neS {x y : Str} (ha : EvD K ta ss (.str x)) (hb : EvD K tb ss (.str y)) : EvD K (tOp rNe ta tb) ss (.bool (!decide (x = y))) :=
  ed_op2 ha hb fun X H v w Q O hx hy q => by
    rw [dp_str hx, dp_str hy]
    refine ⟨rfl, q _ H (Ex.refl H) ?_⟩
    have : decide (V.str x = V.str y) = decide (x = y) := by
      by_cases c : x = y
      · simp [c]
      · simp [c]
    rw [this]
    exact .bl _
theorem ed_eqD (hd : SeqAt.shaped d = true) (he : SeqAt.shaped e = true) (ha : EvD K ta ss d) (hb : EvD K tb ss e) : EvD K (tOp (rEqD K) ta tb) ss (.bool (PyData.eqv d e)) :=
  ed_op2 ha hb fun X H x y Q O hx hy q => ⟨d, e, dq_dp _ _ (SeqAt.canLay_of_shaped hd) (dp_mono hd_le _ _ hx), dq_dp _ _ (SeqAt.canLay_of_shaped he) (dp_mono hd_le _ _ hy), hd, he, q _ H (Ex.refl H) (.bl _)⟩
theorem ed_neD (hd : SeqAt.shaped d = true) (he : SeqAt.shaped e = true) (ha : EvD K ta ss d) (hb : EvD K tb ss e) : EvD K (tOp (rNeD K) ta tb) ss (.bool (!PyData.eqv d e)) :=
  ed_op2 ha hb fun X H x y Q O hx hy q => ⟨d, e, dq_dp _ _ (SeqAt.canLay_of_shaped hd) (dp_mono hd_le _ _ hx), dq_dp _ _ (SeqAt.canLay_of_shaped he) (dp_mono hd_le _ _ hy), hd, he, q _ H (Ex.refl H) (.bl _)⟩
def isNo : PyData → Bool
  | .none => true
  | _ => false
theorem dec_no {H : Hp} {v : V} (h : Dq K H v d) : decide (v = V.non) = isNo d := by
  cases h <;> simp [isNo]
theorem ed_isN (ha : EvD K ta ss d) : EvD K (tOp (fun x y H Q => y = .non ∧ Q (.bl (decide (x = .non))) H) ta (tC .non)) ss (.bool (isNo d)) := fun X σ H O S Q q =>
  ha X σ H O S _ fun x H1 e1 h1 => ⟨rfl, q _ H1 e1 (by rw [dec_no h1]; exact .bl _)⟩
theorem ed_notN (ha : EvD K ta ss d) : EvD K (tOp (fun x y H Q => y = .non ∧ Q (.bl (!decide (x = .non))) H) ta (tC .non)) ss (.bool (!isNo d)) := fun X σ H O S Q q =>
  ha X σ H O S _ fun x H1 e1 h1 => ⟨rfl, q _ H1 e1 (by rw [dec_no h1]; exact .bl _)⟩
theorem ed_isB {a b : Bool} (ha : EvD K ta ss (.bool a)) : EvD K (tOp rIsB ta (tC (.bl b))) ss (.bool (decide (a = b))) := fun X σ H O S Q q =>
  ha X σ H O S _ fun x H1 e1 h1 => ⟨a, b, dp_bl h1, rfl, q _ H1 e1 (.bl _)⟩
/-! subscripts -/
theorem dpa_at {H : Hp} {ds : List PyData} {vs : List V} {i : Int} (h : DqAll K H vs ds) (e : atI ds i = some d) : ∃ v, atI vs i = some v ∧ Dq K H v d := by
  unfold atI at e ⊢
  rw [dpa_len h]
  cases g : ixN ds.length i with
  | none =>
    rw [g] at e
    cases e
  | some j =>
    rw [g] at e
    obtain ⟨v, a, b⟩ := dpa_get h (i := j) (d := d) e
    exact ⟨v, a, b⟩
theorem ed_ixT {ds : List PyData} (he : atI ds i = some d) (ha : EvD K ta ss (.tuple ds)) (hb : EvD K tb ss (.int i)) : EvD K (tOp (rIxT K) ta tb) ss d :=
  ed_op2 ha hb fun X H x y Q O hx hy q => by
    obtain ⟨a, xs, rfl, hs, hl⟩ := dp_tup hx
    obtain ⟨v, e1, e2⟩ := dpa_at hl he
    exact ⟨a, xs, i, v, rfl, dp_int hy, ex_t hd_le hs, e1, q v H (Ex.refl H) e2⟩
theorem ed_ixL {ds : List PyData} (he : atI ds i = some d) (ha : EvD K ta ss (.list ds)) (hb : EvD K tb ss (.int i)) : EvD K (tOp (rIxL K) ta tb) ss d :=
  ed_op2 ha hb fun X H x y Q O hx hy q => by
    obtain ⟨a, xs, rfl, hs, hl⟩ := dp_lst hx
    obtain ⟨v, e1, e2⟩ := dpa_at hl he
    exact ⟨a, xs, i, v, rfl, dp_int hy, sq_of (hd_le _ _ hs), e1, q v H (Ex.refl H) e2⟩
/-- a list or a tuple -/
def Sq (d : PyData) (ds : List PyData) : Prop := d = .list ds ∨ d = .tuple ds
theorem ed_ixS {z : PyData} {ds : List PyData} (sq : Sq z ds) (he : atI ds i = some d) (ha : EvD K ta ss z) (hb : EvD K tb ss (.int i)) : EvD K (tOp (rIx K) ta tb) ss d :=
  ed_op2 ha hb fun X H x y Q O hx hy q => by
    rcases sq with rfl | rfl
    · obtain ⟨a, xs, rfl, hs, hl⟩ := dp_lst hx
      obtain ⟨v, e1, e2⟩ := dpa_at hl he
      exact .inl ⟨a, xs, i, v, rfl, dp_int hy, sq_of (hd_le _ _ hs), e1, q v H (Ex.refl H) e2⟩
    · obtain ⟨a, xs, rfl, hs, hl⟩ := dp_tup hx
      obtain ⟨v, e1, e2⟩ := dpa_at hl he
      exact .inr (.inl ⟨a, xs, i, v, rfl, dp_int hy, ex_t hd_le hs, e1, q v H (Ex.refl H) e2⟩)
/-! tests -/
theorem eb_test {b : Bool} (h : EvD K te ss (.bool b)) : EvB K (tTest te) ss b := fun X σ H O S Q q => h X σ H O S _ fun v H1 e1 h1 => ⟨b, dp_bl h1, q H1 e1⟩
theorem eb_B {b : Bool} (h : EvD K te ss (.bool b)) : EvB K (tB te) ss b := fun X σ H O S Q q => h X σ H O S _ fun v H1 e1 h1 => ⟨b, dp_bl h1, q H1 e1⟩
theorem eb_is {a b : Bool} (h : EvB K t ss a) (e : a = b) : EvB K t ss b := e ▸ h
theorem eb_and {a b : Bool} (h1 : EvB K t ss a) (h2 : a = true → EvB K u ss b) : EvB K (tAnd t u) ss (a && b) := fun X σ H O S Q q => h1 X σ H O S _ fun H1 e1 => by
  cases a with
  | true => exact h2 rfl X σ H1 (O.mono e1) (S.mono (hd_mono e1)) Q fun H2 e2 => q H2 (e1.trans e2)
  | false => exact q H1 e1
theorem eb_or {a b : Bool} (h1 : EvB K t ss a) (h2 : a = false → EvB K u ss b) : EvB K (tOr t u) ss (a || b) := fun X σ H O S Q q => h1 X σ H O S _ fun H1 e1 => by
  cases a with
  | true => exact q H1 e1
  | false => exact h2 rfl X σ H1 (O.mono e1) (S.mono (hd_mono e1)) Q fun H2 e2 => q H2 (e1.trans e2)
theorem eb_not {a : Bool} (h1 : EvB K t ss a) : EvB K (tNot t) ss (!a) := fun X σ H O S Q q => h1 X σ H O S _ fun H1 e1 => q H1 e1
theorem eb_yes : EvB K tYes ss true := fun X σ H O S Q q => q H (Ex.refl H)
theorem ed_andV {a b : Bool} (h1 : EvD K ta ss (.bool a)) (h2 : a = true → EvD K tb ss (.bool b)) : EvD K (tAndV ta tb) ss (.bool (a && b)) := fun X σ H O S Q q => h1 X σ H O S _ fun v H1 e1 hv => ⟨a, dp_bl hv, by
  cases a with
  | true => exact h2 rfl X σ H1 (O.mono e1) (S.mono (hd_mono e1)) Q fun w H2 e2 => q w H2 (e1.trans e2)
  | false => exact q _ H1 e1 (.bl _)⟩
theorem ed_orV {a b : Bool} (h1 : EvD K ta ss (.bool a)) (h2 : a = false → EvD K tb ss (.bool b)) : EvD K (tOrV ta tb) ss (.bool (a || b)) := fun X σ H O S Q q => h1 X σ H O S _ fun v H1 e1 hv => ⟨a, dp_bl hv, by
  cases a with
  | true => exact q _ H1 e1 (.bl _)
  | false => exact h2 rfl X σ H1 (O.mono e1) (S.mono (hd_mono e1)) Q fun w H2 e2 => q w H2 (e1.trans e2)⟩
theorem ed_notV {a : Bool} (h1 : EvD K ta ss (.bool a)) : EvD K (tNotV ta) ss (.bool (!a)) := fun X σ H O S Q q => h1 X σ H O S _ fun v H1 e1 hv => ⟨a, dp_bl hv, q _ H1 e1 (.bl _)⟩
theorem ed_if {b : Bool} (h : EvB K t ss b) (h1 : b = true → EvD K ta ss d) (h2 : b = false → EvD K tb ss d) : EvD K (tIf t ta tb) ss d := fun X σ H O S Q q => h X σ H O S _ fun H1 e1 => by
  cases b with
  | true => exact h1 rfl X σ H1 (O.mono e1) (S.mono (hd_mono e1)) Q fun w H2 e2 => q w H2 (e1.trans e2)
  | false => exact h2 rfl X σ H1 (O.mono e1) (S.mono (hd_mono e1)) Q fun w H2 e2 => q w H2 (e1.trans e2)
/-- .. with the two answers told apart -/
theorem ed_ite {b : Bool} (h : EvB K t ss b) (h1 : b = true → EvD K ta ss d) (h2 : b = false → EvD K tb ss e) : EvD K (tIf t ta tb) ss (if b = true then d else e) := by
  refine ed_if h (fun q => ?_) (fun q => ?_)
  · rw [if_pos q]; exact h1 q
  · rw [if_neg (by rw [q]; decide)]; exact h2 q
/-! arguments, displays, calls -/
theorem ea_nil : EvAD K tNil ss [] := fun X σ H O S Q q => q [] H (Ex.refl H) .nil
theorem ea_cons {tr : TA} {ds : List PyData} (h : EvD K te ss d) (hr : EvAD K tr ss ds) : EvAD K (tCons te tr) ss (d :: ds) := fun X σ H O S Q q =>
  h X σ H O S _ fun v H1 e1 hv => hr X σ H1 (O.mono e1) (S.mono (hd_mono e1)) _ fun vs H2 e2 hvs => q (v :: vs) H2 (e1.trans e2) (.cons (dp_mono (hd_mono e2) _ _ hv) hvs)
theorem ed_tup {tr : TA} {ds : List PyData} (h : EvAD K tr ss ds) (hl : ds.length ≤ 100000 := by decide) : EvD K (tTup tr) ss (.tuple ds) := fun X σ H O S Q q =>
  h X σ H O S _ fun vs H1 e1 hv => ⟨by rw [dpa_len hv]; exact sz_of hl, fun p hp => q _ _ (e1.trans (Ex.new hp))
    (.tup (st_of (hd_at (own_not (O.mono e1) hp) upd_same)) (dpAll_mono (hd_mono (Ex.new hp)) _ _ hv))⟩
theorem en_lst {tr : TA} {ds : List PyData} (h : EvAD K tr ss ds) (hl : ds.length ≤ 100000 := by decide) : EvN K (tLst tr) ss ds := fun X σ H O S Q q =>
  h X σ H O S _ fun vs H1 e1 hv => ⟨by rw [dpa_len hv]; exact sz_of hl, fun p hp => q p vs _ (fresh_back e1 hp) (e1.trans (Ex.new hp)) upd_same
    (dpAll_mono (hd_new (Ex.new hp) hp) _ _ hv)⟩
theorem ed_cb {r : List V → Hp → VK → Prop} {tr : TA} {ds : List PyData} {z : PyData} (h : EvAD K tr ss ds)
    (hr : ∀ (X : List Addr) (H : Hp) (vs : List V) (Q : VK), Own X H → DqAll K (Hd X H) vs ds → (∀ v H', Ex H H' → Dq K (Hd X H') v z → Q v H') → r vs H Q) : EvD K (tCB r tr) ss z := fun X σ H O S Q q =>
  h X σ H O S _ fun vs H1 e1 hv => hr X H1 vs Q (O.mono e1) hv fun v H2 e2 => q v H2 (e1.trans e2)
/-- what a def of data promises -/
def spD (K : PySem.W.Frag) (φ : List PyData → PyData → Prop) : Sp := fun vs H Q _ => ∃ X ds r, Own X H ∧ DqAll K (Hd X H) vs ds ∧ φ ds r ∧ ∀ v H', Ex H H' → Dq K (Hd X H') v r → Q v H'
theorem ed_call {φ : List PyData → PyData → Prop} {tr : TA} {ds : List PyData} {z : PyData} {E : XK} (h : EvAD K tr ss ds) (hz : φ ds z) : EvD K (tCall (spD K φ) [] E tr) ss z := fun X σ H O S Q q =>
  h X σ H O S _ fun vs H1 e1 hv => ⟨X, ds, z, O.mono e1, by rw [List.append_nil]; exact hv, hz, fun v H2 e2 => q v H2 (e1.trans e2)⟩
theorem one {H : Hp} {vs : List V} (h : DqAll K H vs [d]) : ∃ v, vs = [v] ∧ Dq K H v d := by
  cases h with
  | cons h1 h2 => cases h2; exact ⟨_, rfl, h1⟩
theorem two {H : Hp} {vs : List V} (h : DqAll K H vs [d, e]) : ∃ v w, vs = [v, w] ∧ Dq K H v d ∧ Dq K H w e := by
  cases h with
  | cons h1 h2 =>
    obtain ⟨w, rfl, h3⟩ := one h2
    exact ⟨_, w, rfl, h1, h3⟩
theorem sq_seq {X : List Addr} {H : Hp} {v : V} {z : PyData} {ds : List PyData} (sq : Sq z ds) (h : Dq K (Hd X H) v z) : ∃ p xs, v = .ref p ∧ (SqL K H p xs ∨ SqT K H p xs) ∧ DqAll K (Hd X H) xs ds := by
  rcases sq with rfl | rfl
  · obtain ⟨a, xs, rfl, hs, hl⟩ := dp_lst h
    exact ⟨a, xs, rfl, .inl (sq_of (hd_le _ _ hs)), hl⟩
  · obtain ⟨a, xs, rfl, hs, hl⟩ := dp_tup h
    exact ⟨a, xs, rfl, .inr (ex_t hd_le hs), hl⟩
theorem ed_len {z : PyData} {ds : List PyData} (sq : Sq z ds) (ha : EvD K ta ss z) : EvD K (tCB (fun xs H Q => ∃ p ys, xs = [.ref p] ∧ (SqL K H p ys ∨ SqT K H p ys) ∧ Q (.int ys.length) H) (tCons ta tNil)) ss (.int (ds.length : Int)) :=
  ed_cb (ea_cons ha ea_nil) fun X H vs Q O hv q => by
    obtain ⟨v, rfl, h1⟩ := one hv
    obtain ⟨p, xs, rfl, hs, hl⟩ := sq_seq sq h1
    refine ⟨p, xs, rfl, hs, q _ H (Ex.refl H) ?_⟩
    rw [dpa_len hl]
    exact .int _
theorem ed_tuple {z : PyData} {ds : List PyData} (sq : Sq z ds) (ha : EvD K ta ss z) : EvD K (tThen ta (kTup K)) ss (.tuple ds) := fun X σ H O S Q q =>
  ha X σ H O S _ fun v H1 e1 hv => by
    rcases sq with rfl | rfl
    · obtain ⟨a, xs, rfl, hs, hl⟩ := dp_lst hv
      refine .inl ⟨a, xs, rfl, sq_of (hd_le _ _ hs), fun p hp => q _ _ (e1.trans (Ex.new hp)) ?_⟩
      exact .tup (st_of (hd_at (own_not (O.mono e1) hp) upd_same)) (dpAll_mono (hd_mono (Ex.new hp)) _ _ hl)
    · obtain ⟨a, xs, rfl, hs, hl⟩ := dp_tup hv
      exact .inr ⟨a, xs, rfl, ex_t hd_le hs, q _ H1 e1 (.tup hs hl)⟩
theorem en_list {z : PyData} {ds : List PyData} (sq : Sq z ds) (ha : EvD K ta ss z) : EvN K (tCB (fun xs H Q => ∃ p ys, xs = [.ref p] ∧ (SqL K H p ys ∨ SqT K H p ys) ∧ ∀ l, H l = none → Q (.ref l) (upd H l (.lst ys))) (tCons ta tNil)) ss ds := fun X σ H O S Q q =>
  ha X σ H O S _ fun v H1 e1 hv => by
    obtain ⟨p, xs, rfl, hs, hl⟩ := sq_seq sq hv
    exact ⟨p, xs, rfl, hs, fun l hp => q l xs _ (fresh_back e1 hp) (e1.trans (Ex.new hp)) upd_same (dpAll_mono (hd_new (Ex.new hp) hp) _ _ hl)⟩
theorem ed_gcd (ha : EvD K ta ss (.int i)) (hb : EvD K tb ss (.int j)) : EvD K (tCB rGcd (tCons ta (tCons tb tNil))) ss (.int ((Nat.gcd i.natAbs j.natAbs : Nat) : Int)) :=
  ed_cb (ea_cons ha (ea_cons hb ea_nil)) fun X H vs Q O hv q => by
    obtain ⟨v, w, rfl, h1, h2⟩ := two hv
    rw [dp_int h1, dp_int h2]
    exact ⟨i, j, rfl, q _ H (Ex.refl H) (.int _)⟩
theorem ed_abs (ha : EvD K ta ss (.int i)) : EvD K (tCB (fun xs H Q => ∃ i, xs = [.int i] ∧ Q (.int (if i < 0 then -i else i)) H) (tCons ta tNil)) ss (.int (i.natAbs : Int)) :=
  ed_cb (ea_cons ha ea_nil) fun X H vs Q O hv q => by
    obtain ⟨v, rfl, h1⟩ := one hv
    rw [dp_int h1]
    refine ⟨i, rfl, q _ H (Ex.refl H) ?_⟩
    have : (if i < 0 then -i else i) = (i.natAbs : Int) := by split <;> omega
    rw [this]
    exact .int _
theorem ed_int1 (ha : EvD K ta ss (.int i)) : EvD K (tCB (fun xs H Q => (∃ i, xs = [.int i] ∧ Q (.int i) H) ∨ ∃ k, xs = [.bl k] ∧ Q (.int (if k then 1 else 0)) H) (tCons ta tNil)) ss (.int i) :=
  ed_cb (ea_cons ha ea_nil) fun X H vs Q O hv q => by
    obtain ⟨v, rfl, h1⟩ := one hv
    rw [dp_int h1]
    exact .inl ⟨i, rfl, q _ H (Ex.refl H) (.int _)⟩
theorem ed_all {bs : List Bool} (ha : EvD K ta ss (.list (bs.map .bool))) : EvD K (tCB (rAll K) (tCons ta tNil)) ss (.bool (bs.all id)) :=
  ed_cb (ea_cons ha ea_nil) fun X H vs Q O hv q => by
    obtain ⟨v, rfl, h1⟩ := one hv
    obtain ⟨a, xs, rfl, hs, hl⟩ := dp_lst h1
    rw [dpa_bls hl] at hs
    exact ⟨a, bs, rfl, sq_of (hd_le _ _ hs), q _ H (Ex.refl H) (.bl _)⟩
theorem ed_sum {ns : List Int} (ha : EvD K ta ss (.list (ns.map .int))) : EvD K (tCB (rSum K) (tCons ta tNil)) ss (.int ns.sum) :=
  ed_cb (ea_cons ha ea_nil) fun X H vs Q O hv q => by
    obtain ⟨v, rfl, h1⟩ := one hv
    obtain ⟨a, xs, rfl, hs, hl⟩ := dp_lst h1
    rw [dpa_ints hl] at hs
    exact ⟨a, ns, rfl, sq_of (hd_le _ _ hs), q _ H (Ex.refl H) (.int _)⟩
/-! isinstance -/
def tyOfD : PyData → String
  | .none => "NoneType"
  | .bool _ => "bool"
  | .int _ => "int"
  | .str _ => "str"
  | .list _ => "list"
  | .tuple _ => "tuple"
  | .dict _ => "dict"
def noTok : PyData → Bool
  | .dict _ => false
  | _ => true
theorem tyx {X : List Addr} {H : Hp} {v : V} (h : Dq K (Hd X H) v d) (n : noTok d = true) : TyX K H v (.type (tyOfD d)) := by
  cases h with
  | non => exact .base .non
  | bl b => exact .base (.bl b)
  | int i => exact .base (.int i)
  | str x => exact .base (.str x)
  | adr a => cases n
  | frz _ _ _ => cases n
  | lst hs _ => exact .base (.lst (hd_le _ _ hs))
  | tup hs _ =>
    rcases hs with (hs | ⟨o, hs⟩) | ⟨o, its, n, h1, h2, _⟩
    · exact .base (.tup (hd_le _ _ hs))
    · exact .fTuple (hd_le _ _ hs)
    · exact .kTuple h1 h2
theorem ed_isi {T : String} {b : Bool} (hk : kitB (tyOfD d) T = some b) (ha : EvD K ta ss d) (hn : noTok d = true := by rfl) : EvD K (tCB (rIsi K) (tCons ta (tCons (tC (.ty T)) tNil))) ss (.bool b) := fun X σ H O S Q q =>
  ha X σ H O S _ fun v H1 e1 hv => ⟨v, .ty T, _, .type T, b, rfl, .ty T, tyx hv hn, kit_ty hk, q _ H1 e1 (.bl _)⟩
end
end Wk
end
section
set_option Elab.async false
set_option linter.all false
set_option maxRecDepth 100000
namespace Wk
open PySem L2 C8 Evl

section
variable {K : PySem.W.Frag} {ss : SD} {ta tb te : TE} {t u : TT} {d e : PyData} {i j : Int}
/-! ### slices, sums of lists -/
def EvO (K : PySem.W.Frag) (to : TO) (ss : SD) (o : Option Int) : Prop := ∀ (X : List Addr) (σ : L2.St) (H : Hp), Own X H → StD K (Hd X H) σ ss → ∀ Q : Option Int → Hp → Prop, (∀ H', Ex H H' → Q o H') → to σ H Q
theorem eo_none : EvO K tNoPart ss none := fun X σ H O S Q q => q H (Ex.refl H)
theorem eo_some (h : EvD K te ss (.int i)) : EvO K (tPart te) ss (some i) := fun X σ H O S Q q => h X σ H O S _ fun v H1 e1 hv => ⟨i, dp_int hv, q H1 e1⟩
def cutP (xs : List PyData) (lo hi : Option Int) : List PyData := (xs.drop (HT.sIx xs.length 0 lo)).take (HT.sIx xs.length xs.length hi - HT.sIx xs.length 0 lo)
theorem cutP_last (xs : List PyData) : cutP xs none (some (-1)) = xs.dropLast := by
  unfold cutP
  have h1 : HT.sIx xs.length 0 none = 0 := rfl
  have h2 : HT.sIx xs.length xs.length (some (-1)) = xs.length - 1 := by
    show (if (-1 : Int) < 0 then ((-1 : Int) + (xs.length : Int)).toNat else min (-1 : Int).toNat xs.length) = _
    rw [if_pos (by decide)]
    omega
  rw [h1, h2, List.dropLast_eq_take]
  rfl
theorem cutP_take (xs : List PyData) (n : Nat) : cutP xs none (some (n : Int)) = xs.take n := by
  unfold cutP
  have h1 : HT.sIx xs.length 0 none = 0 := rfl
  rw [h1, HT.sIx_nat]
  show (xs.drop 0).take (min n xs.length - 0) = xs.take n
  rw [List.drop_zero, Nat.sub_zero]
  by_cases h : n ≤ xs.length
  · rw [Nat.min_eq_left h]
  · rw [Nat.min_eq_right (by omega), List.take_of_length_le (Nat.le_refl _), List.take_of_length_le (by omega)]
theorem en_sl {to tp : TO} {ds : List PyData} {lo hi : Option Int} (h : EvD K te ss (.list ds)) (h1 : EvO K to ss lo) (h2 : EvO K tp ss hi) : EvN K (tSl (rSlL K) te to tp) ss (cutP ds lo hi) := fun X σ H O S Q q =>
  h X σ H O S _ fun v H1 e1 hv => h1 X σ H1 (O.mono e1) (S.mono (hd_mono e1)) _ fun H2 e2 => h2 X σ H2 (O.mono (e1.trans e2)) (S.mono (hd_mono (e1.trans e2))) _ fun H3 e3 => by
    obtain ⟨a, xs, rfl, hs, hl⟩ := dp_lst hv
    refine ⟨a, xs, rfl, sq_of (e3 _ _ (e2 _ _ (hd_le _ _ hs))), fun p hp => q p _ _ (fresh_back ((e1.trans e2).trans e3) hp) (((e1.trans e2).trans e3).trans (Ex.new hp)) upd_same ?_⟩
    have hl3 := dpAll_mono (hd_mono (X := X) (e2.trans e3)) _ _ hl
    have hn := dpa_len hl
    unfold cutV cutP
    rw [hn]
    exact dpAll_mono (hd_new (Ex.new hp) hp) _ _ (dpa_take _ (dpa_drop _ hl3))
theorem en_rev {ds : List PyData} (h : EvD K te ss (.list ds)) : EvN K (tRevL K te) ss ds.reverse := fun X σ H O S Q q =>
  h X σ H O S _ fun v H1 e1 hv => by
    obtain ⟨a, xs, rfl, hs, hl⟩ := dp_lst hv
    exact ⟨a, xs, rfl, sq_of (hd_le _ _ hs), fun p hp => q p _ _ (fresh_back e1 hp) (e1.trans (Ex.new hp)) upd_same (dpAll_mono (hd_new (Ex.new hp) hp) _ _ (dpa_rev hl))⟩
theorem en_cat {as bs : List PyData} (ha : EvD K ta ss (.list as)) (hb : EvD K tb ss (.list bs)) (hl : as.length + bs.length ≤ 100000) : EvN K (tOp rCat ta tb) ss (as ++ bs) := fun X σ H O S Q q =>
  ha X σ H O S _ fun v H1 e1 hv => hb X σ H1 (O.mono e1) (S.mono (hd_mono e1)) _ fun w H2 e2 hw => by
    obtain ⟨a, xs, rfl, hs, hx⟩ := dp_lst hv
    obtain ⟨b, ys, rfl, hs2, hy⟩ := dp_lst hw
    refine ⟨a, b, xs, ys, rfl, rfl, e2 _ _ (hd_le _ _ hs), hd_le _ _ hs2, by rw [dpa_len hx, dpa_len hy]; exact sz_of hl, fun p hp => q p _ _ (fresh_back (e1.trans e2) hp) ((e1.trans e2).trans (Ex.new hp)) upd_same ?_⟩
    exact dpAll_mono (hd_new (Ex.new hp) hp) _ _ (dpa_app (dpAll_mono (hd_mono e2) _ _ hx) hy)
theorem dpa_reps {H : Hp} {ds : List PyData} {vs : List V} (h : DqAll K H vs ds) : ∀ n : Nat, DqAll K H (List.replicate n vs).flatten (List.replicate n ds).flatten
  | 0 => .nil
  | n + 1 => by
    rw [List.replicate_succ, List.replicate_succ, List.flatten_cons, List.flatten_cons]
    exact dpa_app h (dpa_reps h n)
theorem en_rep {ds : List PyData} (ha : EvD K ta ss (.list ds)) (hb : EvD K tb ss (.int i)) (hi : 0 ≤ i ∧ i ≤ 1000) (hl : ds.length ≤ 100) : EvN K (tOp rRep ta tb) ss (List.replicate i.toNat ds).flatten := fun X σ H O S Q q =>
  ha X σ H O S _ fun v H1 e1 hv => hb X σ H1 (O.mono e1) (S.mono (hd_mono e1)) _ fun w H2 e2 hw => by
    obtain ⟨a, xs, rfl, hs, hx⟩ := dp_lst hv
    have hn := dpa_len hx
    refine ⟨a, i, xs, rfl, dp_int hw, e2 _ _ (hd_le _ _ hs), by omega, by omega, ?_, fun p hp => q p _ _ (fresh_back (e1.trans e2) hp) ((e1.trans e2).trans (Ex.new hp)) upd_same ?_⟩
    · rw [hn]
      refine sz_of (Nat.le_trans (Nat.mul_le_mul hl (show i.toNat ≤ 1000 by omega)) (by decide))
    · exact dpAll_mono (hd_new (Ex.new hp) hp) _ _ (dpa_reps (dpAll_mono (hd_mono e2) _ _ hx) _)

/-! ### targets -/
def TgD (K : PySem.W.Frag) (g : TG) (d : PyData) (as : List (Nat × PyData)) : Prop := ∀ (X : List Addr) (H : Hp) (v : V) (σ : L2.St) (k : L2.St → Hp → Prop), Own X H → Dq K (Hd X H) v d →
  (∀ vs, DqAll K (Hd X H) vs (as.map (·.2)) → k (setL σ (as.map (·.1)) vs) H) → g v σ H k
def TgsD (K : PySem.W.Frag) (g : TGs) (ds : List PyData) (as : List (Nat × PyData)) : Prop := ∀ (X : List Addr) (H : Hp) (us : List V) (σ : L2.St) (k : L2.St → Hp → Prop), Own X H → DqAll K (Hd X H) us ds →
  (∀ vs, DqAll K (Hd X H) vs (as.map (·.2)) → k (setL σ (as.map (·.1)) vs) H) → g us σ H k
theorem tg_name {n : Nat} : TgD K (gName n) d [(n, d)] := fun X H v σ k O hv q => q [v] (dpa_one hv)
theorem setL_app : ∀ (js : List Nat) (vs : List V) (σ : L2.St) (ks : List Nat) (us : List V), js.length = vs.length → setL (setL σ js vs) ks us = setL σ (js ++ ks) (vs ++ us)
  | [], [], σ, ks, us, _ => rfl
  | j :: js, v :: vs, σ, ks, us, h => by
    show setL (setL (σ.set j (some v)) js vs) ks us = setL (σ.set j (some v)) (js ++ ks) (vs ++ us)
    exact setL_app js vs _ ks us (by simpa using h)
theorem tgs_nil : TgsD K gNil [] [] := fun X H us σ k O hv q => by
  cases hv
  exact ⟨rfl, q [] .nil⟩
theorem tgs_cons {g : TG} {gs : TGs} {ds : List PyData} {as bs : List (Nat × PyData)} (h : TgD K g d as) (hr : TgsD K gs ds bs) : TgsD K (gCons g gs) (d :: ds) (as ++ bs) := fun X H us σ k O hv q => by
  cases hv with
  | cons h1 h2 =>
    refine ⟨_, _, rfl, h X H _ σ _ O h1 fun vs ha => hr X H _ _ k O h2 fun ws hb => ?_⟩
    have := q (vs ++ ws) (by rw [List.map_append]; exact dpa_app ha hb)
    rw [List.map_append] at this
    rw [setL_app _ _ _ _ _ (by rw [dpa_len ha]; simp)]
    exact this
theorem tg_tup {n : Nat} {gs : TGs} {ds : List PyData} {as : List (Nat × PyData)} (h : TgsD K gs ds as) (hn : ds.length = n := by rfl) : TgD K (gTup K n gs) (.tuple ds) as := fun X H v σ k O hv q => by
  obtain ⟨a, xs, rfl, hs, hx⟩ := dp_tup hv
  exact ⟨a, xs, rfl, ex_t hd_le hs, (dpa_len hx).trans hn, h X H xs σ k O hx q⟩
theorem tg_unl {n : Nat} {gs : TGs} {ds : List PyData} {as : List (Nat × PyData)} (h : TgsD K gs ds as) (hn : ds.length = n := by rfl) : TgD K (gUnl K n gs) (.list ds) as := fun X H v σ k O hv q => by
  obtain ⟨a, xs, rfl, hs, hx⟩ := dp_lst hv
  exact ⟨a, xs, rfl, sq_of (hd_le _ _ hs), (dpa_len hx).trans hn, h X H xs σ k O hx q⟩

/-! ### what is walked -/
def ItD (K : PySem.W.Frag) (J : It) (G : Hp) (ds : List PyData) : Prop := ∀ (X : List Addr) (n : Nat) (H : Hp), Ex G (Hd X H) → Own X H →
  (∀ d, ds[n]? = some d → J.go n H ∧ ∀ x H', J.yld n H x H' → Ex H H' ∧ Dq K (Hd X H') x d) ∧ (ds.length = n → J.stop n H)
def EvI (K : PySem.W.Frag) (wi : TI) (ss : SD) (ds : List PyData) : Prop := ∀ (X : List Addr) (σ : L2.St) (H : Hp), Own X H → StD K (Hd X H) σ ss → ∀ R : It → Hp → Prop, (∀ J H', Ex H H' → ItD K J (Hd X H') ds → R J H') → wi σ H R
theorem itd_list {G : Hp} {a : Addr} {xs : List V} {ds : List PyData} (h : G a = some (.lst xs)) (hx : DqAll K G xs ds) : ItD K (Itl K a) G ds := fun X n H e O => by
  have h2 : SqL K H a xs := sq_of (hd_le _ _ (e _ _ h))
  have h3 := dpAll_mono e _ _ hx
  refine ⟨fun d hd => ?_, fun hn => ⟨xs, h2, by rw [dpa_len hx]; exact Nat.le_of_eq hn⟩⟩
  obtain ⟨v, e1, e2⟩ := dpa_get h3 hd
  refine ⟨⟨xs, v, h2, e1⟩, fun x H' y => ?_⟩
  obtain ⟨rfl, y⟩ := y
  have := y xs h2
  rw [e1] at this
  cases this
  exact ⟨Ex.refl _, e2⟩
theorem itd_tup {G : Hp} {a : Addr} {xs : List V} {ds : List PyData} (h : SqT K G a xs) (hx : DqAll K G xs ds) : ItD K (Itt K a) G ds := fun X n H e O => by
  have h2 : SqT K H a xs := ex_t (e.trans hd_le) h
  have h3 := dpAll_mono e _ _ hx
  refine ⟨fun d hd => ?_, fun hn => ⟨xs, h2, by rw [dpa_len hx]; exact Nat.le_of_eq hn⟩⟩
  obtain ⟨v, e1, e2⟩ := dpa_get h3 hd
  refine ⟨⟨xs, v, h2, e1⟩, fun x H' y => ?_⟩
  obtain ⟨rfl, y⟩ := y
  have := y xs h2
  rw [e1] at this
  cases this
  exact ⟨Ex.refl _, e2⟩
theorem itd_range {G : Hp} {lo : Int} {n : Nat} : ItD K (Itr lo n) G ((List.range n).map fun (k : Nat) => PyData.int (lo + (k : Int))) := fun X m H e O => by
  refine ⟨fun d hd => ?_, fun hn => by show n ≤ m; simp at hn; omega⟩
  rw [List.getElem?_map] at hd
  by_cases lt : m < n
  · rw [List.getElem?_range lt] at hd
    cases hd
    refine ⟨lt, fun x H' y => ?_⟩
    obtain ⟨rfl, rfl⟩ := y
    exact ⟨Ex.refl _, .int _⟩
  · rw [List.getElem?_eq_none (by simpa using lt)] at hd
    cases hd
theorem ei_list {ds : List PyData} (h : EvD K te ss (.list ds)) : EvI K (iList K te) ss ds := fun X σ H O S R q => h X σ H O S _ fun v H1 e1 hv => by
  obtain ⟨a, xs, rfl, hs, hx⟩ := dp_lst hv
  exact ⟨a, rfl, ⟨xs, sq_of (hd_le _ _ hs)⟩, q _ H1 e1 (itd_list hs hx)⟩
theorem ei_tup {ds : List PyData} (h : EvD K te ss (.tuple ds)) : EvI K (iTup K te) ss ds := fun X σ H O S R q => h X σ H O S _ fun v H1 e1 hv => by
  obtain ⟨a, xs, rfl, hs, hx⟩ := dp_tup hv
  exact ⟨a, rfl, ⟨xs, ex_t hd_le hs⟩, q _ H1 e1 (itd_tup hs hx)⟩
theorem ei_rng1 (h : EvD K te ss (.int i)) (hi : 0 ≤ i ∧ i ≤ 100000) : EvI K (iRng1 (tCons te tNil)) ss ((List.range i.toNat).map fun (k : Nat) => PyData.int (0 + (k : Int))) := fun X σ H O S R q => h X σ H O S _ fun v H1 e1 hv => by
  rw [dp_int hv]
  exact ⟨i, rfl, by omega, by omega, q _ H1 e1 itd_range⟩
theorem ei_rng2 (h : EvD K ta ss (.int i)) (h' : EvD K tb ss (.int j)) (hi : 0 ≤ i ∧ i ≤ 100000) (hj : 0 ≤ j ∧ j ≤ 100000) : EvI K (iRng2 (tCons ta (tCons tb tNil))) ss ((List.range (j - i).toNat).map fun (k : Nat) => PyData.int (i + (k : Int))) := fun X σ H O S R q =>
  h X σ H O S _ fun v H1 e1 hv => h' X σ H1 (O.mono e1) (S.mono (hd_mono e1)) _ fun w H2 e2 hw => by
    rw [dp_int hv, dp_int hw]
    exact ⟨i, j, rfl, ⟨by omega, by omega, by omega, by omega⟩, q _ H2 (e1.trans e2) itd_range⟩
/-! a list or a tuple -/
def iSeq (K : PySem.W.Frag) (tl : TE) : TI := fun σ H R => tl σ H fun x H1 => ∃ a xs, x = .ref a ∧ ((SqL K H1 a xs ∧ R (Itl K a) H1) ∨ (SqT K H1 a xs ∧ R (Itt K a) H1))
theorem ei_seq {z : PyData} {ds : List PyData} (sq : Sq z ds) (h : EvD K te ss z) : EvI K (iSeq K te) ss ds := fun X σ H O S R q => h X σ H O S _ fun v H1 e1 hv => by
  rcases sq with rfl | rfl
  · obtain ⟨a, xs, rfl, hs, hx⟩ := dp_lst hv
    exact ⟨a, xs, rfl, .inl ⟨sq_of (hd_le _ _ hs), q _ H1 e1 (itd_list hs hx)⟩⟩
  · obtain ⟨a, xs, rfl, hs, hx⟩ := dp_tup hv
    exact ⟨a, xs, rfl, .inr ⟨ex_t hd_le hs, q _ H1 e1 (itd_tup hs hx)⟩⟩

/-! ### comprehensions -/
theorem en_lc {α : Type} {wi : TI} {g : TG} {tt : TT} {vs : List Nat} {xs : List α} {enc : α → PyData} {as : α → List (Nat × PyData)} {f : α → Bool} {r : α → PyData} (hi : EvI K wi ss (xs.map enc)) (hl : xs.length ≤ 50000)
    (hg : ∀ x ∈ xs, TgD K g (enc x) (as x)) (hv : ∀ x ∈ xs, ∀ p ∈ as x, p.1 ∈ vs) (ht : ∀ x ∈ xs, EvB K tt (setsD (wipeD ss vs) (as x)) (f x)) (he : ∀ x ∈ xs, f x = true → EvD K te (setsD (wipeD ss vs) (as x)) (r x)) :
    EvN K (tLc wi g tt te vs) ss ((xs.filter f).map r) := fun X σ H O S Q q => hi X σ H O S _ fun J H1 e1 hJ D hD => by
  have dX : D ∉ X := own_not (O.mono e1) hD
  refine ⟨fun i m H' => m = xs.length - i ∧ i ≤ xs.length ∧ Ex H1 H' ∧ ∃ acc, H' D = some (.lst acc) ∧ DqAll K (Hd (D :: X) H') acc (((xs.take i).filter f).map r), ⟨xs.length, rfl, Nat.zero_le _, Ex.new hD, [], upd_same, by simpa using DqAll.nil⟩, ?_⟩
  rintro i m H2 ⟨rfl, hle, e2, acc, hacc, hall⟩
  have eG : Ex (Hd X H1) (Hd (D :: X) H2) := hd_new e2 hD
  have O2 : Own (D :: X) H2 := fun a ma => by
    rcases List.mem_cons.mp ma with z | z
    · rw [z, hacc]
      exact fun w => by cases w
    · exact (O.mono (e1.trans e2)) a z
  obtain ⟨j1, j2⟩ := hJ (D :: X) i H2 eG O2
  by_cases hlt : i < xs.length
  · have hx : xs[i]? = some xs[i] := List.getElem?_eq_getElem hlt
    have hm : xs[i] ∈ xs := List.getElem_mem hlt
    obtain ⟨go, yl⟩ := j1 (enc xs[i]) (by rw [List.getElem?_map, hx]; rfl)
    have tk : xs.take (i + 1) = xs.take i ++ [xs[i]] := by rw [List.take_add_one, hx]; rfl
    refine .inr ⟨go, fun H' => Ex H1 H' ∧ ∃ acc, H' D = some (.lst acc) ∧ DqAll K (Hd (D :: X) H') acc (((xs.take (i + 1)).filter f).map r), fun H' p => ⟨_, by omega, rfl, hlt, p.1, p.2⟩, fun x H3 y => ?_⟩
    obtain ⟨e3, hx3⟩ := yl x H3 y
    have O3 : Own (D :: X) H3 := O2.mono e3
    refine hg _ hm (D :: X) H3 x (wipe σ vs) _ O3 hx3 fun us hus => ⟨wipe_sets (fun j hj => ?_), ?_⟩
    · obtain ⟨p, hp, rfl⟩ := List.mem_map.mp hj
      exact hv _ hm p hp
    have e13 : Ex (Hd X H) (Hd (D :: X) H3) := (hd_mono e1).trans (eG.trans (hd_mono e3))
    have S3 : StD K (Hd (D :: X) H3) (setL (wipe σ vs) ((as xs[i]).map (·.1)) us) (setsD (wipeD ss vs) (as xs[i])) := StD.sets _ ((S.mono e13).wipe vs) hus
    refine ht _ hm (D :: X) _ H3 O3 S3 _ fun H4 e4 => ?_
    have acc4 : H4 D = some (.lst acc) := e4 _ _ (e3 _ _ hacc)
    have all4 := dpAll_mono (hd_mono (X := D :: X) (e3.trans e4)) _ _ hall
    cases hf : f xs[i] with
    | true =>
      rw [if_pos rfl]
      refine he _ hm hf (D :: X) _ H4 (O3.mono e4) (S3.mono (hd_mono e4)) _ fun w H5 e5 hw => ⟨acc, e5 _ _ acc4, ?_, ?_, acc ++ [w], upd_same, ?_⟩
      · have h1 := dpa_len hall
        rw [List.length_map] at h1
        have h2 : ((xs.take i).filter f).length ≤ (xs.take i).length := List.length_filter_le _ _
        rw [List.length_take] at h2
        exact sz_lt (by omega)
      · exact Ex.mut ((((e2).trans e3).trans e4).trans e5) hD
      · rw [tk, List.filter_append, List.map_append, List.filter_cons, if_pos hf, hd_upd List.mem_cons_self]
        exact dpa_app (dpAll_mono (hd_mono e5) _ _ all4) (dpa_one hw)
    | false =>
      rw [if_neg (by decide)]
      refine ⟨(e2.trans e3).trans e4, acc, acc4, ?_⟩
      rw [tk, List.filter_append, List.map_append, List.filter_cons, if_neg (by rw [hf]; decide)]
      simpa using all4
  · have ei : i = xs.length := by omega
    subst ei
    refine .inl ⟨j2 (by rw [List.length_map]), q D acc H2 (fresh_back e1 hD) (e1.trans e2) hacc ?_⟩
    rw [List.take_of_length_le (Nat.le_refl _)] at hall
    exact hall
end
end Wk
end
section
set_option Elab.async false
set_option linter.all false
set_option maxRecDepth 100000
namespace Wk
open PySem PySem.Spec PyProof.Rows L2 Evl

/-- one growing list of the def's own: its slot, its items -/
abbrev Mu := Option (Nat × List PyData)
/-- the slots and the heap as they stand: X left out (the callers'), H0 the heap at the entry, G what must stay -/
def Rep (K : PySem.W.Frag) (X : List Addr) (H0 G : Hp) (ss : SD) (mu : Mu) (σ : L2.St) (H : Hp) : Prop := Own X H0 ∧ Ex H0 H ∧ match mu with
  | none => Ex G (Hd X H) ∧ StD K (Hd X H) σ ss
  | some p => ∃ l xs, H0 l = none ∧ σ[p.1]? = some (some (.ref l)) ∧ H l = some (.lst xs) ∧ Ex G (Hd (l :: X) H) ∧ DqAll K (Hd (l :: X) H) xs p.2 ∧ StD K (Hd (l :: X) H) σ ss
def Wp (K : PySem.W.Frag) (X : List Addr) (H0 G : Hp) (P : L2.St → Hp → Prop) (ss : SD) (mu : Mu) : Prop := ∀ σ H, Rep K X H0 G ss mu σ H → P σ H
/-- the slots with the growing list told as data -/
def vis (ss : SD) : Mu → SD
  | none => ss
  | some p => ss.set p.1 (some (.list p.2))
def apart (mu : Mu) (n : Nat) : Bool := match mu with
  | none => true
  | some p => !(p.1 == n)

section
variable {K : PySem.W.Frag} {X : List Addr} {H0 G : Hp} {ss : SD} {mu : Mu} {ta tb te : TE} {t : TT} {tu tw : TS} {g : TG} {d e : PyData} {D : Ends} {P : L2.St → Hp → Prop} {σ : L2.St} {H : Hp} {n : Nat}
theorem own_cons {l : Addr} (O : Own X H) (h : H l ≠ none) : Own (l :: X) H := fun a m => by
  rcases List.mem_cons.mp m with z | z
  · rw [z]; exact h
  · exact O a z
/-- what a rep says for the general reading: an X, the state -/
theorem Rep.gen (r : Rep K X H0 G ss mu σ H) : ∃ Y, Own Y H ∧ StD K (Hd Y H) σ ss ∧ Ex G (Hd Y H) ∧ Ex H0 H ∧ Own X H0 ∧ (∀ a, a ∈ X → a ∈ Y) ∧
    ∀ G' H' σ', Ex H H' → Ex G' (Hd Y H') → (∀ p, mu = some p → σ'[p.1]? = σ[p.1]?) → ∀ ss', StD K (Hd Y H') σ' ss' → Rep K X H0 G' ss' mu σ' H' := by
  obtain ⟨O, e0, r⟩ := r
  cases mu with
  | none =>
    obtain ⟨eg, S⟩ := r
    exact ⟨X, O.mono e0, S, eg, e0, O, fun _ h => h, fun _ H' σ' e eg' _ ss' S' => ⟨O, e0.trans e, eg', S'⟩⟩
  | some p =>
    obtain ⟨l, xs, hl, hs, hx, eg, ha, S⟩ := r
    refine ⟨l :: X, own_cons (O.mono e0) (by rw [hx]; exact fun z => by cases z), S, eg, e0, O, fun _ h => List.mem_cons_of_mem _ h, fun _ H' σ' e eg' hp ss' S' => ⟨O, e0.trans e, l, xs, hl, ?_, e _ _ hx, eg', dpAll_mono (hd_mono e) _ _ ha, S'⟩⟩
    rw [hp p rfl]
    exact hs
/-- .. with the growing list as data -/
theorem Rep.vis (r : Rep K X H0 G ss mu σ H) : Own X H ∧ StD K (Hd X H) σ (vis ss mu) ∧ Ex G (Hd X H) := by
  obtain ⟨O, e0, r⟩ := r
  cases mu with
  | none => exact ⟨O.mono e0, r.2, r.1⟩
  | some p =>
    obtain ⟨l, xs, hl, hs, hx, eg, ha, S⟩ := r
    refine ⟨O.mono e0, ?_, eg.trans hd_tail⟩
    have S2 : StD K (Hd X H) σ ss := S.mono hd_tail
    have lX : l ∉ X := own_not O hl
    refine ⟨S2.1.trans (by simp [Wk.vis]), fun i z q => ?_⟩
    by_cases c : p.1 = i
    · subst c
      refine ⟨.ref l, hs, ?_⟩
      unfold Wk.vis at q
      rw [List.getElem?_set_self'] at q
      cases g' : ss[p.1]? with
      | none =>
        rw [g'] at q
        cases q
      | some o =>
        rw [g'] at q
        have : z = .list p.2 := by
          simp at q
          exact q.symm
        subst this
        exact .lst (hd_at lX hx) (dpAll_mono hd_tail _ _ ha)
    · unfold Wk.vis at q
      rw [List.getElem?_set_ne c] at q
      exact S2.2 i z q
theorem w_le {ss' : SD} (l : LeD ss' ss) (k : Wp K X H0 G P ss' mu) : Wp K X H0 G P ss mu := fun σ H r => k σ H (by
  obtain ⟨Y, O, S, eg, e0, OX, sub, f⟩ := r.gen
  exact f G H σ (Ex.refl H) eg (fun _ _ => rfl) ss' (S.le l))
theorem w_free (k : Wp K X H0 G P (vis ss mu) none) : Wp K X H0 G P ss mu := fun σ H r => k σ H (by
  obtain ⟨a, b, c⟩ := r.vis
  exact ⟨r.1, r.2.1, c, b⟩)
theorem w_done {G' : Hp} {ss' : SD} (eg : Ex G' G) (l : LeD ss' ss) : Wp K X H0 G (Rep K X H0 G' ss' mu) ss mu := fun σ H r => by
  obtain ⟨O, e0, r⟩ := r
  refine ⟨O, e0, ?_⟩
  cases mu with
  | none => exact ⟨eg.trans r.1, r.2.le l⟩
  | some p =>
    obtain ⟨l', xs, hl, hs, hx, eg2, ha, S⟩ := r
    exact ⟨l', xs, hl, hs, hx, eg.trans eg2, ha, S.le l⟩
theorem w_same : Wp K X H0 G (Rep K X H0 G ss mu) ss mu := fun σ H r => r
theorem w_seq (k : Wp K X H0 G (tu { D with nx := tw D }) ss mu) : Wp K X H0 G (tSeq tu tw D) ss mu := k
theorem w_next (k : Wp K X H0 G D.nx ss mu) : Wp K X H0 G (tNext D) ss mu := k
theorem apart_ne (h : apart mu n = true) : ∀ p, mu = some p → n ≠ p.1 := fun p e c => by
  subst e
  simp [apart, c] at h
theorem w_tgt {as : List (Nat × PyData)} (he : EvD K te ss d) (hg : TgD K g d as) (hm : as.all (fun p => apart mu p.1) = true) (k : Wp K X H0 G D.nx (setsD ss as) mu) : Wp K X H0 G (tAsg te g D) ss mu := fun σ H r => by
  obtain ⟨Y, O, S, eg, e0, OX, sub, f⟩ := r.gen
  refine he Y σ H O S _ fun v H1 e1 hv => hg Y H1 v σ _ (O.mono e1) hv fun vs hvs => k _ H1 (f G H1 _ e1 (eg.trans (hd_mono e1)) (fun p hp => setL_ne _ _ _ fun m => ?_) _ (StD.sets as (S.mono (hd_mono e1)) hvs))
  obtain ⟨q, hq, eq⟩ := List.mem_map.mp m
  exact apart_ne (List.all_eq_true.mp hm q hq) p hp eq
theorem w_asg (he : EvD K te ss d) (k : Wp K X H0 G D.nx (ss.set n (some d)) mu) (hm : apart mu n = true := by rfl) : Wp K X H0 G (tAsg te (gName n) D) ss mu :=
  w_tgt he tg_name (by simp [hm]) k
/-- a value without a heap, the growing list looked at -/
theorem w_asgV (he : EvD K te (vis ss mu) d) (hf : flat d = true) (k : Wp K X H0 G D.nx (ss.set n (some d)) mu) (hm : apart mu n = true := by rfl) : Wp K X H0 G (tAsg te (gName n) D) ss mu := fun σ H r => by
  obtain ⟨Y, O, S, eg, e0, OX, sub, f⟩ := r.gen
  obtain ⟨vO, vS, _⟩ := r.vis
  refine he X σ H vO vS _ fun v H1 e1 hv => k _ H1 (f G H1 _ e1 (eg.trans (hd_mono e1)) (fun p hp => List.getElem?_set_ne (apart_ne hm p hp)) _ ((S.mono (hd_mono e1)).set n (dp_flat hf hv)))
theorem w_par {i j : Nat} {tr : TA} (he : EvAD K tr ss [d, e]) (k : Wp K X H0 G D.nx ((ss.set i (some d)).set j (some e)) mu) (hi : apart mu i = true := by rfl) (hj : apart mu j = true := by rfl) : Wp K X H0 G (tPar i j tr D) ss mu := fun σ H r => by
  obtain ⟨Y, O, S, eg, e0, OX, sub, f⟩ := r.gen
  refine he Y σ H O S _ fun vs H1 e1 hv => ?_
  obtain ⟨v, w, rfl, h1, h2⟩ := two hv
  refine ⟨v, w, rfl, k _ H1 (f G H1 _ e1 (eg.trans (hd_mono e1)) (fun p hp => ?_) _ (((S.mono (hd_mono e1)).set i h1).set j h2))⟩
  rw [List.getElem?_set_ne (apart_ne hj p hp), List.getElem?_set_ne (apart_ne hi p hp)]
theorem w_drop (he : EvD K te (vis ss mu) d) (k : Wp K X H0 G D.nx ss mu) : Wp K X H0 G (tDrop te D) ss mu := fun σ H r => by
  obtain ⟨Y, O, S, eg, e0, OX, sub, f⟩ := r.gen
  obtain ⟨vO, vS, _⟩ := r.vis
  exact he X σ H vO vS _ fun v H1 e1 hv => k _ H1 (f G H1 _ e1 (eg.trans (hd_mono e1)) (fun _ _ => rfl) _ (S.mono (hd_mono e1)))
theorem w_if {b : Bool} (ht : EvB K t (vis ss mu) b) (h1 : b = true → Wp K X H0 G (tu D) ss mu) (h2 : b = false → Wp K X H0 G (tw D) ss mu) : Wp K X H0 G (tIfS t tu tw D) ss mu := fun σ H r => by
  obtain ⟨Y, O, S, eg, e0, OX, sub, f⟩ := r.gen
  obtain ⟨vO, vS, _⟩ := r.vis
  refine ht X σ H vO vS _ fun H1 e1 => ?_
  have r1 := f G H1 σ e1 (eg.trans (hd_mono e1)) (fun _ _ => rfl) _ (S.mono (hd_mono e1))
  cases b with
  | true => exact h1 rfl σ H1 r1
  | false => exact h2 rfl σ H1 r1
theorem w_ret (he : EvD K te (vis ss mu) d) (k : ∀ v H', Ex H0 H' → Dq K (Hd X H') v d → D.rt v H') : Wp K X H0 G (tRet te D) ss mu := fun σ H r => by
  obtain ⟨vO, vS, _⟩ := r.vis
  exact he X σ H vO vS _ fun v H1 e1 hv => k v H1 (r.2.1.trans e1) hv
/-- a new list: the def's own -/
theorem w_new {es : List PyData} (he : EvN K te ss es) (hn : n < ss.length) (k : Wp K X H0 G D.nx ss (some (n, es))) (hf : ss[n]? = some none := by rfl) : Wp K X H0 G (tAsg te (gName n) D) ss none := fun σ H r => by
  obtain ⟨O, e0, eg, S⟩ := r
  refine he X σ H (O.mono e0) S _ fun p xs H1 hp e1 hx ha => k _ H1 ⟨O, e0.trans e1, p, xs, fresh_back e0 hp, ?_, hx, eg.trans (hd_new e1 hp), ha, ?_⟩
  · have : n < σ.length := by rw [S.1]; exact hn
    simp [this]
  · have S1 : StD K (Hd (p :: X) H1) σ ss := S.mono (hd_new e1 hp)
    have S2 := S1.unset (x := some (.ref p)) n
    have e2 : ss.set n none = ss := by
      apply List.ext_getElem?
      intro i
      by_cases c : n = i
      · subst c
        rw [List.getElem?_set_self', hf]
        rfl
      · rw [List.getElem?_set_ne c]
    rw [e2] at S2
    exact S2
theorem w_app {es : List PyData} (he : EvD K te ss d) (hl : es.length < 100000) (k : Wp K X H0 G D.nx ss (some (n, es ++ [d]))) : Wp K X H0 G (tDrop (tBM K "list" rAppend (tVar n) (tCons te tNil)) D) ss (some (n, es)) := fun σ H r => by
  obtain ⟨O, e0, l, xs, hl0, hs, hx, eg, ha, S⟩ := r
  refine ⟨.ref l, hs, .inl ⟨rfl, xs, sq_of hx⟩, he (l :: X) σ H (own_cons (O.mono e0) (by rw [hx]; exact fun z => by cases z)) S _ fun v H1 e1 hv => ⟨l, xs, v, rfl, rfl, e1 _ _ hx, by rw [dpa_len ha]; exact sz_lt hl, ?_⟩⟩
  refine k σ _ ⟨O, Ex.mut (e0.trans e1) hl0, l, xs ++ [v], hl0, hs, upd_same, ?_, ?_, ?_⟩
  · rw [hd_upd List.mem_cons_self]
    exact eg.trans (hd_mono e1)
  · rw [hd_upd List.mem_cons_self]
    exact dpa_app (dpAll_mono (hd_mono e1) _ _ ha) (dpa_one hv)
  · rw [hd_upd List.mem_cons_self]
    exact S.mono (hd_mono e1)
theorem w_pop {es : List PyData} (hne : es ≠ []) (k : Wp K X H0 G D.nx ss (some (n, es.dropLast))) : Wp K X H0 G (tDrop (tBM0 K "list" rPop (tVar n)) D) ss (some (n, es)) := fun σ H r => by
  obtain ⟨O, e0, l, xs, hl0, hs, hx, eg, ha, S⟩ := r
  have hlen := dpa_len ha
  have hp : 0 < es.length := List.length_pos_iff.mpr hne
  have hlt : xs.length - 1 < xs.length := by
    have : 0 < xs.length := by rw [hlen]; exact hp
    omega
  refine ⟨.ref l, hs, .inl ⟨rfl, xs, sq_of hx⟩, l, xs, xs[xs.length - 1], rfl, rfl, hx, List.getElem?_eq_getElem hlt, ?_⟩
  refine k σ _ ⟨O, Ex.mut e0 hl0, l, xs.dropLast, hl0, hs, upd_same, ?_, ?_, ?_⟩
  · rw [hd_upd List.mem_cons_self]
    exact eg
  · rw [hd_upd List.mem_cons_self]
    exact dpa_dropLast ha
  · rw [hd_upd List.mem_cons_self]
    exact S
theorem Rep.weak {G' : Hp} (e : Ex G G') (r : Rep K X H0 G' ss mu σ H) : Rep K X H0 G ss mu σ H := w_done e (LeD.refl _) σ H r
theorem w_for {α : Type} {wi : TI} {tb : TS} {xs : List α} {enc : α → PyData} {as : α → List (Nat × PyData)} (I : Nat → SD) (M : Nat → Mu) (hi : EvI K wi ss (xs.map enc)) (hg : ∀ x ∈ xs, TgD K g (enc x) (as x)) (hm : ∀ i x, xs[i]? = some x → (as x).all (fun p => apart (M i) p.1) = true)
    (h0 : LeD (I 0) ss) (m0 : mu = M 0)
    (hb : ∀ i x, xs[i]? = some x → ∀ (G' : Hp) (D' : Ends), D'.rt = D.rt → D'.nx = Rep K X H0 G' (I (i + 1)) (M (i + 1)) → Wp K X H0 G' (tb D') (setsD (I i) (as x)) (M i))
    (hd : Wp K X H0 G D.nx (I xs.length) (M xs.length)) : Wp K X H0 G (tFor wi g tb D) ss mu := fun σ H r => by
  obtain ⟨Y, O, S, eg, e0, OX, sub, f⟩ := r.gen
  refine hi Y σ H O S _ fun J H1 e1 hJ => ?_
  have eg1 : Ex G (Hd Y H1) := eg.trans (hd_mono e1)
  have r1 : Rep K X H0 (Hd Y H1) (I 0) (M 0) σ H1 := by
    rw [← m0]
    exact f _ H1 σ e1 (Ex.refl _) (fun _ _ => rfl) _ ((S.mono (hd_mono e1)).le h0)
  refine ⟨fun i m σ' H' => m = xs.length - i ∧ i ≤ xs.length ∧ Rep K X H0 (Hd Y H1) (I i) (M i) σ' H', ⟨xs.length, rfl, Nat.zero_le _, r1⟩, ?_⟩
  rintro i m σ2 H2 ⟨rfl, hle, r2⟩
  obtain ⟨Y2, O2, S2, eg2, e02, OX2, sub2, f2⟩ := r2.gen
  obtain ⟨j1, j2⟩ := hJ Y2 i H2 eg2 O2
  by_cases hlt : i < xs.length
  · have hx : xs[i]? = some xs[i] := List.getElem?_eq_getElem hlt
    have hm' : xs[i] ∈ xs := List.getElem_mem hlt
    obtain ⟨go, yl⟩ := j1 (enc xs[i]) (by rw [List.getElem?_map, hx]; rfl)
    refine .inr ⟨go, Rep K X H0 (Hd Y H1) (I (i + 1)) (M (i + 1)), fun σ' H' p => ⟨_, by omega, rfl, hlt, p⟩, fun x H3 y => ?_⟩
    obtain ⟨e3, hx3⟩ := yl x H3 y
    refine hg _ hm' Y2 H3 x σ2 _ (O2.mono e3) hx3 fun vs hvs => ?_
    refine hb i _ hx (Hd Y H1) { D with nx := Rep K X H0 (Hd Y H1) (I (i + 1)) (M (i + 1)), ct := Rep K X H0 (Hd Y H1) (I (i + 1)) (M (i + 1)), bk := D.nx } rfl rfl _ H3 (f2 _ H3 _ e3 (eg2.trans (hd_mono e3)) (fun p hp => setL_ne _ _ _ fun mm => ?_) _ (StD.sets _ (S2.mono (hd_mono e3)) hvs))
    obtain ⟨q, hq, eq⟩ := List.mem_map.mp mm
    exact apart_ne (List.all_eq_true.mp (hm i _ hx) q hq) p hp eq
  · have ei : i = xs.length := by omega
    subst ei
    exact .inl ⟨j2 (by rw [List.length_map]), hd σ2 H2 (r2.weak eg1)⟩
theorem w_while {tb : TS} (Wv : Nat → SD → Mu → Prop) (m0 : Nat) (h0 : Wv m0 ss mu)
    (hs : ∀ m ss mu, Wv m ss mu → ∃ b, EvB K t (vis ss mu) b ∧ (b = true → ∀ D' : Ends, D'.rt = D.rt → D'.nx = (fun σ H => ∃ m' ss' mu', m' < m ∧ Wv m' ss' mu' ∧ Rep K X H0 G ss' mu' σ H) → Wp K X H0 G (tb D') ss mu) ∧ (b = false → Wp K X H0 G D.nx ss mu)) :
    Wp K X H0 G (tWhile t tb D) ss mu := fun σ H r => by
  refine ⟨fun m σ' H' => ∃ ss' mu', Wv m ss' mu' ∧ Rep K X H0 G ss' mu' σ' H', ⟨m0, ss, mu, h0, r⟩, ?_⟩
  rintro m σ2 H2 ⟨ss2, mu2, hw, r2⟩
  obtain ⟨b, hb, h1, h2⟩ := hs m ss2 mu2 hw
  obtain ⟨Y, O, S, eg, e0, OX, sub, f⟩ := r2.gen
  obtain ⟨vO, vS, _⟩ := r2.vis
  refine hb X σ2 H2 vO vS _ fun H3 e3 => ?_
  have r3 := f G H3 σ2 e3 (eg.trans (hd_mono e3)) (fun _ _ => rfl) _ (S.mono (hd_mono e3))
  cases b with
  | true =>
    rw [if_pos rfl]
    exact ⟨fun σ' H' => ∃ m' ss' mu', m' < m ∧ Wv m' ss' mu' ∧ Rep K X H0 G ss' mu' σ' H', fun σ' H' ⟨m', ss', mu', a, b, c⟩ => ⟨m', a, ss', mu', b, c⟩, h1 rfl { D with nx := fun σ' H' => ∃ m' ss' mu', m' < m ∧ Wv m' ss' mu' ∧ Rep K X H0 G ss' mu' σ' H', ct := fun σ' H' => ∃ m' ss' mu', m' < m ∧ Wv m' ss' mu' ∧ Rep K X H0 G ss' mu' σ' H', bk := D.nx } rfl rfl σ2 H3 r3⟩
  | false =>
    rw [if_neg (by decide)]
    exact h2 rfl σ2 H3 r3
end

/-! ### a def of data -/
section
variable {P : Program} {w : World} {K : PySem.W.Frag} {mg : Str → Option Value} {base : Heap}
theorem dpa_start {X : List Addr} {H : Hp} {N : List Str} {vs : List V} {ds : List PyData} (h : DqAll K (Hd X H) vs ds) : StD K (Hd X H) (L2.start N vs) (ds.map some ++ List.replicate (N.length - ds.length) none) := by
  unfold L2.start
  have hl := dpa_len h
  refine ⟨by simp [hl], fun i d q => ?_⟩
  by_cases lt : i < ds.length
  · rw [List.getElem?_append_left (by simpa using lt), List.getElem?_map] at q
    cases g : ds[i]? with
    | none =>
      rw [g] at q
      cases q
    | some z =>
      rw [g] at q
      have : z = d := by simpa using q
      subst this
      obtain ⟨v, a, b⟩ := dpa_get h g
      refine ⟨v, ?_, b⟩
      rw [List.getElem?_append_left (by simpa [hl] using lt), List.getElem?_map, a]
      rfl
  · rw [List.getElem?_append_right (by simpa using Nat.le_of_not_lt lt)] at q
    rw [List.getElem?_replicate] at q
    split at q <;> cases q
/-- the empty heap: nothing must stay -/
def h00 : Hp := fun _ => none
theorem h00_le (H : Hp) : Ex h00 H := fun _ _ h => by cases h
theorem rep_start {X : List Addr} {H : Hp} {N : List Str} {vs : List V} {ds : List PyData} (O : Own X H) (h : DqAll K (Hd X H) vs ds) : Rep K X H h00 (ds.map some ++ List.replicate (N.length - ds.length) none) none (L2.start N vs) H :=
  ⟨O, Ex.refl H, h00_le _, dpa_start h⟩
structure Cal (P : Program) (w : World) (K : PySem.W.Frag) (mg : Str → Option Value) (base : Heap) (k : Nat) (x : Str) (ps : List Str) (sp : Sp) : Prop where
  ex : ∃ (f : Addr) (fd : FuncData), FnOk P w K mg base L2.CX0 k f fd ps sp ∧ mg x = some (.ref f) ∧ PySem.W.keepIn K (.ref f) = true ∧ Binds K fd ps [] ∧ ∃ st, L2.Fun K x x st f fd
theorem pe_c {X : Cx} {k j : Nat} {x : Str} {ps : List Str} {sp : Sp} {p pos : Pos} {e : Expr} {es : List Expr} {t : TA} (c : Cal X.prog X.w X.K X.mg X.base k x ps sp) (hr : Room j X.A) (hk : k ≤ j) (hg : Gl X x) (ha : PA X (e :: es) t)
    (hdb : (x == ("__debug__" : Str)) = false := by decide) (he : starEach (e :: es) X.env = (false, eval e X.env) :: starEach es X.env := by rfl) (hpl : (backTo pos (starEach es X.env)).any (·.1) = false := by rfl) :
    PE X (.Call (.Name x p) (e :: es) [] pos) (tCall sp [] L2.E0 t) := by
  obtain ⟨f, fd, F, hm, kp, b, _⟩ := c.ex
  exact pe_call F (hr.mono hk) hg hm kp b .nil L2.pass0 ha hdb he hpl
/-- a def of the text, its place -/
structure Dfn (K : PySem.W.Frag) (mg : Str → Option Value) (x : Str) (st : Stmt) (f : Addr) (fd : FuncData) (ps : List Str) : Prop where
  fn : L2.Fun K x x st f fd
  mgf : mg x = some (.ref f)
  bi : Binds K fd ps []
theorem calD {x : Str} {st : Stmt} {f : Addr} {fd : FuncData} {N ps : List Str} {k : Nat} {φ : List PyData → PyData → Prop} (F : Dfn K mg x st f fd ps) (S : FnScope N ps (defScope st)) (len : ∀ ds r, φ ds r → ds.length = ps.length)
    (hbody : ∀ (cdv : Value) (A : Around) (outer : List Env) (s : Shared) (H : Hp) (E : XK), Room k (A.deeper (envOfC x (defScope st) s.heap.objs.size f cdv)) →
      ∃ t, PSs (cxOf L2.CX0 P w K mg base N x (defScope st) f cdv A outer s H E).nox (defBody st) t ∧ ∀ (X : List Addr) (ds : List PyData) (r : PyData) (D : Ends), φ ds r → (∀ v H', Ex H H' → Dq K (Hd X H') v r → D.rt v H') → (∀ σ' H', Ex H H' → r = .none → D.nx σ' H') →
        Wp K X H h00 (t D) (ds.map some ++ List.replicate (N.length - ds.length) none) none) : Cal P w K mg base (k + 1) x ps (spD K φ) := by
  refine ⟨f, fd, F.fn.ok S (fun vs H Q E h => ?_) (fun cdv A outer s H vs Q E hr h => ?_), F.mgf, F.fn.kp, F.bi, st, F.fn⟩
  · obtain ⟨X, ds, r, O, ha, hp, _⟩ := h
    rw [dpa_len ha]
    exact len ds r hp
  · obtain ⟨X, ds, r, O, ha, hp, q⟩ := h
    obtain ⟨t, d, hw⟩ := hbody cdv A outer s H E hr
    refine ⟨t, d, hw X ds r _ hp (fun v H' e hv => q v H' e hv) (fun σ' H' e z => ?_) _ _ (rep_start O ha)⟩
    subst z
    exact q _ H' e .non
end
end Wk
end
section
set_option Elab.async false
set_option linter.all false
set_option maxRecDepth 100000
namespace Wk
open PySem PySem.Spec PyProof.Rows L2 Evl

/-! ### what the builtins' names are -/
structure Bt (mg : Str → Option Value) : Prop where
  m_len : mg "len" = none
  m_isinstance : mg "isinstance" = none
  m_int : mg "int" = none
  m_bool : mg "bool" = none
  m_tuple : mg "tuple" = none
  m_all : mg "all" = none
  m_sorted : mg "sorted" = none
  m_list : mg "list" = none
  m_zip : mg "zip" = none
  m_enumerate : mg "enumerate" = none
  m_range : mg "range" = none
  m_sum : mg "sum" = none
  m_abs : mg "abs" = none
  m_set : mg "set" = none
  m_min : mg "min" = none
  m_max : mg "max" = none
  m_repr : mg "repr" = none
  m_divmod : mg "divmod" = none
  m_gcd : mg "gcd" = some (.builtin "math.gcd")
  m_lcm : mg "lcm" = some (.builtin "math.lcm")
  most : ∃ u, mg "MOST_SHORES" = some u ∧ RelV (.int 8) u
theorem pe_gc {X : Cx} {x : Str} {pos : Pos} {v : V} (hg : Gl X x) (h : ∃ u, X.mg x = some u ∧ RelV v u) (hd : (x == ("__debug__" : Str)) = false := by decide) : PE X (.Name x pos) (tC v) := by
  obtain ⟨u, hm, r⟩ := h
  exact pe_glob hg hm r hd

/-! ### a list or a tuple, walked -/
section
variable {X : Cx} {tg : Expr}
theorem pi_seq {l : Expr} {tl : TE} (hl : PE X l tl) : PI X tg l (iSeq X.K tl) := by
  refine ⟨fun pins s σ H R I h => ?_⟩
  refine thn (hl.run pins s σ H _ I h) fun v s2 ⟨x, H2, J, rx, q⟩ => ?_
  obtain ⟨a, xs, rfl, q⟩ := q
  obtain rfl : v = Value.ref a := rx
  have fresh1 : ∀ b, b ∈ [s2.heap.objs.size] → FpOk X pins H2 b := fun b hb => by
    have e : b = s2.heap.objs.size := by simpa using hb
    rw [e]
    exact J.fpOk (Nat.le_refl _) (J.hok.fresh (Nat.le_refl _))
  rcases q with ⟨hq, k⟩ | ⟨hq, k⟩
  · obtain ⟨us, rv, p, _⟩ := J.list hq
    exact wpAny_pyIter_list p.isList ⟨_, [s2.heap.objs.size], _, _, H2, rfl, J.kept (t' := s2.toks) fun b o e => Heap.get?_push_of_some _ e, turn_list a _, ⟨_, Heap.get?_push_size _ rfl, rfl, rfl⟩, fresh1, k⟩
  · obtain ⟨us, rv, p, _⟩ := J.tuple hq
    exact wpAny_pyIter_tuple (show s2.heap.IsTuple a us.toArray from p) ⟨_, [s2.heap.objs.size], _, _, H2, rfl, J.kept (t' := s2.toks) fun b o e => Heap.get?_push_of_some _ e, turn_tuple a _, ⟨_, Heap.get?_push_size _ rfl, rfl, rfl⟩, fresh1, k⟩
end

/-! ### enumerate of a tuple -/
set_option maxHeartbeats 1000000 in
theorem enum_new {v : Value} {ob : Obj} {Hs : Heap → Prop} (B : Begins v ob Hs) :
    Meets (Builtin.«enumerate.__new__» ⟨[.type "enumerate", v], []⟩) (fun _ R s => Hs s.heap ∧
      R (.ok (.ret (.ref (s.heap.push ob).objs.size))) { s with heap := (s.heap.push ob).push { cls := .type "enumerate", data := .fields #[.none, .bool false, .ref s.heap.objs.size, rawInt 0, .none, .none] } }) :=
  .of_wp fun prog w A R s hs => by
    obtain ⟨hp, gn, dr, tk, os⟩ := s
    obtain ⟨b1, hs⟩ := hs
    have hsub := sub_enumerate
    have start : ∀ {A2 : Around} {E2 : Value → Shared → Prop} {Q2 : Value → Shared → Prop}, Q2 (.ref hp.objs.size) ⟨hp.push ob, gn, dr, tk, os⟩ → wpAny (model prog w) A2 (pyIter v) Q2 E2 ⟨hp, gn, dr, tk, os⟩ :=
      fun q => B.iter prog w _ _ ⟨hp, gn, dr, tk, os⟩ _ b1 q
    wp_walk using start
    refine wpAny_stack_any fun sk => wpAny_pure ?_
    split
    · rename_i cl _ _ _ _ _
      cases (cl == Value.type "enumerate")
      · wp_walk using start
        exact ⟨_, rfl, hs⟩
      · wp_walk using start
        exact ⟨_, rfl, hs⟩
    · wp_walk using start
      exact ⟨_, rfl, hs⟩
section
variable {prog : Program} {w : World} {A : Around} {E : Value → Shared → Prop} {s : Shared}
theorem enum_call {v : Value} {ob : Obj} {Hs : Heap → Prop} {Q : Value → Shared → Prop} (B : Begins v ob Hs) (b1 : Hs s.heap)
    (k : ∀ h', IsEnum h' (s.heap.objs.size + 1) s.heap.objs.size 0 .none → h'.get? s.heap.objs.size = some ob → (∀ b o, s.heap.get? b = some o → h'.get? b = some o) → Q (.ref (s.heap.objs.size + 1)) { s with heap := h' }) :
    wpAny (model prog w) A (call (.type "enumerate") [v]) Q E s := by
  refine callType_new F.called_enumerate (by decide) (F.typeCall_enumerate_1 _) (F.newCall_enumerate_1 _) (fun ob2 => F.args_object_init_2 ob2 _) F.entry_enumerate_new (enum_new B) ⟨b1, ?_⟩
  have z1 : (s.heap.push ob).objs.size = s.heap.objs.size + 1 := Heap.size_push ..
  have it1 : ((s.heap.push ob).push { cls := .type "enumerate", data := .fields #[.none, .bool false, .ref s.heap.objs.size, rawInt 0, .none, .none] }).get? (s.heap.push ob).objs.size = some { cls := .type "enumerate", data := .fields #[.none, .bool false, .ref s.heap.objs.size, rawInt 0, .none, .none] } := Heap.get?_push_size _ rfl
  show _ ∧ _
  rw [z1] at it1 ⊢
  exact ⟨⟨_, it1, rfl⟩, k _ it1 (Heap.get?_push_of_some _ (Heap.get?_push_size _ B.free)) fun b o e => Heap.get?_push_of_some _ (Heap.get?_push_of_some _ e)⟩
end
/-- the tuple at a, each item in a new pair with its place -/
def Ien (K : PySem.W.Frag) (a : Addr) : It :=
  ⟨fun i H => ∃ (xs : List V) (x : V), SqT K H a xs ∧ xs[i]? = some x,
   fun i H v H' => ∃ p x, v = .ref p ∧ H p = none ∧ H' = upd H p (.tup [.int (i : Nat), x]) ∧ ∀ xs, SqT K H a xs → xs[i]? = some x,
   fun i H => ∃ xs : List V, SqT K H a xs ∧ xs.length = i⟩
theorem turn_en {P : Program} {w : World} {K : PySem.W.Frag} {elts : List Expr} {kk : Nat} {tpos : Pos} (a en it : Addr) :
    Turn P w K (.Tuple elts kk tpos) (Ien K a) [en, it] en (fun i h => (∃ old, IsEnum h en it ((i : Nat) : Int) old) ∧ h.IsTupleIter it a i ∧ en ≠ it ∧ a ≠ it ∧ a ≠ en) where
  mem := List.mem_cons_self
  obj := fun i h st b hb => by
    obtain ⟨⟨old, he⟩, ⟨o, ho, hc, hd⟩, _⟩ := st
    have cs : b = en ∨ b = it := by simpa using hb
    rcases cs with rfl | rfl
    · exact ⟨_, he, fun v q => nomatch q⟩
    · exact ⟨o, ho, fun v q => by rw [hd] at q; cases q⟩
  keep := fun i h h' st k => by
    obtain ⟨⟨old, he⟩, hi, n1, n2⟩ := st
    exact ⟨⟨old, k en List.mem_cons_self _ he⟩, hi.at fun o q => k it (List.mem_cons_of_mem _ List.mem_cons_self) o q, n1, n2⟩
  item := by
    intro X hP hw hK hc i pins s σ H E I hf st hg
    subst hP hw hK
    obtain ⟨⟨old, he⟩, hit, n1, n2, n3⟩ := st
    obtain ⟨xs, x, hq, hx⟩ := hg
    obtain ⟨us, rv, p, _⟩ := I.tuple hq
    obtain ⟨u, hu, ru⟩ := rv.get hx
    have el : en < s.heap.objs.size := Heap.lt_size he
    have il : it < s.heap.objs.size := by obtain ⟨_, q, _⟩ := hit; exact Heap.lt_size q
    have hul : i < us.toArray.size := by simpa using (List.getElem?_eq_some_iff.mp hu).1
    refine wpAny_pyNext_enum_itemD (Draws.tuple (prog := X.prog) (w := X.w) (A := X.A.in1) (I.ok.hd hc) it a n2 us.toArray) he ⟨hit, p⟩ hul n1 (by intro m; rcases (by simpa using m : en = it ∨ en = a) with z | z; exact n1 z; exact n3 z.symm) fun y h1 tk hy ho st1 hT hsz hk => ?_
    obtain rfl : y = u := by
      have z : us.toArray[i]? = some y := hy
      have z2 : us.toArray[i]? = some u := by simpa using hu
      rw [z2] at z
      exact (Option.some.inj z).symm
    refine ⟨_, rfl, wpAny_letOwnedTupleGo_enum (s := { s with heap := h1, toks := tk + 1 }) ho fun h2 he2 sb => ?_⟩
    have hT2 : h2.get? s.heap.objs.size = some { cls := .type "tuple", data := .seq #[.int i tk, y] } := (sb.2 _ (Nat.ne_of_gt el)).trans hT
    have mk : ObjOk X.prog X.w (upd H s.heap.objs.size (.tup [.int (i : Nat), x])) h2 s.heap.objs.size (.tup [.int (i : Nat), x]) :=
      ⟨sz_of (by show 2 ≤ 100000; decide), [.int i tk, y], .cons ⟨_, rfl⟩ (.cons ru .nil), ⟨_, hT2, rfl, _, rfl⟩⟩
    have I2 : Inv X pins σ (upd H s.heap.objs.size (.tup [.int (i : Nat), x])) { s with heap := h2, toks := tk + 1 } :=
      I.turnedNew (ch := [en, it]) (fun b ob hb q => (sb.2 b (fun z => hb (by simp [z]))).trans (hk b ob (fun z => hb (by simp [z])) (fun z => hb (by simp [z])) q)) hf (Nat.le_refl _) mk
    have cast : ((i + 1 : Nat) : Int) = (i : Int) + 1 := by omega
    refine ⟨.ref s.heap.objs.size, _, I2, rfl, ⟨_, x, rfl, I.hok.fresh (Nat.le_refl _), rfl, fun ys hy2 => by rw [I.tuple_inj hy2 hq]; exact hx⟩, ⟨⟨y, by rw [cast]; exact he2⟩, st1.1.at fun o q => (sb.2 it (Ne.symm n1)).trans q, n1, n2, n3⟩, fun b hb => ?_⟩
    have lt : b < s.heap.objs.size := by
      rcases (by simpa using hb : b = en ∨ b = it) with rfl | rfl
      · exact el
      · exact il
    rw [upd_ne (Nat.ne_of_lt lt)]
    exact (hf b hb).1
  done := by
    intro X hP hw hK hc i pins s σ H E I hf st hg
    subst hP hw hK
    obtain ⟨⟨old, he⟩, hit, n1, n2, n3⟩ := st
    obtain ⟨xs, hq, hx⟩ := hg
    obtain ⟨us, rv, p, _⟩ := I.tuple hq
    have ln := rv.length
    have hT : s.TypeIs (.ref en) "enumerate" := ⟨_, he, rfl⟩
    obtain ⟨f0, f1, f2, f3, f4, f5⟩ := hf it (by simp)
    have ul : us.toArray.size = i := by simp; omega
    refine wpAny_pyNext_enum_endD (Draws.tuple (prog := X.prog) (w := X.w) (A := X.A.in1) (I.ok.hd hc) it a n2 us.toArray) he ⟨by rw [ul]; exact hit, p⟩ fun h1 eb => ⟨rfl, I.turned (t' := s.toks) (fun b o hb q => eb b o hb q) f0 f1 f3 f4 f5⟩
  self := fun A i s Q E st k => by
    obtain ⟨⟨old, he⟩, _⟩ := st
    exact wpAny_pyIter_enum he k
def iEn (K : PySem.W.Frag) (ta : TA) : TI := fun σ H R => ta σ H fun vs H1 => ∃ a xs, vs = [.ref a] ∧ SqT K H1 a xs ∧ R (Ien K a) H1
theorem pi_enT {X : Cx} {e : Expr} {ta : TA} {p pos tpos : Pos} {elts : List Expr} {kk : Nat} (hg : Gl X "enumerate") (hm : X.mg "enumerate" = none) (ha : PA X [e] ta) (hs : starEach [e] X.env = [(false, eval e X.env)] := by rfl) :
    PI X (.Tuple elts kk tpos) (.Call (.Name "enumerate" p) [e] [] pos) (iEn X.K ta) := by
  refine ⟨fun pins s σ H R I h => ?_⟩
  refine Call_ (ld_blt I hg hm PyProof.Rows.boot_enumerate (PyProof.Rows.callWith_type1 (thn (ha.run pos pins s σ H _ I h) fun us s2 ⟨vs, H2, J, rv, q⟩ => ?_) hs rfl))
  obtain ⟨a, xs, rfl, hq, q⟩ := q
  obtain ⟨u, rfl, ru⟩ := vals1 rv
  obtain rfl : u = Value.ref a := ru
  obtain ⟨its, r2, p2, _⟩ := J.tuple hq
  have la : a < s2.heap.objs.size := by obtain ⟨o, ho, _⟩ := p2; exact Heap.lt_size ho
  refine enum_call (begins_tuple a its.toArray) p2 fun h1 he hit hk => wpAny_pyIter_enum he ?_
  refine ⟨s2.heap.objs.size + 1, [s2.heap.objs.size + 1, s2.heap.objs.size], _, _, H2, rfl, J.kept (t' := s2.toks) hk, turn_en a (s2.heap.objs.size + 1) s2.heap.objs.size, ⟨⟨.none, he⟩, ⟨_, hit, rfl, rfl⟩, Nat.succ_ne_self _, Nat.ne_of_lt la, Nat.ne_of_lt (Nat.lt_succ_of_lt la)⟩, fun b hb => ?_, q⟩
  have le : s2.heap.objs.size ≤ b := by
    rcases (by simpa using hb : b = s2.heap.objs.size + 1 ∨ b = s2.heap.objs.size) with rfl | rfl
    · exact Nat.le_succ _
    · exact Nat.le_refl _
  exact J.fpOk le (J.hok.fresh le)
theorem ei_en {K : PySem.W.Frag} {ss : SD} {te : TE} {ds : List PyData} (h : EvD K te ss (.tuple ds)) : EvI K (iEn K (tCons te tNil)) ss (ds.zipIdx.map fun p => PyData.tuple [.int (p.2 : Int), p.1]) := fun X σ H O S R q => h X σ H O S _ fun v H1 e1 hv => by
  obtain ⟨a, xs, rfl, hs, hx⟩ := dp_tup hv
  refine ⟨a, xs, rfl, ex_t hd_le hs, q _ H1 e1 fun X2 n H2 e2 O2 => ?_⟩
  have h2 : SqT K H2 a xs := ex_t (e2.trans hd_le) hs
  have h3 := dpAll_mono e2 _ _ hx
  refine ⟨fun d hd => ?_, fun hn => ⟨xs, h2, by rw [dpa_len hx]; simpa using hn⟩⟩
  rw [List.getElem?_map, List.getElem?_zipIdx] at hd
  cases g : ds[n]? with
  | none =>
    rw [g] at hd
    cases hd
  | some z =>
    rw [g] at hd
    obtain ⟨v, e3, e4⟩ := dpa_get h3 g
    refine ⟨⟨xs, v, h2, e3⟩, fun x H' y => ?_⟩
    obtain ⟨p, x', rfl, hp, rfl, y⟩ := y
    have y2 := y xs h2
    rw [e3] at y2
    cases y2
    refine ⟨Ex.new hp, ?_⟩
    have ed : d = .tuple [.int (n : Int), z] := by
      have := Option.some.inj hd
      rw [← this]
      simp
    rw [ed]
    exact .tup (st_of (hd_at (own_not O2 hp) upd_same)) (.cons (.int _) (dpa_one (dp_mono (hd_mono (Ex.new hp)) _ _ e4)))
end Wk
end
section
set_option Elab.async false
set_option linter.all false
set_option maxRecDepth 100000
namespace Wk
open PySem PySem.Spec PyProof.Rows L2 Evl

/-! ### zip of two, each a list (false) or a tuple (true) -/
def SqK (K : PySem.W.Frag) (b : Bool) (H : Hp) (a : Addr) (xs : List V) : Prop := match b with
  | true => SqT K H a xs
  | false => SqL K H a xs
def ItAt (b : Bool) (h : Heap) (it a : Addr) (i : Nat) : Prop := match b with
  | true => h.IsTupleIter it a i
  | false => h.IsListIter it a i
def ObAt (b : Bool) (h : Heap) (a : Addr) (us : Array Value) : Prop := match b with
  | true => h.IsTuple a us
  | false => h.IsList a us
def itOb (b : Bool) (a : Addr) : Obj := match b with
  | true => { cls := .type "tuple_iterator", data := .fields #[.ref a, .int 0 0] }
  | false => { cls := .type "list_iterator", data := .fields #[.ref a, .int 0 0] }
theorem ItAt.keep {b : Bool} {h h' : Heap} {it a : Addr} {i : Nat} (st : ItAt b h it a i) (k : ∀ o, h.get? it = some o → h'.get? it = some o) : ItAt b h' it a i := by
  cases b with
  | true => exact Heap.IsTupleIter.at st k
  | false => exact Heap.IsListIter.at st k
theorem ItAt.live {b : Bool} {h : Heap} {it a : Addr} {i : Nat} (st : ItAt b h it a i) : ∃ o, h.get? it = some o ∧ ∀ v, o.data ≠ .cell v := by
  cases b with
  | true =>
    obtain ⟨o, ho, _, hd⟩ := st
    exact ⟨o, ho, fun v q => by rw [hd] at q; cases q⟩
  | false =>
    obtain ⟨o, ho, _, hd⟩ := st
    exact ⟨o, ho, fun v q => by rw [hd] at q; cases q⟩
theorem itOb_at {b : Bool} {h : Heap} {it a : Addr} (e : h.get? it = some (itOb b a)) : ItAt b h it a 0 := by
  cases b with
  | true => exact ⟨_, e, rfl, rfl⟩
  | false => exact ⟨_, e, rfl, rfl⟩
theorem begK (b : Bool) (a : Addr) (us : Array Value) : Begins (.ref a) (itOb b a) fun h => ObAt b h a us := by
  cases b with
  | true => exact begins_tuple a us
  | false => exact begins_list a us
theorem drawK {prog : Program} {w : World} {A : Around} (hh : A.handled = none) (b : Bool) (it a : Addr) (ne : a ≠ it) (us : Array Value) :
    Draws prog w A it [it, a] us.size (fun i v => us[i]? = some v) (fun i h => ItAt b h it a i ∧ ObAt b h a us) := by
  cases b with
  | true => exact Draws.tuple hh it a ne us
  | false => exact Draws.list hh it a ne us
theorem invK {X : Cx} {pins : List (Addr × Obj)} {σ : L2.St} {H : Hp} {s : Shared} {b : Bool} {a : Addr} {xs : List V} (I : Inv X pins σ H s) (h : SqK X.K b H a xs) : ∃ us : List Value, Vals xs us ∧ ObAt b s.heap a us.toArray ∧ a < s.heap.objs.size := by
  cases b with
  | true =>
    obtain ⟨us, rv, p, _⟩ := I.tuple h
    obtain ⟨o, ho, _⟩ := id p
    exact ⟨us, rv, p, Heap.lt_size ho⟩
  | false =>
    obtain ⟨us, rv, p, _⟩ := I.list h
    exact ⟨us, rv, p.isList, p.lt⟩
theorem injK {X : Cx} {pins : List (Addr × Obj)} {σ : L2.St} {H : Hp} {s : Shared} {b : Bool} {a : Addr} {xs ys : List V} (I : Inv X pins σ H s) (h : SqK X.K b H a xs) (h' : SqK X.K b H a ys) : xs = ys := by
  cases b with
  | true => exact I.tuple_inj h h'
  | false => exact I.list_inj h h'
def Izm (K : PySem.W.Frag) (c d : Bool) (a b : Addr) : It :=
  ⟨fun i H => ∃ (xs ys : List V) (x y : V), SqK K c H a xs ∧ SqK K d H b ys ∧ xs[i]? = some x ∧ ys[i]? = some y,
   fun i H v H' => ∃ p x y, v = .ref p ∧ H p = none ∧ H' = upd H p (.tup [x, y]) ∧ (∀ xs, SqK K c H a xs → xs[i]? = some x) ∧ ∀ ys, SqK K d H b ys → ys[i]? = some y,
   fun i H => ∃ xs ys : List V, SqK K c H a xs ∧ SqK K d H b ys ∧ i ≤ xs.length ∧ i ≤ ys.length ∧ (xs.length = i ∨ ys.length = i)⟩
theorem turn_zm {P : Program} {w : World} {K : PySem.W.Frag} {elts : List Expr} {kk : Nat} {tpos : Pos} {c d : Bool} {a b zz ti to i1 i2 : Addr} (S : ZipSep2 zz ti to i1 i2 [i1, a] [i2, b]) (n1 : a ≠ i1) (n2 : b ≠ i2) :
    Turn P w K (.Tuple elts kk tpos) (Izm K c d a b) [zz, ti, to, i1, i2] zz (fun i h => IsZip h zz ti to .none ∧ IsTupOf2 h ti (.ref i1) (.ref i2) ∧ (∃ x y, IsTupOf2 h to x y) ∧ ItAt c h i1 a i ∧ ItAt d h i2 b i) where
  mem := List.mem_cons_self
  obj := fun i h st q hq => by
    obtain ⟨hz, hTI, ⟨x, y, hTO⟩, h1, h2⟩ := st
    rcases (by simpa using hq : q = zz ∨ q = ti ∨ q = to ∨ q = i1 ∨ q = i2) with rfl | rfl | rfl | rfl | rfl
    · exact ⟨_, hz, fun v q => nomatch q⟩
    · exact ⟨_, hTI, fun v q => nomatch q⟩
    · exact ⟨_, hTO, fun v q => nomatch q⟩
    · exact h1.live
    · exact h2.live
  keep := fun i h h' st k => by
    obtain ⟨hz, hTI, ⟨x, y, hTO⟩, h1, h2⟩ := st
    exact ⟨k zz (by simp) _ hz, k ti (by simp) _ hTI, ⟨x, y, k to (by simp) _ hTO⟩, h1.keep fun o q => k i1 (by simp) o q, h2.keep fun o q => k i2 (by simp) o q⟩
  item := by
    intro X hP hw hK hc i pins s σ H E I hf st hg
    subst hP hw hK
    obtain ⟨hz, hTI, ⟨x0, y0, hTO⟩, h1, h2⟩ := st
    obtain ⟨xs, ys, x, y, qx, qy, hx, hy⟩ := hg
    obtain ⟨us, rv, p1, _⟩ := invK I qx
    obtain ⟨ws, rv2, p2, _⟩ := invK I qy
    obtain ⟨u, hu, ru⟩ := rv.get hx
    obtain ⟨u2, hu2, ru2⟩ := rv2.get hy
    have l1 : i < us.toArray.size := by simpa using (List.getElem?_eq_some_iff.mp hu).1
    have l2 : i < ws.toArray.size := by simpa using (List.getElem?_eq_some_iff.mp hu2).1
    have zl : zz < s.heap.objs.size := Heap.lt_size hz
    refine wpAny_pyNext_zipD2_item S (drawK (prog := X.prog) (w := X.w) (A := X.A.in1) (I.ok.hd hc) c i1 a n1 us.toArray) (drawK (prog := X.prog) (w := X.w) (A := X.A.in1) (I.ok.hd hc) d i2 b n2 ws.toArray) hz hTI hTO ⟨h1, p1⟩ ⟨h2, p2⟩ l1 l2
      fun v1 v2 g1 tk e1 e2 z1 o1 s1 s2 hT hsz hk => ?_
    obtain rfl : v1 = u := by
      have q1 : us.toArray[i]? = some v1 := e1
      have q2 : us.toArray[i]? = some u := by simpa using hu
      rw [q2] at q1
      exact (Option.some.inj q1).symm
    obtain rfl : v2 = u2 := by
      have q1 : ws.toArray[i]? = some v2 := e2
      have q2 : ws.toArray[i]? = some u2 := by simpa using hu2
      rw [q2] at q1
      exact (Option.some.inj q1).symm
    refine ⟨_, rfl, wpAny_letOwnedTupleGo_zip (s := { s with heap := g1, toks := tk }) z1 fun g2 z2 sb => ?_⟩
    have hT2 : g2.get? s.heap.objs.size = some { cls := .type "tuple", data := .seq #[v1, v2] } := (sb.2 _ (Nat.ne_of_gt zl)).trans hT
    have mk : ObjOk X.prog X.w (upd H s.heap.objs.size (.tup [x, y])) g2 s.heap.objs.size (.tup [x, y]) :=
      ⟨sz_of (by show 2 ≤ 100000; decide), [v1, v2], .cons ru (.cons ru2 .nil), ⟨_, hT2, rfl, _, rfl⟩⟩
    have I2 : Inv X pins σ (upd H s.heap.objs.size (.tup [x, y])) { s with heap := g2, toks := tk } :=
      I.turnedNew (t' := tk) (ch := [zz, ti, to, i1, i2]) (fun q o hb e => (sb.2 q (fun z => hb (by simp [z]))).trans (hk q o (fun z => hb (by simp [z])) (fun z => hb (by simp [z])) (fun z => hb (by simp [z])) (fun z => hb (by simp [z])) e)) hf (Nat.le_refl _) mk
    refine ⟨.ref s.heap.objs.size, _, I2, rfl, ⟨_, x, y, rfl, I.hok.fresh (Nat.le_refl _), rfl, fun l hl => by rw [injK I hl qx]; exact hx, fun l hl => by rw [injK I hl qy]; exact hy⟩, ⟨z2, ?_, ⟨v1, v2, ?_⟩, ?_, ?_⟩, fun q hq => ?_⟩
    · exact (sb.2 _ S.TIz).trans (hk _ _ S.TIz S.TITO S.TIi1 S.TIi2 hTI)
    · exact (sb.2 _ S.TOz).trans o1
    · exact s1.1.keep fun o e => (sb.2 _ S.zi1.symm).trans e
    · exact s2.1.keep fun o e => (sb.2 _ S.zi2.symm).trans e
    · have lt : q < s.heap.objs.size := by
        rcases (by simpa using hq : q = zz ∨ q = ti ∨ q = to ∨ q = i1 ∨ q = i2) with rfl | rfl | rfl | rfl | rfl
        · exact zl
        · exact Heap.lt_size hTI
        · exact Heap.lt_size hTO
        · obtain ⟨_, e, _⟩ := h1.live; exact Heap.lt_size e
        · obtain ⟨_, e, _⟩ := h2.live; exact Heap.lt_size e
      rw [upd_ne (Nat.ne_of_lt lt)]
      exact (hf q hq).1
  done := by
    intro X hP hw hK hc i pins s σ H E I hf st hg
    subst hP hw hK
    obtain ⟨hz, hTI, ⟨x0, y0, hTO⟩, h1, h2⟩ := st
    obtain ⟨xs, ys, qx, qy, k1, k2, k3⟩ := hg
    obtain ⟨us, rv, p1, _⟩ := invK I qx
    obtain ⟨ws, rv2, p2, _⟩ := invK I qy
    have l1 := rv.length
    have l2 := rv2.length
    exact wpAny_pyNext_zipD2_end S (drawK (prog := X.prog) (w := X.w) (A := X.A.in1) (I.ok.hd hc) c i1 a n1 us.toArray) (drawK (prog := X.prog) (w := X.w) (A := X.A.in1) (I.ok.hd hc) d i2 b n2 ws.toArray) hz hTI hTO ⟨h1, p1⟩ ⟨h2, p2⟩ (by simp; omega) (by simp; omega) (by simp; omega)
      fun g1 tk hk => ⟨rfl, I.turnedL (t' := tk) (ch := [zz, ti, to, i1, i2]) (fun q o hb e => hk q o (fun z => hb (by simp [z])) (fun z => hb (by simp [z])) (fun z => hb (by simp [z])) (fun z => hb (by simp [z])) e) hf⟩
  self := fun A i s Q E st k => wpAny_pyIter_zip st.1 k
def iZm (K : PySem.W.Frag) (ta : TA) : TI := fun σ H R => ta σ H fun vs H1 => ∃ c d a b xs ys, vs = [.ref a, .ref b] ∧ SqK K c H1 a xs ∧ SqK K d H1 b ys ∧ R (Izm K c d a b) H1
theorem pi_zipM {X : Cx} {e e2 : Expr} {ta : TA} {p pos tpos : Pos} {elts : List Expr} {kk : Nat} (hg : Gl X "zip") (hm : X.mg "zip" = none) (ha : PA X [e, e2] ta)
    (hs : starEach [e, e2] X.env = (false, eval e X.env) :: starEach [e2] X.env := by rfl) (hpl : (backTo pos (starEach [e2] X.env)).any (·.1) = false := by rfl) :
    PI X (.Tuple elts kk tpos) (.Call (.Name "zip" p) [e, e2] [] pos) (iZm X.K ta) := by
  refine ⟨fun pins s σ H R I h => ?_⟩
  refine Call_ (ld_blt I hg hm PyProof.Rows.boot_zip (PyProof.Rows.callWith_type1 (thn (ha.run pos pins s σ H _ I h) fun us s2 ⟨vs, H2, J, rv, q⟩ => ?_) hs hpl))
  obtain ⟨c, d, a, b, xs, ys, rfl, qx, qy, q⟩ := q
  obtain ⟨u1, u2, rfl, r1, r2⟩ := vals2 rv
  obtain rfl : u1 = Value.ref a := r1
  obtain rfl : u2 = Value.ref b := r2
  obtain ⟨us, _, p1, la⟩ := invK J qx
  obtain ⟨ws, _, p2, lb⟩ := invK J qy
  refine zip_begins2 (begK c a us.toArray) (begK d b ws.toArray) p1 p2 fun g hz hTI hTO h1 h2 hsz hk => wpAny_pyIter_zip hz ?_
  have J2 : Inv X pins σ H2 { s2 with heap := g } := J.kept (t' := s2.toks) hk
  have S : ZipSep2 (s2.heap.objs.size + 4) (s2.heap.objs.size + 2) (s2.heap.objs.size + 3) s2.heap.objs.size (s2.heap.objs.size + 1) [s2.heap.objs.size, a] [s2.heap.objs.size + 1, b] := zip_sep2 (fun q hq => by simp at hq; rw [hq]; exact la) (fun q hq => by simp at hq; rw [hq]; exact lb)
  refine ⟨s2.heap.objs.size + 4, [s2.heap.objs.size + 4, s2.heap.objs.size + 2, s2.heap.objs.size + 3, s2.heap.objs.size, s2.heap.objs.size + 1], _, _, H2, rfl, J2, turn_zm (c := c) (d := d) S (Nat.ne_of_lt la) (Nat.ne_of_lt (Nat.lt_succ_of_lt lb)), ⟨hz, hTI, ⟨_, _, hTO⟩, itOb_at h1, itOb_at h2⟩, fun q hq => ?_, q⟩
  have le : s2.heap.objs.size ≤ q := by
    rcases (by simpa using hq : q = s2.heap.objs.size + 4 ∨ q = s2.heap.objs.size + 2 ∨ q = s2.heap.objs.size + 3 ∨ q = s2.heap.objs.size ∨ q = s2.heap.objs.size + 1) with z | z | z | z | z
    · rw [z]; exact Nat.le_add_right _ _
    · rw [z]; exact Nat.le_add_right _ _
    · rw [z]; exact Nat.le_add_right _ _
    · rw [z]; exact Nat.le_refl _
    · rw [z]; exact Nat.le_add_right _ _
  exact J.fpOk le (J.hok.fresh le)
theorem sq_K {K : PySem.W.Frag} {X : List Addr} {H : Hp} {v : V} {z : PyData} {ds : List PyData} (sq : Sq z ds) (h : Dq K (Hd X H) v z) : ∃ c p xs, v = .ref p ∧ SqK K c (Hd X H) p xs ∧ DqAll K (Hd X H) xs ds := by
  rcases sq with rfl | rfl
  · obtain ⟨a, xs, rfl, hs, hl⟩ := dp_lst h
    exact ⟨false, a, xs, rfl, sq_of hs, hl⟩
  · obtain ⟨a, xs, rfl, hs, hl⟩ := dp_tup h
    exact ⟨true, a, xs, rfl, hs, hl⟩
theorem ex_K {K : PySem.W.Frag} {b : Bool} {H H' : Hp} {a : Addr} {xs : List V} (e : Ex H H') (h : SqK K b H a xs) : SqK K b H' a xs := by
  cases b with
  | true => exact ex_t e h
  | false => exact ex_l e h
theorem ei_zm {K : PySem.W.Frag} {ss : SD} {ta tb : TE} {y z : PyData} {ds es : List PyData} (s1 : Sq y ds) (s2 : Sq z es) (h : EvD K ta ss y) (h' : EvD K tb ss z) : EvI K (iZm K (tCons ta (tCons tb tNil))) ss ((ds.zip es).map fun p => PyData.tuple [p.1, p.2]) := fun X σ H O S R q =>
  h X σ H O S _ fun v H1 e1 hv => h' X σ H1 (O.mono e1) (S.mono (hd_mono e1)) _ fun w H2 e2 hw => by
    obtain ⟨c, a, xs, rfl, hs, hx⟩ := sq_K s1 hv
    obtain ⟨d, b, ys, rfl, hs2, hy⟩ := sq_K s2 hw
    have hs' := ex_K (hd_mono (X := X) e2) hs
    have hx' := dpAll_mono (hd_mono (X := X) e2) _ _ hx
    refine ⟨c, d, a, b, xs, ys, rfl, ex_K hd_le hs', ex_K hd_le hs2, q _ H2 (e1.trans e2) fun X2 n H3 e3 O3 => ?_⟩
    have g1 : SqK K c H3 a xs := ex_K (e3.trans hd_le) hs'
    have g2 : SqK K d H3 b ys := ex_K (e3.trans hd_le) hs2
    have g3 := dpAll_mono e3 _ _ hx'
    have g4 := dpAll_mono e3 _ _ hy
    refine ⟨fun r hr => ?_, fun hn => ⟨xs, ys, g1, g2, ?_⟩⟩
    · rw [List.getElem?_map] at hr
      cases g : (ds.zip es)[n]? with
      | none =>
        rw [g] at hr
        cases hr
      | some p =>
        rw [g] at hr
        obtain ⟨k1, k2⟩ := List.getElem?_zip_eq_some.mp g
        obtain ⟨v1, m1, m2⟩ := dpa_get g3 k1
        obtain ⟨v2, m3, m4⟩ := dpa_get g4 k2
        refine ⟨⟨xs, ys, v1, v2, g1, g2, m1, m3⟩, fun x H' y => ?_⟩
        obtain ⟨p', x1, x2, rfl, hp, rfl, y1, y2⟩ := y
        have r1 := y1 xs g1
        have r2 := y2 ys g2
        rw [m1] at r1
        rw [m3] at r2
        cases r1
        cases r2
        refine ⟨Ex.new hp, ?_⟩
        have er : r = .tuple [p.1, p.2] := (Option.some.inj hr).symm
        rw [er]
        exact .tup (st_of (hd_at (own_not O3 hp) upd_same)) (.cons (dp_mono (hd_mono (Ex.new hp)) _ _ m2) (dpa_one (dp_mono (hd_mono (Ex.new hp)) _ _ m4)))
    · have a1 := dpa_len hx
      have a2 := dpa_len hy
      rw [List.length_map, List.length_zip] at hn
      omega

/-! ### lcm -/
theorem cr_lcm {X : Cx} : CallR X (.builtin "math.lcm") (fun vs H Q => ∃ a b : Int, vs = [.int a, .int b] ∧ a.natAbs < 2 ^ 6000 ∧ b.natAbs < 2 ^ 6000 ∧ Q (.int ((Nat.lcm a.natAbs b.natAbs : Nat) : Int)) H) := by
  intro pins s σ H vs us Q I r h
  obtain ⟨a, b, rfl, h1, h2, q⟩ := h
  obtain ⟨t, u, rfl⟩ := Vals.int2 r
  have e1 : Nat.lcm 1 a.natAbs = a.natAbs := Nat.lcm_one_left _
  have k1 : (max 1 a.natAbs).log2 < 6000 := PySem.Flt.log2_lt_of (by decide) (by
    have : 1 < 2 ^ 6000 := Nat.one_lt_two_pow (by decide)
    exact Nat.max_lt.mpr ⟨this, h1⟩)
  have k2 : (max a.natAbs b.natAbs).log2 < 6000 := PySem.Flt.log2_lt_of (by decide) (Nat.max_lt.mpr ⟨h1, h2⟩)
  have k3 : (((Nat.lcm 1 a.natAbs).lcm b.natAbs : Nat) : Int).natAbs.log2 < bitsLine := by
    rw [Int.natAbs_natCast, e1]
    have le : Nat.lcm a.natAbs b.natAbs < 2 ^ 12000 := by
      by_cases z : a.natAbs = 0 ∨ b.natAbs = 0
      · have : Nat.lcm a.natAbs b.natAbs = 0 := by
          rcases z with z | z
          · rw [z]; exact Nat.lcm_zero_left _
          · rw [z]; exact Nat.lcm_zero_right _
        rw [this]
        exact Nat.two_pow_pos _
      · have d : Nat.lcm a.natAbs b.natAbs ∣ a.natAbs * b.natAbs := Nat.lcm_dvd_mul _ _
        have p : 0 < a.natAbs * b.natAbs := Nat.mul_pos (by omega) (by omega)
        refine Nat.lt_of_le_of_lt (Nat.le_of_dvd p d) ?_
        rw [show (12000 : Nat) = 6000 + 6000 from rfl, Nat.pow_add]
        exact Nat.mul_lt_mul'' h1 h2
    have := PySem.Flt.log2_lt_of (by decide : 0 < 12000) le
    have e : bitsLine = 134217728 := by decide
    omega
  refine call_function_meets PySem.W.MGF.kind_lcm PySem.W.MGF.plain_lcm PySem.W.MGF.entry_lcm (PySem.W.MGF.args_lcm _ _) (PySem.W.mg_run_lcm a t b u (by omega) (by omega) k3).meets ?_
  show EP X pins σ Q (.int (((Nat.lcm 1 a.natAbs).lcm b.natAbs : Nat) : Int) s.toks) { s with toks := s.toks + 1 }
  rw [e1]
  exact ⟨.int ((Nat.lcm a.natAbs b.natAbs : Nat) : Int), H, I.tok _, ⟨_, rfl⟩, q⟩
theorem ed_lcm {K : PySem.W.Frag} {ss : SD} {ta tb : TE} {i j : Int} (h1 : i.natAbs < 2 ^ 6000) (h2 : j.natAbs < 2 ^ 6000) (ha : EvD K ta ss (.int i)) (hb : EvD K tb ss (.int j)) :
    EvD K (tCB (fun vs H Q => ∃ a b : Int, vs = [.int a, .int b] ∧ a.natAbs < 2 ^ 6000 ∧ b.natAbs < 2 ^ 6000 ∧ Q (.int ((Nat.lcm a.natAbs b.natAbs : Nat) : Int)) H) (tCons ta (tCons tb tNil))) ss (.int ((Nat.lcm i.natAbs j.natAbs : Nat) : Int)) :=
  ed_cb (ea_cons ha (ea_cons hb ea_nil)) fun X H vs Q O hv q => by
    obtain ⟨v, w, rfl, k1, k2⟩ := two hv
    rw [dp_int k1, dp_int k2]
    exact ⟨i, j, rfl, h1, h2, q _ H (Ex.refl H) (.int _)⟩
end Wk
end
section
set_option Elab.async false
set_option linter.all false
set_option maxRecDepth 100000
namespace Wk
open PySem PySem.Spec PyProof.Rows L2 Evl

/-! ### sorted(a set of pairs of whole numbers) -/
def toP (k : List Int) : Int × Int := (k.getD 0 0, k.getD 1 0)
theorem toP_eq {k : List Int} (h : k.length = 2) : k = [(toP k).1, (toP k).2] := by
  match k, h with
  | [x, y], _ => rfl
theorem toP_inj {k l : List Int} (h : k.length = 2) (h' : l.length = 2) (e : toP k = toP l) : k = l := by
  rw [toP_eq h, toP_eq h', e]
theorem pair_of {h : Heap} {v : Value} {k : List Int} (x : TS.TupInts h v k) (hl : k.length = 2) : Srt.IsPair h v (toP k).1 (toP k).2 := by
  obtain ⟨a, xs, rfl, ⟨o, ho, hc, n, hd⟩, i⟩ := x
  match k, hl with
  | [x, y], _ =>
    obtain ⟨us⟩ := xs
    cases i with
    | cons _ t i2 =>
      cases i2 with
      | cons _ u i3 =>
        cases i3
        exact ⟨a, o, t, u, n, rfl, ho, hc, hd⟩
section
variable {P : Program} {w : World} {A : Around} {E : Value → Shared → Prop} {s : Shared}
/-- the values are the addresses of rows, in some order -/
theorem rows_ord {L : List (Addr × List Int)} : ∀ vs : List Value, (∀ v ∈ vs, ∃ q ∈ L, v = Value.ref q.1) → ∃ M : List (Addr × List Int), vs = M.map (fun q => Value.ref q.1) ∧ ∀ q ∈ M, q ∈ L
  | [], _ => ⟨[], rfl, fun q hq => by cases hq⟩
  | v :: vs, hv => by
    obtain ⟨q, hq, e⟩ := hv v List.mem_cons_self
    obtain ⟨M, e1, hs⟩ := rows_ord vs fun u hu => hv u (List.mem_cons_of_mem _ hu)
    refine ⟨q :: M, by rw [List.map_cons, e, e1], fun r hr => ?_⟩
    rcases List.mem_cons.mp hr with z | z
    · rw [z]; exact hq
    · exact hs r z
theorem sorted_pairSet {a : Addr} {L : List (Addr × List Int)} {es : Array (Int × Value)} {ep : Nat} {t : SetTable} {Q : Value → Shared → Prop} (R : SetTR P w s.heap a L es ep t) (hh : A.handled = none) (h2 : ∀ p ∈ L, p.2.length = 2)
    (hQ : ∀ s' p (out : List Value) (c : Nat) (M : List (Addr × List Int)), (∀ b o, s.heap.get? b = some o → s'.heap.get? b = some o) → s'.gens = s.gens → s'.os = s.os → s.heap.objs.size ≤ p →
      s'.heap.get? p = some (seqObj "list" out.toArray c) → out = M.map (fun q => Value.ref q.1) → (∀ z, z ∈ M.map (·.2) ↔ z ∈ L.map (·.2)) → (∀ q ∈ M, q ∈ L) → M.Pairwise (fun q r => SrtO.lexB (toP q.2) (toP r.2) = true) → Q (.ref p) s') :
    wpAny (model P w) A (call (.builtin "sorted") [.ref a]) Q E s := by
  obtain ⟨o, ho, hex, hd⟩ := R.ob
  have hsz := R.size
  have hfew := R.few
  refine Calls.call_function_entry kind_sorted plain_sorted entry_sorted (args_sorted1 _) ?_
  unfold Builtin.«sorted»
  refine wpAny_bind (m := checkCount "sorted" 1 1 _) (wpAny_pure ?_)
  refine wpAny_bind (collect_set (A := A.in1) hh ⟨o, ho, hex.1, hd⟩ R.fits (by unfold scanBound; omega) R.tab.ris R.led fun s1 vs k1 hz g1 o1 pm => ?_)
  have hes : es.toList.map (·.2) = L.map fun q => Value.ref q.1 := by
    rw [R.rows]
    simp [rowsOf]
  rw [hes] at pm
  have hvl : vs.length < 64 := by rw [pm.length_eq, List.length_map]; exact hfew
  refine wpAny_bind (wpAny_newList ?_ (by rw [sizeLine_eq]; omega))
  have hoL : (s1.heap.push (seqObj "list" vs.toArray 0)).get? s1.heap.objs.size = some (seqObj "list" vs.toArray 0) := Heap.get?_push_size _ rfl
  have tk : ∀ q ∈ L, TS.TupInts (s1.heap.push (seqObj "list" vs.toArray 0)) (.ref q.1) q.2 := fun q hq => tupInts_of (P := P) (w := w) (isT_keep (R.tup q hq) fun b u e => Heap.get?_push_of_some _ (k1 b u e))
  have kv : ∀ q ∈ L, toP (TS.intsOf (s1.heap.push (seqObj "list" vs.toArray 0)) (.ref q.1)) = toP q.2 := fun q hq => by rw [(tk q hq).ints]
  have hp : ∀ v ∈ vs, Srt.IsPair (s1.heap.push (seqObj "list" vs.toArray 0)) v (toP (TS.intsOf (s1.heap.push (seqObj "list" vs.toArray 0)) v)).1 (toP (TS.intsOf (s1.heap.push (seqObj "list" vs.toArray 0)) v)).2 := fun v hv => by
    obtain ⟨q, hq, e⟩ := List.mem_map.mp (pm.mem_iff.mp hv)
    subst e
    rw [kv q hq]
    exact pair_of (tk q hq) (h2 q hq)
  refine wpAny_bind (wpAny_holding (wpAny_call_entry slot_list_sort ⟨_, hoL, rfl⟩ entry_list_sort (SrtO.list_sort_ord (s := { s1 with heap := s1.heap.push (seqObj "list" vs.toArray 0) }) (SrtO.swo_lex fun v => toP (TS.intsOf (s1.heap.push (seqObj "list" vs.toArray 0)) v)) hoL (by rw [sizeLine_eq]; omega)
    (fun hl => SrtO.pairs_sortableO (s := { s1 with heap := s1.heap.push (seqObj "list" vs.toArray 0) }) (by omega) hp fun o2 e => ?_) fun out a1 a2 => ⟨_, rfl, ?_⟩) (args_list_sort _)))
  · have e' : some o2 = some (seqObj "list" vs.toArray 0) := e.symm.trans hoL
    cases e'
    intro c
    exact absurd (Value.type.inj c) (by decide)
  · obtain ⟨c, hc⟩ := sortedHeap_at (vs := vs) (out := out.toArray) hoL
    obtain ⟨M, eM, hs⟩ := rows_ord (L := L) out fun v hv => by
      obtain ⟨q, hq, e⟩ := List.mem_map.mp (pm.mem_iff.mp (a2.perm.mem_iff.mp hv))
      exact ⟨q, hq, e.symm⟩
    have one : ∀ q ∈ L, ∀ r ∈ L, q.1 = r.1 → q = r := fun q hq r hr e => by
      have b1 := R.tup q hq
      have b2 := R.tup r hr
      rw [e] at b1
      exact Prod.ext e (b1.inj b2)
    have pmM : (M.map fun q => Value.ref q.1).Perm (L.map fun q => Value.ref q.1) := by rw [← eM]; exact a2.perm.trans pm
    have all : ∀ q ∈ L, q ∈ M := fun q hq => by
      obtain ⟨r, hr, e⟩ := List.mem_map.mp (pmM.mem_iff.mpr (List.mem_map.mpr ⟨q, hq, rfl⟩))
      injection e with e
      rw [← one r (hs r hr) q hq e]
      exact hr
    have nL : L.Nodup := nodup_of_map R.nd
    have nref : (L.map fun q => Value.ref q.1).Nodup := by
      refine List.pairwise_map.mpr (List.Pairwise.imp_of_mem (fun {q r} hq hr hne e => ?_) nL)
      injection e with e
      exact hne (one q hq r hr e)
    have nM : M.Nodup := nodup_of_map (pmM.nodup_iff.mpr nref)
    have pw : M.Pairwise (fun q r => SrtO.lexB (toP q.2) (toP r.2) = true) := by
      rw [eM] at a1
      have a3 := List.pairwise_map.mp a1
      refine List.Pairwise.imp_of_mem (fun {q r} hq hr hle => ?_) (List.Pairwise.and a3 nM)
      obtain ⟨le, ne⟩ := hle
      have le2 : SrtO.lexB (toP (TS.intsOf (s1.heap.push (seqObj "list" vs.toArray 0)) (Value.ref r.1))) (toP (TS.intsOf (s1.heap.push (seqObj "list" vs.toArray 0)) (Value.ref q.1))) = false := le
      rw [kv q (hs q hq), kv r (hs r hr)] at le2
      have n1 := SrtO.lexB_no.mp le2
      refine SrtO.lexB_iff.mpr ?_
      have n2 : toP q.2 ≠ toP r.2 := fun e => by
        have e2 := toP_inj (h2 q (hs q hq)) (h2 r (hs r hr)) e
        obtain ⟨iq, hiq⟩ := List.mem_iff_getElem?.mp (hs q hq)
        obtain ⟨ir, hir⟩ := List.mem_iff_getElem?.mp (hs r hr)
        have nd := R.nd
        have g1 : (L.map (·.2))[iq]? = some q.2 := by rw [List.getElem?_map, hiq]; rfl
        have g2 : (L.map (·.2))[ir]? = some r.2 := by rw [List.getElem?_map, hir]; rfl
        rw [e2] at g1
        have ij : iq = ir := (List.getElem?_inj (by exact (List.getElem?_eq_some_iff.mp g1).1) nd).mp (g1.trans g2.symm)
        rw [ij, hir] at hiq
        exact ne (Option.some.inj hiq).symm
      by_cases c : (toP q.2).1 = (toP r.2).1
      · have c2 : (toP q.2).2 ≠ (toP r.2).2 := fun e => n2 (Prod.ext c e)
        omega
      · omega
    refine wpAny_pure ⟨_, rfl, hQ _ s1.heap.objs.size out c M (fun b u e => ?_) g1 o1 hz hc eM (fun z => ?_) hs pw⟩
    · have q := k1 b u e
      have hlt := Heap.lt_size q
      show (sortedHeap (s1.heap.push (seqObj "list" vs.toArray 0)) s1.heap.objs.size vs out.toArray).get? b = some u
      rw [sortedHeap_old (Nat.ne_of_lt hlt) (by rw [size_push']; exact Nat.lt_succ_of_lt hlt)]
      exact Heap.get?_push_of_some _ q
    · constructor
      · intro hz2
        obtain ⟨q, hq, e⟩ := List.mem_map.mp hz2
        exact List.mem_map.mpr ⟨q, hs q hq, e⟩
      · intro hz2
        obtain ⟨q, hq, e⟩ := List.mem_map.mp hz2
        exact List.mem_map.mpr ⟨q, all q hq, e⟩
end
def rSrtP (K : PySem.W.Frag) (P : Program) (w : World) : List V → Hp → VK → Prop := fun vs H Q => ∃ (a : Addr) (L : List (Addr × List Int)), vs = [V.ref a] ∧ H a = some (SetTO P w a L) ∧ (∀ p ∈ L, SqT K H p.1 (p.2.map V.int)) ∧ (∀ p ∈ L, p.2.length = 2) ∧
  ∀ (M : List (Addr × List Int)) (p : Addr), (∀ z, z ∈ M.map (·.2) ↔ z ∈ L.map (·.2)) → (∀ q ∈ M, q ∈ L) → M.length < 64 → M.Pairwise (fun q r => SrtO.lexB (toP q.2) (toP r.2) = true) → H p = none → Q (.ref p) (upd H p (.lst (M.map fun q => V.ref q.1)))
theorem cr_srtP {X : Cx} (hc : X.calm = true) : CallR X (.builtin "sorted") (rSrtP X.K X.prog X.w) := by
  intro pins s σ H vs us Q I r h
  obtain ⟨a, L, rfl, ha, hk, h2, q⟩ := h
  have R0 : SetT0 X.prog X.w s.heap a L := (I.hok a _ ha).1
  obtain ⟨es, ep, t, R⟩ := R0.full fun p hp => I.isT (hk p hp)
  rw [Vals.ref1 r]
  refine sorted_pairSet R (I.ok.hd hc) h2 fun s' p out c M k g o hp hg eM mm ms pw => ?_
  have hfew : M.length < 64 := by
    have n1 : (M.map (·.2)).Nodup := by
      refine List.pairwise_map.mpr (pw.imp fun {q r} hlt e => ?_)
      have := SrtO.lexB_iff.mp hlt
      rw [e] at this
      omega
    have := n1.length_le_of_subset (fun z hz => (mm z).mp hz)
    rw [List.length_map, List.length_map] at this
    exact Nat.lt_of_le_of_lt this R.few
  have hlen : (M.map fun q => V.ref q.1).length ≤ sizeLine := by rw [List.length_map, sizeLine_eq]; omega
  have hn : H p = none := I.hok.fresh hp
  have hv : Vals (M.map fun q => V.ref q.1) out := by rw [eM]; exact vals_of_refs M
  have J : Inv X pins σ (upd H p (.lst (M.map fun q => V.ref q.1))) { s with heap := s'.heap, gens := s'.gens, drawn := s'.drawn, toks := s'.toks } :=
    I.call (ch := []) (Un.laid k hp hn) (I.hok.laid k hp ⟨hlen, out, c, hv, hg⟩) (by rw [g]; exact I.bare) (fun _ z => nomatch z)
  have e : s' = { s with heap := s'.heap, gens := s'.gens, drawn := s'.drawn, toks := s'.toks } := by
    cases s'
    cases s
    cases o
    rfl
  rw [e]
  exact ⟨.ref p, _, J, rfl, q M p mm ms hfew pw hn⟩
end Wk
end
section
set_option Elab.async false
set_option linter.all false
set_option maxRecDepth 100000
namespace Wk
open PySem PySem.Spec PyProof.Rows L2 Evl

/-! ### {(a, b) for ..}: a set of tuples of whole numbers -/
section
variable {X : Cx}
theorem addT_ok {pins : List (Addr × Obj)} {σ : L2.St} {H : Hp} {s : Shared} {E : Value → Shared → Prop} {D x : Addr} {k : List Int} {L : List (Addr × List Int)} {Q : Value → Shared → Prop} (hu : X.A.units + 64 < cLine) (I : Inv X pins σ H s) (hD : H D = some (SetTO X.prog X.w D L))
    (hL : ∀ p ∈ L, SqT X.K H p.1 (p.2.map V.int)) (hx : SqT X.K H x (k.map V.int)) (few : L.length + 1 < 64)
    (q : ∀ s' L', (k ∈ L.map (·.2) → L' = L) → (k ∉ L.map (·.2) → L'.Perm ((x, k) :: L)) → Inv X pins σ (upd H D (SetTO X.prog X.w D L')) s' → Q .none s') :
    wpAny (model X.prog X.w) X.A (call (.builtin "set.add") [.ref D, .ref x]) Q E s := by
  have R0 : SetT0 X.prog X.w s.heap D L := (I.hok D _ hD).1
  obtain ⟨es, ep, t, R⟩ := R0.full fun p hp => I.isT (hL p hp)
  obtain ⟨o, ho, hex, hd⟩ := R.ob
  have hT : s.TypeIs (.ref D) "set" := ⟨o, ho, hex.1⟩
  have kx := I.isT hx
  refine wpAny_call_entry F.slot_set_add hT F.entry_set_add ?_ (F.args_set_add_2 _ _)
  unfold Builtin.«set.add» Builtin.Frozenset.oneOther
  simp only [List.isEmpty_nil, bind_assoc]
  unfold Builtin.Frozenset.addrOf setAdd
  refine wpAny_bind (wpAny_pure ?_)
  try dsimp only
  refine wpAny_bind (wpAny_pure ?_)
  try dsimp only
  refine wpAny_bind ?_
  refine wpAny_holding ?_
  have hu1 : (X.A.in1).units < cLine := by
    show X.A.units + 1 < cLine
    omega
  refine wpAny_bind (wpAny_pyHash_tuple hu1 kx ?_)
  refine add_at (s := { s with toks := s.toks + (k.length + 1) }) R kx hu1 few fun b h2 L2 es2 ep2 t2 sb R2 c1 c2 => ?_
  show wpAny _ _ (ret Value.none) _ _ _
  refine wpAny_pure ⟨_, rfl, q _ L2 c1 c2 ?_⟩
  have he : ∃ u, h2.get? D = some u := by
    obtain ⟨o2, ho2, _⟩ := R2.ob
    exact ⟨o2, ho2⟩
  exact I.write (e := D) (t' := s.toks + (k.length + 1)) (by rw [hD]; trivial) (.inl rfl) (fun b u hb hu => (sb.2 b hb).trans hu) he (setTO_new R2.t0)
def tSct (K : PySem.W.Frag) (P : Program) (w : World) (wi : TI) (g : TG) (tt : TT) (te : TE) (vs : List Nat) : TE := fun σ H Q => wi σ H fun J H1 => ∀ D, H1 D = none → ∃ W : Nat → Nat → Hp → Prop, (∃ m, W 0 m (upd H1 D (SetTO P w D []))) ∧ ∀ i m H, W i m H →
  (J.stop i H ∧ Q (.ref D) H) ∨ (J.go i H ∧ ∃ Nx : Hp → Prop, (∀ H', Nx H' → ∃ m', m' < m ∧ W (i + 1) m' H') ∧ ∀ x H', J.yld i H x H' → g x (wipe σ vs) H' fun σ2 H2 => wipe σ2 vs = wipe σ vs ∧ tt σ2 H2 fun b H3 =>
    if b = true then te σ2 H3 fun y H4 => ∃ (c : Addr) (k : List Int) (L : List (Addr × List Int)), y = .ref c ∧ SqT K H4 c (k.map V.int) ∧ H4 D = some (SetTO P w D L) ∧ (∀ p ∈ L, SqT K H4 p.1 (p.2.map V.int)) ∧ L.length + 1 < 64 ∧
      ∀ L', (k ∈ L.map (·.2) → L' = L) → (k ∉ L.map (·.2) → L'.Perm ((c, k) :: L)) → Nx (upd H4 D (SetTO P w D L')) else Nx H3)
theorem sct_core {pins : List (Addr × Obj)} {s : Shared} {σ : L2.St} {H : Hp} {Q : VK} {elt tg iter : Expr} {ifs : List Expr} {scope : Scope} {own : List (PySem.Str × Nat)} {pos pos' : Pos} {wi : TI} {g : TG} {tt : TT} {te : TE} {Qf : Value → Shared → Prop} (hu : X.A.units + 64 < cLine)
    (hc : X.calm = true) (hN : X.N.Nodup) (I : Inv X pins σ H s) (hi : PI X tg iter wi) (ok : BlkOk X.N X.env.scope scope own)
    (hg : ∀ (s : Shared) (H : Hp) (C : Addr) (cl : List (PySem.Str × Addr)) (fp : List Addr), PG (X.blk s H scope (compEnvC scope cl C X.env) fp) tg g) (ht : ∀ (s : Shared) (H : Hp) (C : Addr) (cl : List (PySem.Str × Addr)) (fp : List Addr), PTs (X.blk s H scope (compEnvC scope cl C X.env) fp) ifs tt)
    (he : ∀ (s : Shared) (H : Hp) (C : Addr) (cl : List (PySem.Str × Addr)) (fp : List Addr), PE (X.blk s H scope (compEnvC scope cl C X.env) fp) elt te) (hs : ∀ x, foldedSetIterable iter X.env x = pure x)
    (h : tSct X.K X.prog X.w wi g tt te (own.map (·.2)) σ H Q)
    (fin : ∀ D C s' m H', Inv X pins σ H' s' → Q (.ref D) H' → s'.heap.Ns C m → FpOk X pins H' C → compPost (model X.prog X.w) X.A X.xe none Qf (.ref D) C (.ok .next) s') :
    wpAny (model X.prog X.w) X.A (comprehension (.SetComp elt [⟨tg, iter, ifs, 0⟩] scope pos) scope X.env pos' (newSet (.type "set")) false (eval iter X.env) none) Qf X.xe s := by
  have caught : ∀ y ∈ scope.names, y.2 = .free → ∃ c, X.env.cells.lookup y.1 = some c := fun y hy e => by
    rcases ok.free y hy e with kk | kk
    · exact I.ok.has _ (.inl kk)
    · exact I.ok.has _ (.inr kk)
  refine wpAny_comprehension_free (use := none) rfl hs (closure_ok caught) ok.kind (fun y hy e => by rw [ok.uniq y hy, e])
    (thn (hi.run pins s σ H _ I h) fun _ s1 hx => thn hx fun _ s2 h2 => ?_)
  obtain ⟨it, fp, tn, J, H2, rfl, I2, T, st2, f2, q⟩ := h2
  refine PpSet.newSet_ok (newEnv_comp ?_)
  generalize hD : s2.heap.objs.size = D
  have dN : H2 D = none := I2.hok.fresh (Nat.le_of_eq hD)
  obtain ⟨W, ⟨m0, w0⟩, turn⟩ := q D dN
  generalize hs3 : ({ s2 with heap := s2.heap.push { cls := .type "set", dict := none, data := .set #[] 0 (.fresh 0 0 (!X.w.params.followText "set-order")) } } : Shared) = s3
  have I3 : Inv X pins σ (upd H2 D (SetTO X.prog X.w D [])) s3 := by
    rw [← hs3]
    refine I2.laid (t' := s2.toks) (fun b o e => Heap.get?_push_of_some _ e) (Nat.le_of_eq hD) ?_
    rw [← hD]
    exact setTO_new (setTR_fresh (Heap.get?_push_size _ rfl)).t0
  have h3 : s3.heap = s2.heap.push { cls := .type "set", dict := none, data := .set #[] 0 (.fresh 0 0 (!X.w.params.followText "set-order")) } := by rw [← hs3]
  have below : ∀ b ∈ fp, b < s2.heap.objs.size := fun b hb => by
    obtain ⟨o, e, _⟩ := T.obj _ _ st2 b hb
    exact Heap.lt_size e
  have f3 : ∀ b ∈ fp, FpOk X pins (upd H2 D (SetTO X.prog X.w D [])) b ∧ b < s3.heap.objs.size := fun b hb => by
    have lt := below b hb
    refine ⟨⟨?_, (f2 b hb).2⟩, by rw [h3, Heap.size_push]; exact Nat.lt_succ_of_lt lt⟩
    rw [upd_ne (by rw [← hD]; exact Nat.ne_of_lt lt)]
    exact (f2 b hb).1
  have st3 : tn 0 s3.heap := T.keep _ _ _ st2 fun b _ o e => by rw [h3]; exact Heap.get?_push_of_some _ e
  have I4 := block_start I3 ok hN f3
  have pg := hg s3 (upd H2 D (SetTO X.prog X.w D [])) s3.heap.objs.size (cellsFrom (s3.heap.objs.size + 1) scope.names (cloFrom X.env.cells scope.names [])) fp
  have pt := ht s3 (upd H2 D (SetTO X.prog X.w D [])) s3.heap.objs.size (cellsFrom (s3.heap.objs.size + 1) scope.names (cloFrom X.env.cells scope.names [])) fp
  have pe := he s3 (upd H2 D (SetTO X.prog X.w D [])) s3.heap.objs.size (cellsFrom (s3.heap.objs.size + 1) scope.names (cloFrom X.env.cells scope.names [])) fp
  show codeAny _ _ (.compStart (.SetComp elt [⟨tg, iter, ifs, 0⟩] scope pos) 0 (.ref it) (.ref D) (compEnvC scope (cellsFrom (s3.heap.objs.size + 1) scope.names (cloFrom X.env.cells scope.names [])) s3.heap.objs.size X.env)) (compPost (model X.prog X.w) X.A X.xe none Qf (.ref D) s3.heap.objs.size) { s3 with heap := pushCells (s3.heap.push { cls := .type "dict", data := .dict #[] }) scope.names }
  have free3 : ∀ b ∈ fp, (upd H2 D (SetTO X.prog X.w D [])) b = none := fun b hb => (f3 b hb).1.1
  generalize hce : compEnvC scope (cellsFrom (s3.heap.objs.size + 1) scope.names (cloFrom X.env.cells scope.names [])) s3.heap.objs.size X.env = ce at I4 pg pt pe ⊢
  have cL : ce.locals = s3.heap.objs.size := by subst hce; rfl
  generalize hH3 : upd H2 D (SetTO X.prog X.w D []) = H3 at I3 I4 pg pt pe w0 free3 f3
  generalize hs4 : ({ s3 with heap := pushCells (s3.heap.push { cls := .type "dict", data := .dict #[] }) scope.names } : Shared) = s4 at I4 ⊢
  have st4 : tn 0 s4.heap := T.keep _ _ _ st3 fun b _ o e => by rw [← hs4]; exact pushCells_keeps _ _ _ _ (Heap.get?_push_of_some _ e)
  have stat : ∀ {σ' : L2.St} {H' : Hp} {s' : Shared}, Inv (X.blk s3 H3 scope ce fp) [] σ' H' s' → (∀ b ∈ fp, H' b = none) → ∀ b ∈ fp, FpOk (X.blk s3 H3 scope ce fp) [] H' b := fun {σ' H' s'} I' hn b hb =>
    ⟨hn b hb, (I'.ok.exf b hb).1, I'.ok.exfs b hb, .inl hb, fun x c e => (I'.ok.exf b hb).2 x c e, fun p hp => absurd (show p ∈ ([] : List (Addr × Obj)) ++ [] from hp) (by simp)⟩
  have loop : codeAny (model X.prog X.w) X.A (.compLoop (.SetComp elt [⟨tg, iter, ifs, 0⟩] scope pos) 0 (.ref it) (.ref D) ce) (compPost (model X.prog X.w) X.A X.xe none Qf (.ref D) s3.heap.objs.size) s4 := by
    refine PpSet.compLoopS_any (fun n s' => ∃ i H', Inv (X.blk s3 H3 scope ce fp) [] (wipe σ (own.map (·.2))) H' s' ∧ tn i s'.heap ∧ (∀ b ∈ fp, H' b = none) ∧ W i n H') ?_ m0 ⟨0, H3, I4, st4, free3, w0⟩
    rintro n s5 ⟨i, H5, I5, st5, n5, w5⟩
    rcases turn i n H5 w5 with ⟨stop, qq⟩ | ⟨go, Nx, hNx, step⟩
    · refine thnF (T.done (X.blk s3 H3 scope ce fp) rfl rfl rfl hc i [] s5 _ H5 (fun _ _ => False) I5 (stat I5 n5) st5 stop) fun r s6 ⟨hr, I6⟩ => ?_
      subst hr
      have I7 : Inv X pins σ H5 s6 := I3.call' (ch := fp) I6.os I6.base I6.hok I6.bare fun b hb => ⟨(f3 b hb).1.2.2.2.1, (f3 b hb).1.2.1, (f3 b hb).1.2.2.2.2.1, (f3 b hb).1.2.2.2.2.2⟩
      have nC : H5 s3.heap.objs.size = none := by
        have z : H5 ce.locals = none := I6.free
        rw [cL] at z
        exact z
      obtain ⟨m, hn, _⟩ := I6.loc
      have hn2 : s6.heap.Ns ce.locals m := hn
      rw [cL] at hn2
      exact fin D s3.heap.objs.size s6 m H5 I7 qq hn2 (I3.fpOk (Nat.le_refl _) nC)
    · refine thnF (T.item (X.blk s3 H3 scope ce fp) rfl rfl rfl hc i [] s5 _ H5 (fun _ _ => False) I5 (stat I5 n5) st5 go) fun r s6 ⟨u, hr, h6⟩ => ?_
      subst hr
      refine thnF h6 fun _ s7 ⟨x, H7, I7, r7, y7, st7, n7⟩ => ?_
      have J7 := I7.pinned (stat I7 n7) (T.obj _ _ st7)
      refine thnF (pg.run _ s7 _ H7 x u _ J7 r7 (step x H7 y7)) fun _ s8 ⟨σ8, H8, I8, hw8, q8⟩ => ?_
      refine thnF (pt.run _ s8 σ8 H8 _ I8 q8) fun b s9 ⟨H9, I9, q9⟩ => ?_
      have last : ∀ {s' : Shared} {H' : Hp}, Inv (X.blk s3 H3 scope ce fp) ([] ++ pinsAt fp s7.heap) σ8 H' s' → Nx H' → ∃ m, m < n ∧ ∃ i H', Inv (X.blk s3 H3 scope ce fp) [] (wipe σ (own.map (·.2))) H' s' ∧ tn i s'.heap ∧ (∀ b ∈ fp, H' b = none) ∧ W i m H' := fun {s' H'} I' nx => by
        obtain ⟨m', hm, w'⟩ := hNx H' nx
        have pin' : ∀ b ∈ fp, ∀ o, s7.heap.get? b = some o → s'.heap.get? b = some o ∧ H' b = none := fun b hb o e =>
          let z := I'.pin (b, o) (List.mem_append_right _ (List.mem_append_right _ (mem_pinsAt hb e)))
          ⟨z.1, z.2.1⟩
        have hl : (wipe σ (own.map (·.2))).length = σ8.length := by rw [← hw8, wipe_length]
        refine ⟨m', hm, i + 1, H', (I'.unpinned (pins := [])).weak hl (fun j v e => ?_), T.keep _ _ _ st7 fun b hb o e => (pin' b hb o e).1, fun b hb => ?_, w'⟩
        · rw [← hw8] at e
          exact (wipe_some e).1
        · obtain ⟨o, e, _⟩ := T.obj _ _ st7 b hb
          exact (pin' b hb o e).2
      cases b with
      | false =>
        rw [if_neg Bool.false_ne_true]
        rw [if_neg Bool.false_ne_true] at q9
        exact last I9 q9
      | true =>
        rw [if_pos rfl]
        rw [if_pos rfl] at q9
        refine thnF (pe.run _ s9 σ8 H9 _ I9 q9) fun z s10 ⟨yv, H10, I10, r10, c, k, L, ey, hx, hDL, hL, few, nx⟩ => ?_
        subst ey
        obtain rfl : z = Value.ref c := r10
        exact addT_ok (X := X.blk s3 H3 scope ce fp) hu I10 hDL hL hx few fun s11 L' c1 c2 I11 => last I11 (nx L' c1 c2)
  exact PpSet.codeAny_compStart_set loop (T.self X.A 0 _ _ _ st4 loop)
theorem pe_sc {elt tg iter : Expr} {ifs : List Expr} {scope : Scope} {own : List (PySem.Str × Nat)} {pos : Pos} {wi : TI} {g : TG} {tt : TT} {te : TE} (hu : X.A.units + 64 < cLine) (hc : X.calm = true) (hN : X.N.Nodup) (hi : PI X tg iter wi) (ok : BlkOk X.N X.env.scope scope own)
    (hg : ∀ (s : Shared) (H : Hp) (C : Addr) (cl : List (PySem.Str × Addr)) (fp : List Addr), PG (X.blk s H scope (compEnvC scope cl C X.env) fp) tg g) (ht : ∀ (s : Shared) (H : Hp) (C : Addr) (cl : List (PySem.Str × Addr)) (fp : List Addr), PTs (X.blk s H scope (compEnvC scope cl C X.env) fp) ifs tt)
    (he : ∀ (s : Shared) (H : Hp) (C : Addr) (cl : List (PySem.Str × Addr)) (fp : List Addr), PE (X.blk s H scope (compEnvC scope cl C X.env) fp) elt te) (hs : ∀ x, foldedSetIterable iter X.env x = pure x := by intro _; rfl) :
    PE X (.SetComp elt [⟨tg, iter, ifs, 0⟩] scope pos) (tSct X.K X.prog X.w wi g tt te (own.map (·.2))) := by
  refine ⟨fun pins s σ H Q I h => ?_⟩
  rw [PpSet.eval_SetComp]
  refine sct_core hu hc hN I hi ok hg ht he hs h fun D C s' m H' J q hn f => ⟨m, hn, fun h'' sb => ?_⟩
  obtain ⟨f0, f1, f2, f3, f4, f5⟩ := f
  exact ⟨.ref D, H', J.turned (t' := s'.toks) (fun b o hb e => (sb.2 b hb).trans e) f0 f1 f3 f4 f5, rfl, q⟩
end
end Wk
end
section
set_option Elab.async false
set_option linter.all false
set_option maxRecDepth 100000
namespace Wk
open PySem PySem.Spec PyProof.Rows L2 Evl

abbrev dP2 (z : Int × Int) : PyData := .tuple [.int z.1, .int z.2]
abbrev dP3 (p : Int × Int × Int) : PyData := .tuple [.int p.1, .int p.2.1, .int p.2.2]
abbrev Row2 := List (Addr × List Int)
/-- a new set with these pairs in it -/
def EvS (K : PySem.W.Frag) (P : Program) (w : World) (te : TE) (ss : SD) (ks : List (Int × Int)) : Prop := ∀ (X : List Addr) (σ : L2.St) (H : Hp), Own X H → StD K (Hd X H) σ ss → ∀ Q : VK,
  (∀ D L H', H D = none → Ex H H' → H' D = some (SetTO P w D L) → (∀ p ∈ L, SqT K (Hd (D :: X) H') p.1 (p.2.map V.int)) → (∀ p ∈ L, p.2.length = 2) → (∀ z, z ∈ L.map (fun p => toP p.2) ↔ z ∈ ks) → Q (.ref D) H') → te σ H Q
section
variable {K : PySem.W.Frag} {P : Program} {w : World} {ss : SD} {ta tb te : TE} {t u : TT} {d e : PyData}
theorem sq2 {G : Hp} {v : V} {z : Int × Int} (h : Dq K G v (dP2 z)) : ∃ a, v = .ref a ∧ SqT K G a ([z.1, z.2].map V.int) := by
  obtain ⟨a, xs, rfl, hs, hx⟩ := dp_tup h
  have e : xs = [z.1, z.2].map V.int := dpa_ints (ns := [z.1, z.2]) hx
  rw [e] at hs
  exact ⟨a, rfl, hs⟩
theorem es_sc {α : Type} {wi : TI} {g : TG} {tt : TT} {vs : List Nat} {xs : List α} {enc : α → PyData} {as : α → List (Nat × PyData)} {f : α → Bool} {r : α → Int × Int} (hi : EvI K wi ss (xs.map enc)) (hl : xs.length < 63)
    (hg : ∀ x ∈ xs, TgD K g (enc x) (as x)) (hv : ∀ x ∈ xs, ∀ p ∈ as x, p.1 ∈ vs) (ht : ∀ x ∈ xs, EvB K tt (setsD (wipeD ss vs) (as x)) (f x)) (he : ∀ x ∈ xs, f x = true → EvD K te (setsD (wipeD ss vs) (as x)) (dP2 (r x))) :
    EvS K P w (tSct K P w wi g tt te vs) ss ((xs.filter f).map r) := fun X σ H O S Q q => hi X σ H O S _ fun J H1 e1 hJ D hD => by
  have dX : D ∉ X := own_not (O.mono e1) hD
  refine ⟨fun i m H' => m = xs.length - i ∧ i ≤ xs.length ∧ Ex H1 H' ∧ ∃ L : Row2, H' D = some (SetTO P w D L) ∧ (∀ p ∈ L, SqT K (Hd (D :: X) H') p.1 (p.2.map V.int)) ∧ (∀ p ∈ L, p.2.length = 2) ∧ L.length ≤ i ∧ ∀ z, z ∈ L.map (fun p => toP p.2) ↔ z ∈ ((xs.take i).filter f).map r,
    ⟨xs.length, rfl, Nat.zero_le _, Ex.new hD, [], upd_same, fun p hp => (by cases hp), fun p hp => (by cases hp), Nat.le_refl _, fun z => by simp⟩, ?_⟩
  rintro i m H2 ⟨rfl, hle, e2, L, hDL, hT, h2, hn, hm⟩
  have eG : Ex (Hd X H1) (Hd (D :: X) H2) := hd_new e2 hD
  have O2 : Own (D :: X) H2 := own_cons (O.mono (e1.trans e2)) (by rw [hDL]; exact fun z => by cases z)
  obtain ⟨j1, j2⟩ := hJ (D :: X) i H2 eG O2
  by_cases hlt : i < xs.length
  · have hx : xs[i]? = some xs[i] := List.getElem?_eq_getElem hlt
    have hmx : xs[i] ∈ xs := List.getElem_mem hlt
    obtain ⟨go, yl⟩ := j1 (enc xs[i]) (by rw [List.getElem?_map, hx]; rfl)
    have tk : xs.take (i + 1) = xs.take i ++ [xs[i]] := by rw [List.take_add_one, hx]; rfl
    refine .inr ⟨go, fun H' => Ex H1 H' ∧ ∃ L : Row2, H' D = some (SetTO P w D L) ∧ (∀ p ∈ L, SqT K (Hd (D :: X) H') p.1 (p.2.map V.int)) ∧ (∀ p ∈ L, p.2.length = 2) ∧ L.length ≤ i + 1 ∧ ∀ z, z ∈ L.map (fun p => toP p.2) ↔ z ∈ ((xs.take (i + 1)).filter f).map r,
      fun H' p => ⟨_, by omega, rfl, hlt, p.1, p.2⟩, fun x H3 y => ?_⟩
    obtain ⟨e3, hx3⟩ := yl x H3 y
    have O3 : Own (D :: X) H3 := O2.mono e3
    refine hg _ hmx (D :: X) H3 x (wipe σ vs) _ O3 hx3 fun us hus => ⟨wipe_sets (fun j hj => ?_), ?_⟩
    · obtain ⟨p, hp, rfl⟩ := List.mem_map.mp hj
      exact hv _ hmx p hp
    have e13 : Ex (Hd X H) (Hd (D :: X) H3) := (hd_mono e1).trans (eG.trans (hd_mono e3))
    have S3 : StD K (Hd (D :: X) H3) (setL (wipe σ vs) ((as xs[i]).map (·.1)) us) (setsD (wipeD ss vs) (as xs[i])) := StD.sets _ ((S.mono e13).wipe vs) hus
    refine ht _ hmx (D :: X) _ H3 O3 S3 _ fun H4 e4 => ?_
    have D4 : H4 D = some (SetTO P w D L) := e4 _ _ (e3 _ _ hDL)
    have T4 : ∀ p ∈ L, SqT K (Hd (D :: X) H4) p.1 (p.2.map V.int) := fun p hp => ex_t (hd_mono (e3.trans e4)) (hT p hp)
    cases hf : f xs[i] with
    | true =>
      rw [if_pos rfl]
      refine he _ hmx hf (D :: X) _ H4 (O3.mono e4) (S3.mono (hd_mono e4)) _ fun v H5 e5 hw => ?_
      obtain ⟨c, rfl, hc⟩ := sq2 hw
      have T5 : ∀ p ∈ L, SqT K (Hd (D :: X) H5) p.1 (p.2.map V.int) := fun p hp => ex_t (hd_mono e5) (T4 p hp)
      refine ⟨c, [(r xs[i]).1, (r xs[i]).2], L, rfl, ex_t hd_le hc, e5 _ _ D4, fun p hp => ex_t hd_le (T5 p hp), by omega, fun L' c1 c2 => ⟨Ex.mut (((e2.trans e3).trans e4).trans e5) hD, L', upd_same, ?_, ?_, ?_, ?_⟩⟩
      all_goals rcases Classical.em ([(r xs[i]).1, (r xs[i]).2] ∈ L.map (·.2)) with mm | mm
      · rw [c1 mm, hd_upd List.mem_cons_self]
        exact T5
      · rw [hd_upd List.mem_cons_self]
        intro p hp
        rcases List.mem_cons.mp ((c2 mm).mem_iff.mp hp) with z | z
        · rw [z]; exact hc
        · exact T5 p z
      · rw [c1 mm]
        exact h2
      · intro p hp
        rcases List.mem_cons.mp ((c2 mm).mem_iff.mp hp) with z | z
        · rw [z]; rfl
        · exact h2 p z
      · rw [c1 mm]
        exact Nat.le_succ_of_le hn
      · rw [(c2 mm).length_eq, List.length_cons]
        exact Nat.succ_le_succ hn
      · intro z
        rw [c1 mm, tk, List.filter_append, List.map_append, List.filter_cons, if_pos hf, List.mem_append, hm z]
        constructor
        · exact Or.inl
        · rintro (y | y)
          · exact y
          · have ez : z = r xs[i] := by simpa using y
            obtain ⟨p, hp, ep⟩ := List.mem_map.mp mm
            rw [← hm z]
            exact List.mem_map.mpr ⟨p, hp, by rw [ep, ez]; rfl⟩
      · intro z
        rw [((c2 mm).map _).mem_iff, tk, List.filter_append, List.map_append, List.filter_cons, if_pos hf, List.mem_append, List.map_cons, List.mem_cons, hm z]
        constructor
        · rintro (y | y)
          · exact Or.inr (by simpa [toP] using y)
          · exact Or.inl y
        · rintro (y | y)
          · exact Or.inr y
          · exact Or.inl (by simpa [toP] using y)
    | false =>
      rw [if_neg (by decide)]
      refine ⟨(e2.trans e3).trans e4, L, D4, T4, h2, Nat.le_succ_of_le hn, fun z => ?_⟩
      rw [tk, List.filter_append, List.map_append, List.filter_cons, if_neg (by rw [hf]; decide), hm z]
      simp
  · have ei : i = xs.length := by omega
    subst ei
    refine .inl ⟨j2 (by rw [List.length_map]), q D L H2 (fresh_back e1 hD) (e1.trans e2) hDL hT h2 fun z => ?_⟩
    rw [hm z, List.take_of_length_le (Nat.le_refl _)]
theorem rows2 {G : Hp} : ∀ {ks : List (Int × Int)} {vs : List V}, DqAll K G vs (ks.map dP2) → ∃ L : Row2, vs = L.map (fun p => V.ref p.1) ∧ (∀ p ∈ L, SqT K G p.1 (p.2.map V.int)) ∧ (∀ p ∈ L, p.2.length = 2) ∧ L.map (fun p => toP p.2) = ks
  | [], _, h => by
    cases h
    exact ⟨[], rfl, fun p hp => (by cases hp), fun p hp => (by cases hp), rfl⟩
  | z :: ks, _, h => by
    cases h with
    | cons h1 h2 =>
      obtain ⟨L, e1, e2, e3, e4⟩ := rows2 h2
      obtain ⟨a, rfl, ha⟩ := sq2 h1
      refine ⟨(a, [z.1, z.2]) :: L, by rw [List.map_cons, e1], fun p hp => ?_, fun p hp => ?_, by rw [List.map_cons, e4]; rfl⟩
      · rcases List.mem_cons.mp hp with y | y
        · rw [y]; exact ha
        · exact e2 p y
      · rcases List.mem_cons.mp hp with y | y
        · rw [y]; rfl
        · exact e3 p y
theorem es_of {ks : List (Int × Int)} (ha : EvD K ta ss (.list (ks.map dP2))) (hl : ks.length < 64) : EvS K P w (tCB (rSetOfT K P w) (tCons ta tNil)) ss ks := fun X σ H O S Q q => ha X σ H O S _ fun v H1 e1 hv => by
  obtain ⟨a, xs, rfl, hs, hx⟩ := dp_lst hv
  obtain ⟨L, rfl, h1, h2, h3⟩ := rows2 hx
  have ln : L.length = ks.length := by rw [← h3, List.length_map]
  refine ⟨a, L, rfl, sq_of (hd_le _ _ hs), fun p hp => ex_t hd_le (h1 p hp), by omega, fun D M hD hM1 hM2 => q D M _ (fresh_back e1 hD) (e1.trans (Ex.new hD)) upd_same (fun p hp => ex_t (hd_new (Ex.new hD) hD) (h1 p (hM1 p hp))) (fun p hp => h2 p (hM1 p hp)) fun z => ?_⟩
  rw [← h3]
  constructor
  · intro y
    obtain ⟨p, hp, e⟩ := List.mem_map.mp y
    exact List.mem_map.mpr ⟨p, hM1 p hp, e⟩
  · intro y
    obtain ⟨p, hp, e⟩ := List.mem_map.mp y
    obtain ⟨p2, hp2, e2⟩ := List.mem_map.mp (hM2 p hp)
    exact List.mem_map.mpr ⟨p2, hp2, by rw [← e, ← e2]⟩
theorem rows_data {G : Hp} : ∀ {M : Row2}, (∀ p ∈ M, SqT K G p.1 (p.2.map V.int)) → (∀ p ∈ M, p.2.length = 2) → DqAll K G (M.map fun q => V.ref q.1) ((M.map fun q => toP q.2).map dP2)
  | [], _, _ => .nil
  | p :: M, h1, h2 => by
    refine .cons ?_ (rows_data (fun q hq => h1 q (List.mem_cons_of_mem _ hq)) fun q hq => h2 q (List.mem_cons_of_mem _ hq))
    have e := toP_eq (h2 p List.mem_cons_self)
    have a := h1 p List.mem_cons_self
    rw [e] at a
    exact .tup a (.cons (.int _) (dpa_one (.int _)))
theorem en_srt {ks : List (Int × Int)} (h : EvS K P w te ss ks) : EvN K (tCB (rSrtP K P w) (tCons te tNil)) ss ((Sh.sortD ks).map dP2) := fun X σ H O S Q q => h X σ H O S _ fun D L H1 hD e1 hDL hT h2 hm => by
  refine ⟨D, L, rfl, hDL, fun p hp => ex_t hd_le (hT p hp), h2, fun M p mm ms ml pw hp => q p _ _ (fresh_back e1 hp) (e1.trans (Ex.new hp)) upd_same ?_⟩
  have srt : M.map (fun q => toP q.2) = Sh.sortD ks := by
    refine Sh.sortD_uniq (List.pairwise_map.mpr (pw.imp fun {a b} hlt => SrtO.lexB_iff.mp hlt)) fun z => ?_
    rw [← hm z]
    constructor
    · intro y
      obtain ⟨a, ha, e⟩ := List.mem_map.mp y
      exact List.mem_map.mpr ⟨a, ms a ha, e⟩
    · intro y
      obtain ⟨a, ha, e⟩ := List.mem_map.mp y
      obtain ⟨b, hb, e2⟩ := List.mem_map.mp ((mm a.2).mpr (List.mem_map.mpr ⟨a, ha, rfl⟩))
      exact List.mem_map.mpr ⟨b, hb, by rw [e2, e]⟩
  rw [← srt]
  have lift : ∀ a ∈ M, SqT K (Hd (p :: X) (upd H1 p (.lst (M.map fun q => V.ref q.1)))) a.1 (a.2.map V.int) := fun a ha => ex_t (hd_tail.trans (hd_new (Ex.new hp) hp)) (hT a (ms a ha))
  exact rows_data lift fun a ha => h2 a (ms a ha)
end
theorem pe_srt {X : Cx} {p pos : Pos} {e : Expr} {te : TE} (hg : Gl X "sorted") (hm : X.mg "sorted" = none) (hc : X.calm = true) (he : PE X e te) (hs : starEach [e] X.env = (false, eval e X.env) :: starEach [] X.env := by rfl) :
    PE X (.Call (.Name "sorted" p) [e] [] pos) (tCB (rSrtP X.K X.prog X.w) (tCons te tNil)) := pe_callB (cr_srtP hc) hg hm PyProof.Rows.boot_sorted (pa_cons he pa_nil hs) (he := hs)

/-! ### xs[i] += n -/
theorem get_list {X : Cx} : PGet X (fun o i H Q => ∃ (l : Addr) (xs : List V) (j : Nat) (v : V), o = .ref l ∧ i = .int (j : Int) ∧ H l = some (.lst xs) ∧ xs[j]? = some v ∧ Q v H) := by
  intro pins s σ H o i ov iv Q I ro ri h
  obtain ⟨l, xs, j, v, rfl, rfl, hl, hj, q⟩ := h
  obtain rfl : ov = Value.ref l := ro
  obtain ⟨t, rfl⟩ := ri
  obtain ⟨its, rv, pl, hz⟩ := I.list (sq_of hl : SqL X.K H l xs)
  obtain ⟨u, hu, ru⟩ := rv.get hj
  have lt := (List.getElem?_eq_some_iff.mp hj).1
  have ln := rv.length
  have big : sizeLine < 2 ^ 62 := by rw [sizeLine_eq]; decide
  refine wpAny_getItem_list pl.isList (x := u) (by omega) (by omega) (by simpa using hu) ?_
  exact ⟨v, H, I, ru, q⟩

/-! ### f(k = v, ..) -/
structure CalK (P : Program) (w : World) (K : PySem.W.Frag) (mg : Str → Option Value) (base : Heap) (k : Nat) (x : Str) (ps ks : List Str) (g : List Value → List Value → List Value) (gV : List V → List V → List V) (sp : Sp) : Prop where
  ex : ∃ (f : Addr) (fd : FuncData), FnOk P w K mg base L2.CX0 k f fd ps sp ∧ mg x = some (.ref f) ∧ PySem.W.keepIn K (.ref f) = true ∧ KBinds K fd ps ks g gV
theorem pe_k {X : Cx} {k j : Nat} {x : Str} {ps ks : List Str} {g : List Value → List Value → List Value} {gV : List V → List V → List V} {sp : Sp} {p pos : Pos} {kws : List Keyword} {tk : TA} (c : CalK X.prog X.w X.K X.mg X.base k x ps ks g gV sp) (hr : Room j X.A) (hk : k ≤ j) (hg : Gl X x) (hkw : PK X kws tk)
    (hall : (backToKw pos (keywordEach kws X.env)).all (·.1.isSome) = true := by rfl) (hks : (backToKw pos (keywordEach kws X.env)).filterMap (·.1) = ks := by rfl)
    (hdb : (x == ("__debug__" : Str)) = false := by decide) (hpl : ((backTo pos (starEach [] X.env)).any (·.1) || (backToKw pos (keywordEach kws X.env)).any (·.1.isNone)) = false := by rfl) :
    PE X (.Call (.Name x p) [] kws pos) (tCallK sp gV L2.E0 tNil tk) := by
  obtain ⟨f, fd, F, hm, kp, b⟩ := c.ex
  refine ⟨fun pins s σ H Q I h => ?_⟩
  refine wpAny_Call_Name_kw (ld_glob I hg hm ?_ hdb)
  refine PySem.W.callWith_KW0 (h₀ := X.base) I.ok.mod.kin kp hall ?_ hpl
  refine thn (hkw.run pos pins s σ H _ I h) fun ws s2 ⟨zs, H2, I2, rz, q2⟩ => ⟨I2.kIn, ?_⟩
  rw [hks]
  exact run_fnk F (hr.mono hk) b L2.pass0 I2 .nil rz q2
end Wk
end
section
set_option Elab.async false
set_option linter.all false
set_option maxRecDepth 100000
namespace Wk
open PySem PySem.Spec PyProof.Rows L2 Evl

def topL (i : Nat) : Stmt := PySem.Challenge.pw_windfigure_k57_whole_shores_held_off_tog.main.body.getD i (.Pass ⟨0, 0, 0, 0⟩)
/-! ### bounds -/
def Bz (n : Nat) (z : Int) : Prop := z.natAbs < 2 ^ n
theorem bz_le {n m : Nat} {z : Int} (h : Bz n z) (l : n ≤ m) : Bz m z := Nat.lt_of_lt_of_le h (Nat.pow_le_pow_right (by decide) l)
theorem bz_add {n m : Nat} {a b : Int} (ha : Bz n a) (hb : Bz m b) : Bz (n + m + 1) (a + b) := by
  have h1 : a.natAbs < 2 ^ (n + m) := Nat.lt_of_lt_of_le ha (Nat.pow_le_pow_right (by decide) (Nat.le_add_right _ _))
  have h2 : b.natAbs < 2 ^ (n + m) := Nat.lt_of_lt_of_le hb (Nat.pow_le_pow_right (by decide) (Nat.le_add_left _ _))
  show (a + b).natAbs < 2 ^ (n + m + 1)
  have := Int.natAbs_add_le a b
  rw [Nat.pow_succ]
  omega
theorem bz_neg {n : Nat} {a : Int} (ha : Bz n a) : Bz n (-a) := by
  show (-a).natAbs < 2 ^ n
  rw [Int.natAbs_neg]
  exact ha
theorem bz_sub {n m : Nat} {a b : Int} (ha : Bz n a) (hb : Bz m b) : Bz (n + m + 1) (a - b) := by
  rw [Int.sub_eq_add_neg]
  exact bz_add ha (bz_neg hb)
theorem bz_mul {n m : Nat} {a b : Int} (ha : Bz n a) (hb : Bz m b) : Bz (n + m) (a * b) := wide_lt ha hb
theorem cmw {n m : Nat} {a b : Int} (ha : Bz n a) (hb : Bz m b) (hn : 0 < n := by decide) (hm : 0 < m := by decide) (h : n + m ≤ 1000000 := by decide) : CMulW a b := wide_mul ha hb hn hm h
/-- of a size that every number here has -/
abbrev Bg (z : Int) : Prop := Bz 7000 z
theorem bg_of {z : Int} (h : -1000000 ≤ z ∧ z ≤ 1000000) : Bz 20 z := by
  show z.natAbs < 2 ^ 20
  have e : (2 : Nat) ^ 20 = 1048576 := by decide
  omega
section
variable {P : Program} {w : World} {K : PySem.W.Frag} {mg : Str → Option Value} {base : Heap}

/-! ### is_left -/
def f_is_left : List PyData → PyData → Prop := fun ds r => ∃ a b c : Int × Int, (Bg a.1 ∧ Bg a.2) ∧ (Bg b.1 ∧ Bg b.2) ∧ (Bg c.1 ∧ Bg c.2) ∧ ds = [dP2 a, dP2 b, dP2 c] ∧ r = .bool (decide (0 < Sh.orient a b c))
theorem u_is_left {ss : SD} {t1 t2 t3 : TE} {E : XK} {a b c : Int × Int} (h1 : EvD K t1 ss (dP2 a)) (h2 : EvD K t2 ss (dP2 b)) (h3 : EvD K t3 ss (dP2 c)) (ha : Bg a.1 ∧ Bg a.2) (hb : Bg b.1 ∧ Bg b.2) (hc : Bg c.1 ∧ Bg c.2) :
    EvD K (tCall (spD K f_is_left) [] E (tCons t1 (tCons t2 (tCons t3 tNil)))) ss (.bool (decide (0 < Sh.orient a b c))) := ed_call (ea_cons h1 (ea_cons h2 (ea_cons h3 ea_nil))) ⟨a, b, c, ha, hb, hc, rfl, rfl⟩
abbrev s_is_left : Stmt := topL 18
theorem sc_is_left : FnScope ["one", "two", "three"] ["one", "two", "three"] (defScope s_is_left) := ⟨rfl, rfl, rfl, by decide +kernel, rfl, by decide +kernel, by decide +kernel⟩
theorem ok_is_left {f : Addr} {fd : FuncData} (F : Dfn K mg "is_left" s_is_left f fd ["one", "two", "three"]) (B : Bt mg) : Cal P w K mg base 1 "is_left" ["one", "two", "three"] (spD K f_is_left) := by
  refine calD F sc_is_left (fun ds r h => ?_) fun cdv A outer s H E hr => ⟨_, (pss_one (ps_ret (pe_cmpR op_gt (pe_op op_mulW (pe_op op_sub (pe_ix ix_tup (pv 1) pe_int (fun _ _ => rfl)) (pe_ix ix_tup (pv 0) pe_int (fun _ _ => rfl))) (pe_op op_sub (pe_ix ix_tup (pv 2) pe_int (fun _ _ => rfl)) (pe_ix ix_tup (pv 0) pe_int (fun _ _ => rfl)))) (pe_op op_mulW (pe_op op_sub (pe_ix ix_tup (pv 1) pe_int (fun _ _ => rfl)) (pe_ix ix_tup (pv 0) pe_int (fun _ _ => rfl))) (pe_op op_sub (pe_ix ix_tup (pv 2) pe_int (fun _ _ => rfl)) (pe_ix ix_tup (pv 0) pe_int (fun _ _ => rfl)))) (nomark _)))), fun X ds r D hp hQ hN => ?_⟩
  · obtain ⟨a, b, c, _, _, _, rfl, _⟩ := h
    rfl
  · obtain ⟨a, b, c, ha, hb, hc, rfl, rfl⟩ := hp
    refine w_ret (ed_is (ed_gt (ed_mul ?_ (ed_sub (ed_ixT rfl (ed_var rfl) ed_int) (ed_ixT rfl (ed_var rfl) ed_int)) (ed_sub (ed_ixT rfl (ed_var rfl) ed_int) (ed_ixT rfl (ed_var rfl) ed_int)))
      (ed_mul ?_ (ed_sub (ed_ixT rfl (ed_var rfl) ed_int) (ed_ixT rfl (ed_var rfl) ed_int)) (ed_sub (ed_ixT rfl (ed_var rfl) ed_int) (ed_ixT rfl (ed_var rfl) ed_int)))) ?_) hQ
    · exact cmw (bz_sub hb.1 ha.1) (bz_sub hc.2 ha.2)
    · exact cmw (bz_sub hb.2 ha.2) (bz_sub hc.1 ha.1)
    · congr 1
      unfold Sh.orient
      exact decide_eq_decide.mpr (by omega)
/-! ### value_at -/
def val3 (s p : Int × Int × Int) : Int := s.1 * p.1 + s.2.1 * p.2.1 - s.2.2 * p.2.2
def f_value_at : List PyData → PyData → Prop := fun ds r => ∃ a p : Int × Int × Int, (Bz 20 a.1 ∧ Bz 20 a.2.1 ∧ Bz 20 a.2.2) ∧ (Bz 20 p.1 ∧ Bz 20 p.2.1 ∧ Bz 20 p.2.2) ∧ ds = [dP3 a, dP3 p] ∧ r = .int (val3 a p)
theorem u_value_at {ss : SD} {t1 t2 : TE} {E : XK} {a p : Int × Int × Int} (h1 : EvD K t1 ss (dP3 a)) (h2 : EvD K t2 ss (dP3 p)) (ha : Bz 20 a.1 ∧ Bz 20 a.2.1 ∧ Bz 20 a.2.2) (hp : Bz 20 p.1 ∧ Bz 20 p.2.1 ∧ Bz 20 p.2.2) :
    EvD K (tCall (spD K f_value_at) [] E (tCons t1 (tCons t2 tNil))) ss (.int (val3 a p)) := ed_call (ea_cons h1 (ea_cons h2 ea_nil)) ⟨a, p, ha, hp, rfl, rfl⟩
abbrev s_value_at : Stmt := topL 16
theorem sc_value_at : FnScope ["side", "point"] ["side", "point"] (defScope s_value_at) := ⟨rfl, rfl, rfl, by decide +kernel, rfl, by decide +kernel, by decide +kernel⟩
theorem ok_value_at {f : Addr} {fd : FuncData} (F : Dfn K mg "value_at" s_value_at f fd ["side", "point"]) (B : Bt mg) : Cal P w K mg base 1 "value_at" ["side", "point"] (spD K f_value_at) := by
  refine calD F sc_value_at (fun ds r h => ?_) fun cdv A outer s H E hr => ⟨_, (pss_one (ps_ret (pe_op op_sub (pe_op op_add (pe_op op_mulW (pe_ix ix_tup (pv 0) pe_int (fun _ _ => rfl)) (pe_ix ix_tup (pv 1) pe_int (fun _ _ => rfl))) (pe_op op_mulW (pe_ix ix_tup (pv 0) pe_int (fun _ _ => rfl)) (pe_ix ix_tup (pv 1) pe_int (fun _ _ => rfl)))) (pe_op op_mulW (pe_ix ix_tup (pv 0) pe_int (fun _ _ => rfl)) (pe_ix ix_tup (pv 1) pe_int (fun _ _ => rfl)))))), fun X ds r D hp hQ hN => ?_⟩
  · obtain ⟨a, p, _, _, rfl, _⟩ := h
    rfl
  · obtain ⟨a, p, ha, hp, rfl, rfl⟩ := hp
    refine w_ret (ed_sub (ed_add (ed_mul ?_ (ed_ixT rfl (ed_var rfl) ed_int) (ed_ixT rfl (ed_var rfl) ed_int)) (ed_mul ?_ (ed_ixT rfl (ed_var rfl) ed_int) (ed_ixT rfl (ed_var rfl) ed_int))) (ed_mul ?_ (ed_ixT rfl (ed_var rfl) ed_int) (ed_ixT rfl (ed_var rfl) ed_int))) hQ
    · exact cmw ha.1 hp.1
    · exact cmw ha.2.1 hp.2.1
    · exact cmw ha.2.2 hp.2.2
end
end Wk
end
section
set_option Elab.async false
set_option linter.all false
set_option maxRecDepth 100000
namespace Wk
open PySem PySem.Spec PyProof.Rows L2 Evl

/-! ### short words -/
theorem led_nil : LeD [] [] := LeD.refl _
theorem led_eq {a b : Option PyData} {as bs : SD} (e : a = b) (h : LeD as bs) : LeD (a :: as) (b :: bs) := by
  subst e
  refine ⟨by simp [h.1], fun i d q => ?_⟩
  cases i with
  | zero => exact q
  | succ i => exact h.2 i d (by simpa using q)
theorem led_no {b : Option PyData} {as bs : SD} (h : LeD as bs) : LeD (none :: as) (b :: bs) := by
  refine ⟨by simp [h.1], fun i d q => ?_⟩
  cases i with
  | zero => simp at q
  | succ i => exact h.2 i d (by simpa using q)
theorem led_same {a : Option PyData} {as bs : SD} (h : LeD as bs) : LeD (a :: as) (a :: bs) := led_eq rfl h
theorem take_snoc {α : Type} {l : List α} {i : Nat} {x : α} (h : l[i]? = some x) : l.take (i + 1) = l.take i ++ [x] := by rw [List.take_add_one, h]; rfl
section
variable {K : PySem.W.Frag} {ss : SD} {ta te : TE} {X : List Addr} {H0 G : Hp} {D : Ends} {mu : Mu}
theorem en_map {α : Type} {wi : TI} {g : TG} {vs : List Nat} {xs : List α} {enc : α → PyData} {as : α → List (Nat × PyData)} {r : α → PyData} (hi : EvI K wi ss (xs.map enc)) (hl : xs.length ≤ 50000)
    (hg : ∀ x ∈ xs, TgD K g (enc x) (as x)) (hv : ∀ x ∈ xs, ∀ p ∈ as x, p.1 ∈ vs) (he : ∀ x ∈ xs, EvD K te (setsD (wipeD ss vs) (as x)) (r x)) : EvN K (tLc wi g tYes te vs) ss (xs.map r) := by
  have h := en_lc (f := fun _ => true) hi hl hg hv (fun x hx => eb_yes) (fun x hx _ => he x hx)
  have e : xs.filter (fun _ => true) = xs := List.filter_eq_self.mpr fun _ _ => rfl
  rw [e] at h
  exact h
theorem ed_alls {α : Type} {xs : List α} {b : α → Bool} (ha : EvD K ta ss (.list (xs.map fun x => .bool (b x)))) : EvD K (tCB (rAll K) (tCons ta tNil)) ss (.bool (xs.all b)) := by
  have h : EvD K ta ss (.list ((xs.map b).map .bool)) := by rw [List.map_map]; exact ha
  have q := ed_all h
  have e : (xs.map b).all id = xs.all b := by rw [List.all_map]; rfl
  rw [e] at q
  exact q
theorem ed_sums {α : Type} {xs : List α} {f : α → Int} (ha : EvD K ta ss (.list (xs.map fun x => .int (f x)))) : EvD K (tCB (rSum K) (tCons ta tNil)) ss (.int (xs.map f).sum) := by
  have h : EvD K ta ss (.list ((xs.map f).map .int)) := by rw [List.map_map]; exact ha
  exact ed_sum h
/-- the end of a loop's turn -/
theorem w_end {G' : Hp} {D' : Ends} {a : SD} {m : Mu} (hn : D'.nx = Rep K X H0 G' a m) (l : LeD a ss) : Wp K X H0 G' D'.nx ss m := by
  rw [hn]
  exact w_done (Ex.refl _) l
end
section
variable {P : Program} {w : World} {K : PySem.W.Frag} {mg : Str → Option Value} {base : Heap}
/-! ### common_divisor, lowest, is_lowest -/
abbrev dI (ns : List Int) : List PyData := ns.map PyData.int
def f_common_divisor : List PyData → PyData → Prop := fun ds r => ∃ z ns, Sq z (dI ns) ∧ ds = [z] ∧ r = .int (Sh.comDiv ns)
theorem u_common_divisor {ss : SD} {t : TE} {E : XK} {z : PyData} {ns : List Int} (sq : Sq z (dI ns)) (h : EvD K t ss z) : EvD K (tCall (spD K f_common_divisor) [] E (tCons t tNil)) ss (.int (Sh.comDiv ns)) := ed_call (ea_cons h ea_nil) ⟨z, ns, sq, rfl, rfl⟩
theorem com_snoc (ns : List Int) (n : Int) : Sh.comDiv (ns ++ [n]) = ((Nat.gcd (Sh.comDiv ns).natAbs n.natAbs : Nat) : Int) := by
  unfold Sh.comDiv
  rw [List.foldl_append]
  rfl
abbrev s_common_divisor : Stmt := topL 9
theorem sc_common_divisor : FnScope ["numbers", "found", "number"] ["numbers"] (defScope s_common_divisor) := ⟨rfl, rfl, rfl, by decide +kernel, rfl, by decide +kernel, by decide +kernel⟩
theorem ok_common_divisor {f : Addr} {fd : FuncData} (F : Dfn K mg "common_divisor" s_common_divisor f fd ["numbers"]) (B : Bt mg) : Cal P w K mg base 1 "common_divisor" ["numbers"] (spD K f_common_divisor) := by
  refine calD F sc_common_divisor (fun ds r h => ?_) fun cdv A outer s H E hr => ⟨_, (pss_cons (ps_set (i := 1) sc_common_divisor.nd rfl (Or.inl rfl) pe_int)
     (pss_cons (ps_for PassesOwn.never rfl (pi_seq (pv 0)) (pg_name (i := 2) sc_common_divisor.nd rfl (Or.inl rfl))
     (pss_one (ps_set (i := 1) sc_common_divisor.nd rfl (Or.inl rfl) (pe_callBfun cr_gcd (by rfl) B.m_gcd (pa_cons (pv 1) (pa_cons (pv 2) pa_nil))))))
     (pss_one (ps_ret (pv 1))))), fun X ds r D hp hQ hN => ?_⟩
  · obtain ⟨z, ns, _, rfl, _⟩ := h
    rfl
  · obtain ⟨z, ns, sq, rfl, rfl⟩ := hp
    refine w_seq (w_asg ed_int (w_seq (w_for (xs := ns) (enc := PyData.int) (as := fun n => [(2, .int n)]) (fun i => [some z, some (.int (Sh.comDiv (ns.take i))), none]) (fun _ => none) (ei_seq sq (ed_var rfl)) (fun _ _ => tg_name) (fun _ _ _ => rfl) (LeD.refl _) rfl (fun i n hn G' D' h1 h2 => ?_) ?_)))
    · refine w_asg (ed_gcd (ed_var rfl) (ed_var rfl)) (w_end h2 ?_)
      rw [take_snoc hn, com_snoc]
      exact led_same (led_same (led_no led_nil))
    · refine w_ret (ed_is (ed_var rfl) ?_) hQ
      rw [List.take_of_length_le (Nat.le_refl _)]
def f_lowest : List PyData → PyData → Prop := fun ds r => ∃ z ns, Sq z (dI ns) ∧ ns.length ≤ 100 ∧ CDivW 0 (Sh.comDiv ns) ∧ ds = [z] ∧ r = .tuple (dI (Sh.lowL ns))
theorem u_lowest {ss : SD} {t : TE} {E : XK} {z : PyData} {ns : List Int} (sq : Sq z (dI ns)) (h : EvD K t ss z) (hl : ns.length ≤ 100) (hc : CDivW 0 (Sh.comDiv ns)) : EvD K (tCall (spD K f_lowest) [] E (tCons t tNil)) ss (.tuple (dI (Sh.lowL ns))) := ed_call (ea_cons h ea_nil) ⟨z, ns, sq, hl, hc, rfl, rfl⟩
abbrev s_lowest : Stmt := topL 10
theorem sc_lowest : FnScope ["numbers", "divisor", "number"] ["numbers"] (defScope s_lowest) := ⟨rfl, rfl, rfl, by decide +kernel, rfl, by decide +kernel, by decide +kernel⟩
theorem ok_lowest {f : Addr} {fd : FuncData} (F : Dfn K mg "lowest" s_lowest f fd ["numbers"]) (B : Bt mg) (c_common_divisor : Cal P w K mg base 1 "common_divisor" ["numbers"] (spD K f_common_divisor)) : Cal P w K mg base 2 "lowest" ["numbers"] (spD K f_lowest) := by
  refine calD F sc_lowest (fun ds r h => ?_) fun cdv A outer s H E hr => ⟨_, (pss_cons (ps_set (i := 1) sc_lowest.nd rfl (Or.inr rfl) (pe_c c_common_divisor hr (by decide) (by rfl) (pa_cons (pv 0) pa_nil)))
     (pss_one (ps_ret (pe_tupleOf (by rfl) B.m_tuple (pe_lc (own := [("number", 2)]) rfl sc_lowest.nd (pi_seq (pv 0)) (blkOk_by (N := ["numbers", "divisor", "number"]) (sc := defScope s_lowest) (by decide +kernel)) (fun _ _ _ _ _ => (pg_name (i := 2) sc_lowest.nd rfl (Or.inl rfl))) (fun _ _ _ _ _ => pts_nil) (fun _ _ _ _ _ => (pe_op op_fdivW (pv 2) (pv 1)))))))), fun X ds r D hp hQ hN => ?_⟩
  · obtain ⟨z, ns, _, _, _, rfl, _⟩ := h
    rfl
  · obtain ⟨z, ns, sq, hl, hc, rfl, rfl⟩ := hp
    refine w_seq (w_asg (u_common_divisor sq (ed_var rfl)) (w_ret (ed_is (ed_tuple (.inl rfl) (en_map (xs := ns) (enc := PyData.int) (as := fun n => [(2, .int n)]) (r := fun n => .int (n / Sh.comDiv ns)) (ei_seq sq (ed_var rfl)) (by omega) (fun _ _ => tg_name) (fun _ _ p hp => by simp at hp; simp [hp]) (fun n hn => ed_fdiv hc (ed_var rfl) (ed_var rfl))).dat) ?_) hQ))
    unfold Sh.lowL dI
    rw [List.map_map]
    rfl
def f_is_lowest : List PyData → PyData → Prop := fun ds r => ∃ z ns, Sq z (dI ns) ∧ ds = [z] ∧ r = .bool (decide (Sh.comDiv ns = 1))
theorem u_is_lowest {ss : SD} {t : TE} {E : XK} {z : PyData} {ns : List Int} (sq : Sq z (dI ns)) (h : EvD K t ss z) : EvD K (tCall (spD K f_is_lowest) [] E (tCons t tNil)) ss (.bool (decide (Sh.comDiv ns = 1))) := ed_call (ea_cons h ea_nil) ⟨z, ns, sq, rfl, rfl⟩
abbrev s_is_lowest : Stmt := topL 11
theorem sc_is_lowest : FnScope ["numbers"] ["numbers"] (defScope s_is_lowest) := ⟨rfl, rfl, rfl, by decide +kernel, rfl, by decide +kernel, by decide +kernel⟩
theorem ok_is_lowest {f : Addr} {fd : FuncData} (F : Dfn K mg "is_lowest" s_is_lowest f fd ["numbers"]) (B : Bt mg) (c_common_divisor : Cal P w K mg base 1 "common_divisor" ["numbers"] (spD K f_common_divisor)) : Cal P w K mg base 2 "is_lowest" ["numbers"] (spD K f_is_lowest) := by
  refine calD F sc_is_lowest (fun ds r h => ?_) fun cdv A outer s H E hr => ⟨_, (pss_one (ps_ret (pe_cmpR op_eq (pe_c c_common_divisor hr (by decide) (by rfl) (pa_cons (pv 0) pa_nil)) pe_int (nomark _)))), fun X ds r D hp hQ hN => ?_⟩
  · obtain ⟨z, ns, _, rfl, _⟩ := h
    rfl
  · obtain ⟨z, ns, sq, rfl, rfl⟩ := hp
    exact w_ret (ed_eqI (u_common_divisor sq (ed_var rfl)) ed_int) hQ
theorem kb_ii : kitB "int" "int" = some true := by decide +kernel
theorem kb_ib : kitB "int" "bool" = some false := by decide +kernel
theorem kb_tt : kitB "tuple" "tuple" = some true := by decide +kernel
/-! ### is_whole, are_wholes, is_vector, is_border -/
def f_is_whole : List PyData → PyData → Prop := fun ds r => ∃ n : Int, ds = [.int n] ∧ r = .bool true
theorem u_is_whole {ss : SD} {t : TE} {E : XK} {n : Int} (h : EvD K t ss (.int n)) : EvD K (tCall (spD K f_is_whole) [] E (tCons t tNil)) ss (.bool true) := ed_call (ea_cons h ea_nil) ⟨n, rfl, rfl⟩
abbrev s_is_whole : Stmt := topL 7
theorem sc_is_whole : FnScope ["value"] ["value"] (defScope s_is_whole) := ⟨rfl, rfl, rfl, by decide +kernel, rfl, by decide +kernel, by decide +kernel⟩
theorem ok_is_whole {f : Addr} {fd : FuncData} (F : Dfn K mg "is_whole" s_is_whole f fd ["value"]) (B : Bt mg) : Cal P w K mg base 1 "is_whole" ["value"] (spD K f_is_whole) := by
  refine calD F sc_is_whole (fun ds r h => ?_) fun cdv A outer s H E hr => ⟨_, (pss_one (ps_ret (pe_and (pe_callB call_isi (by rfl) B.m_isinstance PyProof.Rows.boot_isinstance (pa_cons (pv 0) (pa_cons (pe_bltn (v := .ty "int") (by rfl) B.m_int PySem.Pv.boot_int rfl) pa_nil))) (pe_one (pe_not (pe_callB call_isi (by rfl) B.m_isinstance PyProof.Rows.boot_isinstance (pa_cons (pv 0) (pa_cons (pe_bltn (v := .ty "bool") (by rfl) B.m_bool PySem.Pv.boot_bool rfl) pa_nil)))))))), fun X ds r D hp hQ hN => ?_⟩
  · obtain ⟨n, rfl, _⟩ := h
    rfl
  · obtain ⟨n, rfl, rfl⟩ := hp
    exact w_ret (ed_andV (ed_isi (d := .int n) kb_ii (ed_var rfl)) fun _ => ed_notV (ed_isi (d := .int n) kb_ib (ed_var rfl))) hQ
def f_are_wholes : List PyData → PyData → Prop := fun ds r => ∃ (ns : List Int) (m : Int), ns.length ≤ 1000 ∧ ds = [.tuple (dI ns), .int m] ∧ r = .bool (decide ((ns.length : Int) = m))
theorem u_are_wholes {ss : SD} {t u : TE} {E : XK} {ns : List Int} {m : Int} (h : EvD K t ss (.tuple (dI ns))) (h' : EvD K u ss (.int m)) (hl : ns.length ≤ 1000) : EvD K (tCall (spD K f_are_wholes) [] E (tCons t (tCons u tNil))) ss (.bool (decide ((ns.length : Int) = m))) := ed_call (ea_cons h (ea_cons h' ea_nil)) ⟨ns, m, hl, rfl, rfl⟩
abbrev s_are_wholes : Stmt := topL 8
theorem sc_are_wholes : FnScope ["value", "many", "number"] ["value", "many"] (defScope s_are_wholes) := ⟨rfl, rfl, rfl, by decide +kernel, rfl, by decide +kernel, by decide +kernel⟩
theorem ok_are_wholes {f : Addr} {fd : FuncData} (F : Dfn K mg "are_wholes" s_are_wholes f fd ["value", "many"]) (B : Bt mg) (c_is_whole : Cal P w K mg base 1 "is_whole" ["value"] (spD K f_is_whole)) : Cal P w K mg base 2 "are_wholes" ["value", "many"] (spD K f_are_wholes) := by
  refine calD F sc_are_wholes (fun ds r h => ?_) fun cdv A outer s H E hr => ⟨_, (pss_one (ps_ret (pe_and (pe_callB call_isi (by rfl) B.m_isinstance PyProof.Rows.boot_isinstance (pa_cons (pv 0) (pa_cons (pe_bltn (v := .ty "tuple") (by rfl) B.m_tuple PySem.Pv.boot_tuple rfl) pa_nil))) (pe_and (pe_cmpR op_eq (pe_callB call_len_seq (by rfl) B.m_len PySem.boot_len (pa_cons (pv 0) pa_nil)) (pv 1) (nomark _)) (pe_one (pe_callB (cr_all rfl) (by rfl) B.m_all PyProof.Rows.boot_all (pa_cons (pe_lc (own := [("number", 2)]) rfl sc_are_wholes.nd (pi_tup (pv 0)) (blkOk_by (N := ["value", "many", "number"]) (sc := defScope s_are_wholes) (by decide +kernel)) (fun _ _ _ _ _ => (pg_name (i := 2) sc_are_wholes.nd rfl (Or.inl rfl))) (fun _ _ _ _ _ => pts_nil) (fun _ _ _ _ _ => (pe_c c_is_whole hr (by decide) (by rfl) (pa_cons (pv 2) pa_nil)))) pa_nil))))))), fun X ds r D hp hQ hN => ?_⟩
  · obtain ⟨ns, m, _, rfl, _⟩ := h
    rfl
  · obtain ⟨ns, m, hl, rfl, rfl⟩ := hp
    refine w_ret (ed_is (ed_andV (ed_isi (d := .tuple (dI ns)) kb_tt (ed_var rfl)) fun _ => ed_andV (ed_eqI (ed_len (.inr rfl) (ed_var rfl)) (ed_var rfl)) fun _ =>
      ed_alls (xs := ns) (b := fun _ => true) (en_map (xs := ns) (enc := PyData.int) (as := fun n => [(2, .int n)]) (r := fun n => .bool true) (ei_tup (ed_var rfl)) (by omega) (fun _ _ => tg_name) (fun _ _ p hp => by simp at hp; simp [hp]) (fun n hn => u_is_whole (ed_var rfl))).dat) ?_) hQ
    simp
instance decPt (p : Sh.P3) : Decidable (Sh.isPt p) := by unfold Sh.isPt; exact inferInstance
def f_is_vector : List PyData → PyData → Prop := fun ds r => ∃ p : Int × Int × Int, ds = [dP3 p] ∧ r = .bool (decide (Sh.isPt p))
theorem u_is_vector {ss : SD} {t : TE} {E : XK} {p : Int × Int × Int} (h : EvD K t ss (dP3 p)) : EvD K (tCall (spD K f_is_vector) [] E (tCons t tNil)) ss (.bool (decide (Sh.isPt p))) := ed_call (ea_cons h ea_nil) ⟨p, rfl, rfl⟩
abbrev s_is_vector : Stmt := topL 13
theorem sc_is_vector : FnScope ["value"] ["value"] (defScope s_is_vector) := ⟨rfl, rfl, rfl, by decide +kernel, rfl, by decide +kernel, by decide +kernel⟩
theorem ok_is_vector {f : Addr} {fd : FuncData} (F : Dfn K mg "is_vector" s_is_vector f fd ["value"]) (B : Bt mg) (c_are_wholes : Cal P w K mg base 2 "are_wholes" ["value", "many"] (spD K f_are_wholes)) (c_is_lowest : Cal P w K mg base 2 "is_lowest" ["numbers"] (spD K f_is_lowest)) : Cal P w K mg base 3 "is_vector" ["value"] (spD K f_is_vector) := by
  refine calD F sc_is_vector (fun ds r h => ?_) fun cdv A outer s H E hr => ⟨_, (pss_one (ps_ret (pe_and (pe_c c_are_wholes hr (by decide) (by rfl) (pa_cons (pv 0) (pa_cons pe_int pa_nil))) (pe_and (pe_cmpR op_gt (pe_ix ix_tup (pv 0) pe_int (fun _ _ => rfl)) pe_int (nomark _)) (pe_one (pe_c c_is_lowest hr (by decide) (by rfl) (pa_cons (pv 0) pa_nil))))))), fun X ds r D hp hQ hN => ?_⟩
  · obtain ⟨p, rfl, _⟩ := h
    rfl
  · obtain ⟨p, rfl, rfl⟩ := hp
    refine w_ret (ed_is (ed_andV (u_are_wholes (ns := [p.1, p.2.1, p.2.2]) (ed_var rfl) ed_int (by show 3 ≤ 1000; decide)) fun _ => ed_andV (ed_gt (ed_ixT rfl (ed_var rfl) ed_int) ed_int) fun _ => u_is_lowest (ns := [p.1, p.2.1, p.2.2]) (.inr rfl) (ed_var rfl)) ?_) hQ
    refine congrArg PyData.bool (Bool.eq_iff_iff.mpr ?_)
    rw [decide_eq_true_iff]
    simp [Sh.isPt, Sh.g3]
def f_is_border : List PyData → PyData → Prop := fun ds r => ∃ p : Int × Int × Int, ds = [dP3 p] ∧ r = .bool (!(decide (p.1 = 0) && decide (p.2.1 = 0)) && decide (Sh.g3 p = 1))
theorem u_is_border {ss : SD} {t : TE} {E : XK} {p : Int × Int × Int} (h : EvD K t ss (dP3 p)) : EvD K (tCall (spD K f_is_border) [] E (tCons t tNil)) ss (.bool (!(decide (p.1 = 0) && decide (p.2.1 = 0)) && decide (Sh.g3 p = 1))) := ed_call (ea_cons h ea_nil) ⟨p, rfl, rfl⟩
abbrev s_is_border : Stmt := topL 15
theorem sc_is_border : FnScope ["value"] ["value"] (defScope s_is_border) := ⟨rfl, rfl, rfl, by decide +kernel, rfl, by decide +kernel, by decide +kernel⟩
theorem ok_is_border {f : Addr} {fd : FuncData} (F : Dfn K mg "is_border" s_is_border f fd ["value"]) (B : Bt mg) (c_are_wholes : Cal P w K mg base 2 "are_wholes" ["value", "many"] (spD K f_are_wholes)) (c_is_lowest : Cal P w K mg base 2 "is_lowest" ["numbers"] (spD K f_is_lowest)) : Cal P w K mg base 3 "is_border" ["value"] (spD K f_is_border) := by
  refine calD F sc_is_border (fun ds r h => ?_) fun cdv A outer s H E hr => ⟨_, (pss_one (ps_ret (pe_and (pe_c c_are_wholes hr (by decide) (by rfl) (pa_cons (pv 0) (pa_cons pe_int pa_nil))) (pe_and (pe_not (pe_and (pe_cmpR op_eq (pe_ix ix_tup (pv 0) pe_int (fun _ _ => rfl)) pe_int (nomark _)) (pe_one (pe_cmpR op_eq (pe_ix ix_tup (pv 0) pe_int (fun _ _ => rfl)) pe_int (nomark _))))) (pe_one (pe_c c_is_lowest hr (by decide) (by rfl) (pa_cons (pv 0) pa_nil))))))), fun X ds r D hp hQ hN => ?_⟩
  · obtain ⟨p, rfl, _⟩ := h
    rfl
  · obtain ⟨p, rfl, rfl⟩ := hp
    refine w_ret (ed_is (ed_andV (u_are_wholes (ns := [p.1, p.2.1, p.2.2]) (ed_var rfl) ed_int (by show 3 ≤ 1000; decide)) fun _ => ed_andV (ed_notV (ed_andV (ed_eqI (ed_ixT rfl (ed_var rfl) ed_int) ed_int) fun _ => ed_eqI (ed_ixT rfl (ed_var rfl) ed_int) ed_int)) fun _ => u_is_lowest (ns := [p.1, p.2.1, p.2.2]) (.inr rfl) (ed_var rfl)) ?_) hQ
    unfold Sh.g3
    simp
end
end Wk
end
section
set_option Elab.async false
set_option linter.all false
set_option maxRecDepth 100000
namespace Wk
open PySem PySem.Spec PyProof.Rows L2 Evl

/-! ### chain -/
/-- is the top of the stack taken off? -/
def popQ : List (Int × Int) → Int × Int → Bool
  | t :: t' :: _, z => !decide (0 < Sh.orient t' t z)
  | _, _ => false
theorem pops_of {st : List (Int × Int)} {z : Int × Int} (h : popQ st z = false) : Sh.pops st z = st := by
  match st with
  | [] => rfl
  | [t] => rfl
  | t :: t' :: r =>
    unfold popQ at h
    unfold Sh.pops
    rw [if_pos (by simpa using h)]
theorem pops_tl {st : List (Int × Int)} {z : Int × Int} (h : popQ st z = true) : ∃ t r, st = t :: r ∧ r ≠ [] ∧ Sh.pops st z = Sh.pops r z := by
  match st with
  | [] => cases h
  | [t] => cases h
  | t :: t' :: r =>
    refine ⟨t, t' :: r, rfl, by simp, ?_⟩
    unfold popQ at h
    rw [Sh.pops.eq_1, if_neg (by simpa using h)]
theorem at_end2 {α : Type} (xs : List α) (u v : α) : atI (xs ++ [u, v]) (-2) = some u ∧ atI (xs ++ [u, v]) (-1) = some v := by
  have e2 : ixN (xs ++ [u, v]).length (-2) = some xs.length := by
    unfold ixN
    rw [if_neg (by decide), if_pos (by simp; omega)]
    congr 1
    simp
    omega
  have e1 : ixN (xs ++ [u, v]).length (-1) = some (xs.length + 1) := by
    unfold ixN
    rw [if_neg (by decide), if_pos (by simp; omega)]
    congr 1
    simp
    omega
  unfold atI
  rw [e1, e2]
  constructor
  · show (xs ++ [u, v])[xs.length]? = some u
    simp
  · show (xs ++ [u, v])[xs.length + 1]? = some v
    rw [List.getElem?_append_right (by omega)]
    simp
theorem chainR_snoc (S : List (Int × Int)) (z : Int × Int) : Sh.chainR (S ++ [z]) = z :: Sh.pops (Sh.chainR S) z := by
  unfold Sh.chainR
  rw [List.foldl_append]
  rfl
theorem chainR_mem {z : Int × Int} : ∀ (S : List (Int × Int)) (st : List (Int × Int)), z ∈ S.foldl Sh.push st → z ∈ st ∨ z ∈ S
  | [], st, h => .inl h
  | x :: S, st, h => by
    rcases chainR_mem S (Sh.push st x) h with y | y
    · rcases List.mem_cons.mp y with e | y
      · exact .inr (e ▸ List.mem_cons_self)
      · exact .inl (Sh.pops_mem st y)
    · exact .inr (List.mem_cons_of_mem _ y)
theorem pops_len {z : Int × Int} : ∀ (st : List (Int × Int)), (Sh.pops st z).length ≤ st.length
  | [] => Nat.le_refl _
  | [t] => Nat.le_refl _
  | t :: t' :: r => by
    rw [Sh.pops.eq_1]
    split
    · exact Nat.le_refl _
    · exact Nat.le_succ_of_le (pops_len (t' :: r))
theorem chainR_len : ∀ (S : List (Int × Int)) (st : List (Int × Int)), (S.foldl Sh.push st).length ≤ st.length + S.length
  | [], st => Nat.le_refl _
  | x :: S, st => by
    have h1 := chainR_len S (Sh.push st x)
    have h2 := pops_len (z := x) st
    have h3 : (Sh.push st x).length = (Sh.pops st x).length + 1 := rfl
    show (S.foldl Sh.push (Sh.push st x)).length ≤ st.length + (S.length + 1)
    omega
abbrev dL2 (S : List (Int × Int)) : PyData := .list (S.map dP2)
theorem dropLast_rev {α : Type} (t : α) (r : List α) : (t :: r).reverse.dropLast = r.reverse := by simp
section
variable {K : PySem.W.Frag} {X : List Addr} {H0 G : Hp} {D : Ends}
/-- the chain's body, by what its test tells -/
theorem w_chain {tt : TT} (S : List (Int × Int)) (hn : S.length ≤ 1000) (hT : ∀ (st : List (Int × Int)) (z : Int × Int), (∀ y ∈ st, y ∈ S) → z ∈ S → EvB K tt [some (dL2 S), some (dL2 st.reverse), some (dP2 z)] (popQ st z))
    (hQ : ∀ v H', Ex H0 H' → Dq K (Hd X H') v (dL2 (Sh.chain S)) → D.rt v H') :
    Wp K X H0 G (tSeq (tAsg (tLst tNil) (gName 1)) (tSeq (tFor (iList K (tVar 0)) (gName 2) (tSeq (tWhile tt (tDrop (tBM0 K "list" rPop (tVar 1)))) (tDrop (tBM K "list" rAppend (tVar 1) (tCons (tVar 2) tNil))))) (tRet (tVar 1))) D) [some (dL2 S), none, none] none := by
  refine w_seq (w_new (en_lst ea_nil) (by show 1 < 3; decide) (w_seq (w_for (xs := S) (enc := dP2) (as := fun z => [(2, dP2 z)]) (fun _ => [some (dL2 S), none, none]) (fun i => some (1, (Sh.chainR (S.take i)).reverse.map dP2)) (ei_list (ed_var rfl)) (fun _ _ => tg_name) (fun _ _ _ => rfl) (LeD.refl _) rfl (fun i z hz G' D' h1 h2 => ?_) ?_)))
  · have hzS : z ∈ S := List.mem_of_getElem? hz
    have mem0 : ∀ y ∈ Sh.chainR (S.take i), y ∈ S := fun y hy => by
      rcases chainR_mem (S.take i) [] hy with q | q
      · cases q
      · exact List.mem_of_mem_take q
    have len0 : (Sh.chainR (S.take i)).length ≤ 1000 := by
      have := chainR_len (S.take i) []
      rw [List.length_take] at this
      have e : ([] : List (Int × Int)).length = 0 := rfl
      show ((S.take i).foldl Sh.push []).length ≤ 1000
      omega
    refine w_seq (w_while (fun m ss mu => ∃ st : List (Int × Int), m = st.length ∧ ss = [some (dL2 S), none, some (dP2 z)] ∧ mu = some (1, st.reverse.map dP2) ∧ (∀ y ∈ st, y ∈ S) ∧ st.length ≤ 1000 ∧ Sh.pops st z = Sh.pops (Sh.chainR (S.take i)) z) _ ⟨Sh.chainR (S.take i), rfl, rfl, rfl, mem0, len0, rfl⟩ (fun m ss mu hw => ?_))
    obtain ⟨st, rfl, rfl, rfl, hs, hl, hp⟩ := hw
    refine ⟨popQ st z, hT st z hs hzS, fun hb D2 k1 k2 => ?_, fun hb => ?_⟩
    · obtain ⟨t, r, rfl, hr, hpr⟩ := pops_tl hb
      refine w_pop (by simp) ?_
      rw [k2]
      refine fun σ H rep => ⟨_, _, _, ?_, ⟨r, rfl, rfl, ?_, fun y hy => hs y (List.mem_cons_of_mem _ hy), Nat.le_of_succ_le hl, hpr.symm.trans hp⟩, rep⟩
      · simp
      · rw [← List.map_dropLast, dropLast_rev]
    · refine w_app (ed_var rfl) (by simp; omega) (w_end (h2.trans ?_) (led_same (led_no (led_no led_nil))))
      rw [take_snoc hz, chainR_snoc, ← hp, pops_of hb]
      simp
  · refine w_ret (ed_is (ed_var rfl) ?_) hQ
    rw [List.take_of_length_le (Nat.le_refl _)]
    rfl
end
section
variable {P : Program} {w : World} {K : PySem.W.Frag} {mg : Str → Option Value} {base : Heap}
def Bg2 (S : List (Int × Int)) : Prop := ∀ z ∈ S, Bg z.1 ∧ Bg z.2
def f_chain : List PyData → PyData → Prop := fun ds r => ∃ S : List (Int × Int), Bg2 S ∧ S.length ≤ 1000 ∧ ds = [dL2 S] ∧ r = dL2 (Sh.chain S)
theorem u_chain {ss : SD} {t : TE} {E : XK} {S : List (Int × Int)} (h : EvD K t ss (dL2 S)) (hb : Bg2 S) (hl : S.length ≤ 1000) : EvD K (tCall (spD K f_chain) [] E (tCons t tNil)) ss (dL2 (Sh.chain S)) := ed_call (ea_cons h ea_nil) ⟨S, hb, hl, rfl, rfl⟩
abbrev s_chain : Stmt := topL 17
theorem sc_chain : FnScope ["rows", "found", "row"] ["rows"] (defScope s_chain) := ⟨rfl, rfl, rfl, by decide +kernel, rfl, by decide +kernel, by decide +kernel⟩
theorem ok_chain {f : Addr} {fd : FuncData} (F : Dfn K mg "chain" s_chain f fd ["rows"]) (B : Bt mg) (c_is_left : Cal P w K mg base 1 "is_left" ["one", "two", "three"] (spD K f_is_left)) : Cal P w K mg base 2 "chain" ["rows"] (spD K f_chain) := by
  refine calD F sc_chain (fun ds r h => ?_) fun cdv A outer s H E hr => ⟨_, (pss_cons (ps_set (i := 1) sc_chain.nd rfl (Or.inl rfl) (pe_lst pa_nil))
     (pss_cons (ps_for PassesOwn.never rfl (pi_list (pv 0)) (pg_name (i := 2) sc_chain.nd rfl (Or.inl rfl))
     (pss_cons (ps_while PassesOwn.never ((pw_and (pt_cmpR op_gt (pe_callB call_len_seq (by rfl) B.m_len PySem.boot_len (pa_cons (pv 1) pa_nil)) pe_int (nomark _)) (pw_and1 (pt_not (pt_val (pe_c c_is_left hr (by decide) (by rfl) (pa_cons (pe_ix ix_list (pv 1) (pe_un un_neg pe_int) (fun _ _ => rfl)) (pa_cons (pe_ix ix_list (pv 1) (pe_un un_neg pe_int) (fun _ _ => rfl)) (pa_cons (pv 2) pa_nil))))))))).pt
     (pss_one (ps_expr (pe_bm0 PySem.F.plainAttrs_list PySem.F.slot_list_pop PySem.F.type_list_pop mt_pop (pv 1)))))
     (pss_one (ps_expr (pe_bm PySem.F.plainAttrs_list PySem.F.slot_list_append PySem.F.type_list_append mt_append (pv 1) (pa_cons (pv 2) pa_nil))))))
     (pss_one (ps_ret (pv 1))))), fun X ds r D hp hQ hN => ?_⟩
  · obtain ⟨S, _, _, rfl, _⟩ := h
    rfl
  · obtain ⟨S, hb, hl, rfl, rfl⟩ := hp
    refine w_chain S hl (fun st z hs hz => ?_) hQ
    match st with
    | [] => exact eb_is (eb_and (eb_test (ed_gt (ed_len (.inl rfl) (ed_var rfl)) ed_int)) (b := true) (fun q => by simp at q)) rfl
    | [t] => exact eb_is (eb_and (eb_test (ed_gt (ed_len (.inl rfl) (ed_var rfl)) ed_int)) (b := true) (fun q => by simp at q)) rfl
    | t :: t' :: r =>
      have e := at_end2 (r.reverse.map dP2) (dP2 t') (dP2 t)
      have e2 : (t :: t' :: r).reverse.map dP2 = r.reverse.map dP2 ++ [dP2 t', dP2 t] := by simp
      refine eb_is (eb_and (eb_test (ed_gt (ed_len (.inl rfl) (ed_var rfl)) ed_int)) fun q => eb_not (eb_B (u_is_left (ed_ixL (by rw [e2]; exact e.1) (ed_var rfl) (ed_neg ed_int)) (ed_ixL (by rw [e2]; exact e.2) (ed_var rfl) (ed_neg ed_int)) (ed_var rfl) (hb _ (hs _ (by simp))) (hb _ (hs _ (by simp))) (hb _ hz)))) ?_
      unfold popQ
      simp
      omega
end
end Wk
end
section
set_option Elab.async false
set_option linter.all false
set_option maxRecDepth 100000
namespace Wk
open PySem PySem.Spec PyProof.Rows L2 Evl

/-! ### the common denominator stays small -/
def fac : Nat → Nat
  | 0 => 1
  | n + 1 => (n + 1) * fac n
theorem dvd_fac : ∀ (n k : Nat), 0 < k → k ≤ n → k ∣ fac n
  | 0, k, h, h' => by omega
  | n + 1, k, h, h' => by
    by_cases e : k = n + 1
    · subst e
      exact Nat.dvd_mul_right _ _
    · exact Nat.dvd_trans (dvd_fac n k h (by omega)) (Nat.dvd_mul_left _ _)
theorem fac_lt : fac 432 < 2 ^ 5000 := by decide +kernel
theorem fac_pos : 0 < fac 432 := by decide +kernel
def Den (p : Int × Int × Int) : Prop := 0 < p.2.2 ∧ p.2.2 ≤ 432
theorem und_dvd : ∀ (pts : List (Int × Int × Int)) (u : Int), (∀ p ∈ pts, Den p) → u.natAbs ∣ fac 432 → (pts.foldl (fun u p => ((Nat.lcm u.natAbs p.2.2.natAbs : Nat) : Int)) u).natAbs ∣ fac 432
  | [], u, _, h => h
  | p :: pts, u, hp, h => by
    refine und_dvd pts _ (fun q hq => hp q (List.mem_cons_of_mem _ hq)) ?_
    rw [Int.natAbs_natCast]
    obtain ⟨h1, h2⟩ := hp p List.mem_cons_self
    exact Nat.lcm_dvd h (dvd_fac 432 _ (by omega) (by omega))
theorem und_bz {pts : List (Int × Int × Int)} (hp : ∀ p ∈ pts, Den p) : Bz 5000 (Sh.und pts) := by
  have h := und_dvd pts 1 hp (Nat.one_dvd _)
  exact Nat.lt_of_le_of_lt (Nat.le_of_dvd fac_pos h) fac_lt
theorem und_snoc (pts : List (Int × Int × Int)) (p : Int × Int × Int) : Sh.und (pts ++ [p]) = ((Nat.lcm (Sh.und pts).natAbs p.2.2.natAbs : Nat) : Int) := by
  unfold Sh.und
  rw [List.foldl_append]
  rfl
theorem bz_lt {n m : Nat} {a : Int} (h : Bz n a) (l : n ≤ m) : a.natAbs < 2 ^ m := bz_le h l
theorem bz_div {n : Nat} {a b : Int} (ha : Bz n a) (h0 : 0 ≤ a) (hb : 0 < b) : Bz n (a / b) := by
  have h1 : a / b ≤ a := Int.ediv_le_self _ h0
  have h2 : 0 ≤ a / b := Int.ediv_nonneg h0 (Int.le_of_lt hb)
  exact Nat.lt_of_le_of_lt (by omega) ha
theorem com_dvd (ns : List Int) : ∀ n ∈ ns, Sh.comDiv ns ∣ n := by
  have key : ∀ (ms : List Int) (f : Int), (ms.foldl (fun f n => ((Nat.gcd f.natAbs n.natAbs : Nat) : Int)) f ∣ f) ∧ ∀ n ∈ ms, ms.foldl (fun f n => ((Nat.gcd f.natAbs n.natAbs : Nat) : Int)) f ∣ n := by
    intro ms
    induction ms with
    | nil => exact fun f => ⟨Int.dvd_refl _, fun n h => by cases h⟩
    | cons m ms ih =>
      intro f
      obtain ⟨a, b⟩ := ih ((Nat.gcd f.natAbs m.natAbs : Nat) : Int)
      have d1 : ((Nat.gcd f.natAbs m.natAbs : Nat) : Int) ∣ f := Int.natAbs_dvd_natAbs.mp (by rw [Int.natAbs_natCast]; exact Nat.gcd_dvd_left _ _)
      have d2 : ((Nat.gcd f.natAbs m.natAbs : Nat) : Int) ∣ m := Int.natAbs_dvd_natAbs.mp (by rw [Int.natAbs_natCast]; exact Nat.gcd_dvd_right _ _)
      refine ⟨Int.dvd_trans a d1, fun n h => ?_⟩
      rcases List.mem_cons.mp h with e | h2
      · rw [e]; exact Int.dvd_trans a d2
      · exact b n h2
  exact (key ns 0).2
/-- a list with a number above 0 below 2 ^ 8000 in it may be lowered -/
theorem com_ok {ns : List Int} {n : Int} (h : n ∈ ns) (h0 : 0 < n) (hb : Bz 8000 n) : CDivW 0 (Sh.comDiv ns) := by
  have nn : 0 ≤ Sh.comDiv ns := by
    have key : ∀ (ms : List Int) (f : Int), 0 ≤ f → 0 ≤ ms.foldl (fun f n => ((Nat.gcd f.natAbs n.natAbs : Nat) : Int)) f := by
      intro ms
      induction ms with
      | nil => exact fun f h => h
      | cons m ms ih => exact fun f h => ih _ (Int.natCast_nonneg _)
    exact key ns 0 (Int.le_refl 0)
  obtain ⟨k, e⟩ := com_dvd ns n h
  have pos : 0 < Sh.comDiv ns := by
    rcases Int.lt_or_eq_of_le nn with q | q
    · exact q
    · rw [← q, Int.zero_mul] at e
      omega
  have le : Sh.comDiv ns ≤ n := Int.le_of_dvd h0 ⟨k, e⟩
  refine wide_div pos (b := 8000) ?_ (by decide) (by decide)
  exact Nat.lt_of_le_of_lt (by omega) hb
theorem low_red (x y u : Int) : dI (Sh.lowL [x, y, u]) = [.int (Sh.red (x, y, u)).1, .int (Sh.red (x, y, u)).2.1, .int (Sh.red (x, y, u)).2.2] := rfl

/-! ### data alike -/
abbrev dL3 (L : List (Int × Int × Int)) : PyData := .list (L.map dP3)
abbrev dT3 (L : List (Int × Int × Int)) : PyData := .tuple (L.map dP3)
theorem p3_lay : ∀ L : List (Int × Int × Int), PyData.canLayAll0 (L.map dP3) = true
  | [] => by simp [PyData.canLayAll0]
  | z :: zs => by simp [PyData.canLayAll0, PyData.canLay0, p3_lay zs]
theorem p3_depth : ∀ L : List (Int × Int × Int), PyData.depthAll (L.map dP3) ≤ 2
  | [] => by simp [PyData.depthAll]
  | z :: zs => by
    have h := p3_depth zs
    simp only [List.map_cons, PyData.depthAll, PyData.depth]
    omega
theorem p3_shT (L : List (Int × Int × Int)) : SeqAt.shaped (dT3 L) = true := by
  have h1 := p3_depth L
  unfold SeqAt.shaped
  rw [Bool.and_eq_true]
  refine ⟨by simp only [PyData.canLay0]; exact p3_lay L, decide_eq_true ?_⟩
  simp only [PyData.depth]
  omega
theorem p3_shL (L : List (Int × Int × Int)) : SeqAt.shaped (dL3 L) = true := by
  have h1 := p3_depth L
  unfold SeqAt.shaped
  rw [Bool.and_eq_true]
  refine ⟨by simp only [PyData.canLay0]; exact p3_lay L, decide_eq_true ?_⟩
  simp only [PyData.depth]
  omega
theorem nil_shT : SeqAt.shaped (.tuple []) = true := by decide +kernel
theorem nil_shL : SeqAt.shaped (.list []) = true := by decide +kernel
theorem eqvA_refl : ∀ L : List (Int × Int × Int), PyData.eqvAll (L.map dP3) (L.map dP3) = true
  | [] => by simp [PyData.eqvAll]
  | z :: zs => by simp [PyData.eqvAll, PyData.eqv, eqvA_refl zs]
theorem eqvT_refl (L : List (Int × Int × Int)) : PyData.eqv (dT3 L) (dT3 L) = true := by
  simp only [PyData.eqv]
  exact eqvA_refl L
theorem eqvT_nil {L : List PyData} : PyData.eqv (.tuple L) (.tuple []) = L.isEmpty := by
  cases L <;> simp [PyData.eqv, PyData.eqvAll]
theorem eqvL_nil {L : List PyData} : PyData.eqv (.list L) (.list []) = L.isEmpty := by
  cases L <;> simp [PyData.eqv, PyData.eqvAll]
section
variable {P : Program} {w : World} {K : PySem.W.Frag} {mg : Str → Option Value} {base : Heap}
/-! ### hull -/
def Bp (p : Int × Int × Int) : Prop := Den p ∧ Bz 20 p.1 ∧ Bz 20 p.2.1
def f_hull : List PyData → PyData → Prop := fun ds r => ∃ pts : List (Int × Int × Int), pts ≠ [] ∧ pts.length < 63 ∧ (∀ p ∈ pts, Bp p) ∧ ds = [dL3 pts] ∧ r = dT3 (Sh.hull3 pts)
theorem u_hull {ss : SD} {t : TE} {E : XK} {pts : List (Int × Int × Int)} (h : EvD K t ss (dL3 pts)) (hne : pts ≠ []) (hl : pts.length < 63) (hp : ∀ p ∈ pts, Bp p) : EvD K (tCall (spD K f_hull) [] E (tCons t tNil)) ss (dT3 (Sh.hull3 pts)) := ed_call (ea_cons h ea_nil) ⟨pts, hne, hl, hp, rfl, rfl⟩
theorem sortD_len (l : List (Int × Int)) : (Sh.sortD l).length ≤ l.length := by
  refine Sh.nodup_len _ _ ((Sh.sortD_asc l).imp fun {a b} h e => ?_) fun x hx => (Sh.mem_sortD l).mp hx
  subst e
  unfold Sh.lt2 at h
  omega
abbrev s_hull : Stmt := topL 19
theorem sc_hull : FnScope ["points", "under", "point", "rows", "found", "x", "y", "w"] ["points"] (defScope s_hull) := ⟨rfl, rfl, rfl, by decide +kernel, rfl, by decide +kernel, by decide +kernel⟩
theorem ok_hull {f : Addr} {fd : FuncData} (F : Dfn K mg "hull" s_hull f fd ["points"]) (B : Bt mg) (c_lowest : Cal P w K mg base 2 "lowest" ["numbers"] (spD K f_lowest)) (c_chain : Cal P w K mg base 2 "chain" ["rows"] (spD K f_chain)) : Cal P w K mg base 3 "hull" ["points"] (spD K f_hull) := by
  refine calD F sc_hull (fun ds r h => ?_) fun cdv A outer s H E hr => ⟨_, (pss_cons (ps_set (i := 1) sc_hull.nd rfl (Or.inr rfl) pe_int)
     (pss_cons (ps_for PassesOwn.never rfl (pi_list (pv 0)) (pg_name (i := 2) sc_hull.nd rfl (Or.inl rfl) (Or.inl rfl))
     (pss_one (ps_set (i := 1) sc_hull.nd rfl (Or.inr rfl) (pe_callBfun cr_lcm (by rfl) B.m_lcm (pa_cons (pv 1) (pa_cons (pe_ix ix_tup (pv 2) pe_int (fun _ _ => rfl)) pa_nil))))))
     (pss_cons (ps_set (i := 3) sc_hull.nd rfl (Or.inl rfl) (pe_srt (by rfl) B.m_sorted rfl (pe_sc hr.units (g := gTup K 3 (gCons (gName 5) (gCons (gName 6) (gCons (gName 7) gNil)))) (own := [("x", 5), ("y", 6), ("w", 7)]) rfl sc_hull.nd (pi_list (pv 0)) (blkOk_by (N := ["points", "under", "point", "rows", "found", "x", "y", "w"]) (sc := defScope s_hull) (by decide +kernel)) (fun _ _ _ _ _ => (pg_tup rfl (pgs_cons (pg_name (i := 5) sc_hull.nd rfl (Or.inl rfl) (Or.inr rfl)) (pgs_cons (pg_name (i := 6) sc_hull.nd rfl (Or.inl rfl) (Or.inr rfl)) (pgs_cons (pg_name (i := 7) sc_hull.nd rfl (Or.inl rfl) (Or.inr rfl)) pgs_nil))))) (fun _ _ _ _ _ => pts_nil) (fun _ _ _ _ _ => (pe_tup (pa_cons (pe_op op_mulW (pv 5) (pe_op op_fdivW (pv 1) (pv 7))) (pa_cons (pe_op op_mulW (pv 6) (pe_op op_fdivW (pv 1) (pv 7))) pa_nil)))))))
     (pss_cons (ps_set (i := 4) sc_hull.nd rfl (Or.inl rfl) (pe_ifExp (pt_cmpR op_eq (pe_callB call_len_seq (by rfl) B.m_len PySem.boot_len (pa_cons (pv 3) pa_nil)) pe_int (nomark _)) (pv 3) (pe_op op_cat (pe_slice sl_list (pe_c c_chain hr (by decide) (by rfl) (pa_cons (pv 3) pa_nil)) po_none (po_some (pe_un un_neg pe_int))) (pe_slice sl_list (pe_c c_chain hr (by decide) (by rfl) (pa_cons (pe_revL (pv 3)) pa_nil)) po_none (po_some (pe_un un_neg pe_int))))))
     (pss_one (ps_ret (pe_tupleOf (by rfl) B.m_tuple (pe_lc (g := gTup K 2 (gCons (gName 5) (gCons (gName 6) gNil))) (own := [("x", 5), ("y", 6)]) rfl sc_hull.nd (pi_list (pv 4)) (blkOk_by (N := ["points", "under", "point", "rows", "found", "x", "y", "w"]) (sc := defScope s_hull) (by decide +kernel)) (fun _ _ _ _ _ => (pg_tup rfl (pgs_cons (pg_name (i := 5) sc_hull.nd rfl (Or.inl rfl) (Or.inr rfl)) (pgs_cons (pg_name (i := 6) sc_hull.nd rfl (Or.inl rfl) (Or.inr rfl)) pgs_nil)))) (fun _ _ _ _ _ => pts_nil) (fun _ _ _ _ _ => (pe_c c_lowest hr (by decide) (by rfl) (pa_cons (pe_tup (pa_cons (pv 5) (pa_cons (pv 6) (pa_cons (pv 1) pa_nil)))) pa_nil))))))))))), fun X ds r D hp hQ hN => ?_⟩
  · obtain ⟨pts, _, _, _, rfl, _⟩ := h
    rfl
  · obtain ⟨pts, hne, hl, hb, rfl, rfl⟩ := hp
    have uB : ∀ i, Bz 5000 (Sh.und (pts.take i)) := fun i => und_bz fun p hp => (hb p (List.mem_of_mem_take hp)).1
    have uB0 : Bz 5000 (Sh.und pts) := und_bz fun p hp => (hb p hp).1
    have u0 : 0 < Sh.und pts := (Sh.und_ok fun p hp => (hb p hp).1.1).1
    have rowB : Bg2 (Sh.sortD (pts.map (Sh.sc (Sh.und pts)))) := fun z hz => by
      obtain ⟨p, hp, rfl⟩ := List.mem_map.mp ((Sh.mem_sortD _).mp hz)
      obtain ⟨⟨h1, h2⟩, h3, h4⟩ := hb p hp
      have q : Bz 5000 (Sh.und pts / p.2.2) := bz_div uB0 (Int.le_of_lt u0) h1
      exact ⟨bz_le (bz_mul h3 q) (by decide), bz_le (bz_mul h4 q) (by decide)⟩
    have rowL : (Sh.sortD (pts.map (Sh.sc (Sh.und pts)))).length < 63 := by
      have := sortD_len (pts.map (Sh.sc (Sh.und pts)))
      rw [List.length_map] at this
      omega
    refine w_seq (w_asg ed_int (w_seq (w_for (xs := pts) (enc := dP3) (as := fun p => [(2, dP3 p)]) (fun i => [some (dL3 pts), some (.int (Sh.und (pts.take i))), none, none, none, none, none, none]) (fun _ => none) (ei_list (ed_var rfl)) (fun _ _ => tg_name) (fun _ _ _ => rfl) (LeD.refl _) rfl (fun i p hp G' D' h1 h2 => ?_) ?_)))
    · have hpm := List.mem_of_getElem? hp
      refine w_asg (ed_lcm (bz_lt (uB i) (by decide)) (bz_lt (n := 20) (bg_of ⟨?_, ?_⟩) (by decide)) (ed_var rfl) (ed_ixT rfl (ed_var rfl) ed_int)) (w_end h2 ?_)
      · have := (hb p hpm).1.1; omega
      · have := (hb p hpm).1.2; omega
      · rw [take_snoc hp, und_snoc]
        exact led_same (led_same (led_no (led_same (led_same (led_same (led_same (led_same led_nil)))))))
    · rw [List.take_of_length_le (Nat.le_refl _)]
      refine w_seq (w_asg (en_srt (es_sc (xs := pts) (enc := dP3) (as := fun p => [(5, .int p.1), (6, .int p.2.1), (7, .int p.2.2)]) (f := fun _ => true) (r := Sh.sc (Sh.und pts)) (ei_list (ed_var rfl)) hl (fun _ _ => tg_tup (tgs_cons tg_name (tgs_cons tg_name (tgs_cons tg_name tgs_nil)))) (fun _ _ p hp => ?_) (fun _ _ => eb_yes) (fun p hp _ => ?_))).dat ?_)
      · simp at hp
        rcases hp with rfl | rfl | rfl <;> simp
      · obtain ⟨⟨h1, h2⟩, h3, h4⟩ := hb p hp
        have q : Bz 5000 (Sh.und pts / p.2.2) := bz_div uB0 (Int.le_of_lt u0) h1
        have cd : CDivW (Sh.und pts) p.2.2 := wide_div h1 (b := 20) (bg_of ⟨by omega, by omega⟩) (by decide) (by decide)
        exact ed_tup (ea_cons (ed_mul (cmw h3 q) (ed_var rfl) (ed_fdiv cd (ed_var rfl) (ed_var rfl))) (ea_cons (ed_mul (cmw h4 q) (ed_var rfl) (ed_fdiv cd (ed_var rfl) (ed_var rfl))) ea_nil)) (by show 2 ≤ 100000; decide)
      · have ef : pts.filter (fun _ => true) = pts := List.filter_eq_self.mpr fun _ _ => rfl
        rw [ef]
        generalize hR : Sh.sortD (pts.map (Sh.sc (Sh.und pts))) = R at rowB rowL
        have chL : ∀ S : List (Int × Int), (Sh.chain S).length ≤ S.length := fun S => by
          have := chainR_len S []
          unfold Sh.chain
          rw [List.length_reverse]
          have e0 : ([] : List (Int × Int)).length = 0 := rfl
          show (S.foldl Sh.push []).length ≤ S.length
          omega
        refine w_seq (w_asg (d := dL2 (Sh.hullZ R)) (ed_if (eb_test (ed_eqI (ed_len (.inl rfl) (ed_var rfl)) ed_int)) (fun h => ?_) (fun h => ?_)) ?_)
        · have e : R.length = 1 := by simp at h; omega
          unfold Sh.hullZ
          rw [if_pos e]
          exact ed_var rfl
        · have e : ¬ R.length = 1 := by simp at h; omega
          refine ed_is (en_cat (en_sl (u_chain (S := R) (ed_var rfl) rowB (by omega)) eo_none (eo_some (ed_neg ed_int))).dat (en_sl (u_chain (S := R.reverse) (ed_is (en_rev (ed_var rfl)).dat (by show PyData.list _ = PyData.list (R.reverse.map dP2); rw [List.map_reverse])) (fun z hz => rowB z (List.mem_reverse.mp hz)) (by rw [List.length_reverse]; omega)) eo_none (eo_some (ed_neg ed_int))).dat ?_).dat ?_
          · rw [cutP_last, cutP_last, List.length_dropLast, List.length_dropLast, List.length_map, List.length_map]
            have a := chL R
            have b := chL R.reverse
            rw [List.length_reverse] at b
            omega
          · show PyData.list _ = PyData.list ((Sh.hullZ R).map dP2)
            unfold Sh.hullZ
            rw [if_neg e, cutP_last, cutP_last, ← List.map_dropLast, ← List.map_dropLast, ← List.map_append]
        · refine w_ret (ed_is (ed_tuple (.inl rfl) (en_map (xs := Sh.hullZ R) (enc := dP2) (as := fun z => [(5, .int z.1), (6, .int z.2)]) (r := fun z => dP3 (Sh.red (z.1, z.2, Sh.und pts))) (ei_list (ed_var rfl)) ?_ (fun _ _ => tg_tup (tgs_cons tg_name (tgs_cons tg_name tgs_nil))) (fun _ _ p hp => ?_) (fun z hz => ?_)).dat) ?_) hQ
          · have h1 := chL R
            have h2 := chL R.reverse
            rw [List.length_reverse] at h2
            unfold Sh.hullZ
            split
            · omega
            · rw [List.length_append, List.length_dropLast, List.length_dropLast]
              omega
          · simp at hp
            rcases hp with rfl | rfl <;> simp
          · exact u_lowest (z := .tuple (dI [z.1, z.2, Sh.und pts])) (ns := [z.1, z.2, Sh.und pts]) (.inr rfl) (ed_tup (ea_cons (ed_var rfl) (ea_cons (ed_var rfl) (ea_cons (ed_var rfl) ea_nil))) (by show 3 ≤ 100000; decide)) (by show 3 ≤ 100; decide) (com_ok (n := Sh.und pts) (by simp) u0 (bz_le uB0 (by decide)))
          · unfold Sh.hull3
            rw [hR]
            show PyData.tuple _ = PyData.tuple (List.map dP3 _)
            rw [List.map_map]
            rfl
end
end Wk
end
section
set_option Elab.async false
set_option linter.all false
set_option maxRecDepth 100000
namespace Wk
open PySem PySem.Spec PyProof.Rows L2 Evl

/-! ### neighbours -/
theorem prs_get {α : Type} : ∀ (l : List α) (i : Nat) (e : α × α), (Sh.prs l)[i]? = some e ↔ l[i]? = some e.1 ∧ l[i + 1]? = some e.2
  | [], i, e => by simp [Sh.prs]
  | [x], i, e => by
    show ([] : List (α × α))[i]? = some e ↔ _
    cases i <;> simp
  | a :: b :: r, 0, e => by
    rw [Sh.prs_cons]
    constructor
    · intro h
      have h2 : (a, b) = e := by simpa using h
      subst h2
      exact ⟨rfl, rfl⟩
    · rintro ⟨h1, h2⟩
      have e1 : a = e.1 := by simpa using h1
      have e2 : b = e.2 := by simpa using h2
      simp [e1, e2]
  | a :: b :: r, i + 1, e => by
    rw [Sh.prs_cons, List.getElem?_cons_succ, List.getElem?_cons_succ, List.getElem?_cons_succ]
    exact prs_get (b :: r) i e
theorem prs_len {α : Type} : ∀ l : List α, (Sh.prs l).length = l.length - 1
  | [] => rfl
  | [x] => rfl
  | a :: b :: r => by
    rw [Sh.prs_cons, List.length_cons, prs_len (b :: r)]
    simp
theorem cyc_len {α : Type} (l : List α) : (Sh.cyc l).length = l.length := by
  unfold Sh.cyc
  rw [prs_len, List.length_append, List.length_take]
  cases l with
  | nil => rfl
  | cons x r => simp
theorem cyc_get {α : Type} {l : List α} {i : Nat} {e : α × α} (h : (Sh.cyc l)[i]? = some e) : l[i]? = some e.1 ∧ (if i + 1 < l.length then l[i + 1]? else l[0]?) = some e.2 := by
  have lt : i < l.length := by
    have := (List.getElem?_eq_some_iff.mp h).1
    rw [cyc_len] at this
    exact this
  obtain ⟨h1, h2⟩ := (prs_get _ i e).mp h
  rw [List.getElem?_append_left lt] at h1
  refine ⟨h1, ?_⟩
  by_cases c : i + 1 < l.length
  · rw [if_pos c, ← h2, List.getElem?_append_left c]
  · rw [if_neg c, ← h2, List.getElem?_append_right (by omega)]
    have : i + 1 - l.length = 0 := by omega
    rw [this]
    cases l with
    | nil => simp at lt
    | cons x r => rfl
section
variable {P : Program} {w : World} {K : PySem.W.Frag} {mg : Str → Option Value} {base : Heap}
theorem get_map {α β : Type} {l : List α} {i : Nat} {x : α} (g : α → β) (h : l[i]? = some x) : (l.map g)[i]? = some (g x) := by rw [List.getElem?_map, h]; rfl
/-! ### is_shape, check_polygon -/
structure Pg (L : List (Int × Int × Int)) : Prop where
  ne : L ≠ []
  len : L.length < 50
  bp : ∀ p ∈ L, Bp p
  pt : ∀ p ∈ L, Sh.isPt p
  hu : Sh.hull3 L = L
def f_is_shape : List PyData → PyData → Prop := fun ds r => ∃ L, Pg L ∧ ds = [dT3 L] ∧ r = .bool true
theorem u_is_shape {ss : SD} {t : TE} {E : XK} {L : List (Int × Int × Int)} (h : EvD K t ss (dT3 L)) (p : Pg L) : EvD K (tCall (spD K f_is_shape) [] E (tCons t tNil)) ss (.bool true) := ed_call (ea_cons h ea_nil) ⟨L, p, rfl, rfl⟩
theorem all_pt {L : List (Int × Int × Int)} (h : ∀ p ∈ L, Sh.isPt p) : L.all (fun p => decide (Sh.isPt p)) = true := List.all_eq_true.mpr fun p hp => decide_eq_true (h p hp)
abbrev s_is_shape : Stmt := topL 20
theorem sc_is_shape : FnScope ["value", "corner"] ["value"] (defScope s_is_shape) := ⟨rfl, rfl, rfl, by decide +kernel, rfl, by decide +kernel, by decide +kernel⟩
theorem ok_is_shape {f : Addr} {fd : FuncData} (F : Dfn K mg "is_shape" s_is_shape f fd ["value"]) (B : Bt mg) (c_is_vector : Cal P w K mg base 3 "is_vector" ["value"] (spD K f_is_vector)) (c_hull : Cal P w K mg base 3 "hull" ["points"] (spD K f_hull)) : Cal P w K mg base 4 "is_shape" ["value"] (spD K f_is_shape) := by
  refine calD F sc_is_shape (fun ds r h => ?_) fun cdv A outer s H E hr => ⟨_, (pss_cons (ps_if ((pw_or (pt_not (pt_val (pe_callB call_isi (by rfl) B.m_isinstance PyProof.Rows.boot_isinstance (pa_cons (pv 0) (pa_cons (pe_bltn (v := .ty "tuple") (by rfl) B.m_tuple PySem.Pv.boot_tuple rfl) pa_nil))))) (pw_or (pt_cmpR (op_eqD hr.units) (pv 0) (pe_tup pa_nil) (nomark _)) (pw_or1 (pt_not (pt_val (pe_callB (cr_all rfl) (by rfl) B.m_all PyProof.Rows.boot_all (pa_cons (pe_lc (g := gName 1) (own := [("corner", 1)]) rfl sc_is_shape.nd (pi_tup (pv 0)) (blkOk_by (N := ["value", "corner"]) (sc := defScope s_is_shape) (by decide +kernel)) (fun _ _ _ _ _ => (pg_name (i := 1) sc_is_shape.nd rfl (Or.inl rfl) (Or.inr rfl))) (fun _ _ _ _ _ => pts_nil) (fun _ _ _ _ _ => (pe_c c_is_vector hr (by decide) (by rfl) (pa_cons (pv 1) pa_nil)))) pa_nil)))))))).pt
     (pss_one (ps_ret pe_bl))
     pss_nil)
     (pss_one (ps_ret (pe_cmpR (op_eqD hr.units) (pe_c c_hull hr (by decide) (by rfl) (pa_cons (pe_callTy call_list_of (by rfl) B.m_list PySem.Pv.boot_list (pa_cons (pv 0) pa_nil)) pa_nil)) (pv 0) (nomark _))))), fun X ds r D hp hQ hN => ?_⟩
  · obtain ⟨L, _, rfl, _⟩ := h
    rfl
  · obtain ⟨L, pg, rfl, rfl⟩ := hp
    refine w_seq (w_if (b := false) (eb_is (eb_or (eb_not (eb_B (ed_isi (d := dT3 L) kb_tt (ed_var rfl)))) fun _ => eb_or (eb_test (ed_eqD (p3_shT L) nil_shT (ed_var rfl) (ed_tup ea_nil (by show 0 ≤ 100000; decide)))) fun _ => eb_not (eb_B (ed_alls (xs := L) (b := fun p => decide (Sh.isPt p)) (en_map (xs := L) (enc := dP3) (as := fun p => [(1, dP3 p)]) (r := fun p => .bool (decide (Sh.isPt p))) (ei_tup (ed_var rfl)) (by have := pg.len; omega) (fun _ _ => tg_name) (fun _ _ p hp => by simp at hp; simp [hp]) (fun p hp => u_is_vector (ed_var rfl))).dat))) ?_) (fun q => nomatch q) fun _ => w_next ?_)
    · rw [all_pt pg.pt, eqvT_nil]
      cases hL : L with
      | nil => exact absurd hL pg.ne
      | cons x r => rfl
    · refine w_ret (ed_is (ed_eqD (p3_shT _) (p3_shT _) (u_hull (en_list (.inr rfl) (ed_var rfl)).dat pg.ne (by have := pg.len; omega) pg.bp) (ed_var rfl)) ?_) hQ
      rw [pg.hu, eqvT_refl]
def f_check_polygon : List PyData → PyData → Prop := fun ds r => ∃ L, Pg L ∧ ds = [dT3 L] ∧ r = .none
theorem u_check_polygon {ss : SD} {t : TE} {E : XK} {L : List (Int × Int × Int)} (h : EvD K t ss (dT3 L)) (p : Pg L) : EvD K (tCall (spD K f_check_polygon) [] E (tCons t tNil)) ss .none := ed_call (ea_cons h ea_nil) ⟨L, p, rfl, rfl⟩
abbrev s_check_polygon : Stmt := topL 25
theorem sc_check_polygon : FnScope ["value"] ["value"] (defScope s_check_polygon) := ⟨rfl, rfl, rfl, by decide +kernel, rfl, by decide +kernel, by decide +kernel⟩
theorem ok_check_polygon {f : Addr} {fd : FuncData} (F : Dfn K mg "check_polygon" s_check_polygon f fd ["value"]) (B : Bt mg) (c_is_shape : Cal P w K mg base 4 "is_shape" ["value"] (spD K f_is_shape)) : Cal P w K mg base 5 "check_polygon" ["value"] (spD K f_check_polygon) := by
  refine calD F sc_check_polygon (fun ds r h => ?_) fun cdv A outer s H E hr => ⟨_, (pss_one (ps_if (pt_not (pt_val (pe_c c_is_shape hr (by decide) (by rfl) (pa_cons (pv 0) pa_nil))))
     (pss_one ps_never)
     pss_nil)), fun X ds r D hp hQ hN => ?_⟩
  · obtain ⟨L, _, rfl, _⟩ := h
    rfl
  · obtain ⟨L, pg, rfl, rfl⟩ := hp
    exact w_if (b := false) (eb_not (eb_B (u_is_shape (ed_var rfl) pg))) (fun q => nomatch q) fun _ => w_next fun σ H1 r => hN σ H1 r.2.1 rfl
/-! ### next_corner, line_point -/
def f_next_corner : List PyData → PyData → Prop := fun ds r => ∃ (L : List (Int × Int × Int)) (i : Nat) (e : (Int × Int × Int) × (Int × Int × Int)), (Sh.cyc L)[i]? = some e ∧ ds = [dT3 L, .int (i : Int)] ∧ r = dP3 e.2
theorem u_next_corner {ss : SD} {t u : TE} {E : XK} {L : List (Int × Int × Int)} {i : Nat} {e : (Int × Int × Int) × (Int × Int × Int)} (h : EvD K t ss (dT3 L)) (h' : EvD K u ss (.int (i : Int))) (he : (Sh.cyc L)[i]? = some e) : EvD K (tCall (spD K f_next_corner) [] E (tCons t (tCons u tNil))) ss (dP3 e.2) := ed_call (ea_cons h (ea_cons h' ea_nil)) ⟨L, i, e, he, rfl, rfl⟩
abbrev s_next_corner : Stmt := topL 21
theorem sc_next_corner : FnScope ["polygon", "at"] ["polygon", "at"] (defScope s_next_corner) := ⟨rfl, rfl, rfl, by decide +kernel, rfl, by decide +kernel, by decide +kernel⟩
theorem ok_next_corner {f : Addr} {fd : FuncData} (F : Dfn K mg "next_corner" s_next_corner f fd ["polygon", "at"]) (B : Bt mg) : Cal P w K mg base 1 "next_corner" ["polygon", "at"] (spD K f_next_corner) := by
  refine calD F sc_next_corner (fun ds r h => ?_) fun cdv A outer s H E hr => ⟨_, (pss_one (ps_ret (pe_ifExp (pt_cmpR op_lt (pe_op op_add (pv 1) pe_int) (pe_callB call_len_seq (by rfl) B.m_len PySem.boot_len (pa_cons (pv 0) pa_nil)) (nomark _)) (pe_ix ix_tup (pv 0) (pe_op op_add (pv 1) pe_int) (fun _ _ => rfl)) (pe_ix ix_tup (pv 0) pe_int (fun _ _ => rfl))))), fun X ds r D hp hQ hN => ?_⟩
  · obtain ⟨L, i, e, _, rfl, _⟩ := h
    rfl
  · obtain ⟨L, i, e, he, rfl, rfl⟩ := hp
    obtain ⟨h1, h2⟩ := cyc_get he
    refine w_ret (ed_if (eb_test (ed_lt (ed_add (ed_var rfl) ed_int) (ed_len (.inr rfl) (ed_var rfl)))) (fun q => ?_) (fun q => ?_)) hQ
    · have c : i + 1 < L.length := by simp at q; omega
      rw [if_pos c] at h2
      exact ed_ixT (show atI (L.map dP3) ((i : Int) + 1) = some (dP3 e.2) from by rw [show (i : Int) + 1 = ((i + 1 : Nat) : Int) by omega]; exact atI_nat (get_map dP3 h2)) (ed_var rfl) (ed_add (ed_var rfl) ed_int)
    · have c : ¬ i + 1 < L.length := by simp at q; omega
      rw [if_neg c] at h2
      exact ed_ixT (atI_nat (j := 0) (get_map dP3 h2)) (ed_var rfl) ed_int
abbrev Bq (p : Int × Int × Int) : Prop := Bz 20 p.1 ∧ Bz 20 p.2.1 ∧ Bz 20 p.2.2
theorem Bp.q {p : Int × Int × Int} (h : Bp p) : Bq p := ⟨h.2.1, h.2.2, bg_of ⟨by have := h.1.1; omega, by have := h.1.2; omega⟩⟩
theorem nrm_q {f : Int × Int} (h : Sh.nrm f) : Bq (f.1, f.2, 0) := by
  obtain ⟨⟨a, b⟩, c, d⟩ := h
  exact ⟨bg_of (z := f.1) ⟨by omega, by omega⟩, bg_of (z := f.2) ⟨by omega, by omega⟩, bg_of (z := 0) ⟨by decide, by decide⟩⟩
theorem val_lf (f : Int × Int) (p : Int × Int × Int) : val3 (f.1, f.2, 0) p = Sh.lf f p := by unfold val3 Sh.lf; simp
theorem lf_bz {f : Int × Int} {p : Int × Int × Int} (hf : Sh.nrm f) (hp : Bp p) : Bz 100 (Sh.lf f p) := by
  obtain ⟨q1, q2, _⟩ := nrm_q hf
  exact bz_le (bz_add (bz_mul q1 hp.2.1) (bz_mul q2 hp.2.2)) (by decide)
def f_line_point : List PyData → PyData → Prop := fun ds r => ∃ (f : Int × Int) (p q : Int × Int × Int), Sh.nrm f ∧ Bp p ∧ Bp q ∧ Sh.opp f p q ∧ ds = [dP3 p, dP3 q, dP3 (f.1, f.2, 0)] ∧ r = dP3 (Sh.crossPt f p q)
theorem u_line_point {ss : SD} {t u v : TE} {E : XK} {f : Int × Int} {p q : Int × Int × Int} (h : EvD K t ss (dP3 p)) (h' : EvD K u ss (dP3 q)) (h'' : EvD K v ss (dP3 (f.1, f.2, 0))) (hf : Sh.nrm f) (hp : Bp p) (hq : Bp q) (o : Sh.opp f p q) : EvD K (tCall (spD K f_line_point) [] E (tCons t (tCons u (tCons v tNil)))) ss (dP3 (Sh.crossPt f p q)) := ed_call (ea_cons h (ea_cons h' (ea_cons h'' ea_nil))) ⟨f, p, q, hf, hp, hq, o, rfl, rfl⟩
abbrev s_line_point : Stmt := topL 22
theorem sc_line_point : FnScope ["one", "two", "side", "here", "there", "row", "mine", "yours", "number"] ["one", "two", "side"] (defScope s_line_point) := ⟨rfl, rfl, rfl, by decide +kernel, rfl, by decide +kernel, by decide +kernel⟩
theorem ok_line_point {f : Addr} {fd : FuncData} (F : Dfn K mg "line_point" s_line_point f fd ["one", "two", "side"]) (B : Bt mg) (c_lowest : Cal P w K mg base 2 "lowest" ["numbers"] (spD K f_lowest)) (c_value_at : Cal P w K mg base 1 "value_at" ["side", "point"] (spD K f_value_at)) : Cal P w K mg base 3 "line_point" ["one", "two", "side"] (spD K f_line_point) := by
  refine calD F sc_line_point (fun ds r h => ?_) fun cdv A outer s H E hr => ⟨_, (pss_cons (ps_asg (pe_tup (pa_cons (pe_c c_value_at hr (by decide) (by rfl) (pa_cons (pv 2) (pa_cons (pv 0) pa_nil))) (pa_cons (pe_c c_value_at hr (by decide) (by rfl) (pa_cons (pv 2) (pa_cons (pv 1) pa_nil))) pa_nil))) (pg_tup rfl (pgs_cons (pg_name (i := 3) sc_line_point.nd rfl (Or.inr rfl) (Or.inl rfl)) (pgs_cons (pg_name (i := 4) sc_line_point.nd rfl (Or.inr rfl) (Or.inl rfl)) pgs_nil))))
     (pss_cons (ps_setLc (i := 5) (g := gTup K 2 (gCons (gName 6) (gCons (gName 7) gNil))) (own := [("mine", 6), ("yours", 7)]) rfl sc_line_point.nd rfl rfl (sw_true rfl rfl rfl (by decide +kernel)) (pi_zipM (by rfl) B.m_zip (pa_cons (pv 0) (pa_cons (pv 1) pa_nil))) (blkOk_by (N := ["one", "two", "side", "here", "there", "row", "mine", "yours", "number"]) (sc := defScope s_line_point) (by decide +kernel)) (fun _ _ _ _ _ => (pg_tup rfl (pgs_cons (pg_name (i := 6) sc_line_point.nd rfl (Or.inl rfl) (Or.inr rfl)) (pgs_cons (pg_name (i := 7) sc_line_point.nd rfl (Or.inl rfl) (Or.inr rfl)) pgs_nil)))) (fun _ _ _ _ _ => pts_nil) (fun _ _ _ _ _ => (pe_op op_sub (pe_op op_mulW (pv 6) (pv 4)) (pe_op op_mulW (pv 7) (pv 3)))))
     (pss_one (ps_ret (pe_ifExp (pt_cmpR op_gt (pe_ix ix_list (pv 5) pe_int (fun _ _ => rfl)) pe_int (nomark _)) (pe_c c_lowest hr (by decide) (by rfl) (pa_cons (pv 5) pa_nil)) (pe_c c_lowest hr (by decide) (by rfl) (pa_cons (pe_lc (g := gName 8) (own := [("number", 8)]) rfl sc_line_point.nd (pi_list (pv 5)) (blkOk_by (N := ["one", "two", "side", "here", "there", "row", "mine", "yours", "number"]) (sc := defScope s_line_point) (by decide +kernel)) (fun _ _ _ _ _ => (pg_name (i := 8) sc_line_point.nd rfl (Or.inl rfl) (Or.inr rfl))) (fun _ _ _ _ _ => pts_nil) (fun _ _ _ _ _ => (pe_un un_neg (pv 8)))) pa_nil))))))), fun X ds r D hp hQ hN => ?_⟩
  · obtain ⟨f, p, q, _, _, _, _, rfl, _⟩ := h
    rfl
  · obtain ⟨f, p, q, hf, hbp, hbq, o, rfl, rfl⟩ := hp
    have B1 : Bz 100 (val3 (f.1, f.2, 0) p) := by rw [val_lf]; exact lf_bz hf hbp
    have B2 : Bz 100 (val3 (f.1, f.2, 0) q) := by rw [val_lf]; exact lf_bz hf hbq
    have cr : ∀ z ∈ [(p.1, q.1), (p.2.1, q.2.1), (p.2.2, q.2.2)], Bz 20 z.1 ∧ Bz 20 z.2 := fun z hz => by
      simp at hz
      rcases hz with rfl | rfl | rfl
      · exact ⟨hbp.q.1, hbq.q.1⟩
      · exact ⟨hbp.q.2.1, hbq.q.2.1⟩
      · exact ⟨hbp.q.2.2, hbq.q.2.2⟩
    refine w_seq (w_tgt (ed_tup (ea_cons (u_value_at (ed_var rfl) (ed_var rfl) (nrm_q hf) hbp.q) (ea_cons (u_value_at (ed_var rfl) (ed_var rfl) (nrm_q hf) hbq.q) ea_nil)) (by show 2 ≤ 100000; decide)) (tg_tup (tgs_cons tg_name (tgs_cons tg_name tgs_nil))) rfl (w_seq (w_asg (en_map (xs := [(p.1, q.1), (p.2.1, q.2.1), (p.2.2, q.2.2)]) (enc := dP2) (as := fun z => [(6, .int z.1), (7, .int z.2)]) (r := fun z => .int (z.1 * val3 (f.1, f.2, 0) q - z.2 * val3 (f.1, f.2, 0) p))
      (ei_zm (ds := [.int p.1, .int p.2.1, .int p.2.2]) (es := [.int q.1, .int q.2.1, .int q.2.2]) (.inr rfl) (.inr rfl) (ed_var rfl) (ed_var rfl)) (by show 3 ≤ 50000; decide) (fun _ _ => tg_tup (tgs_cons tg_name (tgs_cons tg_name tgs_nil))) (fun _ _ z hz => by simp at hz; rcases hz with rfl | rfl <;> simp) (fun z hz => ed_sub (ed_mul (cmw (cr z hz).1 B2) (ed_var rfl) (ed_var rfl)) (ed_mul (cmw (cr z hz).2 B1) (ed_var rfl) (ed_var rfl)))).dat ?_)))
    have hw : 0 < (Sh.pc f p q).2.2 := Sh.pc_w hbp.1.1 hbq.1.1 o
    have hB : Bz 8000 (Sh.pc f p q).2.2 := by
      have e1 : Bz 100 ((Sh.lf f q).natAbs : Int) := by show (((Sh.lf f q).natAbs : Int)).natAbs < _; rw [Int.natAbs_natCast]; exact lf_bz hf hbq
      have e2 : Bz 100 ((Sh.lf f p).natAbs : Int) := by show (((Sh.lf f p).natAbs : Int)).natAbs < _; rw [Int.natAbs_natCast]; exact lf_bz hf hbp
      exact bz_le (bz_add (bz_mul e1 hbp.q.2.2) (bz_mul e2 hbq.q.2.2)) (by decide)
    have key : (0 < Sh.lf f q ∧ [p.1 * val3 (f.1, f.2, 0) q - q.1 * val3 (f.1, f.2, 0) p, p.2.1 * val3 (f.1, f.2, 0) q - q.2.1 * val3 (f.1, f.2, 0) p, p.2.2 * val3 (f.1, f.2, 0) q - q.2.2 * val3 (f.1, f.2, 0) p] = [(Sh.pc f p q).1, (Sh.pc f p q).2.1, (Sh.pc f p q).2.2]) ∨
        (Sh.lf f q < 0 ∧ [p.1 * val3 (f.1, f.2, 0) q - q.1 * val3 (f.1, f.2, 0) p, p.2.1 * val3 (f.1, f.2, 0) q - q.2.1 * val3 (f.1, f.2, 0) p, p.2.2 * val3 (f.1, f.2, 0) q - q.2.2 * val3 (f.1, f.2, 0) p] = [-(Sh.pc f p q).1, -(Sh.pc f p q).2.1, -(Sh.pc f p q).2.2]) := by
      rw [val_lf, val_lf]
      unfold Sh.opp at o
      unfold Sh.pc Sh.cmb
      rcases o with ⟨o1, o2⟩ | ⟨o1, o2⟩
      · refine .inl ⟨o2, ?_⟩
        have a1 : ((Sh.lf f q).natAbs : Int) = Sh.lf f q := by omega
        have a2 : ((Sh.lf f p).natAbs : Int) = -Sh.lf f p := by omega
        rw [a1, a2]
        congr 1
        · grind
        · congr 1
          · grind
          · congr 1
            grind
      · refine .inr ⟨o2, ?_⟩
        have a1 : ((Sh.lf f q).natAbs : Int) = -Sh.lf f q := by omega
        have a2 : ((Sh.lf f p).natAbs : Int) = Sh.lf f p := by omega
        rw [a1, a2]
        congr 1
        · grind
        · congr 1
          · grind
          · congr 1
            grind
    generalize hr0 : p.1 * val3 (f.1, f.2, 0) q - q.1 * val3 (f.1, f.2, 0) p = r0 at key
    generalize hr1 : p.2.1 * val3 (f.1, f.2, 0) q - q.2.1 * val3 (f.1, f.2, 0) p = r1 at key
    generalize hr2 : p.2.2 * val3 (f.1, f.2, 0) q - q.2.2 * val3 (f.1, f.2, 0) p = r2 at key
    have er : [(p.1, q.1), (p.2.1, q.2.1), (p.2.2, q.2.2)].map (fun z : Int × Int => PyData.int (z.1 * val3 (f.1, f.2, 0) q - z.2 * val3 (f.1, f.2, 0) p)) = dI [r0, r1, r2] := by
      rw [← hr0, ← hr1, ← hr2]
      rfl
    rw [er]
    have red_eq : dP3 (Sh.crossPt f p q) = .tuple (dI (Sh.lowL [(Sh.pc f p q).1, (Sh.pc f p q).2.1, (Sh.pc f p q).2.2])) := rfl
    have lowOk : CDivW 0 (Sh.comDiv [(Sh.pc f p q).1, (Sh.pc f p q).2.1, (Sh.pc f p q).2.2]) := com_ok (n := (Sh.pc f p q).2.2) (by simp) hw hB
    refine w_ret (ed_if (eb_test (ed_gt (ed_ixL (d := .int r2) rfl (ed_var rfl) ed_int) ed_int)) (fun h => ?_) (fun h => ?_)) hQ
    · have h2 : 0 < r2 := by simpa using h
      rcases key with ⟨k1, k2⟩ | ⟨k1, k2⟩
      · rw [red_eq, ← k2]
        rw [← k2] at lowOk
        exact u_lowest (.inl rfl) (ed_var rfl) (by show 3 ≤ 100; decide) lowOk
      · simp at k2
        omega
    · have h2 : ¬ 0 < r2 := by simpa using h
      rcases key with ⟨k1, k2⟩ | ⟨k1, k2⟩
      · simp at k2
        omega
      · have e3 : [r0, r1, r2].map (fun n => -n) = [(Sh.pc f p q).1, (Sh.pc f p q).2.1, (Sh.pc f p q).2.2] := by
          rw [k2]
          simp
        rw [red_eq, ← e3]
        rw [← e3] at lowOk
        refine u_lowest (z := .list (dI ([r0, r1, r2].map fun n => -n))) (.inl rfl) (ed_is (en_map (xs := [r0, r1, r2]) (enc := PyData.int) (as := fun n => [(8, .int n)]) (r := fun n => .int (-n)) (ei_list (ed_var rfl)) (by show 3 ≤ 50000; decide) (fun _ _ => tg_name) (fun _ _ p hp => by simp at hp; simp [hp]) (fun n hn => ed_neg (ed_var rfl))).dat rfl) (by show 3 ≤ 100; decide) lowOk
end
end Wk
end
section
set_option Elab.async false
set_option linter.all false
set_option maxRecDepth 100000
namespace Wk
open PySem PySem.Spec PyProof.Rows L2 Evl

/-! ### a loop that may be left by return: what is known of the turns so far -/
section
variable {K : PySem.W.Frag} {X : List Addr} {H0 G : Hp} {ss : SD} {mu : Mu} {g : TG} {D : Ends}
theorem w_forP {α : Type} {wi : TI} {tb : TS} {xs : List α} {enc : α → PyData} {as : α → List (Nat × PyData)} (I : Nat → SD) (M : Nat → Mu) (J : Nat → Prop) (hi : EvI K wi ss (xs.map enc)) (hg : ∀ x ∈ xs, TgD K g (enc x) (as x)) (hm : ∀ i x, xs[i]? = some x → (as x).all (fun p => apart (M i) p.1) = true)
    (h0 : LeD (I 0) ss) (m0 : mu = M 0) (j0 : J 0)
    (hb : ∀ i x, xs[i]? = some x → J i → ∀ (G' : Hp) (D' : Ends), D'.rt = D.rt → D'.nx = (fun σ H => J (i + 1) ∧ Rep K X H0 G' (I (i + 1)) (M (i + 1)) σ H) → Wp K X H0 G' (tb D') (setsD (I i) (as x)) (M i))
    (hd : J xs.length → Wp K X H0 G D.nx (I xs.length) (M xs.length)) : Wp K X H0 G (tFor wi g tb D) ss mu := fun σ H r => by
  obtain ⟨Y, O, S, eg, e0, OX, sub, f⟩ := r.gen
  refine hi Y σ H O S _ fun Jt H1 e1 hJ => ?_
  have eg1 : Ex G (Hd Y H1) := eg.trans (hd_mono e1)
  have r1 : Rep K X H0 (Hd Y H1) (I 0) (M 0) σ H1 := by
    rw [← m0]
    exact f _ H1 σ e1 (Ex.refl _) (fun _ _ => rfl) _ ((S.mono (hd_mono e1)).le h0)
  refine ⟨fun i m σ' H' => m = xs.length - i ∧ i ≤ xs.length ∧ J i ∧ Rep K X H0 (Hd Y H1) (I i) (M i) σ' H', ⟨xs.length, rfl, Nat.zero_le _, j0, r1⟩, ?_⟩
  rintro i m σ2 H2 ⟨rfl, hle, ji, r2⟩
  obtain ⟨Y2, O2, S2, eg2, e02, OX2, sub2, f2⟩ := r2.gen
  obtain ⟨j1, j2⟩ := hJ Y2 i H2 eg2 O2
  by_cases hlt : i < xs.length
  · have hx : xs[i]? = some xs[i] := List.getElem?_eq_getElem hlt
    have hm' : xs[i] ∈ xs := List.getElem_mem hlt
    obtain ⟨go, yl⟩ := j1 (enc xs[i]) (by rw [List.getElem?_map, hx]; rfl)
    refine .inr ⟨go, fun σ' H' => J (i + 1) ∧ Rep K X H0 (Hd Y H1) (I (i + 1)) (M (i + 1)) σ' H', fun σ' H' p => ⟨_, by omega, rfl, hlt, p.1, p.2⟩, fun x H3 y => ?_⟩
    obtain ⟨e3, hx3⟩ := yl x H3 y
    refine hg _ hm' Y2 H3 x σ2 _ (O2.mono e3) hx3 fun vs hvs => ?_
    refine hb i _ hx ji (Hd Y H1) { D with nx := fun σ' H' => J (i + 1) ∧ Rep K X H0 (Hd Y H1) (I (i + 1)) (M (i + 1)) σ' H', ct := fun σ' H' => J (i + 1) ∧ Rep K X H0 (Hd Y H1) (I (i + 1)) (M (i + 1)) σ' H', bk := D.nx } rfl rfl _ H3 (f2 _ H3 _ e3 (eg2.trans (hd_mono e3)) (fun p hp => setL_ne _ _ _ fun mm => ?_) _ (StD.sets _ (S2.mono (hd_mono e3)) hvs))
    obtain ⟨q, hq, eq⟩ := List.mem_map.mp mm
    exact apart_ne (List.all_eq_true.mp (hm i _ hx) q hq) p hp eq
  · have ei : i = xs.length := by omega
    subst ei
    exact .inl ⟨j2 (by rw [List.length_map]), hd ji σ2 H2 (r2.weak eg1)⟩
theorem w_endP {G' : Hp} {D' : Ends} {a : SD} {m : Mu} {p : Prop} (hn : D'.nx = (fun σ H => p ∧ Rep K X H0 G' a m σ H)) (hp : p) (l : LeD a ss) : Wp K X H0 G' D'.nx ss m := by
  rw [hn]
  exact fun σ H r => ⟨hp, w_done (Ex.refl _) l σ H r⟩
end
/-! ### a statement, then the rest -/
section
variable {K : PySem.W.Frag} {X : List Addr} {H0 G : Hp} {ss : SD} {mu : Mu} {ta tb te : TE} {t : TT} {tu tw tz : TS} {g : TG} {d e : PyData} {D : Ends} {n : Nat}
theorem s_asg (he : EvD K te ss d) (k : Wp K X H0 G (tz D) (ss.set n (some d)) mu) (hm : apart mu n = true := by rfl) : Wp K X H0 G (tSeq (tAsg te (gName n)) tz D) ss mu := w_seq (w_asg he k hm)
theorem s_asgV (he : EvD K te (vis ss mu) d) (hf : flat d = true) (k : Wp K X H0 G (tz D) (ss.set n (some d)) mu) (hm : apart mu n = true := by rfl) : Wp K X H0 G (tSeq (tAsg te (gName n)) tz D) ss mu := w_seq (w_asgV he hf k hm)
theorem s_tgt {as : List (Nat × PyData)} (he : EvD K te ss d) (hg : TgD K g d as) (hm : as.all (fun p => apart mu p.1) = true) (k : Wp K X H0 G (tz D) (setsD ss as) mu) : Wp K X H0 G (tSeq (tAsg te g) tz D) ss mu := w_seq (w_tgt he hg hm k)
theorem s_par {i j : Nat} {tr : TA} (he : EvAD K tr ss [d, e]) (k : Wp K X H0 G (tz D) ((ss.set i (some d)).set j (some e)) mu) (hi : apart mu i = true := by rfl) (hj : apart mu j = true := by rfl) : Wp K X H0 G (tSeq (tPar i j tr) tz D) ss mu := w_seq (w_par he k hi hj)
theorem s_drop (he : EvD K te (vis ss mu) d) (k : Wp K X H0 G (tz D) ss mu) : Wp K X H0 G (tSeq (tDrop te) tz D) ss mu := w_seq (w_drop he k)
theorem s_new {es : List PyData} (he : EvN K te ss es) (hn : n < ss.length) (k : Wp K X H0 G (tz D) ss (some (n, es))) (hf : ss[n]? = some none := by rfl) : Wp K X H0 G (tSeq (tAsg te (gName n)) tz D) ss none := w_seq (w_new he hn k hf)
theorem s_when {b : Bool} (ht : EvB K t (vis ss mu) b) (h1 : b = true → Wp K X H0 G (tu { D with nx := tz D }) ss mu) (h2 : b = false → Wp K X H0 G (tz D) ss mu) : Wp K X H0 G (tSeq (tIfS t tu tNext) tz D) ss mu := w_seq (w_if ht h1 fun q => w_next (h2 q))
theorem s_if {b : Bool} (ht : EvB K t (vis ss mu) b) (h1 : b = true → Wp K X H0 G (tu { D with nx := tz D }) ss mu) (h2 : b = false → Wp K X H0 G (tw { D with nx := tz D }) ss mu) : Wp K X H0 G (tSeq (tIfS t tu tw) tz D) ss mu := w_seq (w_if ht h1 h2)
theorem s_for {α : Type} {wi : TI} {tq : TS} {xs : List α} {enc : α → PyData} {as : α → List (Nat × PyData)} (I : Nat → SD) (M : Nat → Mu) (hi : EvI K wi ss (xs.map enc)) (hg : ∀ x ∈ xs, TgD K g (enc x) (as x)) (hm : ∀ i x, xs[i]? = some x → (as x).all (fun p => apart (M i) p.1) = true)
    (h0 : LeD (I 0) ss) (m0 : mu = M 0)
    (hb : ∀ i x, xs[i]? = some x → ∀ (G' : Hp) (D' : Ends), D'.rt = D.rt → D'.nx = Rep K X H0 G' (I (i + 1)) (M (i + 1)) → Wp K X H0 G' (tq D') (setsD (I i) (as x)) (M i))
    (hd : Wp K X H0 G (tz D) (I xs.length) (M xs.length)) : Wp K X H0 G (tSeq (tFor wi g tq) tz D) ss mu := w_seq (w_for I M hi hg hm h0 m0 hb hd)
theorem s_forP {α : Type} {wi : TI} {tq : TS} {xs : List α} {enc : α → PyData} {as : α → List (Nat × PyData)} (I : Nat → SD) (M : Nat → Mu) (J : Nat → Prop) (hi : EvI K wi ss (xs.map enc)) (hg : ∀ x ∈ xs, TgD K g (enc x) (as x)) (hm : ∀ i x, xs[i]? = some x → (as x).all (fun p => apart (M i) p.1) = true)
    (h0 : LeD (I 0) ss) (m0 : mu = M 0) (j0 : J 0)
    (hb : ∀ i x, xs[i]? = some x → J i → ∀ (G' : Hp) (D' : Ends), D'.rt = D.rt → D'.nx = (fun σ H => J (i + 1) ∧ Rep K X H0 G' (I (i + 1)) (M (i + 1)) σ H) → Wp K X H0 G' (tq D') (setsD (I i) (as x)) (M i))
    (hd : J xs.length → Wp K X H0 G (tz D) (I xs.length) (M xs.length)) : Wp K X H0 G (tSeq (tFor wi g tq) tz D) ss mu := w_seq (w_forP I M J hi hg hm h0 m0 j0 hb hd)
end
section
variable {P : Program} {w : World} {K : PySem.W.Frag} {mg : Str → Option Value} {base : Heap}
/-! ### cut -/
def optT : Option (List (Int × Int × Int)) → PyData
  | none => .none
  | some L => dT3 L
structure Pn (L : List (Int × Int × Int)) : Prop where
  po : Sh.Poly L
  len : L.length ≤ 25
theorem Pn.bp {L : List (Int × Int × Int)} (h : Pn L) : ∀ p ∈ L, Bp p := fun p hp => by
  obtain ⟨a, b, c⟩ := h.po.sm p hp
  have d := (h.po.pts p hp).1
  exact ⟨⟨d, c.2⟩, bg_of ⟨by omega, by omega⟩, bg_of ⟨by omega, by omega⟩⟩
def f_cut : List PyData → PyData → Prop := fun ds r => ∃ (L : List (Int × Int × Int)) (f : Int × Int), Pn L ∧ f ≠ (0, 0) ∧ Sh.nrm f ∧ ds = [dT3 L, dP3 (f.1, f.2, 0)] ∧ r = optT (Sh.progCut f L)
theorem u_cut {ss : SD} {t u : TE} {E : XK} {L : List (Int × Int × Int)} {f : Int × Int} (h : EvD K t ss (dT3 L)) (h' : EvD K u ss (dP3 (f.1, f.2, 0))) (hL : Pn L) (hf : f ≠ (0, 0)) (hn : Sh.nrm f) : EvD K (tCall (spD K f_cut) [] E (tCons t (tCons u tNil))) ss (optT (Sh.progCut f L)) := ed_call (ea_cons h (ea_cons h' ea_nil)) ⟨L, f, hL, hf, hn, rfl, rfl⟩
/-- what is found up to the i-th corner -/
def cutF (f : Int × Int) (L : List (Int × Int × Int)) (i : Nat) : List (Int × Int × Int) := L.filter (fun p => decide (Sh.lf f p ≤ 0)) ++ ((Sh.cyc L).take i).flatMap fun e => if Sh.opp f e.1 e.2 then [Sh.crossPt f e.1 e.2] else []
theorem cutF_all (f : Int × Int) (L : List (Int × Int × Int)) : cutF f L L.length = Sh.progFound f L := by
  unfold cutF Sh.progFound
  rw [List.take_of_length_le (by rw [cyc_len]; exact Nat.le_refl _)]
theorem cutF_len (f : Int × Int) (L : List (Int × Int × Int)) (i : Nat) : (cutF f L i).length ≤ 2 * L.length := by
  have key : ∀ l : List ((Int × Int × Int) × (Int × Int × Int)), (l.flatMap fun e => if Sh.opp f e.1 e.2 then [Sh.crossPt f e.1 e.2] else []).length ≤ l.length := by
    intro l
    induction l with
    | nil => exact Nat.le_refl _
    | cons e l ih =>
      rw [List.flatMap_cons, List.length_append, List.length_cons]
      have : (if Sh.opp f e.1 e.2 then [Sh.crossPt f e.1 e.2] else []).length ≤ 1 := by split <;> simp
      omega
  unfold cutF
  rw [List.length_append]
  have h1 := List.length_filter_le (fun p => decide (Sh.lf f p ≤ 0)) L
  have h2 := key ((Sh.cyc L).take i)
  rw [List.length_take, cyc_len] at h2
  omega
abbrev s_cut : Stmt := topL 23
theorem sc_cut : FnScope ["polygon", "side", "values", "found", "at", "corner", "value", "other"] ["polygon", "side"] (defScope s_cut) := ⟨rfl, rfl, rfl, by decide +kernel, rfl, by decide +kernel, by decide +kernel⟩
theorem ok_cut {f : Addr} {fd : FuncData} (F : Dfn K mg "cut" s_cut f fd ["polygon", "side"]) (B : Bt mg) (c_value_at : Cal P w K mg base 1 "value_at" ["side", "point"] (spD K f_value_at)) (c_hull : Cal P w K mg base 3 "hull" ["points"] (spD K f_hull)) (c_next_corner : Cal P w K mg base 1 "next_corner" ["polygon", "at"] (spD K f_next_corner)) (c_line_point : Cal P w K mg base 3 "line_point" ["one", "two", "side"] (spD K f_line_point)) : Cal P w K mg base 4 "cut" ["polygon", "side"] (spD K f_cut) := by
  refine calD F sc_cut (fun ds r h => ?_) fun cdv A outer s H E hr => ⟨_, (pss_cons (ps_setLc (i := 2) (g := gName 5) (own := [("corner", 5)]) rfl sc_cut.nd rfl rfl (sw_true rfl rfl rfl (by decide +kernel)) (pi_tup (pv 0)) (blkOk_by (N := ["polygon", "side", "values", "found", "at", "corner", "value", "other"]) (sc := defScope s_cut) (by decide +kernel)) (fun _ _ _ _ _ => (pg_name (i := 5) sc_cut.nd rfl (Or.inl rfl) (Or.inr rfl))) (fun _ _ _ _ _ => pts_nil) (fun _ _ _ _ _ => (pe_c c_value_at hr (by decide) (by rfl) (pa_cons (pv 1) (pa_cons (pv 5) pa_nil)))))
     (pss_cons (ps_setLc (i := 3) (g := gTup K 2 (gCons (gName 5) (gCons (gName 6) gNil))) (own := [("corner", 5), ("value", 6)]) rfl sc_cut.nd rfl rfl (sw_true rfl rfl rfl (by decide +kernel)) (pi_zipM (by rfl) B.m_zip (pa_cons (pv 0) (pa_cons (pv 2) pa_nil))) (blkOk_by (N := ["polygon", "side", "values", "found", "at", "corner", "value", "other"]) (sc := defScope s_cut) (by decide +kernel)) (fun _ _ _ _ _ => (pg_tup rfl (pgs_cons (pg_name (i := 5) sc_cut.nd rfl (Or.inl rfl) (Or.inr rfl)) (pgs_cons (pg_name (i := 6) sc_cut.nd rfl (Or.inl rfl) (Or.inr rfl)) pgs_nil)))) (fun _ _ _ _ _ => (pts_one (pt_cmpR op_le (pv 6) pe_int (nomark _)))) (fun _ _ _ _ _ => (pv 5)))
     (pss_cons (ps_for PassesOwn.never rfl (pi_enT (by rfl) B.m_enumerate (pa_cons (pv 0) pa_nil)) (pg_tup rfl (pgs_cons (pg_name (i := 4) sc_cut.nd rfl (Or.inl rfl) (Or.inl rfl)) (pgs_cons (pg_name (i := 5) sc_cut.nd rfl (Or.inl rfl) (Or.inl rfl)) pgs_nil)))
     (pss_cons (ps_par (i := 6) (j := 7) rfl sc_cut.nd rfl rfl (by decide) rfl rfl (pa_cons (pe_ix ix_list (pv 2) (pv 4) (fun _ _ => rfl)) (pa_cons (pe_ifExp (pt_cmpR op_lt (pe_op op_add (pv 4) pe_int) (pe_callB call_len_seq (by rfl) B.m_len PySem.boot_len (pa_cons (pv 2) pa_nil)) (nomark _)) (pe_ix ix_list (pv 2) (pe_op op_add (pv 4) pe_int) (fun _ _ => rfl)) (pe_ix ix_list (pv 2) pe_int (fun _ _ => rfl))) pa_nil)) (by rfl))
     (pss_one (ps_if ((pw_or ((pw_and (pt_cmpR op_lt (pv 6) pe_int (nomark _)) (pw_and1 (pt_cmpR op_gt (pv 7) pe_int (nomark _))))).pt (pw_or1 ((pw_and (pt_cmpR op_gt (pv 6) pe_int (nomark _)) (pw_and1 (pt_cmpR op_lt (pv 7) pe_int (nomark _))))).pt))).pt
     (pss_one (ps_expr (pe_bm PySem.F.plainAttrs_list PySem.F.slot_list_append PySem.F.type_list_append mt_append (pv 3) (pa_cons (pe_c c_line_point hr (by decide) (by rfl) (pa_cons (pv 5) (pa_cons (pe_c c_next_corner hr (by decide) (by rfl) (pa_cons (pv 0) (pa_cons (pv 4) pa_nil))) (pa_cons (pv 1) pa_nil)))) pa_nil))))
     pss_nil))))
     (pss_one (ps_ret (pe_ifExp (pt_cmpR (op_eqD hr.units) (pv 3) (pe_lst pa_nil) (nomark _)) pe_non (pe_c c_hull hr (by decide) (by rfl) (pa_cons (pv 3) pa_nil)))))))), fun X ds r D hp hQ hN => ?_⟩
  · obtain ⟨L, g, _, _, _, rfl, _⟩ := h
    rfl
  · obtain ⟨L, g, hL, hf, hn, rfl, rfl⟩ := hp
    have hlen := hL.len
    have lfe : ∀ p, val3 (g.1, g.2, 0) p = Sh.lf g p := val_lf g
    refine s_asg (en_map (xs := L) (enc := dP3) (as := fun p => [(5, dP3 p)]) (r := fun p => .int (Sh.lf g p)) (ei_tup (ed_var rfl)) (by omega) (fun _ _ => tg_name) (fun _ _ p hp => by simp at hp; simp [hp]) (fun p hp => ed_is (u_value_at (ed_var rfl) (ed_var rfl) (nrm_q hn) (hL.bp p hp).q) (by rw [lfe]))).dat ?_
    refine s_new (en_lc (xs := L.map fun p => (p, Sh.lf g p)) (enc := fun z => PyData.tuple [dP3 z.1, .int z.2]) (as := fun z => [(5, dP3 z.1), (6, .int z.2)]) (f := fun z => decide (z.2 ≤ 0)) (r := fun z => dP3 z.1) ?_ (by rw [List.length_map]; omega) (fun _ _ => tg_tup (tgs_cons tg_name (tgs_cons tg_name tgs_nil))) (fun _ _ z hz => by simp at hz; rcases hz with rfl | rfl <;> simp) (fun z hz => eb_test (ed_le (ed_var rfl) ed_int)) (fun z hz _ => ed_var rfl)) (by show 3 < 8; decide) ?_
    · have e : (L.map fun p => (p, Sh.lf g p)).map (fun z => PyData.tuple [dP3 z.1, .int z.2]) = ((L.map dP3).zip (L.map fun p => PyData.int (Sh.lf g p))).map fun p => PyData.tuple [p.1, p.2] := by
        rw [List.zip_map', List.map_map, List.map_map]
        rfl
      rw [e]
      exact ei_zm (.inr rfl) (.inl rfl) (ed_var rfl) (ed_var rfl)
    · have e0 : ((L.map fun p => (p, Sh.lf g p)).filter fun z => decide (z.2 ≤ 0)).map (fun z => dP3 z.1) = (cutF g L 0).map dP3 := by
        unfold cutF
        rw [List.filter_map, List.map_map]
        simp
        rfl
      rw [e0]
      refine s_for (xs := L.zipIdx) (enc := fun z => PyData.tuple [.int (z.2 : Int), dP3 z.1]) (as := fun z => [(4, .int (z.2 : Int)), (5, dP3 z.1)]) (fun _ => [some (dT3 L), some (dP3 (g.1, g.2, 0)), some (.list (L.map fun p => .int (Sh.lf g p))), none, none, none, none, none]) (fun i => some (3, (cutF g L i).map dP3)) ?_ (fun _ _ => tg_tup (tgs_cons tg_name (tgs_cons tg_name tgs_nil))) (fun _ _ _ => rfl) (LeD.refl _) rfl (fun i z hz G' D' h1 h2 => ?_) ?_
      · have e : L.zipIdx.map (fun z => PyData.tuple [.int (z.2 : Int), dP3 z.1]) = (L.map dP3).zipIdx.map fun p => PyData.tuple [.int (p.2 : Int), p.1] := by
          rw [List.zipIdx_map, List.map_map]
          rfl
        rw [e]
        exact ei_en (ed_var rfl)
      · rw [List.getElem?_zipIdx] at hz
        cases hp : L[i]? with
        | none =>
          rw [hp] at hz
          cases hz
        | some p =>
          rw [hp] at hz
          have ez : z = (p, i) := by
            have := Option.some.inj hz
            rw [← this]
            simp
          subst ez
          have li : i < L.length := (List.getElem?_eq_some_iff.mp hp).1
          obtain ⟨e, he⟩ : ∃ e, (Sh.cyc L)[i]? = some e := ⟨_, List.getElem?_eq_getElem (by rw [cyc_len]; exact li)⟩
          obtain ⟨c1, c2⟩ := cyc_get he
          have ep : e.1 = p := by rw [hp] at c1; exact (Option.some.inj c1).symm
          have m2 : e.2 ∈ L := by
            split at c2
            · exact List.mem_of_getElem? c2
            · exact List.mem_of_getElem? c2
          have tk : cutF g L (i + 1) = cutF g L i ++ if Sh.opp g e.1 e.2 then [Sh.crossPt g e.1 e.2] else [] := by
            unfold cutF
            rw [take_snoc he, List.flatMap_append, ← List.append_assoc]
            simp
          refine s_par (d := .int (Sh.lf g p)) (e := .int (Sh.lf g e.2)) (ea_cons (ed_ixL (atI_nat (get_map (fun p => PyData.int (Sh.lf g p)) hp)) (ed_var rfl) (ed_var rfl)) (ea_cons (ed_if (eb_test (ed_lt (ed_add (ed_var rfl) ed_int) (ed_len (.inl rfl) (ed_var rfl)))) (fun q => ?_) (fun q => ?_)) ea_nil)) ?_
          · have c : i + 1 < L.length := by simp at q; omega
            rw [if_pos c] at c2
            exact ed_ixL (show atI (L.map fun p => PyData.int (Sh.lf g p)) ((i : Int) + 1) = some (.int (Sh.lf g e.2)) from by rw [show (i : Int) + 1 = ((i + 1 : Nat) : Int) by omega]; exact atI_nat (get_map (fun p => PyData.int (Sh.lf g p)) c2)) (ed_var rfl) (ed_add (ed_var rfl) ed_int)
          · have c : ¬ i + 1 < L.length := by simp at q; omega
            rw [if_neg c] at c2
            exact ed_ixL (atI_nat (j := 0) (get_map (fun p => PyData.int (Sh.lf g p)) c2)) (ed_var rfl) ed_int
          · refine w_if (eb_or (eb_and (eb_test (ed_lt (ed_var rfl) ed_int)) fun _ => eb_test (ed_gt (ed_var rfl) ed_int)) fun _ => eb_and (eb_test (ed_gt (ed_var rfl) ed_int)) fun _ => eb_test (ed_lt (ed_var rfl) ed_int)) (fun q => ?_) (fun q => w_next ?_)
            · have o : Sh.opp g p e.2 := by
                unfold Sh.opp
                simpa using q
              refine w_app (u_line_point (ed_var rfl) (u_next_corner (ed_var rfl) (ed_var rfl) he) (ed_var rfl) hn (hL.bp p (List.mem_of_getElem? hp)) (hL.bp _ m2) o) (by rw [List.length_map]; have := cutF_len g L i; omega) (w_end (h2.trans ?_) (led_same (led_same (led_same (led_no (led_no (led_no (led_no (led_no led_nil)))))))))
              rw [tk, ep, if_pos o, List.map_append]
              rfl
            · have o : ¬ Sh.opp g p e.2 := by
                unfold Sh.opp
                simp at q
                omega
              refine w_end (h2.trans ?_) (led_same (led_same (led_same (led_no (led_no (led_no (led_no (led_no led_nil))))))))
              rw [tk, ep, if_neg o, List.append_nil]
      · rw [List.length_zipIdx, cutF_all]
        refine w_ret (ed_if (eb_test (ed_eqD (p3_shL _) nil_shL (ed_var rfl) (en_lst ea_nil (by show 0 ≤ 100000; decide)).dat)) (fun q => ?_) (fun q => ?_)) hQ
        · rw [eqvL_nil] at q
          have e : Sh.progFound g L = [] := by simpa using q
          unfold Sh.progCut
          rw [if_pos e]
          exact ed_non
        · rw [eqvL_nil] at q
          have e : Sh.progFound g L ≠ [] := by simpa using q
          unfold Sh.progCut
          rw [if_neg e]
          refine u_hull (ed_var rfl) e ?_ fun s hs => ?_
          · have := cutF_len g L L.length
            rw [cutF_all] at this
            omega
          · obtain ⟨a, b, c⟩ := Sh.found_small hf hn hL.po s hs
            have d := ((Sh.prog_cutting g L).pts hL.po.pts s hs).1
            exact ⟨⟨d, c.2⟩, bg_of ⟨by omega, by omega⟩, bg_of ⟨by omega, by omega⟩⟩
end
end Wk
end
section
set_option Elab.async false
set_option linter.all false
set_option maxRecDepth 100000
namespace Wk
open PySem PySem.Spec PyProof.Rows L2 Evl

/-! ### short words: the first of a search, an item stored, a list let go -/
theorem fs_at {α β : Type} {f : α → Option β} : ∀ (l : List α) (i : Nat) {x : α} {y : β}, l[i]? = some x → f x = some y → (∀ j z, j < i → l[j]? = some z → f z = none) → l.findSome? f = some y
  | [], i, _, _, h, _, _ => by simp at h
  | a :: l, 0, x, y, h, hf, _ => by
    have e : a = x := by simpa using h
    subst e
    simp [List.findSome?, hf]
  | a :: l, i + 1, x, y, h, hf, hb => by
    have h0 := hb 0 a (by omega) rfl
    simp only [List.findSome?, h0]
    exact fs_at l i (by simpa using h) hf fun j z lt hz => hb (j + 1) z (by omega) (by simpa using hz)
theorem fs_no {α β : Type} {f : α → Option β} : ∀ (l : List α), (∀ j z, j < l.length → l[j]? = some z → f z = none) → l.findSome? f = none
  | [], _ => rfl
  | a :: l, hb => by
    have h0 := hb 0 a (by simp) rfl
    simp only [List.findSome?, h0]
    exact fs_no l fun j z lt hz => hb (j + 1) z (by simpa using lt) (by simpa using hz)
theorem nat_least {p : Nat → Prop} : ∀ n, p n → ∃ m, m ≤ n ∧ p m ∧ ∀ k, k < m → ¬ p k
  | 0, h => ⟨0, Nat.le_refl _, h, fun k hk => by omega⟩
  | n + 1, h => by
    rcases Classical.em (∃ k, k ≤ n ∧ p k) with ⟨k, hk, hp⟩ | no
    · obtain ⟨m, a, b, c⟩ := nat_least k hp
      exact ⟨m, by omega, b, c⟩
    · exact ⟨n + 1, Nat.le_refl _, h, fun k hk hp => no ⟨k, by omega, hp⟩⟩
theorem pair_ex (bad : Nat → Nat → Prop) (n : Nat) : ∃ r, Sh.IsPair bad n r := by
  rcases Classical.em (∃ i j, i ≤ j ∧ j < n ∧ bad i j) with ⟨i, j, a, b, c⟩ | no
  · obtain ⟨i0, _, ⟨j1, p1, p2, p3⟩, hi⟩ := nat_least (p := fun i => ∃ j, i ≤ j ∧ j < n ∧ bad i j) i ⟨j, a, b, c⟩
    obtain ⟨j0, _, ⟨q1, q2, q3⟩, hj⟩ := nat_least (p := fun j => i0 ≤ j ∧ j < n ∧ bad i0 j) j1 ⟨p1, p2, p3⟩
    refine ⟨some (i0, j0), ⟨fun e => (by cases e), fun i' j' e => ?_⟩⟩
    cases e
    refine ⟨q1, q2, q3, fun i2 j2 h1 h2 h3 hb => ?_⟩
    rcases h3 with h3 | ⟨h3, h4⟩
    · exact hi i2 h3 ⟨j2, h1, h2, hb⟩
    · subst h3
      exact hj j2 h4 ⟨h1, h2, hb⟩
  · exact ⟨none, ⟨fun _ i j a b c => no ⟨i, j, a, b, c⟩, fun i j e => (by cases e)⟩⟩
section
variable {K : PySem.W.Frag} {X : List Addr} {H0 G : Hp} {ss : SD} {mu : Mu} {te : TE} {D : Ends} {P : L2.St → Hp → Prop} {n m : Nat}
theorem w_lose {p : Nat × List PyData} (k : Wp K X H0 G P ss none) : Wp K X H0 G P ss (some p) := fun σ H r => by
  obtain ⟨O, e0, l, xs, hl, hs, hx, eg, ha, S⟩ := r
  exact k σ H ⟨O, e0, eg.trans hd_tail, S.mono hd_tail⟩
theorem s_aug {es : List PyData} {j : Nat} {a b : Int} {tz : TS} (hi : ss[m]? = some (some (.int (j : Int)))) (hj : es[j]? = some (.int a)) (he : EvD K te ss (.int b)) (k : Wp K X H0 G (tz D) ss (some (n, es.set j (.int (a + b))))) :
    Wp K X H0 G (tSeq (tAugS (tVar n) (tVar m) te (fun o i H Q => ∃ (l : Addr) (xs : List V) (j : Nat) (v : V), o = .ref l ∧ i = .int (j : Int) ∧ H l = some (.lst xs) ∧ xs[j]? = some v ∧ Q v H) (ipI fun i j => i + j) rSetL) tz D) ss (some (n, es)) := fun σ H r => by
  obtain ⟨O, e0, l, xs, hl0, hs, hx, eg, ha, S⟩ := r
  obtain ⟨vi, h1, h2⟩ := S.var hi
  obtain ⟨vj, h3, h4⟩ := dpa_get ha hj
  refine ⟨.ref l, hs, vi, h1, l, xs, j, vj, rfl, dp_int h2, hx, h3, he (l :: X) σ H (own_cons (O.mono e0) (by rw [hx]; exact fun z => by cases z)) S _ fun v H1 e1 hv => ⟨a, b, dp_int h4, dp_int hv, l, xs, (j : Int), j, rfl, dp_int h2, e1 _ _ hx, ?_, ?_⟩⟩
  · exact ixN_nat (List.getElem?_eq_some_iff.mp h3).1
  · refine k σ _ ⟨O, Ex.mut (e0.trans e1) hl0, l, _, hl0, hs, upd_same, ?_, ?_, ?_⟩
    · rw [hd_upd List.mem_cons_self]
      exact eg.trans (hd_mono e1)
    · rw [hd_upd List.mem_cons_self]
      exact dpa_set _ (dpAll_mono (hd_mono e1) _ _ ha) (.int _)
    · rw [hd_upd List.mem_cons_self]
      exact S.mono (hd_mono e1)
end
theorem bz_sum {n : Nat} : ∀ {l : List Int}, (∀ x ∈ l, Bz n x) → Bz (n + l.length) l.sum
  | [], _ => by
    show (0 : Int).natAbs < 2 ^ (n + 0)
    exact Nat.two_pow_pos _
  | x :: l, h => by
    have h1 : x.natAbs < 2 ^ n := h x List.mem_cons_self
    have h2 : l.sum.natAbs < 2 ^ (n + l.length) := bz_sum fun y hy => h y (List.mem_cons_of_mem _ hy)
    have h3 : 2 ^ n ≤ 2 ^ (n + l.length) := Nat.pow_le_pow_right (by decide) (Nat.le_add_right _ _)
    have h4 := Int.natAbs_add_le x l.sum
    show (x :: l).sum.natAbs < 2 ^ (n + (l.length + 1))
    rw [List.sum_cons, ← Nat.add_assoc, Nat.pow_succ]
    omega
section
variable {P : Program} {w : World} {K : PySem.W.Frag} {mg : Str → Option Value} {base : Heap}
/-! ### the shores -/
abbrev P3 := Int × Int × Int
def fsOf (sh : List P3) : List (Int × Int) := sh.map fun s => (s.1, s.2.1)
structure Bo (s : P3) : Prop where
  ne : ((s.1, s.2.1) : Int × Int) ≠ (0, 0)
  nr : Sh.nrm (s.1, s.2.1)
  c : Bz 20 s.2.2
theorem Bo.q {s : P3} (h : Bo s) : Bq s := ⟨(nrm_q h.nr).1, (nrm_q h.nr).2.1, h.c⟩
structure Shs (sh : List P3) : Prop where
  ne : sh ≠ []
  len : sh.length ≤ 8
  bo : ∀ s ∈ sh, Bo s
  g : ∀ s ∈ sh, Sh.g3 s = 1
structure Vel (L : List P3) : Prop where
  pg : Pg L
  po : Sh.Poly L
  len : L.length ≤ 8
theorem okf_of {sh : List P3} (h : ∀ s ∈ sh, Bo s) : Sh.Okf (fsOf sh) := fun f hf => by
  obtain ⟨s, hs, rfl⟩ := List.mem_map.mp hf
  exact ⟨(h s hs).ne, (h s hs).nr⟩
def f_check_shores : List PyData → PyData → Prop := fun ds r => ∃ sh, Shs sh ∧ ds = [dT3 sh] ∧ r = .none
theorem u_check_shores {ss : SD} {t : TE} {E : XK} {sh : List P3} (h : EvD K t ss (dT3 sh)) (p : Shs sh) : EvD K (tCall (spD K f_check_shores) [] E (tCons t tNil)) ss .none := ed_call (ea_cons h ea_nil) ⟨sh, p, rfl, rfl⟩
abbrev s_check_shores : Stmt := topL 28
theorem sc_check_shores : FnScope ["value", "at", "shore"] ["value"] (defScope s_check_shores) := ⟨rfl, rfl, rfl, by decide +kernel, rfl, by decide +kernel, by decide +kernel⟩
theorem ok_check_shores {f : Addr} {fd : FuncData} (F : Dfn K mg "check_shores" s_check_shores f fd ["value"]) (B : Bt mg) (c_is_border : Cal P w K mg base 3 "is_border" ["value"] (spD K f_is_border)) : Cal P w K mg base 4 "check_shores" ["value"] (spD K f_check_shores) := by
  refine calD F sc_check_shores (fun ds r h => ?_) fun cdv A outer s H E hr => ⟨_, (pss_cons (ps_if ((pw_or (pt_not (pt_val (pe_callB call_isi (by rfl) B.m_isinstance PyProof.Rows.boot_isinstance (pa_cons (pv 0) (pa_cons (pe_bltn (v := .ty "tuple") (by rfl) B.m_tuple PySem.Pv.boot_tuple rfl) pa_nil))))) (pw_or1 (pt_cmpR (op_eqD hr.units) (pv 0) (pe_tup pa_nil) (nomark _))))).pt
     (pss_one ps_never)
     pss_nil)
     (pss_one (ps_for PassesOwn.never rfl (pi_enT (by rfl) B.m_enumerate (pa_cons (pv 0) pa_nil)) (pg_tup rfl (pgs_cons (pg_name (i := 1) sc_check_shores.nd rfl (Or.inl rfl) (Or.inl rfl)) (pgs_cons (pg_name (i := 2) sc_check_shores.nd rfl (Or.inl rfl) (Or.inl rfl)) pgs_nil)))
     (pss_one (ps_if ((pw_or (pt_cmpR op_eq (pv 1) (pe_gc (by rfl) B.most) (nomark _)) (pw_or1 (pt_not (pt_val (pe_c c_is_border hr (by decide) (by rfl) (pa_cons (pv 2) pa_nil))))))).pt
     (pss_one ps_never)
     pss_nil))))), fun X ds r D hp hQ hN => ?_⟩
  · obtain ⟨sh, _, rfl, _⟩ := h
    rfl
  · obtain ⟨sh, hs, rfl, rfl⟩ := hp
    refine s_when (b := false) (eb_is (eb_or (eb_not (eb_B (ed_isi (d := dT3 sh) kb_tt (ed_var rfl)))) fun _ => eb_test (ed_eqD (p3_shT sh) nil_shT (ed_var rfl) (ed_tup ea_nil (by show 0 ≤ 100000; decide)))) ?_) (fun q => nomatch q) fun _ => ?_
    · rw [eqvT_nil]
      cases hL : sh with
      | nil => exact absurd hL hs.ne
      | cons x r => rfl
    · refine w_for (xs := sh.zipIdx) (enc := fun z => PyData.tuple [.int (z.2 : Int), dP3 z.1]) (as := fun z => [(1, .int (z.2 : Int)), (2, dP3 z.1)]) (fun _ => [some (dT3 sh), none, none]) (fun i => none) ?_ (fun _ _ => tg_tup (tgs_cons tg_name (tgs_cons tg_name tgs_nil))) (fun _ _ _ => rfl) (LeD.refl _) rfl (fun i z hz G' D' h1 h2 => ?_) (fun σ H1 r => hN σ H1 r.2.1 rfl)
      · have e : sh.zipIdx.map (fun z => PyData.tuple [.int (z.2 : Int), dP3 z.1]) = (sh.map dP3).zipIdx.map fun p => PyData.tuple [.int (p.2 : Int), p.1] := by
          rw [List.zipIdx_map, List.map_map]
          rfl
        rw [e]
        exact ei_en (ed_var rfl)
      · rw [List.getElem?_zipIdx] at hz
        cases hp : sh[i]? with
        | none =>
          rw [hp] at hz
          cases hz
        | some s =>
          rw [hp] at hz
          have ez : z = (s, i) := by
            have := Option.some.inj hz
            rw [← this]
            simp
          subst ez
          have li : i < sh.length := (List.getElem?_eq_some_iff.mp hp).1
          have bo := hs.bo s (List.mem_of_getElem? hp)
          have g1 := hs.g s (List.mem_of_getElem? hp)
          refine w_if (b := false) (eb_is (eb_or (eb_test (ed_eqI (ed_var rfl) ed_int)) fun _ => eb_not (eb_B (u_is_border (ed_var rfl)))) ?_) (fun q => nomatch q) fun _ => w_next (w_end h2 (led_same (led_no (led_no led_nil))))
          have h8 := hs.len
          have n8 : ¬ ((i : Int) = 8) := by omega
          have nz := bo.ne
          simp only [n8, decide_false, Bool.false_or, g1, decide_true, Bool.and_true, Bool.not_not]
          by_cases c1 : s.1 = 0
          · by_cases c2 : s.2.1 = 0
            · exact absurd (by rw [c1, c2]) nz
            · simp [c2]
          · simp [c1]
/-! ### part_off, holds_off, held_with -/
def f_part_off : List PyData → PyData → Prop := fun ds r => ∃ L sh : List P3, Sh.Poly L ∧ L.length ≤ 8 ∧ sh.length ≤ 8 ∧ (∀ s ∈ sh, Bo s) ∧ ds = [dT3 L, dT3 sh] ∧ r = optT (Sh.partOff (some L) (fsOf sh))
theorem u_part_off {ss : SD} {t u : TE} {E : XK} {L sh : List P3} (h : EvD K t ss (dT3 L)) (h' : EvD K u ss (dT3 sh)) (hL : Sh.Poly L) (l1 : L.length ≤ 8) (l2 : sh.length ≤ 8) (hb : ∀ s ∈ sh, Bo s) : EvD K (tCall (spD K f_part_off) [] E (tCons t (tCons u tNil))) ss (optT (Sh.partOff (some L) (fsOf sh))) := ed_call (ea_cons h (ea_cons h' ea_nil)) ⟨L, sh, hL, l1, l2, hb, rfl, rfl⟩
abbrev s_part_off : Stmt := topL 29
theorem sc_part_off : FnScope ["velocities", "shores", "found", "a", "b", "_"] ["velocities", "shores"] (defScope s_part_off) := ⟨rfl, rfl, rfl, by decide +kernel, rfl, by decide +kernel, by decide +kernel⟩
theorem ok_part_off {f : Addr} {fd : FuncData} (F : Dfn K mg "part_off" s_part_off f fd ["velocities", "shores"]) (B : Bt mg) (c_cut : Cal P w K mg base 4 "cut" ["polygon", "side"] (spD K f_cut)) : Cal P w K mg base 5 "part_off" ["velocities", "shores"] (spD K f_part_off) := by
  refine calD F sc_part_off (fun ds r h => ?_) fun cdv A outer s H E hr => ⟨_, (pss_cons (ps_set (i := 2) sc_part_off.nd rfl (Or.inl rfl) (pv 0))
     (pss_cons (ps_for PassesOwn.never rfl (pi_tup (pv 1)) (pg_tup rfl (pgs_cons (pg_name (i := 3) sc_part_off.nd rfl (Or.inl rfl) (Or.inl rfl)) (pgs_cons (pg_name (i := 4) sc_part_off.nd rfl (Or.inl rfl) (Or.inl rfl)) (pgs_cons (pg_name (i := 5) sc_part_off.nd rfl (Or.inl rfl) (Or.inl rfl)) pgs_nil))))
     (pss_one (ps_set (i := 2) sc_part_off.nd rfl (Or.inl rfl) (pe_ifExp (pt_cmpR op_isN (pv 2) pe_non (nomark _)) pe_non (pe_c c_cut hr (by decide) (by rfl) (pa_cons (pv 2) (pa_cons (pe_tup (pa_cons (pv 3) (pa_cons (pv 4) (pa_cons pe_int pa_nil)))) pa_nil)))))))
     (pss_one (ps_ret (pv 2))))), fun X ds r D hp hQ hN => ?_⟩
  · obtain ⟨L, sh, _, _, _, _, rfl, _⟩ := h
    rfl
  · obtain ⟨L, sh, hL, l1, l2, hb, rfl, rfl⟩ := hp
    refine s_asg (ed_var rfl) (s_for (xs := sh) (enc := dP3) (as := fun s => [(3, .int s.1), (4, .int s.2.1), (5, .int s.2.2)]) (fun i => [some (dT3 L), some (dT3 sh), some (optT (Sh.partOff (some L) (fsOf (sh.take i)))), none, none, none]) (fun i => none) (ei_tup (ed_var rfl)) (fun _ _ => tg_tup (tgs_cons tg_name (tgs_cons tg_name (tgs_cons tg_name tgs_nil)))) (fun _ _ _ => rfl) (LeD.refl _) rfl (fun i s hs G' D' h1 h2 => ?_) ?_)
    · have bs := hb s (List.mem_of_getElem? hs)
      have nx : Sh.partOff (some L) (fsOf (sh.take (i + 1))) = (Sh.partOff (some L) (fsOf (sh.take i))).bind fun M => Sh.progCut (s.1, s.2.1) M := by
        rw [take_snoc hs]
        unfold fsOf Sh.partOff
        rw [List.map_append, List.foldl_append]
        rfl
      have okT : Sh.Okf (fsOf (sh.take i)) := okf_of fun q hq => hb q (List.mem_of_mem_take hq)
      rw [nx] at h2
      cases ho : Sh.partOff (some L) (fsOf (sh.take i)) with
      | none =>
        rw [ho] at h2
        exact w_asg (ed_if (b := true) (eb_test (ed_isN (d := .none) (ed_var rfl))) (fun _ => ed_non) (fun q => nomatch q)) (w_end h2 (led_same (led_same (led_same (led_no (led_no (led_no led_nil)))))))
      | some M =>
        rw [ho] at h2
        obtain ⟨k1, k2, _⟩ := Sh.prog_told hL okT ho
        have k3 : (fsOf (sh.take i)).length ≤ 8 := by
          unfold fsOf
          rw [List.length_map, List.length_take]
          omega
        refine w_asg (ed_if (b := false) (eb_test (ed_isN (d := dT3 M) (ed_var rfl))) (fun q => nomatch q) (fun _ => u_cut (ed_var rfl) (ed_tup (ea_cons (ed_var rfl) (ea_cons (ed_var rfl) (ea_cons ed_int ea_nil))) (by show 3 ≤ 100000; decide)) ⟨k1, by omega⟩ bs.ne bs.nr)) (w_end h2 (led_same (led_same (led_same (led_no (led_no (led_no led_nil)))))))
    · rw [List.take_of_length_le (Nat.le_refl _)]
      exact w_ret (ed_var rfl) hQ
def f_holds_off : List PyData → PyData → Prop := fun ds r => ∃ L sh : List P3, Vel L ∧ Shs sh ∧ ds = [dT3 L, dT3 sh] ∧ r = .bool (decide (Sh.partOff (some L) (fsOf sh) ≠ none))
theorem u_holds_off {ss : SD} {t u : TE} {E : XK} {L sh : List P3} (h : EvD K t ss (dT3 L)) (h' : EvD K u ss (dT3 sh)) (hL : Vel L) (hs : Shs sh) : EvD K (tCall (spD K f_holds_off) [] E (tCons t (tCons u tNil))) ss (.bool (decide (Sh.partOff (some L) (fsOf sh) ≠ none))) := ed_call (ea_cons h (ea_cons h' ea_nil)) ⟨L, sh, hL, hs, rfl, rfl⟩
theorem isNo_opt (o : Option (List P3)) : isNo (optT o) = decide (o = none) := by cases o <;> simp [optT, isNo]
abbrev s_holds_off : Stmt := topL 30
theorem sc_holds_off : FnScope ["velocities", "shores"] ["velocities", "shores"] (defScope s_holds_off) := ⟨rfl, rfl, rfl, by decide +kernel, rfl, by decide +kernel, by decide +kernel⟩
theorem ok_holds_off {f : Addr} {fd : FuncData} (F : Dfn K mg "holds_off" s_holds_off f fd ["velocities", "shores"]) (B : Bt mg) (c_check_polygon : Cal P w K mg base 5 "check_polygon" ["value"] (spD K f_check_polygon)) (c_check_shores : Cal P w K mg base 4 "check_shores" ["value"] (spD K f_check_shores)) (c_part_off : Cal P w K mg base 5 "part_off" ["velocities", "shores"] (spD K f_part_off)) : Cal P w K mg base 6 "holds_off" ["velocities", "shores"] (spD K f_holds_off) := by
  refine calD F sc_holds_off (fun ds r h => ?_) fun cdv A outer s H E hr => ⟨_, (pss_cons (ps_expr (pe_c c_check_polygon hr (by decide) (by rfl) (pa_cons (pv 0) pa_nil)))
     (pss_cons (ps_expr (pe_c c_check_shores hr (by decide) (by rfl) (pa_cons (pv 1) pa_nil)))
     (pss_one (ps_ret (pe_cmpR op_notN (pe_c c_part_off hr (by decide) (by rfl) (pa_cons (pv 0) (pa_cons (pv 1) pa_nil))) pe_non (nomark _)))))), fun X ds r D hp hQ hN => ?_⟩
  · obtain ⟨L, sh, _, _, rfl, _⟩ := h
    rfl
  · obtain ⟨L, sh, hL, hs, rfl, rfl⟩ := hp
    refine s_drop (u_check_polygon (ed_var rfl) hL.pg) (s_drop (u_check_shores (ed_var rfl) hs) (w_ret (ed_is (ed_notN (u_part_off (ed_var rfl) (ed_var rfl) hL.po hL.len hs.len hs.bo)) ?_) hQ))
    rw [isNo_opt]
    simp
def heldD : Option (List P3) → PyData
  | some (p :: _) => dP3 p
  | _ => .none
def f_held_with : List PyData → PyData → Prop := fun ds r => ∃ L sh : List P3, Vel L ∧ Shs sh ∧ ds = [dT3 L, dT3 sh] ∧ r = heldD (Sh.partOff (some L) (fsOf sh))
theorem u_held_with {ss : SD} {t u : TE} {E : XK} {L sh : List P3} (h : EvD K t ss (dT3 L)) (h' : EvD K u ss (dT3 sh)) (hL : Vel L) (hs : Shs sh) : EvD K (tCall (spD K f_held_with) [] E (tCons t (tCons u tNil))) ss (heldD (Sh.partOff (some L) (fsOf sh))) := ed_call (ea_cons h (ea_cons h' ea_nil)) ⟨L, sh, hL, hs, rfl, rfl⟩
abbrev s_held_with : Stmt := topL 31
theorem sc_held_with : FnScope ["velocities", "shores", "found"] ["velocities", "shores"] (defScope s_held_with) := ⟨rfl, rfl, rfl, by decide +kernel, rfl, by decide +kernel, by decide +kernel⟩
theorem ok_held_with {f : Addr} {fd : FuncData} (F : Dfn K mg "held_with" s_held_with f fd ["velocities", "shores"]) (B : Bt mg) (c_check_polygon : Cal P w K mg base 5 "check_polygon" ["value"] (spD K f_check_polygon)) (c_check_shores : Cal P w K mg base 4 "check_shores" ["value"] (spD K f_check_shores)) (c_part_off : Cal P w K mg base 5 "part_off" ["velocities", "shores"] (spD K f_part_off)) : Cal P w K mg base 6 "held_with" ["velocities", "shores"] (spD K f_held_with) := by
  refine calD F sc_held_with (fun ds r h => ?_) fun cdv A outer s H E hr => ⟨_, (pss_cons (ps_expr (pe_c c_check_polygon hr (by decide) (by rfl) (pa_cons (pv 0) pa_nil)))
     (pss_cons (ps_expr (pe_c c_check_shores hr (by decide) (by rfl) (pa_cons (pv 1) pa_nil)))
     (pss_cons (ps_set (i := 2) sc_held_with.nd rfl (Or.inl rfl) (pe_c c_part_off hr (by decide) (by rfl) (pa_cons (pv 0) (pa_cons (pv 1) pa_nil))))
     (pss_one (ps_ret (pe_ifExp (pt_cmpR op_isN (pv 2) pe_non (nomark _)) pe_non (pe_ix ix_tup (pv 2) pe_int (fun _ _ => rfl)))))))), fun X ds r D hp hQ hN => ?_⟩
  · obtain ⟨L, sh, _, _, rfl, _⟩ := h
    rfl
  · obtain ⟨L, sh, hL, hs, rfl, rfl⟩ := hp
    refine s_drop (u_check_polygon (ed_var rfl) hL.pg) (s_drop (u_check_shores (ed_var rfl) hs) (s_asg (u_part_off (ed_var rfl) (ed_var rfl) hL.po hL.len hs.len hs.bo) ?_))
    cases ho : Sh.partOff (some L) (fsOf sh) with
    | none =>
      rw [ho] at hQ
      exact w_ret (ed_if (b := true) (eb_test (ed_isN (d := .none) (ed_var rfl))) (fun _ => ed_non) (fun q => nomatch q)) hQ
    | some M =>
      rw [ho] at hQ
      obtain ⟨k1, _, _⟩ := Sh.prog_told hL.po (okf_of hs.bo) ho
      cases M with
      | nil => exact absurd rfl k1.ne
      | cons p r => exact w_ret (ed_if (b := false) (eb_test (ed_isN (d := dT3 (p :: r)) (ed_var rfl))) (fun q => nomatch q) (fun _ => ed_ixT (d := dP3 p) (atI_nat (j := 0) rfl) (ed_var rfl) ed_int)) hQ
end
end Wk
end
section
set_option Elab.async false
set_option linter.all false
set_option maxRecDepth 100000
namespace Wk
open PySem PySem.Spec PyProof.Rows L2 Evl

def pairD : Option (Nat × Nat) → PyData
  | none => .none
  | some p => .tuple [.int (p.1 : Int), .int (p.2 : Int)]
/-- nothing is left of L by the i-th and the j-th shore -/
def badP (L sh : List P3) (i j : Nat) : Prop := ∃ s t, sh[i]? = some s ∧ sh[j]? = some t ∧ Sh.partOff (some L) (fsOf [s, t]) = none
section
variable {P : Program} {w : World} {K : PySem.W.Frag} {mg : Str → Option Value} {base : Heap}
def f_pair_against : List PyData → PyData → Prop := fun ds r => ∃ (L sh : List P3) (o : Option (Nat × Nat)), Sh.Poly L ∧ L.length ≤ 8 ∧ sh.length ≤ 8 ∧ (∀ s ∈ sh, Bo s) ∧ Sh.IsPair (badP L sh) sh.length o ∧ ds = [dT3 L, dT3 sh] ∧ r = pairD o
theorem u_pair_against {ss : SD} {t u : TE} {E : XK} {L sh : List P3} {o : Option (Nat × Nat)} (h : EvD K t ss (dT3 L)) (h' : EvD K u ss (dT3 sh)) (hL : Sh.Poly L) (l1 : L.length ≤ 8) (l2 : sh.length ≤ 8) (hb : ∀ s ∈ sh, Bo s) (ho : Sh.IsPair (badP L sh) sh.length o) : EvD K (tCall (spD K f_pair_against) [] E (tCons t (tCons u tNil))) ss (pairD o) := ed_call (ea_cons h (ea_cons h' ea_nil)) ⟨L, sh, o, hL, l1, l2, hb, ho, rfl, rfl⟩
/-- the first bad pair is the told one -/
theorem pair_hit {bad : Nat → Nat → Prop} {n i j : Nat} {o : Option (Nat × Nat)} (h : Sh.IsPair bad n o) (h1 : i ≤ j) (h2 : j < n) (hb : bad i j) (ho : ∀ i' j', i' < i → i' ≤ j' → j' < n → ¬ bad i' j') (hi : ∀ j', j' < j → i ≤ j' → ¬ bad i j') : o = some (i, j) := by
  refine h.uniq ⟨fun e => (by cases e), fun a b e => ?_⟩
  cases e
  refine ⟨h1, h2, hb, fun i' j' k1 k2 k3 => ?_⟩
  rcases k3 with k3 | ⟨rfl, k3⟩
  · exact ho i' j' k3 k1 k2
  · exact hi j' k3 k1
abbrev s_pair_against : Stmt := topL 32
theorem sc_pair_against : FnScope ["velocities", "shores", "one", "two"] ["velocities", "shores"] (defScope s_pair_against) := ⟨rfl, rfl, rfl, by decide +kernel, rfl, by decide +kernel, by decide +kernel⟩
theorem ok_pair_against {f : Addr} {fd : FuncData} (F : Dfn K mg "pair_against" s_pair_against f fd ["velocities", "shores"]) (B : Bt mg) (c_part_off : Cal P w K mg base 5 "part_off" ["velocities", "shores"] (spD K f_part_off)) : Cal P w K mg base 6 "pair_against" ["velocities", "shores"] (spD K f_pair_against) := by
  refine calD F sc_pair_against (fun ds r h => ?_) fun cdv A outer s H E hr => ⟨_, (pss_cons (ps_for PassesOwn.never rfl (pi_range1 (by rfl) B.m_range (pa_cons (pe_callB call_len_seq (by rfl) B.m_len PySem.boot_len (pa_cons (pv 1) pa_nil)) pa_nil)) (pg_name (i := 2) sc_pair_against.nd rfl (Or.inl rfl) (Or.inl rfl))
     (pss_one (ps_for PassesOwn.never rfl (pi_range2 (by rfl) B.m_range (pa_cons (pv 2) (pa_cons (pe_callB call_len_seq (by rfl) B.m_len PySem.boot_len (pa_cons (pv 1) pa_nil)) pa_nil))) (pg_name (i := 3) sc_pair_against.nd rfl (Or.inl rfl) (Or.inl rfl))
     (pss_one (ps_if (pt_cmpR op_isN (pe_c c_part_off hr (by decide) (by rfl) (pa_cons (pv 0) (pa_cons (pe_tup (pa_cons (pe_ix ix_tup (pv 1) (pv 2) (fun _ _ => rfl)) (pa_cons (pe_ix ix_tup (pv 1) (pv 3) (fun _ _ => rfl)) pa_nil))) pa_nil))) pe_non (nomark _))
     (pss_one (ps_ret (pe_tup (pa_cons (pv 2) (pa_cons (pv 3) pa_nil)))))
     pss_nil)))))
     (pss_one (ps_ret pe_non))), fun X ds r D hp hQ hN => ?_⟩
  · obtain ⟨L, sh, o, _, _, _, _, _, rfl, _⟩ := h
    rfl
  · obtain ⟨L, sh, o, hL, l1, l2, hb, ho, rfl, rfl⟩ := hp
    have ln : (sh.map dP3).length = sh.length := List.length_map _
    refine s_forP (xs := List.range sh.length) (enc := fun (k : Nat) => PyData.int (0 + (k : Int))) (as := fun (k : Nat) => [(2, .int (0 + (k : Int)))]) (fun _ => [some (dT3 L), some (dT3 sh), none, none]) (fun _ => none) (fun i => ∀ i' j', i' < i → i' ≤ j' → j' < sh.length → ¬ badP L sh i' j') ?_ (fun _ _ => tg_name) (fun _ _ _ => rfl) (LeD.refl _) rfl (fun i' j' q => by omega) (fun i x hx hJ G' D' h1 h2 => ?_) (fun hJ => ?_)
    · have e := ei_rng1 (K := K) (ss := [some (dT3 L), some (dT3 sh), none, none]) (ed_len (.inr rfl) (ed_var (i := 1) rfl)) ⟨Int.natCast_nonneg _, by rw [ln]; omega⟩
      rw [ln, Int.toNat_natCast] at e
      exact e
    · have lt : i < sh.length := by
        have := (List.getElem?_eq_some_iff.mp hx).1
        simpa using this
      have ex : x = i := by
        rw [List.getElem?_range lt] at hx
        exact (Option.some.inj hx).symm
      subst ex
      refine w_forP (xs := List.range (sh.length - x)) (enc := fun (k : Nat) => PyData.int (0 + (x : Int) + (k : Int))) (as := fun (k : Nat) => [(3, .int (0 + (x : Int) + (k : Int)))]) (fun _ => [some (dT3 L), some (dT3 sh), some (.int (0 + (x : Int))), none]) (fun _ => none) (fun k => ∀ j', j' < x + k → x ≤ j' → ¬ badP L sh x j') ?_ (fun _ _ => tg_name) (fun _ _ _ => rfl) (LeD.refl _) rfl (fun j' q1 q2 => by omega) (fun k y hy hK G2 D2 k1 k2 => ?_) (fun hK => w_endP h2 ?_ (led_same (led_same (led_no (led_no led_nil)))))
      · have e := ei_rng2 (K := K) (ss := [some (dT3 L), some (dT3 sh), some (.int (0 + (x : Int))), none]) (ed_var (i := 2) rfl) (ed_len (.inr rfl) (ed_var (i := 1) rfl)) ⟨by omega, by omega⟩ ⟨Int.natCast_nonneg _, by rw [ln]; omega⟩
        have en : (((sh.map dP3).length : Int) - (0 + (x : Int))).toNat = sh.length - x := by rw [ln]; omega
        rw [en] at e
        exact e
      · have lt2 : k < sh.length - x := by
          have := (List.getElem?_eq_some_iff.mp hy).1
          simpa using this
        have ey : y = k := by
          rw [List.getElem?_range lt2] at hy
          exact (Option.some.inj hy).symm
        subst ey
        have g1 : sh[x]? = some sh[x] := List.getElem?_eq_getElem lt
        have g2 : sh[x + y]? = some sh[x + y] := List.getElem?_eq_getElem (by omega)
        have i1 : atI (sh.map dP3) (0 + (x : Int)) = some (dP3 sh[x]) := by rw [Int.zero_add]; exact atI_nat (get_map dP3 g1)
        have i2 : atI (sh.map dP3) (0 + (x : Int) + (y : Int)) = some (dP3 sh[x + y]) := by
          rw [show (0 : Int) + (x : Int) + (y : Int) = ((x + y : Nat) : Int) by omega]
          exact atI_nat (get_map dP3 g2)
        refine w_if (b := decide (Sh.partOff (some L) (fsOf [sh[x], sh[x + y]]) = none)) (eb_is (eb_test (ed_isN (u_part_off (sh := [sh[x], sh[x + y]]) (ed_var rfl) (ed_tup (ea_cons (ed_ixT i1 (ed_var rfl) (ed_var rfl)) (ea_cons (ed_ixT i2 (ed_var rfl) (ed_var rfl)) ea_nil)) (by show 2 ≤ 100000; decide)) hL l1 (by show 2 ≤ 8; decide) fun s hs => ?_))) (isNo_opt _)) (fun q => ?_) (fun q => w_next (w_endP k2 ?_ (led_same (led_same (led_same (led_no led_nil))))))
        · rcases (by simpa using hs : s = sh[x] ∨ s = sh[x + y]) with rfl | rfl
          · exact hb _ (List.getElem_mem lt)
          · exact hb _ (List.getElem_mem (by omega))
        · have bad : badP L sh x (x + y) := ⟨_, _, g1, g2, of_decide_eq_true q⟩
          have eo := pair_hit ho (Nat.le_add_right x y) (by omega) bad hJ hK
          have hrt : ∀ v H', Ex H H' → Dq K (Hd X H') v (pairD o) → D2.rt v H' := by
            rw [k1, h1]
            exact hQ
          refine w_ret (ed_is (ed_tup (ea_cons (ed_var rfl) (ea_cons (ed_var rfl) ea_nil)) (by show 2 ≤ 100000; decide)) ?_) hrt
          rw [eo]
          show PyData.tuple [.int (0 + (x : Int)), .int (0 + (x : Int) + (y : Int))] = .tuple [.int (x : Int), .int ((x + y : Nat) : Int)]
          have e1 : (0 : Int) + (x : Int) = (x : Int) := by omega
          have e2 : (0 : Int) + (x : Int) + (y : Int) = ((x + y : Nat) : Int) := by omega
          rw [e2, e1]
        · intro j' q1 q2 hbad
          by_cases c : j' < x + y
          · exact hK j' c q2 hbad
          · have : j' = x + y := by omega
            subst this
            obtain ⟨s, t, a1, a2, a3⟩ := hbad
            rw [g1] at a1
            rw [g2] at a2
            cases a1
            cases a2
            exact of_decide_eq_false q a3
      · intro i' j' q1 q2 q3 hbad
        by_cases c : i' < x
        · exact hJ i' j' c q2 q3 hbad
        · have : i' = x := by omega
          subst this
          exact hK j' (by simp; omega) q2 hbad
    · have eo : o = none := by
        rcases ho' : o with _ | ⟨i, j⟩
        · rfl
        · obtain ⟨a, b, c, _⟩ := ho.yes i j ho'
          exact absurd c (hJ i j (by simp; omega) a b)
      rw [eo] at hQ
      exact w_ret ed_non hQ
def f_embayed_by : List PyData → PyData → Prop := fun ds r => ∃ (L sh : List P3) (o : Option (Nat × Nat)), Vel L ∧ Shs sh ∧ Sh.IsPair (badP L sh) sh.length o ∧ ds = [dT3 L, dT3 sh] ∧ r = pairD o
theorem u_embayed_by {ss : SD} {t u : TE} {E : XK} {L sh : List P3} {o : Option (Nat × Nat)} (h : EvD K t ss (dT3 L)) (h' : EvD K u ss (dT3 sh)) (hL : Vel L) (hs : Shs sh) (ho : Sh.IsPair (badP L sh) sh.length o) : EvD K (tCall (spD K f_embayed_by) [] E (tCons t (tCons u tNil))) ss (pairD o) := ed_call (ea_cons h (ea_cons h' ea_nil)) ⟨L, sh, o, hL, hs, ho, rfl, rfl⟩
abbrev s_embayed_by : Stmt := topL 33
theorem sc_embayed_by : FnScope ["velocities", "shores"] ["velocities", "shores"] (defScope s_embayed_by) := ⟨rfl, rfl, rfl, by decide +kernel, rfl, by decide +kernel, by decide +kernel⟩
theorem ok_embayed_by {f : Addr} {fd : FuncData} (F : Dfn K mg "embayed_by" s_embayed_by f fd ["velocities", "shores"]) (B : Bt mg) (c_check_polygon : Cal P w K mg base 5 "check_polygon" ["value"] (spD K f_check_polygon)) (c_check_shores : Cal P w K mg base 4 "check_shores" ["value"] (spD K f_check_shores)) (c_pair_against : Cal P w K mg base 6 "pair_against" ["velocities", "shores"] (spD K f_pair_against)) : Cal P w K mg base 7 "embayed_by" ["velocities", "shores"] (spD K f_embayed_by) := by
  refine calD F sc_embayed_by (fun ds r h => ?_) fun cdv A outer s H E hr => ⟨_, (pss_cons (ps_expr (pe_c c_check_polygon hr (by decide) (by rfl) (pa_cons (pv 0) pa_nil)))
     (pss_cons (ps_expr (pe_c c_check_shores hr (by decide) (by rfl) (pa_cons (pv 1) pa_nil)))
     (pss_one (ps_ret (pe_c c_pair_against hr (by decide) (by rfl) (pa_cons (pv 0) (pa_cons (pv 1) pa_nil))))))), fun X ds r D hp hQ hN => ?_⟩
  · obtain ⟨L, sh, o, _, _, _, rfl, _⟩ := h
    rfl
  · obtain ⟨L, sh, o, hL, hs, ho, rfl, rfl⟩ := hp
    exact s_drop (u_check_polygon (ed_var rfl) hL.pg) (s_drop (u_check_shores (ed_var rfl) hs) (w_ret (u_pair_against (ed_var rfl) (ed_var rfl) hL.po hL.len hs.len hs.bo ho) hQ))
/-! ### is_barred, check_weights, bars -/
structure Wts (sh : List P3) (ws : List Int) : Prop where
  len : ws.length = sh.length
  nn : ∀ v ∈ ws, 0 ≤ v
  bz : ∀ v ∈ ws, Bz 300 v
theorem wsum_zip (g : P3 → Int) : ∀ (ws : List Int) (sh : List P3), ((ws.zip sh).map fun z => z.1 * g z.2).sum = Sh.wsum g ws sh
  | [], _ => rfl
  | _ :: _, [] => rfl
  | v :: ws, s :: sh => by
    rw [List.zip_cons_cons, List.map_cons, List.sum_cons, wsum_zip g ws sh]
    rfl
theorem wsum_bz {g : P3 → Int} {ws : List Int} {sh : List P3} (h1 : ∀ v ∈ ws, Bz 300 v) (h2 : ∀ s ∈ sh, Bz 20 (g s)) (hl : sh.length ≤ 8) : Bz 400 (Sh.wsum g ws sh) := by
  rw [← wsum_zip]
  have hz : ∀ x ∈ (ws.zip sh).map fun z => z.1 * g z.2, Bz 320 x := fun x hx => by
    obtain ⟨z, hz, rfl⟩ := List.mem_map.mp hx
    obtain ⟨a, b⟩ := List.of_mem_zip hz
    exact bz_mul (h1 _ a) (h2 _ b)
  refine bz_le (bz_sum hz) ?_
  rw [List.length_map, List.length_zip]
  omega
def f_is_barred : List PyData → PyData → Prop := fun ds r => ∃ (L sh : List P3) (ws : List Int) (z : PyData), Sq z (dI ws) ∧ (∀ p ∈ L, Bq p) ∧ L.length ≤ 100 ∧ (∀ s ∈ sh, Bq s) ∧ sh.length ≤ 8 ∧ (∀ v ∈ ws, Bz 300 v) ∧ ds = [dT3 L, dT3 sh, z] ∧ r = .bool (Sh.isBarred L sh ws)
theorem u_is_barred {ss : SD} {t u v : TE} {E : XK} {L sh : List P3} {ws : List Int} {z : PyData} (h : EvD K t ss (dT3 L)) (h' : EvD K u ss (dT3 sh)) (h'' : EvD K v ss z) (sq : Sq z (dI ws)) (hL : ∀ p ∈ L, Bq p) (l1 : L.length ≤ 100) (hs : ∀ s ∈ sh, Bq s) (l2 : sh.length ≤ 8) (hw : ∀ v ∈ ws, Bz 300 v) : EvD K (tCall (spD K f_is_barred) [] E (tCons t (tCons u (tCons v tNil)))) ss (.bool (Sh.isBarred L sh ws)) := ed_call (ea_cons h (ea_cons h' (ea_cons h'' ea_nil))) ⟨L, sh, ws, z, sq, hL, l1, hs, l2, hw, rfl, rfl⟩
theorem ei_ws {ss : SD} {t u : TE} {sh : List P3} {ws : List Int} {z : PyData} (sq : Sq z (dI ws)) (h : EvD K t ss z) (h' : EvD K u ss (dT3 sh)) : EvI K (iZm K (tCons t (tCons u tNil))) ss ((ws.zip sh).map fun y => PyData.tuple [.int y.1, dP3 y.2]) := by
  have e : (ws.zip sh).map (fun y => PyData.tuple [.int y.1, dP3 y.2]) = ((dI ws).zip (sh.map dP3)).map fun p => PyData.tuple [p.1, p.2] := by
    unfold dI
    rw [List.zip_map, List.map_map]
    rfl
  rw [e]
  exact ei_zm sq (.inr rfl) h h'
abbrev s_is_barred : Stmt := topL 35
theorem sc_is_barred : FnScope ["velocities", "shores", "weights", "a", "b", "weight", "shore", "corner"] ["velocities", "shores", "weights"] (defScope s_is_barred) := ⟨rfl, rfl, rfl, by decide +kernel, rfl, by decide +kernel, by decide +kernel⟩
theorem ok_is_barred {f : Addr} {fd : FuncData} (F : Dfn K mg "is_barred" s_is_barred f fd ["velocities", "shores", "weights"]) (B : Bt mg) : Cal P w K mg base 1 "is_barred" ["velocities", "shores", "weights"] (spD K f_is_barred) := by
  refine calD F sc_is_barred (fun ds r h => ?_) fun cdv A outer s H E hr => ⟨_, (pss_cons (ps_set (i := 3) sc_is_barred.nd rfl (Or.inr rfl) (pe_callB (cr_sum rfl) (by rfl) B.m_sum PyProof.Rows.boot_sum (pa_cons (pe_lc (g := gTup K 2 (gCons (gName 5) (gCons (gName 6) gNil))) (own := [("weight", 5), ("shore", 6)]) rfl sc_is_barred.nd (pi_zipM (by rfl) B.m_zip (pa_cons (pv 2) (pa_cons (pv 1) pa_nil))) (blkOk_by (N := ["velocities", "shores", "weights", "a", "b", "weight", "shore", "corner"]) (sc := defScope s_is_barred) (by decide +kernel)) (fun _ _ _ _ _ => (pg_tup rfl (pgs_cons (pg_name (i := 5) sc_is_barred.nd rfl (Or.inl rfl) (Or.inr rfl)) (pgs_cons (pg_name (i := 6) sc_is_barred.nd rfl (Or.inl rfl) (Or.inr rfl)) pgs_nil)))) (fun _ _ _ _ _ => pts_nil) (fun _ _ _ _ _ => (pe_op op_mulW (pv 5) (pe_ix (r := rIxT K) ix_tup (pv 6) pe_int (fun _ _ => rfl))))) pa_nil)))
     (pss_cons (ps_set (i := 4) sc_is_barred.nd rfl (Or.inr rfl) (pe_callB (cr_sum rfl) (by rfl) B.m_sum PyProof.Rows.boot_sum (pa_cons (pe_lc (g := gTup K 2 (gCons (gName 5) (gCons (gName 6) gNil))) (own := [("weight", 5), ("shore", 6)]) rfl sc_is_barred.nd (pi_zipM (by rfl) B.m_zip (pa_cons (pv 2) (pa_cons (pv 1) pa_nil))) (blkOk_by (N := ["velocities", "shores", "weights", "a", "b", "weight", "shore", "corner"]) (sc := defScope s_is_barred) (by decide +kernel)) (fun _ _ _ _ _ => (pg_tup rfl (pgs_cons (pg_name (i := 5) sc_is_barred.nd rfl (Or.inl rfl) (Or.inr rfl)) (pgs_cons (pg_name (i := 6) sc_is_barred.nd rfl (Or.inl rfl) (Or.inr rfl)) pgs_nil)))) (fun _ _ _ _ _ => pts_nil) (fun _ _ _ _ _ => (pe_op op_mulW (pv 5) (pe_ix (r := rIxT K) ix_tup (pv 6) pe_int (fun _ _ => rfl))))) pa_nil)))
     (pss_one (ps_ret (pe_callB (cr_all rfl) (by rfl) B.m_all PyProof.Rows.boot_all (pa_cons (pe_lc (g := gName 7) (own := [("corner", 7)]) rfl sc_is_barred.nd (pi_tup (pv 0)) (blkOk_by (N := ["velocities", "shores", "weights", "a", "b", "weight", "shore", "corner"]) (sc := defScope s_is_barred) (by decide +kernel)) (fun _ _ _ _ _ => (pg_name (i := 7) sc_is_barred.nd rfl (Or.inl rfl) (Or.inr rfl))) (fun _ _ _ _ _ => pts_nil) (fun _ _ _ _ _ => (pe_cmpR op_gt (pe_op op_add (pe_op op_mulW (pv 3) (pe_ix (r := rIxT K) ix_tup (pv 7) pe_int (fun _ _ => rfl))) (pe_op op_mulW (pv 4) (pe_ix (r := rIxT K) ix_tup (pv 7) pe_int (fun _ _ => rfl)))) pe_int (nomark _)))) pa_nil)))))), fun X ds r D hp hQ hN => ?_⟩
  · obtain ⟨L, sh, ws, z, _, _, _, _, _, _, rfl, _⟩ := h
    rfl
  · obtain ⟨L, sh, ws, z, sq, hL, l1, hs, l2, hw, rfl, rfl⟩ := hp
    have lz : (ws.zip sh).length ≤ 50000 := by rw [List.length_zip]; omega
    have za : ∀ y ∈ ws.zip sh, Bz 300 y.1 ∧ Bq y.2 := fun y hy => ⟨hw _ (List.of_mem_zip hy).1, hs _ (List.of_mem_zip hy).2⟩
    have A : Bz 400 (Sh.wsum (fun s => s.1) ws sh) := wsum_bz hw (fun s h => (hs s h).1) l2
    have Bb : Bz 400 (Sh.wsum (fun s => s.2.1) ws sh) := wsum_bz hw (fun s h => (hs s h).2.1) l2
    refine s_asg (d := .int (Sh.wsum (fun s => s.1) ws sh)) (ed_is (ed_sums (xs := ws.zip sh) (f := fun y => y.1 * y.2.1) (en_map (xs := ws.zip sh) (enc := fun y => PyData.tuple [.int y.1, dP3 y.2]) (as := fun y => [(5, .int y.1), (6, dP3 y.2)]) (r := fun y => .int (y.1 * y.2.1)) (ei_ws sq (ed_var rfl) (ed_var rfl)) lz (fun _ _ => tg_tup (tgs_cons tg_name (tgs_cons tg_name tgs_nil))) (fun _ _ q hq => by simp at hq; rcases hq with rfl | rfl <;> simp) (fun y hy => ed_mul (cmw (za y hy).1 (za y hy).2.1) (ed_var rfl) (ed_ixT rfl (ed_var rfl) ed_int))).dat) (by rw [wsum_zip])) ?_
    refine s_asg (d := .int (Sh.wsum (fun s => s.2.1) ws sh)) (ed_is (ed_sums (xs := ws.zip sh) (f := fun y => y.1 * y.2.2.1) (en_map (xs := ws.zip sh) (enc := fun y => PyData.tuple [.int y.1, dP3 y.2]) (as := fun y => [(5, .int y.1), (6, dP3 y.2)]) (r := fun y => .int (y.1 * y.2.2.1)) (ei_ws sq (ed_var rfl) (ed_var rfl)) lz (fun _ _ => tg_tup (tgs_cons tg_name (tgs_cons tg_name tgs_nil))) (fun _ _ q hq => by simp at hq; rcases hq with rfl | rfl <;> simp) (fun y hy => ed_mul (cmw (za y hy).1 (za y hy).2.2.1) (ed_var rfl) (ed_ixT rfl (ed_var rfl) ed_int))).dat) (by rw [wsum_zip (fun s => s.2.1)])) ?_
    exact w_ret (ed_alls (xs := L) (b := fun c => decide (0 < Sh.wsum (fun s => s.1) ws sh * c.1 + Sh.wsum (fun s => s.2.1) ws sh * c.2.1)) (en_map (xs := L) (enc := dP3) (as := fun c => [(7, dP3 c)]) (r := fun c => .bool (decide (0 < Sh.wsum (fun s => s.1) ws sh * c.1 + Sh.wsum (fun s => s.2.1) ws sh * c.2.1))) (ei_tup (ed_var rfl)) (by omega) (fun _ _ => tg_name) (fun _ _ q hq => by simp at hq; simp [hq])
      (fun c hc => ed_gt (ed_add (ed_mul (cmw A (hL c hc).1) (ed_var rfl) (ed_ixT rfl (ed_var rfl) ed_int)) (ed_mul (cmw Bb (hL c hc).2.1) (ed_var rfl) (ed_ixT rfl (ed_var rfl) ed_int))) ed_int)).dat) hQ
def f_check_weights : List PyData → PyData → Prop := fun ds r => ∃ (sh : List P3) (ws : List Int), ws.length = sh.length ∧ ws.length ≤ 100 ∧ (∀ v ∈ ws, 0 ≤ v) ∧ ds = [dT3 sh, .tuple (dI ws)] ∧ r = .none
theorem u_check_weights {ss : SD} {t u : TE} {E : XK} {sh : List P3} {ws : List Int} (h : EvD K t ss (dT3 sh)) (h' : EvD K u ss (.tuple (dI ws))) (hl : ws.length = sh.length) (hl2 : ws.length ≤ 100) (hn : ∀ v ∈ ws, 0 ≤ v) : EvD K (tCall (spD K f_check_weights) [] E (tCons t (tCons u tNil))) ss .none := ed_call (ea_cons h (ea_cons h' ea_nil)) ⟨sh, ws, hl, hl2, hn, rfl, rfl⟩
abbrev s_check_weights : Stmt := topL 34
theorem sc_check_weights : FnScope ["shores", "value", "weight"] ["shores", "value"] (defScope s_check_weights) := ⟨rfl, rfl, rfl, by decide +kernel, rfl, by decide +kernel, by decide +kernel⟩
theorem ok_check_weights {f : Addr} {fd : FuncData} (F : Dfn K mg "check_weights" s_check_weights f fd ["shores", "value"]) (B : Bt mg) (c_is_whole : Cal P w K mg base 1 "is_whole" ["value"] (spD K f_is_whole)) : Cal P w K mg base 2 "check_weights" ["shores", "value"] (spD K f_check_weights) := by
  refine calD F sc_check_weights (fun ds r h => ?_) fun cdv A outer s H E hr => ⟨_, (pss_cons (ps_if ((pw_or (pt_not (pt_val (pe_callB call_isi (by rfl) B.m_isinstance PyProof.Rows.boot_isinstance (pa_cons (pv 1) (pa_cons (pe_bltn (v := .ty "tuple") (by rfl) B.m_tuple PySem.Pv.boot_tuple rfl) pa_nil))))) (pw_or1 (pt_cmpR op_ne (pe_callB call_len_seq (by rfl) B.m_len PySem.boot_len (pa_cons (pv 1) pa_nil)) (pe_callB call_len_seq (by rfl) B.m_len PySem.boot_len (pa_cons (pv 0) pa_nil)) (nomark _))))).pt
     (pss_one ps_never)
     pss_nil)
     (pss_one (ps_if (pt_not (pt_val (pe_callB (cr_all rfl) (by rfl) B.m_all PyProof.Rows.boot_all (pa_cons (pe_lc (g := gName 2) (own := [("weight", 2)]) rfl sc_check_weights.nd (pi_tup (pv 1)) (blkOk_by (N := ["shores", "value", "weight"]) (sc := defScope s_check_weights) (by decide +kernel)) (fun _ _ _ _ _ => (pg_name (i := 2) sc_check_weights.nd rfl (Or.inl rfl) (Or.inr rfl))) (fun _ _ _ _ _ => pts_nil) (fun _ _ _ _ _ => (pe_and (pe_c c_is_whole hr (by decide) (by rfl) (pa_cons (pv 2) pa_nil)) (pe_one (pe_cmpR op_ge (pv 2) pe_int (nomark _)))))) pa_nil))))
     (pss_one ps_never)
     pss_nil))), fun X ds r D hp hQ hN => ?_⟩
  · obtain ⟨sh, ws, _, _, _, rfl, _⟩ := h
    rfl
  · obtain ⟨sh, ws, hl, hl2, hn, rfl, rfl⟩ := hp
    refine s_when (b := false) (eb_is (eb_or (eb_not (eb_B (ed_isi (d := .tuple (dI ws)) kb_tt (ed_var rfl)))) fun _ => eb_test (ed_neI (ed_len (.inr rfl) (ed_var rfl)) (ed_len (.inr rfl) (ed_var rfl)))) ?_) (fun q => nomatch q) fun _ => ?_
    · simp [dI, hl]
    · refine w_if (b := false) (eb_is (eb_not (eb_B (ed_alls (xs := ws) (b := fun v => true && decide (0 ≤ v)) (en_map (xs := ws) (enc := PyData.int) (as := fun v => [(2, .int v)]) (r := fun v => .bool (true && decide (0 ≤ v))) (ei_tup (ed_var rfl)) (by omega) (fun _ _ => tg_name) (fun _ _ q hq => by simp at hq; simp [hq]) (fun v hv => ed_andV (u_is_whole (ed_var rfl)) fun _ => ed_ge (ed_var rfl) ed_int)).dat))) ?_) (fun q => nomatch q) fun _ => w_next fun σ H1 r => hN σ H1 r.2.1 rfl
      have : ws.all (fun v => true && decide (0 ≤ v)) = true := List.all_eq_true.mpr fun v hv => by simp [hn v hv]
      rw [this]
      rfl
def f_bars : List PyData → PyData → Prop := fun ds r => ∃ (L sh : List P3) (ws : List Int), Vel L ∧ Shs sh ∧ Wts sh ws ∧ ds = [dT3 L, dT3 sh, .tuple (dI ws)] ∧ r = .bool (Sh.isBarred L sh ws)
theorem u_bars {ss : SD} {t u v : TE} {E : XK} {L sh : List P3} {ws : List Int} (h : EvD K t ss (dT3 L)) (h' : EvD K u ss (dT3 sh)) (h'' : EvD K v ss (.tuple (dI ws))) (hL : Vel L) (hs : Shs sh) (hw : Wts sh ws) : EvD K (tCall (spD K f_bars) [] E (tCons t (tCons u (tCons v tNil)))) ss (.bool (Sh.isBarred L sh ws)) := ed_call (ea_cons h (ea_cons h' (ea_cons h'' ea_nil))) ⟨L, sh, ws, hL, hs, hw, rfl, rfl⟩
theorem Vel.bq {L : List P3} (h : Vel L) : ∀ p ∈ L, Bq p := fun p hp => (h.pg.bp p hp).q
abbrev s_bars : Stmt := topL 36
theorem sc_bars : FnScope ["velocities", "shores", "weights"] ["velocities", "shores", "weights"] (defScope s_bars) := ⟨rfl, rfl, rfl, by decide +kernel, rfl, by decide +kernel, by decide +kernel⟩
theorem ok_bars {f : Addr} {fd : FuncData} (F : Dfn K mg "bars" s_bars f fd ["velocities", "shores", "weights"]) (B : Bt mg) (c_check_polygon : Cal P w K mg base 5 "check_polygon" ["value"] (spD K f_check_polygon)) (c_check_shores : Cal P w K mg base 4 "check_shores" ["value"] (spD K f_check_shores)) (c_check_weights : Cal P w K mg base 2 "check_weights" ["shores", "value"] (spD K f_check_weights)) (c_is_barred : Cal P w K mg base 1 "is_barred" ["velocities", "shores", "weights"] (spD K f_is_barred)) : Cal P w K mg base 6 "bars" ["velocities", "shores", "weights"] (spD K f_bars) := by
  refine calD F sc_bars (fun ds r h => ?_) fun cdv A outer s H E hr => ⟨_, (pss_cons (ps_expr (pe_c c_check_polygon hr (by decide) (by rfl) (pa_cons (pv 0) pa_nil)))
     (pss_cons (ps_expr (pe_c c_check_shores hr (by decide) (by rfl) (pa_cons (pv 1) pa_nil)))
     (pss_cons (ps_expr (pe_c c_check_weights hr (by decide) (by rfl) (pa_cons (pv 1) (pa_cons (pv 2) pa_nil))))
     (pss_one (ps_ret (pe_c c_is_barred hr (by decide) (by rfl) (pa_cons (pv 0) (pa_cons (pv 1) (pa_cons (pv 2) pa_nil))))))))), fun X ds r D hp hQ hN => ?_⟩
  · obtain ⟨L, sh, ws, _, _, _, rfl, _⟩ := h
    rfl
  · obtain ⟨L, sh, ws, hL, hs, hw, rfl, rfl⟩ := hp
    have e8 := hs.len
    have eL := hL.len
    exact s_drop (u_check_polygon (ed_var rfl) hL.pg) (s_drop (u_check_shores (ed_var rfl) hs) (s_drop (u_check_weights (ed_var rfl) (ed_var rfl) hw.len (by have := hw.len; omega) hw.nn) (w_ret (u_is_barred (ed_var rfl) (ed_var rfl) (ed_var rfl) (.inr rfl) hL.bq (by omega) (fun s h => (hs.bo s h).q) e8 hw.bz) hQ)))
end
end Wk
end
section
set_option Elab.async false
set_option linter.all false
set_option maxRecDepth 100000
namespace Wk
open PySem PySem.Spec PyProof.Rows L2 Evl

section
variable {P : Program} {w : World} {K : PySem.W.Frag} {mg : Str → Option Value} {base : Heap}
/-! ### border_weights -/
def f_border_weights : List PyData → PyData → Prop := fun ds r => ∃ (L : List P3) (s t : P3), (∀ p ∈ L, Bp p) ∧ L.length ≤ 100 ∧ Bo s ∧ Bo t ∧ ds = [dT3 L, dP3 s, dP3 t] ∧ r = dL2 (Sh.rows (s.1, s.2.1) (t.1, t.2.1) L)
theorem u_border_weights {ss : SD} {a b c : TE} {E : XK} {L : List P3} {s t : P3} (h : EvD K a ss (dT3 L)) (h' : EvD K b ss (dP3 s)) (h'' : EvD K c ss (dP3 t)) (hL : ∀ p ∈ L, Bp p) (l1 : L.length ≤ 100) (hs : Bo s) (ht : Bo t) : EvD K (tCall (spD K f_border_weights) [] E (tCons a (tCons b (tCons c tNil)))) ss (dL2 (Sh.rows (s.1, s.2.1) (t.1, t.2.1) L)) := ed_call (ea_cons h (ea_cons h' (ea_cons h'' ea_nil))) ⟨L, s, t, hL, l1, hs, ht, rfl, rfl⟩
theorem rows_len (f g : Int × Int) (L : List P3) : (Sh.rows f g L).length ≤ L.length + 2 := by
  have key : ∀ l : List P3, (l.flatMap (Sh.rowOf f g)).length ≤ l.length := by
    intro l
    induction l with
    | nil => exact Nat.le_refl _
    | cons e l ih =>
      rw [List.flatMap_cons, List.length_append, List.length_cons]
      have : (Sh.rowOf f g e).length ≤ 1 := by unfold Sh.rowOf; split <;> simp
      omega
  unfold Sh.rows
  rw [List.length_append]
  have := key L
  have e : ([(1, 0), (0, 1)] : List (Int × Int)).length = 2 := rfl
  omega
theorem rows_snoc (f g : Int × Int) (L : List P3) (p : P3) : Sh.rows f g (L ++ [p]) = Sh.rows f g L ++ Sh.rowOf f g p := by
  unfold Sh.rows
  rw [List.flatMap_append, List.append_assoc]
  simp
abbrev s_border_weights : Stmt := topL 37
theorem sc_border_weights : FnScope ["velocities", "shore", "other", "found", "x", "y", "_", "one", "two"] ["velocities", "shore", "other"] (defScope s_border_weights) := ⟨rfl, rfl, rfl, by decide +kernel, rfl, by decide +kernel, by decide +kernel⟩
theorem ok_border_weights {f : Addr} {fd : FuncData} (F : Dfn K mg "border_weights" s_border_weights f fd ["velocities", "shore", "other"]) (B : Bt mg) (c_lowest : Cal P w K mg base 2 "lowest" ["numbers"] (spD K f_lowest)) : Cal P w K mg base 3 "border_weights" ["velocities", "shore", "other"] (spD K f_border_weights) := by
  refine calD F sc_border_weights (fun ds r h => ?_) fun cdv A outer s H E hr => ⟨_, (pss_cons (ps_set (i := 3) sc_border_weights.nd rfl (Or.inl rfl) (pe_lst (pa_cons (pe_tup (pa_cons pe_int (pa_cons pe_int pa_nil))) (pa_cons (pe_tup (pa_cons pe_int (pa_cons pe_int pa_nil))) pa_nil))))
     (pss_cons (ps_for PassesOwn.never rfl (pi_tup (pv 0)) (pg_tup rfl (pgs_cons (pg_name (i := 4) sc_border_weights.nd rfl (Or.inl rfl) (Or.inl rfl)) (pgs_cons (pg_name (i := 5) sc_border_weights.nd rfl (Or.inl rfl) (Or.inl rfl)) (pgs_cons (pg_name (i := 6) sc_border_weights.nd rfl (Or.inl rfl) (Or.inl rfl)) pgs_nil))))
     (pss_cons (ps_par (i := 7) (j := 8) rfl sc_border_weights.nd rfl rfl (by decide) rfl rfl (pa_cons (pe_op op_add (pe_op op_mulW (pe_ix ix_tup (pv 1) pe_int (fun _ _ => rfl)) (pv 4)) (pe_op op_mulW (pe_ix ix_tup (pv 1) pe_int (fun _ _ => rfl)) (pv 5))) (pa_cons (pe_op op_add (pe_op op_mulW (pe_ix ix_tup (pv 2) pe_int (fun _ _ => rfl)) (pv 4)) (pe_op op_mulW (pe_ix ix_tup (pv 2) pe_int (fun _ _ => rfl)) (pv 5))) pa_nil)) (by rfl))
     (pss_one (ps_if ((pw_or ((pw_and (pt_cmpR op_gt (pv 7) pe_int (nomark _)) (pw_and1 (pt_cmpR op_lt (pv 8) pe_int (nomark _))))).pt (pw_or1 ((pw_and (pt_cmpR op_lt (pv 7) pe_int (nomark _)) (pw_and1 (pt_cmpR op_gt (pv 8) pe_int (nomark _))))).pt))).pt
     (pss_one (ps_expr (pe_bm PySem.F.plainAttrs_list PySem.F.slot_list_append PySem.F.type_list_append mt_append (pv 3) (pa_cons (pe_c c_lowest hr (by decide) (by rfl) (pa_cons (pe_tup (pa_cons (pe_callB call_abs (by rfl) B.m_abs PyProof.Rows.boot_abs (pa_cons (pv 8) pa_nil)) (pa_cons (pe_callB call_abs (by rfl) B.m_abs PyProof.Rows.boot_abs (pa_cons (pv 7) pa_nil)) pa_nil))) pa_nil)) pa_nil))))
     pss_nil))))
     (pss_one (ps_ret (pv 3))))), fun X ds r D hp hQ hN => ?_⟩
  · obtain ⟨L, s, t, _, _, _, _, rfl, _⟩ := h
    rfl
  · obtain ⟨L, s, t, hL, l1, hs, ht, rfl, rfl⟩ := hp
    refine s_new (es := (Sh.rows (s.1, s.2.1) (t.1, t.2.1) (L.take 0)).map dP2) (en_lst (ea_cons (ed_tup (ea_cons ed_int (ea_cons ed_int ea_nil)) (by show 2 ≤ 100000; decide)) (ea_cons (ed_tup (ea_cons ed_int (ea_cons ed_int ea_nil)) (by show 2 ≤ 100000; decide)) ea_nil)) (by show 2 ≤ 100000; decide)) (by show 3 < 9; decide) ?_
    refine s_for (xs := L) (enc := dP3) (as := fun p => [(4, .int p.1), (5, .int p.2.1), (6, .int p.2.2)]) (fun _ => [some (dT3 L), some (dP3 s), some (dP3 t), none, none, none, none, none, none]) (fun i => some (3, (Sh.rows (s.1, s.2.1) (t.1, t.2.1) (L.take i)).map dP2)) (ei_tup (ed_var rfl)) (fun _ _ => tg_tup (tgs_cons tg_name (tgs_cons tg_name (tgs_cons tg_name tgs_nil)))) (fun _ _ _ => rfl) (LeD.refl _) rfl (fun i p hp G' D' h1 h2 => ?_) ?_
    · have bp := hL p (List.mem_of_getElem? hp)
      have B1 : Bz 100 (Sh.lf (s.1, s.2.1) p) := lf_bz hs.nr bp
      have B2 : Bz 100 (Sh.lf (t.1, t.2.1) p) := lf_bz ht.nr bp
      refine s_par (d := .int (Sh.lf (s.1, s.2.1) p)) (e := .int (Sh.lf (t.1, t.2.1) p)) (ea_cons (ed_add (ed_mul (cmw hs.q.1 bp.q.1) (ed_ixT rfl (ed_var rfl) ed_int) (ed_var rfl)) (ed_mul (cmw hs.q.2.1 bp.q.2.1) (ed_ixT rfl (ed_var rfl) ed_int) (ed_var rfl))) (ea_cons (ed_add (ed_mul (cmw ht.q.1 bp.q.1) (ed_ixT rfl (ed_var rfl) ed_int) (ed_var rfl)) (ed_mul (cmw ht.q.2.1 bp.q.2.1) (ed_ixT rfl (ed_var rfl) ed_int) (ed_var rfl))) ea_nil)) ?_
      refine w_if (eb_or (eb_and (eb_test (ed_gt (ed_var rfl) ed_int)) fun _ => eb_test (ed_lt (ed_var rfl) ed_int)) fun _ => eb_and (eb_test (ed_lt (ed_var rfl) ed_int)) fun _ => eb_test (ed_gt (ed_var rfl) ed_int)) (fun q => ?_) (fun q => w_next ?_)
      · have m : Sh.mix (Sh.lf (s.1, s.2.1) p) (Sh.lf (t.1, t.2.1) p) := by
          unfold Sh.mix
          simpa using q
        have row : Sh.rowOf (s.1, s.2.1) (t.1, t.2.1) p = [Sh.low2 (((Sh.lf (t.1, t.2.1) p).natAbs : Int), ((Sh.lf (s.1, s.2.1) p).natAbs : Int))] := by
          unfold Sh.rowOf
          rw [if_pos m]
        have pos : (0 : Int) < ((Sh.lf (t.1, t.2.1) p).natAbs : Int) := by unfold Sh.mix at m; omega
        have bz : Bz 8000 ((Sh.lf (t.1, t.2.1) p).natAbs : Int) := by
          show (((Sh.lf (t.1, t.2.1) p).natAbs : Int)).natAbs < _
          rw [Int.natAbs_natCast]
          exact bz_le B2 (by decide)
        refine w_app (d := dP2 (Sh.low2 (((Sh.lf (t.1, t.2.1) p).natAbs : Int), ((Sh.lf (s.1, s.2.1) p).natAbs : Int)))) (u_lowest (z := .tuple (dI [((Sh.lf (t.1, t.2.1) p).natAbs : Int), ((Sh.lf (s.1, s.2.1) p).natAbs : Int)])) (ns := [((Sh.lf (t.1, t.2.1) p).natAbs : Int), ((Sh.lf (s.1, s.2.1) p).natAbs : Int)]) (.inr rfl) (ed_tup (ea_cons (ed_abs (ed_var rfl)) (ea_cons (ed_abs (ed_var rfl)) ea_nil)) (by show 2 ≤ 100000; decide)) (by show 2 ≤ 100; decide) (com_ok (n := ((Sh.lf (t.1, t.2.1) p).natAbs : Int)) (by simp) pos bz)) ?_ (w_end (h2.trans ?_) (led_same (led_same (led_same (led_no (led_no (led_no (led_no (led_no (led_no led_nil))))))))))
        · rw [List.length_map]
          have := rows_len (s.1, s.2.1) (t.1, t.2.1) (L.take i)
          rw [List.length_take] at this
          omega
        · rw [take_snoc hp, rows_snoc, row, List.map_append]
          rfl
      · have m : ¬ Sh.mix (Sh.lf (s.1, s.2.1) p) (Sh.lf (t.1, t.2.1) p) := by
          unfold Sh.mix
          simp at q
          omega
        refine w_end (h2.trans ?_) (led_same (led_same (led_same (led_no (led_no (led_no (led_no (led_no (led_no led_nil)))))))))
        rw [take_snoc hp, rows_snoc]
        unfold Sh.rowOf
        rw [if_neg m, List.append_nil]
    · rw [List.take_of_length_le (Nat.le_refl _)]
      exact w_ret (ed_var rfl) hQ
/-! ### barring_weights -/
/-- the weights of two rows, if they bar -/
def tryW (L sh : List P3) (i j : Nat) (h t : Int × Int) : Option (List Int) := if Sh.isBarred L sh (Sh.wts sh.length i j (h.1 + t.1) (h.2 + t.2)) = true then some (Sh.wts sh.length i j (h.1 + t.1) (h.2 + t.2)) else none
def findW (L sh : List P3) (i j : Nat) (R : List (Int × Int)) : Option (List Int) := R.findSome? fun h => R.findSome? fun t => tryW L sh i j h t
def wD : Option (List Int) → PyData
  | none => .none
  | some ws => .tuple (dI ws)
def barD (L sh : List P3) : Option (Nat × Nat) → PyData
  | none => .none
  | some (i, j) => match sh[i]?, sh[j]? with
    | some s, some t => wD (findW L sh i j (Sh.rows (s.1, s.2.1) (t.1, t.2.1) L))
    | _, _ => .none
theorem low_bz {a b : Int} (ha : Bz 100 a) (hb : Bz 100 b) (h0 : 0 < a) (h1 : 0 ≤ b) : Bz 100 (Sh.low2 (a, b)).1 ∧ Bz 100 (Sh.low2 (a, b)).2 := by
  have hg := (Sh.low2_mul (p := (a, b)) h0).1
  exact ⟨bz_div ha (Int.le_of_lt h0) hg, bz_div hb h1 hg⟩
theorem rows_bz {s t : P3} {L : List P3} (hs : Bo s) (ht : Bo t) (hL : ∀ p ∈ L, Bp p) : ∀ r ∈ Sh.rows (s.1, s.2.1) (t.1, t.2.1) L, Bz 100 r.1 ∧ Bz 100 r.2 := fun r hr => by
  unfold Sh.rows at hr
  rcases List.mem_append.mp hr with q | q
  · rcases (by simpa using q : r = (1, 0) ∨ r = (0, 1)) with rfl | rfl
    · exact ⟨bz_le (bg_of (z := 1) ⟨by decide, by decide⟩) (by decide), bz_le (bg_of (z := 0) ⟨by decide, by decide⟩) (by decide)⟩
    · exact ⟨bz_le (bg_of (z := 0) ⟨by decide, by decide⟩) (by decide), bz_le (bg_of (z := 1) ⟨by decide, by decide⟩) (by decide)⟩
  · obtain ⟨c, hc, q⟩ := List.mem_flatMap.mp q
    unfold Sh.rowOf at q
    split at q
    · rename_i m
      rw [List.mem_singleton.mp q]
      have pos : (0 : Int) < ((Sh.lf (t.1, t.2.1) c).natAbs : Int) := by unfold Sh.mix at m; omega
      have cast : ∀ {z : Int}, Bz 100 z → Bz 100 (z.natAbs : Int) := fun {z} h => by
        show ((z.natAbs : Int)).natAbs < _
        rw [Int.natAbs_natCast]
        exact h
      exact low_bz (cast (lf_bz ht.nr (hL c hc))) (cast (lf_bz hs.nr (hL c hc))) pos (Int.natCast_nonneg _)
    · cases q
theorem wts_bz {n i j : Nat} {a b : Int} (ha : Bz 201 a) (hb : Bz 201 b) : ∀ v ∈ Sh.wts n i j a b, Bz 300 v := fun v hv => by
  have z0 : Bz 201 0 := Nat.two_pow_pos _
  have h1 : ∀ x ∈ (List.replicate n (0 : Int)).set i a, Bz 201 x := fun x hx => by
    rcases List.mem_or_eq_of_mem_set hx with q | e
    · rw [(List.mem_replicate.mp q).2]; exact z0
    · rw [e]; exact ha
  unfold Sh.wts at hv
  rcases List.mem_or_eq_of_mem_set hv with q | e
  · exact bz_le (h1 v q) (by decide)
  · rw [e]
    have key : ∀ {x y : Int}, Bz 201 x → Bz 201 y → Bz 300 (x + y) := fun {x y} hx hy => by
      have h3 : x.natAbs < 2 ^ 201 := hx
      have h4 : y.natAbs < 2 ^ 201 := hy
      have h5 := Int.natAbs_add_le x y
      have h6 : (2 : Nat) ^ 201 + 2 ^ 201 ≤ 2 ^ 300 := by decide
      show (x + y).natAbs < 2 ^ 300
      omega
    cases q : ((List.replicate n (0 : Int)).set i a)[j]? with
    | none => exact key z0 hb
    | some x => exact key (h1 x (List.mem_of_getElem? q)) hb
def f_barring_weights : List PyData → PyData → Prop := fun ds r => ∃ (L sh : List P3) (o : Option (Nat × Nat)), Vel L ∧ Shs sh ∧ Sh.IsPair (badP L sh) sh.length o ∧ ds = [dT3 L, dT3 sh] ∧ r = barD L sh o
theorem u_barring_weights {ss : SD} {t u : TE} {E : XK} {L sh : List P3} {o : Option (Nat × Nat)} (h : EvD K t ss (dT3 L)) (h' : EvD K u ss (dT3 sh)) (hL : Vel L) (hs : Shs sh) (ho : Sh.IsPair (badP L sh) sh.length o) : EvD K (tCall (spD K f_barring_weights) [] E (tCons t (tCons u tNil))) ss (barD L sh o) := ed_call (ea_cons h (ea_cons h' ea_nil)) ⟨L, sh, o, hL, hs, ho, rfl, rfl⟩
theorem rep_flat (n : Nat) (z : PyData) : (List.replicate n [z]).flatten = List.replicate n z := by
  induction n with
  | zero => rfl
  | succ n ih => rw [List.replicate_succ, List.flatten_cons, ih, List.replicate_succ]; rfl
theorem dI_set (l : List Int) (i : Nat) (x : Int) : (dI l).set i (.int x) = dI (l.set i x) := by
  unfold dI
  rw [List.map_set]
abbrev s_barring_weights : Stmt := topL 38
theorem sc_barring_weights : FnScope ["velocities", "shores", "pair", "one", "two", "rows", "here", "there", "weights"] ["velocities", "shores"] (defScope s_barring_weights) := ⟨rfl, rfl, rfl, by decide +kernel, rfl, by decide +kernel, by decide +kernel⟩
theorem ok_barring_weights {f : Addr} {fd : FuncData} (F : Dfn K mg "barring_weights" s_barring_weights f fd ["velocities", "shores"]) (B : Bt mg) (c_check_polygon : Cal P w K mg base 5 "check_polygon" ["value"] (spD K f_check_polygon)) (c_check_shores : Cal P w K mg base 4 "check_shores" ["value"] (spD K f_check_shores)) (c_pair_against : Cal P w K mg base 6 "pair_against" ["velocities", "shores"] (spD K f_pair_against)) (c_is_barred : Cal P w K mg base 1 "is_barred" ["velocities", "shores", "weights"] (spD K f_is_barred)) (c_border_weights : Cal P w K mg base 3 "border_weights" ["velocities", "shore", "other"] (spD K f_border_weights)) : Cal P w K mg base 7 "barring_weights" ["velocities", "shores"] (spD K f_barring_weights) := by
  refine calD F sc_barring_weights (fun ds r h => ?_) fun cdv A outer s H E hr => ⟨_, (pss_cons (ps_expr (pe_c c_check_polygon hr (by decide) (by rfl) (pa_cons (pv 0) pa_nil)))
     (pss_cons (ps_expr (pe_c c_check_shores hr (by decide) (by rfl) (pa_cons (pv 1) pa_nil)))
     (pss_cons (ps_set (i := 2) sc_barring_weights.nd rfl (Or.inl rfl) (pe_c c_pair_against hr (by decide) (by rfl) (pa_cons (pv 0) (pa_cons (pv 1) pa_nil))))
     (pss_cons (ps_if (pt_cmpR op_isN (pv 2) pe_non (nomark _))
     (pss_one (ps_ret pe_non))
     pss_nil)
     (pss_cons (ps_asg (pv 2) (pg_tup rfl (pgs_cons (pg_name (i := 3) sc_barring_weights.nd rfl (Or.inl rfl) (Or.inl rfl)) (pgs_cons (pg_name (i := 4) sc_barring_weights.nd rfl (Or.inl rfl) (Or.inl rfl)) pgs_nil))))
     (pss_cons (ps_set (i := 5) sc_barring_weights.nd rfl (Or.inl rfl) (pe_c c_border_weights hr (by decide) (by rfl) (pa_cons (pv 0) (pa_cons (pe_ix ix_tup (pv 1) (pv 3) (fun _ _ => rfl)) (pa_cons (pe_ix ix_tup (pv 1) (pv 4) (fun _ _ => rfl)) pa_nil)))))
     (pss_cons (ps_for PassesOwn.never rfl (pi_list (pv 5)) (pg_name (i := 6) sc_barring_weights.nd rfl (Or.inl rfl) (Or.inl rfl))
     (pss_one (ps_for PassesOwn.never rfl (pi_list (pv 5)) (pg_name (i := 7) sc_barring_weights.nd rfl (Or.inl rfl) (Or.inl rfl))
     (pss_cons (ps_set (i := 8) sc_barring_weights.nd rfl (Or.inl rfl) (pe_op op_rep (pe_lst (pa_cons pe_int pa_nil)) (pe_callB call_len_seq (by rfl) B.m_len PySem.boot_len (pa_cons (pv 1) pa_nil))))
     (pss_cons (ps_augS (pv 8) (pv 3) get_list (pe_op op_add (pe_ix ix_tup (pv 6) pe_int (fun _ _ => rfl)) (pe_ix ix_tup (pv 7) pe_int (fun _ _ => rfl))) ip_add set_list)
     (pss_cons (ps_augS (pv 8) (pv 4) get_list (pe_op op_add (pe_ix ix_tup (pv 6) pe_int (fun _ _ => rfl)) (pe_ix ix_tup (pv 7) pe_int (fun _ _ => rfl))) ip_add set_list)
     (pss_one (ps_if (pt_val (pe_c c_is_barred hr (by decide) (by rfl) (pa_cons (pv 0) (pa_cons (pv 1) (pa_cons (pv 8) pa_nil)))))
     (pss_one (ps_ret (pe_tupleOf (by rfl) B.m_tuple (pv 8))))
     pss_nil))))))))
     (pss_one (ps_ret pe_non))))))))), fun X ds r D hp hQ hN => ?_⟩
  · obtain ⟨L, sh, o, _, _, _, rfl, _⟩ := h
    rfl
  · obtain ⟨L, sh, o, hL, hs, ho, rfl, rfl⟩ := hp
    refine s_drop (u_check_polygon (ed_var rfl) hL.pg) (s_drop (u_check_shores (ed_var rfl) hs) (s_asg (u_pair_against (ed_var rfl) (ed_var rfl) hL.po hL.len hs.len hs.bo ho) ?_))
    rcases o with _ | ⟨i, j⟩
    · exact s_when (b := true) (eb_test (ed_isN (d := .none) (ed_var rfl))) (fun _ => w_ret ed_non hQ) (fun q => nomatch q)
    · obtain ⟨o1, o2, _, _⟩ := ho.yes i j rfl
      have gi : sh[i]? = some sh[i] := List.getElem?_eq_getElem (by omega)
      have gj : sh[j]? = some sh[j] := List.getElem?_eq_getElem o2
      generalize es : sh[i] = s at gi
      generalize et : sh[j] = t at gj
      have bs : Bo s := hs.bo s (List.mem_of_getElem? gi)
      have bt : Bo t := hs.bo t (List.mem_of_getElem? gj)
      have bp := hL.pg.bp
      have eL := hL.len
      have e8 := hs.len
      have er : barD L sh (some (i, j)) = wD (findW L sh i j (Sh.rows (s.1, s.2.1) (t.1, t.2.1) L)) := by
        simp only [barD, gi, gj]
      rw [er] at hQ
      have rB := rows_bz bs bt bp
      have rL := rows_len (s.1, s.2.1) (t.1, t.2.1) L
      refine s_when (b := false) (eb_test (ed_isN (d := pairD (some (i, j))) (ed_var rfl))) (fun q => nomatch q) fun _ => ?_
      refine s_tgt (d := pairD (some (i, j))) (ed_var rfl) (tg_tup (tgs_cons tg_name (tgs_cons tg_name tgs_nil))) rfl ?_
      refine s_asg (u_border_weights (ed_var rfl) (ed_ixT (d := dP3 s) (atI_nat (get_map dP3 gi)) (ed_var rfl) (ed_var rfl)) (ed_ixT (d := dP3 t) (atI_nat (get_map dP3 gj)) (ed_var rfl) (ed_var rfl)) bp (by omega) bs bt) ?_
      generalize hR : Sh.rows (s.1, s.2.1) (t.1, t.2.1) L = R at rB rL hQ
      refine s_forP (xs := R) (enc := dP2) (as := fun z => [(6, dP2 z)]) (fun _ => [some (dT3 L), some (dT3 sh), some (pairD (some (i, j))), some (.int (i : Int)), some (.int (j : Int)), some (dL2 R), none, none, none]) (fun _ => none) (fun a => ∀ a' h, a' < a → R[a']? = some h → (R.findSome? fun t => tryW L sh i j h t) = none) (ei_list (ed_var rfl)) (fun _ _ => tg_name) (fun _ _ _ => rfl) (LeD.refl _) rfl (fun a' h q _ => by omega) (fun a h ha hJ G' D' h1 h2 => ?_) (fun hJ => ?_)
      · refine w_forP (xs := R) (enc := dP2) (as := fun z => [(7, dP2 z)]) (fun _ => [some (dT3 L), some (dT3 sh), some (pairD (some (i, j))), some (.int (i : Int)), some (.int (j : Int)), some (dL2 R), some (dP2 h), none, none]) (fun _ => none) (fun b => ∀ b' t, b' < b → R[b']? = some t → tryW L sh i j h t = none) (ei_list (ed_var rfl)) (fun _ _ => tg_name) (fun _ _ _ => rfl) (LeD.refl _) rfl (fun b' t q _ => by omega) (fun b t' hb hK G2 D2 k1 k2 => ?_) (fun hK => w_endP h2 ?_ (led_same (led_same (led_same (led_same (led_same (led_same (led_no (led_no (led_no led_nil)))))))))) 
        · have hh := rB h (List.mem_of_getElem? ha)
          have ht := rB t' (List.mem_of_getElem? hb)
          have n0 : (List.replicate ((sh.map dP3).length : Int).toNat [PyData.int 0]).flatten = dI (List.replicate sh.length 0) := by
            rw [rep_flat, Int.toNat_natCast, List.length_map]
            unfold dI
            rw [List.map_replicate]
          refine s_new (es := dI (List.replicate sh.length 0)) (n0 ▸ en_rep (en_lst (ea_cons ed_int ea_nil) (by show 1 ≤ 100000; decide)).dat (ed_len (.inr rfl) (ed_var rfl)) ⟨Int.natCast_nonneg _, by rw [List.length_map]; omega⟩ (by show 1 ≤ 100; decide)) (by show 8 < 9; decide) ?_
          have w1 : ((List.replicate sh.length (0 : Int)).set i (0 + (h.1 + t'.1))) = (List.replicate sh.length (0 : Int)).set i (h.1 + t'.1) := by rw [Int.zero_add]
          refine s_aug (j := i) (a := 0) (b := h.1 + t'.1) rfl ?_ (ed_add (ed_ixT rfl (ed_var rfl) ed_int) (ed_ixT rfl (ed_var rfl) ed_int)) ?_
          · unfold dI
            rw [List.getElem?_map, List.getElem?_replicate, if_pos (by omega)]
            rfl
          · rw [dI_set, w1]
            obtain ⟨x, hx⟩ : ∃ x, ((List.replicate sh.length (0 : Int)).set i (h.1 + t'.1))[j]? = some x := ⟨_, List.getElem?_eq_getElem (by simpa using o2)⟩
            have w2 : ((List.replicate sh.length (0 : Int)).set i (h.1 + t'.1)).set j (x + (h.2 + t'.2)) = Sh.wts sh.length i j (h.1 + t'.1) (h.2 + t'.2) := by
              unfold Sh.wts
              rw [hx]
              rfl
            refine s_aug (j := j) (a := x) (b := h.2 + t'.2) rfl (by unfold dI; rw [List.getElem?_map, hx]; rfl) (ed_add (ed_ixT rfl (ed_var rfl) ed_int) (ed_ixT rfl (ed_var rfl) ed_int)) ?_
            rw [dI_set, w2]
            generalize hW : Sh.wts sh.length i j (h.1 + t'.1) (h.2 + t'.2) = W
            have bW : ∀ v ∈ W, Bz 300 v := by
              rw [← hW]
              exact wts_bz (bz_add hh.1 ht.1) (bz_add hh.2 ht.2)
            have tr : tryW L sh i j h t' = if Sh.isBarred L sh W = true then some W else none := by
              unfold tryW
              rw [hW]
            refine w_if (eb_B (u_is_barred (ed_var rfl) (ed_var rfl) (ed_var rfl) (.inl rfl) hL.bq (by omega) (fun s h => (hs.bo s h).q) e8 bW)) (fun q => ?_) (fun q => w_next (w_lose (w_endP k2 ?_ (led_same (led_same (led_same (led_same (led_same (led_same (led_same (led_no (led_no led_nil)))))))))))) 
            · rw [if_pos q] at tr
              have f1 : (R.findSome? fun t => tryW L sh i j h t) = some W := fs_at R b hb tr fun b' z lt hz => hK b' z lt hz
              have f2 : findW L sh i j R = some W := fs_at R a ha f1 fun a' z lt hz => hJ a' z lt hz
              rw [f2] at hQ
              have hrt : ∀ v H', Ex H H' → Dq K (Hd X H') v (.tuple (dI W)) → D2.rt v H' := by
                rw [k1, h1]
                exact hQ
              exact w_ret (ed_tuple (.inl rfl) (ed_var rfl)) hrt
            · rw [if_neg (by rw [q]; decide)] at tr
              intro b' z lt hz
              by_cases c : b' < b
              · exact hK b' z c hz
              · have : b' = b := by omega
                subst this
                rw [hb] at hz
                cases hz
                exact tr
        · intro a' z lt hz
          by_cases c : a' < a
          · exact hJ a' z c hz
          · have : a' = a := by omega
            subst this
            rw [ha] at hz
            cases hz
            exact fs_no R fun b' y lt2 hy => hK b' y lt2 hy
      · have f2 : findW L sh i j R = none := fs_no R fun a' y lt2 hy => hJ a' y lt2 hy
        rw [f2] at hQ
        exact w_ret ed_non hQ
end
end Wk
end
section
set_option Elab.async false
set_option linter.all false
set_option maxRecDepth 100000
namespace Wk
open PySem PySem.Spec PyProof.Rows L2 Evl

theorem hull_two (a b : Int × Int) : Sh.hullZ [a, b] = [a, b] := by
  unfold Sh.hullZ Sh.chain Sh.chainR
  rfl
section
variable {P : Program} {w : World} {K : PySem.W.Frag} {mg : Str → Option Value} {base : Heap}
/-! ### _law_gcd, _law_spot, _law_said -/
abbrev gI (a b : Int) : Int := ((Nat.gcd a.natAbs b.natAbs : Nat) : Int)
def f__law_gcd : List PyData → PyData → Prop := fun ds r => ∃ a b : Int, ds = [.int a, .int b] ∧ r = .int (gI a b)
theorem u__law_gcd {ss : SD} {t u : TE} {E : XK} {a b : Int} (h : EvD K t ss (.int a)) (h' : EvD K u ss (.int b)) : EvD K (tCall (spD K f__law_gcd) [] E (tCons t (tCons u tNil))) ss (.int (gI a b)) := ed_call (ea_cons h (ea_cons h' ea_nil)) ⟨a, b, rfl, rfl⟩
abbrev s__law_gcd : Stmt := topL 43
theorem sc__law_gcd : FnScope ["_law_one_here", "_law_two"] ["_law_one_here", "_law_two"] (defScope s__law_gcd) := ⟨rfl, rfl, rfl, by decide +kernel, rfl, by decide +kernel, by decide +kernel⟩
theorem ok__law_gcd {f : Addr} {fd : FuncData} (F : Dfn K mg "_law_gcd" s__law_gcd f fd ["_law_one_here", "_law_two"]) (B : Bt mg) : Cal P w K mg base 1 "_law_gcd" ["_law_one_here", "_law_two"] (spD K f__law_gcd) := by
  refine calD F sc__law_gcd (fun ds r h => ?_) fun cdv A outer s H E hr => ⟨_, (pss_cons (ps_par (i := 0) (j := 1) rfl sc__law_gcd.nd rfl rfl (by decide) rfl rfl (pa_cons (pe_callB call_abs (by rfl) B.m_abs PyProof.Rows.boot_abs (pa_cons (pv 0) pa_nil)) (pa_cons (pe_callB call_abs (by rfl) B.m_abs PyProof.Rows.boot_abs (pa_cons (pv 1) pa_nil)) pa_nil)) (by rfl))
     (pss_cons (ps_while PassesOwn.never (pt_cmpR op_ne (pv 1) pe_int (nomark _))
     (pss_one (ps_par (i := 0) (j := 1) rfl sc__law_gcd.nd rfl rfl (by decide) rfl rfl (pa_cons (pv 1) (pa_cons (pe_op op_mod (pe_callTy call_int1 (by rfl) B.m_int PySem.Pv.boot_int (pa_cons (pv 0) pa_nil)) (pv 1)) pa_nil)) (by rfl))))
     (pss_one (ps_ret (pv 0))))), fun X ds r D hp hQ hN => ?_⟩
  · obtain ⟨a, b, rfl, _⟩ := h
    rfl
  · obtain ⟨a, b, rfl, rfl⟩ := hp
    refine s_par (ea_cons (ed_abs (ed_var rfl)) (ea_cons (ed_abs (ed_var rfl)) ea_nil)) (w_seq (w_while (fun m ss mu => ∃ x : Nat, ss = [some (.int (x : Int)), some (.int (m : Int))] ∧ mu = none ∧ Nat.gcd x m = Nat.gcd a.natAbs b.natAbs) _ ⟨a.natAbs, rfl, rfl, rfl⟩ (fun m ss mu hw => ?_)))
    obtain ⟨x, rfl, rfl, hg⟩ := hw
    refine ⟨!decide ((m : Int) = 0), eb_test (ed_neI (ed_var rfl) ed_int), fun hb D2 k1 k2 => ?_, fun hb => ?_⟩
    · have m0 : 0 < m := by simp at hb; omega
      refine w_par (ea_cons (ed_var rfl) (ea_cons (ed_mod (by omega) (ed_int1 (ed_var rfl)) (ed_var rfl)) ea_nil)) ?_
      rw [k2]
      refine fun σ H rep => ⟨x % m, _, _, Nat.mod_lt _ m0, ⟨m, ?_, rfl, ?_⟩, rep⟩
      · show [some (PyData.int (m : Int)), some (PyData.int ((x : Int) % (m : Int)))] = _
        rw [← Int.natCast_emod]
      · rw [← hg, Nat.gcd_comm x m, Nat.gcd_rec m x]
        exact Nat.gcd_comm _ _
    · have m0 : m = 0 := by simp at hb; omega
      subst m0
      refine w_ret (ed_is (ed_var rfl) ?_) hQ
      show PyData.int (x : Int) = PyData.int ((Nat.gcd a.natAbs b.natAbs : Nat) : Int)
      rw [← hg, Nat.gcd_zero_right]
theorem g3_gI (x y u : Int) : gI (gI x y) u = Sh.g3 (x, y, u) := by
  rw [Sh.g3_nat]
  unfold gI
  rw [Int.natAbs_natCast]
def f__law_spot : List PyData → PyData → Prop := fun ds r => ∃ x y u : Int, 0 < u ∧ Bz 8000 u ∧ ds = [.int x, .int y, .int u] ∧ r = dP3 (Sh.red (x, y, u))
theorem u__law_spot {ss : SD} {a b c : TE} {E : XK} {x y u : Int} (h : EvD K a ss (.int x)) (h' : EvD K b ss (.int y)) (h'' : EvD K c ss (.int u)) (h0 : 0 < u) (hb : Bz 8000 u) : EvD K (tCall (spD K f__law_spot) [] E (tCons a (tCons b (tCons c tNil)))) ss (dP3 (Sh.red (x, y, u))) := ed_call (ea_cons h (ea_cons h' (ea_cons h'' ea_nil))) ⟨x, y, u, h0, hb, rfl, rfl⟩
abbrev s__law_spot : Stmt := topL 44
theorem sc__law_spot : FnScope ["_law_x", "_law_y", "_law_w", "_law_low"] ["_law_x", "_law_y", "_law_w"] (defScope s__law_spot) := ⟨rfl, rfl, rfl, by decide +kernel, rfl, by decide +kernel, by decide +kernel⟩
theorem ok__law_spot {f : Addr} {fd : FuncData} (F : Dfn K mg "_law_spot" s__law_spot f fd ["_law_x", "_law_y", "_law_w"]) (B : Bt mg) (c__law_gcd : Cal P w K mg base 1 "_law_gcd" ["_law_one_here", "_law_two"] (spD K f__law_gcd)) : Cal P w K mg base 2 "_law_spot" ["_law_x", "_law_y", "_law_w"] (spD K f__law_spot) := by
  refine calD F sc__law_spot (fun ds r h => ?_) fun cdv A outer s H E hr => ⟨_, (pss_cons (ps_set (i := 3) sc__law_spot.nd rfl (Or.inl rfl) (pe_c c__law_gcd hr (by decide) (by rfl) (pa_cons (pe_c c__law_gcd hr (by decide) (by rfl) (pa_cons (pv 0) (pa_cons (pv 1) pa_nil))) (pa_cons (pv 2) pa_nil))))
     (pss_one (ps_ret (pe_tup (pa_cons (pe_op op_fdivW (pv 0) (pv 3)) (pa_cons (pe_op op_fdivW (pv 1) (pv 3)) (pa_cons (pe_op op_fdivW (pv 2) (pv 3)) pa_nil))))))), fun X ds r D hp hQ hN => ?_⟩
  · obtain ⟨x, y, u, _, _, rfl, _⟩ := h
    rfl
  · obtain ⟨x, y, u, h0, hb, rfl, rfl⟩ := hp
    have e := g3_gI x y u
    have cd : CDivW 0 (gI (gI x y) u) := by
      rw [e]
      exact com_ok (ns := [x, y, u]) (n := u) (by simp) h0 hb
    refine s_asg (u__law_gcd (u__law_gcd (ed_var rfl) (ed_var rfl)) (ed_var rfl)) (w_ret (ed_is (ed_tup (ea_cons (ed_fdiv (i := x) cd (ed_var rfl) (ed_var rfl)) (ea_cons (ed_fdiv (i := y) cd (ed_var rfl) (ed_var rfl)) (ea_cons (ed_fdiv (i := u) cd (ed_var rfl) (ed_var rfl)) ea_nil))) (by show 3 ≤ 100000; decide)) ?_) hQ)
    rw [e]
    rfl
def f__law_said : List PyData → PyData → Prop := fun ds r => ∃ (R : List (Int × Int)) (s : Int), 0 < s ∧ Bz 8000 s ∧ R.length ≤ 1000 ∧ ds = [dL2 R, .int s] ∧ r = dT3 (Sh.speeds s R)
theorem u__law_said {ss : SD} {t u : TE} {E : XK} {R : List (Int × Int)} {s : Int} (h : EvD K t ss (dL2 R)) (h' : EvD K u ss (.int s)) (h0 : 0 < s) (hb : Bz 8000 s) (hl : R.length ≤ 1000) : EvD K (tCall (spD K f__law_said) [] E (tCons t (tCons u tNil))) ss (dT3 (Sh.speeds s R)) := ed_call (ea_cons h (ea_cons h' ea_nil)) ⟨R, s, h0, hb, hl, rfl, rfl⟩
abbrev s__law_said : Stmt := topL 45
theorem sc__law_said : FnScope ["_law_dots", "_law_scale", "_law_x", "_law_y"] ["_law_dots", "_law_scale"] (defScope s__law_said) := ⟨rfl, rfl, rfl, by decide +kernel, rfl, by decide +kernel, by decide +kernel⟩
theorem ok__law_said {f : Addr} {fd : FuncData} (F : Dfn K mg "_law_said" s__law_said f fd ["_law_dots", "_law_scale"]) (B : Bt mg) (c__law_spot : Cal P w K mg base 2 "_law_spot" ["_law_x", "_law_y", "_law_w"] (spD K f__law_spot)) : Cal P w K mg base 3 "_law_said" ["_law_dots", "_law_scale"] (spD K f__law_said) := by
  refine calD F sc__law_said (fun ds r h => ?_) fun cdv A outer s H E hr => ⟨_, (pss_one (ps_ret (pe_tupleOf (by rfl) B.m_tuple (pe_lc (g := gTup K 2 (gCons (gName 2) (gCons (gName 3) gNil))) (own := [("_law_x", 2), ("_law_y", 3)]) rfl sc__law_said.nd (pi_list (pv 0)) (blkOk_by (N := ["_law_dots", "_law_scale", "_law_x", "_law_y"]) (sc := defScope s__law_said) (by decide +kernel)) (fun _ _ _ _ _ => (pg_tup rfl (pgs_cons (pg_name (i := 2) sc__law_said.nd rfl (Or.inl rfl) (Or.inr rfl)) (pgs_cons (pg_name (i := 3) sc__law_said.nd rfl (Or.inl rfl) (Or.inr rfl)) pgs_nil)))) (fun _ _ _ _ _ => pts_nil) (fun _ _ _ _ _ => (pe_c c__law_spot hr (by decide) (by rfl) (pa_cons (pv 2) (pa_cons (pv 3) (pa_cons (pv 1) pa_nil))))))))), fun X ds r D hp hQ hN => ?_⟩
  · obtain ⟨R, s, _, _, _, rfl, _⟩ := h
    rfl
  · obtain ⟨R, s, h0, hb, hl, rfl, rfl⟩ := hp
    refine w_ret (ed_is (ed_tuple (.inl rfl) (en_map (xs := R) (enc := dP2) (as := fun z => [(2, .int z.1), (3, .int z.2)]) (r := fun z => dP3 (Sh.red (z.1, z.2, s))) (ei_list (ed_var rfl)) (by omega) (fun _ _ => tg_tup (tgs_cons tg_name (tgs_cons tg_name tgs_nil))) (fun _ _ p hp => by simp at hp; rcases hp with rfl | rfl <;> simp) (fun z hz => u__law_spot (ed_var rfl) (ed_var rfl) (ed_var rfl) h0 hb)).dat) ?_) hQ
    unfold Sh.speeds
    show PyData.tuple _ = PyData.tuple (List.map dP3 _)
    rw [List.map_map]
    rfl
/-! ### _law_bend, _law_chain, _law_rim -/
def f__law_bend : List PyData → PyData → Prop := fun ds r => ∃ a b c : Int × Int, (Bg a.1 ∧ Bg a.2) ∧ (Bg b.1 ∧ Bg b.2) ∧ (Bg c.1 ∧ Bg c.2) ∧ ds = [dP2 a, dP2 b, dP2 c] ∧ r = .int (Sh.orient a b c)
theorem u__law_bend {ss : SD} {t1 t2 t3 : TE} {E : XK} {a b c : Int × Int} (h1 : EvD K t1 ss (dP2 a)) (h2 : EvD K t2 ss (dP2 b)) (h3 : EvD K t3 ss (dP2 c)) (ha : Bg a.1 ∧ Bg a.2) (hb : Bg b.1 ∧ Bg b.2) (hc : Bg c.1 ∧ Bg c.2) :
    EvD K (tCall (spD K f__law_bend) [] E (tCons t1 (tCons t2 (tCons t3 tNil)))) ss (.int (Sh.orient a b c)) := ed_call (ea_cons h1 (ea_cons h2 (ea_cons h3 ea_nil))) ⟨a, b, c, ha, hb, hc, rfl, rfl⟩
abbrev s__law_bend : Stmt := topL 46
theorem sc__law_bend : FnScope ["_law_a", "_law_b", "_law_c"] ["_law_a", "_law_b", "_law_c"] (defScope s__law_bend) := ⟨rfl, rfl, rfl, by decide +kernel, rfl, by decide +kernel, by decide +kernel⟩
theorem ok__law_bend {f : Addr} {fd : FuncData} (F : Dfn K mg "_law_bend" s__law_bend f fd ["_law_a", "_law_b", "_law_c"]) (B : Bt mg) : Cal P w K mg base 1 "_law_bend" ["_law_a", "_law_b", "_law_c"] (spD K f__law_bend) := by
  refine calD F sc__law_bend (fun ds r h => ?_) fun cdv A outer s H E hr => ⟨_, (pss_one (ps_ret (pe_op op_sub (pe_op op_mulW (pe_op op_sub (pe_ix ix_tup (pv 1) pe_int (fun _ _ => rfl)) (pe_ix ix_tup (pv 0) pe_int (fun _ _ => rfl))) (pe_op op_sub (pe_ix ix_tup (pv 2) pe_int (fun _ _ => rfl)) (pe_ix ix_tup (pv 0) pe_int (fun _ _ => rfl)))) (pe_op op_mulW (pe_op op_sub (pe_ix ix_tup (pv 1) pe_int (fun _ _ => rfl)) (pe_ix ix_tup (pv 0) pe_int (fun _ _ => rfl))) (pe_op op_sub (pe_ix ix_tup (pv 2) pe_int (fun _ _ => rfl)) (pe_ix ix_tup (pv 0) pe_int (fun _ _ => rfl))))))), fun X ds r D hp hQ hN => ?_⟩
  · obtain ⟨a, b, c, _, _, _, rfl, _⟩ := h
    rfl
  · obtain ⟨a, b, c, ha, hb, hc, rfl, rfl⟩ := hp
    refine w_ret (ed_sub (ed_mul ?_ (ed_sub (ed_ixT rfl (ed_var rfl) ed_int) (ed_ixT rfl (ed_var rfl) ed_int)) (ed_sub (ed_ixT rfl (ed_var rfl) ed_int) (ed_ixT rfl (ed_var rfl) ed_int)))
      (ed_mul ?_ (ed_sub (ed_ixT rfl (ed_var rfl) ed_int) (ed_ixT rfl (ed_var rfl) ed_int)) (ed_sub (ed_ixT rfl (ed_var rfl) ed_int) (ed_ixT rfl (ed_var rfl) ed_int)))) hQ
    · exact cmw (bz_sub hb.1 ha.1) (bz_sub hc.2 ha.2)
    · exact cmw (bz_sub hb.2 ha.2) (bz_sub hc.1 ha.1)
def f__law_chain : List PyData → PyData → Prop := fun ds r => ∃ S : List (Int × Int), Bg2 S ∧ S.length ≤ 1000 ∧ ds = [dL2 S] ∧ r = dL2 (Sh.chain S)
theorem u__law_chain {ss : SD} {t : TE} {E : XK} {S : List (Int × Int)} (h : EvD K t ss (dL2 S)) (hb : Bg2 S) (hl : S.length ≤ 1000) : EvD K (tCall (spD K f__law_chain) [] E (tCons t tNil)) ss (dL2 (Sh.chain S)) := ed_call (ea_cons h ea_nil) ⟨S, hb, hl, rfl, rfl⟩
abbrev s__law_chain : Stmt := topL 47
theorem sc__law_chain : FnScope ["_law_dots", "_law_kept", "_law_dot"] ["_law_dots"] (defScope s__law_chain) := ⟨rfl, rfl, rfl, by decide +kernel, rfl, by decide +kernel, by decide +kernel⟩
theorem ok__law_chain {f : Addr} {fd : FuncData} (F : Dfn K mg "_law_chain" s__law_chain f fd ["_law_dots"]) (B : Bt mg) (c__law_bend : Cal P w K mg base 1 "_law_bend" ["_law_a", "_law_b", "_law_c"] (spD K f__law_bend)) : Cal P w K mg base 2 "_law_chain" ["_law_dots"] (spD K f__law_chain) := by
  refine calD F sc__law_chain (fun ds r h => ?_) fun cdv A outer s H E hr => ⟨_, (pss_cons (ps_set (i := 1) sc__law_chain.nd rfl (Or.inl rfl) (pe_lst pa_nil))
     (pss_cons (ps_for PassesOwn.never rfl (pi_list (pv 0)) (pg_name (i := 2) sc__law_chain.nd rfl (Or.inl rfl) (Or.inl rfl))
     (pss_cons (ps_while PassesOwn.never ((pw_and (pt_cmpR op_gt (pe_callB call_len_seq (by rfl) B.m_len PySem.boot_len (pa_cons (pv 1) pa_nil)) pe_int (nomark _)) (pw_and1 (pt_cmpR op_le (pe_c c__law_bend hr (by decide) (by rfl) (pa_cons (pe_ix ix_list (pv 1) (pe_un un_neg pe_int) (fun _ _ => rfl)) (pa_cons (pe_ix ix_list (pv 1) (pe_un un_neg pe_int) (fun _ _ => rfl)) (pa_cons (pv 2) pa_nil)))) pe_int (nomark _))))).pt
     (pss_one (ps_expr (pe_bm0 PySem.F.plainAttrs_list PySem.F.slot_list_pop PySem.F.type_list_pop mt_pop (pv 1)))))
     (pss_one (ps_expr (pe_bm PySem.F.plainAttrs_list PySem.F.slot_list_append PySem.F.type_list_append mt_append (pv 1) (pa_cons (pv 2) pa_nil))))))
     (pss_one (ps_ret (pv 1))))), fun X ds r D hp hQ hN => ?_⟩
  · obtain ⟨S, _, _, rfl, _⟩ := h
    rfl
  · obtain ⟨S, hb, hl, rfl, rfl⟩ := hp
    refine w_chain S hl (fun st z hs hz => ?_) hQ
    match st with
    | [] => exact eb_is (eb_and (eb_test (ed_gt (ed_len (.inl rfl) (ed_var rfl)) ed_int)) (b := true) (fun q => by simp at q)) rfl
    | [t] => exact eb_is (eb_and (eb_test (ed_gt (ed_len (.inl rfl) (ed_var rfl)) ed_int)) (b := true) (fun q => by simp at q)) rfl
    | t :: t' :: r =>
      have e := at_end2 (r.reverse.map dP2) (dP2 t') (dP2 t)
      have e2 : (t :: t' :: r).reverse.map dP2 = r.reverse.map dP2 ++ [dP2 t', dP2 t] := by simp
      refine eb_is (eb_and (eb_test (ed_gt (ed_len (.inl rfl) (ed_var rfl)) ed_int)) fun q => eb_test (ed_le (u__law_bend (ed_ixL (by rw [e2]; exact e.1) (ed_var rfl) (ed_neg ed_int)) (ed_ixL (by rw [e2]; exact e.2) (ed_var rfl) (ed_neg ed_int)) (ed_var rfl) (hb _ (hs _ (by simp))) (hb _ (hs _ (by simp))) (hb _ hz)) ed_int)) ?_
      unfold popQ
      have e3 : decide (Sh.orient t' t z ≤ 0) = !decide (0 < Sh.orient t' t z) := by
        rw [← decide_not]
        exact decide_eq_decide.mpr (by omega)
      rw [e3]
      simp
      omega
def f__law_rim : List PyData → PyData → Prop := fun ds r => ∃ S : List (Int × Int), Bg2 S ∧ S ≠ [] ∧ S.length < 60 ∧ ds = [dL2 S] ∧ r = dL2 (Sh.hullZ (Sh.sortD S))
theorem u__law_rim {ss : SD} {t : TE} {E : XK} {S : List (Int × Int)} (h : EvD K t ss (dL2 S)) (hb : Bg2 S) (hne : S ≠ []) (hl : S.length < 60) : EvD K (tCall (spD K f__law_rim) [] E (tCons t tNil)) ss (dL2 (Sh.hullZ (Sh.sortD S))) := ed_call (ea_cons h ea_nil) ⟨S, hb, hne, hl, rfl, rfl⟩
abbrev s__law_rim : Stmt := topL 48
theorem sc__law_rim : FnScope ["_law_dots", "_law_some"] ["_law_dots"] (defScope s__law_rim) := ⟨rfl, rfl, rfl, by decide +kernel, rfl, by decide +kernel, by decide +kernel⟩
theorem ok__law_rim {f : Addr} {fd : FuncData} (F : Dfn K mg "_law_rim" s__law_rim f fd ["_law_dots"]) (B : Bt mg) (c__law_chain : Cal P w K mg base 2 "_law_chain" ["_law_dots"] (spD K f__law_chain)) : Cal P w K mg base 3 "_law_rim" ["_law_dots"] (spD K f__law_rim) := by
  refine calD F sc__law_rim (fun ds r h => ?_) fun cdv A outer s H E hr => ⟨_, (pss_cons (ps_set (i := 1) sc__law_rim.nd rfl (Or.inl rfl) (pe_srt (by rfl) B.m_sorted rfl (pe_callTy (cr_setOfT rfl hr.units) (by rfl) B.m_set PySem.Pv.boot_set (pa_cons (pv 0) pa_nil))))
     (pss_cons (ps_if (pt_cmpR op_lt (pe_callB call_len_seq (by rfl) B.m_len PySem.boot_len (pa_cons (pv 1) pa_nil)) pe_int (nomark _))
     (pss_one (ps_ret (pv 1)))
     pss_nil)
     (pss_one (ps_ret (pe_op op_cat (pe_slice sl_list (pe_c c__law_chain hr (by decide) (by rfl) (pa_cons (pv 1) pa_nil)) po_none (po_some (pe_un un_neg pe_int))) (pe_slice sl_list (pe_c c__law_chain hr (by decide) (by rfl) (pa_cons (pe_revL (pv 1)) pa_nil)) po_none (po_some (pe_un un_neg pe_int)))))))), fun X ds r D hp hQ hN => ?_⟩
  · obtain ⟨S, _, _, _, rfl, _⟩ := h
    rfl
  · obtain ⟨S, hb, hne, hl, rfl, rfl⟩ := hp
    have nR := Sh.sortD_ne hne
    have lR := sortD_len S
    have bR : Bg2 (Sh.sortD S) := fun z hz => hb z ((Sh.mem_sortD S).mp hz)
    refine s_asg (en_srt (es_of (ed_var rfl) (by omega))).dat ?_
    generalize Sh.sortD S = R at nR lR bR hQ
    have chL : ∀ S : List (Int × Int), (Sh.chain S).length ≤ S.length := fun S => by
      have := chainR_len S []
      unfold Sh.chain
      rw [List.length_reverse]
      have e0 : ([] : List (Int × Int)).length = 0 := rfl
      show (S.foldl Sh.push []).length ≤ S.length
      omega
    refine s_when (eb_test (ed_lt (ed_len (.inl rfl) (ed_var rfl)) ed_int)) (fun q => w_ret (ed_is (ed_var rfl) ?_) hQ) (fun q => ?_)
    · have l3 : R.length < 3 := by simp at q; omega
      match R, nR, l3 with
      | [a], _, _ => rfl
      | [a, b], _, _ => rw [hull_two]
    · have e : ¬ R.length = 1 := by simp at q; omega
      refine w_ret (ed_is (en_cat (en_sl (u__law_chain (S := R) (ed_var rfl) bR (by omega)) eo_none (eo_some (ed_neg ed_int))).dat (en_sl (u__law_chain (S := R.reverse) (ed_is (en_rev (ed_var rfl)).dat (by show PyData.list _ = PyData.list (R.reverse.map dP2); rw [List.map_reverse])) (fun z hz => bR z (List.mem_reverse.mp hz)) (by rw [List.length_reverse]; omega)) eo_none (eo_some (ed_neg ed_int))).dat ?_).dat ?_) hQ
      · rw [cutP_last, cutP_last, List.length_dropLast, List.length_dropLast, List.length_map, List.length_map]
        have a := chL R
        have b := chL R.reverse
        rw [List.length_reverse] at b
        omega
      · show PyData.list _ = PyData.list ((Sh.hullZ R).map dP2)
        unfold Sh.hullZ
        rw [if_neg e, cutP_last, cutP_last, ← List.map_dropLast, ← List.map_dropLast, ← List.map_append]
/-! ### _law_worth -/
def f__law_worth : List PyData → PyData → Prop := fun ds r => ∃ p g : P3, Bz 400 p.1 ∧ Bz 400 p.2.1 ∧ Bz 400 p.2.2 ∧ Bz 400 g.1 ∧ Bz 400 g.2.1 ∧ Bz 400 g.2.2 ∧ ds = [dP3 p, dP3 g] ∧ r = .int (Sh.frm g p)
abbrev Bw (p : P3) : Prop := Bz 400 p.1 ∧ Bz 400 p.2.1 ∧ Bz 400 p.2.2
theorem u__law_worth {ss : SD} {t u : TE} {E : XK} {p g : P3} (h : EvD K t ss (dP3 p)) (h' : EvD K u ss (dP3 g)) (hp : Bw p) (hg : Bw g) : EvD K (tCall (spD K f__law_worth) [] E (tCons t (tCons u tNil))) ss (.int (Sh.frm g p)) := ed_call (ea_cons h (ea_cons h' ea_nil)) ⟨p, g, hp.1, hp.2.1, hp.2.2, hg.1, hg.2.1, hg.2.2, rfl, rfl⟩
abbrev s__law_worth : Stmt := topL 49
theorem sc__law_worth : FnScope ["_law_spot_here", "_law_form"] ["_law_spot_here", "_law_form"] (defScope s__law_worth) := ⟨rfl, rfl, rfl, by decide +kernel, rfl, by decide +kernel, by decide +kernel⟩
theorem ok__law_worth {f : Addr} {fd : FuncData} (F : Dfn K mg "_law_worth" s__law_worth f fd ["_law_spot_here", "_law_form"]) (B : Bt mg) : Cal P w K mg base 1 "_law_worth" ["_law_spot_here", "_law_form"] (spD K f__law_worth) := by
  refine calD F sc__law_worth (fun ds r h => ?_) fun cdv A outer s H E hr => ⟨_, (pss_one (ps_ret (pe_op op_add (pe_op op_add (pe_op op_mulW (pe_ix ix_tup (pv 1) pe_int (fun _ _ => rfl)) (pe_ix ix_tup (pv 0) pe_int (fun _ _ => rfl))) (pe_op op_mulW (pe_ix ix_tup (pv 1) pe_int (fun _ _ => rfl)) (pe_ix ix_tup (pv 0) pe_int (fun _ _ => rfl)))) (pe_op op_mulW (pe_ix ix_tup (pv 1) pe_int (fun _ _ => rfl)) (pe_ix ix_tup (pv 0) pe_int (fun _ _ => rfl)))))), fun X ds r D hp hQ hN => ?_⟩
  · obtain ⟨p, g, _, _, _, _, _, _, rfl, _⟩ := h
    rfl
  · obtain ⟨p, g, a1, a2, a3, b1, b2, b3, rfl, rfl⟩ := hp
    exact w_ret (ed_add (ed_add (ed_mul (cmw b1 a1) (ed_ixT rfl (ed_var rfl) ed_int) (ed_ixT rfl (ed_var rfl) ed_int)) (ed_mul (cmw b2 a2) (ed_ixT rfl (ed_var rfl) ed_int) (ed_ixT rfl (ed_var rfl) ed_int))) (ed_mul (cmw b3 a3) (ed_ixT rfl (ed_var rfl) ed_int) (ed_ixT rfl (ed_var rfl) ed_int))) hQ
end
end Wk
end
section
set_option Elab.async false
set_option linter.all false
set_option maxRecDepth 100000
namespace Wk
open PySem PySem.Spec PyProof.Rows L2 Evl

/-! ### the neighbour before -/
abbrev z3 : P3 := (0, 0, 1)
def prevOf (L : List P3) (k : Nat) : P3 := Sh.lastD (Sh.lastD z3 L) (L.take k)
theorem lastD_snoc {α : Type} (d : α) (l : List α) (x : α) : Sh.lastD d (l ++ [x]) = x := by
  rw [Sh.lastD_app]
  rfl
theorem prev_at {L : List P3} {k : Nat} {q : P3} (h : L[k]? = some q) : atI (L.map dP3) ((k : Int) - 1) = some (dP3 (prevOf L k)) := by
  cases k with
  | zero =>
    have ne : L ≠ [] := by
      intro e
      rw [e] at h
      simp at h
    obtain ⟨l, v, e⟩ : ∃ l v, L = l ++ [v] := ⟨L.dropLast, L.getLast ne, (List.dropLast_concat_getLast ne).symm⟩
    subst e
    unfold prevOf
    rw [lastD_snoc, List.map_append]
    exact atI_last (l.map dP3) (dP3 v)
  | succ k =>
    have lt : k < L.length := by
      have := (List.getElem?_eq_some_iff.mp h).1
      omega
    have hk : L[k]? = some L[k] := List.getElem?_eq_getElem lt
    unfold prevOf
    rw [take_snoc hk, lastD_snoc, show ((k + 1 : Nat) : Int) - 1 = (k : Int) by omega]
    exact atI_nat (get_map dP3 hk)
theorem prev_mem {L : List P3} {k : Nat} {q : P3} (h : L[k]? = some q) : prevOf L k ∈ L := by
  have ne : L ≠ [] := by
    intro e
    rw [e] at h
    simp at h
  unfold prevOf
  cases k with
  | zero => exact Sh.lastD_mem _ ne
  | succ k =>
    have lt : k < L.length := by
      have := (List.getElem?_eq_some_iff.mp h).1
      omega
    have hk : L[k]? = some L[k] := List.getElem?_eq_getElem lt
    rw [take_snoc hk, lastD_snoc]
    exact List.getElem_mem lt
theorem cutw_snoc (f : Int × Int) : ∀ (l : List P3) (p q : P3), Sh.cutw f p (l ++ [q]) = Sh.cutw f p l ++ Sh.emit f (Sh.lastD p l) q
  | [], p, q => by
    show Sh.emit f p q ++ [] = [] ++ Sh.emit f p q
    simp
  | x :: l, p, q => by
    show Sh.emit f p x ++ Sh.cutw f x (l ++ [q]) = (Sh.emit f p x ++ Sh.cutw f x l) ++ Sh.emit f (Sh.lastD x l) q
    rw [cutw_snoc f l x q, List.append_assoc]
theorem frm_neg (f : Int × Int) (p : P3) : Sh.frm (0 - f.1, 0 - f.2, 0) p = -Sh.lf f p := by
  unfold Sh.frm Sh.lf
  simp only
  grind
theorem opp_mul (a b : Int) : -a * -b < 0 ↔ (a < 0 ∧ 0 < b) ∨ (0 < a ∧ b < 0) := by
  rw [Int.neg_mul_neg]
  constructor
  · intro h
    by_cases c : a < 0
    · refine .inl ⟨c, Decidable.byContradiction fun n => ?_⟩
      have := Int.mul_nonneg_of_nonpos_of_nonpos (Int.le_of_lt c) (show b ≤ 0 by omega)
      omega
    · by_cases d : 0 < a
      · refine .inr ⟨d, Decidable.byContradiction fun n => ?_⟩
        have := Int.mul_nonneg (Int.le_of_lt d) (show 0 ≤ b by omega)
        omega
      · have : a = 0 := by omega
        rw [this, Int.zero_mul] at h
        omega
  · rintro (⟨h1, h2⟩ | ⟨h1, h2⟩)
    · exact Int.mul_neg_of_neg_of_pos h1 h2
    · exact Int.mul_neg_of_pos_of_neg h1 h2
def co (p : P3) : Nat → Int
  | 0 => p.1
  | 1 => p.2.1
  | _ => p.2.2
theorem co_at {p : P3} {j : Nat} (h : j < 3) : atI [PyData.int p.1, .int p.2.1, .int p.2.2] (0 + (j : Int)) = some (.int (co p j)) := by
  rw [Int.zero_add]
  refine atI_nat ?_
  match j, h with
  | 0, _ => rfl
  | 1, _ => rfl
  | 2, _ => rfl
theorem Bp.w {p : P3} (h : Bp p) : Bw p := ⟨bz_le h.q.1 (by decide), bz_le h.q.2.1 (by decide), bz_le h.q.2.2 (by decide)⟩
section
variable {P : Program} {w : World} {K : PySem.W.Frag} {mg : Str → Option Value} {base : Heap}
/-! ### _law_cut -/
def f__law_cut : List PyData → PyData → Prop := fun ds r => ∃ (z : PyData) (L : List P3) (g : Int × Int), Sq z (L.map dP3) ∧ (∀ p ∈ L, Bp p) ∧ L.length ≤ 2000 ∧ Sh.nrm g ∧ ds = [z, dP3 (0 - g.1, 0 - g.2, 0)] ∧ r = dL3 (Sh.lawCut g L)
theorem u__law_cut {ss : SD} {t u : TE} {E : XK} {z : PyData} {L : List P3} {g : Int × Int} (h : EvD K t ss z) (h' : EvD K u ss (dP3 (0 - g.1, 0 - g.2, 0))) (sq : Sq z (L.map dP3)) (hL : ∀ p ∈ L, Bp p) (l1 : L.length ≤ 2000) (hg : Sh.nrm g) : EvD K (tCall (spD K f__law_cut) [] E (tCons t (tCons u tNil))) ss (dL3 (Sh.lawCut g L)) := ed_call (ea_cons h (ea_cons h' ea_nil)) ⟨z, L, g, sq, hL, l1, hg, rfl, rfl⟩
abbrev s__law_cut : Stmt := topL 50
theorem sc__law_cut : FnScope ["_law_spots", "_law_form", "_law_found", "_law_k", "_law_one_here", "_law_two", "_law_here", "_law_there", "_law_sign", "_law_x", "_law_y", "_law_w", "_law_j"] ["_law_spots", "_law_form"] (defScope s__law_cut) := ⟨rfl, rfl, rfl, by decide +kernel, rfl, by decide +kernel, by decide +kernel⟩
theorem ok__law_cut {f : Addr} {fd : FuncData} (F : Dfn K mg "_law_cut" s__law_cut f fd ["_law_spots", "_law_form"]) (B : Bt mg) (c__law_spot : Cal P w K mg base 2 "_law_spot" ["_law_x", "_law_y", "_law_w"] (spD K f__law_spot)) (c__law_worth : Cal P w K mg base 1 "_law_worth" ["_law_spot_here", "_law_form"] (spD K f__law_worth)) : Cal P w K mg base 3 "_law_cut" ["_law_spots", "_law_form"] (spD K f__law_cut) := by
  refine calD F sc__law_cut (fun ds r h => ?_) fun cdv A outer s H E hr => ⟨_, (pss_cons (ps_set (i := 2) sc__law_cut.nd rfl (Or.inl rfl) (pe_lst pa_nil))
     (pss_cons (ps_for PassesOwn.never rfl (pi_range1 (by rfl) B.m_range (pa_cons (pe_callB call_len_seq (by rfl) B.m_len PySem.boot_len (pa_cons (pv 0) pa_nil)) pa_nil)) (pg_name (i := 3) sc__law_cut.nd rfl (Or.inl rfl) (Or.inl rfl))
     (pss_cons (ps_asg (pe_tup (pa_cons (pe_ix ix_seq (pv 0) (pe_op op_sub (pv 3) pe_int) (fun _ _ => rfl)) (pa_cons (pe_ix ix_seq (pv 0) (pv 3) (fun _ _ => rfl)) pa_nil))) (pg_tup rfl (pgs_cons (pg_name (i := 4) sc__law_cut.nd rfl (Or.inr rfl) (Or.inl rfl)) (pgs_cons (pg_name (i := 5) sc__law_cut.nd rfl (Or.inr rfl) (Or.inl rfl)) pgs_nil))))
     (pss_cons (ps_asg (pe_tup (pa_cons (pe_c c__law_worth hr (by decide) (by rfl) (pa_cons (pv 4) (pa_cons (pv 1) pa_nil))) (pa_cons (pe_c c__law_worth hr (by decide) (by rfl) (pa_cons (pv 5) (pa_cons (pv 1) pa_nil))) pa_nil))) (pg_tup rfl (pgs_cons (pg_name (i := 6) sc__law_cut.nd rfl (Or.inr rfl) (Or.inl rfl)) (pgs_cons (pg_name (i := 7) sc__law_cut.nd rfl (Or.inr rfl) (Or.inl rfl)) pgs_nil))))
     (pss_cons (ps_if (pt_cmpR op_lt (pe_op op_mulW (pv 6) (pv 7)) pe_int (nomark _))
     (pss_cons (ps_set (i := 8) sc__law_cut.nd rfl (Or.inr rfl) (pe_ifExp (pt_cmpR op_gt (pv 6) pe_int (nomark _)) pe_int (pe_un un_neg pe_int)))
     (pss_cons (ps_asg (pe_lc (g := gName 12) (own := [("_law_j", 12)]) rfl sc__law_cut.nd (pi_range1 (by rfl) B.m_range (pa_cons pe_int pa_nil)) (blkOk_by (N := ["_law_spots", "_law_form", "_law_found", "_law_k", "_law_one_here", "_law_two", "_law_here", "_law_there", "_law_sign", "_law_x", "_law_y", "_law_w", "_law_j"]) (sc := defScope s__law_cut) (by decide +kernel)) (fun _ _ _ _ _ => (pg_name (i := 12) sc__law_cut.nd rfl (Or.inl rfl) (Or.inr rfl))) (fun _ _ _ _ _ => pts_nil) (fun _ _ _ _ _ => (pe_op op_mulW (pv 8) (pe_op op_sub (pe_op op_mulW (pe_ix (r := rIxT K) ix_tup (pv 5) (pv 12) (fun _ _ => rfl)) (pv 6)) (pe_op op_mulW (pe_ix (r := rIxT K) ix_tup (pv 4) (pv 12) (fun _ _ => rfl)) (pv 7)))))) (pg_unl rfl (pgs_cons (pg_name (i := 9) sc__law_cut.nd rfl (Or.inl rfl) (Or.inl rfl)) (pgs_cons (pg_name (i := 10) sc__law_cut.nd rfl (Or.inl rfl) (Or.inl rfl)) (pgs_cons (pg_name (i := 11) sc__law_cut.nd rfl (Or.inl rfl) (Or.inl rfl)) pgs_nil)))))
     (pss_one (ps_expr (pe_bm PySem.F.plainAttrs_list PySem.F.slot_list_append PySem.F.type_list_append mt_append (pv 2) (pa_cons (pe_c c__law_spot hr (by decide) (by rfl) (pa_cons (pv 9) (pa_cons (pv 10) (pa_cons (pv 11) pa_nil)))) pa_nil))))))
     pss_nil)
     (pss_one (ps_if (pt_cmpR op_ge (pv 7) pe_int (nomark _))
     (pss_one (ps_expr (pe_bm PySem.F.plainAttrs_list PySem.F.slot_list_append PySem.F.type_list_append mt_append (pv 2) (pa_cons (pv 5) pa_nil))))
     pss_nil))))))
     (pss_one (ps_ret (pv 2))))), fun X ds r D hp hQ hN => ?_⟩
  · obtain ⟨z, L, g, _, _, _, _, rfl, _⟩ := h
    rfl
  · obtain ⟨z, L, g, sq, hL, l1, hg, rfl, rfl⟩ := hp
    have ln : (L.map dP3).length = L.length := List.length_map _
    have gw : Bw (0 - g.1, 0 - g.2, 0) := by
      obtain ⟨⟨a, b⟩, c, d⟩ := hg
      exact ⟨bz_le (bg_of (z := 0 - g.1) ⟨by omega, by omega⟩) (by decide), bz_le (bg_of (z := 0 - g.2) ⟨by omega, by omega⟩) (by decide), bz_le (bg_of (z := 0) ⟨by decide, by decide⟩) (by decide)⟩
    refine s_new (en_lst ea_nil (by show 0 ≤ 100000; decide)) (by show 2 < 13; decide) ?_
    refine s_for (xs := List.range L.length) (enc := fun (k : Nat) => PyData.int (0 + (k : Int))) (as := fun (k : Nat) => [(3, .int (0 + (k : Int)))]) (fun _ => [some z, some (dP3 (0 - g.1, 0 - g.2, 0)), none, none, none, none, none, none, none, none, none, none, none]) (fun i => some (2, (Sh.cutw g (Sh.lastD z3 L) (L.take i)).map dP3)) ?_ (fun _ _ => tg_name) (fun _ _ _ => rfl) (LeD.refl _) rfl (fun i x hx G' D' h1 h2 => ?_) ?_
    · have e := ei_rng1 (K := K) (ss := [some z, some (dP3 (0 - g.1, 0 - g.2, 0)), none, none, none, none, none, none, none, none, none, none, none]) (ed_len sq (ed_var (i := 0) rfl)) ⟨Int.natCast_nonneg _, by rw [ln]; omega⟩
      rw [ln, Int.toNat_natCast] at e
      exact e
    · have lt : i < L.length := by
        have := (List.getElem?_eq_some_iff.mp hx).1
        simpa using this
      have ex : x = i := by
        rw [List.getElem?_range lt] at hx
        exact (Option.some.inj hx).symm
      subst ex
      have gx : L[x]? = some L[x] := List.getElem?_eq_getElem lt
      generalize hq : L[x] = q at gx
      have pa := prev_at gx
      have pm := prev_mem gx
      have qm : q ∈ L := List.mem_of_getElem? gx
      generalize hpv : prevOf L x = p at pa pm
      have bp := hL p pm
      have bq := hL q qm
      have B1 : Bz 100 (Sh.lf g p) := lf_bz hg bp
      have B2 : Bz 100 (Sh.lf g q) := lf_bz hg bq
      have nx : Sh.cutw g (Sh.lastD z3 L) (L.take (x + 1)) = Sh.cutw g (Sh.lastD z3 L) (L.take x) ++ Sh.emit g p q := by
        rw [take_snoc gx, cutw_snoc]
        unfold prevOf at hpv
        rw [hpv]
      have lc : (Sh.cutw g (Sh.lastD z3 L) (L.take x)).length ≤ 2 * L.length := by
        have := Sh.cutw_len g (L.take x) (Sh.lastD z3 L)
        rw [List.length_take] at this
        omega
      refine s_tgt (ed_tup (ea_cons (ed_ixS sq (show atI (L.map dP3) (0 + (x : Int) - 1) = some (dP3 p) by rw [Int.zero_add]; exact pa) (ed_var rfl) (ed_sub (ed_var rfl) ed_int)) (ea_cons (ed_ixS sq (show atI (L.map dP3) (0 + (x : Int)) = some (dP3 q) by rw [Int.zero_add]; exact atI_nat (get_map dP3 gx)) (ed_var rfl) (ed_var rfl)) ea_nil)) (by show 2 ≤ 100000; decide)) (tg_tup (tgs_cons tg_name (tgs_cons tg_name tgs_nil))) rfl ?_
      refine s_tgt (d := .tuple [.int (-Sh.lf g p), .int (-Sh.lf g q)]) (ed_tup (ea_cons (ed_is (u__law_worth (ed_var rfl) (ed_var rfl) bp.w gw) (by rw [frm_neg])) (ea_cons (ed_is (u__law_worth (ed_var rfl) (ed_var rfl) bq.w gw) (by rw [frm_neg])) ea_nil)) (by show 2 ≤ 100000; decide)) (tg_tup (tgs_cons tg_name (tgs_cons tg_name tgs_nil))) rfl ?_
      refine (fun (tail : ∀ es : List P3, es ++ (if Sh.lf g q ≤ 0 then [q] else []) = Sh.cutw g (Sh.lastD z3 L) (L.take (x + 1)) → es.length ≤ 5000 → Wp K X H G' _ [some z, some (dP3 (0 - g.1, 0 - g.2, 0)), none, none, some (dP3 p), some (dP3 q), some (.int (-Sh.lf g p)), some (.int (-Sh.lf g q)), none, none, none, none, none] (some (2, es.map dP3))) =>
        s_when (eb_test (ed_lt (ed_mul (cmw (bz_neg B1) (bz_neg B2)) (ed_var rfl) (ed_var rfl)) ed_int)) (fun c => ?_) (fun c => w_le (led_same (led_same (led_same (led_no (led_same (led_same (led_same (led_same (led_same (led_same (led_same (led_same (led_same led_nil))))))))))))) (tail _ ?_ (by omega)))) (fun es he hl => ?_)
      · have o : Sh.opp g p q := (opp_mul _ _).mp (of_decide_eq_true c)
        have ee : Sh.emit g p q = [Sh.crossPt g p q] ++ if Sh.lf g q ≤ 0 then [q] else [] := by
          unfold Sh.emit
          rw [if_pos o]
        refine s_asg (ed_ite (eb_test (ed_gt (ed_var rfl) ed_int)) (fun _ => ed_int) (fun _ => ed_neg ed_int)) ?_
        have esg : (if decide (0 < -Sh.lf g p) = true then PyData.int 1 else PyData.int (-1)) = .int (if 0 < -Sh.lf g p then 1 else -1) := by
          by_cases c2 : 0 < -Sh.lf g p
          · rw [if_pos (decide_eq_true c2), if_pos c2]
          · rw [if_neg (fun h => c2 (of_decide_eq_true h)), if_neg c2]
        rw [esg]
        generalize hsg : (if 0 < -Sh.lf g p then (1 : Int) else -1) = sg
        have bsg : Bz 20 sg := by
          rw [← hsg]
          split
          · exact bg_of ⟨by decide, by decide⟩
          · exact bg_of ⟨by decide, by decide⟩
        have cB : ∀ {r : P3}, Bp r → ∀ j, Bz 20 (co r j) := fun {r} h j => by
          match j with
          | 0 => exact h.q.1
          | 1 => exact h.q.2.1
          | _ + 2 => exact h.q.2.2
        refine s_tgt (d := .list ((List.range 3).map fun j => .int (sg * (co q j * -Sh.lf g p - co p j * -Sh.lf g q)))) (en_map (xs := List.range 3) (enc := fun (k : Nat) => PyData.int (0 + (k : Int))) (as := fun (k : Nat) => [(12, .int (0 + (k : Int)))]) (r := fun j => .int (sg * (co q j * -Sh.lf g p - co p j * -Sh.lf g q))) (ei_rng1 ed_int ⟨by decide, by decide⟩) (by rw [List.length_range]; decide) (fun _ _ => tg_name) (fun _ _ y hy => by simp at hy; simp [hy]) (fun j hj => ?_)).dat (tg_unl (tgs_cons tg_name (tgs_cons tg_name (tgs_cons tg_name tgs_nil)))) rfl ?_
        · have j3 : j < 3 := List.mem_range.mp hj
          exact ed_mul (cmw bsg (bz_sub (bz_mul (cB bq j) (bz_neg B1)) (bz_mul (cB bp j) (bz_neg B2)))) (ed_var rfl) (ed_sub (ed_mul (cmw (cB bq j) (bz_neg B1)) (ed_ixT (co_at j3) (ed_var rfl) (ed_var rfl)) (ed_var rfl)) (ed_mul (cmw (cB bp j) (bz_neg B2)) (ed_ixT (co_at j3) (ed_var rfl) (ed_var rfl)) (ed_var rfl)))
        · have pcE : (sg * (q.1 * -Sh.lf g p - p.1 * -Sh.lf g q), sg * (q.2.1 * -Sh.lf g p - p.2.1 * -Sh.lf g q), sg * (q.2.2 * -Sh.lf g p - p.2.2 * -Sh.lf g q)) = Sh.pc g p q := by
            unfold Sh.pc Sh.cmb
            unfold Sh.opp at o
            rcases o with ⟨o1, o2⟩ | ⟨o1, o2⟩
            · have a1 : ((Sh.lf g q).natAbs : Int) = Sh.lf g q := by omega
              have a2 : ((Sh.lf g p).natAbs : Int) = -Sh.lf g p := by omega
              have a3 : sg = 1 := by rw [← hsg, if_pos (by omega)]
              rw [a1, a2, a3]
              refine Prod.ext ?_ (Prod.ext ?_ ?_) <;> simp only <;> grind
            · have a1 : ((Sh.lf g q).natAbs : Int) = -Sh.lf g q := by omega
              have a2 : ((Sh.lf g p).natAbs : Int) = Sh.lf g p := by omega
              have a3 : sg = -1 := by rw [← hsg, if_neg (by omega)]
              rw [a1, a2, a3]
              refine Prod.ext ?_ (Prod.ext ?_ ?_) <;> simp only <;> grind
          have w3 : sg * (q.2.2 * -Sh.lf g p - p.2.2 * -Sh.lf g q) = (Sh.pc g p q).2.2 := by rw [← pcE]
          have hw0 : 0 < (Sh.pc g p q).2.2 := Sh.pc_w bp.1.1 bq.1.1 o
          have hwB : Bz 8000 (sg * (q.2.2 * -Sh.lf g p - p.2.2 * -Sh.lf g q)) := bz_le (bz_mul bsg (bz_sub (bz_mul bq.q.2.2 (bz_neg B1)) (bz_mul bp.q.2.2 (bz_neg B2)))) (by decide)
          have eP : dP3 (Sh.red (sg * (q.1 * -Sh.lf g p - p.1 * -Sh.lf g q), sg * (q.2.1 * -Sh.lf g p - p.2.1 * -Sh.lf g q), sg * (q.2.2 * -Sh.lf g p - p.2.2 * -Sh.lf g q))) = dP3 (Sh.crossPt g p q) := by
            rw [pcE]
            rfl
          refine w_app (ed_is (u__law_spot (x := sg * (q.1 * -Sh.lf g p - p.1 * -Sh.lf g q)) (y := sg * (q.2.1 * -Sh.lf g p - p.2.1 * -Sh.lf g q)) (u := sg * (q.2.2 * -Sh.lf g p - p.2.2 * -Sh.lf g q)) (ed_var rfl) (ed_var rfl) (ed_var rfl) (by rw [w3]; exact hw0) hwB) eP) (by rw [List.length_map]; omega) ?_
          refine w_le (led_same (led_same (led_same (led_no (led_same (led_same (led_same (led_same (led_no (led_no (led_no (led_no (led_same led_nil))))))))))))) ?_
          have := tail (Sh.cutw g (Sh.lastD z3 L) (L.take x) ++ [Sh.crossPt g p q]) (by rw [nx, ee, List.append_assoc]) (by rw [List.length_append]; simp; omega)
          rw [List.map_append] at this
          exact this
      · have o : ¬ Sh.opp g p q := fun o => of_decide_eq_false c ((opp_mul _ _).mpr o)
        rw [nx]
        unfold Sh.emit
        rw [if_neg o, List.nil_append]
      · refine w_if (eb_test (ed_ge (ed_var rfl) ed_int)) (fun c => ?_) (fun c => w_next ?_)
        · have c2 : Sh.lf g q ≤ 0 := by simp at c; omega
          refine w_app (ed_var rfl) (by rw [List.length_map]; omega) (w_end (h2.trans ?_) (led_same (led_same (led_no (led_no (led_no (led_no (led_no (led_no (led_same (led_same (led_same (led_same (led_same led_nil))))))))))))))
          rw [← he, if_pos c2, List.map_append]
          rfl
        · have c2 : ¬ Sh.lf g q ≤ 0 := by simp at c; omega
          refine w_end (h2.trans ?_) (led_same (led_same (led_no (led_no (led_no (led_no (led_no (led_no (led_same (led_same (led_same (led_same (led_same led_nil)))))))))))))
          rw [← he, if_neg c2, List.append_nil]
    · rw [List.length_range, List.take_of_length_le (Nat.le_refl _)]
      exact w_ret (ed_var rfl) hQ
end
end Wk
end
section
set_option Elab.async false
set_option linter.all false
set_option maxRecDepth 100000
namespace Wk
open PySem PySem.Spec PyProof.Rows L2 Evl

theorem law_bp {L : List P3} (h : Sh.LawL L) : ∀ p ∈ L, Bp p := fun p hp => by
  obtain ⟨a, b, c⟩ := h.sm p hp
  have d := (h.pts p hp).1
  exact ⟨⟨d, c.2⟩, bg_of ⟨by omega, by omega⟩, bg_of ⟨by omega, by omega⟩⟩
theorem left_snoc (L : List P3) (fs : List (Int × Int)) (f : Int × Int) : Sh.lawLeft L (fs ++ [f]) = Sh.lawCut f (Sh.lawLeft L fs) := by
  unfold Sh.lawLeft
  rw [List.foldl_append]
  rfl
theorem left_len (L : List P3) : ∀ fs : List (Int × Int), (Sh.lawLeft L fs).length ≤ 2 ^ fs.length * L.length := fun fs => by
  unfold Sh.lawLeft
  induction fs generalizing L with
  | nil => simp
  | cons f fs ih =>
    have h := ih (Sh.lawCut f L)
    have h2 : (Sh.lawCut f L).length ≤ 2 * L.length := Sh.cutw_len f L _
    show (fs.foldl _ (Sh.lawCut f L)).length ≤ 2 ^ (fs.length + 1) * L.length
    refine Nat.le_trans h ?_
    rw [Nat.pow_succ, Nat.mul_assoc]
    exact Nat.mul_le_mul_left _ h2
section
variable {P : Program} {w : World} {K : PySem.W.Frag} {mg : Str → Option Value} {base : Heap}
/-! ### _law_left -/
def f__law_left : List PyData → PyData → Prop := fun ds r => ∃ (z y : PyData) (L sh : List P3), Sq z (L.map dP3) ∧ Sq y (sh.map dP3) ∧ Sh.LawL L ∧ L.length ≤ 8 ∧ sh ≠ [] ∧ sh.length ≤ 8 ∧ (∀ s ∈ sh, Bo s) ∧ ds = [z, y] ∧ r = dL3 (Sh.lawLeft L (fsOf sh))
theorem u__law_left {ss : SD} {t u : TE} {E : XK} {z y : PyData} {L sh : List P3} (h : EvD K t ss z) (h' : EvD K u ss y) (sq : Sq z (L.map dP3)) (sy : Sq y (sh.map dP3)) (hL : Sh.LawL L) (l1 : L.length ≤ 8) (hn : sh ≠ []) (l2 : sh.length ≤ 8) (hb : ∀ s ∈ sh, Bo s) : EvD K (tCall (spD K f__law_left) [] E (tCons t (tCons u tNil))) ss (dL3 (Sh.lawLeft L (fsOf sh))) := ed_call (ea_cons h (ea_cons h' ea_nil)) ⟨z, y, L, sh, sq, sy, hL, l1, hn, l2, hb, rfl, rfl⟩
def leftD (z : PyData) (L sh : List P3) : Nat → PyData
  | 0 => z
  | i + 1 => dL3 (Sh.lawLeft L (fsOf (sh.take (i + 1))))
theorem leftD_sq {z : PyData} {L sh : List P3} (sq : Sq z (L.map dP3)) : ∀ i, Sq (leftD z L sh i) ((Sh.lawLeft L (fsOf (sh.take i))).map dP3)
  | 0 => sq
  | i + 1 => .inl rfl
abbrev s__law_left : Stmt := topL 57
theorem sc__law_left : FnScope ["_law_spots", "_law_banks", "_law_a", "_law_b", "_law_h"] ["_law_spots", "_law_banks"] (defScope s__law_left) := ⟨rfl, rfl, rfl, by decide +kernel, rfl, by decide +kernel, by decide +kernel⟩
theorem ok__law_left {f : Addr} {fd : FuncData} (F : Dfn K mg "_law_left" s__law_left f fd ["_law_spots", "_law_banks"]) (B : Bt mg) (c__law_cut : Cal P w K mg base 3 "_law_cut" ["_law_spots", "_law_form"] (spD K f__law_cut)) : Cal P w K mg base 4 "_law_left" ["_law_spots", "_law_banks"] (spD K f__law_left) := by
  refine calD F sc__law_left (fun ds r h => ?_) fun cdv A outer s H E hr => ⟨_, (pss_cons (ps_for PassesOwn.never rfl (pi_seq (pv 1)) (pg_tup rfl (pgs_cons (pg_name (i := 2) sc__law_left.nd rfl (Or.inl rfl) (Or.inl rfl)) (pgs_cons (pg_name (i := 3) sc__law_left.nd rfl (Or.inl rfl) (Or.inl rfl)) (pgs_cons (pg_name (i := 4) sc__law_left.nd rfl (Or.inl rfl) (Or.inl rfl)) pgs_nil))))
     (pss_one (ps_set (i := 0) sc__law_left.nd rfl (Or.inl rfl) (pe_c c__law_cut hr (by decide) (by rfl) (pa_cons (pv 0) (pa_cons (pe_tup (pa_cons (pe_op op_sub pe_int (pv 2)) (pa_cons (pe_op op_sub pe_int (pv 3)) (pa_cons pe_int pa_nil)))) pa_nil))))))
     (pss_one (ps_ret (pv 0)))), fun X ds r D hp hQ hN => ?_⟩
  · obtain ⟨z, y, L, sh, _, _, _, _, _, _, _, rfl, _⟩ := h
    rfl
  · obtain ⟨z, y, L, sh, sq, sy, hL, l1, hn, l2, hb, rfl, rfl⟩ := hp
    refine s_for (xs := sh) (enc := dP3) (as := fun s => [(2, .int s.1), (3, .int s.2.1), (4, .int s.2.2)]) (fun i => [some (leftD z L sh i), some y, none, none, none]) (fun i => none) (ei_seq sy (ed_var rfl)) (fun _ _ => tg_tup (tgs_cons tg_name (tgs_cons tg_name (tgs_cons tg_name tgs_nil)))) (fun _ _ _ => rfl) (LeD.refl _) rfl (fun i s hs G' D' h1 h2 => ?_) ?_
    · have bs := hb s (List.mem_of_getElem? hs)
      have li : i < sh.length := (List.getElem?_eq_some_iff.mp hs).1
      have okT : Sh.Okf (fsOf (sh.take i)) := okf_of fun q hq => hb q (List.mem_of_mem_take hq)
      have hM := (Sh.law_run (fsOf (sh.take i)) L okT hL).2
      have ll := left_len L (fsOf (sh.take i))
      have l3 : (fsOf (sh.take i)).length ≤ 7 := by
        unfold fsOf
        rw [List.length_map, List.length_take]
        omega
      have l4 : (2 : Nat) ^ (fsOf (sh.take i)).length ≤ 2 ^ 7 := Nat.pow_le_pow_right (by decide) l3
      have l5 : (2 : Nat) ^ (fsOf (sh.take i)).length * L.length ≤ 2 ^ 7 * 8 := Nat.mul_le_mul l4 l1
      have nx : Sh.lawLeft L (fsOf (sh.take (i + 1))) = Sh.lawCut (s.1, s.2.1) (Sh.lawLeft L (fsOf (sh.take i))) := by
        rw [take_snoc hs, ← left_snoc]
        unfold fsOf
        rw [List.map_append]
        rfl
      refine w_asg (u__law_cut (L := Sh.lawLeft L (fsOf (sh.take i))) (g := (s.1, s.2.1)) (ed_var rfl) (ed_tup (ea_cons (ed_sub ed_int (ed_var rfl)) (ea_cons (ed_sub ed_int (ed_var rfl)) (ea_cons ed_int ea_nil))) (by show 3 ≤ 100000; decide)) (leftD_sq sq i) (law_bp hM) (by omega) bs.nr) (w_end (h2.trans ?_) (led_same (led_same (led_no (led_no (led_no led_nil))))))
      show Rep K X H G' [some (dL3 (Sh.lawLeft L (fsOf (sh.take (i + 1))))), _, _, _, _] _ = _
      rw [nx]
    · obtain ⟨m, hm⟩ : ∃ m, sh.length = m + 1 := ⟨sh.length - 1, by have := List.length_pos_iff.mpr hn; omega⟩
      have e : leftD z L sh sh.length = dL3 (Sh.lawLeft L (fsOf sh)) := by
        rw [hm]
        show dL3 (Sh.lawLeft L (fsOf (sh.take (m + 1)))) = _
        rw [← hm, List.take_of_length_le (Nat.le_refl _)]
      rw [e]
      exact w_ret (ed_var rfl) hQ
/-! ### _law_pair -/
/-- nothing is left of L by the i-th and the j-th shore, as the law cuts -/
def badL (L sh : List P3) (i j : Nat) : Prop := ∃ s t, sh[i]? = some s ∧ sh[j]? = some t ∧ Sh.lawLeft L (fsOf [s, t]) = []
def f__law_pair : List PyData → PyData → Prop := fun ds r => ∃ (L sh : List P3) (o : Option (Nat × Nat)), Sh.LawL L ∧ L.length ≤ 8 ∧ sh.length ≤ 8 ∧ (∀ s ∈ sh, Bo s) ∧ Sh.IsPair (badL L sh) sh.length o ∧ ds = [dT3 L, dT3 sh] ∧ r = pairD o
theorem u__law_pair {ss : SD} {t u : TE} {E : XK} {L sh : List P3} {o : Option (Nat × Nat)} (h : EvD K t ss (dT3 L)) (h' : EvD K u ss (dT3 sh)) (hL : Sh.LawL L) (l1 : L.length ≤ 8) (l2 : sh.length ≤ 8) (hb : ∀ s ∈ sh, Bo s) (ho : Sh.IsPair (badL L sh) sh.length o) : EvD K (tCall (spD K f__law_pair) [] E (tCons t (tCons u tNil))) ss (pairD o) := ed_call (ea_cons h (ea_cons h' ea_nil)) ⟨L, sh, o, hL, l1, l2, hb, ho, rfl, rfl⟩
theorem eqv3_nil (l : List P3) : PyData.eqv (dL3 l) (.list []) = l.isEmpty := by
  refine eqvL_nil.trans ?_
  cases l <;> rfl
abbrev s__law_pair : Stmt := topL 58
theorem sc__law_pair : FnScope ["_law_spots", "_law_banks", "_law_i", "_law_j"] ["_law_spots", "_law_banks"] (defScope s__law_pair) := ⟨rfl, rfl, rfl, by decide +kernel, rfl, by decide +kernel, by decide +kernel⟩
theorem ok__law_pair {f : Addr} {fd : FuncData} (F : Dfn K mg "_law_pair" s__law_pair f fd ["_law_spots", "_law_banks"]) (B : Bt mg) (c__law_left : Cal P w K mg base 4 "_law_left" ["_law_spots", "_law_banks"] (spD K f__law_left)) : Cal P w K mg base 5 "_law_pair" ["_law_spots", "_law_banks"] (spD K f__law_pair) := by
  refine calD F sc__law_pair (fun ds r h => ?_) fun cdv A outer s H E hr => ⟨_, (pss_cons (ps_for PassesOwn.never rfl (pi_range1 (by rfl) B.m_range (pa_cons (pe_callB call_len_seq (by rfl) B.m_len PySem.boot_len (pa_cons (pv 1) pa_nil)) pa_nil)) (pg_name (i := 2) sc__law_pair.nd rfl (Or.inl rfl) (Or.inl rfl))
     (pss_one (ps_for PassesOwn.never rfl (pi_range2 (by rfl) B.m_range (pa_cons (pv 2) (pa_cons (pe_callB call_len_seq (by rfl) B.m_len PySem.boot_len (pa_cons (pv 1) pa_nil)) pa_nil))) (pg_name (i := 3) sc__law_pair.nd rfl (Or.inl rfl) (Or.inl rfl))
     (pss_one (ps_if (pt_cmpR (op_eqD hr.units) (pe_c c__law_left hr (by decide) (by rfl) (pa_cons (pv 0) (pa_cons (pe_lst (pa_cons (pe_ix ix_tup (pv 1) (pv 2) (fun _ _ => rfl)) (pa_cons (pe_ix ix_tup (pv 1) (pv 3) (fun _ _ => rfl)) pa_nil))) pa_nil))) (pe_lst pa_nil) (nomark _))
     (pss_one (ps_ret (pe_tup (pa_cons (pv 2) (pa_cons (pv 3) pa_nil)))))
     pss_nil)))))
     (pss_one (ps_ret pe_non))), fun X ds r D hp hQ hN => ?_⟩
  · obtain ⟨L, sh, o, _, _, _, _, _, rfl, _⟩ := h
    rfl
  · obtain ⟨L, sh, o, hL, l1, l2, hb, ho, rfl, rfl⟩ := hp
    have ln : (sh.map dP3).length = sh.length := List.length_map _
    refine s_forP (xs := List.range sh.length) (enc := fun (k : Nat) => PyData.int (0 + (k : Int))) (as := fun (k : Nat) => [(2, .int (0 + (k : Int)))]) (fun _ => [some (dT3 L), some (dT3 sh), none, none]) (fun _ => none) (fun i => ∀ i' j', i' < i → i' ≤ j' → j' < sh.length → ¬ badL L sh i' j') ?_ (fun _ _ => tg_name) (fun _ _ _ => rfl) (LeD.refl _) rfl (fun i' j' q => by omega) (fun i x hx hJ G' D' h1 h2 => ?_) (fun hJ => ?_)
    · have e := ei_rng1 (K := K) (ss := [some (dT3 L), some (dT3 sh), none, none]) (ed_len (.inr rfl) (ed_var (i := 1) rfl)) ⟨Int.natCast_nonneg _, by rw [ln]; omega⟩
      rw [ln, Int.toNat_natCast] at e
      exact e
    · have lt : i < sh.length := by
        have := (List.getElem?_eq_some_iff.mp hx).1
        simpa using this
      have ex : x = i := by
        rw [List.getElem?_range lt] at hx
        exact (Option.some.inj hx).symm
      subst ex
      refine w_forP (xs := List.range (sh.length - x)) (enc := fun (k : Nat) => PyData.int (0 + (x : Int) + (k : Int))) (as := fun (k : Nat) => [(3, .int (0 + (x : Int) + (k : Int)))]) (fun _ => [some (dT3 L), some (dT3 sh), some (.int (0 + (x : Int))), none]) (fun _ => none) (fun k => ∀ j', j' < x + k → x ≤ j' → ¬ badL L sh x j') ?_ (fun _ _ => tg_name) (fun _ _ _ => rfl) (LeD.refl _) rfl (fun j' q1 q2 => by omega) (fun k y hy hK G2 D2 k1 k2 => ?_) (fun hK => w_endP h2 ?_ (led_same (led_same (led_no (led_no led_nil)))))
      · have e := ei_rng2 (K := K) (ss := [some (dT3 L), some (dT3 sh), some (.int (0 + (x : Int))), none]) (ed_var (i := 2) rfl) (ed_len (.inr rfl) (ed_var (i := 1) rfl)) ⟨by omega, by omega⟩ ⟨Int.natCast_nonneg _, by rw [ln]; omega⟩
        have en : (((sh.map dP3).length : Int) - (0 + (x : Int))).toNat = sh.length - x := by rw [ln]; omega
        rw [en] at e
        exact e
      · have lt2 : k < sh.length - x := by
          have := (List.getElem?_eq_some_iff.mp hy).1
          simpa using this
        have ey : y = k := by
          rw [List.getElem?_range lt2] at hy
          exact (Option.some.inj hy).symm
        subst ey
        have g1 : sh[x]? = some sh[x] := List.getElem?_eq_getElem lt
        have g2 : sh[x + y]? = some sh[x + y] := List.getElem?_eq_getElem (by omega)
        have i1 : atI (sh.map dP3) (0 + (x : Int)) = some (dP3 sh[x]) := by rw [Int.zero_add]; exact atI_nat (get_map dP3 g1)
        have i2 : atI (sh.map dP3) (0 + (x : Int) + (y : Int)) = some (dP3 sh[x + y]) := by
          rw [show (0 : Int) + (x : Int) + (y : Int) = ((x + y : Nat) : Int) by omega]
          exact atI_nat (get_map dP3 g2)
        refine w_if (b := (Sh.lawLeft L (fsOf [sh[x], sh[x + y]])).isEmpty) (eb_is (eb_test (ed_eqD (p3_shL _) nil_shL (u__law_left (sh := [sh[x], sh[x + y]]) (ed_var rfl) (en_lst (ea_cons (ed_ixT i1 (ed_var rfl) (ed_var rfl)) (ea_cons (ed_ixT i2 (ed_var rfl) (ed_var rfl)) ea_nil)) (by show 2 ≤ 100000; decide)).dat (.inr rfl) (.inl rfl) hL l1 (by simp) (by show 2 ≤ 8; decide) fun s hs => ?_) (en_lst ea_nil (by show 0 ≤ 100000; decide)).dat)) (eqv3_nil _)) (fun q => ?_) (fun q => w_next (w_endP k2 ?_ (led_same (led_same (led_same (led_no led_nil))))))
        · rcases (by simpa using hs : s = sh[x] ∨ s = sh[x + y]) with rfl | rfl
          · exact hb _ (List.getElem_mem lt)
          · exact hb _ (List.getElem_mem (by omega))
        · have bad : badL L sh x (x + y) := ⟨_, _, g1, g2, by simpa using q⟩
          have eo := pair_hit ho (Nat.le_add_right x y) (by omega) bad hJ hK
          have hrt : ∀ v H', Ex H H' → Dq K (Hd X H') v (pairD o) → D2.rt v H' := by
            rw [k1, h1]
            exact hQ
          refine w_ret (ed_is (ed_tup (ea_cons (ed_var rfl) (ea_cons (ed_var rfl) ea_nil)) (by show 2 ≤ 100000; decide)) ?_) hrt
          rw [eo]
          show PyData.tuple [.int (0 + (x : Int)), .int (0 + (x : Int) + (y : Int))] = .tuple [.int (x : Int), .int ((x + y : Nat) : Int)]
          have e1 : (0 : Int) + (x : Int) = (x : Int) := by omega
          have e2 : (0 : Int) + (x : Int) + (y : Int) = ((x + y : Nat) : Int) := by omega
          rw [e2, e1]
        · intro j' q1 q2 hbad
          by_cases c : j' < x + y
          · exact hK j' c q2 hbad
          · have : j' = x + y := by omega
            subst this
            obtain ⟨s, t, a1, a2, a3⟩ := hbad
            rw [g1] at a1
            rw [g2] at a2
            cases a1
            cases a2
            rw [a3] at q
            cases q
      · intro i' j' q1 q2 q3 hbad
        by_cases c : i' < x
        · exact hJ i' j' c q2 q3 hbad
        · have : i' = x := by omega
          subst this
          exact hK j' (by simp; omega) q2 hbad
    · have eo : o = none := by
        rcases ho' : o with _ | ⟨i, j⟩
        · rfl
        · obtain ⟨a, b, c, _⟩ := ho.yes i j ho'
          exact absurd c (hJ i j (by simp; omega) a b)
      rw [eo] at hQ
      exact w_ret ed_non hQ
end
end Wk
end
section
set_option Elab.async false
set_option linter.all false
set_option maxRecDepth 100000
namespace Wk
open PySem PySem.Spec PyProof.Rows L2 Evl

theorem prs_snoc {α : Type} : ∀ (l : List α) (p q : α), Sh.prs (p :: (l ++ [q])) = Sh.prs (p :: l) ++ [(Sh.lastD p l, q)]
  | [], p, q => rfl
  | x :: l, p, q => by
    show (p, x) :: Sh.prs (x :: (l ++ [q])) = (p, x) :: (Sh.prs (x :: l) ++ [(Sh.lastD x l, q)])
    rw [prs_snoc l x q]
/-- the sides up to the i-th corner -/
def sidesF (L : List P3) (i : Nat) : List P3 := (Sh.prs (Sh.lastD z3 L :: L.take i)).map fun e => Sh.side3 e.1 e.2
theorem sidesF_len (L : List P3) (i : Nat) : (sidesF L i).length ≤ L.length := by
  have key : ∀ (l : List P3) (p : P3), (Sh.prs (p :: l)).length = l.length := by
    intro l
    induction l with
    | nil => intro p; rfl
    | cons x l ih =>
      intro p
      show ((p, x) :: Sh.prs (x :: l)).length = _
      rw [List.length_cons, ih, List.length_cons]
  unfold sidesF
  rw [List.length_map, key, List.length_take]
  omega
theorem bz_side {p q : P3} (hp : Bp p) (hq : Bp q) : Bz 100 (Sh.side3 p q).1 ∧ Bz 100 (Sh.side3 p q).2.1 ∧ Bz 100 (Sh.side3 p q).2.2 :=
  ⟨bz_le (bz_sub (bz_mul hp.q.2.1 hq.q.2.2) (bz_mul hp.q.2.2 hq.q.2.1)) (by decide), bz_le (bz_sub (bz_mul hp.q.2.2 hq.q.1) (bz_mul hp.q.1 hq.q.2.2)) (by decide), bz_le (bz_sub (bz_mul hp.q.1 hq.q.2.1) (bz_mul hp.q.2.1 hq.q.1)) (by decide)⟩
theorem bz0 {n : Nat} : Bz n 0 := Nat.two_pow_pos _
theorem last_in {L : List P3} (h : L ≠ []) : Sh.lastD z3 L ∈ L := Sh.lastD_mem _ h
theorem prs_mem {α : Type} : ∀ (l : List α) (p : α) (e : α × α), e ∈ Sh.prs (p :: l) → (e.1 = p ∨ e.1 ∈ l) ∧ e.2 ∈ l
  | [], p, e, h => by cases h
  | x :: l, p, e, h => by
    rcases List.mem_cons.mp (show e ∈ (p, x) :: Sh.prs (x :: l) from h) with rfl | h
    · exact ⟨.inl rfl, List.mem_cons_self⟩
    · obtain ⟨a, b⟩ := prs_mem l x e h
      refine ⟨.inr ?_, List.mem_cons_of_mem _ b⟩
      rcases a with a | a
      · rw [a]; exact List.mem_cons_self
      · exact List.mem_cons_of_mem _ a
theorem forms_bz {L : List P3} (hn : L ≠ []) (hL : ∀ p ∈ L, Bp p) : ∀ F ∈ Sh.forms L, Bw F := fun F hF => by
  have W : ∀ {n : Nat} {F : P3}, n ≤ 400 → Bz n F.1 ∧ Bz n F.2.1 ∧ Bz n F.2.2 → Bw F := fun h a => ⟨bz_le a.1 h, bz_le a.2.1 h, bz_le a.2.2 h⟩
  unfold Sh.forms at hF
  split at hF
  · obtain ⟨e, he, rfl⟩ := List.mem_map.mp hF
    obtain ⟨a, b⟩ := prs_mem L _ e he
    refine W (by decide) (bz_side (hL _ ?_) (hL _ b))
    rcases a with a | a
    · rw [a]; exact last_in hn
    · exact a
  · have hp : Bp (L.headD z3) := by
      cases L with
      | nil => exact absurd rfl hn
      | cons x l => exact hL x List.mem_cons_self
    have hq : Bp (Sh.lastD z3 L) := hL _ (last_in hn)
    generalize L.headD z3 = p at hp hF
    generalize Sh.lastD z3 L = q at hq hF
    simp only at hF
    split at hF
    · simp at hF
      rcases hF with rfl | rfl | rfl | rfl
      · exact ⟨bz_le hp.q.2.2 (by decide), bz0, bz_le (bz_neg hp.q.1) (by decide)⟩
      · exact ⟨bz_le (bz_neg hp.q.2.2) (by decide), bz0, bz_le hp.q.1 (by decide)⟩
      · exact ⟨bz0, bz_le hp.q.2.2 (by decide), bz_le (bz_neg hp.q.2.1) (by decide)⟩
      · exact ⟨bz0, bz_le (bz_neg hp.q.2.2) (by decide), bz_le hp.q.2.1 (by decide)⟩
    · have u : Bz 100 (q.1 * p.2.2 - p.1 * q.2.2) := bz_le (bz_sub (bz_mul hq.q.1 hp.q.2.2) (bz_mul hp.q.1 hq.q.2.2)) (by decide)
      have v : Bz 100 (q.2.1 * p.2.2 - p.2.1 * q.2.2) := bz_le (bz_sub (bz_mul hq.q.2.1 hp.q.2.2) (bz_mul hp.q.2.1 hq.q.2.2)) (by decide)
      have z0 : Bz 100 0 := bz0
      rcases List.mem_cons.mp hF with rfl | hF
      · exact W (by decide) (bz_side hp hq)
      rcases List.mem_cons.mp hF with rfl | hF
      · have s := bz_side hp hq
        exact W (n := 250) (by decide) ⟨bz_le (bz_sub z0 s.1) (by decide), bz_le (bz_sub z0 s.2.1) (by decide), bz_le (bz_sub z0 s.2.2) (by decide)⟩
      rcases List.mem_cons.mp hF with rfl | hF
      · exact W (n := 400) (by decide) ⟨bz_le (bz_mul u hp.q.2.2) (by decide), bz_le (bz_mul v hp.q.2.2) (by decide), bz_le (bz_sub (bz_sub z0 (bz_mul u hp.q.1)) (bz_mul v hp.q.2.1)) (by decide)⟩
      rcases List.mem_cons.mp hF with rfl | hF
      · exact W (n := 400) (by decide) ⟨bz_le (bz_sub z0 (bz_mul u hq.q.2.2)) (by decide), bz_le (bz_sub z0 (bz_mul v hq.q.2.2)) (by decide), bz_le (bz_add (bz_mul u hq.q.1) (bz_mul v hq.q.2.1)) (by decide)⟩
      cases hF
section
variable {P : Program} {w : World} {K : PySem.W.Frag} {mg : Str → Option Value} {base : Heap}
/-! ### _law_forms -/
def f__law_forms : List PyData → PyData → Prop := fun ds r => ∃ L : List P3, L ≠ [] ∧ L.length ≤ 1000 ∧ (∀ p ∈ L, Bp p) ∧ ds = [dT3 L] ∧ r = dL3 (Sh.forms L)
theorem u__law_forms {ss : SD} {t : TE} {E : XK} {L : List P3} (h : EvD K t ss (dT3 L)) (hn : L ≠ []) (hl : L.length ≤ 1000) (hL : ∀ p ∈ L, Bp p) : EvD K (tCall (spD K f__law_forms) [] E (tCons t tNil)) ss (dL3 (Sh.forms L)) := ed_call (ea_cons h ea_nil) ⟨L, hn, hl, hL, rfl, rfl⟩
abbrev s__law_forms : Stmt := topL 51
theorem sc__law_forms : FnScope ["_law_spots", "_law_found", "_law_k", "_law_a", "_law_b", "_law_c", "_law_d", "_law_e", "_law_f", "_law_u", "_law_v", "_law_line", "_law_ends", "_law_each"] ["_law_spots"] (defScope s__law_forms) := ⟨rfl, rfl, rfl, by decide +kernel, rfl, by decide +kernel, by decide +kernel⟩
theorem ok__law_forms {f : Addr} {fd : FuncData} (F : Dfn K mg "_law_forms" s__law_forms f fd ["_law_spots"]) (B : Bt mg) : Cal P w K mg base 1 "_law_forms" ["_law_spots"] (spD K f__law_forms) := by
  refine calD F sc__law_forms (fun ds r h => ?_) fun cdv A outer s H E hr => ⟨_, (pss_cons (ps_if (pt_cmpR op_gt (pe_callB call_len_seq (by rfl) B.m_len PySem.boot_len (pa_cons (pv 0) pa_nil)) pe_int (nomark _))
     (pss_cons (ps_set (i := 1) sc__law_forms.nd rfl (Or.inl rfl) (pe_lst pa_nil))
     (pss_cons (ps_for PassesOwn.never rfl (pi_range1 (by rfl) B.m_range (pa_cons (pe_callB call_len_seq (by rfl) B.m_len PySem.boot_len (pa_cons (pv 0) pa_nil)) pa_nil)) (pg_name (i := 2) sc__law_forms.nd rfl (Or.inl rfl) (Or.inl rfl))
     (pss_cons (ps_asg (pe_tup (pa_cons (pe_ix ix_tup (pv 0) (pe_op op_sub (pv 2) pe_int) (fun _ _ => rfl)) (pa_cons (pe_ix ix_tup (pv 0) (pv 2) (fun _ _ => rfl)) pa_nil))) (pg_tup rfl (pgs_cons (pg_tup rfl (pgs_cons (pg_name (i := 3) sc__law_forms.nd rfl (Or.inl rfl) (Or.inl rfl)) (pgs_cons (pg_name (i := 4) sc__law_forms.nd rfl (Or.inl rfl) (Or.inl rfl)) (pgs_cons (pg_name (i := 5) sc__law_forms.nd rfl (Or.inl rfl) (Or.inl rfl)) pgs_nil)))) (pgs_cons (pg_tup rfl (pgs_cons (pg_name (i := 6) sc__law_forms.nd rfl (Or.inl rfl) (Or.inl rfl)) (pgs_cons (pg_name (i := 7) sc__law_forms.nd rfl (Or.inl rfl) (Or.inl rfl)) (pgs_cons (pg_name (i := 8) sc__law_forms.nd rfl (Or.inl rfl) (Or.inl rfl)) pgs_nil)))) pgs_nil))))
     (pss_one (ps_expr (pe_bm PySem.F.plainAttrs_list PySem.F.slot_list_append PySem.F.type_list_append mt_append (pv 1) (pa_cons (pe_tup (pa_cons (pe_op op_sub (pe_op op_mulW (pv 4) (pv 8)) (pe_op op_mulW (pv 5) (pv 7))) (pa_cons (pe_op op_sub (pe_op op_mulW (pv 5) (pv 6)) (pe_op op_mulW (pv 3) (pv 8))) (pa_cons (pe_op op_sub (pe_op op_mulW (pv 3) (pv 7)) (pe_op op_mulW (pv 4) (pv 6))) pa_nil)))) pa_nil))))))
     (pss_one (ps_ret (pv 1)))))
     pss_nil)
     (pss_cons (ps_asg (pe_tup (pa_cons (pe_ix ix_tup (pv 0) pe_int (fun _ _ => rfl)) (pa_cons (pe_ix ix_tup (pv 0) (pe_un un_neg pe_int) (fun _ _ => rfl)) pa_nil))) (pg_tup rfl (pgs_cons (pg_tup rfl (pgs_cons (pg_name (i := 3) sc__law_forms.nd rfl (Or.inl rfl) (Or.inl rfl)) (pgs_cons (pg_name (i := 4) sc__law_forms.nd rfl (Or.inl rfl) (Or.inl rfl)) (pgs_cons (pg_name (i := 5) sc__law_forms.nd rfl (Or.inl rfl) (Or.inl rfl)) pgs_nil)))) (pgs_cons (pg_tup rfl (pgs_cons (pg_name (i := 6) sc__law_forms.nd rfl (Or.inl rfl) (Or.inl rfl)) (pgs_cons (pg_name (i := 7) sc__law_forms.nd rfl (Or.inl rfl) (Or.inl rfl)) (pgs_cons (pg_name (i := 8) sc__law_forms.nd rfl (Or.inl rfl) (Or.inl rfl)) pgs_nil)))) pgs_nil))))
     (pss_cons (ps_if (pt_cmpR op_eq (pe_callB call_len_seq (by rfl) B.m_len PySem.boot_len (pa_cons (pv 0) pa_nil)) pe_int (nomark _))
     (pss_one (ps_ret (pe_lst (pa_cons (pe_tup (pa_cons (pv 5) (pa_cons pe_int (pa_cons (pe_op op_sub pe_int (pv 3)) pa_nil)))) (pa_cons (pe_tup (pa_cons (pe_op op_sub pe_int (pv 5)) (pa_cons pe_int (pa_cons (pv 3) pa_nil)))) (pa_cons (pe_tup (pa_cons pe_int (pa_cons (pv 5) (pa_cons (pe_op op_sub pe_int (pv 4)) pa_nil)))) (pa_cons (pe_tup (pa_cons pe_int (pa_cons (pe_op op_sub pe_int (pv 5)) (pa_cons (pv 4) pa_nil)))) pa_nil)))))))
     pss_nil)
     (pss_cons (ps_par (i := 9) (j := 10) rfl sc__law_forms.nd rfl rfl (by decide) rfl rfl (pa_cons (pe_op op_sub (pe_op op_mulW (pv 6) (pv 5)) (pe_op op_mulW (pv 3) (pv 8))) (pa_cons (pe_op op_sub (pe_op op_mulW (pv 7) (pv 5)) (pe_op op_mulW (pv 4) (pv 8))) pa_nil)) (by rfl))
     (pss_cons (ps_set (i := 11) sc__law_forms.nd rfl (Or.inl rfl) (pe_tup (pa_cons (pe_op op_sub (pe_op op_mulW (pv 4) (pv 8)) (pe_op op_mulW (pv 5) (pv 7))) (pa_cons (pe_op op_sub (pe_op op_mulW (pv 5) (pv 6)) (pe_op op_mulW (pv 3) (pv 8))) (pa_cons (pe_op op_sub (pe_op op_mulW (pv 3) (pv 7)) (pe_op op_mulW (pv 4) (pv 6))) pa_nil)))))
     (pss_cons (ps_set (i := 12) sc__law_forms.nd rfl (Or.inl rfl) (pe_lst (pa_cons (pe_tup (pa_cons (pe_op op_mulW (pv 9) (pv 5)) (pa_cons (pe_op op_mulW (pv 10) (pv 5)) (pa_cons (pe_op op_sub (pe_op op_sub pe_int (pe_op op_mulW (pv 9) (pv 3))) (pe_op op_mulW (pv 10) (pv 4))) pa_nil)))) (pa_cons (pe_tup (pa_cons (pe_op op_sub pe_int (pe_op op_mulW (pv 9) (pv 8))) (pa_cons (pe_op op_sub pe_int (pe_op op_mulW (pv 10) (pv 8))) (pa_cons (pe_op op_add (pe_op op_mulW (pv 9) (pv 6)) (pe_op op_mulW (pv 10) (pv 7))) pa_nil)))) pa_nil))))
     (pss_one (ps_ret (pe_op op_cat (pe_lst (pa_cons (pv 11) (pa_cons (pe_tupleOf (by rfl) B.m_tuple (pe_lc (g := gName 13) (own := [("_law_each", 13)]) rfl sc__law_forms.nd (pi_tup (pv 11)) (blkOk_by (N := ["_law_spots", "_law_found", "_law_k", "_law_a", "_law_b", "_law_c", "_law_d", "_law_e", "_law_f", "_law_u", "_law_v", "_law_line", "_law_ends", "_law_each"]) (sc := defScope s__law_forms) (by decide +kernel)) (fun _ _ _ _ _ => (pg_name (i := 13) sc__law_forms.nd rfl (Or.inl rfl) (Or.inr rfl))) (fun _ _ _ _ _ => pts_nil) (fun _ _ _ _ _ => (pe_op op_sub pe_int (pv 13))))) pa_nil))) (pv 12)))))))))), fun X ds r D hp hQ hN => ?_⟩
  · obtain ⟨L, _, _, _, rfl, _⟩ := h
    rfl
  · obtain ⟨L, hne, hl, hL, rfl, rfl⟩ := hp
    have ln : (L.map dP3).length = L.length := List.length_map _
    refine s_when (eb_test (ed_gt (ed_len (.inr rfl) (ed_var rfl)) ed_int)) (fun c => ?_) (fun c => ?_)
    · have c2 : 2 < L.length := by simp at c; omega
      refine s_new (es := (sidesF L 0).map dP3) (en_lst ea_nil (by show 0 ≤ 100000; decide)) (by show 1 < 14; decide) ?_
      refine s_for (xs := List.range L.length) (enc := fun (k : Nat) => PyData.int (0 + (k : Int))) (as := fun (k : Nat) => [(2, .int (0 + (k : Int)))]) (fun _ => [some (dT3 L), none, none, none, none, none, none, none, none, none, none, none, none, none]) (fun i => some (1, (sidesF L i).map dP3)) ?_ (fun _ _ => tg_name) (fun _ _ _ => rfl) (LeD.refl _) rfl (fun i x hx G' D' h1 h2 => ?_) ?_
      · have e := ei_rng1 (K := K) (ss := [some (dT3 L), none, none, none, none, none, none, none, none, none, none, none, none, none]) (ed_len (.inr rfl) (ed_var (i := 0) rfl)) ⟨Int.natCast_nonneg _, by rw [ln]; omega⟩
        rw [ln, Int.toNat_natCast] at e
        exact e
      · have lt : i < L.length := by
          have := (List.getElem?_eq_some_iff.mp hx).1
          simpa using this
        have ex : x = i := by
          rw [List.getElem?_range lt] at hx
          exact (Option.some.inj hx).symm
        subst ex
        have gx : L[x]? = some L[x] := List.getElem?_eq_getElem lt
        generalize hq : L[x] = q at gx
        have pa := prev_at gx
        have pm := prev_mem gx
        have qm : q ∈ L := List.mem_of_getElem? gx
        generalize hpv : prevOf L x = p at pa pm
        have bp := hL p pm
        have bq := hL q qm
        have nx : sidesF L (x + 1) = sidesF L x ++ [Sh.side3 p q] := by
          unfold sidesF
          rw [take_snoc gx, prs_snoc, List.map_append]
          unfold prevOf at hpv
          rw [hpv]
          rfl
        refine s_tgt (d := .tuple [dP3 p, dP3 q]) (ed_tup (ea_cons (ed_ixT (show atI (L.map dP3) (0 + (x : Int) - 1) = some (dP3 p) by rw [Int.zero_add]; exact pa) (ed_var rfl) (ed_sub (ed_var rfl) ed_int)) (ea_cons (ed_ixT (show atI (L.map dP3) (0 + (x : Int)) = some (dP3 q) by rw [Int.zero_add]; exact atI_nat (get_map dP3 gx)) (ed_var rfl) (ed_var rfl)) ea_nil)) (by show 2 ≤ 100000; decide)) (tg_tup (tgs_cons (tg_tup (tgs_cons tg_name (tgs_cons tg_name (tgs_cons tg_name tgs_nil)))) (tgs_cons (tg_tup (tgs_cons tg_name (tgs_cons tg_name (tgs_cons tg_name tgs_nil)))) tgs_nil))) rfl ?_
        refine w_app (d := dP3 (Sh.side3 p q)) (ed_tup (ea_cons (ed_sub (ed_mul (cmw bp.q.2.1 bq.q.2.2) (ed_var rfl) (ed_var rfl)) (ed_mul (cmw bp.q.2.2 bq.q.2.1) (ed_var rfl) (ed_var rfl))) (ea_cons (ed_sub (ed_mul (cmw bp.q.2.2 bq.q.1) (ed_var rfl) (ed_var rfl)) (ed_mul (cmw bp.q.1 bq.q.2.2) (ed_var rfl) (ed_var rfl))) (ea_cons (ed_sub (ed_mul (cmw bp.q.1 bq.q.2.1) (ed_var rfl) (ed_var rfl)) (ed_mul (cmw bp.q.2.1 bq.q.1) (ed_var rfl) (ed_var rfl))) ea_nil))) (by show 3 ≤ 100000; decide)) (by rw [List.length_map]; have := sidesF_len L x; omega) (w_end (h2.trans ?_) (led_same (led_no (led_no (led_no (led_no (led_no (led_no (led_no (led_no (led_same (led_same (led_same (led_same (led_same led_nil)))))))))))))))
        rw [nx, List.map_append]
        rfl
      · rw [List.length_range]
        refine w_ret (ed_is (ed_var rfl) ?_) hQ
        unfold sidesF Sh.forms
        rw [List.take_of_length_le (Nat.le_refl _), if_pos c2]
    · have c2 : ¬ 2 < L.length := by simp at c; omega
      have eF : Sh.forms L = let p := L.headD z3
          let q := Sh.lastD z3 L
          if L.length = 1 then [(p.2.2, 0, 0 - p.1), (0 - p.2.2, 0, p.1), (0, p.2.2, 0 - p.2.1), (0, 0 - p.2.2, p.2.1)]
          else
            let u := q.1 * p.2.2 - p.1 * q.2.2
            let v := q.2.1 * p.2.2 - p.2.1 * q.2.2
            [Sh.side3 p q, Sh.ng3 (Sh.side3 p q), (u * p.2.2, v * p.2.2, 0 - u * p.1 - v * p.2.1), (0 - u * q.2.2, 0 - v * q.2.2, u * q.1 + v * q.2.1)] := by
        unfold Sh.forms
        rw [if_neg c2]
      rw [eF] at hQ
      have i0 : atI (L.map dP3) 0 = some (dP3 (L.headD z3)) := by
        cases L with
        | nil => exact absurd rfl hne
        | cons x l => exact atI_nat (j := 0) rfl
      have i1 : atI (L.map dP3) (-1) = some (dP3 (Sh.lastD z3 L)) := by
        obtain ⟨l, v, e⟩ : ∃ l v, L = l ++ [v] := ⟨L.dropLast, L.getLast hne, (List.dropLast_concat_getLast hne).symm⟩
        rw [e, lastD_snoc, List.map_append]
        exact atI_last (l.map dP3) (dP3 v)
      have hp : Bp (L.headD z3) := by
        cases L with
        | nil => exact absurd rfl hne
        | cons x l => exact hL x List.mem_cons_self
      have hq : Bp (Sh.lastD z3 L) := hL _ (last_in hne)
      generalize L.headD z3 = p at hp i0 hQ
      generalize Sh.lastD z3 L = q at hq i1 hQ
      simp only at hQ
      refine s_tgt (d := .tuple [dP3 p, dP3 q]) (ed_tup (ea_cons (ed_ixT i0 (ed_var rfl) ed_int) (ea_cons (ed_ixT i1 (ed_var rfl) (ed_neg ed_int)) ea_nil)) (by show 2 ≤ 100000; decide)) (tg_tup (tgs_cons (tg_tup (tgs_cons tg_name (tgs_cons tg_name (tgs_cons tg_name tgs_nil)))) (tgs_cons (tg_tup (tgs_cons tg_name (tgs_cons tg_name (tgs_cons tg_name tgs_nil)))) tgs_nil))) rfl ?_
      refine s_when (eb_test (ed_eqI (ed_len (.inr rfl) (ed_var rfl)) ed_int)) (fun c => ?_) (fun c => ?_)
      · have l1 : L.length = 1 := by simp at c; omega
        rw [if_pos l1] at hQ
        exact w_ret (ed_is (en_lst (ea_cons (ed_tup (ea_cons (ed_var rfl) (ea_cons ed_int (ea_cons (ed_sub ed_int (ed_var rfl)) ea_nil))) (by show 3 ≤ 100000; decide)) (ea_cons (ed_tup (ea_cons (ed_sub ed_int (ed_var rfl)) (ea_cons ed_int (ea_cons (ed_var rfl) ea_nil))) (by show 3 ≤ 100000; decide)) (ea_cons (ed_tup (ea_cons ed_int (ea_cons (ed_var rfl) (ea_cons (ed_sub ed_int (ed_var rfl)) ea_nil))) (by show 3 ≤ 100000; decide)) (ea_cons (ed_tup (ea_cons ed_int (ea_cons (ed_sub ed_int (ed_var rfl)) (ea_cons (ed_var rfl) ea_nil))) (by show 3 ≤ 100000; decide)) ea_nil)))) (by show 4 ≤ 100000; decide)).dat rfl) hQ
      · have l1 : ¬ L.length = 1 := by simp at c; omega
        rw [if_neg l1] at hQ
        have u : Bz 100 (q.1 * p.2.2 - p.1 * q.2.2) := bz_le (bz_sub (bz_mul hq.q.1 hp.q.2.2) (bz_mul hp.q.1 hq.q.2.2)) (by decide)
        have v : Bz 100 (q.2.1 * p.2.2 - p.2.1 * q.2.2) := bz_le (bz_sub (bz_mul hq.q.2.1 hp.q.2.2) (bz_mul hp.q.2.1 hq.q.2.2)) (by decide)
        refine s_par (d := .int (q.1 * p.2.2 - p.1 * q.2.2)) (e := .int (q.2.1 * p.2.2 - p.2.1 * q.2.2)) (ea_cons (ed_sub (ed_mul (cmw hq.q.1 hp.q.2.2) (ed_var rfl) (ed_var rfl)) (ed_mul (cmw hp.q.1 hq.q.2.2) (ed_var rfl) (ed_var rfl))) (ea_cons (ed_sub (ed_mul (cmw hq.q.2.1 hp.q.2.2) (ed_var rfl) (ed_var rfl)) (ed_mul (cmw hp.q.2.1 hq.q.2.2) (ed_var rfl) (ed_var rfl))) ea_nil)) ?_
        generalize q.1 * p.2.2 - p.1 * q.2.2 = uu at u hQ ⊢
        generalize q.2.1 * p.2.2 - p.2.1 * q.2.2 = vv at v hQ ⊢
        refine s_asg (d := dP3 (Sh.side3 p q)) (ed_tup (ea_cons (ed_sub (ed_mul (cmw hp.q.2.1 hq.q.2.2) (ed_var rfl) (ed_var rfl)) (ed_mul (cmw hp.q.2.2 hq.q.2.1) (ed_var rfl) (ed_var rfl))) (ea_cons (ed_sub (ed_mul (cmw hp.q.2.2 hq.q.1) (ed_var rfl) (ed_var rfl)) (ed_mul (cmw hp.q.1 hq.q.2.2) (ed_var rfl) (ed_var rfl))) (ea_cons (ed_sub (ed_mul (cmw hp.q.1 hq.q.2.1) (ed_var rfl) (ed_var rfl)) (ed_mul (cmw hp.q.2.1 hq.q.1) (ed_var rfl) (ed_var rfl))) ea_nil))) (by show 3 ≤ 100000; decide)) ?_
        generalize Sh.side3 p q = S at hQ ⊢
        show Wp K X H _ _ [some (dT3 L), none, none, some (.int p.1), some (.int p.2.1), some (.int p.2.2), some (.int q.1), some (.int q.2.1), some (.int q.2.2), some (.int uu), some (.int vv), some (dP3 S), none, none] none
        refine s_asg (d := dL3 [(uu * p.2.2, vv * p.2.2, 0 - uu * p.1 - vv * p.2.1), (0 - uu * q.2.2, 0 - vv * q.2.2, uu * q.1 + vv * q.2.1)]) (en_lst (ea_cons (ed_tup (ea_cons (ed_mul (cmw u hp.q.2.2) (ed_var rfl) (ed_var rfl)) (ea_cons (ed_mul (cmw v hp.q.2.2) (ed_var rfl) (ed_var rfl)) (ea_cons (ed_sub (ed_sub ed_int (ed_mul (cmw u hp.q.1) (ed_var rfl) (ed_var rfl))) (ed_mul (cmw v hp.q.2.1) (ed_var rfl) (ed_var rfl))) ea_nil))) (by show 3 ≤ 100000; decide)) (ea_cons (ed_tup (ea_cons (ed_sub ed_int (ed_mul (cmw u hq.q.2.2) (ed_var rfl) (ed_var rfl))) (ea_cons (ed_sub ed_int (ed_mul (cmw v hq.q.2.2) (ed_var rfl) (ed_var rfl))) (ea_cons (ed_add (ed_mul (cmw u hq.q.1) (ed_var rfl) (ed_var rfl)) (ed_mul (cmw v hq.q.2.1) (ed_var rfl) (ed_var rfl))) ea_nil))) (by show 3 ≤ 100000; decide)) ea_nil)) (by show 2 ≤ 100000; decide)).dat ?_
        refine w_ret (ed_is (en_cat (as := [dP3 S, .tuple ([S.1, S.2.1, S.2.2].map fun n => PyData.int (0 - n))]) (en_lst (ea_cons (ed_var rfl) (ea_cons (ed_tuple (.inl rfl) (en_map (xs := [S.1, S.2.1, S.2.2]) (enc := PyData.int) (as := fun n => [(13, .int n)]) (r := fun n => .int (0 - n)) (ei_tup (ed_var rfl)) (by show 3 ≤ 50000; decide) (fun _ _ => tg_name) (fun _ _ p hp => by simp at hp; simp [hp]) (fun n hn => ed_sub ed_int (ed_var rfl))).dat) ea_nil)) (by show 2 ≤ 100000; decide)).dat (ed_var rfl) (by show 2 + 2 ≤ 100000; decide)).dat ?_) hQ
        rfl
/-! ### _law_is_in, _law_is_row, _law_is_spot -/
def f__law_is_in : List PyData → PyData → Prop := fun ds r => ∃ (p : P3) (F : List P3), Bw p ∧ (∀ g ∈ F, Bw g) ∧ F.length ≤ 2000 ∧ ds = [dP3 p, dL3 F] ∧ r = .bool (F.all fun g => decide (0 ≤ Sh.frm g p))
theorem u__law_is_in {ss : SD} {t u : TE} {E : XK} {p : P3} {F : List P3} (h : EvD K t ss (dP3 p)) (h' : EvD K u ss (dL3 F)) (hp : Bw p) (hF : ∀ g ∈ F, Bw g) (hl : F.length ≤ 2000) : EvD K (tCall (spD K f__law_is_in) [] E (tCons t (tCons u tNil))) ss (.bool (F.all fun g => decide (0 ≤ Sh.frm g p))) := ed_call (ea_cons h (ea_cons h' ea_nil)) ⟨p, F, hp, hF, hl, rfl, rfl⟩
abbrev s__law_is_in : Stmt := topL 52
theorem sc__law_is_in : FnScope ["_law_spot_here", "_law_forms_here", "_law_form"] ["_law_spot_here", "_law_forms_here"] (defScope s__law_is_in) := ⟨rfl, rfl, rfl, by decide +kernel, rfl, by decide +kernel, by decide +kernel⟩
theorem ok__law_is_in {f : Addr} {fd : FuncData} (F : Dfn K mg "_law_is_in" s__law_is_in f fd ["_law_spot_here", "_law_forms_here"]) (B : Bt mg) (c__law_worth : Cal P w K mg base 1 "_law_worth" ["_law_spot_here", "_law_form"] (spD K f__law_worth)) : Cal P w K mg base 2 "_law_is_in" ["_law_spot_here", "_law_forms_here"] (spD K f__law_is_in) := by
  refine calD F sc__law_is_in (fun ds r h => ?_) fun cdv A outer s H E hr => ⟨_, (pss_one (ps_ret (pe_callB (cr_all rfl) (by rfl) B.m_all PyProof.Rows.boot_all (pa_cons (pe_lc (g := gName 2) (own := [("_law_form", 2)]) rfl sc__law_is_in.nd (pi_list (pv 1)) (blkOk_by (N := ["_law_spot_here", "_law_forms_here", "_law_form"]) (sc := defScope s__law_is_in) (by decide +kernel)) (fun _ _ _ _ _ => (pg_name (i := 2) sc__law_is_in.nd rfl (Or.inl rfl) (Or.inr rfl))) (fun _ _ _ _ _ => pts_nil) (fun _ _ _ _ _ => (pe_cmpR op_ge (pe_c c__law_worth hr (by decide) (by rfl) (pa_cons (pv 0) (pa_cons (pv 2) pa_nil))) pe_int (nomark _)))) pa_nil)))), fun X ds r D hp hQ hN => ?_⟩
  · obtain ⟨p, F, _, _, _, rfl, _⟩ := h
    rfl
  · obtain ⟨p, F, bp, bF, hl, rfl, rfl⟩ := hp
    exact w_ret (ed_alls (xs := F) (b := fun g => decide (0 ≤ Sh.frm g p)) (en_map (xs := F) (enc := dP3) (as := fun g => [(2, dP3 g)]) (r := fun g => .bool (decide (0 ≤ Sh.frm g p))) (ei_list (ed_var rfl)) (by omega) (fun _ _ => tg_name) (fun _ _ q hq => by simp at hq; simp [hq]) (fun g hg => ed_ge (u__law_worth (ed_var rfl) (ed_var rfl) bp (bF g hg)) ed_int)).dat) hQ
def f__law_is_row : List PyData → PyData → Prop := fun ds r => ∃ (ns : List Int) (m : Int), ns.length ≤ 1000 ∧ ds = [.tuple (dI ns), .int m] ∧ r = .bool (decide ((ns.length : Int) = m))
theorem u__law_is_row {ss : SD} {t u : TE} {E : XK} {ns : List Int} {m : Int} (h : EvD K t ss (.tuple (dI ns))) (h' : EvD K u ss (.int m)) (hl : ns.length ≤ 1000) : EvD K (tCall (spD K f__law_is_row) [] E (tCons t (tCons u tNil))) ss (.bool (decide ((ns.length : Int) = m))) := ed_call (ea_cons h (ea_cons h' ea_nil)) ⟨ns, m, hl, rfl, rfl⟩
abbrev s__law_is_row : Stmt := topL 55
theorem sc__law_is_row : FnScope ["_law_value", "_law_size", "_law_each"] ["_law_value", "_law_size"] (defScope s__law_is_row) := ⟨rfl, rfl, rfl, by decide +kernel, rfl, by decide +kernel, by decide +kernel⟩
theorem ok__law_is_row {f : Addr} {fd : FuncData} (F : Dfn K mg "_law_is_row" s__law_is_row f fd ["_law_value", "_law_size"]) (B : Bt mg) : Cal P w K mg base 1 "_law_is_row" ["_law_value", "_law_size"] (spD K f__law_is_row) := by
  refine calD F sc__law_is_row (fun ds r h => ?_) fun cdv A outer s H E hr => ⟨_, (pss_cons (ps_if ((pw_or (pt_not (pt_val (pe_callB call_isi (by rfl) B.m_isinstance PyProof.Rows.boot_isinstance (pa_cons (pv 0) (pa_cons (pe_bltn (v := .ty "tuple") (by rfl) B.m_tuple PySem.Pv.boot_tuple rfl) pa_nil))))) (pw_or1 (pt_cmpR op_ne (pe_callB call_len_seq (by rfl) B.m_len PySem.boot_len (pa_cons (pv 0) pa_nil)) (pv 1) (nomark _))))).pt
     (pss_one (ps_ret pe_bl))
     pss_nil)
     (pss_one (ps_ret (pe_callB (cr_all rfl) (by rfl) B.m_all PyProof.Rows.boot_all (pa_cons (pe_lc (g := gName 2) (own := [("_law_each", 2)]) rfl sc__law_is_row.nd (pi_tup (pv 0)) (blkOk_by (N := ["_law_value", "_law_size", "_law_each"]) (sc := defScope s__law_is_row) (by decide +kernel)) (fun _ _ _ _ _ => (pg_name (i := 2) sc__law_is_row.nd rfl (Or.inl rfl) (Or.inr rfl))) (fun _ _ _ _ _ => pts_nil) (fun _ _ _ _ _ => (pe_and (pe_callB (r := rIsi K) call_isi (by rfl) B.m_isinstance PyProof.Rows.boot_isinstance (pa_cons (pv 2) (pa_cons (pe_bltn (v := .ty "int") (by rfl) B.m_int PySem.Pv.boot_int rfl) pa_nil))) (pe_one (pe_not (pe_callB (r := rIsi K) call_isi (by rfl) B.m_isinstance PyProof.Rows.boot_isinstance (pa_cons (pv 2) (pa_cons (pe_bltn (v := .ty "bool") (by rfl) B.m_bool PySem.Pv.boot_bool rfl) pa_nil)))))))) pa_nil))))), fun X ds r D hp hQ hN => ?_⟩
  · obtain ⟨ns, m, _, rfl, _⟩ := h
    rfl
  · obtain ⟨ns, m, hl, rfl, rfl⟩ := hp
    have ln : (dI ns).length = ns.length := List.length_map _
    refine s_when (eb_or (eb_not (eb_B (ed_isi (d := .tuple (dI ns)) kb_tt (ed_var rfl)))) fun _ => eb_test (ed_neI (ed_len (.inr rfl) (ed_var rfl)) (ed_var rfl))) (fun c => w_ret (ed_is ed_bl ?_) hQ) (fun c => ?_)
    · have c2 : ¬ (ns.length : Int) = m := by rw [ln] at c; simpa using c
      rw [decide_eq_false c2]
    · have c2 : (ns.length : Int) = m := by rw [ln] at c; simpa using c
      refine w_ret (ed_is (ed_alls (xs := ns) (b := fun _ => true) (en_map (xs := ns) (enc := PyData.int) (as := fun n => [(2, .int n)]) (r := fun n => .bool true) (ei_tup (ed_var rfl)) (by omega) (fun _ _ => tg_name) (fun _ _ p hp => by simp at hp; simp [hp]) (fun n hn => ed_andV (ed_isi (d := .int n) kb_ii (ed_var rfl)) fun _ => ed_notV (ed_isi (d := .int n) kb_ib (ed_var rfl)))).dat) ?_) hQ
      rw [decide_eq_true c2]
      simp
def f__law_is_spot : List PyData → PyData → Prop := fun ds r => ∃ p : P3, Sh.isPt p ∧ ds = [dP3 p] ∧ r = .bool true
theorem u__law_is_spot {ss : SD} {t : TE} {E : XK} {p : P3} (h : EvD K t ss (dP3 p)) (hp : Sh.isPt p) : EvD K (tCall (spD K f__law_is_spot) [] E (tCons t tNil)) ss (.bool true) := ed_call (ea_cons h ea_nil) ⟨p, hp, rfl, rfl⟩
abbrev s__law_is_spot : Stmt := topL 56
theorem sc__law_is_spot : FnScope ["_law_value"] ["_law_value"] (defScope s__law_is_spot) := ⟨rfl, rfl, rfl, by decide +kernel, rfl, by decide +kernel, by decide +kernel⟩
theorem ok__law_is_spot {f : Addr} {fd : FuncData} (F : Dfn K mg "_law_is_spot" s__law_is_spot f fd ["_law_value"]) (B : Bt mg) (c__law_gcd : Cal P w K mg base 1 "_law_gcd" ["_law_one_here", "_law_two"] (spD K f__law_gcd)) (c__law_is_row : Cal P w K mg base 1 "_law_is_row" ["_law_value", "_law_size"] (spD K f__law_is_row)) : Cal P w K mg base 2 "_law_is_spot" ["_law_value"] (spD K f__law_is_spot) := by
  refine calD F sc__law_is_spot (fun ds r h => ?_) fun cdv A outer s H E hr => ⟨_, (pss_one (ps_ret (pe_and (pe_c c__law_is_row hr (by decide) (by rfl) (pa_cons (pv 0) (pa_cons pe_int pa_nil))) (pe_and (pe_cmpR op_gt (pe_ix ix_tup (pv 0) pe_int (fun _ _ => rfl)) pe_int (nomark _)) (pe_one (pe_cmpR op_eq (pe_c c__law_gcd hr (by decide) (by rfl) (pa_cons (pe_c c__law_gcd hr (by decide) (by rfl) (pa_cons (pe_ix ix_tup (pv 0) pe_int (fun _ _ => rfl)) (pa_cons (pe_ix ix_tup (pv 0) pe_int (fun _ _ => rfl)) pa_nil))) (pa_cons (pe_ix ix_tup (pv 0) pe_int (fun _ _ => rfl)) pa_nil))) pe_int (nomark _))))))), fun X ds r D hp hQ hN => ?_⟩
  · obtain ⟨p, _, rfl, _⟩ := h
    rfl
  · obtain ⟨p, hp, rfl, rfl⟩ := hp
    refine w_ret (ed_is (ed_andV (u__law_is_row (ns := [p.1, p.2.1, p.2.2]) (ed_var rfl) ed_int (by show 3 ≤ 1000; decide)) fun _ => ed_andV (ed_gt (ed_ixT rfl (ed_var rfl) ed_int) ed_int) fun _ => ed_eqI (u__law_gcd (u__law_gcd (ed_ixT rfl (ed_var rfl) ed_int) (ed_ixT rfl (ed_var rfl) ed_int)) (ed_ixT rfl (ed_var rfl) ed_int)) ed_int) ?_) hQ
    rw [g3_gI, hp.2, decide_eq_true hp.1]
    rfl
end
end Wk
end
section
set_option Elab.async false
set_option linter.all false
set_option maxRecDepth 100000
namespace Wk
open PySem PySem.Spec PyProof.Rows L2 Evl

theorem wsum_rng (g : P3 → Int) : ∀ (ws : List Int) (sh : List P3), ws.length = sh.length → ((List.range sh.length).map fun k => (ws[k]?).getD 0 * g ((sh[k]?).getD z3)).sum = Sh.wsum g ws sh
  | [], [], _ => rfl
  | [], _ :: _, h => by cases h
  | _ :: _, [], h => by cases h
  | v :: ws, s :: sh, h => by
    have ih := wsum_rng g ws sh (Nat.succ.inj h)
    show ((List.range (sh.length + 1)).map _).sum = v * g s + Sh.wsum g ws sh
    rw [List.range_succ_eq_map, List.map_cons, List.sum_cons, List.map_map, ← ih]
    rfl
theorem wsum_line (x y : Int) (ws : List Int) (sh : List P3) : Sh.wsum (fun s => s.1 * x + s.2.1 * y) ws sh = Sh.wsum (fun s => s.1) ws sh * x + Sh.wsum (fun s => s.2.1) ws sh * y := Sh.wsum_lin x y ws sh
section
variable {P : Program} {w : World} {K : PySem.W.Frag} {mg : Str → Option Value} {base : Heap}
/-! ### _law_are_weights -/
def f__law_are_weights : List PyData → PyData → Prop := fun ds r => ∃ (ws : List Int) (R : List (Int × Int)) (sh : List P3), Wts sh ws ∧ (ws.filter fun v => decide (0 < v)).length ≤ 2 ∧ Bg2 R ∧ sh.length ≤ 8 ∧ (∀ s ∈ sh, Bq s) ∧ (∀ z ∈ R, 0 < Sh.wsum (fun s => s.1 * z.1 + s.2.1 * z.2) ws sh) ∧ ds = [.tuple (dI ws), dL2 R, dT3 sh] ∧ r = .bool true
theorem u__law_are_weights {ss : SD} {t u v : TE} {E : XK} {ws : List Int} {R : List (Int × Int)} {sh : List P3} (h : EvD K t ss (.tuple (dI ws))) (h' : EvD K u ss (dL2 R)) (h'' : EvD K v ss (dT3 sh)) (a : Wts sh ws) (b : (ws.filter fun v => decide (0 < v)).length ≤ 2) (c : Bg2 R) (d : sh.length ≤ 8) (e : ∀ s ∈ sh, Bq s) (f : ∀ z ∈ R, 0 < Sh.wsum (fun s => s.1 * z.1 + s.2.1 * z.2) ws sh) : EvD K (tCall (spD K f__law_are_weights) [] E (tCons t (tCons u (tCons v tNil)))) ss (.bool true) := ed_call (ea_cons h (ea_cons h' (ea_cons h'' ea_nil))) ⟨ws, R, sh, a, b, c, d, e, f, rfl, rfl⟩
abbrev s__law_are_weights : Stmt := topL 59
theorem sc__law_are_weights : FnScope ["_law_loads", "_law_dots", "_law_banks", "_law_x", "_law_y", "_law_each", "_law_k"] ["_law_loads", "_law_dots", "_law_banks"] (defScope s__law_are_weights) := ⟨rfl, rfl, rfl, by decide +kernel, rfl, by decide +kernel, by decide +kernel⟩
theorem ok__law_are_weights {f : Addr} {fd : FuncData} (F : Dfn K mg "_law_are_weights" s__law_are_weights f fd ["_law_loads", "_law_dots", "_law_banks"]) (B : Bt mg) (c__law_is_row : Cal P w K mg base 1 "_law_is_row" ["_law_value", "_law_size"] (spD K f__law_is_row)) : Cal P w K mg base 2 "_law_are_weights" ["_law_loads", "_law_dots", "_law_banks"] (spD K f__law_are_weights) := by
  refine calD F sc__law_are_weights (fun ds r h => ?_) fun cdv A outer s H E hr => ⟨_, (pss_cons (ps_if ((pw_or (pt_not (pt_val (pe_c c__law_is_row hr (by decide) (by rfl) (pa_cons (pv 0) (pa_cons (pe_callB call_len_seq (by rfl) B.m_len PySem.boot_len (pa_cons (pv 2) pa_nil)) pa_nil))))) (pw_or1 (pt_not (pt_val (pe_callB (cr_all rfl) (by rfl) B.m_all PyProof.Rows.boot_all (pa_cons (pe_lc (g := gName 5) (own := [("_law_each", 5)]) rfl sc__law_are_weights.nd (pi_tup (pv 0)) (blkOk_by (N := ["_law_loads", "_law_dots", "_law_banks", "_law_x", "_law_y", "_law_each", "_law_k"]) (sc := defScope s__law_are_weights) (by decide +kernel)) (fun _ _ _ _ _ => (pg_name (i := 5) sc__law_are_weights.nd rfl (Or.inl rfl) (Or.inr rfl))) (fun _ _ _ _ _ => pts_nil) (fun _ _ _ _ _ => (pe_cmpR op_ge (pv 5) pe_int (nomark _)))) pa_nil))))))).pt
     (pss_one (ps_ret pe_bl))
     pss_nil)
     (pss_cons (ps_if (pt_cmpR op_gt (pe_callB call_len_seq (by rfl) B.m_len PySem.boot_len (pa_cons (pe_lc (g := gName 5) (own := [("_law_each", 5)]) rfl sc__law_are_weights.nd (pi_tup (pv 0)) (blkOk_by (N := ["_law_loads", "_law_dots", "_law_banks", "_law_x", "_law_y", "_law_each", "_law_k"]) (sc := defScope s__law_are_weights) (by decide +kernel)) (fun _ _ _ _ _ => (pg_name (i := 5) sc__law_are_weights.nd rfl (Or.inl rfl) (Or.inr rfl))) (fun _ _ _ _ _ => (pts_one (pt_cmpR op_gt (pv 5) pe_int (nomark _)))) (fun _ _ _ _ _ => (pv 5))) pa_nil)) pe_int (nomark _))
     (pss_one (ps_ret pe_bl))
     pss_nil)
     (pss_cons (ps_for PassesOwn.never rfl (pi_list (pv 1)) (pg_tup rfl (pgs_cons (pg_name (i := 3) sc__law_are_weights.nd rfl (Or.inr rfl) (Or.inl rfl)) (pgs_cons (pg_name (i := 4) sc__law_are_weights.nd rfl (Or.inr rfl) (Or.inl rfl)) pgs_nil)))
     (pss_one (ps_if (pt_cmpR op_le (pe_callB (cr_sum rfl) (by rfl) B.m_sum PyProof.Rows.boot_sum (pa_cons (pe_lc (g := gName 6) (own := [("_law_k", 6)]) rfl sc__law_are_weights.nd (pi_range1 (by rfl) B.m_range (pa_cons (pe_callB call_len_seq (by rfl) B.m_len PySem.boot_len (pa_cons (pv 2) pa_nil)) pa_nil)) (blkOk_by (N := ["_law_loads", "_law_dots", "_law_banks", "_law_x", "_law_y", "_law_each", "_law_k"]) (sc := defScope s__law_are_weights) (by decide +kernel)) (fun _ _ _ _ _ => (pg_name (i := 6) sc__law_are_weights.nd rfl (Or.inl rfl) (Or.inr rfl))) (fun _ _ _ _ _ => pts_nil) (fun _ _ _ _ _ => (pe_op op_mulW (pe_ix (r := rIxT K) ix_tup (pv 0) (pv 6) (fun _ _ => rfl)) (pe_op op_add (pe_op op_mulW (pe_ix (r := rIxT K) ix_tup (pe_ix (r := rIxT K) ix_tup (pv 2) (pv 6) (fun _ _ => rfl)) pe_int (fun _ _ => rfl)) (pv 3)) (pe_op op_mulW (pe_ix (r := rIxT K) ix_tup (pe_ix (r := rIxT K) ix_tup (pv 2) (pv 6) (fun _ _ => rfl)) pe_int (fun _ _ => rfl)) (pv 4)))))) pa_nil)) pe_int (nomark _))
     (pss_one (ps_ret pe_bl))
     pss_nil)))
     (pss_one (ps_ret pe_bl))))), fun X ds r D hp hQ hN => ?_⟩
  · obtain ⟨ws, R, sh, _, _, _, _, _, _, rfl, _⟩ := h
    rfl
  · obtain ⟨ws, R, sh, a, b, cR, d, e, pos, rfl, rfl⟩ := hp
    have ln : (sh.map dP3).length = sh.length := List.length_map _
    have lw := a.len
    refine s_when (b := false) (eb_is (eb_or (eb_not (eb_B (u__law_is_row (ns := ws) (ed_var rfl) (ed_len (.inr rfl) (ed_var rfl)) (by omega)))) fun _ => eb_not (eb_B (ed_alls (xs := ws) (b := fun v => decide (0 ≤ v)) (en_map (xs := ws) (enc := PyData.int) (as := fun v => [(5, .int v)]) (r := fun v => .bool (decide (0 ≤ v))) (ei_tup (ed_var rfl)) (by omega) (fun _ _ => tg_name) (fun _ _ q hq => by simp at hq; simp [hq]) (fun v hv => ed_ge (ed_var rfl) ed_int)).dat))) ?_) (fun q => nomatch q) fun _ => ?_
    · have h1 : ws.all (fun v => decide (0 ≤ v)) = true := List.all_eq_true.mpr fun v hv => decide_eq_true (a.nn v hv)
      rw [h1, ln, lw, decide_eq_true rfl]
      rfl
    · refine s_when (b := false) (eb_is (eb_test (ed_gt (ed_len (.inl rfl) (en_lc (xs := ws) (enc := PyData.int) (as := fun v => [(5, .int v)]) (f := fun v => decide (0 < v)) (r := fun v => .int v) (ei_tup (ed_var rfl)) (by omega) (fun _ _ => tg_name) (fun _ _ q hq => by simp at hq; simp [hq]) (fun v hv => eb_test (ed_gt (ed_var rfl) ed_int)) (fun v hv _ => ed_var rfl)).dat) ed_int)) ?_) (fun q => nomatch q) fun _ => ?_
      · rw [List.length_map]
        exact decide_eq_false (by omega)
      · refine s_for (xs := R) (enc := dP2) (as := fun z => [(3, .int z.1), (4, .int z.2)]) (fun _ => [some (.tuple (dI ws)), some (dL2 R), some (dT3 sh), none, none, none, none]) (fun _ => none) (ei_list (ed_var rfl)) (fun _ _ => tg_tup (tgs_cons tg_name (tgs_cons tg_name tgs_nil))) (fun _ _ _ => rfl) (LeD.refl _) rfl (fun i z hz G' D' h1 h2 => ?_) ?_
        · have zm := List.mem_of_getElem? hz
          have bz := cR z zm
          have hz0 := pos z zm
          rw [← wsum_rng _ _ _ lw] at hz0
          refine w_if (b := false) (eb_is (eb_test (ed_le (ed_sums (xs := List.range sh.length) (f := fun k => (ws[k]?).getD 0 * (((sh[k]?).getD z3).1 * z.1 + ((sh[k]?).getD z3).2.1 * z.2)) (en_map (xs := List.range sh.length) (enc := fun (k : Nat) => PyData.int (0 + (k : Int))) (as := fun (k : Nat) => [(6, .int (0 + (k : Int)))]) (r := fun k => .int ((ws[k]?).getD 0 * (((sh[k]?).getD z3).1 * z.1 + ((sh[k]?).getD z3).2.1 * z.2))) ?_ (by rw [List.length_range]; omega) (fun _ _ => tg_name) (fun _ _ q hq => by simp at hq; simp [hq]) (fun k hk => ?_)).dat) ed_int)) (decide_eq_false (by omega))) (fun q => nomatch q) fun _ => w_next (w_end h2 (led_same (led_same (led_same (led_no (led_no (led_no (led_no led_nil))))))))
          · have e := ei_rng1 (K := K) (ss := [some (.tuple (dI ws)), some (dL2 R), some (dT3 sh), some (.int z.1), some (.int z.2), none, none]) (ed_len (.inr rfl) (ed_var (i := 2) rfl)) ⟨Int.natCast_nonneg _, by rw [ln]; omega⟩
            rw [ln, Int.toNat_natCast] at e
            exact e
          · have lk : k < sh.length := List.mem_range.mp hk
            have g1 : sh[k]? = some sh[k] := List.getElem?_eq_getElem lk
            have g2 : ws[k]? = some ws[k] := List.getElem?_eq_getElem (by omega)
            have bs := e _ (List.mem_of_getElem? g1)
            have bw := a.bz _ (List.mem_of_getElem? g2)
            generalize sh[k] = s at g1 bs
            generalize ws[k] = v at g2 bw
            rw [g1, g2]
            have i1 : atI (sh.map dP3) (0 + (k : Int)) = some (dP3 s) := by rw [Int.zero_add]; exact atI_nat (get_map dP3 g1)
            have i2 : atI (dI ws) (0 + (k : Int)) = some (.int v) := by rw [Int.zero_add]; exact atI_nat (get_map PyData.int g2)
            exact ed_mul (cmw bw (bz_add (bz_mul bs.1 bz.1) (bz_mul bs.2.1 bz.2))) (ed_ixT i2 (ed_var rfl) (ed_var rfl)) (ed_add (ed_mul (cmw bs.1 bz.1) (ed_ixT rfl (ed_ixT i1 (ed_var rfl) (ed_var rfl)) ed_int) (ed_var rfl)) (ed_mul (cmw bs.2.1 bz.2) (ed_ixT rfl (ed_ixT i1 (ed_var rfl) (ed_var rfl)) ed_int) (ed_var rfl)))
        · exact w_ret ed_bl hQ
/-! ### _law_is_good -/
def f__law_is_good : List PyData → PyData → Prop := fun ds r => ∃ (p : P3) (L sh : List P3), Sh.isPt p ∧ Bp p ∧ L ≠ [] ∧ L.length ≤ 1000 ∧ (∀ q ∈ L, Bp q) ∧ (∀ F ∈ Sh.forms L, 0 ≤ Sh.frm F p) ∧ sh.length ≤ 8 ∧ (∀ s ∈ sh, Bq s) ∧ (∀ s ∈ sh, Sh.lf (s.1, s.2.1) p ≤ 0) ∧ ds = [dP3 p, dT3 L, dT3 sh] ∧ r = .bool true
theorem u__law_is_good {ss : SD} {t u v : TE} {E : XK} {p : P3} {L sh : List P3} (h : EvD K t ss (dP3 p)) (h' : EvD K u ss (dT3 L)) (h'' : EvD K v ss (dT3 sh)) (a1 : Sh.isPt p) (a2 : Bp p) (a3 : L ≠ []) (a4 : L.length ≤ 1000) (a5 : ∀ q ∈ L, Bp q) (a6 : ∀ F ∈ Sh.forms L, 0 ≤ Sh.frm F p) (a7 : sh.length ≤ 8) (a8 : ∀ s ∈ sh, Bq s) (a9 : ∀ s ∈ sh, Sh.lf (s.1, s.2.1) p ≤ 0) : EvD K (tCall (spD K f__law_is_good) [] E (tCons t (tCons u (tCons v tNil)))) ss (.bool true) := ed_call (ea_cons h (ea_cons h' (ea_cons h'' ea_nil))) ⟨p, L, sh, a1, a2, a3, a4, a5, a6, a7, a8, a9, rfl, rfl⟩
theorem forms_len (L : List P3) : (Sh.forms L).length ≤ L.length + 4 := by
  have h : ((Sh.prs (Sh.lastD (0, 0, 1) L :: L.take L.length)).map fun e => Sh.side3 e.1 e.2).length ≤ L.length := sidesF_len L L.length
  rw [List.take_of_length_le (Nat.le_refl _), List.length_map] at h
  unfold Sh.forms
  split
  · rw [List.length_map]
    omega
  · simp only
    split <;> simp
abbrev s__law_is_good : Stmt := topL 60
theorem sc__law_is_good : FnScope ["_law_spot_here", "_law_speeds_here", "_law_banks", "_law_a", "_law_b", "_law_h"] ["_law_spot_here", "_law_speeds_here", "_law_banks"] (defScope s__law_is_good) := ⟨rfl, rfl, rfl, by decide +kernel, rfl, by decide +kernel, by decide +kernel⟩
theorem ok__law_is_good {f : Addr} {fd : FuncData} (F : Dfn K mg "_law_is_good" s__law_is_good f fd ["_law_spot_here", "_law_speeds_here", "_law_banks"]) (B : Bt mg) (c__law_forms : Cal P w K mg base 1 "_law_forms" ["_law_spots"] (spD K f__law_forms)) (c__law_is_in : Cal P w K mg base 2 "_law_is_in" ["_law_spot_here", "_law_forms_here"] (spD K f__law_is_in)) (c__law_is_spot : Cal P w K mg base 2 "_law_is_spot" ["_law_value"] (spD K f__law_is_spot)) : Cal P w K mg base 3 "_law_is_good" ["_law_spot_here", "_law_speeds_here", "_law_banks"] (spD K f__law_is_good) := by
  refine calD F sc__law_is_good (fun ds r h => ?_) fun cdv A outer s H E hr => ⟨_, (pss_cons (ps_if ((pw_or (pt_not (pt_val (pe_c c__law_is_spot hr (by decide) (by rfl) (pa_cons (pv 0) pa_nil)))) (pw_or1 (pt_not (pt_val (pe_c c__law_is_in hr (by decide) (by rfl) (pa_cons (pv 0) (pa_cons (pe_c c__law_forms hr (by decide) (by rfl) (pa_cons (pv 1) pa_nil)) pa_nil)))))))).pt
     (pss_one (ps_ret pe_bl))
     pss_nil)
     (pss_one (ps_ret (pe_callB (cr_all rfl) (by rfl) B.m_all PyProof.Rows.boot_all (pa_cons (pe_lc (g := gTup K 3 (gCons (gName 3) (gCons (gName 4) (gCons (gName 5) gNil)))) (own := [("_law_a", 3), ("_law_b", 4), ("_law_h", 5)]) rfl sc__law_is_good.nd (pi_tup (pv 2)) (blkOk_by (N := ["_law_spot_here", "_law_speeds_here", "_law_banks", "_law_a", "_law_b", "_law_h"]) (sc := defScope s__law_is_good) (by decide +kernel)) (fun _ _ _ _ _ => (pg_tup rfl (pgs_cons (pg_name (i := 3) sc__law_is_good.nd rfl (Or.inl rfl) (Or.inr rfl)) (pgs_cons (pg_name (i := 4) sc__law_is_good.nd rfl (Or.inl rfl) (Or.inr rfl)) (pgs_cons (pg_name (i := 5) sc__law_is_good.nd rfl (Or.inl rfl) (Or.inr rfl)) pgs_nil))))) (fun _ _ _ _ _ => pts_nil) (fun _ _ _ _ _ => (pe_cmpR op_le (pe_op op_add (pe_op op_mulW (pv 3) (pe_ix (r := rIxT K) ix_tup (pv 0) pe_int (fun _ _ => rfl))) (pe_op op_mulW (pv 4) (pe_ix (r := rIxT K) ix_tup (pv 0) pe_int (fun _ _ => rfl)))) pe_int (nomark _)))) pa_nil))))), fun X ds r D hp hQ hN => ?_⟩
  · obtain ⟨p, L, sh, _, _, _, _, _, _, _, _, _, rfl, _⟩ := h
    rfl
  · obtain ⟨p, L, sh, a1, a2, a3, a4, a5, a6, a7, a8, a9, rfl, rfl⟩ := hp
    have fl := forms_len L
    refine s_when (b := false) (eb_is (eb_or (eb_not (eb_B (u__law_is_spot (ed_var rfl) a1))) fun _ => eb_not (eb_B (u__law_is_in (ed_var rfl) (u__law_forms (ed_var rfl) a3 a4 a5) a2.w (forms_bz a3 a5) (by omega)))) ?_) (fun q => nomatch q) fun _ => ?_
    · have h1 : (Sh.forms L).all (fun g => decide (0 ≤ Sh.frm g p)) = true := List.all_eq_true.mpr fun v hv => decide_eq_true (a6 v hv)
      rw [h1]
      rfl
    · refine w_ret (ed_is (ed_alls (xs := sh) (b := fun s => decide (Sh.lf (s.1, s.2.1) p ≤ 0)) (en_map (xs := sh) (enc := dP3) (as := fun s => [(3, .int s.1), (4, .int s.2.1), (5, .int s.2.2)]) (r := fun s => .bool (decide (Sh.lf (s.1, s.2.1) p ≤ 0))) (ei_tup (ed_var rfl)) (by omega) (fun _ _ => tg_tup (tgs_cons tg_name (tgs_cons tg_name (tgs_cons tg_name tgs_nil)))) (fun _ _ q hq => by simp at hq; rcases hq with rfl | rfl | rfl <;> simp)
        (fun s hs => ed_le (ed_add (ed_mul (cmw (a8 s hs).1 a2.q.1) (ed_var rfl) (ed_ixT rfl (ed_var rfl) ed_int)) (ed_mul (cmw (a8 s hs).2.1 a2.q.2.1) (ed_var rfl) (ed_ixT rfl (ed_var rfl) ed_int))) ed_int)).dat) ?_) hQ
      have h1 : sh.all (fun s => decide (Sh.lf (s.1, s.2.1) p ≤ 0)) = true := List.all_eq_true.mpr fun v hv => decide_eq_true (a9 v hv)
      rw [h1]
end
end Wk
end
section
set_option Elab.async false
set_option linter.all false
set_option maxRecDepth 100000
namespace Wk
open PySem PySem.Spec PyProof.Rows L2 Evl

structure Dots (S : List (Int × Int)) : Prop where
  ne : S ≠ []
  len : S.length ≤ 5
  sm : ∀ z ∈ S, Sh.sm2 6 z
abbrev rimOf (S : List (Int × Int)) : List (Int × Int) := Sh.hullZ (Sh.sortD S)
theorem rim_len {S : List (Int × Int)} (h : S.length ≤ 5) : (rimOf S).length ≤ 8 := by
  have chL : ∀ S : List (Int × Int), (Sh.chain S).length ≤ S.length := fun S => by
    have := chainR_len S []
    unfold Sh.chain
    rw [List.length_reverse]
    have e0 : ([] : List (Int × Int)).length = 0 := rfl
    show (S.foldl Sh.push []).length ≤ S.length
    omega
  have lR := sortD_len S
  unfold rimOf Sh.hullZ
  split
  · omega
  · rw [List.length_append, List.length_dropLast, List.length_dropLast]
    have a := chL (Sh.sortD S)
    have b := chL (Sh.sortD S).reverse
    rw [List.length_reverse] at b
    omega
section
variable {S : List (Int × Int)} {u : Int} (hS : Dots S) (hu : 1 ≤ u ∧ u ≤ 3)
include hS hu
theorem vel_of : Vel (Sh.speeds u (rimOf S)) ∧ Sh.LawL (Sh.speeds u (rimOf S)) := by
  have nR := Sh.sortD_ne hS.ne
  have aR := Sh.sortD_asc S
  have sR : ∀ a ∈ Sh.sortD S, Sh.sm2 6 a := fun a ha => hS.sm a ((Sh.mem_sortD S).mp ha)
  have po := Sh.sp_poly aR nR sR hu
  have pt := Sh.sp_pt aR nR sR hu
  have sm := Sh.sp_small aR nR sR hu
  have hl : (Sh.speeds u (rimOf S)).length ≤ 8 := by
    unfold Sh.speeds
    rw [List.length_map]
    exact rim_len hS.len
  refine ⟨⟨⟨po.ne, by omega, fun p hp => ?_, pt, Sh.sp_hull aR nR sR hu⟩, po, hl⟩, Sh.sp_law aR nR sR hu⟩
  obtain ⟨a, b, c⟩ := sm p hp
  have d := (pt p hp).1
  exact ⟨⟨d, by omega⟩, bg_of ⟨by omega, by omega⟩, bg_of ⟨by omega, by omega⟩⟩
theorem rim_bg : Bg2 (rimOf S) := fun z hz => by
  have nR := Sh.sortD_ne hS.ne
  have aR := Sh.sortD_asc S
  have m := Sh.hull_mem aR nR hz
  obtain ⟨a, b⟩ := hS.sm z ((Sh.mem_sortD S).mp m)
  exact ⟨bz_le (bg_of ⟨by omega, by omega⟩) (by decide), bz_le (bg_of ⟨by omega, by omega⟩) (by decide)⟩
end
section
variable {L sh : List P3} (hV : Vel L) (hl : Sh.LawL L) (hs : Shs sh)
include hV hl hs
theorem bad_iff (i j : Nat) : badP L sh i j ↔ badL L sh i j := by
  have key : ∀ s t : P3, sh[i]? = some s → sh[j]? = some t → (Sh.partOff (some L) (fsOf [s, t]) = none ↔ Sh.lawLeft L (fsOf [s, t]) = []) := fun s t h1 h2 => by
    have ok : Sh.Okf (fsOf [s, t]) := okf_of fun q hq => by
      rcases (by simpa using hq : q = s ∨ q = t) with rfl | rfl
      · exact hs.bo _ (List.mem_of_getElem? h1)
      · exact hs.bo _ (List.mem_of_getElem? h2)
    exact (Sh.prog_iff hV.po ok).trans (Sh.law_iff hV.po ok hl).symm
  constructor
  · rintro ⟨s, t, h1, h2, h3⟩
    exact ⟨s, t, h1, h2, (key s t h1 h2).mp h3⟩
  · rintro ⟨s, t, h1, h2, h3⟩
    exact ⟨s, t, h1, h2, (key s t h1 h2).mpr h3⟩
theorem held_iff : (Sh.lawLeft L (fsOf sh)).isEmpty = !decide (Sh.partOff (some L) (fsOf sh) ≠ none) := by
  have e := (Sh.prog_iff hV.po (okf_of hs.bo)).trans (Sh.law_iff hV.po (okf_of hs.bo) hl).symm
  by_cases c : Sh.partOff (some L) (fsOf sh) = none
  · have d := e.mp c
    rw [d]
    simp [c]
  · have d : Sh.lawLeft L (fsOf sh) ≠ [] := fun z => c (e.mpr z)
    simp [c]
    simpa using d
theorem pair_iff {o : Option (Nat × Nat)} (ho : Sh.IsPair (badP L sh) sh.length o) : o = none ↔ Sh.partOff (some L) (fsOf sh) ≠ none := by
  have ok := okf_of hs.bo
  have ok2 : ∀ {i j : Nat} {s t : P3}, sh[i]? = some s → sh[j]? = some t → Sh.Okf (fsOf [s, t]) := fun {i j s t} h1 h2 => okf_of fun q hq => by
    rcases (by simpa using hq : q = s ∨ q = t) with rfl | rfl
    · exact hs.bo _ (List.mem_of_getElem? h1)
    · exact hs.bo _ (List.mem_of_getElem? h2)
  constructor
  · intro e hp
    have b := (Sh.prog_iff hV.po ok).mp hp
    obtain ⟨x, hx, y, hy, b2⟩ := Sh.helly hV.po.ne b
    obtain ⟨s, hs1, rfl⟩ := List.mem_map.mp hx
    obtain ⟨t, ht1, rfl⟩ := List.mem_map.mp hy
    obtain ⟨i, hi⟩ := List.getElem?_of_mem hs1
    obtain ⟨j, hj⟩ := List.getElem?_of_mem ht1
    have li := (List.getElem?_eq_some_iff.mp hi).1
    have lj := (List.getElem?_eq_some_iff.mp hj).1
    by_cases c : i ≤ j
    · exact ho.no e i j c lj ⟨s, t, hi, hj, (Sh.prog_iff hV.po (ok2 hi hj)).mpr b2⟩
    · exact ho.no e j i (by omega) li ⟨t, s, hj, hi, (Sh.prog_iff hV.po (ok2 hj hi)).mpr (Sh.barred_swap b2)⟩
  · intro hp
    rcases e : o with _ | ⟨i, j⟩
    · rfl
    · obtain ⟨_, _, ⟨s, t, h1, h2, h3⟩, _⟩ := ho.yes i j e
      have b := (Sh.prog_iff hV.po (ok2 h1 h2)).mp h3
      have m1 : ((s.1, s.2.1) : Int × Int) ∈ fsOf sh := List.mem_map.mpr ⟨s, List.mem_of_getElem? h1, rfl⟩
      have m2 : ((t.1, t.2.1) : Int × Int) ∈ fsOf sh := List.mem_map.mpr ⟨t, List.mem_of_getElem? h2, rfl⟩
      exact absurd ((Sh.prog_iff hV.po ok).mpr (Sh.barred_all m1 m2 b)) hp
theorem good_of {M : List P3} (e : Sh.partOff (some L) (fsOf sh) = some M) : ∃ p r, M = p :: r ∧ Sh.isPt p ∧ Bp p ∧ (∀ F ∈ Sh.forms L, 0 ≤ Sh.frm F p) ∧ ∀ s ∈ sh, Sh.lf (s.1, s.2.1) p ≤ 0 := by
  have ok := okf_of hs.bo
  obtain ⟨k1, _, k3⟩ := Sh.prog_told hV.po ok e
  cases M with
  | nil => exact absurd rfl k1.ne
  | cons p r =>
    have m : p ∈ p :: r := List.mem_cons_self
    obtain ⟨a, b, c⟩ := k1.sm p m
    have d := (k1.pts p m).1
    refine ⟨p, r, rfl, k1.pts p m, ⟨⟨d, c.2⟩, bg_of ⟨by omega, by omega⟩, bg_of ⟨by omega, by omega⟩⟩, fun F hF => Sh.part_nn (fsOf sh) L _ ok hV.po (Sh.forms_nn hV.po F hF) e p m, fun s h => k3 p m _ (List.mem_map.mpr ⟨s, h, rfl⟩)⟩
theorem bar_of {o : Option (Nat × Nat)} (ho : Sh.IsPair (badP L sh) sh.length o) (hn : Sh.partOff (some L) (fsOf sh) = none) : ∃ i j ws, o = some (i, j) ∧ barD L sh o = .tuple (dI ws) ∧ Wts sh ws ∧ (ws.filter fun v => decide (0 < v)).length ≤ 2 ∧ Sh.isBarred L sh ws = true := by
  rcases e : o with _ | ⟨i, j⟩
  · exact absurd ((pair_iff hV hl hs ho).mp e) (by simp [hn])
  · obtain ⟨_, _, ⟨s, t, h1, h2, h3⟩, _⟩ := ho.yes i j e
    have ok : Sh.Okf (fsOf [s, t]) := okf_of fun q hq => by
      rcases (by simpa using hq : q = s ∨ q = t) with rfl | rfl
      · exact hs.bo _ (List.mem_of_getElem? h1)
      · exact hs.bo _ (List.mem_of_getElem? h2)
    have b := (Sh.prog_iff hV.po ok).mp h3
    obtain ⟨r, hr, r', hr', pos⟩ := Sh.weights (f := (s.1, s.2.1)) (g := (t.1, t.2.1)) b
    have tr : tryW L sh i j r r' ≠ none := by
      have : Sh.isBarred L sh (Sh.wts sh.length i j (r.1 + r'.1) (r.2 + r'.2)) = true := by
        unfold Sh.isBarred
        refine List.all_eq_true.mpr fun c hc => decide_eq_true ?_
        rw [Sh.wts_sum (fun s => s.1) h1 h2, Sh.wts_sum (fun s => s.2.1) h1 h2]
        have := pos c hc
        unfold Sh.lf at this
        simp only at this
        grind
      unfold tryW
      rw [if_pos this]
      exact fun z => by cases z
    have fd : findW L sh i j (Sh.rows (s.1, s.2.1) (t.1, t.2.1) L) ≠ none := fun z => by
      unfold findW at z
      have z1 := List.findSome?_eq_none_iff.mp z r hr
      exact tr (List.findSome?_eq_none_iff.mp z1 r' hr')
    cases q : findW L sh i j (Sh.rows (s.1, s.2.1) (t.1, t.2.1) L) with
    | none => exact absurd q fd
    | some ws =>
      have eb : barD L sh (some (i, j)) = .tuple (dI ws) := by
        simp only [barD, h1, h2, q, wD]
      have q0 := q
      unfold findW at q
      obtain ⟨h, hh, q1⟩ := List.exists_of_findSome?_eq_some q
      obtain ⟨t', ht', q2⟩ := List.exists_of_findSome?_eq_some q1
      unfold tryW at q2
      split at q2
      · rename_i isB
        cases q2
        have bs := hs.bo s (List.mem_of_getElem? h1)
        have bt := hs.bo t (List.mem_of_getElem? h2)
        have rb := rows_bz bs bt hV.pg.bp
        have n1 := Sh.rows_nn hh
        have n2 := Sh.rows_nn ht'
        exact ⟨i, j, _, rfl, eb, ⟨Sh.wts_len .., Sh.wts_nn (by omega) (by omega), wts_bz (bz_add (rb h hh).1 (rb t' ht').1) (bz_add (rb h hh).2 (rb t' ht').2)⟩, Sh.wts_few .., isB⟩
      · cases q2
end
theorem dots_pos {S : List (Int × Int)} {u : Int} {sh : List P3} {ws : List Int} (hu : 1 ≤ u) (h : Sh.isBarred (Sh.speeds u (rimOf S)) sh ws = true) : ∀ z ∈ rimOf S, 0 < Sh.wsum (fun s => s.1 * z.1 + s.2.1 * z.2) ws sh := fun z hz => by
  unfold Sh.isBarred at h
  have m : Sh.red (z.1, z.2, u) ∈ Sh.speeds u (rimOf S) := List.mem_map.mpr ⟨z, hz, rfl⟩
  have p := of_decide_eq_true (List.all_eq_true.mp h _ m)
  rw [wsum_line]
  have hg : 0 < Sh.g3 (z.1, z.2, u) := Sh.g3_pos (by show u ≠ 0; omega)
  have e := Sh.red_mul (p := (z.1, z.2, u))
  have e1 : Sh.g3 (z.1, z.2, u) * (Sh.red (z.1, z.2, u)).1 = z.1 := congrArg (fun z : P3 => z.1) e
  have e2 : Sh.g3 (z.1, z.2, u) * (Sh.red (z.1, z.2, u)).2.1 = z.2 := congrArg (fun z : P3 => z.2.1) e
  generalize Sh.wsum (fun s => s.1) ws sh = A at p ⊢
  generalize Sh.wsum (fun s => s.2.1) ws sh = B at p ⊢
  generalize (Sh.red (z.1, z.2, u)).1 = x at p e1
  generalize (Sh.red (z.1, z.2, u)).2.1 = y at p e2
  generalize Sh.g3 (z.1, z.2, u) = g at hg e1 e2
  have := Int.mul_pos hg p
  clear e m h hz
  rw [← e1, ← e2]
  grind
end Wk
end
section
set_option Elab.async false
set_option linter.all false
set_option maxRecDepth 100000
namespace Wk
open PySem PySem.Spec PyProof.Rows L2 Evl

/-! ### a list that is let move: the sack -/
/-- all but s stays -/
def Mv (s : Addr) (H H' : Hp) : Prop := ∀ a o, a ≠ s → H a = some o → H' a = some o
/-- the sack at s: n draws at most were counted -/
def Sk (n : Nat) (H : Hp) (s : Addr) : Prop := ∃ a b c : Int, H s = some (.lst [.int a, .int b, .int c]) ∧ 0 ≤ a ∧ 0 ≤ b ∧ b < 2147483543 ∧ 0 ≤ c ∧ c ≤ n
section
variable {K : PySem.W.Frag} {X : List Addr} {s : Addr} {H H' H'' H0 G : Hp} {n m k : Nat}
theorem Mv.refl : Mv s H H := fun _ _ _ h => h
theorem Mv.trans (a : Mv s H H') (b : Mv s H' H'') : Mv s H H'' := fun x o h e => b x o h (a x o h e)
theorem Mv.of (e : Ex H H') : Mv s H H' := fun a o _ h => e a o h
theorem Mv.upd {o : HO} (a : Mv s H H') : Mv s H (upd H' s o) := fun x u h e => by
  rw [upd_ne h]
  exact a x u h e
theorem Sk.le (h : Sk n H s) (l : n ≤ m) : Sk m H s := by
  obtain ⟨a, b, c, h1, h2, h3, h4, h5, h6⟩ := h
  exact ⟨a, b, c, h1, h2, h3, h4, h5, by omega⟩
theorem Sk.ex (h : Sk n H s) (e : Ex H H') : Sk n H' s := by
  obtain ⟨a, b, c, h1, h2⟩ := h
  exact ⟨a, b, c, e _ _ h1, h2⟩
theorem Sk.ne (h : Sk n H s) : H s ≠ none := by
  obtain ⟨a, b, c, h1, _⟩ := h
  rw [h1]
  exact fun z => by cases z
theorem hd_mv (hs : s ∈ X) (e : Mv s H H') : Ex (Hd X H) (Hd X H') := fun a o h => by
  unfold Hd at h
  split at h
  · cases h
  · rename_i q
    exact hd_at q (e a o (fun z => q (z ▸ hs)) h)
theorem own_mv (O : Own X H) (e : Mv s H H') (k : Sk n H' s) : Own X H' := fun a m => by
  by_cases c : a = s
  · subst c
    exact k.ne
  · cases h : H a with
    | none => exact absurd h (O a m)
    | some o =>
      rw [e a o c h]
      exact fun z => by cases z
/-- a state, read where the sack may move, and put back -/
theorem rep_mv {ss : SD} {mu : Mu} {σ : L2.St} (hs : s ∈ X) (hk : Sk n H0 s) (r : Rep K X H0 G ss mu σ H) : ∃ Y, s ∈ Y ∧ Own Y H ∧ StD K (Hd Y H) σ ss ∧ Sk n H s ∧ Ex G (Hd Y H) ∧
    ∀ (m : Nat) (H' : Hp), Mv s H H' → Sk m H' s → ∃ H1, Mv s H0 H1 ∧ Sk m H1 s ∧ ∀ (G' : Hp) (σ' : L2.St) (ss' : SD), Ex G' (Hd Y H') → (∀ p, mu = some p → σ'[p.1]? = σ[p.1]?) → StD K (Hd Y H') σ' ss' → Rep K X H1 G' ss' mu σ' H' := by
  obtain ⟨O, e0, r⟩ := r
  have hkH := hk.ex e0
  cases mu with
  | none =>
    obtain ⟨eg, S⟩ := r
    exact ⟨X, hs, O.mono e0, S, hkH, eg, fun m H' e k => ⟨H', (Mv.of e0).trans e, k, fun G' σ' ss' eg' _ S' => ⟨own_mv (O.mono e0) e k, Ex.refl _, eg', S'⟩⟩⟩
  | some p =>
    obtain ⟨l, xs, hl, hσ, hx, eg, ha, S⟩ := r
    have ls : l ≠ s := fun z => O s hs (z ▸ hl)
    have OY : Own (l :: X) H := own_cons (O.mono e0) (by rw [hx]; exact fun z => by cases z)
    refine ⟨l :: X, List.mem_cons_of_mem _ hs, OY, S, hkH, eg, fun m H' e k => ⟨Hd [l] H', fun a o na h => ?_, ?_, fun G' σ' ss' eg' hp S' => ⟨fun a ma => ?_, hd_le, l, xs, ?_, ?_, e _ _ ls hx, eg', dpAll_mono (hd_mv (List.mem_cons_of_mem _ hs) e) _ _ ha, S'⟩⟩⟩
    · refine hd_at (fun z => ?_) (e a o na (e0 _ _ h))
      rw [List.mem_singleton.mp z, hl] at h
      cases h
    · obtain ⟨a, b, c, h1, h2⟩ := k
      exact ⟨a, b, c, hd_at (fun z => ls (List.mem_singleton.mp z).symm) h1, h2⟩
    · have nl : a ≠ l := fun z => O a ma (z ▸ hl)
      unfold Hd
      rw [if_neg (fun z => nl (List.mem_singleton.mp z))]
      exact own_mv (O.mono e0) e k a ma
    · unfold Hd
      rw [if_pos List.mem_cons_self]
    · rw [hp p rfl]
      exact hσ
end
/-- an expression that may draw: to data of R -/
def EvM (K : PySem.W.Frag) (s : Addr) (n m : Nat) (te : TE) (ss : SD) (R : PyData → Prop) : Prop := ∀ (X : List Addr) (σ : L2.St) (H : Hp), s ∈ X → Own X H → Sk n H s → StD K (Hd X H) σ ss → ∀ Q : VK, (∀ v H' d, Mv s H H' → Sk m H' s → R d → Dq K (Hd X H') v d → Q v H') → te σ H Q
def EvAM (K : PySem.W.Frag) (s : Addr) (n m : Nat) (ta : TA) (ss : SD) (R : List PyData → Prop) : Prop := ∀ (X : List Addr) (σ : L2.St) (H : Hp), s ∈ X → Own X H → Sk n H s → StD K (Hd X H) σ ss → ∀ Q : List V → Hp → Prop, (∀ vs H' ds, Mv s H H' → Sk m H' s → R ds → DqAll K (Hd X H') vs ds → Q vs H') → ta σ H Q
/-- a def that may draw -/
def spM (K : PySem.W.Frag) (m : Nat) (φ : List PyData → PyData → Prop) : Sp := fun vs H Q E => ∃ (s : Addr) (n : Nat) (X : List Addr) (ds : List PyData), n + m ≤ 1000 ∧ s ∈ X ∧ Own X H ∧ Sk n H s ∧ DqAll K (Hd X H) vs (adrD s :: ds) ∧ (∃ r, φ ds r) ∧ ∀ v H' r, φ ds r → Mv s H H' → Sk (n + m) H' s → Dq K (Hd X H') v r → Q v H'
section
variable {K : PySem.W.Frag} {s : Addr} {n m k : Nat} {ss : SD} {te ta tb : TE} {R : PyData → Prop}
theorem em_of {d : PyData} (h : EvD K te ss d) (r : R d) : EvM K s n n te ss R := fun X σ H hs O k S Q q => h X σ H O S Q fun v H' e hv => q v H' d (Mv.of e) (k.ex e) r hv
theorem em_is {R' : PyData → Prop} (h : EvM K s n m te ss R) (i : ∀ d, R d → R' d) : EvM K s n m te ss R' := fun X σ H hs O k S Q q => h X σ H hs O k S Q fun v H' d e k' r hv => q v H' d e k' (i d r) hv
abbrev IntR (A : Int → Prop) : PyData → Prop := fun d => ∃ i, A i ∧ d = .int i
theorem em_I0 {g : Int → Int → Int} {A B : Int → Prop} (ha : EvM K s n m ta ss (IntR A)) (hb : EvM K s m k tb ss (IntR B)) : EvM K s n k (tOp (rI0 fun i j => .int (g i j)) ta tb) ss (IntR fun z => ∃ i j, A i ∧ B j ∧ z = g i j) := fun X σ H hs O hk S Q q =>
  ha X σ H hs O hk S _ fun x H1 d1 e1 k1 r1 h1 => hb X σ H1 hs (own_mv O e1 k1) k1 (S.mono (hd_mv hs e1)) _ fun y H2 d2 e2 k2 r2 h2 => by
    obtain ⟨i, ai, rfl⟩ := r1
    obtain ⟨j, bj, rfl⟩ := r2
    exact ⟨i, j, dp_int h1, dp_int h2, q _ H2 _ (e1.trans e2) k2 ⟨_, ⟨i, j, ai, bj, rfl⟩, rfl⟩ (.int _)⟩
theorem am_nil : EvAM K s n n tNil ss (fun ds => ds = []) := fun X σ H hs O k S Q q => q [] H [] Mv.refl k rfl .nil
theorem am_cons {tr : TA} {T : List PyData → Prop} (ha : EvM K s n m te ss R) (hr : EvAM K s m k tr ss T) : EvAM K s n k (tCons te tr) ss (fun ds => ∃ d es, R d ∧ T es ∧ ds = d :: es) := fun X σ H hs O hk S Q q =>
  ha X σ H hs O hk S _ fun x H1 d1 e1 k1 r1 h1 => hr X σ H1 hs (own_mv O e1 k1) k1 (S.mono (hd_mv hs e1)) _ fun ys H2 ds e2 k2 r2 h2 =>
    q _ H2 _ (e1.trans e2) k2 ⟨d1, ds, r1, r2, rfl⟩ (.cons (dp_mono (hd_mv hs e2) _ _ h1) h2)
theorem em_tup {tr : TA} {T : List PyData → Prop} (h : EvAM K s n m tr ss T) (hl : ∀ ds, T ds → ds.length ≤ 100000) : EvM K s n m (tTup tr) ss (fun d => ∃ ds, T ds ∧ d = .tuple ds) := fun X σ H hs O hk S Q q =>
  h X σ H hs O hk S _ fun vs H1 ds e1 k1 r1 hv => ⟨by rw [dpa_len hv]; exact sz_of (hl ds r1), fun p hp => by
    have pX : p ∉ X := own_not (own_mv O e1 k1) hp
    exact q _ _ _ (e1.trans (Mv.of (Ex.new hp))) (k1.ex (Ex.new hp)) ⟨ds, r1, rfl⟩ (.tup (.inl (.inl (hd_at pX upd_same))) (dpAll_mono (hd_mono (Ex.new hp)) _ _ hv))⟩
theorem em_lst {tr : TA} {T : List PyData → Prop} (h : EvAM K s n m tr ss T) (hl : ∀ ds, T ds → ds.length ≤ 100000) : EvM K s n m (tLst tr) ss (fun d => ∃ ds, T ds ∧ d = .list ds) := fun X σ H hs O hk S Q q =>
  h X σ H hs O hk S _ fun vs H1 ds e1 k1 r1 hv => ⟨by rw [dpa_len hv]; exact sz_of (hl ds r1), fun p hp => by
    have pX : p ∉ X := own_not (own_mv O e1 k1) hp
    exact q _ _ _ (e1.trans (Mv.of (Ex.new hp))) (k1.ex (Ex.new hp)) ⟨ds, r1, rfl⟩ (.lst (hd_at pX upd_same) (dpAll_mono (hd_mono (Ex.new hp)) _ _ hv))⟩
theorem em_call {E : XK} {tr : TA} {ds : List PyData} {φ : List PyData → PyData → Prop} (h : EvAD K tr ss (adrD s :: ds)) (hn : n + k ≤ 1000) (he : ∃ r, φ ds r) (hm : n + k = m := by rfl) : EvM K s n m (tCall (spM K k φ) [] E tr) ss (φ ds) := fun X σ H hs O hk S Q q =>
  h X σ H O S _ fun vs H1 e1 hv => by
    refine ⟨s, n, X, ds, hn, hs, O.mono e1, hk.ex e1, by rw [List.append_nil]; exact hv, he, fun v H' r pr e2 k2 h2 => q v H' r ((Mv.of e1).trans e2) (hm ▸ k2) pr h2⟩
end
section
variable {K : PySem.W.Frag} {s : Addr} {n m : Nat} {X : List Addr} {H0 G : Hp} {ss : SD} {mu : Mu} {te : TE} {g : TG} {tz tq : TS} {D : Ends} {R : PyData → Prop} {P : L2.St → Hp → Prop}
theorem m_tgt (hs : s ∈ X) (hk : Sk n H0 s) (he : EvM K s n m te ss R) (k : ∀ d, R d → ∃ as, TgD K g d as ∧ as.all (fun p => apart mu p.1) = true ∧ ∀ H1, Mv s H0 H1 → Sk m H1 s → Wp K X H1 G (tz D) (setsD ss as) mu) : Wp K X H0 G (tSeq (tAsg te g) tz D) ss mu := fun σ H r => by
  obtain ⟨Y, sY, O, S, kH, eg, f⟩ := rep_mv hs hk r
  refine he Y σ H sY O kH S _ fun v H' d e' k' rd hv => ?_
  obtain ⟨as, hg, hm, kk⟩ := k d rd
  obtain ⟨H1, m1, s1, f1⟩ := f m H' e' k'
  refine hg Y H' v σ _ (own_mv O e' k') hv fun vs hvs => kk H1 m1 s1 _ _ (f1 G _ _ (eg.trans (hd_mv sY e')) (fun p hp => setL_ne _ _ _ fun mm => ?_) (StD.sets as (S.mono (hd_mv sY e')) hvs))
  obtain ⟨q, hq, eq⟩ := List.mem_map.mp mm
  exact apart_ne (List.all_eq_true.mp hm q hq) p hp eq
theorem m_par3 {i j l : Nat} {tr : TA} {T : List PyData → Prop} (hs : s ∈ X) (hk : Sk n H0 s) (he : EvAM K s n m tr ss T) (k : ∀ ds, T ds → ∃ a b c, ds = [a, b, c] ∧ ∀ H1, Mv s H0 H1 → Sk m H1 s → Wp K X H1 G (tz D) (((ss.set i (some a)).set j (some b)).set l (some c)) none) : Wp K X H0 G (tSeq (tPar3 i j l tr) tz D) ss none := fun σ H r => by
  obtain ⟨Y, sY, O, S, kH, eg, f⟩ := rep_mv hs hk r
  refine he Y σ H sY O kH S _ fun vs H' ds e' k' rd hv => ?_
  obtain ⟨a, b, c, rfl, kk⟩ := k ds rd
  obtain ⟨H1, m1, s1, f1⟩ := f m H' e' k'
  cases hv with
  | cons v1 hv =>
    cases hv with
    | cons v2 hv =>
      cases hv with
      | cons v3 hv =>
        cases hv
        exact ⟨_, _, _, rfl, kk H1 m1 s1 _ _ (f1 G _ _ (eg.trans (hd_mv sY e')) (fun p hp => by cases hp) ((((S.mono (hd_mv sY e')).set i v1).set j v2).set l v3))⟩
theorem m_ret (hs : s ∈ X) (hk : Sk n H0 s) (he : EvM K s n m te (vis ss mu) R) (k : ∀ v H' d, R d → Mv s H0 H' → Sk m H' s → Dq K (Hd X H') v d → D.rt v H') : Wp K X H0 G (tRet te D) ss mu := fun σ H r => by
  obtain ⟨vO, vS, _⟩ := r.vis
  exact he X σ H hs vO (hk.ex r.2.1) vS _ fun v H' d e' k' rd hv => k v H' d rd ((Mv.of r.2.1).trans e') k' hv
theorem m_app {es : List PyData} {c : Nat} (hs : s ∈ X) (hk : Sk n H0 s) (he : EvM K s n m te ss R) (hl : es.length < 100000) (k : ∀ d, R d → ∀ H1, Mv s H0 H1 → Sk m H1 s → Wp K X H1 G D.nx ss (some (c, es ++ [d]))) : Wp K X H0 G (tDrop (tBM K "list" rAppend (tVar c) (tCons te tNil)) D) ss (some (c, es)) := fun σ H r => by
  obtain ⟨O, e0, l, xs, hl0, hσ, hx, eg, ha, S⟩ := r
  have ls : l ≠ s := fun z => O s hs (z ▸ hl0)
  have sY : s ∈ l :: X := List.mem_cons_of_mem _ hs
  have OY : Own (l :: X) H := own_cons (O.mono e0) (by rw [hx]; exact fun z => by cases z)
  refine ⟨.ref l, hσ, .inl ⟨rfl, xs, sq_of hx⟩, he (l :: X) σ H sY OY (hk.ex e0) S _ fun v H' d e' k' rd hv => ⟨l, xs, v, rfl, rfl, e' _ _ ls hx, by rw [dpa_len ha]; exact sz_lt hl, ?_⟩⟩
  have hl1 : Hd [l] H' l = none := by
    unfold Hd
    rw [if_pos List.mem_cons_self]
  refine k d rd (Hd [l] H') (fun a o na h => hd_at (fun z => ?_) (e' a o na (e0 _ _ h))) ?_ σ _ ⟨fun a ma => ?_, Ex.mut hd_le hl1, l, xs ++ [v], hl1, hσ, upd_same, ?_, ?_, ?_⟩
  · rw [List.mem_singleton.mp z, hl0] at h
    cases h
  · obtain ⟨a, b, c', h1, h2⟩ := k'
    exact ⟨a, b, c', hd_at (fun z => ls (List.mem_singleton.mp z).symm) h1, h2⟩
  · have nl : a ≠ l := fun z => O a ma (z ▸ hl0)
    unfold Hd
    rw [if_neg (fun z => nl (List.mem_singleton.mp z))]
    exact own_mv (O.mono e0) e' k' a ma
  · rw [hd_upd List.mem_cons_self]
    exact eg.trans (hd_mv sY e')
  · rw [hd_upd List.mem_cons_self]
    exact dpa_app (dpAll_mono (hd_mv sY e') _ _ ha) (dpa_one hv)
  · rw [hd_upd List.mem_cons_self]
    exact S.mono (hd_mv sY e')
/-- so many turns as are drawn; a list grows in each -/
theorem m_for {c v : Nat} {N : Nat → Prop} {es : List PyData} (q : Nat) (Inv : Nat → List PyData → Prop) (hs : s ∈ X) (hk : Sk n H0 s) (he : EvM K s n m te ss (fun d => ∃ j : Nat, N j ∧ d = .int (j : Int))) (hN : ∀ j, N j → j ≤ 100000) (hv : apart (some (c, es)) v = true) (h0 : Inv 0 es)
    (hb : ∀ j, N j → ∀ i, i < j → ∀ es, Inv i es → ∀ H1, Mv s H0 H1 → Sk (m + i * q) H1 s → ∀ D' : Ends, D'.rt = D.rt → D'.nx = (fun σ H => ∃ H2 es', Mv s H0 H2 ∧ Sk (m + (i + 1) * q) H2 s ∧ Inv (i + 1) es' ∧ Rep K X H2 G ss (some (c, es')) σ H) → Wp K X H1 G (tq D') (setsD ss [(v, .int (0 + (i : Int)))]) (some (c, es)))
    (hd : ∀ j, N j → ∀ es, Inv j es → ∀ H1, Mv s H0 H1 → Sk (m + j * q) H1 s → Wp K X H1 G (tz D) ss (some (c, es))) : Wp K X H0 G (tSeq (tFor (iRng1 (tCons te tNil)) (gName v) tq) tz D) ss (some (c, es)) := fun σ H r => by
  obtain ⟨Y, sY, O, S, kH, eg, f⟩ := rep_mv hs hk r
  refine he Y σ H sY O kH S _ fun x H' d e' k' rd hx => ?_
  obtain ⟨j, hj, rfl⟩ := rd
  have jb := hN j hj
  obtain ⟨H1, m1, s1, f1⟩ := f m H' e' k'
  have r1 := f1 G σ ss (eg.trans (hd_mv sY e')) (fun _ _ => rfl) (S.mono (hd_mv sY e'))
  refine ⟨(j : Int), by rw [dp_int hx], by omega, by omega, fun i t σ' H' => t = j - i ∧ i ≤ j ∧ ∃ H2 es', Mv s H0 H2 ∧ Sk (m + i * q) H2 s ∧ Inv i es' ∧ Rep K X H2 G ss (some (c, es')) σ' H', ⟨j, rfl, Nat.zero_le _, H1, es, m1, by simpa using s1, h0, r1⟩, ?_⟩
  rintro i t σ2 H2 ⟨rfl, hle, H3, es', m3, k3, inv, r3⟩
  by_cases lt : i < j
  · refine .inr ⟨by show i < (j : Int).toNat; omega, fun σ H => ∃ H2 es', Mv s H0 H2 ∧ Sk (m + (i + 1) * q) H2 s ∧ Inv (i + 1) es' ∧ Rep K X H2 G ss (some (c, es')) σ H, fun σ' H' p => ⟨_, by omega, rfl, by omega, p⟩, fun x H4 y => ?_⟩
    obtain ⟨rfl, rfl⟩ := y
    refine hb j hj i lt es' inv H3 m3 k3 { D with nx := fun σ H => ∃ H2 es', Mv s H0 H2 ∧ Sk (m + (i + 1) * q) H2 s ∧ Inv (i + 1) es' ∧ Rep K X H2 G ss (some (c, es')) σ H, ct := fun σ H => ∃ H2 es', Mv s H0 H2 ∧ Sk (m + (i + 1) * q) H2 s ∧ Inv (i + 1) es' ∧ Rep K X H2 G ss (some (c, es')) σ H, bk := tz D } rfl rfl _ _ ?_
    obtain ⟨O3, e3, l, xs, hl, hσ, hx3, eg3, ha, S3⟩ := r3
    refine ⟨O3, e3, l, xs, hl, ?_, hx3, eg3, ha, S3.set v (.int _)⟩
    rw [List.getElem?_set_ne (fun z => apart_ne hv (c, es) rfl z)]
    exact hσ
  · have ej : i = j := by omega
    subst ej
    exact .inl ⟨by show (i : Int).toNat ≤ i; omega, hd i hj es' inv H3 m3 k3 _ _ r3⟩
theorem w_ex {ss' : SD} {q : Nat} {c : Nat} {i : Nat} {Inv : Nat → List PyData → Prop} {es : List PyData} {D' : Ends} {H1 : Hp} (hn : D'.nx = (fun σ H => ∃ H2 es', Mv s H0 H2 ∧ Sk (m + (i + 1) * q) H2 s ∧ Inv (i + 1) es' ∧ Rep K X H2 G ss (some (c, es')) σ H)) (h1 : Mv s H0 H1) (h2 : Sk (m + (i + 1) * q) H1 s) (h3 : Inv (i + 1) es) (l : LeD ss ss') : Wp K X H1 G D'.nx ss' (some (c, es)) := fun σ H r => by
  rw [hn]
  exact ⟨H1, es, h1, h2, h3, w_done (Ex.refl _) l σ H r⟩
end
section
variable {P : Program} {w : World} {K : PySem.W.Frag} {mg : Str → Option Value} {base : Heap}
theorem calM {x : Str} {st : Stmt} {f : Addr} {fd : FuncData} {N ps : List Str} {k m : Nat} {φ : List PyData → PyData → Prop} (F : Dfn K mg x st f fd ps) (S : FnScope N ps (defScope st)) (len : ∀ ds r, φ ds r → ds.length + 1 = ps.length)
    (hbody : ∀ (cdv : Value) (A : Around) (outer : List Env) (s : Shared) (H : Hp) (E : XK), Room k (A.deeper (envOfC x (defScope st) s.heap.objs.size f cdv)) →
      ∃ t, PSs (cxOf L2.CX0 P w K mg base N x (defScope st) f cdv A outer s H E).nox (defBody st) t ∧ ∀ (s : Addr) (n : Nat) (X : List Addr) (ds : List PyData) (D : Ends), n + m ≤ 1000 → s ∈ X → Sk n H s → (∃ r, φ ds r) → (∀ v H' r, φ ds r → Mv s H H' → Sk (n + m) H' s → Dq K (Hd X H') v r → D.rt v H') →
        Wp K X H h00 (t D) ((adrD s :: ds).map some ++ List.replicate (N.length - (adrD s :: ds).length) none) none) : Cal P w K mg base (k + 1) x ps (spM K m φ) := by
  refine ⟨f, fd, F.fn.ok S (fun vs H Q E h => ?_) (fun cdv A outer s H vs Q E hr h => ?_), F.mgf, F.fn.kp, F.bi, st, F.fn⟩
  · obtain ⟨s, n, X, ds, _, _, O, _, ha, ⟨r, hp⟩, _⟩ := h
    rw [dpa_len ha]
    exact len ds r hp
  · obtain ⟨a, n, X, ds, hn, hX, O, hk, ha, he, q⟩ := h
    obtain ⟨t, d, hw⟩ := hbody cdv A outer s H E hr
    exact ⟨t, d, hw a n X ds _ hn hX hk he (fun v H' r hp e k' hv => q v H' r hp e k' hv) _ _ (rep_start O ha)⟩
end
end Wk
end
section
set_option Elab.async false
set_option linter.all false
set_option maxRecDepth 100000
namespace Wk
open PySem PySem.Spec PyProof.Rows L2 Evl

/-- what stands at j in a sack -/
def ItR (n : Nat) : Nat → Int → Prop
  | 0, z => 0 ≤ z
  | 1, z => 0 ≤ z ∧ z < 2147483543
  | _, z => 0 ≤ z ∧ z ≤ n
theorem bz33 {z : Int} (h : 0 ≤ z ∧ z ≤ 4294967296) : Bz 40 z := by
  show z.natAbs < 2 ^ 40
  have e : (2 : Nat) ^ 40 = 1099511627776 := by decide
  omega
section
variable {K : PySem.W.Frag} {s : Addr} {n m k : Nat} {ss : SD} {te ta tb : TE} {A B : Int → Prop}
theorem em_up (h : EvM K s n m te ss R) (l : m ≤ k) : EvM K s n k te ss R := fun X σ H hs O hk S Q q => h X σ H hs O hk S Q fun v H' d e k' rd hv => q v H' d e (k'.le l) rd hv
theorem em_it {j : Nat} (h0 : ss[0]? = some (some (adrD s))) (hj : j < 3) : EvM K s n n (tOp (rIxL K) (tVar 0) (tC (.int (j : Int)))) ss (IntR (ItR n j)) := fun X σ H hs O hk S Q q => by
  obtain ⟨v, e0, hv⟩ := S.var h0
  obtain ⟨a, b, c, e, a0, b0, b1, c0, c1⟩ := id hk
  refine ⟨v, e0, s, [.int a, .int b, .int c], (j : Int), ?_⟩
  match j, hj with
  | 0, _ => exact ⟨.int a, dp_adr hv, rfl, sq_of e, rfl, q _ H _ Mv.refl hk ⟨a, a0, rfl⟩ (.int _)⟩
  | 1, _ => exact ⟨.int b, dp_adr hv, rfl, sq_of e, rfl, q _ H _ Mv.refl hk ⟨b, ⟨b0, b1⟩, rfl⟩ (.int _)⟩
  | 2, _ => exact ⟨.int c, dp_adr hv, rfl, sq_of e, rfl, q _ H _ Mv.refl hk ⟨c, ⟨c0, c1⟩, rfl⟩ (.int _)⟩
theorem em_I {C : Int → Int → Prop} {g : Int → Int → Int} (hc : ∀ i j, A i → B j → C i j) (ha : EvM K s n m ta ss (IntR A)) (hb : EvM K s m k tb ss (IntR B)) : EvM K s n k (tOp (rI C fun i j => .int (g i j)) ta tb) ss (IntR fun z => ∃ i j, A i ∧ B j ∧ z = g i j) := fun X σ H hs O hk S Q q =>
  ha X σ H hs O hk S _ fun x H1 d1 e1 k1 r1 h1 => hb X σ H1 hs (own_mv O e1 k1) k1 (S.mono (hd_mv hs e1)) _ fun y H2 d2 e2 k2 r2 h2 => by
    obtain ⟨i, ai, rfl⟩ := r1
    obtain ⟨j, bj, rfl⟩ := r2
    exact ⟨i, j, dp_int h1, dp_int h2, hc i j ai bj, q _ H2 _ (e1.trans e2) k2 ⟨_, ⟨i, j, ai, bj, rfl⟩, rfl⟩ (.int _)⟩
theorem em_bl {g : Int → Int → Bool} (ha : EvM K s n m ta ss (IntR A)) (hb : EvM K s m k tb ss (IntR B)) : EvM K s n k (tOp (rI0 fun i j => .bl (g i j)) ta tb) ss (fun d => ∃ b, d = .bool b) := fun X σ H hs O hk S Q q =>
  ha X σ H hs O hk S _ fun x H1 d1 e1 k1 r1 h1 => hb X σ H1 hs (own_mv O e1 k1) k1 (S.mono (hd_mv hs e1)) _ fun y H2 d2 e2 k2 r2 h2 => by
    obtain ⟨i, ai, rfl⟩ := r1
    obtain ⟨j, bj, rfl⟩ := r2
    exact ⟨i, j, dp_int h1, dp_int h2, q _ H2 _ (e1.trans e2) k2 ⟨_, rfl⟩ (.bl _)⟩
theorem em_int1 (ha : EvM K s n m ta ss (IntR A)) : EvM K s n m (tCB (fun xs H Q => (∃ i, xs = [.int i] ∧ Q (.int i) H) ∨ ∃ k, xs = [.bl k] ∧ Q (.int (if k then 1 else 0)) H) (tCons ta tNil)) ss (IntR A) := fun X σ H hs O hk S Q q =>
  ha X σ H hs O hk S _ fun x H1 d1 e1 k1 r1 h1 => by
    obtain ⟨i, ai, rfl⟩ := r1
    exact .inl ⟨i, by rw [dp_int h1], q _ H1 _ e1 k1 ⟨i, ai, rfl⟩ (.int _)⟩
theorem em_int {i : Int} : EvM K s n n (tC (.int i)) ss (IntR fun z => z = i) := em_of ed_int ⟨i, rfl, rfl⟩
theorem em_varI {i : Nat} {z : Int} (h : ss[i]? = some (some (.int z))) : EvM K s n n (tVar i) ss (IntR fun y => y = z) := em_of (ed_var h) ⟨z, rfl, rfl⟩
theorem em_to {A' : Int → Prop} (h : EvM K s n m te ss (IntR A)) (i : ∀ z, A z → A' z) : EvM K s n m te ss (IntR A') := em_is h fun d => fun ⟨z, a, e⟩ => ⟨z, i z a, e⟩
end
section
variable {K : PySem.W.Frag} {s : Addr} {n m : Nat} {X : List Addr} {H0 G : Hp} {ss : SD} {mu : Mu} {te : TE} {g : TG} {tu tz tq : TS} {D : Ends} {A : Int → Prop}
theorem m_if (hs : s ∈ X) (hk : Sk n H0 s) (he : EvM K s n m te ss (fun d => ∃ b, d = .bool b)) (h1 : ∀ H1, Mv s H0 H1 → Sk m H1 s → Wp K X H1 G (tu { D with nx := tz D }) ss mu) (h2 : ∀ H1, Mv s H0 H1 → Sk m H1 s → Wp K X H1 G (tz D) ss mu) : Wp K X H0 G (tSeq (tIfS (tTest te) tu tNext) tz D) ss mu := fun σ H r => by
  obtain ⟨Y, sY, O, S, kH, eg, f⟩ := rep_mv hs hk r
  refine he Y σ H sY O kH S _ fun v H' d e' k' rd hv => ?_
  obtain ⟨b, rfl⟩ := rd
  obtain ⟨H1, m1, s1, f1⟩ := f m H' e' k'
  have r1 := f1 G σ ss (eg.trans (hd_mv sY e')) (fun _ _ => rfl) (S.mono (hd_mv sY e'))
  refine ⟨b, dp_bl hv, ?_⟩
  cases b with
  | true => exact h1 H1 m1 s1 σ H' r1
  | false => exact h2 H1 m1 s1 σ H' r1
theorem m_set {j : Nat} (hs : s ∈ X) (hk : Sk n H0 s) (h0 : ss[0]? = some (some (adrD s))) (hj : j < 3) (he : EvM K s n m te ss (IntR A)) (hA : ∀ z, A z → ItR m j z) (k : ∀ H1, Mv s H0 H1 → Sk m H1 s → Wp K X H1 G (tz D) ss none) : Wp K X H0 G (tSeq (tAsg te (gSub (tVar 0) (tC (.int (j : Int))) rSetL)) tz D) ss none := fun σ H r => by
  obtain ⟨Y, sY, O, S, kH, eg, f⟩ := rep_mv hs hk r
  refine he Y σ H sY O kH S _ fun v H' d e' k' rd hv => ?_
  obtain ⟨z, az, rfl⟩ := rd
  have az := hA z az
  rw [dp_int hv]
  obtain ⟨v0, e0, hv0⟩ := S.var h0
  obtain ⟨a, b, c, e, a0, b0, b1, c0, c1⟩ := id k'
  have fin : ∀ xs : List V, Sk m (upd H' s (.lst xs)) s → k = k → (tz D) σ (upd H' s (.lst xs)) := fun xs sk _ => by
    obtain ⟨H1, m1, s1, f1⟩ := f m _ (e'.upd (o := .lst xs)) sk
    exact k H1 m1 s1 _ _ (f1 G σ ss (eg.trans (hd_mv sY e'.upd)) (fun _ _ => rfl) (S.mono (hd_mv sY e'.upd)))
  refine ⟨v0, e0, s, [.int a, .int b, .int c], (j : Int), j, dp_adr hv0, rfl, e, ?_, ?_⟩
  · exact ixN_nat hj
  · match j, hj with
    | 0, _ => exact fin _ ⟨z, b, c, upd_same, az, b0, b1, c0, c1⟩ rfl
    | 1, _ => exact fin _ ⟨a, z, c, upd_same, a0, az.1, az.2, c0, c1⟩ rfl
    | 2, _ => exact fin _ ⟨a, b, z, upd_same, a0, b0, b1, az.1, az.2⟩ rfl
end
theorem divp_small {i j : Int} (h0 : 0 < j) (h1 : j ≤ 1000) : CDivP i j := by
  refine ⟨h0, ?_⟩
  unfold Builtin.divisionGoesByPylong
  have e : ¬ (j == 0) = true := by simp; omega
  have l : j.natAbs.log2 ≤ 9 := by
    have : j.natAbs.log2 < 10 := (Nat.log2_lt (by omega)).mpr (by have : (2 : Nat) ^ 10 = 1024 := by decide
                                                                  omega)
    omega
  simp only [e, Bool.false_eq_true, if_false]
  have : ¬ (j.natAbs.log2 / 30 + 1 > 300) := by omega
  simp [this]
section
variable {P : Program} {w : World} {K : PySem.W.Frag} {mg : Str → Option Value} {base : Heap}
/-! ### _law_draw -/
def f__law_draw : List PyData → PyData → Prop := fun ds r => ∃ k d : Int, 0 < k ∧ k ≤ 1000 ∧ 0 ≤ d ∧ d < k ∧ ds = [.int k] ∧ r = .int d
theorem m_dm {s : Addr} {n : Nat} {X : List Addr} {H0 G : Hp} {k : Int} {tz : TS} {D : Ends} (hs : s ∈ X) (hk : Sk n H0 s) (h0 : 0 < k) (h1 : k ≤ 1000) (kk : ∀ d, 0 ≤ d → d < k → ∀ H1, Mv s H0 H1 → Sk n H1 s → Wp K X H1 G (tz D) [some (adrD s), some (.int k), some (.int d), none] none) :
    Wp K X H0 G (tSeq (tAsg (tCB (fun xs H Q => ∃ i j, xs = [.int i, .int j] ∧ CDivP i j ∧ ∀ p, H p = none → Q (.ref p) (upd H p (.tup [.int (i / j), .int (i % j)]))) (tCons (tOp (rIxL K) (tVar 0) (tC (.int 0))) (tCons (tVar 1) tNil))) (gTup K 2 (gCons (gSub (tVar 0) (tC (.int 0)) rSetL) (gCons (gName 2) gNil)))) tz D) [some (adrD s), some (.int k), none, none] none := fun σ H r => by
  obtain ⟨Y, sY, O, S, kH, eg, f⟩ := rep_mv hs hk r
  obtain ⟨v0, e0, hv0⟩ := S.var (i := 0) rfl
  obtain ⟨v1, e1, hv1⟩ := S.var (i := 1) rfl
  obtain ⟨a, b, c, e, a0, b0, b1, c0, c1⟩ := id kH
  rw [dp_adr hv0] at e0
  rw [dp_int hv1] at e1
  refine ⟨.ref s, e0, s, [.int a, .int b, .int c], 0, .int a, rfl, rfl, sq_of e, rfl, .int k, e1, a, k, rfl, divp_small h0 h1, fun p hp => ?_⟩
  have ps : p ≠ s := fun z => by
    rw [z, e] at hp
    cases hp
  have d0 := Int.emod_nonneg a (show k ≠ 0 by omega)
  have d1 := Int.emod_lt_of_pos a h0
  have mv : Mv s H (upd (upd H p (.tup [.int (a / k), .int (a % k)])) s (.lst [.int (a / k), .int b, .int c])) := (Mv.of (Ex.new hp)).upd
  have sk : Sk n (upd (upd H p (.tup [.int (a / k), .int (a % k)])) s (.lst [.int (a / k), .int b, .int c])) s := ⟨a / k, b, c, upd_same, Int.ediv_nonneg a0 (by omega), b0, b1, c0, c1⟩
  obtain ⟨H1, m1, s1, f1⟩ := f n _ mv sk
  refine ⟨p, [.int (a / k), .int (a % k)], rfl, .inl (.inl upd_same), rfl, .int (a / k), [.int (a % k)], rfl, .ref s, e0, s, [.int a, .int b, .int c], 0, 0, rfl, rfl, ?_, rfl, .int (a % k), [], rfl, rfl, ?_⟩
  · rw [upd_ne (fun z => ps z.symm)]
    exact e
  · exact kk (a % k) d0 d1 H1 m1 s1 _ _ (f1 G _ _ (eg.trans (hd_mv sY mv)) (fun _ h => by cases h) ((S.mono (hd_mv sY mv)).set 2 (.int (a % k))))
abbrev s__law_draw : Stmt := topL 41
theorem sc__law_draw : FnScope ["_law_sack_here", "_law_size", "_law_digit", "_law_blend"] ["_law_sack_here", "_law_size"] (defScope s__law_draw) := ⟨rfl, rfl, rfl, by decide +kernel, rfl, by decide +kernel, by decide +kernel⟩
theorem ok__law_draw {f : Addr} {fd : FuncData} (F : Dfn K mg "_law_draw" s__law_draw f fd ["_law_sack_here", "_law_size"]) (B : Bt mg) : Cal P w K mg base 1 "_law_draw" ["_law_sack_here", "_law_size"] (spM K 1 f__law_draw) := by
  refine calM F sc__law_draw (fun ds r h => ?_) fun cdv A outer s H E hr => ⟨_, (pss_cons (ps_if (pt_cmpR op_gt (pe_ix ix_list (pv 0) pe_int (fun _ _ => rfl)) pe_int (nomark _))
     (pss_cons (ps_asg (pe_callB call_divmodW (by rfl) B.m_divmod PyProof.Rows.boot_divmod (pa_cons (pe_ix ix_list (pv 0) pe_int (fun _ _ => rfl)) (pa_cons (pv 1) pa_nil))) (pg_tup rfl (pgs_cons (pg_sub (pv 0) pe_int set_list) (pgs_cons (pg_name (i := 2) sc__law_draw.nd rfl (Or.inl rfl) (Or.inl rfl)) pgs_nil))))
     (pss_one (ps_ret (pv 2))))
     pss_nil)
     (pss_cons (ps_asg (pe_op op_add (pe_ix ix_list (pv 0) pe_int (fun _ _ => rfl)) pe_int) (pg_sub (pv 0) pe_int set_list))
     (pss_cons (ps_set (i := 3) sc__law_draw.nd rfl (Or.inl rfl) (pe_op op_mod (pe_callTy call_int1 (by rfl) B.m_int PySem.Pv.boot_int (pa_cons (pe_op op_add (pe_op op_mulW (pe_ix ix_list (pv 0) pe_int (fun _ _ => rfl)) pe_int) (pe_op op_mulW (pe_ix ix_list (pv 0) pe_int (fun _ _ => rfl)) pe_int)) pa_nil)) pe_int))
     (pss_cons (ps_asg (pe_op op_mod (pe_callTy call_int1 (by rfl) B.m_int PySem.Pv.boot_int (pa_cons (pe_op op_add (pe_op op_mulW (pv 3) (pe_op op_add (pe_op op_mod (pe_callTy call_int1 (by rfl) B.m_int PySem.Pv.boot_int (pa_cons (pe_op op_fdivW (pv 3) pe_int) pa_nil)) pe_int) pe_int)) pe_int) pa_nil)) pe_int) (pg_sub (pv 0) pe_int set_list))
     (pss_one (ps_ret (pe_op op_mod (pe_callTy call_int1 (by rfl) B.m_int PySem.Pv.boot_int (pa_cons (pe_op op_fdivW (pe_ix ix_list (pv 0) pe_int (fun _ _ => rfl)) pe_int) pa_nil)) (pv 1)))))))), fun a n X ds D hn hX hk he hQ => ?_⟩
  · obtain ⟨k, d, _, _, _, _, rfl, _⟩ := h
    rfl
  · obtain ⟨r, k, d0, k0, k1, _, _, rfl, _⟩ := he
    have end1 : ∀ d, 0 ≤ d → d < k → f__law_draw [.int k] (.int d) := fun d p q => ⟨k, d, k0, k1, p, q, rfl, rfl⟩
    refine m_if hX hk (em_bl (em_it (j := 0) rfl (by decide)) em_int) (fun H1 m1 s1 => ?_) (fun H1 m1 s1 => ?_)
    · refine m_dm hX s1 k0 k1 fun d p q H2 m2 s2 => ?_
      exact m_ret (R := fun e => e = .int d) hX s2 (em_of (ed_var rfl) rfl) fun v H' e re e3 k3 hv => hQ v H' e (by rw [re]; exact end1 d p q) ((m1.trans m2).trans e3) (k3.le (by omega)) hv
    · refine m_set (j := 2) (m := n + 1) hX s1 rfl (by decide) (em_up (em_I0 (em_it (j := 2) rfl (by decide)) em_int) (Nat.le_succ n)) (fun z hz => ?_) fun H2 m2 s2 => ?_
      · obtain ⟨i, j, ⟨q1, q2⟩, rfl, rfl⟩ := hz
        exact ⟨by omega, by omega⟩
      · refine m_tgt hX s2 (em_to (A' := fun z => 0 ≤ z ∧ z < 2147483543) (em_I (C := fun _ j => 0 < j) (g := fun i j => i % j) (fun i j _ h => by rw [h]; decide) (em_int1 (em_I0 (em_I (C := CMulW) (g := fun i j => i * j) (fun i j hi hj => ?_) (em_it (j := 1) rfl (by decide)) em_int) (em_I (C := CMulW) (g := fun i j => i * j) (fun i j hi hj => ?_) (em_it (j := 2) rfl (by decide)) em_int))) em_int) (fun z hz => ?_)) fun d hd => ?_
        · rw [hj]
          exact cmw (bz33 ⟨hi.1, by have := hi.2; omega⟩) (bg_of (z := 16807) ⟨by decide, by decide⟩)
        · rw [hj]
          exact cmw (bz33 ⟨hi.1, by have := hi.2; omega⟩) (bg_of (z := 48611) ⟨by decide, by decide⟩)
        · obtain ⟨i, j, _, rfl, rfl⟩ := hz
          exact ⟨Int.emod_nonneg _ (by decide), Int.emod_lt_of_pos _ (by decide)⟩
        · obtain ⟨z, ⟨z0, z1⟩, rfl⟩ := hd
          refine ⟨[(3, .int z)], tg_name, rfl, fun H3 m3 s3 => ?_⟩
          refine m_set (j := 1) (m := n + 1) hX s3 rfl (by decide) (A := fun y => ∃ i : Int, y = i % 2147483543) (em_of (ed_mod (by decide) (ed_int1 (ed_add (ed_mul ?_ (ed_var rfl) (ed_add (ed_mod (by decide) (ed_int1 (ed_fdiv ⟨by decide, by decide⟩ (ed_var rfl) ed_int)) ed_int) ed_int)) ed_int)) ed_int) ⟨_, ⟨_, rfl⟩, rfl⟩) (fun y hy => ?_) fun H4 m4 s4 => ?_
          · have q0 := Int.emod_nonneg (z / 11) (show (3001 : Int) ≠ 0 by decide)
            have q1 := Int.emod_lt_of_pos (z / 11) (show (0 : Int) < 3001 by decide)
            exact cmw (bz33 ⟨z0, by omega⟩) (bg_of ⟨by omega, by omega⟩)
          · obtain ⟨i, rfl⟩ := hy
            exact ⟨Int.emod_nonneg _ (by decide), Int.emod_lt_of_pos _ (by decide)⟩
          · refine m_ret (m := n + 1) hX s4 (em_to (A' := fun z => 0 ≤ z ∧ z < k) (em_I (C := fun _ j => 0 < j) (g := fun i j => i % j) (fun i j _ h => by rw [h]; exact k0) (em_int1 (em_I (C := CDivW) (g := fun i j => i / j) (fun i j _ h => by rw [h]; exact ⟨by decide, by decide⟩) (em_it (j := 1) rfl (by decide)) em_int)) (em_varI (z := k) rfl)) (fun z hz => ?_)) fun v H' e re e3 k3 hv => ?_
            · obtain ⟨i, j, _, rfl, rfl⟩ := hz
              exact ⟨Int.emod_nonneg _ (by omega), Int.emod_lt_of_pos _ k0⟩
            · obtain ⟨y, ⟨y0, y1⟩, rfl⟩ := re
              exact hQ v H' _ (end1 y y0 y1) ((((m1.trans m2).trans m3).trans m4).trans e3) k3 hv
end
end Wk
end
section
set_option Elab.async false
set_option linter.all false
set_option maxRecDepth 100000
namespace Wk
open PySem PySem.Spec PyProof.Rows L2 Evl

section
variable {K : PySem.W.Frag} {s : Addr} {n m k : Nat} {ss : SD} {te ta tb tn : TE} {A B : Int → Prop}
theorem u_draw {t : TE} {E : XK} {z : Int} (h0 : ss[0]? = some (some (adrD s))) (hb : EvD K t ss (.int z)) (z0 : 0 < z) (z1 : z ≤ 1000) (hn : n + 1 ≤ 1000) (hm : n + 1 = m := by rfl) : EvM K s n m (tCall (spM K 1 f__law_draw) [] E (tCons (tVar 0) (tCons t tNil))) ss (IntR fun y => 0 ≤ y ∧ y < z) :=
  em_is (em_call (k := 1) (ds := [.int z]) (ea_cons (ed_var h0) (ea_cons hb ea_nil)) hn ⟨.int 0, z, 0, z0, z1, Int.le_refl _, z0, rfl, rfl⟩ hm) fun d => fun ⟨k', y, a, b, c, e, q, r⟩ => by
    cases q
    exact ⟨y, ⟨c, e⟩, r⟩
/-- a draw, moved -/
theorem u_drawS {t : TE} {E : XK} {z c : Int} (h0 : ss[0]? = some (some (adrD s))) (hb : EvD K t ss (.int z)) (z0 : 0 < z) (z1 : z ≤ 1000) (hn : n + 1 ≤ 1000) (hm : n + 1 = m := by rfl) : EvM K s n m (tOp (rI0 fun i j => .int (i - j)) (tCall (spM K 1 f__law_draw) [] E (tCons (tVar 0) (tCons t tNil))) (tC (.int c))) ss (IntR fun y => 0 - c ≤ y ∧ y < z - c) :=
  em_to (em_I0 (u_draw h0 hb z0 z1 hn hm) em_int) fun y => fun ⟨i, j, a, b, e⟩ => by omega
theorem em_ixT {zs : List PyData} {R : PyData → Prop} (ha : EvD K ta ss (.tuple zs)) (hb : EvM K s n m tb ss (IntR A)) (h : ∀ i, A i → ∃ d, atI zs i = some d ∧ R d) : EvM K s n m (tOp (rIxT K) ta tb) ss R := fun X σ H hs O hk S Q q =>
  ha X σ H O S _ fun x H1 e1 h1 => hb X σ H1 hs (O.mono e1) (hk.ex e1) (S.mono (hd_mono e1)) _ fun y H2 d2 e2 k2 r2 h2 => by
    obtain ⟨i, ai, rfl⟩ := r2
    obtain ⟨d, hd, rd⟩ := h i ai
    have h1' := dp_mono (hd_mv hs e2) _ _ h1
    obtain ⟨a, xs, rfl, hs', hl⟩ := dp_tup h1'
    obtain ⟨v, e3, hv⟩ := dpa_at hl hd
    exact ⟨a, xs, i, v, rfl, dp_int h2, ex_t hd_le hs', e3, q v H2 d ((Mv.of e1).trans e2) k2 rd hv⟩
end
section
variable {K : PySem.W.Frag} {s : Addr} {n m k : Nat} {X : List Addr} {H0 G : Hp} {ss : SD} {te ta tb tn : TE} {tz : TS} {D : Ends} {A B : Int → Prop} {d : PyData}
theorem ss_none {c : Nat} (hf : ss[c]? = some none) : ss.set c none = ss := by
  apply List.ext_getElem?
  intro i
  by_cases e : c = i
  · subst e
    rw [List.getElem?_set_self', hf]
    rfl
  · rw [List.getElem?_set_ne e]
theorem m_par3n {i j l : Nat} {es : List PyData} (hs : s ∈ X) (hk : Sk n H0 s) (ha : EvM K s n m ta ss (IntR A)) (hb : EvM K s m k tb ss (IntR B)) (he : EvN K tn ss es) (hl : ss[l]? = some none) (hil : l ≠ i) (hjl : l ≠ j) (kk : ∀ x y, A x → B y → ∀ H1, Mv s H0 H1 → Sk k H1 s → Wp K X H1 G (tz D) ((ss.set i (some (.int x))).set j (some (.int y))) (some (l, es))) :
    Wp K X H0 G (tSeq (tPar3 i j l (tCons ta (tCons tb (tCons tn tNil)))) tz D) ss none := fun σ H r => by
  obtain ⟨O, e0, eg, S⟩ := r
  have O1 := O.mono e0
  refine ha X σ H hs O1 (hk.ex e0) S _ fun v H1 d1 e1 k1 r1 h1 => ?_
  have O2 := own_mv O1 e1 k1
  refine hb X σ H1 hs O2 k1 (S.mono (hd_mv hs e1)) _ fun v2 H2 d2 e2 k2 r2 h2 => ?_
  have O3 := own_mv O2 e2 k2
  have S2 := (S.mono (hd_mv hs e1)).mono (hd_mv hs e2)
  refine he X σ H2 O3 S2 _ fun p xs H3 hp e3 hx hall => ?_
  obtain ⟨x, ax, rfl⟩ := r1
  obtain ⟨y, ay, rfl⟩ := r2
  rw [dp_int h1, dp_int h2]
  have lt : l < σ.length := by
    rw [S.1]
    exact (List.getElem?_eq_some_iff.mp hl).1
  have hN : Ex (Hd X H2) (Hd (p :: X) H3) := hd_new e3 hp
  refine ⟨_, _, _, rfl, kk x y ax ay H2 (((Mv.of e0).trans e1).trans e2) k2 _ _ ⟨O3, e3, p, xs, hp, ?_, hx, ((eg.trans (hd_mv hs e1)).trans (hd_mv hs e2)).trans hN, hall, ?_⟩⟩
  · simp [lt]
  · have S3 := (((S2.mono hN).set i (.int x)).set j (.int y)).unset (x := some (V.ref p)) l
    have e : (((ss.set i (some (.int x))).set j (some (.int y))).set l none) = (ss.set i (some (.int x))).set j (some (.int y)) := ss_none (by rw [List.getElem?_set_ne hjl.symm, List.getElem?_set_ne hil.symm]; exact hl)
    rw [e] at S3
    exact S3
theorem w_parN {i j : Nat} {es : List PyData} (ha : EvD K ta ss d) (he : EvN K tn ss es) (hl : ss[j]? = some none) (hij : j ≠ i) (kk : Wp K X H0 G (tz D) (ss.set i (some d)) (some (j, es))) :
    Wp K X H0 G (tSeq (tPar i j (tCons ta (tCons tn tNil))) tz D) ss none := fun σ H r => by
  obtain ⟨O, e0, eg, S⟩ := r
  have O1 := O.mono e0
  refine ha X σ H O1 S _ fun v H1 e1 h1 => ?_
  refine he X σ H1 (O1.mono e1) (S.mono (hd_mono e1)) _ fun p xs H3 hp e3 hx hall => ?_
  have lt : j < σ.length := by
    rw [S.1]
    exact (List.getElem?_eq_some_iff.mp hl).1
  have hN : Ex (Hd X H1) (Hd (p :: X) H3) := hd_new e3 hp
  refine ⟨_, _, rfl, kk _ _ ⟨O, (e0.trans e1).trans e3, p, xs, fresh_back (e0.trans e1) hp, ?_, hx, (eg.trans (hd_mono e1)).trans hN, hall, ?_⟩⟩
  · simp [lt]
  · have S3 := (((S.mono (hd_mono e1)).mono hN).set i (dp_mono hN _ _ h1)).unset (x := some (V.ref p)) j
    have e : ((ss.set i (some d)).set j none) = ss.set i (some d) := ss_none (by rw [List.getElem?_set_ne hij.symm]; exact hl)
    rw [e] at S3
    exact S3
end
theorem red_side {p : P3} (h : ¬ (p.1 = 0 ∧ p.2.1 = 0)) (ha : -3 ≤ p.1 ∧ p.1 ≤ 3) (hb : -3 ≤ p.2.1 ∧ p.2.1 ≤ 3) (hc : -1000 ≤ p.2.2 ∧ p.2.2 ≤ 1000) : 0 < Sh.g3 p ∧ Sh.g3 p ≤ 3 ∧ Bo (Sh.red p) ∧ Sh.g3 (Sh.red p) = 1 := by
  have hg : 0 < Sh.g3 p := by
    rw [Sh.g3_nat]
    have : 0 < Nat.gcd p.1.natAbs p.2.1.natAbs := by
      by_cases c : p.1 = 0
      · exact Nat.gcd_pos_of_pos_right _ (by omega)
      · exact Nat.gcd_pos_of_pos_left _ (by omega)
    have := Nat.gcd_pos_of_pos_left p.2.2.natAbs this
    omega
  obtain ⟨d1, d2, d3⟩ := Sh.g3_dvd p
  have e := Sh.red_mul (p := p)
  have e1 : Sh.g3 p * (Sh.red p).1 = p.1 := congrArg (fun z : P3 => z.1) e
  have e2 : Sh.g3 p * (Sh.red p).2.1 = p.2.1 := congrArg (fun z : P3 => z.2.1) e
  have e3 : Sh.g3 p * (Sh.red p).2.2 = p.2.2 := congrArg (fun z : P3 => z.2.2) e
  have eg : Sh.g3 (Sh.red p) = 1 := by
    have h1 := Sh.g3_smul hg (Sh.red p)
    rw [e] at h1
    have h2 : Sh.g3 p * (Sh.g3 (Sh.red p) - 1) = 0 := by grind
    rcases Int.mul_eq_zero.mp h2 with z | z
    · omega
    · omega
  have sm : ∀ {N x y : Int}, -N ≤ x ∧ x ≤ N → Sh.g3 p * y = x → -N ≤ y ∧ y ≤ N := fun {N x y} b q => by
    refine ⟨Decidable.byContradiction fun c => ?_, Decidable.byContradiction fun c => ?_⟩
    · have : Sh.g3 p * y ≤ 1 * y := Int.mul_le_mul_of_nonpos_right (by omega) (by omega)
      omega
    · have : 1 * y ≤ Sh.g3 p * y := Int.mul_le_mul_of_nonneg_right (by omega) (by omega)
      omega
  have g3le : Sh.g3 p ≤ 3 := by
    by_cases c : p.1 = 0
    · have n0 : p.2.1 ≠ 0 := fun z => h ⟨c, z⟩
      have := Int.le_of_dvd (show (0 : Int) < (p.2.1.natAbs : Int) by omega) (Int.dvd_natAbs.mpr d2)
      omega
    · have := Int.le_of_dvd (show (0 : Int) < (p.1.natAbs : Int) by omega) (Int.dvd_natAbs.mpr d1)
      omega
  refine ⟨hg, g3le, ⟨fun z => h ⟨?_, ?_⟩, ⟨sm ha e1, sm hb e2⟩, ?_⟩, eg⟩
  · have : (Sh.red p).1 = 0 := congrArg (fun z : Int × Int => z.1) z
    rw [this, Int.mul_zero] at e1
    exact e1.symm
  · have : (Sh.red p).2.1 = 0 := congrArg (fun z : Int × Int => z.2) z
    rw [this, Int.mul_zero] at e2
    exact e2.symm
  · have := sm hc e3
    exact bg_of ⟨by omega, by omega⟩
section
variable {P : Program} {w : World} {K : PySem.W.Frag} {mg : Str → Option Value} {base : Heap}
/-! ### _law_one -/
def f__law_one : List PyData → PyData → Prop := fun ds r => ∃ (ns : List Int) (z : Int), ns.length ≤ 1000 ∧ z ∈ ns ∧ ds = [.tuple (dI ns)] ∧ r = .int z
abbrev s__law_one : Stmt := topL 42
theorem sc__law_one : FnScope ["_law_sack_here", "_law_some"] ["_law_sack_here", "_law_some"] (defScope s__law_one) := ⟨rfl, rfl, rfl, by decide +kernel, rfl, by decide +kernel, by decide +kernel⟩
theorem ok__law_one {f : Addr} {fd : FuncData} (F : Dfn K mg "_law_one" s__law_one f fd ["_law_sack_here", "_law_some"]) (B : Bt mg) (c__law_draw : Cal P w K mg base 1 "_law_draw" ["_law_sack_here", "_law_size"] (spM K 1 f__law_draw)) : Cal P w K mg base 2 "_law_one" ["_law_sack_here", "_law_some"] (spM K 1 f__law_one) := by
  refine calM F sc__law_one (fun ds r h => ?_) fun cdv A outer s H E hr => ⟨_, (pss_one (ps_ret (pe_ix ix_tup (pv 1) (pe_c c__law_draw hr (by decide) (by rfl) (pa_cons (pv 0) (pa_cons (pe_callB call_len_seq (by rfl) B.m_len PySem.boot_len (pa_cons (pv 1) pa_nil)) pa_nil))) (fun _ _ => rfl)))), fun a n X ds D hn hX hk he hQ => ?_⟩
  · obtain ⟨ns, z, _, _, rfl, _⟩ := h
    rfl
  · obtain ⟨r, ns, z0, hl, hz, rfl, _⟩ := he
    have ln : (dI ns).length = ns.length := List.length_map _
    have pos : 0 < ns.length := List.length_pos_of_mem hz
    refine m_ret (m := n + 1) hX hk (em_ixT (R := fun d => ∃ z ∈ ns, d = .int z) (zs := dI ns) (ed_var rfl) (u_draw rfl (ed_is (ed_len (.inr rfl) (ed_var rfl)) (by rw [ln])) (by omega) (by omega) hn) fun i hi => ?_) fun v H' d rd e3 k3 hv => ?_
    · obtain ⟨j, rfl⟩ : ∃ j : Nat, i = (j : Int) := ⟨i.toNat, by omega⟩
      have lt : j < ns.length := by omega
      exact ⟨.int ns[j], atI_nat (get_map PyData.int (List.getElem?_eq_getElem lt)), _, List.getElem_mem lt, rfl⟩
    · obtain ⟨z, hz, rfl⟩ := rd
      exact hQ v H' _ ⟨ns, z, hl, hz, rfl, rfl⟩ e3 k3 hv
/-! ### _law_side -/
def f__law_side : List PyData → PyData → Prop := fun ds r => ∃ t : P3, Bo t ∧ Sh.g3 t = 1 ∧ ds = [] ∧ r = dP3 t
abbrev s__law_side : Stmt := topL 54
theorem sc__law_side : FnScope ["_law_sack_here", "_law_a", "_law_b", "_law_h", "_law_fine"] ["_law_sack_here"] (defScope s__law_side) := ⟨rfl, rfl, rfl, by decide +kernel, rfl, by decide +kernel, by decide +kernel⟩
theorem ok__law_side {f : Addr} {fd : FuncData} (F : Dfn K mg "_law_side" s__law_side f fd ["_law_sack_here"]) (B : Bt mg) (c__law_draw : Cal P w K mg base 1 "_law_draw" ["_law_sack_here", "_law_size"] (spM K 1 f__law_draw)) (c__law_gcd : Cal P w K mg base 1 "_law_gcd" ["_law_one_here", "_law_two"] (spD K f__law_gcd)) : Cal P w K mg base 2 "_law_side" ["_law_sack_here"] (spM K 3 f__law_side) := by
  refine calM F sc__law_side (fun ds r h => ?_) fun cdv A outer s H E hr => ⟨_, (pss_cons (ps_par3 (i := 1) (j := 2) (l := 3) rfl sc__law_side.nd rfl rfl rfl (by decide) (by decide) (by decide) rfl rfl rfl (pa_cons (pe_op op_sub (pe_c c__law_draw hr (by decide) (by rfl) (pa_cons (pv 0) (pa_cons pe_int pa_nil))) pe_int) (pa_cons (pe_op op_sub (pe_c c__law_draw hr (by decide) (by rfl) (pa_cons (pv 0) (pa_cons pe_int pa_nil))) pe_int) (pa_cons (pe_op op_sub (pe_c c__law_draw hr (by decide) (by rfl) (pa_cons (pv 0) (pa_cons pe_int pa_nil))) pe_int) pa_nil))) (by rfl))
     (pss_cons (ps_set (i := 1) sc__law_side.nd rfl (Or.inl rfl) (pe_ifExp ((pw_or (pt_cmpR op_ne (pv 2) pe_int (nomark _)) (pw_or1 (pt_cmpR op_ne (pv 1) pe_int (nomark _))))).pt (pv 1) pe_int))
     (pss_cons (ps_set (i := 4) sc__law_side.nd rfl (Or.inl rfl) (pe_c c__law_gcd hr (by decide) (by rfl) (pa_cons (pe_c c__law_gcd hr (by decide) (by rfl) (pa_cons (pv 1) (pa_cons (pv 2) pa_nil))) (pa_cons (pv 3) pa_nil))))
     (pss_one (ps_ret (pe_tup (pa_cons (pe_op op_fdivW (pv 1) (pv 4)) (pa_cons (pe_op op_fdivW (pv 2) (pv 4)) (pa_cons (pe_op op_fdivW (pv 3) (pv 4)) pa_nil))))))))), fun a n X ds D hn hX hk he hQ => ?_⟩
  · obtain ⟨t, _, _, rfl, _⟩ := h
    rfl
  · obtain ⟨r, t, _, _, rfl, _⟩ := he
    refine m_par3 hX hk (am_cons (m := n + 1) (u_drawS rfl ed_int (by decide) (by decide) (by omega)) (am_cons (m := n + 2) (u_drawS rfl ed_int (by decide) (by decide) (by omega)) (am_cons (m := n + 3) (u_drawS rfl ed_int (by decide) (by decide) (by omega)) am_nil))) fun ds hds => ?_
    obtain ⟨_, _, ⟨x, bx, rfl⟩, ⟨_, _, ⟨y, by_, rfl⟩, ⟨_, _, ⟨h, bh, rfl⟩, rfl, rfl⟩, rfl⟩, rfl⟩ := hds
    refine ⟨_, _, _, rfl, fun H1 m1 s1 => ?_⟩
    have xb : -3 ≤ x ∧ x ≤ 3 := by omega
    have yb : -3 ≤ y ∧ y ≤ 3 := by omega
    have hb : -9 ≤ h ∧ h ≤ 9 := by omega
    clear bx by_ bh
    refine s_asg (ed_ite (eb_or (eb_test (ed_neI (ed_var rfl) ed_int)) fun _ => eb_test (ed_neI (ed_var rfl) ed_int)) (fun _ => ed_var rfl) (fun _ => ed_int)) ?_
    obtain ⟨x', ex, xb', nz⟩ : ∃ x' : Int, (if (!decide (y = 0) || !decide (x = 0)) = true then PyData.int x else PyData.int 2) = .int x' ∧ (-3 ≤ x' ∧ x' ≤ 3) ∧ ¬ (x' = 0 ∧ y = 0) := by
      by_cases c : y = 0 ∧ x = 0
      · exact ⟨2, by simp [c.1, c.2], by decide, fun q => by omega⟩
      · refine ⟨x, if_pos ?_, xb, fun q => c ⟨q.2, q.1⟩⟩
        by_cases c2 : y = 0
        · have : ¬ x = 0 := fun q => c ⟨c2, q⟩
          simp [this]
        · simp [c2]
    rw [ex]
    obtain ⟨g0, g1, bo, gg⟩ := red_side (p := (x', y, h)) nz xb' yb ⟨by have := hb.1; show -1000 ≤ h; omega, by have := hb.2; show h ≤ 1000; omega⟩
    have e := g3_gI x' y h
    have cd : CDivW 0 (gI (gI x' y) h) := by
      rw [e]
      refine ⟨g0, ?_⟩
      have : (Sh.g3 (x', y, h)).natAbs.log2 < 2 := (Nat.log2_lt (by omega)).mpr (by omega)
      omega
    refine s_asg (u__law_gcd (u__law_gcd (ed_var rfl) (ed_var rfl)) (ed_var rfl)) (w_ret (d := dP3 (Sh.red (x', y, h))) (ed_is (ed_tup (ea_cons (ed_fdiv (i := x') cd (ed_var rfl) (ed_var rfl)) (ea_cons (ed_fdiv (i := y) cd (ed_var rfl) (ed_var rfl)) (ea_cons (ed_fdiv (i := h) cd (ed_var rfl) (ed_var rfl)) ea_nil))) (by show 3 ≤ 100000; decide)) ?_) fun v H' e3 hv => hQ v H' _ ⟨_, bo, gg, rfl, rfl⟩ (m1.trans (Mv.of e3)) (s1.ex e3) hv)
    rw [e]
    rfl
/-! ### _law_speeds -/
def f__law_speeds : List PyData → PyData → Prop := fun ds r => ∃ (S : List (Int × Int)) (u : Int), Dots S ∧ (1 ≤ u ∧ u ≤ 3) ∧ ds = [] ∧ r = .list [dL2 (rimOf S), .int u]
abbrev s__law_speeds : Stmt := topL 53
theorem sc__law_speeds : FnScope ["_law_sack_here", "_law_far", "_law_high", "_law_dots", "_law_turn"] ["_law_sack_here"] (defScope s__law_speeds) := ⟨rfl, rfl, rfl, by decide +kernel, rfl, by decide +kernel, by decide +kernel⟩
theorem ok__law_speeds {f : Addr} {fd : FuncData} (F : Dfn K mg "_law_speeds" s__law_speeds f fd ["_law_sack_here"]) (B : Bt mg) (c__law_draw : Cal P w K mg base 1 "_law_draw" ["_law_sack_here", "_law_size"] (spM K 1 f__law_draw)) (c__law_rim : Cal P w K mg base 3 "_law_rim" ["_law_dots"] (spD K f__law_rim)) : Cal P w K mg base 4 "_law_speeds" ["_law_sack_here"] (spM K 15 f__law_speeds) := by
  refine calM F sc__law_speeds (fun ds r h => ?_) fun cdv A outer s H E hr => ⟨_, (pss_cons (ps_par3 (i := 1) (j := 2) (l := 3) rfl sc__law_speeds.nd rfl rfl rfl (by decide) (by decide) (by decide) rfl rfl rfl (pa_cons (pe_op op_sub (pe_c c__law_draw hr (by decide) (by rfl) (pa_cons (pv 0) (pa_cons pe_int pa_nil))) pe_int) (pa_cons (pe_op op_sub (pe_c c__law_draw hr (by decide) (by rfl) (pa_cons (pv 0) (pa_cons pe_int pa_nil))) pe_int) (pa_cons (pe_lst pa_nil) pa_nil))) (by rfl))
     (pss_cons (ps_for PassesOwn.never rfl (pi_range1 (by rfl) B.m_range (pa_cons (pe_op op_add pe_int (pe_c c__law_draw hr (by decide) (by rfl) (pa_cons (pv 0) (pa_cons pe_int pa_nil)))) pa_nil)) (pg_name (i := 4) sc__law_speeds.nd rfl (Or.inl rfl) (Or.inl rfl))
     (pss_one (ps_expr (pe_bm PySem.F.plainAttrs_list PySem.F.slot_list_append PySem.F.type_list_append mt_append (pv 3) (pa_cons (pe_tup (pa_cons (pe_op op_sub (pe_op op_add (pv 1) (pe_c c__law_draw hr (by decide) (by rfl) (pa_cons (pv 0) (pa_cons pe_int pa_nil)))) pe_int) (pa_cons (pe_op op_sub (pe_op op_add (pv 2) (pe_c c__law_draw hr (by decide) (by rfl) (pa_cons (pv 0) (pa_cons pe_int pa_nil)))) pe_int) pa_nil))) pa_nil)))))
     (pss_one (ps_ret (pe_lst (pa_cons (pe_c c__law_rim hr (by decide) (by rfl) (pa_cons (pv 3) pa_nil)) (pa_cons (pe_op op_add pe_int (pe_c c__law_draw hr (by decide) (by rfl) (pa_cons (pv 0) (pa_cons pe_int pa_nil)))) pa_nil))))))), fun a n X ds D hn hX hk he hQ => ?_⟩
  · obtain ⟨S, u, _, _, rfl, _⟩ := h
    rfl
  · obtain ⟨r, _, _, _, _, rfl, _⟩ := he
    refine m_par3n (m := n + 1) (k := n + 2) hX hk (u_drawS rfl ed_int (by decide) (by decide) (by omega)) (u_drawS rfl ed_int (by decide) (by decide) (by omega)) (en_lst ea_nil (by show 0 ≤ 100000; decide)) rfl (by decide) (by decide) fun x y bx by_ H1 m1 s1 => ?_
    have xb : -3 ≤ x ∧ x ≤ 3 := by omega
    have yb : -3 ≤ y ∧ y ≤ 3 := by omega
    clear bx by_
    refine m_for (m := n + 3) (N := fun j => 1 ≤ j ∧ j ≤ 5) 2 (fun i es => ∃ S : List (Int × Int), es = S.map dP2 ∧ S.length = i ∧ ∀ z ∈ S, Sh.sm2 6 z) hX s1 (em_is (em_I0 em_int (u_draw rfl ed_int (by decide) (by decide) (by omega))) ?_) (fun j hj => by omega) rfl ⟨[], rfl, rfl, fun z hz => by cases hz⟩ (fun j hj i lt es inv H2 m2 s2 D' e1 e2 => ?_) (fun j hj es inv H2 m2 s2 => ?_)
    · rintro d ⟨z, ⟨i, j, rfl, ⟨j0, j1⟩, rfl⟩, rfl⟩
      exact ⟨(1 + j).toNat, ⟨by omega, by omega⟩, by rw [Int.toNat_of_nonneg (by omega)]⟩
    · obtain ⟨S, rfl, ls, sS⟩ := inv
      refine m_app (m := n + 3 + (i + 1) * 2) hX s2 (em_tup (am_cons (m := n + 3 + i * 2 + 1) (em_I0 (em_I0 (em_varI (z := x) rfl) (u_draw rfl ed_int (by decide) (by decide) (by omega))) em_int) (am_cons (em_I0 (em_I0 (em_varI (z := y) rfl) (u_draw rfl ed_int (by decide) (by decide) (by omega) (by omega))) em_int) am_nil)) ?_) (by rw [List.length_map]; omega) fun d hd H3 m3 s3 => ?_
      · rintro ds ⟨_, _, _, ⟨_, _, _, rfl, rfl⟩, rfl⟩
        show 2 ≤ 100000
        decide
      · obtain ⟨ds, ⟨_, _, ⟨a, ⟨a1, a2, ⟨a3, a4, rfl, a5, rfl⟩, rfl, rfl⟩, rfl⟩, ⟨_, _, ⟨b, ⟨b1, b2, ⟨b3, b4, rfl, b5, rfl⟩, rfl, rfl⟩, rfl⟩, rfl, rfl⟩, rfl⟩, rfl⟩ := hd
        refine w_ex (Inv := fun i es => ∃ S : List (Int × Int), es = S.map dP2 ∧ S.length = i ∧ ∀ z ∈ S, Sh.sm2 6 z) e2 (m2.trans m3) s3 ⟨S ++ [(a3 + a4 - 3, b3 + b4 - 3)], by rw [List.map_append]; rfl, by rw [List.length_append]; simp; omega, fun z hz => ?_⟩ (led_same (led_same (led_same (led_no (led_no led_nil)))))
        rcases List.mem_append.mp hz with q | q
        · exact sS z q
        · rw [List.mem_singleton.mp q]
          unfold Sh.sm2
          simp only
          omega
    · obtain ⟨S, rfl, ls, sS⟩ := inv
      have ne : S ≠ [] := fun q => by
        rw [q] at ls
        simp at ls
        omega
      have bS : Bg2 S := fun z hz => by
        obtain ⟨a, b⟩ := sS z hz
        exact ⟨bz_le (bg_of ⟨by omega, by omega⟩) (by decide), bz_le (bg_of ⟨by omega, by omega⟩) (by decide)⟩
      refine m_ret (m := n + 15) hX s2 (em_lst (am_cons (R := fun d => d = dL2 (rimOf S)) (em_of (u__law_rim (S := S) (ed_var rfl) bS ne (by omega)) rfl) (am_cons (m := n + 15) (em_up (em_I0 em_int (u_draw rfl ed_int (by decide) (by decide) (by omega))) (by omega)) am_nil)) ?_) fun v H' d rd e3 k3 hv => ?_
      · rintro ds ⟨_, _, _, ⟨_, _, _, rfl, rfl⟩, rfl⟩
        show 2 ≤ 100000
        decide
      · obtain ⟨ds, ⟨_, _, rfl, ⟨_, _, ⟨z, ⟨i, j', rfl, ⟨j0, j1⟩, rfl⟩, rfl⟩, rfl, rfl⟩, rfl⟩, rfl⟩ := rd
        exact hQ v H' _ ⟨S, 1 + j', ⟨ne, by omega, sS⟩, ⟨by omega, by omega⟩, rfl, rfl⟩ ((m1.trans m2).trans e3) k3 hv
end
end Wk
end
section
set_option Elab.async false
set_option linter.all false
set_option maxRecDepth 100000
namespace Wk
open PySem PySem.Spec PyProof.Rows L2 Evl

/-! ### a def that tells a new sack -/
def spN (K : PySem.W.Frag) (φ : List PyData → Prop) : Sp := fun vs H Q E => ∃ (X : List Addr) (ds : List PyData), Own X H ∧ DqAll K (Hd X H) vs ds ∧ φ ds ∧ ∀ p H', H p = none → Ex H H' → Sk 0 H' p → Q (.ref p) H'
section
variable {K : PySem.W.Frag} {X : List Addr} {H0 G : Hp} {ss : SD} {mu : Mu} {ta te : TE} {D : Ends}
theorem w_retN {es : List PyData} (he : EvN K te (vis ss mu) es) (k : ∀ p xs H', H0 p = none → Ex H0 H' → H' p = some (.lst xs) → DqAll K (Hd (p :: X) H') xs es → D.rt (.ref p) H') : Wp K X H0 G (tRet te D) ss mu := fun σ H r => by
  obtain ⟨vO, vS, _⟩ := r.vis
  exact he X σ H vO vS _ fun p xs H1 hp e1 hx ha => k p xs H1 (fresh_back r.2.1 hp) (r.2.1.trans e1) hx ha
theorem en_listOf {z : PyData} {ds : List PyData} (sq : Sq z ds) (ha : EvD K ta ss z) : EvN K (tCB (fun xs H Q => ∃ p ys, xs = [.ref p] ∧ (SqL K H p ys ∨ SqT K H p ys) ∧ ∀ l, H l = none → Q (.ref l) (upd H l (.lst ys))) (tCons ta tNil)) ss ds := fun X σ H O S Q q =>
  ha X σ H O S _ fun v H1 e1 hv => by
    rcases sq with rfl | rfl
    · obtain ⟨a, xs, rfl, hs, hx⟩ := dp_lst hv
      exact ⟨a, xs, rfl, .inl (sq_of (hd_le _ _ hs)), fun p hp => q p xs _ (fresh_back e1 hp) (e1.trans (Ex.new hp)) upd_same (dpAll_mono (hd_new (Ex.new hp) hp) _ _ hx)⟩
    · obtain ⟨a, xs, rfl, hs, hx⟩ := dp_tup hv
      exact ⟨a, xs, rfl, .inr (ex_t hd_le hs), fun p hp => q p xs _ (fresh_back e1 hp) (e1.trans (Ex.new hp)) upd_same (dpAll_mono (hd_new (Ex.new hp) hp) _ _ hx)⟩
end
section
variable {K : PySem.W.Frag} {ss : SD} {ta tb te : TE} {ns : List Int}
theorem dp_frz {H : Hp} {v : V} (h : Dq K H v (frzD ns)) : ∃ a, v = .ref a ∧ SqL K H a (ns.map V.int) := by
  cases h with
  | frz ns' q hs =>
    have e : ns.map PyData.int = ns'.map PyData.int := by
      have := congrArg (fun l : List (PyData × PyData) => match l with | [(_, .list x)] => x | _ => []) q
      exact this
    have e2 : ns = ns' := List.map_inj_right (fun a b h => by cases h; rfl) |>.mp e
    subst e2
    exact ⟨_, rfl, hs⟩
theorem ed_lenF (ha : EvD K ta ss (frzD ns)) : EvD K (tCB (fun xs H Q => ∃ p ys, xs = [.ref p] ∧ (SqL K H p ys ∨ SqT K H p ys) ∧ Q (.int ys.length) H) (tCons ta tNil)) ss (.int (ns.length : Int)) := fun X σ H O S Q q =>
  ha X σ H O S _ fun v H1 e1 hv => by
    obtain ⟨a, rfl, hs⟩ := dp_frz hv
    exact ⟨a, _, rfl, .inl (ex_l hd_le hs), q _ H1 e1 (by rw [List.length_map]; exact .int _)⟩
theorem ed_ixF {j : Nat} {z : Int} (he : ns[j]? = some z) (ha : EvD K ta ss (frzD ns)) (hb : EvD K tb ss (.int (j : Int))) : EvD K (tOp (rIxL K) ta tb) ss (.int z) :=
  ed_op2 ha hb fun X H x y Q O hx hy q => by
    obtain ⟨a, rfl, hs⟩ := dp_frz hx
    exact ⟨a, _, (j : Int), .int z, rfl, dp_int hy, ex_l hd_le hs, atI_nat (by rw [List.getElem?_map, he]; rfl), q _ H (Ex.refl H) (.int _)⟩
theorem en_slF {to tp : TO} {lo hi : Option Int} (h : EvD K te ss (frzD ns)) (h1 : EvO K to ss lo) (h2 : EvO K tp ss hi) : EvN K (tSl (rSlL K) te to tp) ss (cutP (dI ns) lo hi) := fun X σ H O S Q q =>
  h X σ H O S _ fun v H1 e1 hv => h1 X σ H1 (O.mono e1) (S.mono (hd_mono e1)) _ fun H2 e2 => h2 X σ H2 (O.mono (e1.trans e2)) (S.mono (hd_mono (e1.trans e2))) _ fun H3 e3 => by
    obtain ⟨a, rfl, hs⟩ := dp_frz hv
    refine ⟨a, _, rfl, ex_l e3 (ex_l e2 (ex_l hd_le hs)), fun p hp => q p _ _ (fresh_back ((e1.trans e2).trans e3) hp) (((e1.trans e2).trans e3).trans (Ex.new hp)) upd_same ?_⟩
    have hn : (ns.map V.int).length = (dI ns).length := by rw [List.length_map]; exact (List.length_map _).symm
    unfold cutV cutP
    rw [hn]
    exact dpa_take _ (dpa_drop _ (ints_dpa ns))
end
section
variable {P : Program} {w : World} {K : PySem.W.Frag} {mg : Str → Option Value} {base : Heap}
theorem calN {x : Str} {st : Stmt} {f : Addr} {fd : FuncData} {N ps : List Str} {k : Nat} {φ : List PyData → Prop} (F : Dfn K mg x st f fd ps) (S : FnScope N ps (defScope st)) (len : ∀ ds, φ ds → ds.length = ps.length)
    (hbody : ∀ (cdv : Value) (A : Around) (outer : List Env) (s : Shared) (H : Hp) (E : XK), Room k (A.deeper (envOfC x (defScope st) s.heap.objs.size f cdv)) →
      ∃ t, PSs (cxOf L2.CX0 P w K mg base N x (defScope st) f cdv A outer s H E).nox (defBody st) t ∧ ∀ (X : List Addr) (ds : List PyData) (D : Ends), φ ds → (∀ p H', H p = none → Ex H H' → Sk 0 H' p → D.rt (.ref p) H') →
        Wp K X H h00 (t D) (ds.map some ++ List.replicate (N.length - ds.length) none) none) : Cal P w K mg base (k + 1) x ps (spN K φ) := by
  refine ⟨f, fd, F.fn.ok S (fun vs H Q E h => ?_) (fun cdv A outer s H vs Q E hr h => ?_), F.mgf, F.fn.kp, F.bi, st, F.fn⟩
  · obtain ⟨X, ds, O, ha, hp, _⟩ := h
    rw [dpa_len ha]
    exact len ds hp
  · obtain ⟨X, ds, O, ha, hp, q⟩ := h
    obtain ⟨t, d, hw⟩ := hbody cdv A outer s H E hr
    exact ⟨t, d, hw X ds _ hp (fun p H' h1 e k' => q p H' h1 e k') _ _ (rep_start O ha)⟩
/-! ### _law_sack -/
def f__law_sack : List PyData → Prop := fun ds => ∃ (ns : List Int) (j : Nat), ns.length ≤ 1000 ∧ j ≤ 1000 ∧ ds = [frzD ns, .int (j : Int)]
def mapI : List Int → Int → Int
  | [], t => t
  | z :: zs, t => mapI zs ((t * 69069 + z % 2147483543 + 13) % 2147483543)
abbrev s__law_sack : Stmt := topL 40
theorem sc__law_sack : FnScope ["_law_script", "_law_turn", "_law_cell", "_law_stir", "_law_each"] ["_law_script", "_law_turn"] (defScope s__law_sack) := ⟨rfl, rfl, rfl, by decide +kernel, rfl, by decide +kernel, by decide +kernel⟩
theorem ok__law_sack {f : Addr} {fd : FuncData} (F : Dfn K mg "_law_sack" s__law_sack f fd ["_law_script", "_law_turn"]) (B : Bt mg) : Cal P w K mg base 1 "_law_sack" ["_law_script", "_law_turn"] (spN K f__law_sack) := by
  refine calN F sc__law_sack (fun ds h => ?_) fun cdv A outer s H E hr => ⟨_, (pss_cons (ps_set (i := 2) sc__law_sack.nd rfl (Or.inl rfl) (pe_ifExp (pt_cmpR op_lt (pv 1) (pe_callB call_len_seq (by rfl) B.m_len PySem.boot_len (pa_cons (pv 0) pa_nil)) (nomark _)) (pe_callTy call_int1 (by rfl) B.m_int PySem.Pv.boot_int (pa_cons (pe_ix ix_list (pv 0) (pv 1) (fun _ _ => rfl)) pa_nil)) (pe_op op_add (pe_op op_mulW pe_int (pv 1)) pe_int)))
     (pss_cons (ps_set (i := 3) sc__law_sack.nd rfl (Or.inl rfl) (pe_op op_add pe_int (pe_op op_mulW pe_int (pv 1))))
     (pss_cons (ps_for PassesOwn.never rfl (pi_list (pe_op op_cat (pe_callTy call_list_of (by rfl) B.m_list PySem.Pv.boot_list (pa_cons (pe_slice sl_list (pv 0) po_none (po_some pe_int)) pa_nil)) (pe_lst (pa_cons (pv 2) pa_nil)))) (pg_name (i := 4) sc__law_sack.nd rfl (Or.inl rfl) (Or.inl rfl))
     (pss_one (ps_set (i := 3) sc__law_sack.nd rfl (Or.inl rfl) (pe_op op_mod (pe_callTy call_int1 (by rfl) B.m_int PySem.Pv.boot_int (pa_cons (pe_op op_add (pe_op op_add (pe_op op_mulW (pv 3) pe_int) (pe_op op_mod (pe_callTy call_int1 (by rfl) B.m_int PySem.Pv.boot_int (pa_cons (pv 4) pa_nil)) pe_int)) pe_int) pa_nil)) pe_int))))
     (pss_one (ps_ret (pe_lst (pa_cons (pe_ifExp ((pw_or (pt_cmpR op_lt (pv 2) pe_int (nomark _)) (pw_or1 (pt_cmpR op_ge (pv 2) (pe_op op_pow pe_int pe_int) (nomark _))))).pt (pe_callB call_abs (by rfl) B.m_abs PyProof.Rows.boot_abs (pa_cons (pv 2) pa_nil)) pe_int) (pa_cons (pv 3) (pa_cons pe_int pa_nil))))))))), fun X ds D hp hQ => ?_⟩
  · obtain ⟨ns, j, _, _, rfl⟩ := h
    rfl
  · obtain ⟨ns, j, hl, hj, rfl⟩ := hp
    have ln : (dI ns).length = ns.length := List.length_map _
    obtain ⟨c, hc⟩ : ∃ c : Int, (if decide ((j : Int) < (ns.length : Int)) = true then PyData.int ((ns[j]?).getD 0) else .int (7919 * (j : Int) + 101)) = .int c := by
      split
      · exact ⟨_, rfl⟩
      · exact ⟨_, rfl⟩
    refine s_asg (ed_is (ed_ite (eb_test (ed_lt (ed_var rfl) (ed_lenF (ed_var rfl)))) (fun q => ed_int1 (ed_ixF (z := (ns[j]?).getD 0) ?_ (ed_var rfl) (ed_var rfl))) (fun _ => ed_add (ed_mul (cmw (bg_of (z := 7919) ⟨by decide, by decide⟩) (bg_of (z := (j : Int)) ⟨by omega, by omega⟩)) ed_int (ed_var rfl)) ed_int)) hc) ?_
    · have q := of_decide_eq_true q
      have lt : j < ns.length := by omega
      have g := List.getElem?_eq_getElem lt
      rw [g]
      rfl
    · refine s_asg (ed_add ed_int (ed_mul (cmw (bg_of (z := 1709) ⟨by decide, by decide⟩) (bg_of (z := (j : Int)) ⟨by omega, by omega⟩)) ed_int (ed_var rfl))) ?_
      generalize hzs : (ns.take 7 ++ [c]) = zs
      have lz : (dI ns).take 7 ++ [.int c] = zs.map PyData.int := by
        rw [← hzs, List.map_append, List.map_take]
        rfl
      obtain ⟨f, f0, fs, fb⟩ : ∃ f : Nat → Int, f 0 = 30011 + 1709 * (j : Int) ∧ (∀ i z, zs[i]? = some z → f (i + 1) = (f i * 69069 + z % 2147483543 + 13) % 2147483543) ∧ ∀ i, 0 ≤ f i ∧ f i < 2147483543 := by
        refine ⟨fun i => (zs.take i).foldl (fun t z => (t * 69069 + z % 2147483543 + 13) % 2147483543) (30011 + 1709 * (j : Int)), rfl, fun i z hz => ?_, fun i => ?_⟩
        · show (zs.take (i + 1)).foldl _ _ = _
          rw [take_snoc hz, List.foldl_append]
          rfl
        · have key : ∀ (l : List Int) (t : Int), 0 ≤ t ∧ t < 2147483543 → 0 ≤ l.foldl (fun t z => (t * 69069 + z % 2147483543 + 13) % 2147483543) t ∧ l.foldl (fun t z => (t * 69069 + z % 2147483543 + 13) % 2147483543) t < 2147483543 := by
            intro l
            induction l with
            | nil => intro t h; exact h
            | cons x l ih => intro t h; exact ih _ ⟨Int.emod_nonneg _ (by decide), Int.emod_lt_of_pos _ (by decide)⟩
          exact key _ _ ⟨by omega, by omega⟩
      rw [← f0]
      refine s_for (xs := zs) (enc := PyData.int) (as := fun z => [(4, .int z)]) (fun i => [some (frzD ns), some (.int (j : Int)), some (.int c), some (.int (f i)), none]) (fun i => none) ?_ (fun _ _ => tg_name) (fun _ _ _ => rfl) (led_same (led_same (led_same (led_same (led_no led_nil))))) rfl (fun i z hz G' D' h1 h2 => ?_) ?_
      · rw [← lz, ← (show cutP (dI ns) none (some 7) = (dI ns).take 7 from cutP_take _ 7)]
        refine ei_list (en_cat (en_listOf (.inl rfl) (en_slF (ed_var rfl) eo_none (eo_some ed_int)).dat).dat (en_lst (ea_cons (ed_var rfl) ea_nil) (by show 1 ≤ 100000; decide)).dat ?_).dat
        rw [(show cutP (dI ns) none (some 7) = (dI ns).take 7 from cutP_take _ 7), List.length_take]
        show min 7 (dI ns).length + 1 ≤ 100000
        omega
      · have b := fb i
        refine w_asg (ed_mod (by decide) (ed_int1 (ed_add (ed_add (ed_mul (cmw (bz33 ⟨b.1, by omega⟩) (bg_of (z := 69069) ⟨by decide, by decide⟩)) (ed_var rfl) ed_int) (ed_mod (by decide) (ed_int1 (ed_var rfl)) ed_int)) ed_int)) ed_int) (w_end (h2.trans ?_) (led_same (led_same (led_same (led_same (led_no led_nil))))))
        rw [fs i z hz]
      · have b := fb zs.length
        refine w_retN (en_lst (ea_cons (ed_ite (eb_or (eb_test (ed_lt (ed_var rfl) ed_int)) fun _ => eb_test (ed_ge (ed_var rfl) (ed_I (C := CPow) (fun _ => .int _) ed_int ed_int ?_))) (fun _ => ed_abs (ed_var rfl)) (fun _ => ed_int)) (ea_cons (ed_var rfl) (ea_cons ed_int ea_nil))) (by show 3 ≤ 100000; decide)) fun p xs H' hp e hx ha => hQ p H' hp e ?_
        · exact ⟨by decide, by decide, by decide⟩
        · obtain ⟨a, ea, a0⟩ : ∃ a : Int, (if (decide (c < 0) || decide ((10 : Int) ^ (18 : Int).toNat ≤ c)) = true then PyData.int ((c.natAbs : Nat) : Int) else .int 0) = .int a ∧ 0 ≤ a := by
            split
            · exact ⟨_, rfl, by omega⟩
            · exact ⟨_, rfl, Int.le_refl _⟩
          rw [ea] at ha
          have ex := dpa_ints (ns := [a, f zs.length, 0]) ha
          rw [ex] at hx
          exact ⟨a, f zs.length, 0, hx, a0, b.1, b.2, Int.le_refl _, Int.le_refl _⟩
end
end Wk
end
section
set_option Elab.async false
set_option linter.all false
set_option maxRecDepth 100000
namespace Wk
open PySem PySem.Spec PyProof.Rows L2 Evl

/-! ### repr, where no guard stands -/
def showR : PyData → Str
  | .none => "None"
  | .bool b => if b then "True" else "False"
  | d => d.shown
/-- data whose repr is told -/
structure ShD (d : PyData) : Prop where
  lay : d.canLay0 = true
  show_ : d.showable = true
  dict : d.hasDict = false
  dep : d.depth ≤ 40
  size : d.shown.length ≤ sizeLine
def isTup : PyData → Bool
  | .tuple _ => true
  | _ => false
def rRepr (K : PySem.W.Frag) : List V → Hp → VK → Prop := fun xs H Q => ∃ v d, xs = [v] ∧ L2.Dp K H v d ∧ (d = .none ∨ (∃ b, d = .bool b) ∨ (isTup d = true ∧ ShD d)) ∧ Q (.str (showR d)) H
theorem cr_repr {X : Cx} {j : Nat} (hg : X.A.guards = some []) (hr : Room j X.A) : CallR X (.builtin "repr") (rRepr X.K) := by
  intro pins s σ H xs us Q I r h
  obtain ⟨v, d, rfl, hv, hd, q⟩ := h
  obtain ⟨u, rfl, ru⟩ := vals1 r
  rcases hd with rfl | ⟨b, rfl⟩ | ⟨ht, hd⟩
  · cases hv
    obtain rfl : u = Value.none := ru
    exact P.repr_of_none ⟨.str "None", H, I.tok _, ⟨_, rfl⟩, q⟩
  · cases hv
    obtain rfl : u = Value.bool b := ru
    refine P.repr_of_bool ⟨.str (showR (.bool b)), H, I.tok _, ⟨s.toks, ?_⟩, q⟩
    cases b <;> rfl
  · obtain ⟨as, rd⟩ := Dp.reads I d v u hv ru
    cases d with
    | tuple ds =>
      obtain ⟨a, rfl⟩ : ∃ a, u = Value.ref a := by
        cases hv
        exact ⟨_, ru⟩
      refine repr_of_reads' rd hd.show_ (PyData.noDict_hsm hd.dict) hg (by have := hr.un; have := hd.dep; omega) (fun _ _ e => e) (fun h' u tk hk => ⟨.str (PyData.tuple ds).shown, H, I.kept hk, ⟨u, rfl⟩, q⟩) hd.size
    | _ => cases ht
theorem pe_repr {X : Cx} {j : Nat} {p pos : Pos} {e : Expr} {te : TE} (hg : X.A.guards = some []) (hr : Room j X.A) (hgl : Gl X "repr") (hm : X.mg "repr" = none) (he : PE X e te) (hs : starEach [e] X.env = (false, eval e X.env) :: starEach [] X.env := by rfl) :
    PE X (.Call (.Name "repr" p) [e] [] pos) (tCB (rRepr X.K) (tCons te tNil)) := pe_callB (cr_repr hg hr) hgl hm PyProof.Rows.boot_repr (pa_cons he pa_nil hs) (he := hs)
theorem ed_repr {K : PySem.W.Frag} {ss : SD} {te : TE} {d : PyData} (h : EvD K te ss d) (hc : d.canLay0 = true) (hd : d = .none ∨ (∃ b, d = .bool b) ∨ (isTup d = true ∧ ShD d)) : EvD K (tCB (rRepr K) (tCons te tNil)) ss (.str (showR d)) := fun X σ H O S Q q =>
  h X σ H O S _ fun v H1 e1 hv => ⟨v, d, rfl, dq_dp d v hc (dp_mono hd_le _ _ hv), hd, q _ H1 e1 (.str _)⟩

/-! ### a def that stands where no guard stands -/
def RunG (P : Program) (w : World) (K : PySem.W.Frag) (mg : Str → Option Value) (base : Heap) (k : Nat) (f : Addr) (fd : FuncData) (ps : List Str) (sp : Sp) : Prop :=
  ∀ (A : Around) (outer : List Env) (s : Shared) (H : Hp) (args : Args) (us : List Value) (vs : List V) (Q : VK), A.guards = some [] → Room k A → Env0 P w K mg base A outer s H → BindsTo s fd args (ps.zip us) → Vals vs us → sp vs H Q L2.E0 →
    codeAny (model P w) A (.call (.ref f) args) (CR L2.CX0 outer P w H s Q L2.E0) s
section
variable {P : Program} {w : World} {K : PySem.W.Frag} {mg : Str → Option Value} {base : Heap}
theorem runG_of {x : Str} {st : Stmt} {f : Addr} {fd : FuncData} {N ps : List Str} {k : Nat} {sp : Sp} (F : L2.Fun K x x st f fd) (S : FnScope N ps (defScope st)) (len : ∀ vs H Q E, sp vs H Q E → vs.length = ps.length)
    (hbody : ∀ (cdv : Value) (A : Around) (outer : List Env) (s : Shared) (H : Hp) (vs : List V) (Q : VK) (E : XK), A.guards = some [] → Room k (A.deeper (envOfC x (defScope st) s.heap.objs.size f cdv)) → sp vs H Q E →
      ∃ t, PSs (cxOf L2.CX0 P w K mg base N x (defScope st) f cdv A outer s H E).nox (defBody st) t ∧ t { nx := fun _ H' => Q .non H', rt := Q } (L2.start N vs) H) : RunG P w K mg base (k + 1) f fd ps sp := by
  obtain ⟨oc, od, kV, doc, pm, an, cdv, ct, osl, rfl, lk, hcd⟩ := F.ex
  intro A outer s H args us vs Q hg hr e0 hb r hsp
  have KX : K.In s.heap := e0.mod.kin.keeps fun b o e => (e0.bs b o e).1
  have lim : s.heap.NoLimit := e0.mod.nolimit.keeps fun b o e => (e0.bs b o e).1
  have knd : ∀ y ∈ ps.zip us, (defScope st).names.lookup y.1 = some .local ∨ ((defScope st).names.lookup y.1 = some .cell ∧ ((cellsFrom (s.heap.objs.size + 1) (defScope st).names []).lookup y.1).isSome = true) := by
    rintro ⟨n, v⟩ hy
    have m := S.par n (List.of_mem_zip hy).1
    exact m.imp id fun q => ⟨q, PySem.W.cellsFrom_some _ _ _ (.inl q)⟩
  refine codeAny_call_function hr.depth (KX _ _ lk) rfl S.co S.gen rfl (PySem.W.codeRec_of KX hcd) (hb _ _ _ _ (wpAny_newFunctionEnv_cells S.kind knd fun env he s1 x1 => ?_))
  subst he
  obtain ⟨t, ht, hq⟩ := hbody cdv A outer s H vs Q L2.E0 hg (hr.deeper _) hsp
  have I := inv_start (CX := L2.CX0) (E := L2.E0) (f := f) (cd := cdv) (qual := x) S hr.hd e0 (len _ _ _ _ hsp) r x1
  refine ⟨lim.keeps x1.toInCall.keep, codeAny_func (wpAny_mono (ht.nox.run [] s1 (L2.start N vs) H _ I hq) (fun fl s' hs => ?_) fun e s' hs => hs)⟩
  cases fl with
  | ret u =>
    obtain ⟨v, σ', H', J, rv, q⟩ := hs
    exact ⟨v, H', J.os, J.bare, J.base, J.hok, rv, q⟩
  | next =>
    obtain ⟨σ', H', J, q⟩ := hs
    exact ⟨V.non, H', J.os, J.bare, J.base, J.hok, rfl, q⟩
  | brk => exact (let ⟨_, _, _, q⟩ := hs; q.elim)
  | cont => exact (let ⟨_, _, _, q⟩ := hs; q.elim)
structure CalG (P : Program) (w : World) (K : PySem.W.Frag) (mg : Str → Option Value) (base : Heap) (k : Nat) (x : Str) (ps : List Str) (sp : Sp) : Prop where
  ex : ∃ (f : Addr) (fd : FuncData), RunG P w K mg base k f fd ps sp ∧ (∀ vs H Q E, sp vs H Q E → vs.length = ps.length) ∧ mg x = some (.ref f) ∧ PySem.W.keepIn K (.ref f) = true ∧ Binds K fd ps []
end
theorem pe_cG {X : Cx} {k j : Nat} {x : Str} {ps : List Str} {sp : Sp} {p pos : Pos} {e : Expr} {es : List Expr} {t : TA} (c : CalG X.prog X.w X.K X.mg X.base k x ps sp) (hgd : X.A.guards = some []) (hr : Room j X.A) (hk : k ≤ j) (hg : Gl X x) (ha : PA X (e :: es) t)
    (hdb : (x == ("__debug__" : Str)) = false := by decide) (he : starEach (e :: es) X.env = (false, eval e X.env) :: starEach es X.env := by rfl) (hpl : (backTo pos (starEach es X.env)).any (·.1) = false := by rfl) :
    PE X (.Call (.Name x p) (e :: es) [] pos) (tCall sp [] L2.E0 t) := by
  obtain ⟨f, fd, F, len, hm, kp, b⟩ := c.ex
  refine ⟨fun pins s σ H Q I h => ?_⟩
  refine wpAny_Call_Name_kw (ld_glob I hg hm ?_ hdb)
  refine PySem.W.callWith_K (h₀ := X.base) I.ok.mod.kin kp (thn (ha.run pos pins s σ H _ I h) fun us s1 ⟨vs, H1, I1, r, q⟩ => ⟨I1.kIn, ?_⟩) he hpl
  have q : sp vs H1 Q L2.E0 := by
    have q' : sp (vs ++ []) H1 Q L2.E0 := q
    rwa [List.append_nil] at q'
  show wpAny (model X.prog X.w) X.A (call (Value.ref f) us) (EP X pins σ Q) X.xe s1
  have hl : us.length = ps.length := by rw [← r.length]; exact len _ _ _ _ q
  have bd := b s1 us I1.kIn (by rw [List.append_nil]; exact hl)
  rw [List.append_nil] at bd
  refine wpAny_call (codeAny_mono (F X.A X.stack s1 H1 ⟨us, []⟩ us vs Q hgd (hr.mono hk) I1.env0 bd r q) fun r s' hq => ?_)
  cases r with
  | error e => exact hq.elim
  | ok fl =>
    cases fl with
    | ret u => exact I1.after hq
    | next => exact hq.elim
    | brk => exact hq.elim
    | cont => exact hq.elim
/-! ### by name, the other way about -/
def swapL {α : Type} : List α → List α → List α
  | [], [a, b] => [b, a]
  | _, _ => []
theorem swap_rel {vs : List V} {us : List Value} {zs : List V} {ws : List Value} (r : Vals vs us) (q : Vals zs ws) : Vals (swapL vs zs) (swapL us ws) := by
  cases r with
  | nil =>
    cases q with
    | nil => exact .nil
    | cons a q =>
      cases q with
      | nil => exact .nil
      | cons b q =>
        cases q with
        | nil => exact .cons b (.cons a .nil)
        | cons _ _ => exact .nil
  | cons _ _ => exact .nil
theorem ed_callK {K : PySem.W.Frag} {ss : SD} {t u : TE} {E : XK} {d e r : PyData} {φ : List PyData → PyData → Prop} (h : EvD K t ss d) (h' : EvD K u ss e) (hp : φ [e, d] r) : EvD K (tCallK (spD K φ) swapL E tNil (tCons t (tCons u tNil))) ss r :=
  fun X σ H O S Q q =>
    h X σ H O S _ fun v H1 e1 h1 => h' X σ H1 (O.mono e1) (S.mono (hd_mono e1)) _ fun x H2 e2 h2 =>
      ⟨X, [e, d], r, O.mono (e1.trans e2), .cons h2 (.cons (dp_mono (hd_mono e2) _ _ h1) .nil), hp, fun y H3 e3 h3 => q y H3 ((e1.trans e2).trans e3) h3⟩
end Wk
end
section
set_option Elab.async false
set_option linter.all false
set_option maxRecDepth 100000
namespace Wk
open PySem PySem.Spec PyProof.Rows L2 Evl

theorem pair_text : ∀ i, i < 8 → ∀ j, j < 8 → (PyData.tuple [.int ((i : Nat) : Int), .int ((j : Nat) : Int)]).shown.length ≤ sizeLine := by decide +kernel
theorem small_log : ∀ i, i < 8 → i.log2 < 1920 := by decide +kernel
theorem pair_sh {o : Option (Nat × Nat)} (h : ∀ i j, o = some (i, j) → i < 8 ∧ j < 8) : (pairD o).canLay0 = true ∧ (pairD o = .none ∨ (∃ b, pairD o = .bool b) ∨ (isTup (pairD o) = true ∧ ShD (pairD o))) := by
  rcases o with _ | ⟨i, j⟩
  · exact ⟨rfl, .inl rfl⟩
  · obtain ⟨hi, hj⟩ := h i j rfl
    refine ⟨rfl, .inr (.inr ⟨rfl, rfl, by simp [pairD, PyData.showable, PyData.showableAll, small_log i hi, small_log j hj], by simp [pairD, PyData.hasDict, PyData.hasDictAll], ?_, pair_text i hi j hj⟩)⟩
    show PyData.depth (PyData.tuple [.int (i : Int), .int (j : Int)]) ≤ 40
    simp [PyData.depth, PyData.depthAll]
section
variable {P : Program} {w : World} {K : PySem.W.Frag} {mg : Str → Option Value} {base : Heap}
theorem calMG {x : Str} {st : Stmt} {f : Addr} {fd : FuncData} {N ps : List Str} {k m : Nat} {φ : List PyData → PyData → Prop} (F : Dfn K mg x st f fd ps) (S : FnScope N ps (defScope st)) (len : ∀ ds r, φ ds r → ds.length + 1 = ps.length)
    (hbody : ∀ (cdv : Value) (A : Around) (outer : List Env) (s : Shared) (H : Hp) (E : XK), A.guards = some [] → Room k (A.deeper (envOfC x (defScope st) s.heap.objs.size f cdv)) →
      ∃ t, PSs (cxOf L2.CX0 P w K mg base N x (defScope st) f cdv A outer s H E).nox (defBody st) t ∧ ∀ (s : Addr) (n : Nat) (X : List Addr) (ds : List PyData) (D : Ends), n + m ≤ 1000 → s ∈ X → Sk n H s → (∃ r, φ ds r) → (∀ v H' r, φ ds r → Mv s H H' → Sk (n + m) H' s → Dq K (Hd X H') v r → D.rt v H') →
        Wp K X H h00 (t D) ((adrD s :: ds).map some ++ List.replicate (N.length - (adrD s :: ds).length) none) none) : CalG P w K mg base (k + 1) x ps (spM K m φ) := by
  have ln : ∀ vs H Q E, spM K m φ vs H Q E → vs.length = ps.length := fun vs H Q E h => by
    obtain ⟨s, n, X, ds, _, _, O, _, ha, ⟨r, hp⟩, _⟩ := h
    rw [dpa_len ha]
    exact len ds r hp
  refine ⟨f, fd, runG_of F.fn S ln (fun cdv A outer s H vs Q E hg hr h => ?_), ln, F.mgf, F.fn.kp, F.bi⟩
  obtain ⟨a, n, X, ds, hn, hX, O, hk, ha, he, q⟩ := h
  obtain ⟨t, d, hw⟩ := hbody cdv A outer s H E hg hr
  exact ⟨t, d, hw a n X ds _ hn hX hk he (fun v H' r hp e k' hv => q v H' r hp e k' hv) _ _ (rep_start O ha)⟩
theorem speeds_ex : ∃ r, f__law_speeds [] r := ⟨_, [(0, 0)], 1, ⟨by simp, by simp, fun z hz => by
  rw [List.mem_singleton.mp hz]
  exact ⟨⟨by decide, by decide⟩, by decide, by decide⟩⟩, ⟨by decide, by decide⟩, rfl, rfl⟩
theorem side_ex : ∃ r, f__law_side [] r := ⟨_, (1, 0, 0), ⟨by decide, ⟨⟨by decide, by decide⟩, by decide, by decide⟩, bz0⟩, rfl, rfl, rfl⟩
/-! ### _law_right -/
def f__law_right : List PyData → PyData → Prop := fun ds r => ds = [] ∧ r = .bool true
abbrev s__law_right : Stmt := topL 61
theorem sc__law_right : FnScope ["_law_sack_here", "_law_rim_here", "_law_scale", "_law_speeds_here", "_law_coast", "_law_turn", "_law_is_held", "_law_pair_here", "_law_told", "_law_loads"] ["_law_sack_here"] (defScope s__law_right) := ⟨rfl, rfl, rfl, by decide +kernel, rfl, by decide +kernel, by decide +kernel⟩
theorem ok__law_right {f : Addr} {fd : FuncData} (F : Dfn K mg "_law_right" s__law_right f fd ["_law_sack_here"]) (B : Bt mg) (c_holds_off : Cal P w K mg base 6 "holds_off" ["velocities", "shores"] (spD K f_holds_off)) (c_held_with : Cal P w K mg base 6 "held_with" ["velocities", "shores"] (spD K f_held_with)) (c_embayed_by : Cal P w K mg base 7 "embayed_by" ["velocities", "shores"] (spD K f_embayed_by)) (c_bars : Cal P w K mg base 6 "bars" ["velocities", "shores", "weights"] (spD K f_bars)) (c_barring_weights : Cal P w K mg base 7 "barring_weights" ["velocities", "shores"] (spD K f_barring_weights)) (c__law_one : Cal P w K mg base 2 "_law_one" ["_law_sack_here", "_law_some"] (spM K 1 f__law_one)) (c__law_said : Cal P w K mg base 3 "_law_said" ["_law_dots", "_law_scale"] (spD K f__law_said)) (c__law_speeds : Cal P w K mg base 4 "_law_speeds" ["_law_sack_here"] (spM K 15 f__law_speeds)) (c__law_side : Cal P w K mg base 2 "_law_side" ["_law_sack_here"] (spM K 3 f__law_side)) (c__law_left : Cal P w K mg base 4 "_law_left" ["_law_spots", "_law_banks"] (spD K f__law_left)) (c__law_pair : Cal P w K mg base 5 "_law_pair" ["_law_spots", "_law_banks"] (spD K f__law_pair)) (c__law_are_weights : Cal P w K mg base 2 "_law_are_weights" ["_law_loads", "_law_dots", "_law_banks"] (spD K f__law_are_weights)) (c__law_is_good : Cal P w K mg base 3 "_law_is_good" ["_law_spot_here", "_law_speeds_here", "_law_banks"] (spD K f__law_is_good)) (k_holds_off : CalK P w K mg base 6 "holds_off" ["velocities", "shores"] ["shores", "velocities"] swapL swapL (spD K f_holds_off)) (k_embayed_by : CalK P w K mg base 7 "embayed_by" ["velocities", "shores"] ["shores", "velocities"] swapL swapL (spD K f_embayed_by)) : CalG P w K mg base 8 "_law_right" ["_law_sack_here"] (spM K 60 f__law_right) := by
  refine calMG F sc__law_right (fun ds r h => ?_) fun cdv A outer s H E hgd hr => ⟨_, (pss_cons (ps_asg (pe_c c__law_speeds hr (by decide) (by rfl) (pa_cons (pv 0) pa_nil)) (pg_unl rfl (pgs_cons (pg_name (i := 1) sc__law_right.nd rfl (Or.inl rfl) (Or.inl rfl)) (pgs_cons (pg_name (i := 2) sc__law_right.nd rfl (Or.inl rfl) (Or.inl rfl)) pgs_nil))))
     (pss_cons (ps_par (i := 3) (j := 4) rfl sc__law_right.nd rfl rfl (by decide) rfl rfl (pa_cons (pe_c c__law_said hr (by decide) (by rfl) (pa_cons (pv 1) (pa_cons (pv 2) pa_nil))) (pa_cons (pe_lst pa_nil) pa_nil)) (by rfl))
     (pss_cons (ps_for PassesOwn.never rfl (pi_range1 (by rfl) B.m_range (pa_cons (pe_c c__law_one hr (by decide) (by rfl) (pa_cons (pv 0) (pa_cons (pe_tup (pa_cons pe_int (pa_cons pe_int (pa_cons pe_int (pa_cons pe_int (pa_cons pe_int (pa_cons pe_int (pa_cons pe_int (pa_cons pe_int pa_nil))))))))) pa_nil))) pa_nil)) (pg_name (i := 5) sc__law_right.nd rfl (Or.inl rfl) (Or.inl rfl))
     (pss_one (ps_expr (pe_bm PySem.F.plainAttrs_list PySem.F.slot_list_append PySem.F.type_list_append mt_append (pv 4) (pa_cons (pe_c c__law_side hr (by decide) (by rfl) (pa_cons (pv 0) pa_nil)) pa_nil)))))
     (pss_cons (ps_set (i := 4) sc__law_right.nd rfl (Or.inl rfl) (pe_tupleOf (by rfl) B.m_tuple (pv 4)))
     (pss_cons (ps_par (i := 6) (j := 7) rfl sc__law_right.nd rfl rfl (by decide) rfl rfl (pa_cons (pe_cmpR (op_neD hr.units) (pe_c c__law_left hr (by decide) (by rfl) (pa_cons (pv 3) (pa_cons (pv 4) pa_nil))) (pe_lst pa_nil) (nomark _)) (pa_cons (pe_c c__law_pair hr (by decide) (by rfl) (pa_cons (pv 3) (pa_cons (pv 4) pa_nil))) pa_nil)) (by rfl))
     (pss_cons (ps_if ((pw_or (pt_cmpR op_ne (pe_repr hgd hr (by rfl) B.m_repr (pe_c c_holds_off hr (by decide) (by rfl) (pa_cons (pv 3) (pa_cons (pv 4) pa_nil)))) (pe_repr hgd hr (by rfl) B.m_repr (pv 6)) (nomark _)) (pw_or1 (pt_cmpR op_ne (pe_repr hgd hr (by rfl) B.m_repr (pe_c c_embayed_by hr (by decide) (by rfl) (pa_cons (pv 3) (pa_cons (pv 4) pa_nil)))) (pe_repr hgd hr (by rfl) B.m_repr (pv 7)) (nomark _))))).pt
     (pss_one (ps_ret pe_bl))
     pss_nil)
     (pss_cons (ps_if (pt_cmpR op_ne (pe_repr hgd hr (by rfl) B.m_repr (pe_k k_embayed_by hr (by decide) (by rfl) (pk_cons (pv 4) (pk_cons (pv 3) pk_nil)))) (pe_repr hgd hr (by rfl) B.m_repr (pv 7)) (nomark _))
     (pss_one (ps_ret pe_bl))
     pss_nil)
     (pss_cons (ps_par (i := 8) (j := 9) rfl sc__law_right.nd rfl rfl (by decide) rfl rfl (pa_cons (pe_c c_held_with hr (by decide) (by rfl) (pa_cons (pv 3) (pa_cons (pv 4) pa_nil))) (pa_cons (pe_c c_barring_weights hr (by decide) (by rfl) (pa_cons (pv 3) (pa_cons (pv 4) pa_nil))) pa_nil)) (by rfl))
     (pss_cons (ps_if (pt_val (pv 6))
     (pss_one (ps_ret (pe_and (pe_cmpR op_isN (pv 9) pe_non (nomark _)) (pe_and (pe_cmpR op_isN (pv 7) pe_non (nomark _)) (pe_one (pe_c c__law_is_good hr (by decide) (by rfl) (pa_cons (pv 8) (pa_cons (pv 3) (pa_cons (pv 4) pa_nil)))))))))
     pss_nil)
     (pss_cons (ps_if ((pw_or (pt_cmpR op_notN (pv 8) pe_non (nomark _)) (pw_or (pt_cmpR op_isN (pv 7) pe_non (nomark _)) (pw_or1 (pt_not (pt_val (pe_c c__law_are_weights hr (by decide) (by rfl) (pa_cons (pv 9) (pa_cons (pv 1) (pa_cons (pv 4) pa_nil)))))))))).pt
     (pss_one (ps_ret pe_bl))
     pss_nil)
     (pss_one (ps_ret (pe_and (pe_cmpR op_isBl (pe_c c_bars hr (by decide) (by rfl) (pa_cons (pv 3) (pa_cons (pv 4) (pa_cons (pv 9) pa_nil)))) pe_bl (nomark _)) (pe_one (pe_cmpR op_isBl (pe_k k_holds_off hr (by decide) (by rfl) (pk_cons (pv 4) (pk_cons (pv 3) pk_nil))) pe_bl (nomark _)))))))))))))))), fun a n X ds D hn hX hk he hQ => ?_⟩
  · obtain ⟨rfl, _⟩ := h
    rfl
  · obtain ⟨r, rfl, rfl⟩ := he
    refine m_tgt (m := n + 15) hX hk (em_call (φ := f__law_speeds) (ds := []) (ea_cons (ed_var rfl) ea_nil) (by omega) speeds_ex) fun d hd => ?_
    obtain ⟨S, u, hS, hu, _, rfl⟩ := hd
    refine ⟨_, tg_unl (tgs_cons tg_name (tgs_cons tg_name tgs_nil)), rfl, fun H1 m1 s1 => ?_⟩
    have rl := rim_len hS.len
    have rb := rim_bg hS hu
    obtain ⟨hV, hL⟩ := vel_of hS hu
    have dp := fun (sh : List P3) (ws : List Int) => dots_pos (S := S) (sh := sh) (ws := ws) hu.1
    refine w_parN (u__law_said (R := rimOf S) (s := u) (ed_var rfl) (ed_var rfl) (by omega) (bz_le (bg_of ⟨by omega, by omega⟩) (by decide)) (by omega)) (en_lst ea_nil (by show 0 ≤ 100000; decide)) rfl (by decide) ?_
    generalize rimOf S = R at rl rb hV hL dp ⊢
    generalize Sh.speeds u R = L at hV hL dp ⊢
    show Wp K X H1 h00 _ [some (adrD a), some (dL2 R), some (.int u), some (dT3 L), none, none, none, none, none, none] (some (4, []))
    refine m_for (m := n + 16) (N := fun j => 1 ≤ j ∧ j ≤ 8) 3 (fun i es => ∃ sh : List P3, es = sh.map dP3 ∧ sh.length = i ∧ ∀ s ∈ sh, Bo s ∧ Sh.g3 s = 1) hX s1 (em_is (em_call (φ := f__law_one) (k := 1) (ds := [.tuple (dI [1, 2, 2, 3, 3, 4, 5, 8])]) (ea_cons (ed_var rfl) (ea_cons (ed_tup (ea_cons ed_int (ea_cons ed_int (ea_cons ed_int (ea_cons ed_int (ea_cons ed_int (ea_cons ed_int (ea_cons ed_int (ea_cons ed_int ea_nil)))))))) (by show 8 ≤ 100000; decide)) ea_nil)) (by omega) ⟨_, [1, 2, 2, 3, 3, 4, 5, 8], 1, by decide, by decide, rfl, rfl⟩) ?_) (fun j hj => by omega) rfl ⟨[], rfl, rfl, fun z hz => by cases hz⟩ (fun j hj i lt es inv H2 m2 s2 D' e1 e2 => ?_) (fun j hj es inv H2 m2 s2 => ?_)
    · rintro d ⟨ns, z, _, hz, e, rfl⟩
      have en : dI [1, 2, 2, 3, 3, 4, 5, 8] = dI ns := by injection (List.cons.inj e).1
      have en2 : [1, 2, 2, 3, 3, 4, 5, 8] = ns := (List.map_inj_right (fun a b h => by cases h; rfl)).mp en
      rw [← en2] at hz
      have zb : 1 ≤ z ∧ z ≤ 8 := by
        simp at hz
        omega
      exact ⟨z.toNat, ⟨by omega, by omega⟩, by rw [Int.toNat_of_nonneg (by omega)]⟩
    · obtain ⟨sh, rfl, ls, hb⟩ := inv
      refine m_app (m := n + 16 + (i + 1) * 3) hX s2 (em_call (φ := f__law_side) (k := 3) (ds := []) (ea_cons (ed_var rfl) ea_nil) (by omega) side_ex (by omega)) (by rw [List.length_map]; omega) fun d hd H3 m3 s3 => ?_
      obtain ⟨t, bt, gt, _, rfl⟩ := hd
      refine w_ex (Inv := fun i es => ∃ sh : List P3, es = sh.map dP3 ∧ sh.length = i ∧ ∀ s ∈ sh, Bo s ∧ Sh.g3 s = 1) e2 (m2.trans m3) s3 ⟨sh ++ [t], by rw [List.map_append]; rfl, by rw [List.length_append, ls]; rfl, fun s hs => ?_⟩ (led_same (led_same (led_same (led_same (led_no (led_no (led_no (led_no (led_no (led_no led_nil))))))))))
      rcases List.mem_append.mp hs with q | q
      · exact hb s q
      · rw [List.mem_singleton.mp q]
        exact ⟨bt, gt⟩
    · obtain ⟨sh, rfl, ls, hb⟩ := inv
      have hsh : Shs sh := ⟨fun z => by rw [z] at ls; simp at ls; omega, by omega, fun s h => (hb s h).1, fun s h => (hb s h).2⟩
      have hQ' : ∀ v H', Ex H2 H' → Dq K (Hd X H') v (.bool true) → D.rt v H' := fun v H' e hv => hQ v H' _ ⟨rfl, rfl⟩ ((m1.trans m2).trans (Mv.of e)) ((s2.ex e).le (by omega)) hv
      obtain ⟨o, ho⟩ := pair_ex (badP L sh) sh.length
      have ho2 : Sh.IsPair (badL L sh) sh.length o := ho.congr fun i j _ _ => bad_iff hV hL hsh i j
      have ob : ∀ i j, o = some (i, j) → i < 8 ∧ j < 8 := fun i j e => by
        obtain ⟨q1, q2, _⟩ := ho.yes i j e
        have := hsh.len
        exact ⟨by omega, by omega⟩
      obtain ⟨pl, ps⟩ := pair_sh ob
      have hh := held_iff hV hL hsh
      have oi := pair_iff hV hL hsh ho
      refine w_free (s_asg (ed_tuple (.inl rfl) (ed_var rfl)) ?_)
      show Wp K X H2 h00 _ [some (adrD a), some (dL2 R), some (.int u), some (dT3 L), some (dT3 sh), none, none, none, none, none] none
      refine s_par (d := .bool (decide (Sh.partOff (some L) (fsOf sh) ≠ none))) (e := pairD o) (ea_cons (ed_is (ed_neD (p3_shL _) nil_shL (u__law_left (ed_var rfl) (ed_var rfl) (.inr rfl) (.inr rfl) hL hV.len hsh.ne hsh.len hsh.bo) (en_lst ea_nil (by show 0 ≤ 100000; decide)).dat) (by rw [eqv3_nil, hh]; simp)) (ea_cons (u__law_pair (ed_var rfl) (ed_var rfl) hL hV.len hsh.len hsh.bo ho2) ea_nil)) ?_
      refine s_when (b := false) (eb_is (eb_or (eb_test (ed_neS (ed_repr (u_holds_off (ed_var rfl) (ed_var rfl) hV hsh) rfl (.inr (.inl ⟨_, rfl⟩))) (ed_repr (ed_var rfl) rfl (.inr (.inl ⟨_, rfl⟩))))) fun _ => eb_test (ed_neS (ed_repr (u_embayed_by (ed_var rfl) (ed_var rfl) hV hsh ho) pl ps) (ed_repr (ed_var rfl) pl ps))) (by simp)) (fun q => nomatch q) fun _ => ?_
      refine s_when (b := false) (eb_is (eb_test (ed_neS (ed_repr (ed_callK (φ := f_embayed_by) (ed_var rfl) (ed_var rfl) ⟨L, sh, o, hV, hsh, ho, rfl, rfl⟩) pl ps) (ed_repr (ed_var rfl) pl ps))) (by simp)) (fun q => nomatch q) fun _ => ?_
      refine s_par (ea_cons (u_held_with (ed_var rfl) (ed_var rfl) hV hsh) (ea_cons (u_barring_weights (ed_var rfl) (ed_var rfl) hV hsh ho) ea_nil)) ?_
      refine s_when (eb_B (ed_var rfl)) (fun c => ?_) (fun c => ?_)
      · have c2 : Sh.partOff (some L) (fsOf sh) ≠ none := of_decide_eq_true c
        have oN := oi.mpr c2
        subst oN
        obtain ⟨M, hM⟩ : ∃ M, Sh.partOff (some L) (fsOf sh) = some M := by
          cases q : Sh.partOff (some L) (fsOf sh) with
          | none => exact absurd q c2
          | some M => exact ⟨M, rfl⟩
        obtain ⟨p, r', rfl, g1, g2, g3, g4⟩ := good_of hV hL hsh hM
        rw [hM]
        exact w_ret (ed_andV (a := true) (ed_isN (d := barD L sh none) (ed_var rfl)) fun _ => ed_andV (a := true) (ed_isN (d := pairD none) (ed_var rfl)) fun _ => u__law_is_good (p := p) (ed_var rfl) (ed_var rfl) (ed_var rfl) g1 g2 hV.po.ne (by have := hV.len; omega) hV.pg.bp g3 hsh.len (fun s h => (hsh.bo s h).q) g4) hQ'
      · have c2 : Sh.partOff (some L) (fsOf sh) = none := Decidable.byContradiction fun z => by simp [z] at c
        obtain ⟨i, j', ws, rfl, eb, hw, few, isB⟩ := bar_of hV hL hsh ho c2
        rw [c2, eb]
        refine s_when (b := false) (eb_is (eb_or (eb_test (ed_notN (d := heldD none) (ed_var rfl))) fun _ => eb_or (eb_test (ed_isN (d := pairD (some (i, j'))) (ed_var rfl))) fun _ => eb_not (eb_B (u__law_are_weights (ed_var rfl) (ed_var rfl) (ed_var rfl) hw few rb hsh.len (fun s h => (hsh.bo s h).q) (dp sh ws isB)))) rfl) (fun q => nomatch q) fun _ => ?_
        refine w_ret (ed_is (ed_andV (ed_isB (u_bars (ed_var rfl) (ed_var rfl) (ed_var rfl) hV hsh hw)) fun _ => ed_isB (ed_callK (φ := f_holds_off) (ed_var rfl) (ed_var rfl) ⟨L, sh, hV, hsh, rfl, rfl⟩)) ?_) hQ'
        rw [isB, c2]
        simp
end
end Wk
end
section
set_option Elab.async false
set_option linter.all false
set_option maxRecDepth 100000
namespace Wk
open PySem PySem.Spec PyProof.Rows L2 Evl

section
variable {K : PySem.W.Frag} {ss : SD} {ta tb : TE} {i j : Int}
theorem ed_max2 (ha : EvD K ta ss (.int i)) (hb : EvD K tb ss (.int j)) : EvD K (tCB (fun xs H Q => ∃ i j, xs = [.int i, .int j] ∧ Q (.int (if j > i then j else i)) H) (tCons ta (tCons tb tNil))) ss (.int (if j > i then j else i)) :=
  ed_cb (ea_cons ha (ea_cons hb ea_nil)) fun X H vs Q O hv q => by
    obtain ⟨v, w, rfl, h1, h2⟩ := two hv
    rw [dp_int h1, dp_int h2]
    exact ⟨i, j, rfl, q _ H (Ex.refl H) (.int _)⟩
theorem ed_min2 (ha : EvD K ta ss (.int i)) (hb : EvD K tb ss (.int j)) : EvD K (tCB (fun xs H Q => ∃ i j, xs = [.int i, .int j] ∧ Q (.int (if j < i then j else i)) H) (tCons ta (tCons tb tNil))) ss (.int (if j < i then j else i)) :=
  ed_cb (ea_cons ha (ea_cons hb ea_nil)) fun X H vs Q O hv q => by
    obtain ⟨v, w, rfl, h1, h2⟩ := two hv
    rw [dp_int h1, dp_int h2]
    exact ⟨i, j, rfl, q _ H (Ex.refl H) (.int _)⟩
/-- a def that draws, at a new sack -/
theorem ed_new {m : Nat} {E E' : XK} {tr : TA} {ds : List PyData} {φ : List PyData → Prop} {ψ : List PyData → PyData → Prop} {r : PyData} (h : EvAD K tr ss ds) (hp : φ ds) (hr : ψ [] r) (hf : ∀ r', ψ [] r' → r' = r) (fl : flat r = true) (hm : m ≤ 1000) : EvD K (tCall (spM K m ψ) [] E (tCons (tCall (spN K φ) [] E' tr) tNil)) ss r := fun X σ H O S Q q =>
  h X σ H O S _ fun vs H1 e1 hv => by
    refine ⟨X, ds, O.mono e1, by rw [List.append_nil]; exact hv, hp, fun p H2 hn e2 k2 => ?_⟩
    have O2 : Own (p :: X) H2 := own_cons (O.mono (e1.trans e2)) k2.ne
    refine ⟨p, 0, p :: X, [], by omega, List.mem_cons_self, O2, k2, .cons (.adr p) .nil, ⟨r, hr⟩, fun v H3 r' pr mv k3 h3 => ?_⟩
    have er := hf r' pr
    subst er
    refine q v H3 (fun a o ha => ?_) (dp_flat fl h3)
    have na : a ≠ p := fun z => by
      have := e1 _ _ ha
      rw [z, hn] at this
      cases this
    exact mv a o na (e2 _ _ (e1 _ _ ha))
end
theorem hd_nil (H : Hp) : Hd [] H = H := by
  funext a
  unfold Hd
  rw [if_neg (by simp)]
def spLaw (K : PySem.W.Frag) : Sp := fun vs H Q _ => ∃ (a : Addr) (ns : List Int), vs = [.ref a] ∧ SqL K H a (ns.map V.int) ∧ ns.length ≤ 63 ∧ ∀ H', Q (.bl true) H'
section
variable {P : Program} {w : World} {K : PySem.W.Frag} {mg : Str → Option Value} {base : Heap}
/-! ### the law -/
abbrev s_law : Stmt := topL 62
theorem sc_law : FnScope ["_law_script", "_law_turn"] ["_law_script"] (defScope s_law) := ⟨rfl, rfl, rfl, by decide +kernel, rfl, by decide +kernel, by decide +kernel⟩
theorem ok_law {f : Addr} {fd : FuncData} (F : L2.Fun K "law" "law" s_law f fd) (B : Bt mg) (c__law_sack : Cal P w K mg base 1 "_law_sack" ["_law_script", "_law_turn"] (spN K f__law_sack)) (c__law_right : CalG P w K mg base 8 "_law_right" ["_law_sack_here"] (spM K 60 f__law_right)) : RunG P w K mg base 9 f fd ["_law_script"] (spLaw K) := by
  refine runG_of F sc_law (fun vs H Q E h => ?_) fun cdv A outer s H vs Q E hgd hr h => ?_
  · obtain ⟨a, ns, rfl, _⟩ := h
    rfl
  · obtain ⟨a, ns, rfl, hS, hl, q⟩ := h
    have O : Own [] H := fun a m => by cases m
    have hv : DqAll K (Hd [] H) [.ref a] [frzD ns] := .cons (.frz ns rfl (by rw [hd_nil]; exact hS)) .nil
    obtain ⟨T, hT, T0, T1⟩ : ∃ T : Int, (if (if (3 : Int) < (ns.length : Int) then (3 : Int) else (ns.length : Int)) > 2 then (if (3 : Int) < (ns.length : Int) then (3 : Int) else (ns.length : Int)) else 2) = T ∧ 0 ≤ T ∧ T ≤ 3 := ⟨_, rfl, by split <;> split <;> omega, by split <;> split <;> omega⟩
    suffices z : ∃ t, PSs (cxOf L2.CX0 P w K mg base ["_law_script", "_law_turn"] "law" (defScope s_law) f cdv A outer s H E).nox (defBody s_law) t ∧ ∀ D : Ends, (∀ H', D.rt (.bl true) H') → Wp K [] H h00 (t D) ([frzD ns].map some ++ List.replicate (["_law_script", "_law_turn"].length - [frzD ns].length) none) none by
      obtain ⟨t, d, hw⟩ := z
      exact ⟨t, d, hw _ (fun H' => q H') _ _ (rep_start O hv)⟩
    refine ⟨_, (pss_one (ps_ret (pe_callB (cr_all rfl) (by rfl) B.m_all PyProof.Rows.boot_all (pa_cons (pe_lc (g := gName 1) (own := [("_law_turn", 1)]) rfl sc_law.nd (pi_range1 (by rfl) B.m_range (pa_cons (pe_callB (call_max2 rfl) (by rfl) B.m_max PyProof.Rows.boot_max (pa_cons pe_int (pa_cons (pe_callB (call_min2 rfl) (by rfl) B.m_min PyProof.Rows.boot_min (pa_cons (pe_callB call_len_seq (by rfl) B.m_len PySem.boot_len (pa_cons (pv 0) pa_nil)) (pa_cons pe_int pa_nil))) pa_nil))) pa_nil)) (blkOk_by (N := ["_law_script", "_law_turn"]) (sc := defScope s_law) (by decide +kernel)) (fun _ _ _ _ _ => (pg_name (i := 1) sc_law.nd rfl (Or.inl rfl) (Or.inr rfl))) (fun _ _ _ _ _ => pts_nil) (fun _ _ _ _ _ => (pe_cG c__law_right hgd hr (by decide) (by rfl) (pa_cons (pe_c c__law_sack hr (by decide) (by rfl) (pa_cons (pv 0) (pa_cons (pv 1) pa_nil))) pa_nil)))) pa_nil)))), fun D hD => ?_⟩
    refine w_ret (ed_is (ed_alls (xs := List.range T.toNat) (b := fun _ => true) (en_map (enc := fun (k : Nat) => PyData.int (0 + (k : Int))) (as := fun (k : Nat) => [(1, .int (0 + (k : Int)))]) (r := fun _ => .bool true) (ei_rng1 (i := T) (ed_is (ed_max2 ed_int (ed_min2 (ed_lenF (ed_var rfl)) ed_int)) (congrArg PyData.int hT)) ⟨T0, by omega⟩) (by rw [List.length_range]; omega) (fun _ _ => tg_name) (fun _ _ p hp => by simp at hp; simp [hp]) (fun k hk => ?_)).dat) (d := .bool ((List.range T.toNat).all fun _ => true)) (e := .bool true) (by simp)) fun v H' e hd => by rw [dp_bl hd]; exact hD H'
    have hk2 := List.mem_range.mp hk
    exact ed_new (ds := [frzD ns, .int (k : Int)]) (ea_cons (ed_var rfl) (ea_cons (ed_is (ed_var rfl) (by rw [Int.zero_add])) ea_nil)) ⟨ns, k, by omega, by omega, rfl⟩ ⟨rfl, rfl⟩ (fun r' h => h.2) rfl (by decide)
end
end Wk
end
section
set_option Elab.async false
set_option linter.all false
set_option maxRecDepth 100000
namespace Wk
open PySem PySem.Spec PyProof.Rows L2 Evl

/-! ### the end: the law's call, where no guard stands -/
section
variable {P : Program} {w : World} {K : PySem.W.Frag} {mg mb : Str → Option Value} {k : Nat} {fa a : Addr} {fd : FuncData} {x : Str} {sp : Sp} {s₁ : Shared} {vs : List Value} {ns : List Int}
/-- .. at a heap reading in which the script alone may be known -/
theorem law_at (KX : K.In s₁.heap) (hns : s₁.heap.Ns mainGlobals mg) (hb : s₁.heap.Ns builtinsNs mb) (hbb : ∀ x : Str, x ≠ "__name__" → mb x = bootBuiltins x) (hlim : s₁.heap.NoLimit) (hg : s₁.gens = #[])
    (ha : s₁.heap.get? a = some { cls := .type "list", data := .seq vs.toArray }) (hr : Room k callerA)
    (F : ∀ base : Heap, K.In base → base.Ns mainGlobals mg → RunG P w K mg base k fa fd [x] sp) (hbind : ∀ (s : Shared) (u : Value), BindsTo s fd ⟨[u], []⟩ [(x, u)])
    (H : Hp) (hO : Only H) (hsp : sp [.ref a] H (fun v _ => v = .bl true) L2.E0) (hok : HOk P w H s₁.heap) (hA : ∀ b, H b ≠ none → b = a) (hK : H a ≠ none → K.lookup a = none) :
    codeAny (model P w) callerA (.call (.ref fa) ⟨[.ref a], []⟩) (fun r s' => r = .ok (.ret (.bool true)) ∧ OldK s₁.heap s'.heap ∧ s'.os = s₁.os ∧ AllBare s'.gens) s₁ := by
  have only : ∀ {b : Addr} {o : Obj}, s₁.heap.get? b = some o → o ≠ { cls := .type "list", data := .seq vs.toArray } → H b = none := fun {b o} e n => by
    cases q : H b with
    | none => rfl
    | some u =>
      have eb : b = a := hA b (by rw [q]; simp)
      rw [eb, ha] at e
      exact absurd (Option.some.inj e).symm n
  have known : ∀ {b : Addr} {m : Str → Option Value}, s₁.heap.Ns b m → (hidT s₁.heap H).Ns b m := fun {b m} h => by
    obtain ⟨o, es, ep, e, d, r⟩ := h
    refine ⟨o, es, ep, hidT_get e (only e fun z => ?_), d, r⟩
    rw [z] at d
    cases d
  have kin : K.In (hidT s₁.heap H) := fun b o e => hidT_get (KX b o e) (by
    cases q : H b with
    | none => rfl
    | some u =>
      have eb : b = a := hA b (by rw [q]; simp)
      rw [eb, hK (by rw [← eb, q]; simp)] at e
      cases e)
  obtain ⟨mc, l1, l2⟩ := hlim
  have md : Mod K mg (hidT s₁.heap H) := ⟨kin, known hns, ⟨mb, known hb, hbb⟩, ⟨mc, known l1, l2⟩⟩
  have e0 : Env0 P w K mg (hidT s₁.heap H) callerA [] s₁ H := ⟨rfl, md, fun b o e => of_hidT e, Nat.le_of_eq (hidT_size _ _), trivial, fun b m => absurd (show b ∈ ([] : List Addr) from m) (by simp), hok, .of_eq hg⟩
  refine codeAny_mono (F _ kin (known hns) callerA [] s₁ H ⟨[.ref a], []⟩ [.ref a] [.ref a] _ rfl hr e0 (hbind s₁ (.ref a)) (.cons rfl .nil) hsp) fun r s' h => ?_
  cases r with
  | error e => exact h.elim
  | ok fl =>
    cases fl with
    | next => exact h.elim
    | brk => exact h.elim
    | cont => exact h.elim
    | ret u =>
      obtain ⟨v, H', os, bare, un, ok', rv, hv⟩ := h
      have hv : v = .bl true := hv
      subst hv
      obtain rfl : u = Value.bool true := rv
      refine ⟨rfl, OldK.of_keep fun b o e => ?_, os, bare⟩
      cases q : H b with
      | none => exact un.keep b o e q (fun z => absurd (show b ∈ ([] : List Addr) from z) (by simp)) (by simp)
      | some u =>
        rcases hO b with z | ⟨ob, xs, z⟩
        · rw [q] at z
          cases z
        · obtain ⟨e1, _⟩ := hok b _ z
          obtain ⟨e2, _⟩ := ok' b _ (un.frzs b ob _ z)
          rw [e] at e1
          cases e1
          exact e2
theorem law_run (KX : K.In s₁.heap) (hns : s₁.heap.Ns mainGlobals mg) (hb : s₁.heap.Ns builtinsNs mb) (hbb : ∀ x : Str, x ≠ "__name__" → mb x = bootBuiltins x) (hlim : s₁.heap.NoLimit) (hg : s₁.gens = #[])
    (ha : s₁.heap.get? a = some { cls := .type "list", data := .seq vs.toArray }) (hi : IntsAre vs ns) (hl : ns.length ≤ sizeLine) (hr : Room k callerA)
    (F : ∀ base : Heap, K.In base → base.Ns mainGlobals mg → RunG P w K mg base k fa fd [x] sp) (hbind : ∀ (s : Shared) (u : Value), BindsTo s fd ⟨[u], []⟩ [(x, u)])
    (hsp : ∀ H : Hp, SqL K H a (ns.map V.int) → sp [.ref a] H (fun v _ => v = .bl true) L2.E0) :
    codeAny (model P w) callerA (.call (.ref fa) ⟨[.ref a], []⟩) (fun r s' => r = .ok (.ret (.bool true)) ∧ OldK s₁.heap s'.heap ∧ s'.os = s₁.os ∧ AllBare s'.gens) s₁ := by
  have rv := vals_ints hi
  have ln := hi.length
  cases hk : K.lookup a with
  | some o =>
    have e := KX a o hk
    rw [ha] at e
    cases e
    refine law_at KX hns hb hbb hlim hg ha hr F hbind (fun _ => none) (fun _ => .inl rfl) (hsp _ (.inr ⟨_, vs.toArray, _, hk, rfl, rfl, rfl, by rw [List.size_toArray, ln]; exact hl, by simpa using rv⟩)) (fun b u z => ?_) (fun b z => absurd rfl z) fun z => absurd rfl z
    have z' : (none : Option HO) = some u := z
    cases z'
  | none =>
    let o : Obj := { cls := .type "list", data := .seq vs.toArray }
    refine law_at KX hns hb hbb hlim hg ha hr F hbind (fun b => if b = a then some (.frz o (.lst (ns.map V.int))) else none) (fun b => ?_) (hsp _ (.inl (.inr ⟨o, if_pos rfl⟩))) (fun b u z => ?_) (fun b z => ?_) fun _ => hk
    · by_cases c : b = a
      · exact .inr ⟨_, _, if_pos c⟩
      · exact .inl (if_neg c)
    · by_cases c : b = a
      · have z' := (if_pos c).symm.trans z
        cases z'
        subst c
        exact ⟨ha, by rw [List.length_map]; exact hl, vs, _, rv, ha⟩
      · have z' := (if_neg c).symm.trans z
        cases z'
    · exact Decidable.byContradiction fun c => z (if_neg c)
end
theorem walk {l : PySem.W.OpenLaw} {q : Program} {loose : List Str} {XP : (Str → Option Value) → Heap → Prop} {YP : World → Heap → Prop} {d : DefRec} {K : Params → PySem.W.Frag} (hn : l.most = some 63) (hdf : d.params.defaults = [])
    (hY : ∀ (w : World) (h : Heap), YP w h → (K w.params).In h)
    (F : ∀ (w : World) (mg : Str → Option Value) (fa : Addr) (h : Heap), (K w.params).In h → h.Ns mainGlobals mg → mg d.name = some (.ref fa) →
      ∃ fd : FuncData, (∀ (s : Shared) (u : Value), BindsTo s fd ⟨[u], []⟩ [("_law_script", u)]) ∧ ∀ base : Heap, (K w.params).In base → base.Ns mainGlobals mg → RunG l.prog w (K w.params) mg base 9 fa fd ["_law_script"] (spLaw (K w.params))) :
    PySem.W.WalkO q loose XP YP l.row.toRowW d [] (fun f vs => PySem.call f vs) := by
  refine Att.attach_call hn hdf fun w s₀ s₁ mg mb fa o pm cd doc a vs ns G Y ho hd hcd hmg hobj hints hlen hg => ?_
  have KX := hY w _ Y
  obtain ⟨fd, hb, hF⟩ := F w mg fa _ KX G.T.g hmg
  exact law_run KX G.T.g G.T.b G.T.builtins G.T.nolimit hg hobj hints (Nat.le_trans hlen (by decide)) ⟨rfl, by decide, by decide⟩ hF hb fun H hS => ⟨a, ns, rfl, hS, hlen, fun _ => rfl⟩
end Wk
end
section
set_option Elab.async false
set_option linter.all false
set_option maxRecDepth 100000
namespace Wk
open PySem PySem.Spec PyProof.Rows L2 Evl

theorem dfn_mk {K : PySem.W.Frag} {h : Heap} {mg : Str → Option Value} {x : Str} {st : Stmt} {f : Addr} {ps : List Str} {oc kV dc pm cd ct : Value} {od an : Option Addr} {sl : Array (Option Value)} (X : K.In h) (G : h.Ns mainGlobals mg)
    (a : PySem.W.nsIn K mainGlobals x = some (some (.ref f))) (l : K.lookup f = some ⟨oc, od, .func (PySem.W.fnOf x x (defArgs st) (defBody st) (defScope st) .none kV dc pm an cd ct), sl⟩) (c : PySem.W.codeIn K cd x = true) (k : PySem.W.keepIn K (.ref f) = true)
    (b : ∀ (kV doc pm : Value) (an : Option Addr) (cdv ct : Value) (us : List Value), us.length = ps.length → bindArgs (PySem.W.fnOf x x (defArgs st) (defBody st) (defScope st) .none kV doc pm an cdv ct) ⟨us, []⟩ = pure (ps.zip us)) :
    Dfn K mg x st f (PySem.W.fnOf x x (defArgs st) (defBody st) (defScope st) .none kV dc pm an cd ct) ps :=
  ⟨fun_mk l c k, PySem.W.mg_of X G a, (fun_mk (st := st) l c k).binds b⟩
theorem calK_of {P : Program} {w : World} {K : PySem.W.Frag} {mg : Str → Option Value} {base : Heap} {k : Nat} {x p q : Str} {st : Stmt} {f : Addr} {fd : FuncData} {s : Sp} (c : Cal P w K mg base k x [p, q] s) (D : Dfn K mg x st f fd [p, q])
    (hb : ∀ (kV doc pm : Value) (an : Option Addr) (cdv ct a b : Value), bindArgs (PySem.W.fnOf x x (defArgs st) (defBody st) (defScope st) .none kV doc pm an cdv ct) ⟨[], [(q, a), (p, b)]⟩ = pure [(p, b), (q, a)]) : CalK P w K mg base k x [p, q] [q, p] swapL swapL s := by
  obtain ⟨f', fd', F, hm, kp, b, st', fn'⟩ := c.ex
  have e := D.mgf.symm.trans hm
  cases e
  obtain ⟨oc, od, kV, doc, pm, an, cdv, ct, osl, ef, lk, hcd⟩ := D.fn.ex
  obtain ⟨oc', od', kV', doc', pm', an', cdv', ct', osl', ef', lk', hcd'⟩ := fn'.ex
  have el := lk.symm.trans lk'
  have efd : fd = fd' := by
    injection el with el
    injection el with _ _ e3 _
    injection e3
  subst efd
  refine ⟨f, fd, F, hm, kp, ⟨fun s us ws _ hl => ?_, swap_rel⟩⟩
  match us, ws, hl with
  | [], [a, b], _ =>
    rw [ef]
    exact .of_eq (hb _ _ _ _ _ _ _ _)

set_option maxHeartbeats 0 in
theorem run_all {P : Program} {w : World} {K : PySem.W.Frag} {mg : Str → Option Value} {base : Heap} {f : Addr} {fd : FuncData} (B : Bt mg) {f__law_sack : Addr} {fd__law_sack : FuncData} {f_is_whole : Addr} {fd_is_whole : FuncData} {f_are_wholes : Addr} {fd_are_wholes : FuncData} {f_common_divisor : Addr} {fd_common_divisor : FuncData} {f_is_lowest : Addr} {fd_is_lowest : FuncData} {f_is_vector : Addr} {fd_is_vector : FuncData} {f_lowest : Addr} {fd_lowest : FuncData} {f_is_left : Addr} {fd_is_left : FuncData} {f_chain : Addr} {fd_chain : FuncData} {f_hull : Addr} {fd_hull : FuncData} {f_is_shape : Addr} {fd_is_shape : FuncData} {f_check_polygon : Addr} {fd_check_polygon : FuncData} {f_is_border : Addr} {fd_is_border : FuncData} {f_check_shores : Addr} {fd_check_shores : FuncData} {f_value_at : Addr} {fd_value_at : FuncData} {f_next_corner : Addr} {fd_next_corner : FuncData} {f_line_point : Addr} {fd_line_point : FuncData} {f_cut : Addr} {fd_cut : FuncData} {f_part_off : Addr} {fd_part_off : FuncData} {f_holds_off : Addr} {fd_holds_off : FuncData} {f_held_with : Addr} {fd_held_with : FuncData} {f_pair_against : Addr} {fd_pair_against : FuncData} {f_embayed_by : Addr} {fd_embayed_by : FuncData} {f_check_weights : Addr} {fd_check_weights : FuncData} {f_is_barred : Addr} {fd_is_barred : FuncData} {f_bars : Addr} {fd_bars : FuncData} {f_border_weights : Addr} {fd_border_weights : FuncData} {f_barring_weights : Addr} {fd_barring_weights : FuncData} {f__law_draw : Addr} {fd__law_draw : FuncData} {f__law_one : Addr} {fd__law_one : FuncData} {f__law_gcd : Addr} {fd__law_gcd : FuncData} {f__law_spot : Addr} {fd__law_spot : FuncData} {f__law_said : Addr} {fd__law_said : FuncData} {f__law_bend : Addr} {fd__law_bend : FuncData} {f__law_chain : Addr} {fd__law_chain : FuncData} {f__law_rim : Addr} {fd__law_rim : FuncData} {f__law_speeds : Addr} {fd__law_speeds : FuncData} {f__law_side : Addr} {fd__law_side : FuncData} {f__law_worth : Addr} {fd__law_worth : FuncData} {f__law_cut : Addr} {fd__law_cut : FuncData} {f__law_left : Addr} {fd__law_left : FuncData} {f__law_pair : Addr} {fd__law_pair : FuncData} {f__law_is_row : Addr} {fd__law_is_row : FuncData} {f__law_are_weights : Addr} {fd__law_are_weights : FuncData} {f__law_forms : Addr} {fd__law_forms : FuncData} {f__law_is_in : Addr} {fd__law_is_in : FuncData} {f__law_is_spot : Addr} {fd__law_is_spot : FuncData} {f__law_is_good : Addr} {fd__law_is_good : FuncData} {f__law_right : Addr} {fd__law_right : FuncData}
    (d__law_sack : Dfn K mg "_law_sack" s__law_sack f__law_sack fd__law_sack ["_law_script", "_law_turn"]) (d_is_whole : Dfn K mg "is_whole" s_is_whole f_is_whole fd_is_whole ["value"]) (d_are_wholes : Dfn K mg "are_wholes" s_are_wholes f_are_wholes fd_are_wholes ["value", "many"]) (d_common_divisor : Dfn K mg "common_divisor" s_common_divisor f_common_divisor fd_common_divisor ["numbers"]) (d_is_lowest : Dfn K mg "is_lowest" s_is_lowest f_is_lowest fd_is_lowest ["numbers"]) (d_is_vector : Dfn K mg "is_vector" s_is_vector f_is_vector fd_is_vector ["value"]) (d_lowest : Dfn K mg "lowest" s_lowest f_lowest fd_lowest ["numbers"]) (d_is_left : Dfn K mg "is_left" s_is_left f_is_left fd_is_left ["one", "two", "three"]) (d_chain : Dfn K mg "chain" s_chain f_chain fd_chain ["rows"]) (d_hull : Dfn K mg "hull" s_hull f_hull fd_hull ["points"]) (d_is_shape : Dfn K mg "is_shape" s_is_shape f_is_shape fd_is_shape ["value"]) (d_check_polygon : Dfn K mg "check_polygon" s_check_polygon f_check_polygon fd_check_polygon ["value"]) (d_is_border : Dfn K mg "is_border" s_is_border f_is_border fd_is_border ["value"]) (d_check_shores : Dfn K mg "check_shores" s_check_shores f_check_shores fd_check_shores ["value"]) (d_value_at : Dfn K mg "value_at" s_value_at f_value_at fd_value_at ["side", "point"]) (d_next_corner : Dfn K mg "next_corner" s_next_corner f_next_corner fd_next_corner ["polygon", "at"]) (d_line_point : Dfn K mg "line_point" s_line_point f_line_point fd_line_point ["one", "two", "side"]) (d_cut : Dfn K mg "cut" s_cut f_cut fd_cut ["polygon", "side"]) (d_part_off : Dfn K mg "part_off" s_part_off f_part_off fd_part_off ["velocities", "shores"]) (d_holds_off : Dfn K mg "holds_off" s_holds_off f_holds_off fd_holds_off ["velocities", "shores"]) (d_held_with : Dfn K mg "held_with" s_held_with f_held_with fd_held_with ["velocities", "shores"]) (d_pair_against : Dfn K mg "pair_against" s_pair_against f_pair_against fd_pair_against ["velocities", "shores"]) (d_embayed_by : Dfn K mg "embayed_by" s_embayed_by f_embayed_by fd_embayed_by ["velocities", "shores"]) (d_check_weights : Dfn K mg "check_weights" s_check_weights f_check_weights fd_check_weights ["shores", "value"]) (d_is_barred : Dfn K mg "is_barred" s_is_barred f_is_barred fd_is_barred ["velocities", "shores", "weights"]) (d_bars : Dfn K mg "bars" s_bars f_bars fd_bars ["velocities", "shores", "weights"]) (d_border_weights : Dfn K mg "border_weights" s_border_weights f_border_weights fd_border_weights ["velocities", "shore", "other"]) (d_barring_weights : Dfn K mg "barring_weights" s_barring_weights f_barring_weights fd_barring_weights ["velocities", "shores"]) (d__law_draw : Dfn K mg "_law_draw" s__law_draw f__law_draw fd__law_draw ["_law_sack_here", "_law_size"]) (d__law_one : Dfn K mg "_law_one" s__law_one f__law_one fd__law_one ["_law_sack_here", "_law_some"]) (d__law_gcd : Dfn K mg "_law_gcd" s__law_gcd f__law_gcd fd__law_gcd ["_law_one_here", "_law_two"]) (d__law_spot : Dfn K mg "_law_spot" s__law_spot f__law_spot fd__law_spot ["_law_x", "_law_y", "_law_w"]) (d__law_said : Dfn K mg "_law_said" s__law_said f__law_said fd__law_said ["_law_dots", "_law_scale"]) (d__law_bend : Dfn K mg "_law_bend" s__law_bend f__law_bend fd__law_bend ["_law_a", "_law_b", "_law_c"]) (d__law_chain : Dfn K mg "_law_chain" s__law_chain f__law_chain fd__law_chain ["_law_dots"]) (d__law_rim : Dfn K mg "_law_rim" s__law_rim f__law_rim fd__law_rim ["_law_dots"]) (d__law_speeds : Dfn K mg "_law_speeds" s__law_speeds f__law_speeds fd__law_speeds ["_law_sack_here"]) (d__law_side : Dfn K mg "_law_side" s__law_side f__law_side fd__law_side ["_law_sack_here"]) (d__law_worth : Dfn K mg "_law_worth" s__law_worth f__law_worth fd__law_worth ["_law_spot_here", "_law_form"]) (d__law_cut : Dfn K mg "_law_cut" s__law_cut f__law_cut fd__law_cut ["_law_spots", "_law_form"]) (d__law_left : Dfn K mg "_law_left" s__law_left f__law_left fd__law_left ["_law_spots", "_law_banks"]) (d__law_pair : Dfn K mg "_law_pair" s__law_pair f__law_pair fd__law_pair ["_law_spots", "_law_banks"]) (d__law_is_row : Dfn K mg "_law_is_row" s__law_is_row f__law_is_row fd__law_is_row ["_law_value", "_law_size"]) (d__law_are_weights : Dfn K mg "_law_are_weights" s__law_are_weights f__law_are_weights fd__law_are_weights ["_law_loads", "_law_dots", "_law_banks"]) (d__law_forms : Dfn K mg "_law_forms" s__law_forms f__law_forms fd__law_forms ["_law_spots"]) (d__law_is_in : Dfn K mg "_law_is_in" s__law_is_in f__law_is_in fd__law_is_in ["_law_spot_here", "_law_forms_here"]) (d__law_is_spot : Dfn K mg "_law_is_spot" s__law_is_spot f__law_is_spot fd__law_is_spot ["_law_value"]) (d__law_is_good : Dfn K mg "_law_is_good" s__law_is_good f__law_is_good fd__law_is_good ["_law_spot_here", "_law_speeds_here", "_law_banks"]) (d__law_right : Dfn K mg "_law_right" s__law_right f__law_right fd__law_right ["_law_sack_here"]) (F : L2.Fun K "law" "law" s_law f fd) : RunG P w K mg base 9 f fd ["_law_script"] (spLaw K) := by
  have c__law_sack := ok__law_sack (P := P) (w := w) (base := base) d__law_sack B
  have c_is_whole := ok_is_whole (P := P) (w := w) (base := base) d_is_whole B
  have c_are_wholes := ok_are_wholes (P := P) (w := w) (base := base) d_are_wholes B c_is_whole
  have c_common_divisor := ok_common_divisor (P := P) (w := w) (base := base) d_common_divisor B
  have c_is_lowest := ok_is_lowest (P := P) (w := w) (base := base) d_is_lowest B c_common_divisor
  have c_is_vector := ok_is_vector (P := P) (w := w) (base := base) d_is_vector B c_are_wholes c_is_lowest
  have c_lowest := ok_lowest (P := P) (w := w) (base := base) d_lowest B c_common_divisor
  have c_is_left := ok_is_left (P := P) (w := w) (base := base) d_is_left B
  have c_chain := ok_chain (P := P) (w := w) (base := base) d_chain B c_is_left
  have c_hull := ok_hull (P := P) (w := w) (base := base) d_hull B c_lowest c_chain
  have c_is_shape := ok_is_shape (P := P) (w := w) (base := base) d_is_shape B c_is_vector c_hull
  have c_check_polygon := ok_check_polygon (P := P) (w := w) (base := base) d_check_polygon B c_is_shape
  have c_is_border := ok_is_border (P := P) (w := w) (base := base) d_is_border B c_are_wholes c_is_lowest
  have c_check_shores := ok_check_shores (P := P) (w := w) (base := base) d_check_shores B c_is_border
  have c_value_at := ok_value_at (P := P) (w := w) (base := base) d_value_at B
  have c_next_corner := ok_next_corner (P := P) (w := w) (base := base) d_next_corner B
  have c_line_point := ok_line_point (P := P) (w := w) (base := base) d_line_point B c_lowest c_value_at
  have c_cut := ok_cut (P := P) (w := w) (base := base) d_cut B c_value_at c_hull c_next_corner c_line_point
  have c_part_off := ok_part_off (P := P) (w := w) (base := base) d_part_off B c_cut
  have c_holds_off := ok_holds_off (P := P) (w := w) (base := base) d_holds_off B c_check_polygon c_check_shores c_part_off
  have k_holds_off := calK_of c_holds_off d_holds_off fun _ _ _ _ _ _ _ _ => rfl
  have c_held_with := ok_held_with (P := P) (w := w) (base := base) d_held_with B c_check_polygon c_check_shores c_part_off
  have c_pair_against := ok_pair_against (P := P) (w := w) (base := base) d_pair_against B c_part_off
  have c_embayed_by := ok_embayed_by (P := P) (w := w) (base := base) d_embayed_by B c_check_polygon c_check_shores c_pair_against
  have k_embayed_by := calK_of c_embayed_by d_embayed_by fun _ _ _ _ _ _ _ _ => rfl
  have c_check_weights := ok_check_weights (P := P) (w := w) (base := base) d_check_weights B c_is_whole
  have c_is_barred := ok_is_barred (P := P) (w := w) (base := base) d_is_barred B
  have c_bars := ok_bars (P := P) (w := w) (base := base) d_bars B c_check_polygon c_check_shores c_check_weights c_is_barred
  have c_border_weights := ok_border_weights (P := P) (w := w) (base := base) d_border_weights B c_lowest
  have c_barring_weights := ok_barring_weights (P := P) (w := w) (base := base) d_barring_weights B c_check_polygon c_check_shores c_pair_against c_is_barred c_border_weights
  have c__law_draw := ok__law_draw (P := P) (w := w) (base := base) d__law_draw B
  have c__law_one := ok__law_one (P := P) (w := w) (base := base) d__law_one B c__law_draw
  have c__law_gcd := ok__law_gcd (P := P) (w := w) (base := base) d__law_gcd B
  have c__law_spot := ok__law_spot (P := P) (w := w) (base := base) d__law_spot B c__law_gcd
  have c__law_said := ok__law_said (P := P) (w := w) (base := base) d__law_said B c__law_spot
  have c__law_bend := ok__law_bend (P := P) (w := w) (base := base) d__law_bend B
  have c__law_chain := ok__law_chain (P := P) (w := w) (base := base) d__law_chain B c__law_bend
  have c__law_rim := ok__law_rim (P := P) (w := w) (base := base) d__law_rim B c__law_chain
  have c__law_speeds := ok__law_speeds (P := P) (w := w) (base := base) d__law_speeds B c__law_draw c__law_rim
  have c__law_side := ok__law_side (P := P) (w := w) (base := base) d__law_side B c__law_draw c__law_gcd
  have c__law_worth := ok__law_worth (P := P) (w := w) (base := base) d__law_worth B
  have c__law_cut := ok__law_cut (P := P) (w := w) (base := base) d__law_cut B c__law_spot c__law_worth
  have c__law_left := ok__law_left (P := P) (w := w) (base := base) d__law_left B c__law_cut
  have c__law_pair := ok__law_pair (P := P) (w := w) (base := base) d__law_pair B c__law_left
  have c__law_is_row := ok__law_is_row (P := P) (w := w) (base := base) d__law_is_row B
  have c__law_are_weights := ok__law_are_weights (P := P) (w := w) (base := base) d__law_are_weights B c__law_is_row
  have c__law_forms := ok__law_forms (P := P) (w := w) (base := base) d__law_forms B
  have c__law_is_in := ok__law_is_in (P := P) (w := w) (base := base) d__law_is_in B c__law_worth
  have c__law_is_spot := ok__law_is_spot (P := P) (w := w) (base := base) d__law_is_spot B c__law_gcd c__law_is_row
  have c__law_is_good := ok__law_is_good (P := P) (w := w) (base := base) d__law_is_good B c__law_forms c__law_is_in c__law_is_spot
  have c__law_right := ok__law_right (P := P) (w := w) (base := base) d__law_right B c_holds_off c_held_with c_embayed_by c_bars c_barring_weights c__law_one c__law_said c__law_speeds c__law_side c__law_left c__law_pair c__law_are_weights c__law_is_good k_holds_off k_embayed_by
  exact ok_law F B c__law_sack c__law_right
set_option maxHeartbeats 0 in
theorem all_mk {l : PySem.W.OpenLaw} {w : World} {K : PySem.W.Frag} {h : Heap} {mg : Str → Option Value} {fa : Addr} (X : K.In h) (G : h.Ns mainGlobals mg) (hfa : mg "law" = some (.ref fa))
    {f0 : Addr} {od0 an0 : Option Addr} {sl0 : Array (Option Value)} {oc0 kV0 dc0 pm0 cd0 ct0 : Value} {f1 : Addr} {od1 an1 : Option Addr} {sl1 : Array (Option Value)} {oc1 kV1 dc1 pm1 cd1 ct1 : Value} {f2 : Addr} {od2 an2 : Option Addr} {sl2 : Array (Option Value)} {oc2 kV2 dc2 pm2 cd2 ct2 : Value} {f3 : Addr} {od3 an3 : Option Addr} {sl3 : Array (Option Value)} {oc3 kV3 dc3 pm3 cd3 ct3 : Value} {f4 : Addr} {od4 an4 : Option Addr} {sl4 : Array (Option Value)} {oc4 kV4 dc4 pm4 cd4 ct4 : Value} {f5 : Addr} {od5 an5 : Option Addr} {sl5 : Array (Option Value)} {oc5 kV5 dc5 pm5 cd5 ct5 : Value} {f6 : Addr} {od6 an6 : Option Addr} {sl6 : Array (Option Value)} {oc6 kV6 dc6 pm6 cd6 ct6 : Value} {f7 : Addr} {od7 an7 : Option Addr} {sl7 : Array (Option Value)} {oc7 kV7 dc7 pm7 cd7 ct7 : Value} {f8 : Addr} {od8 an8 : Option Addr} {sl8 : Array (Option Value)} {oc8 kV8 dc8 pm8 cd8 ct8 : Value} {f9 : Addr} {od9 an9 : Option Addr} {sl9 : Array (Option Value)} {oc9 kV9 dc9 pm9 cd9 ct9 : Value} {f10 : Addr} {od10 an10 : Option Addr} {sl10 : Array (Option Value)} {oc10 kV10 dc10 pm10 cd10 ct10 : Value} {f11 : Addr} {od11 an11 : Option Addr} {sl11 : Array (Option Value)} {oc11 kV11 dc11 pm11 cd11 ct11 : Value} {f12 : Addr} {od12 an12 : Option Addr} {sl12 : Array (Option Value)} {oc12 kV12 dc12 pm12 cd12 ct12 : Value} {f13 : Addr} {od13 an13 : Option Addr} {sl13 : Array (Option Value)} {oc13 kV13 dc13 pm13 cd13 ct13 : Value} {f14 : Addr} {od14 an14 : Option Addr} {sl14 : Array (Option Value)} {oc14 kV14 dc14 pm14 cd14 ct14 : Value} {f15 : Addr} {od15 an15 : Option Addr} {sl15 : Array (Option Value)} {oc15 kV15 dc15 pm15 cd15 ct15 : Value} {f16 : Addr} {od16 an16 : Option Addr} {sl16 : Array (Option Value)} {oc16 kV16 dc16 pm16 cd16 ct16 : Value} {f17 : Addr} {od17 an17 : Option Addr} {sl17 : Array (Option Value)} {oc17 kV17 dc17 pm17 cd17 ct17 : Value} {f18 : Addr} {od18 an18 : Option Addr} {sl18 : Array (Option Value)} {oc18 kV18 dc18 pm18 cd18 ct18 : Value} {f19 : Addr} {od19 an19 : Option Addr} {sl19 : Array (Option Value)} {oc19 kV19 dc19 pm19 cd19 ct19 : Value} {f20 : Addr} {od20 an20 : Option Addr} {sl20 : Array (Option Value)} {oc20 kV20 dc20 pm20 cd20 ct20 : Value} {f21 : Addr} {od21 an21 : Option Addr} {sl21 : Array (Option Value)} {oc21 kV21 dc21 pm21 cd21 ct21 : Value} {f22 : Addr} {od22 an22 : Option Addr} {sl22 : Array (Option Value)} {oc22 kV22 dc22 pm22 cd22 ct22 : Value} {f23 : Addr} {od23 an23 : Option Addr} {sl23 : Array (Option Value)} {oc23 kV23 dc23 pm23 cd23 ct23 : Value} {f24 : Addr} {od24 an24 : Option Addr} {sl24 : Array (Option Value)} {oc24 kV24 dc24 pm24 cd24 ct24 : Value} {f25 : Addr} {od25 an25 : Option Addr} {sl25 : Array (Option Value)} {oc25 kV25 dc25 pm25 cd25 ct25 : Value} {f26 : Addr} {od26 an26 : Option Addr} {sl26 : Array (Option Value)} {oc26 kV26 dc26 pm26 cd26 ct26 : Value} {f27 : Addr} {od27 an27 : Option Addr} {sl27 : Array (Option Value)} {oc27 kV27 dc27 pm27 cd27 ct27 : Value} {f28 : Addr} {od28 an28 : Option Addr} {sl28 : Array (Option Value)} {oc28 kV28 dc28 pm28 cd28 ct28 : Value} {f29 : Addr} {od29 an29 : Option Addr} {sl29 : Array (Option Value)} {oc29 kV29 dc29 pm29 cd29 ct29 : Value} {f30 : Addr} {od30 an30 : Option Addr} {sl30 : Array (Option Value)} {oc30 kV30 dc30 pm30 cd30 ct30 : Value} {f31 : Addr} {od31 an31 : Option Addr} {sl31 : Array (Option Value)} {oc31 kV31 dc31 pm31 cd31 ct31 : Value} {f32 : Addr} {od32 an32 : Option Addr} {sl32 : Array (Option Value)} {oc32 kV32 dc32 pm32 cd32 ct32 : Value} {f33 : Addr} {od33 an33 : Option Addr} {sl33 : Array (Option Value)} {oc33 kV33 dc33 pm33 cd33 ct33 : Value} {f34 : Addr} {od34 an34 : Option Addr} {sl34 : Array (Option Value)} {oc34 kV34 dc34 pm34 cd34 ct34 : Value} {f35 : Addr} {od35 an35 : Option Addr} {sl35 : Array (Option Value)} {oc35 kV35 dc35 pm35 cd35 ct35 : Value} {f36 : Addr} {od36 an36 : Option Addr} {sl36 : Array (Option Value)} {oc36 kV36 dc36 pm36 cd36 ct36 : Value} {f37 : Addr} {od37 an37 : Option Addr} {sl37 : Array (Option Value)} {oc37 kV37 dc37 pm37 cd37 ct37 : Value} {f38 : Addr} {od38 an38 : Option Addr} {sl38 : Array (Option Value)} {oc38 kV38 dc38 pm38 cd38 ct38 : Value} {f39 : Addr} {od39 an39 : Option Addr} {sl39 : Array (Option Value)} {oc39 kV39 dc39 pm39 cd39 ct39 : Value} {f40 : Addr} {od40 an40 : Option Addr} {sl40 : Array (Option Value)} {oc40 kV40 dc40 pm40 cd40 ct40 : Value} {f41 : Addr} {od41 an41 : Option Addr} {sl41 : Array (Option Value)} {oc41 kV41 dc41 pm41 cd41 ct41 : Value} {f42 : Addr} {od42 an42 : Option Addr} {sl42 : Array (Option Value)} {oc42 kV42 dc42 pm42 cd42 ct42 : Value} {f43 : Addr} {od43 an43 : Option Addr} {sl43 : Array (Option Value)} {oc43 kV43 dc43 pm43 cd43 ct43 : Value} {f44 : Addr} {od44 an44 : Option Addr} {sl44 : Array (Option Value)} {oc44 kV44 dc44 pm44 cd44 ct44 : Value} {f45 : Addr} {od45 an45 : Option Addr} {sl45 : Array (Option Value)} {oc45 kV45 dc45 pm45 cd45 ct45 : Value} {f46 : Addr} {od46 an46 : Option Addr} {sl46 : Array (Option Value)} {oc46 kV46 dc46 pm46 cd46 ct46 : Value} {f47 : Addr} {od47 an47 : Option Addr} {sl47 : Array (Option Value)} {oc47 kV47 dc47 pm47 cd47 ct47 : Value} {f48 : Addr} {od48 an48 : Option Addr} {sl48 : Array (Option Value)} {oc48 kV48 dc48 pm48 cd48 ct48 : Value} {f49 : Addr} {od49 an49 : Option Addr} {sl49 : Array (Option Value)} {oc49 kV49 dc49 pm49 cd49 ct49 : Value}
    (a0 : PySem.W.nsIn K mainGlobals "_law_sack" = some (some (.ref f0))) (l0 : K.lookup f0 = some ⟨oc0, od0, .func (PySem.W.fnOf "_law_sack" "_law_sack" (defArgs s__law_sack) (defBody s__law_sack) (defScope s__law_sack) .none kV0 dc0 pm0 an0 cd0 ct0), sl0⟩) (c0 : PySem.W.codeIn K cd0 "_law_sack" = true) (k0 : PySem.W.keepIn K (.ref f0) = true)
    (a1 : PySem.W.nsIn K mainGlobals "is_whole" = some (some (.ref f1))) (l1 : K.lookup f1 = some ⟨oc1, od1, .func (PySem.W.fnOf "is_whole" "is_whole" (defArgs s_is_whole) (defBody s_is_whole) (defScope s_is_whole) .none kV1 dc1 pm1 an1 cd1 ct1), sl1⟩) (c1 : PySem.W.codeIn K cd1 "is_whole" = true) (k1 : PySem.W.keepIn K (.ref f1) = true)
    (a2 : PySem.W.nsIn K mainGlobals "are_wholes" = some (some (.ref f2))) (l2 : K.lookup f2 = some ⟨oc2, od2, .func (PySem.W.fnOf "are_wholes" "are_wholes" (defArgs s_are_wholes) (defBody s_are_wholes) (defScope s_are_wholes) .none kV2 dc2 pm2 an2 cd2 ct2), sl2⟩) (c2 : PySem.W.codeIn K cd2 "are_wholes" = true) (k2 : PySem.W.keepIn K (.ref f2) = true)
    (a3 : PySem.W.nsIn K mainGlobals "common_divisor" = some (some (.ref f3))) (l3 : K.lookup f3 = some ⟨oc3, od3, .func (PySem.W.fnOf "common_divisor" "common_divisor" (defArgs s_common_divisor) (defBody s_common_divisor) (defScope s_common_divisor) .none kV3 dc3 pm3 an3 cd3 ct3), sl3⟩) (c3 : PySem.W.codeIn K cd3 "common_divisor" = true) (k3 : PySem.W.keepIn K (.ref f3) = true)
    (a4 : PySem.W.nsIn K mainGlobals "is_lowest" = some (some (.ref f4))) (l4 : K.lookup f4 = some ⟨oc4, od4, .func (PySem.W.fnOf "is_lowest" "is_lowest" (defArgs s_is_lowest) (defBody s_is_lowest) (defScope s_is_lowest) .none kV4 dc4 pm4 an4 cd4 ct4), sl4⟩) (c4 : PySem.W.codeIn K cd4 "is_lowest" = true) (k4 : PySem.W.keepIn K (.ref f4) = true)
    (a5 : PySem.W.nsIn K mainGlobals "is_vector" = some (some (.ref f5))) (l5 : K.lookup f5 = some ⟨oc5, od5, .func (PySem.W.fnOf "is_vector" "is_vector" (defArgs s_is_vector) (defBody s_is_vector) (defScope s_is_vector) .none kV5 dc5 pm5 an5 cd5 ct5), sl5⟩) (c5 : PySem.W.codeIn K cd5 "is_vector" = true) (k5 : PySem.W.keepIn K (.ref f5) = true)
    (a6 : PySem.W.nsIn K mainGlobals "lowest" = some (some (.ref f6))) (l6 : K.lookup f6 = some ⟨oc6, od6, .func (PySem.W.fnOf "lowest" "lowest" (defArgs s_lowest) (defBody s_lowest) (defScope s_lowest) .none kV6 dc6 pm6 an6 cd6 ct6), sl6⟩) (c6 : PySem.W.codeIn K cd6 "lowest" = true) (k6 : PySem.W.keepIn K (.ref f6) = true)
    (a7 : PySem.W.nsIn K mainGlobals "is_left" = some (some (.ref f7))) (l7 : K.lookup f7 = some ⟨oc7, od7, .func (PySem.W.fnOf "is_left" "is_left" (defArgs s_is_left) (defBody s_is_left) (defScope s_is_left) .none kV7 dc7 pm7 an7 cd7 ct7), sl7⟩) (c7 : PySem.W.codeIn K cd7 "is_left" = true) (k7 : PySem.W.keepIn K (.ref f7) = true)
    (a8 : PySem.W.nsIn K mainGlobals "chain" = some (some (.ref f8))) (l8 : K.lookup f8 = some ⟨oc8, od8, .func (PySem.W.fnOf "chain" "chain" (defArgs s_chain) (defBody s_chain) (defScope s_chain) .none kV8 dc8 pm8 an8 cd8 ct8), sl8⟩) (c8 : PySem.W.codeIn K cd8 "chain" = true) (k8 : PySem.W.keepIn K (.ref f8) = true)
    (a9 : PySem.W.nsIn K mainGlobals "hull" = some (some (.ref f9))) (l9 : K.lookup f9 = some ⟨oc9, od9, .func (PySem.W.fnOf "hull" "hull" (defArgs s_hull) (defBody s_hull) (defScope s_hull) .none kV9 dc9 pm9 an9 cd9 ct9), sl9⟩) (c9 : PySem.W.codeIn K cd9 "hull" = true) (k9 : PySem.W.keepIn K (.ref f9) = true)
    (a10 : PySem.W.nsIn K mainGlobals "is_shape" = some (some (.ref f10))) (l10 : K.lookup f10 = some ⟨oc10, od10, .func (PySem.W.fnOf "is_shape" "is_shape" (defArgs s_is_shape) (defBody s_is_shape) (defScope s_is_shape) .none kV10 dc10 pm10 an10 cd10 ct10), sl10⟩) (c10 : PySem.W.codeIn K cd10 "is_shape" = true) (k10 : PySem.W.keepIn K (.ref f10) = true)
    (a11 : PySem.W.nsIn K mainGlobals "check_polygon" = some (some (.ref f11))) (l11 : K.lookup f11 = some ⟨oc11, od11, .func (PySem.W.fnOf "check_polygon" "check_polygon" (defArgs s_check_polygon) (defBody s_check_polygon) (defScope s_check_polygon) .none kV11 dc11 pm11 an11 cd11 ct11), sl11⟩) (c11 : PySem.W.codeIn K cd11 "check_polygon" = true) (k11 : PySem.W.keepIn K (.ref f11) = true)
    (a12 : PySem.W.nsIn K mainGlobals "is_border" = some (some (.ref f12))) (l12 : K.lookup f12 = some ⟨oc12, od12, .func (PySem.W.fnOf "is_border" "is_border" (defArgs s_is_border) (defBody s_is_border) (defScope s_is_border) .none kV12 dc12 pm12 an12 cd12 ct12), sl12⟩) (c12 : PySem.W.codeIn K cd12 "is_border" = true) (k12 : PySem.W.keepIn K (.ref f12) = true)
    (a13 : PySem.W.nsIn K mainGlobals "check_shores" = some (some (.ref f13))) (l13 : K.lookup f13 = some ⟨oc13, od13, .func (PySem.W.fnOf "check_shores" "check_shores" (defArgs s_check_shores) (defBody s_check_shores) (defScope s_check_shores) .none kV13 dc13 pm13 an13 cd13 ct13), sl13⟩) (c13 : PySem.W.codeIn K cd13 "check_shores" = true) (k13 : PySem.W.keepIn K (.ref f13) = true)
    (a14 : PySem.W.nsIn K mainGlobals "value_at" = some (some (.ref f14))) (l14 : K.lookup f14 = some ⟨oc14, od14, .func (PySem.W.fnOf "value_at" "value_at" (defArgs s_value_at) (defBody s_value_at) (defScope s_value_at) .none kV14 dc14 pm14 an14 cd14 ct14), sl14⟩) (c14 : PySem.W.codeIn K cd14 "value_at" = true) (k14 : PySem.W.keepIn K (.ref f14) = true)
    (a15 : PySem.W.nsIn K mainGlobals "next_corner" = some (some (.ref f15))) (l15 : K.lookup f15 = some ⟨oc15, od15, .func (PySem.W.fnOf "next_corner" "next_corner" (defArgs s_next_corner) (defBody s_next_corner) (defScope s_next_corner) .none kV15 dc15 pm15 an15 cd15 ct15), sl15⟩) (c15 : PySem.W.codeIn K cd15 "next_corner" = true) (k15 : PySem.W.keepIn K (.ref f15) = true)
    (a16 : PySem.W.nsIn K mainGlobals "line_point" = some (some (.ref f16))) (l16 : K.lookup f16 = some ⟨oc16, od16, .func (PySem.W.fnOf "line_point" "line_point" (defArgs s_line_point) (defBody s_line_point) (defScope s_line_point) .none kV16 dc16 pm16 an16 cd16 ct16), sl16⟩) (c16 : PySem.W.codeIn K cd16 "line_point" = true) (k16 : PySem.W.keepIn K (.ref f16) = true)
    (a17 : PySem.W.nsIn K mainGlobals "cut" = some (some (.ref f17))) (l17 : K.lookup f17 = some ⟨oc17, od17, .func (PySem.W.fnOf "cut" "cut" (defArgs s_cut) (defBody s_cut) (defScope s_cut) .none kV17 dc17 pm17 an17 cd17 ct17), sl17⟩) (c17 : PySem.W.codeIn K cd17 "cut" = true) (k17 : PySem.W.keepIn K (.ref f17) = true)
    (a18 : PySem.W.nsIn K mainGlobals "part_off" = some (some (.ref f18))) (l18 : K.lookup f18 = some ⟨oc18, od18, .func (PySem.W.fnOf "part_off" "part_off" (defArgs s_part_off) (defBody s_part_off) (defScope s_part_off) .none kV18 dc18 pm18 an18 cd18 ct18), sl18⟩) (c18 : PySem.W.codeIn K cd18 "part_off" = true) (k18 : PySem.W.keepIn K (.ref f18) = true)
    (a19 : PySem.W.nsIn K mainGlobals "holds_off" = some (some (.ref f19))) (l19 : K.lookup f19 = some ⟨oc19, od19, .func (PySem.W.fnOf "holds_off" "holds_off" (defArgs s_holds_off) (defBody s_holds_off) (defScope s_holds_off) .none kV19 dc19 pm19 an19 cd19 ct19), sl19⟩) (c19 : PySem.W.codeIn K cd19 "holds_off" = true) (k19 : PySem.W.keepIn K (.ref f19) = true)
    (a20 : PySem.W.nsIn K mainGlobals "held_with" = some (some (.ref f20))) (l20 : K.lookup f20 = some ⟨oc20, od20, .func (PySem.W.fnOf "held_with" "held_with" (defArgs s_held_with) (defBody s_held_with) (defScope s_held_with) .none kV20 dc20 pm20 an20 cd20 ct20), sl20⟩) (c20 : PySem.W.codeIn K cd20 "held_with" = true) (k20 : PySem.W.keepIn K (.ref f20) = true)
    (a21 : PySem.W.nsIn K mainGlobals "pair_against" = some (some (.ref f21))) (l21 : K.lookup f21 = some ⟨oc21, od21, .func (PySem.W.fnOf "pair_against" "pair_against" (defArgs s_pair_against) (defBody s_pair_against) (defScope s_pair_against) .none kV21 dc21 pm21 an21 cd21 ct21), sl21⟩) (c21 : PySem.W.codeIn K cd21 "pair_against" = true) (k21 : PySem.W.keepIn K (.ref f21) = true)
    (a22 : PySem.W.nsIn K mainGlobals "embayed_by" = some (some (.ref f22))) (l22 : K.lookup f22 = some ⟨oc22, od22, .func (PySem.W.fnOf "embayed_by" "embayed_by" (defArgs s_embayed_by) (defBody s_embayed_by) (defScope s_embayed_by) .none kV22 dc22 pm22 an22 cd22 ct22), sl22⟩) (c22 : PySem.W.codeIn K cd22 "embayed_by" = true) (k22 : PySem.W.keepIn K (.ref f22) = true)
    (a23 : PySem.W.nsIn K mainGlobals "check_weights" = some (some (.ref f23))) (l23 : K.lookup f23 = some ⟨oc23, od23, .func (PySem.W.fnOf "check_weights" "check_weights" (defArgs s_check_weights) (defBody s_check_weights) (defScope s_check_weights) .none kV23 dc23 pm23 an23 cd23 ct23), sl23⟩) (c23 : PySem.W.codeIn K cd23 "check_weights" = true) (k23 : PySem.W.keepIn K (.ref f23) = true)
    (a24 : PySem.W.nsIn K mainGlobals "is_barred" = some (some (.ref f24))) (l24 : K.lookup f24 = some ⟨oc24, od24, .func (PySem.W.fnOf "is_barred" "is_barred" (defArgs s_is_barred) (defBody s_is_barred) (defScope s_is_barred) .none kV24 dc24 pm24 an24 cd24 ct24), sl24⟩) (c24 : PySem.W.codeIn K cd24 "is_barred" = true) (k24 : PySem.W.keepIn K (.ref f24) = true)
    (a25 : PySem.W.nsIn K mainGlobals "bars" = some (some (.ref f25))) (l25 : K.lookup f25 = some ⟨oc25, od25, .func (PySem.W.fnOf "bars" "bars" (defArgs s_bars) (defBody s_bars) (defScope s_bars) .none kV25 dc25 pm25 an25 cd25 ct25), sl25⟩) (c25 : PySem.W.codeIn K cd25 "bars" = true) (k25 : PySem.W.keepIn K (.ref f25) = true)
    (a26 : PySem.W.nsIn K mainGlobals "border_weights" = some (some (.ref f26))) (l26 : K.lookup f26 = some ⟨oc26, od26, .func (PySem.W.fnOf "border_weights" "border_weights" (defArgs s_border_weights) (defBody s_border_weights) (defScope s_border_weights) .none kV26 dc26 pm26 an26 cd26 ct26), sl26⟩) (c26 : PySem.W.codeIn K cd26 "border_weights" = true) (k26 : PySem.W.keepIn K (.ref f26) = true)
    (a27 : PySem.W.nsIn K mainGlobals "barring_weights" = some (some (.ref f27))) (l27 : K.lookup f27 = some ⟨oc27, od27, .func (PySem.W.fnOf "barring_weights" "barring_weights" (defArgs s_barring_weights) (defBody s_barring_weights) (defScope s_barring_weights) .none kV27 dc27 pm27 an27 cd27 ct27), sl27⟩) (c27 : PySem.W.codeIn K cd27 "barring_weights" = true) (k27 : PySem.W.keepIn K (.ref f27) = true)
    (a28 : PySem.W.nsIn K mainGlobals "_law_draw" = some (some (.ref f28))) (l28 : K.lookup f28 = some ⟨oc28, od28, .func (PySem.W.fnOf "_law_draw" "_law_draw" (defArgs s__law_draw) (defBody s__law_draw) (defScope s__law_draw) .none kV28 dc28 pm28 an28 cd28 ct28), sl28⟩) (c28 : PySem.W.codeIn K cd28 "_law_draw" = true) (k28 : PySem.W.keepIn K (.ref f28) = true)
    (a29 : PySem.W.nsIn K mainGlobals "_law_one" = some (some (.ref f29))) (l29 : K.lookup f29 = some ⟨oc29, od29, .func (PySem.W.fnOf "_law_one" "_law_one" (defArgs s__law_one) (defBody s__law_one) (defScope s__law_one) .none kV29 dc29 pm29 an29 cd29 ct29), sl29⟩) (c29 : PySem.W.codeIn K cd29 "_law_one" = true) (k29 : PySem.W.keepIn K (.ref f29) = true)
    (a30 : PySem.W.nsIn K mainGlobals "_law_gcd" = some (some (.ref f30))) (l30 : K.lookup f30 = some ⟨oc30, od30, .func (PySem.W.fnOf "_law_gcd" "_law_gcd" (defArgs s__law_gcd) (defBody s__law_gcd) (defScope s__law_gcd) .none kV30 dc30 pm30 an30 cd30 ct30), sl30⟩) (c30 : PySem.W.codeIn K cd30 "_law_gcd" = true) (k30 : PySem.W.keepIn K (.ref f30) = true)
    (a31 : PySem.W.nsIn K mainGlobals "_law_spot" = some (some (.ref f31))) (l31 : K.lookup f31 = some ⟨oc31, od31, .func (PySem.W.fnOf "_law_spot" "_law_spot" (defArgs s__law_spot) (defBody s__law_spot) (defScope s__law_spot) .none kV31 dc31 pm31 an31 cd31 ct31), sl31⟩) (c31 : PySem.W.codeIn K cd31 "_law_spot" = true) (k31 : PySem.W.keepIn K (.ref f31) = true)
    (a32 : PySem.W.nsIn K mainGlobals "_law_said" = some (some (.ref f32))) (l32 : K.lookup f32 = some ⟨oc32, od32, .func (PySem.W.fnOf "_law_said" "_law_said" (defArgs s__law_said) (defBody s__law_said) (defScope s__law_said) .none kV32 dc32 pm32 an32 cd32 ct32), sl32⟩) (c32 : PySem.W.codeIn K cd32 "_law_said" = true) (k32 : PySem.W.keepIn K (.ref f32) = true)
    (a33 : PySem.W.nsIn K mainGlobals "_law_bend" = some (some (.ref f33))) (l33 : K.lookup f33 = some ⟨oc33, od33, .func (PySem.W.fnOf "_law_bend" "_law_bend" (defArgs s__law_bend) (defBody s__law_bend) (defScope s__law_bend) .none kV33 dc33 pm33 an33 cd33 ct33), sl33⟩) (c33 : PySem.W.codeIn K cd33 "_law_bend" = true) (k33 : PySem.W.keepIn K (.ref f33) = true)
    (a34 : PySem.W.nsIn K mainGlobals "_law_chain" = some (some (.ref f34))) (l34 : K.lookup f34 = some ⟨oc34, od34, .func (PySem.W.fnOf "_law_chain" "_law_chain" (defArgs s__law_chain) (defBody s__law_chain) (defScope s__law_chain) .none kV34 dc34 pm34 an34 cd34 ct34), sl34⟩) (c34 : PySem.W.codeIn K cd34 "_law_chain" = true) (k34 : PySem.W.keepIn K (.ref f34) = true)
    (a35 : PySem.W.nsIn K mainGlobals "_law_rim" = some (some (.ref f35))) (l35 : K.lookup f35 = some ⟨oc35, od35, .func (PySem.W.fnOf "_law_rim" "_law_rim" (defArgs s__law_rim) (defBody s__law_rim) (defScope s__law_rim) .none kV35 dc35 pm35 an35 cd35 ct35), sl35⟩) (c35 : PySem.W.codeIn K cd35 "_law_rim" = true) (k35 : PySem.W.keepIn K (.ref f35) = true)
    (a36 : PySem.W.nsIn K mainGlobals "_law_speeds" = some (some (.ref f36))) (l36 : K.lookup f36 = some ⟨oc36, od36, .func (PySem.W.fnOf "_law_speeds" "_law_speeds" (defArgs s__law_speeds) (defBody s__law_speeds) (defScope s__law_speeds) .none kV36 dc36 pm36 an36 cd36 ct36), sl36⟩) (c36 : PySem.W.codeIn K cd36 "_law_speeds" = true) (k36 : PySem.W.keepIn K (.ref f36) = true)
    (a37 : PySem.W.nsIn K mainGlobals "_law_side" = some (some (.ref f37))) (l37 : K.lookup f37 = some ⟨oc37, od37, .func (PySem.W.fnOf "_law_side" "_law_side" (defArgs s__law_side) (defBody s__law_side) (defScope s__law_side) .none kV37 dc37 pm37 an37 cd37 ct37), sl37⟩) (c37 : PySem.W.codeIn K cd37 "_law_side" = true) (k37 : PySem.W.keepIn K (.ref f37) = true)
    (a38 : PySem.W.nsIn K mainGlobals "_law_worth" = some (some (.ref f38))) (l38 : K.lookup f38 = some ⟨oc38, od38, .func (PySem.W.fnOf "_law_worth" "_law_worth" (defArgs s__law_worth) (defBody s__law_worth) (defScope s__law_worth) .none kV38 dc38 pm38 an38 cd38 ct38), sl38⟩) (c38 : PySem.W.codeIn K cd38 "_law_worth" = true) (k38 : PySem.W.keepIn K (.ref f38) = true)
    (a39 : PySem.W.nsIn K mainGlobals "_law_cut" = some (some (.ref f39))) (l39 : K.lookup f39 = some ⟨oc39, od39, .func (PySem.W.fnOf "_law_cut" "_law_cut" (defArgs s__law_cut) (defBody s__law_cut) (defScope s__law_cut) .none kV39 dc39 pm39 an39 cd39 ct39), sl39⟩) (c39 : PySem.W.codeIn K cd39 "_law_cut" = true) (k39 : PySem.W.keepIn K (.ref f39) = true)
    (a40 : PySem.W.nsIn K mainGlobals "_law_left" = some (some (.ref f40))) (l40 : K.lookup f40 = some ⟨oc40, od40, .func (PySem.W.fnOf "_law_left" "_law_left" (defArgs s__law_left) (defBody s__law_left) (defScope s__law_left) .none kV40 dc40 pm40 an40 cd40 ct40), sl40⟩) (c40 : PySem.W.codeIn K cd40 "_law_left" = true) (k40 : PySem.W.keepIn K (.ref f40) = true)
    (a41 : PySem.W.nsIn K mainGlobals "_law_pair" = some (some (.ref f41))) (l41 : K.lookup f41 = some ⟨oc41, od41, .func (PySem.W.fnOf "_law_pair" "_law_pair" (defArgs s__law_pair) (defBody s__law_pair) (defScope s__law_pair) .none kV41 dc41 pm41 an41 cd41 ct41), sl41⟩) (c41 : PySem.W.codeIn K cd41 "_law_pair" = true) (k41 : PySem.W.keepIn K (.ref f41) = true)
    (a42 : PySem.W.nsIn K mainGlobals "_law_is_row" = some (some (.ref f42))) (l42 : K.lookup f42 = some ⟨oc42, od42, .func (PySem.W.fnOf "_law_is_row" "_law_is_row" (defArgs s__law_is_row) (defBody s__law_is_row) (defScope s__law_is_row) .none kV42 dc42 pm42 an42 cd42 ct42), sl42⟩) (c42 : PySem.W.codeIn K cd42 "_law_is_row" = true) (k42 : PySem.W.keepIn K (.ref f42) = true)
    (a43 : PySem.W.nsIn K mainGlobals "_law_are_weights" = some (some (.ref f43))) (l43 : K.lookup f43 = some ⟨oc43, od43, .func (PySem.W.fnOf "_law_are_weights" "_law_are_weights" (defArgs s__law_are_weights) (defBody s__law_are_weights) (defScope s__law_are_weights) .none kV43 dc43 pm43 an43 cd43 ct43), sl43⟩) (c43 : PySem.W.codeIn K cd43 "_law_are_weights" = true) (k43 : PySem.W.keepIn K (.ref f43) = true)
    (a44 : PySem.W.nsIn K mainGlobals "_law_forms" = some (some (.ref f44))) (l44 : K.lookup f44 = some ⟨oc44, od44, .func (PySem.W.fnOf "_law_forms" "_law_forms" (defArgs s__law_forms) (defBody s__law_forms) (defScope s__law_forms) .none kV44 dc44 pm44 an44 cd44 ct44), sl44⟩) (c44 : PySem.W.codeIn K cd44 "_law_forms" = true) (k44 : PySem.W.keepIn K (.ref f44) = true)
    (a45 : PySem.W.nsIn K mainGlobals "_law_is_in" = some (some (.ref f45))) (l45 : K.lookup f45 = some ⟨oc45, od45, .func (PySem.W.fnOf "_law_is_in" "_law_is_in" (defArgs s__law_is_in) (defBody s__law_is_in) (defScope s__law_is_in) .none kV45 dc45 pm45 an45 cd45 ct45), sl45⟩) (c45 : PySem.W.codeIn K cd45 "_law_is_in" = true) (k45 : PySem.W.keepIn K (.ref f45) = true)
    (a46 : PySem.W.nsIn K mainGlobals "_law_is_spot" = some (some (.ref f46))) (l46 : K.lookup f46 = some ⟨oc46, od46, .func (PySem.W.fnOf "_law_is_spot" "_law_is_spot" (defArgs s__law_is_spot) (defBody s__law_is_spot) (defScope s__law_is_spot) .none kV46 dc46 pm46 an46 cd46 ct46), sl46⟩) (c46 : PySem.W.codeIn K cd46 "_law_is_spot" = true) (k46 : PySem.W.keepIn K (.ref f46) = true)
    (a47 : PySem.W.nsIn K mainGlobals "_law_is_good" = some (some (.ref f47))) (l47 : K.lookup f47 = some ⟨oc47, od47, .func (PySem.W.fnOf "_law_is_good" "_law_is_good" (defArgs s__law_is_good) (defBody s__law_is_good) (defScope s__law_is_good) .none kV47 dc47 pm47 an47 cd47 ct47), sl47⟩) (c47 : PySem.W.codeIn K cd47 "_law_is_good" = true) (k47 : PySem.W.keepIn K (.ref f47) = true)
    (a48 : PySem.W.nsIn K mainGlobals "_law_right" = some (some (.ref f48))) (l48 : K.lookup f48 = some ⟨oc48, od48, .func (PySem.W.fnOf "_law_right" "_law_right" (defArgs s__law_right) (defBody s__law_right) (defScope s__law_right) .none kV48 dc48 pm48 an48 cd48 ct48), sl48⟩) (c48 : PySem.W.codeIn K cd48 "_law_right" = true) (k48 : PySem.W.keepIn K (.ref f48) = true)
    (a49 : PySem.W.nsIn K mainGlobals "law" = some (some (.ref f49))) (l49 : K.lookup f49 = some ⟨oc49, od49, .func (PySem.W.fnOf "law" "law" (defArgs s_law) (defBody s_law) (defScope s_law) .none kV49 dc49 pm49 an49 cd49 ct49), sl49⟩) (c49 : PySem.W.codeIn K cd49 "law" = true) (k49 : PySem.W.keepIn K (.ref f49) = true)
    (z_len : PySem.W.nsIn K mainGlobals "len" = some none) (z_isinstance : PySem.W.nsIn K mainGlobals "isinstance" = some none) (z_int : PySem.W.nsIn K mainGlobals "int" = some none) (z_bool : PySem.W.nsIn K mainGlobals "bool" = some none) (z_tuple : PySem.W.nsIn K mainGlobals "tuple" = some none) (z_all : PySem.W.nsIn K mainGlobals "all" = some none) (z_sorted : PySem.W.nsIn K mainGlobals "sorted" = some none) (z_list : PySem.W.nsIn K mainGlobals "list" = some none) (z_zip : PySem.W.nsIn K mainGlobals "zip" = some none) (z_enumerate : PySem.W.nsIn K mainGlobals "enumerate" = some none) (z_range : PySem.W.nsIn K mainGlobals "range" = some none) (z_sum : PySem.W.nsIn K mainGlobals "sum" = some none) (z_abs : PySem.W.nsIn K mainGlobals "abs" = some none) (z_set : PySem.W.nsIn K mainGlobals "set" = some none) (z_min : PySem.W.nsIn K mainGlobals "min" = some none) (z_max : PySem.W.nsIn K mainGlobals "max" = some none) (z_repr : PySem.W.nsIn K mainGlobals "repr" = some none) (z_divmod : PySem.W.nsIn K mainGlobals "divmod" = some none) (z_gcd : PySem.W.nsIn K mainGlobals "gcd" = some (some (.builtin "math.gcd"))) (z_lcm : PySem.W.nsIn K mainGlobals "lcm" = some (some (.builtin "math.lcm"))) {tk : Tok} (z_most : PySem.W.nsIn K mainGlobals "MOST_SHORES" = some (some (.int 8 tk))) :
    ∃ fd : FuncData, (∀ (s : Shared) (v : Value), BindsTo s fd ⟨[v], []⟩ [("_law_script", v)]) ∧ ∀ base : Heap, K.In base → base.Ns mainGlobals mg → RunG l.prog w K mg base 9 fa fd ["_law_script"] (spLaw K) := by
  have e := hfa.symm.trans (PySem.W.mg_of X G a49)
  cases e
  have B : Bt mg := ⟨PySem.W.mg_none_of X G z_len, PySem.W.mg_none_of X G z_isinstance, PySem.W.mg_none_of X G z_int, PySem.W.mg_none_of X G z_bool, PySem.W.mg_none_of X G z_tuple, PySem.W.mg_none_of X G z_all, PySem.W.mg_none_of X G z_sorted, PySem.W.mg_none_of X G z_list, PySem.W.mg_none_of X G z_zip, PySem.W.mg_none_of X G z_enumerate, PySem.W.mg_none_of X G z_range, PySem.W.mg_none_of X G z_sum, PySem.W.mg_none_of X G z_abs, PySem.W.mg_none_of X G z_set, PySem.W.mg_none_of X G z_min, PySem.W.mg_none_of X G z_max, PySem.W.mg_none_of X G z_repr, PySem.W.mg_none_of X G z_divmod, PySem.W.mg_of X G z_gcd, PySem.W.mg_of X G z_lcm, ⟨_, PySem.W.mg_of X G z_most, ⟨_, rfl⟩⟩⟩
  have d0 := dfn_mk (st := s__law_sack) (ps := ["_law_script", "_law_turn"]) X G a0 l0 c0 k0 fun _ _ _ _ _ _ us hl => match us, hl with | [_, _], _ => rfl
  have d1 := dfn_mk (st := s_is_whole) (ps := ["value"]) X G a1 l1 c1 k1 fun _ _ _ _ _ _ us hl => match us, hl with | [_], _ => rfl
  have d2 := dfn_mk (st := s_are_wholes) (ps := ["value", "many"]) X G a2 l2 c2 k2 fun _ _ _ _ _ _ us hl => match us, hl with | [_, _], _ => rfl
  have d3 := dfn_mk (st := s_common_divisor) (ps := ["numbers"]) X G a3 l3 c3 k3 fun _ _ _ _ _ _ us hl => match us, hl with | [_], _ => rfl
  have d4 := dfn_mk (st := s_is_lowest) (ps := ["numbers"]) X G a4 l4 c4 k4 fun _ _ _ _ _ _ us hl => match us, hl with | [_], _ => rfl
  have d5 := dfn_mk (st := s_is_vector) (ps := ["value"]) X G a5 l5 c5 k5 fun _ _ _ _ _ _ us hl => match us, hl with | [_], _ => rfl
  have d6 := dfn_mk (st := s_lowest) (ps := ["numbers"]) X G a6 l6 c6 k6 fun _ _ _ _ _ _ us hl => match us, hl with | [_], _ => rfl
  have d7 := dfn_mk (st := s_is_left) (ps := ["one", "two", "three"]) X G a7 l7 c7 k7 fun _ _ _ _ _ _ us hl => match us, hl with | [_, _, _], _ => rfl
  have d8 := dfn_mk (st := s_chain) (ps := ["rows"]) X G a8 l8 c8 k8 fun _ _ _ _ _ _ us hl => match us, hl with | [_], _ => rfl
  have d9 := dfn_mk (st := s_hull) (ps := ["points"]) X G a9 l9 c9 k9 fun _ _ _ _ _ _ us hl => match us, hl with | [_], _ => rfl
  have d10 := dfn_mk (st := s_is_shape) (ps := ["value"]) X G a10 l10 c10 k10 fun _ _ _ _ _ _ us hl => match us, hl with | [_], _ => rfl
  have d11 := dfn_mk (st := s_check_polygon) (ps := ["value"]) X G a11 l11 c11 k11 fun _ _ _ _ _ _ us hl => match us, hl with | [_], _ => rfl
  have d12 := dfn_mk (st := s_is_border) (ps := ["value"]) X G a12 l12 c12 k12 fun _ _ _ _ _ _ us hl => match us, hl with | [_], _ => rfl
  have d13 := dfn_mk (st := s_check_shores) (ps := ["value"]) X G a13 l13 c13 k13 fun _ _ _ _ _ _ us hl => match us, hl with | [_], _ => rfl
  have d14 := dfn_mk (st := s_value_at) (ps := ["side", "point"]) X G a14 l14 c14 k14 fun _ _ _ _ _ _ us hl => match us, hl with | [_, _], _ => rfl
  have d15 := dfn_mk (st := s_next_corner) (ps := ["polygon", "at"]) X G a15 l15 c15 k15 fun _ _ _ _ _ _ us hl => match us, hl with | [_, _], _ => rfl
  have d16 := dfn_mk (st := s_line_point) (ps := ["one", "two", "side"]) X G a16 l16 c16 k16 fun _ _ _ _ _ _ us hl => match us, hl with | [_, _, _], _ => rfl
  have d17 := dfn_mk (st := s_cut) (ps := ["polygon", "side"]) X G a17 l17 c17 k17 fun _ _ _ _ _ _ us hl => match us, hl with | [_, _], _ => rfl
  have d18 := dfn_mk (st := s_part_off) (ps := ["velocities", "shores"]) X G a18 l18 c18 k18 fun _ _ _ _ _ _ us hl => match us, hl with | [_, _], _ => rfl
  have d19 := dfn_mk (st := s_holds_off) (ps := ["velocities", "shores"]) X G a19 l19 c19 k19 fun _ _ _ _ _ _ us hl => match us, hl with | [_, _], _ => rfl
  have d20 := dfn_mk (st := s_held_with) (ps := ["velocities", "shores"]) X G a20 l20 c20 k20 fun _ _ _ _ _ _ us hl => match us, hl with | [_, _], _ => rfl
  have d21 := dfn_mk (st := s_pair_against) (ps := ["velocities", "shores"]) X G a21 l21 c21 k21 fun _ _ _ _ _ _ us hl => match us, hl with | [_, _], _ => rfl
  have d22 := dfn_mk (st := s_embayed_by) (ps := ["velocities", "shores"]) X G a22 l22 c22 k22 fun _ _ _ _ _ _ us hl => match us, hl with | [_, _], _ => rfl
  have d23 := dfn_mk (st := s_check_weights) (ps := ["shores", "value"]) X G a23 l23 c23 k23 fun _ _ _ _ _ _ us hl => match us, hl with | [_, _], _ => rfl
  have d24 := dfn_mk (st := s_is_barred) (ps := ["velocities", "shores", "weights"]) X G a24 l24 c24 k24 fun _ _ _ _ _ _ us hl => match us, hl with | [_, _, _], _ => rfl
  have d25 := dfn_mk (st := s_bars) (ps := ["velocities", "shores", "weights"]) X G a25 l25 c25 k25 fun _ _ _ _ _ _ us hl => match us, hl with | [_, _, _], _ => rfl
  have d26 := dfn_mk (st := s_border_weights) (ps := ["velocities", "shore", "other"]) X G a26 l26 c26 k26 fun _ _ _ _ _ _ us hl => match us, hl with | [_, _, _], _ => rfl
  have d27 := dfn_mk (st := s_barring_weights) (ps := ["velocities", "shores"]) X G a27 l27 c27 k27 fun _ _ _ _ _ _ us hl => match us, hl with | [_, _], _ => rfl
  have d28 := dfn_mk (st := s__law_draw) (ps := ["_law_sack_here", "_law_size"]) X G a28 l28 c28 k28 fun _ _ _ _ _ _ us hl => match us, hl with | [_, _], _ => rfl
  have d29 := dfn_mk (st := s__law_one) (ps := ["_law_sack_here", "_law_some"]) X G a29 l29 c29 k29 fun _ _ _ _ _ _ us hl => match us, hl with | [_, _], _ => rfl
  have d30 := dfn_mk (st := s__law_gcd) (ps := ["_law_one_here", "_law_two"]) X G a30 l30 c30 k30 fun _ _ _ _ _ _ us hl => match us, hl with | [_, _], _ => rfl
  have d31 := dfn_mk (st := s__law_spot) (ps := ["_law_x", "_law_y", "_law_w"]) X G a31 l31 c31 k31 fun _ _ _ _ _ _ us hl => match us, hl with | [_, _, _], _ => rfl
  have d32 := dfn_mk (st := s__law_said) (ps := ["_law_dots", "_law_scale"]) X G a32 l32 c32 k32 fun _ _ _ _ _ _ us hl => match us, hl with | [_, _], _ => rfl
  have d33 := dfn_mk (st := s__law_bend) (ps := ["_law_a", "_law_b", "_law_c"]) X G a33 l33 c33 k33 fun _ _ _ _ _ _ us hl => match us, hl with | [_, _, _], _ => rfl
  have d34 := dfn_mk (st := s__law_chain) (ps := ["_law_dots"]) X G a34 l34 c34 k34 fun _ _ _ _ _ _ us hl => match us, hl with | [_], _ => rfl
  have d35 := dfn_mk (st := s__law_rim) (ps := ["_law_dots"]) X G a35 l35 c35 k35 fun _ _ _ _ _ _ us hl => match us, hl with | [_], _ => rfl
  have d36 := dfn_mk (st := s__law_speeds) (ps := ["_law_sack_here"]) X G a36 l36 c36 k36 fun _ _ _ _ _ _ us hl => match us, hl with | [_], _ => rfl
  have d37 := dfn_mk (st := s__law_side) (ps := ["_law_sack_here"]) X G a37 l37 c37 k37 fun _ _ _ _ _ _ us hl => match us, hl with | [_], _ => rfl
  have d38 := dfn_mk (st := s__law_worth) (ps := ["_law_spot_here", "_law_form"]) X G a38 l38 c38 k38 fun _ _ _ _ _ _ us hl => match us, hl with | [_, _], _ => rfl
  have d39 := dfn_mk (st := s__law_cut) (ps := ["_law_spots", "_law_form"]) X G a39 l39 c39 k39 fun _ _ _ _ _ _ us hl => match us, hl with | [_, _], _ => rfl
  have d40 := dfn_mk (st := s__law_left) (ps := ["_law_spots", "_law_banks"]) X G a40 l40 c40 k40 fun _ _ _ _ _ _ us hl => match us, hl with | [_, _], _ => rfl
  have d41 := dfn_mk (st := s__law_pair) (ps := ["_law_spots", "_law_banks"]) X G a41 l41 c41 k41 fun _ _ _ _ _ _ us hl => match us, hl with | [_, _], _ => rfl
  have d42 := dfn_mk (st := s__law_is_row) (ps := ["_law_value", "_law_size"]) X G a42 l42 c42 k42 fun _ _ _ _ _ _ us hl => match us, hl with | [_, _], _ => rfl
  have d43 := dfn_mk (st := s__law_are_weights) (ps := ["_law_loads", "_law_dots", "_law_banks"]) X G a43 l43 c43 k43 fun _ _ _ _ _ _ us hl => match us, hl with | [_, _, _], _ => rfl
  have d44 := dfn_mk (st := s__law_forms) (ps := ["_law_spots"]) X G a44 l44 c44 k44 fun _ _ _ _ _ _ us hl => match us, hl with | [_], _ => rfl
  have d45 := dfn_mk (st := s__law_is_in) (ps := ["_law_spot_here", "_law_forms_here"]) X G a45 l45 c45 k45 fun _ _ _ _ _ _ us hl => match us, hl with | [_, _], _ => rfl
  have d46 := dfn_mk (st := s__law_is_spot) (ps := ["_law_value"]) X G a46 l46 c46 k46 fun _ _ _ _ _ _ us hl => match us, hl with | [_], _ => rfl
  have d47 := dfn_mk (st := s__law_is_good) (ps := ["_law_spot_here", "_law_speeds_here", "_law_banks"]) X G a47 l47 c47 k47 fun _ _ _ _ _ _ us hl => match us, hl with | [_, _, _], _ => rfl
  have d48 := dfn_mk (st := s__law_right) (ps := ["_law_sack_here"]) X G a48 l48 c48 k48 fun _ _ _ _ _ _ us hl => match us, hl with | [_], _ => rfl
  exact ⟨_, fun s v => .of_eq rfl, fun base _ _ => run_all B d0 d1 d2 d3 d4 d5 d6 d7 d8 d9 d10 d11 d12 d13 d14 d15 d16 d17 d18 d19 d20 d21 d22 d23 d24 d25 d26 d27 d28 d29 d30 d31 d32 d33 d34 d35 d36 d37 d38 d39 d40 d41 d42 d43 d44 d45 d46 d47 d48 (fun_mk (st := s_law) l49 c49 k49)⟩
end Wk
end
section
set_option Elab.async false
open PySem PySem.W PyProof.Rows in
set_option maxRecDepth 100000 in
set_option maxHeartbeats 0 in
theorem PySem.Challenge.cw_windfigure_k57_whole_shores_held_off_tog_holds : PySem.Challenge.rw_windfigure_k57_whole_shores_held_off_tog.Holds := by
  w_on; o_law; k_head; (case hw => w_witness2)
  k_fill
  refine Wk.walk (l := PySem.Challenge.rw_windfigure_k57_whole_shores_held_off_tog) rfl rfl (fun w h Y => PySem.W.kIn_of Y) ?F
  case F =>
    intro w mg fa h KX G hmg
    refine' Wk.all_mk KX G hmg ?a0 ?l0 ?c0 ?k0 ?a1 ?l1 ?c1 ?k1 ?a2 ?l2 ?c2 ?k2 ?a3 ?l3 ?c3 ?k3 ?a4 ?l4 ?c4 ?k4 ?a5 ?l5 ?c5 ?k5 ?a6 ?l6 ?c6 ?k6 ?a7 ?l7 ?c7 ?k7 ?a8 ?l8 ?c8 ?k8 ?a9 ?l9 ?c9 ?k9 ?a10 ?l10 ?c10 ?k10 ?a11 ?l11 ?c11 ?k11 ?a12 ?l12 ?c12 ?k12 ?a13 ?l13 ?c13 ?k13 ?a14 ?l14 ?c14 ?k14 ?a15 ?l15 ?c15 ?k15 ?a16 ?l16 ?c16 ?k16 ?a17 ?l17 ?c17 ?k17 ?a18 ?l18 ?c18 ?k18 ?a19 ?l19 ?c19 ?k19 ?a20 ?l20 ?c20 ?k20 ?a21 ?l21 ?c21 ?k21 ?a22 ?l22 ?c22 ?k22 ?a23 ?l23 ?c23 ?k23 ?a24 ?l24 ?c24 ?k24 ?a25 ?l25 ?c25 ?k25 ?a26 ?l26 ?c26 ?k26 ?a27 ?l27 ?c27 ?k27 ?a28 ?l28 ?c28 ?k28 ?a29 ?l29 ?c29 ?k29 ?a30 ?l30 ?c30 ?k30 ?a31 ?l31 ?c31 ?k31 ?a32 ?l32 ?c32 ?k32 ?a33 ?l33 ?c33 ?k33 ?a34 ?l34 ?c34 ?k34 ?a35 ?l35 ?c35 ?k35 ?a36 ?l36 ?c36 ?k36 ?a37 ?l37 ?c37 ?k37 ?a38 ?l38 ?c38 ?k38 ?a39 ?l39 ?c39 ?k39 ?a40 ?l40 ?c40 ?k40 ?a41 ?l41 ?c41 ?k41 ?a42 ?l42 ?c42 ?k42 ?a43 ?l43 ?c43 ?k43 ?a44 ?l44 ?c44 ?k44 ?a45 ?l45 ?c45 ?k45 ?a46 ?l46 ?c46 ?k46 ?a47 ?l47 ?c47 ?k47 ?a48 ?l48 ?c48 ?k48 ?a49 ?l49 ?c49 ?k49 ?z_len ?z_isinstance ?z_int ?z_bool ?z_tuple ?z_all ?z_sorted ?z_list ?z_zip ?z_enumerate ?z_range ?z_sum ?z_abs ?z_set ?z_min ?z_max ?z_repr ?z_divmod ?z_gcd ?z_lcm ?z_most
    (case a0 => k_is)
    (case l0 => k_is)
    (case c0 => k_is)
    (case k0 => k_is)
    (case a1 => k_is)
    (case l1 => k_is)
    (case c1 => k_is)
    (case k1 => k_is)
    (case a2 => k_is)
    (case l2 => k_is)
    (case c2 => k_is)
    (case k2 => k_is)
    (case a3 => k_is)
    (case l3 => k_is)
    (case c3 => k_is)
    (case k3 => k_is)
    (case a4 => k_is)
    (case l4 => k_is)
    (case c4 => k_is)
    (case k4 => k_is)
    (case a5 => k_is)
    (case l5 => k_is)
    (case c5 => k_is)
    (case k5 => k_is)
    (case a6 => k_is)
    (case l6 => k_is)
    (case c6 => k_is)
    (case k6 => k_is)
    (case a7 => k_is)
    (case l7 => k_is)
    (case c7 => k_is)
    (case k7 => k_is)
    (case a8 => k_is)
    (case l8 => k_is)
    (case c8 => k_is)
    (case k8 => k_is)
    (case a9 => k_is)
    (case l9 => k_is)
    (case c9 => k_is)
    (case k9 => k_is)
    (case a10 => k_is)
    (case l10 => k_is)
    (case c10 => k_is)
    (case k10 => k_is)
    (case a11 => k_is)
    (case l11 => k_is)
    (case c11 => k_is)
    (case k11 => k_is)
    (case a12 => k_is)
    (case l12 => k_is)
    (case c12 => k_is)
    (case k12 => k_is)
    (case a13 => k_is)
    (case l13 => k_is)
    (case c13 => k_is)
    (case k13 => k_is)
    (case a14 => k_is)
    (case l14 => k_is)
    (case c14 => k_is)
    (case k14 => k_is)
    (case a15 => k_is)
    (case l15 => k_is)
    (case c15 => k_is)
    (case k15 => k_is)
    (case a16 => k_is)
    (case l16 => k_is)
    (case c16 => k_is)
    (case k16 => k_is)
    (case a17 => k_is)
    (case l17 => k_is)
    (case c17 => k_is)
    (case k17 => k_is)
    (case a18 => k_is)
    (case l18 => k_is)
    (case c18 => k_is)
    (case k18 => k_is)
    (case a19 => k_is)
    (case l19 => k_is)
    (case c19 => k_is)
    (case k19 => k_is)
    (case a20 => k_is)
    (case l20 => k_is)
    (case c20 => k_is)
    (case k20 => k_is)
    (case a21 => k_is)
    (case l21 => k_is)
    (case c21 => k_is)
    (case k21 => k_is)
    (case a22 => k_is)
    (case l22 => k_is)
    (case c22 => k_is)
    (case k22 => k_is)
    (case a23 => k_is)
    (case l23 => k_is)
    (case c23 => k_is)
    (case k23 => k_is)
    (case a24 => k_is)
    (case l24 => k_is)
    (case c24 => k_is)
    (case k24 => k_is)
    (case a25 => k_is)
    (case l25 => k_is)
    (case c25 => k_is)
    (case k25 => k_is)
    (case a26 => k_is)
    (case l26 => k_is)
    (case c26 => k_is)
    (case k26 => k_is)
    (case a27 => k_is)
    (case l27 => k_is)
    (case c27 => k_is)
    (case k27 => k_is)
    (case a28 => k_is)
    (case l28 => k_is)
    (case c28 => k_is)
    (case k28 => k_is)
    (case a29 => k_is)
    (case l29 => k_is)
    (case c29 => k_is)
    (case k29 => k_is)
    (case a30 => k_is)
    (case l30 => k_is)
    (case c30 => k_is)
    (case k30 => k_is)
    (case a31 => k_is)
    (case l31 => k_is)
    (case c31 => k_is)
    (case k31 => k_is)
    (case a32 => k_is)
    (case l32 => k_is)
    (case c32 => k_is)
    (case k32 => k_is)
    (case a33 => k_is)
    (case l33 => k_is)
    (case c33 => k_is)
    (case k33 => k_is)
    (case a34 => k_is)
    (case l34 => k_is)
    (case c34 => k_is)
    (case k34 => k_is)
    (case a35 => k_is)
    (case l35 => k_is)
    (case c35 => k_is)
    (case k35 => k_is)
    (case a36 => k_is)
    (case l36 => k_is)
    (case c36 => k_is)
    (case k36 => k_is)
    (case a37 => k_is)
    (case l37 => k_is)
    (case c37 => k_is)
    (case k37 => k_is)
    (case a38 => k_is)
    (case l38 => k_is)
    (case c38 => k_is)
    (case k38 => k_is)
    (case a39 => k_is)
    (case l39 => k_is)
    (case c39 => k_is)
    (case k39 => k_is)
    (case a40 => k_is)
    (case l40 => k_is)
    (case c40 => k_is)
    (case k40 => k_is)
    (case a41 => k_is)
    (case l41 => k_is)
    (case c41 => k_is)
    (case k41 => k_is)
    (case a42 => k_is)
    (case l42 => k_is)
    (case c42 => k_is)
    (case k42 => k_is)
    (case a43 => k_is)
    (case l43 => k_is)
    (case c43 => k_is)
    (case k43 => k_is)
    (case a44 => k_is)
    (case l44 => k_is)
    (case c44 => k_is)
    (case k44 => k_is)
    (case a45 => k_is)
    (case l45 => k_is)
    (case c45 => k_is)
    (case k45 => k_is)
    (case a46 => k_is)
    (case l46 => k_is)
    (case c46 => k_is)
    (case k46 => k_is)
    (case a47 => k_is)
    (case l47 => k_is)
    (case c47 => k_is)
    (case k47 => k_is)
    (case a48 => k_is)
    (case l48 => k_is)
    (case c48 => k_is)
    (case k48 => k_is)
    (case a49 => k_is)
    (case l49 => k_is)
    (case c49 => k_is)
    (case k49 => k_is)
    (case z_len => k_is)
    (case z_isinstance => k_is)
    (case z_int => k_is)
    (case z_bool => k_is)
    (case z_tuple => k_is)
    (case z_all => k_is)
    (case z_sorted => k_is)
    (case z_list => k_is)
    (case z_zip => k_is)
    (case z_enumerate => k_is)
    (case z_range => k_is)
    (case z_sum => k_is)
    (case z_abs => k_is)
    (case z_set => k_is)
    (case z_min => k_is)
    (case z_max => k_is)
    (case z_repr => k_is)
    (case z_divmod => k_is)
    (case z_gcd => k_is)
    (case z_lcm => k_is)
    (case z_most => k_is)
end
