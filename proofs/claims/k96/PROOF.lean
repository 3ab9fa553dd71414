import PyProof.Rows.All
import Wide.All
import OpenK.AllK
import Wide.FinOn
import KE.KStateDown
import Lean
import HandS.ForMost
import HandS.Exc
import HandS.WordsExc
import HandS.Defaults
import HandS.Property
import HandS.DictComp
import HandS.IsInst
import HandS.StrMore
import HandS.Conv
import HandS.Style
import HandS.Zip
import HandS.Walk
import HandS.More
import HandS.Head0
import HandS.Head1
import HandS.Head2
import HandS.HeadEnd
import HandS.HeadHook1
import HandS.HeadHook2
import HandS.HeadNt
import PySem.Challenge.RW_windowpicks_k96_whole_rules_compared_and
import KE.GoesEnum
set_option Elab.async false
set_option linter.all false
set_option maxRecDepth 100000
set_option maxHeartbeats 0
/-! Lifting heights along edges, round by round, with the edge by which each was lifted. -/
namespace Wp
section
variable {A B : Type} [DecidableEq A] (src dst : B → A) (g : B → Int)
/-- the heights, the edges by which they were lifted -/
structure Lf (A B : Type) where
  h : A → Int
  c : A → Option B
def put {C : Type} (f : A → C) (a : A) (v : C) : A → C := fun b => if b = a then v else f b
theorem put_same {C : Type} {f : A → C} {a : A} {v : C} : put f a v a = v := by unfold put; rw [if_pos rfl]
theorem put_ne {C : Type} {f : A → C} {a b : A} {v : C} (h : b ≠ a) : put f a v b = f b := by unfold put; rw [if_neg h]
def lift1 (s : Lf A B × Option A) (x : B) : Lf A B × Option A :=
  if s.1.h (src x) + g x > s.1.h (dst x) then (⟨put s.1.h (dst x) (s.1.h (src x) + g x), put s.1.c (dst x) (some x)⟩, some (dst x)) else s
def lifts (s : Lf A B) (es : List B) : Lf A B × Option A := es.foldl (lift1 src dst g) (s, none)

/-- with ghosts: the round in which a height was lifted last, the time -/
structure Gh (A B : Type) where
  s : Lf A B
  last : Option A
  r : A → Nat
  tm : A → Nat
  now : Nat
def glift1 (i : Nat) (q : Gh A B) (x : B) : Gh A B :=
  if q.s.h (src x) + g x > q.s.h (dst x) then ⟨⟨put q.s.h (dst x) (q.s.h (src x) + g x), put q.s.c (dst x) (some x)⟩, some (dst x), put q.r (dst x) i, put q.tm (dst x) (q.now + 1), q.now + 1⟩ else q
def glifts (i : Nat) (q : Gh A B) (es : List B) : Gh A B := es.foldl (glift1 src dst g i) q
theorem glift1_s (i : Nat) (q : Gh A B) (x : B) : ((glift1 src dst g i q x).s, (glift1 src dst g i q x).last) = lift1 src dst g (q.s, q.last) x := by
  unfold glift1 lift1
  split <;> rfl
theorem glifts_s (i : Nat) (es : List B) : ∀ q : Gh A B, ((glifts src dst g i q es).s, (glifts src dst g i q es).last) = es.foldl (lift1 src dst g) (q.s, q.last) := by
  induction es with
  | nil => intro q; rfl
  | cons x es ih =>
    intro q
    show ((glifts src dst g i (glift1 src dst g i q x) es).s, (glifts src dst g i (glift1 src dst g i q x) es).last) = es.foldl (lift1 src dst g) (lift1 src dst g (q.s, q.last) x)
    rw [ih, ← glift1_s]
/-- an edge that asks for nothing -/
def Slack (h : A → Int) (y : B) : Prop := h (src y) + g y ≤ h (dst y)
/-- what stays true -/
structure Ok (all : List B) (i : Nat) (q : Gh A B) : Prop where
  here : ∀ v x, q.s.c v = some x → x ∈ all ∧ dst x = v ∧ q.r v ≤ q.r (src x) + 1 ∧ q.s.h v ≤ q.s.h (src x) + g x ∧ (q.tm v ≤ q.tm (src x) → q.s.h v < q.s.h (src x) + g x)
  lifted : ∀ v, 0 < q.r v → q.s.c v ≠ none
  le : ∀ v, q.r v ≤ i
  tms : ∀ v, q.tm v ≤ q.now
/-- within round i, the edges pre are gone through, the edges post are not -/
structure Mid (all : List B) (i : Nat) (pre post : List B) (q : Gh A B) : Prop extends Ok src dst g all i q where
  fpre : ∀ y ∈ pre, Slack src dst g q.s.h y ∨ i ≤ q.r (src y)
  fpost : ∀ y ∈ post, Slack src dst g q.s.h y ∨ i ≤ q.r (src y) + 1
  last : ∀ v, q.last = some v → q.r v = i
  none : q.last = none → ∀ y ∈ pre, Slack src dst g q.s.h y
theorem mid_step {all pre post : List B} {i : Nat} {q : Gh A B} {x : B} (hx : x ∈ all) (hi : 0 < i) (M : Mid src dst g all i pre (x :: post) q) : Mid src dst g all i (pre ++ [x]) post (glift1 src dst g i q x) := by
  unfold glift1
  by_cases hc : q.s.h (src x) + g x > q.s.h (dst x)
  · rw [if_pos hc]
    have hr : i ≤ q.r (src x) + 1 := by
      rcases M.fpost x List.mem_cons_self with z | z
      · unfold Slack at z; omega
      · exact z
    have hgrow : ∀ v, q.s.h v ≤ put q.s.h (dst x) (q.s.h (src x) + g x) v := by
      intro v
      by_cases e : v = dst x
      · subst e; rw [put_same]; omega
      · rw [put_ne e]; exact Int.le_refl _
    have hgrowr : ∀ v, q.r v ≤ put q.r (dst x) i v := by
      intro v
      by_cases e : v = dst x
      · subst e; rw [put_same]; exact M.le _
      · rw [put_ne e]; exact Nat.le_refl _
    have slack : ∀ y, (Slack src dst g q.s.h y ∨ i ≤ q.r (src y)) → Slack src dst g (put q.s.h (dst x) (q.s.h (src x) + g x)) y ∨ i ≤ put q.r (dst x) i (src y) := by
      intro y hy
      by_cases e : src y = dst x
      · right; rw [e, put_same]; exact Nat.le_refl _
      · rcases hy with z | z
        · left
          unfold Slack at z ⊢
          rw [put_ne e]
          exact Int.le_trans z (hgrow _)
        · right; exact Nat.le_trans z (hgrowr _)
    refine { here := ?_, lifted := ?_, le := ?_, tms := ?_, fpre := ?_, fpost := ?_, last := ?_, none := ?_ }
    · intro v y e
      show y ∈ all ∧ dst y = v ∧ put q.r (dst x) i v ≤ put q.r (dst x) i (src y) + 1 ∧ put q.s.h (dst x) (q.s.h (src x) + g x) v ≤ put q.s.h (dst x) (q.s.h (src x) + g x) (src y) + g y ∧
        (put q.tm (dst x) (q.now + 1) v ≤ put q.tm (dst x) (q.now + 1) (src y) → put q.s.h (dst x) (q.s.h (src x) + g x) v < put q.s.h (dst x) (q.s.h (src x) + g x) (src y) + g y)
      have e : put q.s.c (dst x) (some x) v = some y := e
      by_cases ev : v = dst x
      · subst ev
        rw [put_same] at e
        cases e
        rw [put_same, put_same, put_same]
        refine ⟨hx, rfl, ?_, ?_, ?_⟩
        · exact Nat.le_trans hr (Nat.add_le_add_right (hgrowr _) 1)
        · exact Int.add_le_add_right (hgrow _) _
        · intro ht
          by_cases es : src x = dst x
          · rw [es, put_same]; rw [es] at hc; omega
          · rw [put_ne es] at ht
            have := M.tms (src x)
            omega
      · rw [put_ne ev] at e
        obtain ⟨h0, h1, h2, h3, h4⟩ := M.here v y e
        rw [put_ne ev, put_ne ev, put_ne ev]
        refine ⟨h0, h1, Nat.le_trans h2 (Nat.add_le_add_right (hgrowr _) 1), Int.le_trans h3 (Int.add_le_add_right (hgrow _) _), fun ht => ?_⟩
        by_cases es : src y = dst x
        · rw [es, put_same]; rw [es] at h3; omega
        · rw [put_ne es] at ht ⊢; exact h4 ht
    · intro v hv
      show put q.s.c (dst x) (some x) v ≠ none
      by_cases ev : v = dst x
      · subst ev; rw [put_same]; exact fun z => nomatch z
      · rw [put_ne ev]
        have hv : 0 < put q.r (dst x) i v := hv
        rw [put_ne ev] at hv
        exact M.lifted v hv
    · intro v
      show put q.r (dst x) i v ≤ i
      by_cases ev : v = dst x
      · subst ev; rw [put_same]; exact Nat.le_refl _
      · rw [put_ne ev]; exact M.le v
    · intro v
      show put q.tm (dst x) (q.now + 1) v ≤ q.now + 1
      by_cases ev : v = dst x
      · subst ev; rw [put_same]; exact Nat.le_refl _
      · rw [put_ne ev]; exact Nat.le_succ_of_le (M.tms v)
    · intro y hy
      rcases List.mem_append.mp hy with z | z
      · exact slack y (M.fpre y z)
      · have e : y = x := by simpa using z
        subst e
        by_cases es : src y = dst y
        · right
          show i ≤ put q.r (dst y) i (src y)
          rw [es, put_same]; exact Nat.le_refl _
        · left
          show put q.s.h (dst y) (q.s.h (src y) + g y) (src y) + g y ≤ put q.s.h (dst y) (q.s.h (src y) + g y) (dst y)
          rw [put_same, put_ne es]; exact Int.le_refl _
    · intro y hy
      show Slack src dst g (put q.s.h (dst x) (q.s.h (src x) + g x)) y ∨ i ≤ put q.r (dst x) i (src y) + 1
      by_cases e : src y = dst x
      · right; rw [e, put_same]; exact Nat.le_succ _
      · rcases M.fpost y (List.mem_cons_of_mem _ hy) with z | z
        · left
          unfold Slack at z ⊢
          rw [put_ne e]
          exact Int.le_trans z (hgrow _)
        · right; exact Nat.le_trans z (Nat.add_le_add_right (hgrowr _) 1)
    · intro v e
      have e : some (dst x) = some v := e
      cases e
      exact put_same
    · intro e
      exact nomatch (show some (dst x) = none from e)
  · rw [if_neg hc]
    have hs : Slack src dst g q.s.h x := by unfold Slack; omega
    refine { toOk := M.toOk, fpre := ?_, fpost := fun y hy => M.fpost y (List.mem_cons_of_mem _ hy), last := M.last, none := ?_ }
    · intro y hy
      rcases List.mem_append.mp hy with z | z
      · exact M.fpre y z
      · have e : y = x := by simpa using z
        subst e; exact .inl hs
    · intro e y hy
      rcases List.mem_append.mp hy with z | z
      · exact M.none e y z
      · have e : y = x := by simpa using z
        subst e; exact hs
theorem mid_all {all : List B} {i : Nat} (hi : 0 < i) : ∀ (post pre : List B) (q : Gh A B), (∀ x ∈ post, x ∈ all) → Mid src dst g all i pre post q → Mid src dst g all i (pre ++ post) [] (glifts src dst g i q post)
  | [], pre, q, _, M => by rw [List.append_nil]; exact M
  | x :: post, pre, q, hm, M => by
    have h1 := mid_step src dst g (hm x List.mem_cons_self) hi M
    have h2 := mid_all hi post (pre ++ [x]) _ (fun y hy => hm y (List.mem_cons_of_mem _ hy)) h1
    rw [List.append_assoc] at h2
    exact h2
/-- between two rounds: i rounds are gone -/
structure Btw (all : List B) (i : Nat) (q : Gh A B) : Prop extends Ok src dst g all i q where
  fall : ∀ y ∈ all, Slack src dst g q.s.h y ∨ i ≤ q.r (src y)
theorem btw_zero (all : List B) : Btw src dst g all 0 (⟨⟨fun _ => 0, fun _ => none⟩, none, fun _ => 0, fun _ => 0, 0⟩ : Gh A B) where
  here := fun v x e => nomatch (show (none : Option B) = some x from e)
  lifted := fun v h => absurd h (Nat.lt_irrefl 0)
  le := fun v => Nat.le_refl _
  tms := fun v => Nat.le_refl _
  fall := fun y _ => .inr (Nat.le_refl _)
theorem btw_step {all : List B} {i : Nat} {q : Gh A B} (M : Btw src dst g all i q) : Mid src dst g all (i + 1) all [] (glifts src dst g (i + 1) { q with last := none } all) := by
  have h0 : Mid src dst g all (i + 1) [] all { q with last := none } := {
    here := M.here, lifted := M.lifted, le := fun v => Nat.le_succ_of_le (M.le v), tms := M.tms
    fpre := fun y hy => nomatch hy
    fpost := fun y hy => (M.fall y hy).imp id Nat.succ_le_succ
    last := fun v e => nomatch (show (none : Option A) = some v from e)
    none := fun _ y hy => nomatch hy }
  exact mid_all src dst g (Nat.succ_pos i) all [] _ (fun _ h => h) h0
theorem Mid.btw {all : List B} {i : Nat} {q : Gh A B} (M : Mid src dst g all i all [] q) : Btw src dst g all i q := { toOk := M.toOk, fall := M.fpre }
end

/-! the rounds -/
section
variable {A B : Type} [DecidableEq A] (src dst : B → A) (g : B → Int)
/-- the states behind i rounds -/
def rounds (es : List B) : Nat → Lf A B × Option A
  | 0 => (⟨fun _ => 0, fun _ => none⟩, none)
  | i + 1 => lifts src dst g (rounds es i).1 es
theorem rounds_gh (es : List B) : ∀ i, ∃ q : Gh A B, q.s = (rounds src dst g es i).1 ∧ Btw src dst g es i q ∧ (0 < i → q.last = (rounds src dst g es i).2 ∧ Mid src dst g es i es [] q)
  | 0 => ⟨_, rfl, btw_zero src dst g es, fun h => absurd h (Nat.lt_irrefl 0)⟩
  | i + 1 => by
    obtain ⟨q, hq, M, _⟩ := rounds_gh es i
    have h1 := btw_step src dst g M
    have h2 := glifts_s src dst g (i + 1) es { q with last := none }
    refine ⟨_, ?_, h1.btw, fun _ => ⟨?_, h1⟩⟩
    · refine (congrArg Prod.fst h2).trans ?_
      show (es.foldl (lift1 src dst g) (q.s, none)).1 = _
      rw [hq]; rfl
    · refine (congrArg Prod.snd h2).trans ?_
      show (es.foldl (lift1 src dst g) (q.s, none)).2 = _
      rw [hq]; rfl
/-- a round in which nothing is lifted: the heights hold -/
theorem rounds_hold (es : List B) (i : Nat) (h : (rounds src dst g es (i + 1)).2 = none) : ∀ y ∈ es, Slack src dst g (rounds src dst g es (i + 1)).1.h y := by
  obtain ⟨q, hq, _, hM⟩ := rounds_gh src dst g es (i + 1)
  obtain ⟨hl, M⟩ := hM (Nat.succ_pos i)
  rw [← hq]
  exact M.none (hl.trans h)
def pred (c : A → Option B) (v : A) : A := match c v with
  | some x => src x
  | none => v
def walk (c : A → Option B) (v : A) : Nat → A
  | 0 => v
  | j + 1 => pred src c (walk c v j)
theorem walk_add (c : A → Option B) (v : A) (i : Nat) : ∀ j, walk src c v (i + j) = walk src c (walk src c v i) j
  | 0 => rfl
  | j + 1 => by
    show pred src c (walk src c v (i + j)) = pred src c (walk src c (walk src c v i) j)
    rw [walk_add c v i j]
theorem chain (es : List B) (i : Nat) (v : A) (h : (rounds src dst g es i).2 = some v) (hi : 0 < i) : ∀ j, j < i → ∃ x, (rounds src dst g es i).1.c (walk src (rounds src dst g es i).1.c v j) = some x ∧ x ∈ es := by
  obtain ⟨q, hq, _, hM⟩ := rounds_gh src dst g es i
  obtain ⟨hl, M⟩ := hM hi
  rw [← hq]
  have hv : q.r v = i := M.last v (hl.trans h)
  have key : ∀ j, j < i → i ≤ q.r (walk src q.s.c v j) + j := by
    intro j
    induction j with
    | zero => intro _; show i ≤ q.r v + 0; omega
    | succ j ih =>
      intro hj
      have h1 := ih (by omega)
      have h2 : q.s.c (walk src q.s.c v j) ≠ none := M.lifted _ (by omega)
      cases e : q.s.c (walk src q.s.c v j) with
      | none => exact absurd e h2
      | some x =>
        have h3 := (M.here _ _ e).2.2.1
        have h4 : walk src q.s.c v (j + 1) = src x := by show pred src q.s.c (walk src q.s.c v j) = _; unfold pred; rw [e]
        rw [h4]; omega
  intro j hj
  have h1 := key j hj
  have h2 : q.s.c (walk src q.s.c v j) ≠ none := M.lifted _ (by omega)
  cases e : q.s.c (walk src q.s.c v j) with
  | none => exact absurd e h2
  | some x => exact ⟨x, rfl, (M.here _ _ e).1⟩
end

/-! pigeons -/
theorem pigeon {A : Type} [DecidableEq A] : ∀ (vs : List A) (f : Nat → A), (∀ i, i ≤ vs.length → f i ∈ vs) → ∃ i j, i < j ∧ j ≤ vs.length ∧ f i = f j
  | [], f, h => nomatch h 0 (Nat.le_refl 0)
  | a :: vs, f, h => by
    by_cases h1 : ∃ i, i ≤ vs.length ∧ f i = a ∧ ∃ j, i < j ∧ j ≤ vs.length + 1 ∧ f j = a
    · obtain ⟨i, hi, e, j, hj, hj2, e2⟩ := h1
      exact ⟨i, j, hj, hj2, e.trans e2.symm⟩
    · -- a is met once at most: leave that place out
      by_cases h2 : ∃ k, k ≤ vs.length + 1 ∧ f k = a
      · obtain ⟨k, hk, ek⟩ := h2
        have other : ∀ i, i ≤ vs.length + 1 → i ≠ k → f i ∈ vs := fun i hi hne => by
          rcases List.mem_cons.mp (h i hi) with z | z
          · exfalso
            rcases Nat.lt_or_gt_of_ne hne with l | l
            · exact h1 ⟨i, by omega, z, k, l, hk, ek⟩
            · exact h1 ⟨k, by omega, ek, i, l, hi, z⟩
          · exact z
        obtain ⟨i, j, hij, hj, e⟩ := pigeon vs (fun i => if i < k then f i else f (i + 1)) (fun i hi => by
          by_cases l : i < k
          · simp only [l, if_true]; exact other i (by omega) (by omega)
          · simp only [l, if_false]; exact other (i + 1) (by omega) (by omega))
        refine ⟨if i < k then i else i + 1, if j < k then j else j + 1, ?_, ?_, ?_⟩
        · split <;> split <;> omega
        · show _ ≤ vs.length + 1; split <;> omega
        · have e : (if i < k then f i else f (i + 1)) = (if j < k then f j else f (j + 1)) := e
          by_cases l1 : i < k
          · by_cases l2 : j < k
            · simp only [l1, l2, if_true] at e ⊢; exact e
            · simp only [l1, l2, if_true, if_false] at e ⊢; exact e
          · by_cases l2 : j < k
            · simp only [l1, l2, if_true, if_false] at e ⊢; exact e
            · simp only [l1, l2, if_false] at e ⊢; exact e
      · obtain ⟨i, j, hij, hj, e⟩ := pigeon vs f (fun i hi => by
          rcases List.mem_cons.mp (h i (Nat.le_succ_of_le hi)) with z | z
          · exact absurd ⟨i, Nat.le_succ_of_le hi, z⟩ h2
          · exact z)
        exact ⟨i, j, hij, Nat.le_succ_of_le hj, e⟩

/-! sums -/
def sumN (f : Nat → Int) : Nat → Int
  | 0 => 0
  | n + 1 => sumN f n + f n
theorem sumN_congr {f f' : Nat → Int} : ∀ n, (∀ i, i < n → f i = f' i) → sumN f n = sumN f' n
  | 0, _ => rfl
  | n + 1, h => by
    show sumN f n + f n = sumN f' n + f' n
    rw [sumN_congr n (fun i hi => h i (Nat.lt_succ_of_lt hi)), h n (Nat.lt_succ_self n)]
theorem sumN_le {f f' : Nat → Int} : ∀ n, (∀ i, i < n → f i ≤ f' i) → sumN f n ≤ sumN f' n
  | 0, _ => Int.le_refl _
  | n + 1, h => by
    show sumN f n + f n ≤ sumN f' n + f' n
    exact Int.add_le_add (sumN_le n fun i hi => h i (Nat.lt_succ_of_lt hi)) (h n (Nat.lt_succ_self n))
theorem sumN_lt {f f' : Nat → Int} : ∀ n, (∀ i, i < n → f i ≤ f' i) → (∃ i, i < n ∧ f i < f' i) → sumN f n < sumN f' n
  | 0, _, ⟨i, hi, _⟩ => absurd hi (Nat.not_lt_zero i)
  | n + 1, h, ⟨i, hi, e⟩ => by
    show sumN f n + f n < sumN f' n + f' n
    by_cases z : i = n
    · subst z
      exact Int.add_lt_add_of_le_of_lt (sumN_le i fun j hj => h j (Nat.lt_succ_of_lt hj)) e
    · exact Int.add_lt_add_of_lt_of_le (sumN_lt n (fun j hj => h j (Nat.lt_succ_of_lt hj)) ⟨i, by omega, e⟩) (h n (Nat.lt_succ_self n))
theorem sumN_tele (f : Nat → Int) : ∀ n, sumN (fun i => f i - f (i + 1)) n = f 0 - f n
  | 0 => (Int.sub_self _).symm
  | n + 1 => by
    show sumN (fun i => f i - f (i + 1)) n + (f n - f (n + 1)) = _
    rw [sumN_tele f n]; omega
theorem sumN_front (f : Nat → Int) : ∀ n, sumN f (n + 1) = f 0 + sumN (fun i => f (i + 1)) n
  | 0 => by show 0 + f 0 = f 0 + 0; omega
  | n + 1 => by
    show sumN f (n + 1) + f (n + 1) = f 0 + (sumN (fun i => f (i + 1)) n + f (n + 1))
    rw [sumN_front f n]; omega
theorem sumN_rot {f : Nat → Int} {L : Nat} (hp : ∀ i, f (i + L) = f i) : ∀ a, sumN (fun i => f (i + a)) L = sumN f L
  | 0 => rfl
  | a + 1 => by
    rw [← sumN_rot hp a]
    have h1 := sumN_front (fun i => f (i + a)) L
    have h2 : sumN (fun i => f (i + a)) (L + 1) = sumN (fun i => f (i + a)) L + f (L + a) := rfl
    have h3 : f (L + a) = f a := by rw [Nat.add_comm]; exact hp a
    have h4 : sumN (fun i => f (i + (a + 1))) L = sumN (fun i => f (i + 1 + a)) L := sumN_congr L fun i _ => by rw [show i + (a + 1) = i + 1 + a by omega]
    rw [h4]
    have h5 : f (0 + a) = f a := by rw [Nat.zero_add]
    rw [h2, h3] at h1
    simp only [h5] at h1
    omega
theorem sumN_rev (f : Nat → Int) : ∀ n, sumN (fun i => f (n - 1 - i)) n = sumN f n
  | 0 => rfl
  | n + 1 => by
    rw [sumN_front]
    show f (n + 1 - 1 - 0) + sumN (fun i => f (n + 1 - 1 - (i + 1))) n = sumN f n + f n
    have h1 : sumN (fun i => f (n + 1 - 1 - (i + 1))) n = sumN (fun i => f (n - 1 - i)) n := sumN_congr n fun i _ => by rw [show n + 1 - 1 - (i + 1) = n - 1 - i by omega]
    rw [h1, sumN_rev f n]
    show f n + _ = _
    omega

/-! the ring -/
section
variable {A B : Type} [DecidableEq A] (src dst : B → A) (g : B → Int)
/-- behind more rounds than there are standings a chain of edges goes back into a ring, whose gain is positive -/
theorem ring_of (es : List B) (vs : List A) (hv : ∀ x ∈ es, src x ∈ vs ∧ dst x ∈ vs) (v : A) (h : (rounds src dst g es (vs.length + 1)).2 = some v) :
    let c := (rounds src dst g es (vs.length + 1)).1.c
    (∀ j, ∃ x, c (walk src c v j) = some x ∧ x ∈ es ∧ dst x = walk src c v j ∧ src x = walk src c v (j + 1)) ∧
    ∃ L, 0 < L ∧ L ≤ vs.length ∧ walk src c v (vs.length + L) = walk src c v vs.length := by
  intro c
  obtain ⟨q, hq, _, hM⟩ := rounds_gh src dst g es (vs.length + 1)
  obtain ⟨hl, M⟩ := hM (Nat.succ_pos _)
  have hc : q.s.c = c := by rw [hq]
  have ch : ∀ j, j < vs.length + 1 → ∃ x, c (walk src c v j) = some x ∧ x ∈ es := chain src dst g es (vs.length + 1) v h (Nat.succ_pos _)
  have hd : ∀ u x, c u = some x → dst x = u := fun u x e => (M.here u x (by rw [hc]; exact e)).2.1
  have hs : ∀ j x, c (walk src c v j) = some x → src x = walk src c v (j + 1) := fun j x e => by
    show _ = pred src c (walk src c v j)
    unfold pred; rw [e]
  obtain ⟨i, j, hij, hj, e⟩ := pigeon vs (fun j => walk src c v j) (fun j hj => by
    obtain ⟨x, ex, hx⟩ := ch j (by omega)
    show walk src c v j ∈ vs
    rw [← hd _ _ ex]
    exact (hv x hx).2)
  have e : walk src c v i = walk src c v j := e
  -- the period
  have per : ∀ a, i ≤ a → walk src c v (a + (j - i)) = walk src c v a := by
    intro a ha
    have h1 : a + (j - i) = j + (a - i) := by omega
    have h2 : a = i + (a - i) := by omega
    rw [h1, walk_add, ← e, ← walk_add, ← h2]
  have all : ∀ a, ∃ b, b < vs.length + 1 ∧ walk src c v a = walk src c v b := by
    intro a
    induction a using Nat.strongRecOn with
    | _ a ih =>
      by_cases ha : a < vs.length + 1
      · exact ⟨a, ha, rfl⟩
      · obtain ⟨b, hb, eb⟩ := ih (a - (j - i)) (by omega)
        refine ⟨b, hb, ?_⟩
        rw [← eb, ← per (a - (j - i)) (by omega)]
        congr 1
        omega
  refine ⟨fun a => ?_, j - i, by omega, by omega, per vs.length (by omega)⟩
  obtain ⟨b, hb, eb⟩ := all a
  obtain ⟨x, ex, hx⟩ := ch b hb
  rw [← eb] at ex
  exact ⟨x, ex, hx, hd _ _ ex, hs _ _ ex⟩
/-- each ring of such edges gains -/
theorem ring_gain (es : List B) (i : Nat) (hi : 0 < i) (u : Nat → A) (x : Nat → B) (L : Nat) (hL : 0 < L) (hu : u L = u 0)
    (hx : ∀ j, (rounds src dst g es i).1.c (u j) = some (x j) ∧ src (x j) = u (j + 1)) : 0 < sumN (fun j => g (x j)) L := by
  obtain ⟨q, hq, _, hM⟩ := rounds_gh src dst g es i
  obtain ⟨hl, M⟩ := hM hi
  have hh : ∀ j, q.s.h (u j) - q.s.h (u (j + 1)) ≤ g (x j) := fun j => by
    have h1 := (M.here (u j) (x j) (by rw [hq]; exact (hx j).1)).2.2.2.1
    rw [(hx j).2] at h1
    omega
  have strict : ∃ j, j < L ∧ q.tm (u j) ≤ q.tm (u (j + 1)) := by
    apply Classical.byContradiction
    intro hn
    have hn : ∀ j, j < L → q.tm (u (j + 1)) < q.tm (u j) := fun j hj => Nat.lt_of_not_le fun z => hn ⟨j, hj, z⟩
    have down : ∀ j, j ≤ L → 0 < j → q.tm (u j) < q.tm (u 0) := by
      intro j
      induction j with
      | zero => intro _ h; exact absurd h (Nat.lt_irrefl 0)
      | succ j ih =>
        intro h1 _
        have h2 := hn j (by omega)
        by_cases z : j = 0
        · subst z; exact h2
        · exact Nat.lt_trans h2 (ih (by omega) (by omega))
    have := down L (Nat.le_refl L) hL
    rw [hu] at this
    exact Nat.lt_irrefl _ this
  have h1 : sumN (fun j => q.s.h (u j) - q.s.h (u (j + 1))) L < sumN (fun j => g (x j)) L := by
    refine sumN_lt L (fun j _ => hh j) ?_
    obtain ⟨j, hj, ht⟩ := strict
    refine ⟨j, hj, ?_⟩
    have h2 := (M.here (u j) (x j) (by rw [hq]; exact (hx j).1)).2.2.2.2
    rw [(hx j).2] at h2
    have h3 := h2 ht
    show q.s.h (u j) - q.s.h (u (j + 1)) < g (x j)
    omega
  rw [sumN_tele (fun j => q.s.h (u j)), hu] at h1
  omega
end
end Wp
/-! Texts of two letters (false is a, true is b), rules, places, shares: plain mathematics. -/
namespace Wp
/-! ### all texts of n letters, ascending -/
def words : Nat → List (List Bool)
  | 0 => [[]]
  | n + 1 => (words n).flatMap fun t => [t ++ [false], t ++ [true]]
theorem mem_words : ∀ {n : Nat} {t : List Bool}, t ∈ words n ↔ t.length = n
  | 0, t => by
    show t ∈ [[]] ↔ _
    simp
  | n + 1, t => by
    show t ∈ (words n).flatMap _ ↔ _
    rw [List.mem_flatMap]
    constructor
    · rintro ⟨u, hu, ht⟩
      have hu := mem_words.mp hu
      simp only [List.mem_cons, List.not_mem_nil, or_false] at ht
      rcases ht with rfl | rfl <;> simp [hu]
    · intro h
      have hne : t ≠ [] := fun z => by rw [z] at h; simp at h
      refine ⟨t.dropLast, mem_words.mpr (by simp [h]), ?_⟩
      have e := List.dropLast_concat_getLast hne
      cases hb : t.getLast hne with
      | false => rw [hb] at e; simp [e]
      | true => rw [hb] at e; simp [e]
theorem words_length : ∀ n, (words n).length = 2 ^ n
  | 0 => rfl
  | n + 1 => by
    have h : ∀ l : List (List Bool), (l.flatMap fun t => [t ++ [false], t ++ [true]]).length = 2 * l.length := by
      intro l
      induction l with
      | nil => rfl
      | cons a l ih => rw [List.flatMap_cons, List.length_append, ih]; simp; omega
    show ((words n).flatMap _).length = _
    rw [h, words_length n]
    omega
theorem nodup_words : ∀ n, (words n).Nodup
  | 0 => by show ([[]] : List (List Bool)).Nodup; simp
  | n + 1 => by
    have h : ∀ l : List (List Bool), l.Nodup → (l.flatMap fun t => [t ++ [false], t ++ [true]]).Nodup := by
      intro l
      induction l with
      | nil => intro _; exact List.nodup_nil
      | cons a l ih =>
        intro hn
        obtain ⟨h1, h2⟩ := List.nodup_cons.mp hn
        rw [List.flatMap_cons, List.nodup_append]
        refine ⟨by simp, ih h2, ?_⟩
        intro x hx y hy e
        subst e
        obtain ⟨b, hb, hy⟩ := List.mem_flatMap.mp hy
        simp only [List.mem_cons, List.not_mem_nil, or_false] at hx hy
        have : a = b := by
          rcases hx with rfl | rfl <;> rcases hy with e | e <;> exact (List.append_inj' e rfl).1
        subst this
        exact h1 hb
    exact h _ (nodup_words n)

/-! ### rules -/
structure Ru where
  w : Nat
  k : Nat
  tab : List Nat
def Ru.size (r : Ru) : Nat := r.w + r.k - 1
def Ru.n (r : Ru) : Nat := 2 * r.w + r.k - 2
def Ru.m (r : Ru) : Nat := 2 * r.w + r.k - 3
structure Ru.Ok (r : Ru) : Prop where
  w1 : 1 ≤ r.w
  w5 : r.w ≤ 5
  k1 : 1 ≤ r.k
  k4 : r.k ≤ 4
  wk : 3 ≤ r.w + r.k
  n5 : 2 * r.w + r.k ≤ 7
  len : r.tab.length = 2 ^ r.size
  lt : ∀ x ∈ r.tab, x < r.w
def bit (b : Bool) : Nat := if b then 1 else 0
def idx (t : List Bool) : Nat := t.foldl (fun a b => a * 2 + bit b) 0
theorem idx_from (t : List Bool) : ∀ a, t.foldl (fun a b => a * 2 + bit b) a = a * 2 ^ t.length + idx t := by
  induction t with
  | nil => intro a; simp [idx]
  | cons b t ih =>
    intro a
    unfold idx
    rw [List.foldl_cons, List.foldl_cons, ih, ih (0 * 2 + bit b), List.length_cons, Nat.pow_succ]
    rw [Nat.zero_mul, Nat.zero_add, Nat.add_mul]
    have : a * 2 * 2 ^ t.length = a * (2 ^ t.length * 2) := by rw [Nat.mul_assoc, Nat.mul_comm 2]
    omega
theorem idx_lt (t : List Bool) : idx t < 2 ^ t.length := by
  induction t with
  | nil => show 0 < 1; omega
  | cons b t ih =>
    unfold idx
    rw [List.foldl_cons, idx_from, List.length_cons, Nat.pow_succ]
    have : bit b ≤ 1 := by cases b <;> decide
    have h2 : (0 * 2 + bit b) * 2 ^ t.length ≤ 2 ^ t.length := by
      rw [Nat.zero_mul, Nat.zero_add]
      exact Nat.le_trans (Nat.mul_le_mul_right _ this) (by rw [Nat.one_mul]; exact Nat.le_refl _)
    omega
theorem idx_inj (t : List Bool) : ∀ u : List Bool, t.length = u.length → idx t = idx u → t = u := by
  induction t with
  | nil =>
    intro u hl _
    exact (List.eq_nil_of_length_eq_zero hl.symm).symm
  | cons b t ih =>
    intro u hl h
    cases u with
    | nil => simp at hl
    | cons c u =>
      have hl : t.length = u.length := by simpa using hl
      unfold idx at h
      rw [List.foldl_cons, List.foldl_cons, idx_from, idx_from, hl] at h
      have h1 := idx_lt t
      have h2 := idx_lt u
      rw [hl] at h1
      have hb : b = c ∧ idx t = idx u := by
        cases b <;> cases c <;> simp only [bit, Nat.zero_mul, Nat.zero_add, Nat.one_mul, if_true, if_false, Bool.false_eq_true] at h
        · exact ⟨rfl, h⟩
        · omega
        · omega
        · exact ⟨rfl, by omega⟩
      rw [hb.1, ih u hl hb.2]
/-- the index of a text among all of its length -/
theorem words_get : ∀ {n : Nat} {t : List Bool}, t.length = n → (words n)[idx t]? = some t
  | 0, t, h => by
    have e : t = [] := List.eq_nil_of_length_eq_zero h
    subst e; rfl
  | n + 1, t, h => by
    have hne : t ≠ [] := fun z => by rw [z] at h; simp at h
    have e := List.dropLast_concat_getLast hne
    have hd : t.dropLast.length = n := by simp [h]
    have ih := words_get hd
    have hf : ∀ (l : List (List Bool)) (i : Nat) (b : Bool) (u : List Bool), l[i]? = some u → (l.flatMap fun t => [t ++ [false], t ++ [true]])[i * 2 + bit b]? = some (u ++ [b]) := by
      intro l
      induction l with
      | nil => intro i b u hu; simp at hu
      | cons a l ih =>
        intro i b u hu
        rw [List.flatMap_cons]
        cases i with
        | zero =>
          have : a = u := by simpa using hu
          subst this
          cases b <;> rfl
        | succ i =>
          have := ih i b u (by simpa using hu)
          show ([a ++ [false], a ++ [true]] ++ _)[(i + 1) * 2 + bit b]? = _
          rw [List.getElem?_append_right (by simp; omega)]
          rw [← this]
          congr 1
          simp; omega
    have h2 := hf (words n) (idx t.dropLast) (t.getLast hne) _ ih
    rw [e] at h2
    have h3 : idx t = idx t.dropLast * 2 + bit (t.getLast hne) := by
      conv => lhs; rw [← e]
      unfold idx
      rw [List.foldl_append]; rfl
    rw [h3]; exact h2
def off (r : Ru) (t : List Bool) : Nat := r.tab.getD (idx t) 0
theorem off_lt {r : Ru} (h : r.Ok) (t : List Bool) : off r t < r.w := by
  unfold off
  rw [List.getD_eq_getElem?_getD]
  cases e : r.tab[idx t]? with
  | none => exact h.w1
  | some x => exact h.lt x (List.mem_of_getElem? e)
theorem off_get {r : Ru} (h : r.Ok) {t : List Bool} (ht : t.length = r.size) : r.tab[idx t]? = some (off r t) := by
  have h1 := idx_lt t
  rw [ht, ← h.len] at h1
  unfold off
  rw [List.getD_eq_getElem?_getD, List.getElem?_eq_getElem h1]
  rfl
/-- the places that the windows pick, window by window -/
def placesL (r : Ru) (t : List Bool) : List Nat := (List.range (t.length + 1 - r.size)).map fun s => s + off r ((t.drop s).take r.size)
/-- whether the place amid is picked -/
def st (r : Ru) (t : List Bool) : Bool := decide (r.w - 1 ∈ placesL r t)
theorem mem_placesL {r : Ru} {t : List Bool} {p : Nat} : p ∈ placesL r t ↔ ∃ s, s + r.size ≤ t.length ∧ 1 ≤ t.length + 1 - r.size ∧ s + off r ((t.drop s).take r.size) = p := by
  unfold placesL
  rw [List.mem_map]
  constructor
  · rintro ⟨s, hs, e⟩
    have := List.mem_range.mp hs
    exact ⟨s, by omega, by omega, e⟩
  · rintro ⟨s, hs, h2, e⟩
    exact ⟨s, List.mem_range.mpr (by omega), e⟩
/-- whether a place is picked, told by the letters around it -/
theorem st_around {r : Ru} (h : r.Ok) {t : List Bool} {p : Nat} (h1 : r.w - 1 ≤ p) (h2 : p + r.size ≤ t.length) : p ∈ placesL r t ↔ st r ((t.drop (p - (r.w - 1))).take r.n) = true := by
  have e1 := h.w1
  have e2 := h.k1
  have en : r.n = 2 * r.w + r.k - 2 := rfl
  have es : r.size = r.w + r.k - 1 := rfl
  have hl : ((t.drop (p - (r.w - 1))).take r.n).length = r.n := by
    rw [List.length_take, List.length_drop]; omega
  have sub : ∀ s, s + r.size ≤ r.n → (((t.drop (p - (r.w - 1))).take r.n).drop s).take r.size = (t.drop (p - (r.w - 1) + s)).take r.size := by
    intro s hs
    rw [List.drop_take, List.take_take, List.drop_drop]
    congr 1
    omega
  unfold st
  rw [decide_eq_true_iff, mem_placesL, mem_placesL, hl]
  constructor
  · rintro ⟨s, hs, _, e⟩
    have := off_lt h ((t.drop s).take r.size)
    refine ⟨s - (p - (r.w - 1)), by omega, by omega, ?_⟩
    rw [sub _ (by omega), show p - (r.w - 1) + (s - (p - (r.w - 1))) = s by omega]
    omega
  · rintro ⟨s, hs, _, e⟩
    rw [sub s hs] at e
    exact ⟨p - (r.w - 1) + s, by omega, by omega, by omega⟩

/-! ### a text repeated without end -/
def win (n : Nat) (t : List Bool) (i : Nat) : List Bool := (List.range n).map fun j => t.getD ((i + j) % t.length) false
theorem win_length (n : Nat) (t : List Bool) (i : Nat) : (win n t i).length = n := by simp [win]
theorem win_get {n : Nat} {t : List Bool} {i a : Nat} (h : a < n) : (win n t i)[a]? = some (t.getD ((i + a) % t.length) false) := by
  unfold win
  rw [List.getElem?_map, List.getElem?_range h]; rfl
theorem win_period (n : Nat) (t : List Bool) (i : Nat) : win n t (i + t.length) = win n t i := by
  unfold win
  apply List.map_congr_left
  intro j _
  rw [show i + t.length + j = (i + j) + t.length by omega, Nat.add_mod_right]
theorem win_part (n a b : Nat) (t : List Bool) (i : Nat) (h : a + b ≤ n) : ((win n t i).drop a).take b = win b t (i + a) := by
  apply List.ext_getElem?
  intro j
  by_cases hj : j < b
  · rw [List.getElem?_take_of_lt hj, List.getElem?_drop, win_get (by omega), win_get hj]
    rw [show i + (a + j) = i + a + j by omega]
  · rw [List.getElem?_eq_none (by rw [List.length_take]; omega), List.getElem?_eq_none (by rw [win_length]; omega)]
theorem win_init (n : Nat) (t : List Bool) (i : Nat) : (win (n + 1) t i).dropLast = win n t i := by
  have h := win_part (n + 1) 0 n t i (by omega)
  rw [List.dropLast_eq_take, win_length]
  simpa using h
theorem win_tail (n : Nat) (t : List Bool) (i : Nat) : (win (n + 1) t i).drop 1 = win n t (i + 1) := by
  have h := win_part (n + 1) 1 n t i (by omega)
  rw [← h, List.take_of_length_le (by simp [win_length])]
/-- the text so often that it is long enough -/
def rep (t : List Bool) (K : Nat) : List Bool := (List.replicate K t).flatten
theorem rep_length (t : List Bool) : ∀ K, (rep t K).length = K * t.length
  | 0 => by simp [rep]
  | K + 1 => by
    have : rep t (K + 1) = t ++ rep t K := by unfold rep; rw [List.replicate_succ, List.flatten_cons]
    rw [this, List.length_append, rep_length t K, Nat.succ_mul]; omega
theorem rep_get (t : List Bool) (ht : 0 < t.length) : ∀ (K i : Nat), i < K * t.length → (rep t K)[i]? = some (t.getD (i % t.length) false)
  | 0, i, h => by simp at h
  | K + 1, i, h => by
    have e : rep t (K + 1) = t ++ rep t K := by unfold rep; rw [List.replicate_succ, List.flatten_cons]
    rw [e]
    by_cases hi : i < t.length
    · rw [List.getElem?_append_left hi, Nat.mod_eq_of_lt hi, List.getD_eq_getElem?_getD, List.getElem?_eq_getElem hi]; rfl
    · rw [List.getElem?_append_right (by omega), rep_get t ht K (i - t.length) (by rw [Nat.succ_mul] at h; omega)]
      congr 2
      rw [← Nat.mod_eq_sub_mod (by omega)]
theorem rep_win {t : List Bool} (ht : 0 < t.length) {K n i : Nat} (h : i + n ≤ K * t.length) : ((rep t K).drop i).take n = win n t i := by
  apply List.ext_getElem?
  intro j
  by_cases hj : j < n
  · rw [List.getElem?_take_of_lt hj, List.getElem?_drop, rep_get t ht K (i + j) (by omega), win_get hj]
  · rw [List.getElem?_eq_none (by rw [List.length_take]; omega), List.getElem?_eq_none (by rw [win_length]; omega)]
theorem long_ok {l n i : Nat} (hl : 0 < l) (hi : i < l) : i + n ≤ (n / l + 2) * l := by
  have h1 := Nat.div_add_mod n l
  have h2 := Nat.mod_lt n hl
  rw [Nat.add_mul, Nat.mul_comm (n / l) l]
  omega
/-- how many places are picked -/
def cnt (r : Ru) (t : List Bool) : Nat := ((List.range t.length).filter fun i => st r (win r.n t i)).length
def b2n (b : Bool) : Int := if b then 1 else 0
theorem filter_sum (f : Nat → Bool) : ∀ n, (((List.range n).filter f).length : Int) = sumN (fun i => b2n (f i)) n
  | 0 => rfl
  | n + 1 => by
    rw [List.range_succ, List.filter_append, List.length_append]
    show _ = sumN (fun i => b2n (f i)) n + b2n (f n)
    rw [← filter_sum f n]
    cases h : f n <;> simp [h, b2n]
theorem cnt_sum (r : Ru) (t : List Bool) : (cnt r t : Int) = sumN (fun i => b2n (st r (win r.n t i))) t.length := filter_sum _ _
theorem cnt_le (r : Ru) (t : List Bool) : cnt r t ≤ t.length := by
  unfold cnt
  refine Nat.le_trans (List.length_filter_le _ _) ?_
  simp
/-! ### gains -/
def gain (f : List Bool → Bool) (sg p q : Int) (x : List Bool) : Int := sg * (q * b2n (f x) - p)
theorem gain_sum (f : Nat → List Bool) (g : List Bool → Bool) (sg p q : Int) : ∀ n : Nat, sumN (fun i => gain g sg p q (f i)) n = sg * (q * sumN (fun i => b2n (g (f i))) n - p * n)
  | 0 => by simp [sumN]
  | n + 1 => by
    show sumN _ n + gain g sg p q (f n) = sg * (q * (sumN _ n + b2n (g (f n))) - p * ((n + 1 : Nat) : Int))
    rw [gain_sum f g sg p q n]
    unfold gain
    rw [← Int.mul_add, Int.mul_add q]
    congr 1
    have : p * ((n + 1 : Nat) : Int) = p * n + p := by
      rw [Int.natCast_succ, Int.mul_add, Int.mul_one]
    omega
theorem gain_cnt (r : Ru) (sg p q : Int) (t : List Bool) : sumN (fun i => gain (st r) sg p q (win r.n t i)) t.length = sg * (q * cnt r t - p * t.length) := by
  rw [gain_sum, cnt_sum]
/-- heights that hold bound all texts -/
theorem hold_bound (r : Ru) (hn : r.n = r.m + 1) (sg p q : Int) (h : List Bool → Int) (hh : ∀ y ∈ words r.n, Slack List.dropLast (List.drop 1) (gain (st r) sg p q) h y) (t : List Bool) :
    sg * (q * cnt r t - p * t.length) ≤ 0 := by
  rw [← gain_cnt]
  have h1 : sumN (fun i => gain (st r) sg p q (win r.n t i)) t.length ≤ sumN (fun i => (fun i => -(h (win r.m t i))) i - (fun i => -(h (win r.m t i))) (i + 1)) t.length := by
    refine sumN_le _ fun i _ => ?_
    have h2 := hh (win r.n t i) (mem_words.mpr (win_length _ _ _))
    unfold Slack at h2
    rw [hn, win_init, win_tail, ← hn] at h2
    show gain (st r) sg p q (win r.n t i) ≤ -(h (win r.m t i)) - -(h (win r.m t (i + 1)))
    omega
  rw [sumN_tele] at h1
  have h3 := win_period r.m t 0
  rw [Nat.zero_add] at h3
  rw [h3] at h1
  omega

/-! ### the ring that is told -/
section
variable (c : List Bool → Option (List Bool)) (s : List Bool)
/-- the letters of the ring, from its end -/
def ltr (j : Nat) : Bool := ((c (walk List.dropLast c s j)).getD []).getLastD false
def ringT (L : Nat) : List Bool := ((List.range L).map (ltr c s)).reverse
theorem ringT_length (L : Nat) : (ringT c s L).length = L := by simp [ringT]
variable {c s}
theorem edge_get {n : Nat} {x : Nat → List Bool} (hn : ∀ j, (x j).length = n + 1) (hx : ∀ j, (x j).dropLast = (x (j + 1)).drop 1) : ∀ (b a j : Nat), a + b = n → (x j)[a]? = some ((x (j + b)).getLastD false)
  | 0, a, j, h => by
    rw [Nat.add_zero, List.getLastD_eq_getLast?, List.getLast?_eq_getElem?, hn, show n + 1 - 1 = a by omega, List.getElem?_eq_getElem (by rw [hn]; omega)]
    rfl
  | b + 1, a, j, h => by
    have h1 : (x j)[a]? = ((x j).dropLast)[a]? := by
      rw [List.dropLast_eq_take, List.getElem?_take_of_lt (by rw [hn]; omega)]
    rw [h1, hx j, List.getElem?_drop, Nat.add_comm 1 a, edge_get hn hx b (a + 1) (j + 1) (by omega), show j + 1 + b = j + (b + 1) by omega]
theorem ring_sum {r : Ru} {sg p q : Int} {x : Nat → List Bool} {L : Nat} (hL : 0 < L) (hm : r.n = r.m + 1) (hc : ∀ j, c (walk List.dropLast c s j) = some (x j)) (hn : ∀ j, (x j).length = r.n) (hx : ∀ j, (x j).dropLast = (x (j + 1)).drop 1)
    (hp : walk List.dropLast c s L = walk List.dropLast c s 0) :
    sg * (q * cnt r (ringT c s L) - p * (L : Nat)) = sumN (fun j => gain (st r) sg p q (x j)) L := by
  have per : ∀ j, x (j + L) = x j := fun j => by
    have h1 : walk List.dropLast c s (j + L) = walk List.dropLast c s j := by
      rw [Nat.add_comm, walk_add, hp]; rfl
    have h2 := hc (j + L)
    rw [h1, hc j] at h2
    exact (Option.some.inj h2).symm
  have perk : ∀ k j, x (j + k * L) = x j := by
    intro k
    induction k with
    | zero => intro j; rw [Nat.zero_mul]; rfl
    | succ k ih => intro j; rw [Nat.succ_mul, ← Nat.add_assoc, per, ih]
  have perm : ∀ j, x (j % L) = x j := fun j => by
    have h1 := perk (j / L) (j % L)
    rw [Nat.mul_comm, Nat.mod_add_div] at h1
    exact h1.symm
  have lt_eq : ∀ j, ltr c s j = (x j).getLastD false := fun j => by unfold ltr; rw [hc j]; rfl
  have tg : ∀ i, i < L → (ringT c s L).getD i false = (x (L - 1 - i)).getLastD false := fun i hi => by
    unfold ringT
    rw [List.getD_eq_getElem?_getD, List.getElem?_reverse (by simpa using hi), List.length_map, List.length_range, List.getElem?_map, List.getElem?_range (by omega)]
    show ltr c s (L - 1 - i) = _
    exact lt_eq _
  have key : ∀ i, win r.n (ringT c s L) i = x (L * r.n + L * (i + 1) - r.n - i) := by
    intro i
    have hLn : r.n ≤ L * r.n := Nat.le_mul_of_pos_left _ hL
    have hLi : i + 1 ≤ L * (i + 1) := Nat.le_mul_of_pos_left _ hL
    apply List.ext_getElem?
    intro a
    by_cases ha : a < r.n
    · rw [win_get ha, ringT_length]
      have h1 : (i + a) % L < L := Nat.mod_lt _ hL
      rw [tg _ h1, edge_get (n := r.m) (fun j => by rw [hn, hm]) hx (r.m - a) a _ (by omega)]
      congr 2
      rw [← perm (L - 1 - (i + a) % L), ← perm (L * r.n + L * (i + 1) - r.n - i + (r.m - a))]
      congr 1
      have h2 := Nat.div_add_mod (i + a) L
      have h3 : L * r.n + L * (i + 1) - r.n - i + (r.m - a) = L * r.n + L * (i + 1) - 1 - (i + a) := by omega
      rw [h3]
      -- both are -1 - (i + a) modulo L
      have h4 : (i + a) / L ≤ i + r.n := Nat.le_trans (Nat.div_le_self _ _) (by omega)
      have h5 : L * r.n + L * (i + 1) - 1 - (i + a) = (L - 1 - (i + a) % L) + L * (r.n + i - (i + a) / L) := by
        rw [Nat.mul_sub, Nat.mul_add, Nat.mul_add, Nat.mul_one]
        have h6 : L * ((i + a) / L) ≤ L * r.n + L * i := by
          rw [← Nat.mul_add]; exact Nat.mul_le_mul_left _ (by omega)
        omega
      rw [h5, Nat.add_mul_mod_self_left]
    · rw [List.getElem?_eq_none (by rw [win_length]; omega), List.getElem?_eq_none (by rw [hn]; omega)]
  have h1 := gain_cnt r sg p q (ringT c s L)
  rw [ringT_length] at h1
  rw [← h1]
  have hLn : r.n ≤ L * r.n := Nat.le_mul_of_pos_left _ hL
  have h2 : sumN (fun i => gain (st r) sg p q (win r.n (ringT c s L) i)) L = sumN (fun i => (fun j => gain (st r) sg p q (x (j + (L * r.n - r.n + 1)))) (L - 1 - i)) L := by
    refine sumN_congr L fun i hi => ?_
    show gain (st r) sg p q (win r.n (ringT c s L) i) = gain (st r) sg p q (x (L - 1 - i + (L * r.n - r.n + 1)))
    rw [key i]
    congr 1
    have h3 : L * r.n + L * (i + 1) - r.n - i = (L - 1 - i + (L * r.n - r.n + 1)) + i * L := by
      rw [Nat.mul_add, Nat.mul_one, Nat.mul_comm i L]; omega
    rw [h3, perk]
  rw [h2, sumN_rev (fun j => gain (st r) sg p q (x (j + (L * r.n - r.n + 1))))]
  exact sumN_rot (f := fun j => gain (st r) sg p q (x j)) (fun i => by show gain _ _ _ _ (x (i + L)) = _; rw [per]) _
end
theorem least_of {P : Nat → Prop} : ∀ {L : Nat}, 0 < L → P L → ∃ L', 0 < L' ∧ L' ≤ L ∧ P L' ∧ ∀ j, 0 < j → j < L' → ¬ P j := by
  intro L
  induction L using Nat.strongRecOn with
  | _ L ih =>
    intro h0 hP
    by_cases h : ∃ j, 0 < j ∧ j < L ∧ P j
    · obtain ⟨j, h1, h2, h3⟩ := h
      obtain ⟨L', a, b, c, d⟩ := ih j h2 h1 h3
      exact ⟨L', a, by omega, c, d⟩
    · exact ⟨L, h0, Nat.le_refl _, hP, fun j h1 h2 h3 => h ⟨j, h1, h2, h3⟩⟩
/-- the weighing, round by round -/
def wr (r : Ru) (sg p q : Int) : Nat → Lf (List Bool) (List Bool) × Option (List Bool) := rounds List.dropLast (List.drop 1) (gain (st r) sg p q) (words r.n)
theorem wr_none {r : Ru} (hm : r.n = r.m + 1) {sg p q : Int} {i : Nat} (h : (wr r sg p q (i + 1)).2 = none) (t : List Bool) : sg * (q * cnt r t - p * t.length) ≤ 0 :=
  hold_bound r hm sg p q _ (rounds_hold _ _ _ _ i h) t
/-- a ring is told: the chain never stops, the ring closes behind L steps, its text has a share beyond -/
theorem wr_ring {r : Ru} (hm : r.n = r.m + 1) (hm1 : 1 ≤ r.m) {sg p q : Int} {v : List Bool} (h : (wr r sg p q (2 ^ r.m + 1)).2 = some v) :
    (∀ j, ∃ x, (wr r sg p q (2 ^ r.m + 1)).1.c (walk List.dropLast (wr r sg p q (2 ^ r.m + 1)).1.c v j) = some x ∧ x.length = r.n ∧ x.drop 1 = walk List.dropLast (wr r sg p q (2 ^ r.m + 1)).1.c v j ∧
      x.dropLast = walk List.dropLast (wr r sg p q (2 ^ r.m + 1)).1.c v (j + 1)) ∧
    ∃ L, 0 < L ∧ L ≤ 2 ^ r.m ∧ walk List.dropLast (wr r sg p q (2 ^ r.m + 1)).1.c v (2 ^ r.m + L) = walk List.dropLast (wr r sg p q (2 ^ r.m + 1)).1.c v (2 ^ r.m) ∧
      (∀ j, 0 < j → j < L → ¬ walk List.dropLast (wr r sg p q (2 ^ r.m + 1)).1.c v (2 ^ r.m + j) = walk List.dropLast (wr r sg p q (2 ^ r.m + 1)).1.c v (2 ^ r.m)) ∧
      0 < sg * (q * cnt r (ringT (wr r sg p q (2 ^ r.m + 1)).1.c (walk List.dropLast (wr r sg p q (2 ^ r.m + 1)).1.c v (2 ^ r.m)) L) - p * (L : Nat)) := by
  have hw := words_length r.m
  have h0 := ring_of List.dropLast (List.drop 1) (gain (st r) sg p q) (words r.n) (words r.m) (fun x hx => by
    have := mem_words.mp hx
    exact ⟨mem_words.mpr (by simp; omega), mem_words.mpr (by simp; omega)⟩) v (by rw [hw]; exact h)
  rw [hw] at h0
  obtain ⟨h1, L0, hL0, hLN, hper⟩ := h0
  have h1 : ∀ j, ∃ x, (wr r sg p q (2 ^ r.m + 1)).1.c (walk List.dropLast (wr r sg p q (2 ^ r.m + 1)).1.c v j) = some x ∧ x ∈ words r.n ∧ x.drop 1 = walk List.dropLast (wr r sg p q (2 ^ r.m + 1)).1.c v j ∧
      x.dropLast = walk List.dropLast (wr r sg p q (2 ^ r.m + 1)).1.c v (j + 1) := h1
  refine ⟨fun j => ?_, ?_⟩
  · obtain ⟨x, a, b, c, d⟩ := h1 j
    exact ⟨x, a, mem_words.mp b, c, d⟩
  · obtain ⟨L, hL, hLL, hper, hmin⟩ := least_of (P := fun L => walk List.dropLast (wr r sg p q (2 ^ r.m + 1)).1.c v (2 ^ r.m + L) = walk List.dropLast (wr r sg p q (2 ^ r.m + 1)).1.c v (2 ^ r.m)) hL0 hper
    refine ⟨L, hL, Nat.le_trans hLL hLN, hper, hmin, ?_⟩
    have hx : ∀ j, ∃ x, (wr r sg p q (2 ^ r.m + 1)).1.c (walk List.dropLast (wr r sg p q (2 ^ r.m + 1)).1.c (walk List.dropLast (wr r sg p q (2 ^ r.m + 1)).1.c v (2 ^ r.m)) j) = some x ∧ x.length = r.n ∧
        x.drop 1 = walk List.dropLast (wr r sg p q (2 ^ r.m + 1)).1.c (walk List.dropLast (wr r sg p q (2 ^ r.m + 1)).1.c v (2 ^ r.m)) j ∧
        x.dropLast = walk List.dropLast (wr r sg p q (2 ^ r.m + 1)).1.c (walk List.dropLast (wr r sg p q (2 ^ r.m + 1)).1.c v (2 ^ r.m)) (j + 1) := fun j => by
      obtain ⟨x, a, b, c, d⟩ := h1 (2 ^ r.m + j)
      rw [walk_add] at a c
      rw [Nat.add_assoc, walk_add] at d
      exact ⟨x, a, mem_words.mp b, c, d⟩
    rw [walk_add] at hper
    generalize hs : walk List.dropLast (wr r sg p q (2 ^ r.m + 1)).1.c v (2 ^ r.m) = s at hx hper ⊢
    have hX := fun j => (hx j).choose_spec
    generalize (fun j => (hx j).choose) = X at hX
    have hX : ∀ j, (wr r sg p q (2 ^ r.m + 1)).1.c (walk List.dropLast (wr r sg p q (2 ^ r.m + 1)).1.c s j) = some ((hx j).choose) ∧ (hx j).choose.length = r.n ∧
        (hx j).choose.drop 1 = walk List.dropLast (wr r sg p q (2 ^ r.m + 1)).1.c s j ∧ (hx j).choose.dropLast = walk List.dropLast (wr r sg p q (2 ^ r.m + 1)).1.c s (j + 1) := fun j => (hx j).choose_spec
    rw [ring_sum (x := fun j => (hx j).choose) hL hm (fun j => (hX j).1) (fun j => (hX j).2.1) (fun j => by rw [(hX j).2.2.2, (hX (j + 1)).2.2.1]) hper]
    exact ring_gain List.dropLast (List.drop 1) (gain (st r) sg p q) (words r.n) (2 ^ r.m + 1) (Nat.succ_pos _) (fun j => walk List.dropLast (wr r sg p q (2 ^ r.m + 1)).1.c s j) (fun j => (hx j).choose) L hL hper
      fun j => ⟨(hX j).1, (hX j).2.2.2⟩
end Wp
/-! Comparing, shares, turning: plain mathematics. -/
namespace Wp
/-! ### fractions in lowest terms -/
def lo (a b : Nat) : Nat × Nat := (a / Nat.gcd a b, b / Nat.gcd a b)
theorem lo_scale (a b k : Nat) (hk : 0 < k) : lo (a * k) (b * k) = lo a b := by
  unfold lo
  rw [Nat.gcd_mul_right, Nat.mul_div_mul_right _ _ hk, Nat.mul_div_mul_right _ _ hk]
theorem lo_eq {a b c d : Nat} (hb : 0 < b) (hd : 0 < d) (h : a * d = c * b) : lo a b = lo c d := by
  rw [← lo_scale a b d hd, ← lo_scale c d b hb, h, Nat.mul_comm b d]
theorem lo_le {a b c d : Nat} (hb : 0 < b) (hd : 0 < d) (h : a * d ≤ c * b) : (lo a b).1 * (lo c d).2 ≤ (lo c d).1 * (lo a b).2 := by
  have g1 : 0 < Nat.gcd a b := Nat.gcd_pos_of_pos_right _ hb
  have g2 : 0 < Nat.gcd c d := Nat.gcd_pos_of_pos_right _ hd
  have ea := Nat.div_mul_cancel (Nat.gcd_dvd_left a b)
  have eb := Nat.div_mul_cancel (Nat.gcd_dvd_right a b)
  have ec := Nat.div_mul_cancel (Nat.gcd_dvd_left c d)
  have ed := Nat.div_mul_cancel (Nat.gcd_dvd_right c d)
  show a / Nat.gcd a b * (d / Nat.gcd c d) ≤ c / Nat.gcd c d * (b / Nat.gcd a b)
  generalize Nat.gcd a b = g at g1 ea eb ⊢
  generalize Nat.gcd c d = g' at g2 ec ed ⊢
  generalize a / g = a' at ea ⊢
  generalize b / g = b' at eb ⊢
  generalize c / g' = c' at ec ⊢
  generalize d / g' = d' at ed ⊢
  subst ea eb ec ed
  refine Nat.le_of_mul_le_mul_right (c := g * g') ?_ (Nat.mul_pos g1 g2)
  calc a' * d' * (g * g') = a' * g * (d' * g') := by simp only [Nat.mul_assoc, Nat.mul_left_comm, Nat.mul_comm]
    _ ≤ c' * g' * (b' * g) := h
    _ = c' * b' * (g * g') := by simp only [Nat.mul_assoc, Nat.mul_left_comm, Nat.mul_comm]
theorem lo_pos {a b : Nat} (hb : 0 < b) : 0 < (lo a b).2 := Nat.div_pos (Nat.le_of_dvd hb (Nat.gcd_dvd_right a b)) (Nat.gcd_pos_of_pos_right _ hb)
theorem lo_cross (a b : Nat) : (lo a b).1 * b = a * (lo a b).2 := by
  have ea := Nat.div_mul_cancel (Nat.gcd_dvd_left a b)
  have eb := Nat.div_mul_cancel (Nat.gcd_dvd_right a b)
  show a / Nat.gcd a b * b = a * (b / Nat.gcd a b)
  generalize Nat.gcd a b = g at ea eb ⊢
  generalize a / g = a' at ea ⊢
  generalize b / g = b' at eb ⊢
  subst ea eb
  simp only [Nat.mul_assoc, Nat.mul_left_comm, Nat.mul_comm]

/-! ### two rules over the letters that matter to both -/
def ah (p q : Ru) : Nat := max p.w q.w - 1
def bh (p q : Ru) : Nat := max (p.w + p.k) (q.w + q.k) - 2
def tl (p q : Ru) : Nat := ah p q + 1 + bh p q
theorem ah_comm (p q : Ru) : ah q p = ah p q := by unfold ah; rw [Nat.max_comm]
theorem bh_comm (p q : Ru) : bh q p = bh p q := by unfold bh; rw [Nat.max_comm]
theorem tl_comm (p q : Ru) : tl q p = tl p q := by unfold tl; rw [ah_comm, bh_comm]
/-- the letters around the place that matter to r -/
def arn (r : Ru) (t : List Bool) (a : Nat) : List Bool := (t.drop (a - (r.w - 1))).take r.n
structure Fits (r : Ru) (a l : Nat) : Prop where
  w1 : 1 ≤ r.w
  k1 : 1 ≤ r.k
  ahead : r.w - 1 ≤ a
  behind : a + r.w + r.k - 1 ≤ l
theorem fits_left {p q : Ru} (hp : p.Ok) : Fits p (ah p q) (tl p q) := by
  have := hp.w1; have := hp.k1
  refine ⟨hp.w1, hp.k1, ?_, ?_⟩
  · unfold ah; omega
  · unfold tl ah bh; omega
theorem fits_right {p q : Ru} (hq : q.Ok) : Fits q (ah p q) (tl p q) := by
  have h := fits_left (q := p) hq
  rw [ah_comm, tl_comm] at h
  exact h
theorem Fits.len {r : Ru} {a l : Nat} (h : Fits r a l) : a - (r.w - 1) + r.n ≤ l := by
  have := h.w1; have := h.k1; have := h.ahead; have := h.behind
  unfold Ru.n; omega
theorem arn_length {r : Ru} {a : Nat} {t : List Bool} (h : Fits r a t.length) : (arn r t a).length = r.n := by
  have := h.len
  unfold arn
  rw [List.length_take, List.length_drop]; omega
def told (r : Ru) (t : List Bool) (a : Nat) : Bool := st r (arn r t a)
/-- what two rules tell unlike -/
def unl (p q : Ru) : List (List Bool × Bool × Bool) := ((words (tl p q)).filter fun t => told p t (ah p q) != told q t (ah p q)).map fun t => (t, told p t (ah p q), told q t (ah p q))
def alike (p q : Ru) : Bool := (unl p q).length == 0
def noMore (p q : Ru) : Bool := !((unl p q).any fun x => x.2.1)
theorem alike_iff (p q : Ru) : alike p q = true ↔ ∀ t, t.length = tl p q → told p t (ah p q) = told q t (ah p q) := by
  unfold alike unl
  rw [beq_iff_eq, List.length_map]
  constructor
  · intro h t ht
    have h0 := List.eq_nil_of_length_eq_zero h
    rw [List.filter_eq_nil_iff] at h0
    have h1 := h0 t (mem_words.mpr ht)
    cases h2 : told p t (ah p q) <;> cases h3 : told q t (ah p q) <;> simp [h2, h3] at h1 ⊢
  · intro h
    have : (words (tl p q)).filter (fun t => told p t (ah p q) != told q t (ah p q)) = [] := by
      rw [List.filter_eq_nil_iff]
      intro t ht
      rw [h t (mem_words.mp ht)]
      simp
    rw [this]; rfl
theorem noMore_iff (p q : Ru) : noMore p q = true ↔ ∀ t, t.length = tl p q → told p t (ah p q) = true → told q t (ah p q) = true := by
  unfold noMore unl
  rw [Bool.not_eq_true', List.any_eq_false]
  constructor
  · intro h t ht hp
    cases hq : told q t (ah p q) with
    | true => rfl
    | false =>
      refine absurd ?_ (h (t, told p t (ah p q), told q t (ah p q)) (List.mem_map.mpr ⟨t, List.mem_filter.mpr ⟨mem_words.mpr ht, ?_⟩, rfl⟩))
      · exact hp
      · simp [hp, hq]
  · intro h x hx
    obtain ⟨t, ht, rfl⟩ := List.mem_map.mp hx
    obtain ⟨h1, h2⟩ := List.mem_filter.mp ht
    intro hp
    have hp : told p t (ah p q) = true := hp
    have := h t (mem_words.mp h1) hp
    simp [hp, this] at h2
theorem alike_symm (p q : Ru) : alike q p = alike p q := by
  rw [Bool.eq_iff_iff, alike_iff, alike_iff, ah_comm, tl_comm]
  exact ⟨fun h t ht => (h t ht).symm, fun h t ht => (h t ht).symm⟩
theorem alike_noMore {p q : Ru} (h : alike p q = true) : noMore p q = true :=
  (noMore_iff p q).mpr fun t ht hp => by rw [← (alike_iff p q).mp h t ht]; exact hp
theorem noMore_both {p q : Ru} (h1 : noMore p q = true) (h2 : noMore q p = true) : alike p q = true := by
  rw [alike_iff]
  intro t ht
  have a := (noMore_iff p q).mp h1 t ht
  have b := (noMore_iff q p).mp h2 t (by rw [tl_comm]; exact ht)
  rw [ah_comm] at b
  cases hp : told p t (ah p q) <;> cases hq : told q t (ah p q)
  · rfl
  · exact absurd (b hq) (by rw [hp]; exact Bool.false_ne_true)
  · exact absurd (a hp) (by rw [hq]; exact Bool.false_ne_true)
  · rfl
/-! ### shares -/
theorem cnt_told {r : Ru} {a l : Nat} (h : Fits r a l) (t : List Bool) : (cnt r t : Int) = sumN (fun i => b2n (told r (win l t i) a)) t.length := by
  rw [cnt_sum]
  have h1 : sumN (fun i => b2n (told r (win l t i) a)) t.length = sumN (fun i => (fun i => b2n (st r (win r.n t i))) (i + (a - (r.w - 1)))) t.length := by
    refine sumN_congr _ fun i _ => ?_
    show b2n (told r (win l t i) a) = b2n (st r (win r.n t (i + (a - (r.w - 1)))))
    unfold told arn
    rw [win_part _ _ _ _ _ h.len]
  rw [h1, sumN_rot (f := fun i => b2n (st r (win r.n t i))) (fun i => by show b2n (st r (win r.n t (i + t.length))) = _; rw [win_period])]
theorem cnt_noMore {p q : Ru} (hp : p.Ok) (hq : q.Ok) (h : noMore p q = true) (t : List Bool) : cnt p t ≤ cnt q t := by
  have h1 := cnt_told (fits_left (q := q) hp) t
  have h2 := cnt_told (fits_right (p := p) hq) t
  have h3 : sumN (fun i => b2n (told p (win (tl p q) t i) (ah p q))) t.length ≤ sumN (fun i => b2n (told q (win (tl p q) t i) (ah p q))) t.length := by
    refine sumN_le _ fun i _ => ?_
    have := (noMore_iff p q).mp h (win (tl p q) t i) (win_length _ _ _)
    cases hx : told p (win (tl p q) t i) (ah p q)
    · unfold b2n; simp only [Bool.false_eq_true, if_false]; split <;> decide
    · rw [this hx]; exact Int.le_refl _
  omega
/-! texts that go on to both sides -/
def cw (n : Nat) (f : List Bool → Bool) : Nat := ((words n).filter f).length
theorem cw_congr {n : Nat} {f g : List Bool → Bool} (h : ∀ t, t.length = n → f t = g t) : cw n f = cw n g := by
  unfold cw
  rw [List.filter_congr fun t ht => h t (mem_words.mp ht)]
theorem cw_end (n : Nat) (f : List Bool → Bool) : cw (n + 1) f = cw n (fun t => f (t ++ [false])) + cw n (fun t => f (t ++ [true])) := by
  have h : ∀ l : List (List Bool), ((l.flatMap fun t => [t ++ [false], t ++ [true]]).filter f).length = (l.filter fun t => f (t ++ [false])).length + (l.filter fun t => f (t ++ [true])).length := by
    intro l
    induction l with
    | nil => rfl
    | cons a l ih =>
      rw [List.flatMap_cons, List.filter_append, List.length_append, ih]
      cases h1 : f (a ++ [false]) <;> cases h2 : f (a ++ [true]) <;> simp [h1, h2] <;> omega
  exact h _
theorem cw_front : ∀ (n : Nat) (f : List Bool → Bool), cw (n + 1) f = cw n (fun t => f (false :: t)) + cw n (fun t => f (true :: t))
  | 0, f => by rw [cw_end]; rfl
  | n + 1, f => by
    rw [cw_end, cw_front n, cw_front n, cw_end n (fun t => f (false :: t)), cw_end n (fun t => f (true :: t))]
    simp only [List.cons_append]
    omega
theorem cw_mid (n : Nat) (f : List Bool → Bool) : ∀ a b, cw (a + n + b) (fun t => f ((t.drop a).take n)) = cw n f * 2 ^ (a + b)
  | 0, 0 => by
    rw [Nat.pow_zero, Nat.mul_one]
    show cw (0 + n) (fun t => f ((t.drop 0).take n)) = cw n f
    rw [Nat.zero_add]
    exact cw_congr (n := n) (f := fun t => f ((t.drop 0).take n)) (g := f) fun t ht => by
      show f ((t.drop 0).take n) = f t
      rw [List.drop_zero, List.take_of_length_le (by omega)]
  | 0, b + 1 => by
    have h1 := cw_mid n f 0 b
    rw [show 0 + n + (b + 1) = 0 + n + b + 1 by omega, cw_end]
    have h2 : ∀ c : Bool, cw (0 + n + b) (fun t => f (((t ++ [c]).drop 0).take n)) = cw (0 + n + b) (fun t => f ((t.drop 0).take n)) := fun c =>
      cw_congr fun t ht => by
        rw [List.drop_zero, List.drop_zero, List.take_append_of_le_length (by omega)]
    rw [h2, h2, h1, show 0 + (b + 1) = 0 + b + 1 by omega, Nat.pow_succ, ← Nat.mul_assoc]
    omega
  | a + 1, b => by
    have h1 := cw_mid n f a b
    rw [show a + 1 + n + b = a + n + b + 1 by omega, cw_front]
    simp only [List.drop_succ_cons]
    rw [h1, show a + 1 + b = a + b + 1 by omega, Nat.pow_succ, ← Nat.mul_assoc]
    omega
def ev (r : Ru) : Nat := cw r.n (st r)
theorem ev_told {r : Ru} {a l : Nat} (h : Fits r a l) : cw l (fun t => told r t a) = ev r * 2 ^ (l - r.n) := by
  have hl := h.len
  have h1 := cw_mid r.n (st r) (a - (r.w - 1)) (l - r.n - (a - (r.w - 1)))
  rw [show a - (r.w - 1) + r.n + (l - r.n - (a - (r.w - 1))) = l by omega, show a - (r.w - 1) + (l - r.n - (a - (r.w - 1))) = l - r.n by omega] at h1
  exact h1
theorem cw_mono {n : Nat} {f g : List Bool → Bool} (h : ∀ t, t.length = n → f t = true → g t = true) : cw n f ≤ cw n g := by
  unfold cw
  have : ∀ l : List (List Bool), (∀ t ∈ l, f t = true → g t = true) → (l.filter f).length ≤ (l.filter g).length := by
    intro l
    induction l with
    | nil => intro _; exact Nat.le_refl _
    | cons a l ih =>
      intro hl
      have h1 := ih fun t ht => hl t (List.mem_cons_of_mem _ ht)
      have h2 := hl a List.mem_cons_self
      rw [List.filter_cons, List.filter_cons]
      cases hf : f a
      · cases hg : g a <;> simp <;> omega
      · rw [h2 hf]; simp; exact h1
  exact this _ fun t ht => h t (mem_words.mp ht)
theorem ev_noMore {p q : Ru} (hp : p.Ok) (hq : q.Ok) (h : noMore p q = true) : ev p * 2 ^ q.n ≤ ev q * 2 ^ p.n := by
  have f1 := fits_left (q := q) hp
  have f2 := fits_right (p := p) hq
  have h1 := ev_told f1
  have h2 := ev_told f2
  have h3 := cw_mono (n := tl p q) (f := fun t => told p t (ah p q)) (g := fun t => told q t (ah p q)) ((noMore_iff p q).mp h)
  rw [h1, h2] at h3
  have l1 := f1.len
  have l2 := f2.len
  have e1 : 2 ^ (tl p q - p.n) * 2 ^ p.n = 2 ^ tl p q := by rw [← Nat.pow_add]; congr 1; omega
  have e2 : 2 ^ (tl p q - q.n) * 2 ^ q.n = 2 ^ tl p q := by rw [← Nat.pow_add]; congr 1; omega
  have h4 := Nat.mul_le_mul_right (2 ^ p.n * 2 ^ q.n) h3
  refine Nat.le_of_mul_le_mul_right (c := 2 ^ tl p q) ?_ (Nat.pow_pos (Nat.zero_lt_succ 1))
  calc ev p * 2 ^ q.n * 2 ^ tl p q = ev p * 2 ^ (tl p q - p.n) * (2 ^ p.n * 2 ^ q.n) := by rw [← e1]; simp only [Nat.mul_assoc, Nat.mul_left_comm, Nat.mul_comm]
    _ ≤ ev q * 2 ^ (tl p q - q.n) * (2 ^ p.n * 2 ^ q.n) := h4
    _ = ev q * 2 ^ p.n * 2 ^ tl p q := by rw [← e2]; simp only [Nat.mul_assoc, Nat.mul_left_comm, Nat.mul_comm]
/-- the greatest, the least share -/
def IsEx (r : Ru) (up : Bool) (v : Nat × Nat) : Prop := ∃ t : List Bool, 0 < t.length ∧ v = lo (cnt r t) t.length ∧ ∀ u : List Bool, 0 < u.length → if up = true then cnt r u * t.length ≤ cnt r t * u.length else cnt r t * u.length ≤ cnt r u * t.length
def evS (r : Ru) : Nat × Nat := lo (ev r) (2 ^ r.n)
def shS (r : Ru) (t : List Bool) : Nat × Nat := lo (cnt r t) t.length
/-- the first is no greater than the second -/
def FLe (x y : Nat × Nat) : Prop := x.1 * y.2 ≤ y.1 * x.2
theorem evS_le {p q : Ru} (hp : p.Ok) (hq : q.Ok) (h : noMore p q = true) : FLe (evS p) (evS q) := lo_le (Nat.pow_pos (by decide)) (Nat.pow_pos (by decide)) (ev_noMore hp hq h)
theorem evS_eq {p q : Ru} (hp : p.Ok) (hq : q.Ok) (h : alike p q = true) : evS p = evS q := by
  refine lo_eq (Nat.pow_pos (by decide)) (Nat.pow_pos (by decide)) (Nat.le_antisymm (ev_noMore hp hq (alike_noMore h)) (ev_noMore hq hp (alike_noMore (by rw [alike_symm]; exact h))))
theorem shS_le {p q : Ru} (hp : p.Ok) (hq : q.Ok) (h : noMore p q = true) {t : List Bool} (ht : 0 < t.length) : FLe (shS p t) (shS q t) := lo_le ht ht (Nat.mul_le_mul_right _ (cnt_noMore hp hq h t))
theorem shS_eq {p q : Ru} (hp : p.Ok) (hq : q.Ok) (h : alike p q = true) (t : List Bool) : shS p t = shS q t := by
  unfold shS
  rw [Nat.le_antisymm (cnt_noMore hp hq (alike_noMore h) t) (cnt_noMore hq hp (alike_noMore (by rw [alike_symm]; exact h)) t)]
theorem ex_le {p q : Ru} (hp : p.Ok) (hq : q.Ok) (h : noMore p q = true) {up : Bool} {x y : Nat × Nat} (hx : IsEx p up x) (hy : IsEx q up y) : FLe x y := by
  obtain ⟨t, ht, rfl, mt⟩ := hx
  obtain ⟨u, hu, rfl, mu⟩ := hy
  refine lo_le ht hu ?_
  have h1 := cnt_noMore hp hq h t
  have h2 := cnt_noMore hp hq h u
  cases up with
  | true =>
    have h3 := mu t ht
    rw [if_pos rfl] at h3
    exact Nat.le_trans (Nat.mul_le_mul_right _ h1) h3
  | false =>
    have h3 := mt u hu
    rw [if_neg Bool.false_ne_true] at h3
    exact Nat.le_trans h3 (Nat.mul_le_mul_right _ h2)
theorem ex_eq {p q : Ru} (hp : p.Ok) (hq : q.Ok) (h : alike p q = true) {up : Bool} {x y : Nat × Nat} (hx : IsEx p up x) (hy : IsEx q up y) : x = y := by
  obtain ⟨t, ht, rfl, mt⟩ := hx
  obtain ⟨u, hu, rfl, mu⟩ := hy
  have e : ∀ t, cnt p t = cnt q t := fun t => Nat.le_antisymm (cnt_noMore hp hq (alike_noMore h) t) (cnt_noMore hq hp (alike_noMore (by rw [alike_symm]; exact h)) t)
  refine lo_eq ht hu ?_
  have h1 := mt u hu
  have h2 := mu t ht
  rw [← e, ← e] at h2
  rw [← e]
  cases up with
  | true =>
    rw [if_pos rfl] at h1 h2
    exact Nat.le_antisymm h2 h1
  | false =>
    rw [if_neg Bool.false_ne_true] at h1 h2
    exact Nat.le_antisymm h1 h2

/-! ### turned -/
def tn (r : Ru) : Ru := ⟨r.w, r.k, (words r.size).map fun t => r.w - 1 - off r t.reverse⟩
theorem off_tn {r : Ru} {t : List Bool} (ht : t.length = r.size) : off (tn r) t = r.w - 1 - off r t.reverse := by
  unfold off tn
  show ((words r.size).map fun t => r.w - 1 - off r t.reverse).getD (idx t) 0 = _
  rw [List.getD_eq_getElem?_getD, List.getElem?_map, words_get ht]
  rfl
theorem tn_ok {r : Ru} (h : r.Ok) : (tn r).Ok := by
  refine ⟨h.w1, h.w5, h.k1, h.k4, h.wk, h.n5, ?_, ?_⟩
  · show ((words r.size).map _).length = 2 ^ r.size
    rw [List.length_map, words_length]
  · intro x hx
    obtain ⟨t, _, rfl⟩ := List.mem_map.mp hx
    have := h.w1
    show r.w - 1 - _ < r.w
    omega
theorem rev_part (t : List Bool) (s n : Nat) (h : s + n ≤ t.length) : ((t.drop s).take n).reverse = (t.reverse.drop (t.length - s - n)).take n := by
  apply List.ext_getElem?
  intro j
  by_cases hj : j < n
  · rw [List.getElem?_reverse (by rw [List.length_take, List.length_drop]; omega), List.length_take, List.length_drop, List.getElem?_take_of_lt (by omega), List.getElem?_drop, List.getElem?_take_of_lt hj, List.getElem?_drop,
      List.getElem?_reverse (by omega)]
    congr 1
    omega
  · rw [List.getElem?_eq_none (by rw [List.length_reverse, List.length_take]; omega), List.getElem?_eq_none (by rw [List.length_take]; omega)]
theorem st_tn {r : Ru} (h : r.Ok) {t : List Bool} (ht : t.length = r.n) : st (tn r) t = st r t.reverse := by
  have e1 := h.w1
  have e2 := h.k1
  have en : r.n = 2 * r.w + r.k - 2 := rfl
  have es : r.size = r.w + r.k - 1 := rfl
  rw [Bool.eq_iff_iff]
  unfold st
  rw [decide_eq_true_iff, decide_eq_true_iff, mem_placesL, mem_placesL]
  show (∃ s, s + r.size ≤ t.length ∧ 1 ≤ t.length + 1 - r.size ∧ s + off (tn r) ((t.drop s).take r.size) = r.w - 1) ↔ _
  rw [List.length_reverse, ht]
  have key : ∀ s, s + r.size ≤ r.n → off (tn r) ((t.drop s).take r.size) = r.w - 1 - off r ((t.reverse.drop (r.n - s - r.size)).take r.size) := fun s hs => by
    rw [off_tn (by rw [List.length_take, List.length_drop]; omega), rev_part t s r.size (by omega), ht]
  constructor
  · rintro ⟨s, hs, h1, e⟩
    rw [key s hs] at e
    have := off_lt h ((t.reverse.drop (r.n - s - r.size)).take r.size)
    exact ⟨r.n - s - r.size, by omega, h1, by omega⟩
  · rintro ⟨s, hs, h1, e⟩
    refine ⟨r.n - s - r.size, by omega, h1, ?_⟩
    rw [key _ (by omega), show r.n - (r.n - s - r.size) - r.size = s by omega]
    have := off_lt h ((t.reverse.drop s).take r.size)
    omega
theorem told_tn {p q r : Ru} (hk : p.k = q.k) (hp : p.Ok) (hq : q.Ok) (hr : r = p ∨ r = q) {t : List Bool} (ht : t.length = tl p q) : told (tn r) t (ah p q) = told r t.reverse (ah p q) := by
  have f : Fits r (ah p q) (tl p q) := by
    rcases hr with rfl | rfl
    · exact fits_left hp
    · exact fits_right hq
  have ok : r.Ok := by rcases hr with rfl | rfl <;> assumption
  unfold told
  have h1 : (arn (tn r) t (ah p q)).length = r.n := arn_length (r := r) (by rw [ht]; exact f)
  rw [st_tn ok h1]
  congr 1
  show ((t.drop (ah p q - (r.w - 1))).take r.n).reverse = (t.reverse.drop (ah p q - (r.w - 1))).take r.n
  have hl := f.len
  rw [rev_part _ _ _ (by omega), ht]
  congr 2
  have w1 := hp.w1; have w2 := hq.w1; have k1 := hp.k1
  unfold tl ah bh Ru.n at *
  rcases hr with rfl | rfl <;> omega
theorem tl_tn (p q : Ru) : tl (tn p) (tn q) = tl p q := rfl
theorem ah_tn (p q : Ru) : ah (tn p) (tn q) = ah p q := rfl
theorem alike_tn {p q : Ru} (hk : p.k = q.k) (hp : p.Ok) (hq : q.Ok) : alike (tn p) (tn q) = alike p q := by
  rw [Bool.eq_iff_iff, alike_iff, alike_iff, tl_tn, ah_tn]
  constructor
  · intro h t ht
    have h1 := h t.reverse (by rw [List.length_reverse]; exact ht)
    rw [told_tn hk hp hq (.inl rfl) (by rw [List.length_reverse]; exact ht), told_tn hk hp hq (.inr rfl) (by rw [List.length_reverse]; exact ht), List.reverse_reverse] at h1
    exact h1
  · intro h t ht
    rw [told_tn hk hp hq (.inl rfl) ht, told_tn hk hp hq (.inr rfl) ht]
    exact h _ (by rw [List.length_reverse]; exact ht)
theorem noMore_tn {p q : Ru} (hk : p.k = q.k) (hp : p.Ok) (hq : q.Ok) : noMore (tn p) (tn q) = noMore p q := by
  rw [Bool.eq_iff_iff, noMore_iff, noMore_iff, tl_tn, ah_tn]
  constructor
  · intro h t ht
    have h1 := h t.reverse (by rw [List.length_reverse]; exact ht)
    rw [told_tn hk hp hq (.inl rfl) (by rw [List.length_reverse]; exact ht), told_tn hk hp hq (.inr rfl) (by rw [List.length_reverse]; exact ht), List.reverse_reverse] at h1
    exact h1
  · intro h t ht
    rw [told_tn hk hp hq (.inl rfl) ht, told_tn hk hp hq (.inr rfl) ht]
    exact h _ (by rw [List.length_reverse]; exact ht)
/-! ### a told text, with letters around it -/
theorem told_wide {r : Ru} (h : r.Ok) {a b c : List Bool} {P : Nat} (f : Fits r P b.length) : P + a.length ∈ placesL r (a ++ b ++ c) ↔ told r b P = true := by
  have h1 := f.ahead; have h2 := f.behind; have h3 := f.len; have h4 := h.w1; have h5 := h.k1
  have es : r.size = r.w + r.k - 1 := rfl
  rw [st_around h (by omega) (by rw [List.length_append, List.length_append]; omega)]
  unfold told arn
  rw [List.append_assoc, List.drop_append, List.drop_eq_nil_of_le (by omega), List.nil_append, show P + a.length - (r.w - 1) - a.length = P - (r.w - 1) by omega, List.drop_append_of_le_length (by omega),
    List.take_append_of_le_length (by rw [List.length_drop]; omega)]
theorem unl_head {p q : Ru} {t : List Bool} {x y : Bool} {rest : List (List Bool × Bool × Bool)} (h : unl p q = (t, x, y) :: rest) : t.length = tl p q ∧ told p t (ah p q) ≠ told q t (ah p q) := by
  have hm : (t, x, y) ∈ unl p q := by rw [h]; exact List.mem_cons_self
  obtain ⟨u, hu, e⟩ := List.mem_map.mp hm
  obtain ⟨h1, h2⟩ := List.mem_filter.mp hu
  have : u = t := congrArg Prod.fst e
  subst this
  exact ⟨mem_words.mp h1, by simpa using h2⟩
/-! ### the rings get better and better -/
def fac : Nat → Nat
  | 0 => 1
  | n + 1 => (n + 1) * fac n
theorem fac_pos : ∀ n, 0 < fac n
  | 0 => Nat.one_pos
  | n + 1 => Nat.mul_pos (Nat.succ_pos n) (fac_pos n)
theorem dvd_fac : ∀ {n d : Nat}, 0 < d → d ≤ n → d ∣ fac n
  | 0, d, h1, h2 => absurd h1 (by omega)
  | n + 1, d, h1, h2 => by
    show d ∣ (n + 1) * fac n
    by_cases e : d = n + 1
    · subst e; exact Nat.dvd_mul_right _ _
    · exact Nat.dvd_trans (dvd_fac h1 (by omega)) (Nat.dvd_mul_left _ _)
/-- the share of a ring in parts of fac N -/
def worth (N : Nat) (r : Ru) (t : List Bool) : Nat := cnt r t * (fac N / t.length)
theorem worth_le (N : Nat) (r : Ru) (t : List Bool) : worth N r t ≤ fac N := by
  unfold worth
  refine Nat.le_trans (Nat.mul_le_mul_right _ (cnt_le r t)) ?_
  exact Nat.mul_div_le _ _
theorem worth_lt {N : Nat} {r : Ru} {t u : List Bool} (ht : 0 < t.length) (htN : t.length ≤ N) (hu : 0 < u.length) (huN : u.length ≤ N) (h : cnt r t * u.length < cnt r u * t.length) : worth N r t < worth N r u := by
  have e1 := Nat.div_mul_cancel (dvd_fac ht htN)
  have e2 := Nat.div_mul_cancel (dvd_fac hu huN)
  unfold worth
  refine Nat.lt_of_mul_lt_mul_right (a := t.length * u.length) ?_
  have h1 : cnt r t * (fac N / t.length) * (t.length * u.length) = cnt r t * u.length * fac N := by
    conv => rhs; rw [← e1]
    simp only [Nat.mul_assoc, Nat.mul_left_comm, Nat.mul_comm]
  have h2 : cnt r u * (fac N / u.length) * (t.length * u.length) = cnt r u * t.length * fac N := by
    conv => rhs; rw [← e2]
    simp only [Nat.mul_assoc, Nat.mul_left_comm, Nat.mul_comm]
  rw [h1, h2]
  exact Nat.mul_lt_mul_of_pos_right h (fac_pos N)
/-- a share beyond one in lowest terms, in the words of the weighing -/
theorem beyond_up {a b c d : Nat} (hb : 0 < b) (h : 0 < (1 : Int) * (((lo a b).2 : Nat) * (c : Nat) - ((lo a b).1 : Nat) * (d : Nat) : Int)) : a * d < c * b := by
  have e := lo_cross a b
  have hp : 0 < (lo a b).2 := lo_pos hb
  rw [Int.one_mul] at h
  have h : (lo a b).1 * d < (lo a b).2 * c := by
    have h2 : (((lo a b).1 * d : Nat) : Int) < (((lo a b).2 * c : Nat) : Int) := by rw [Int.natCast_mul, Int.natCast_mul]; omega
    exact Int.ofNat_lt.mp h2
  refine Nat.lt_of_mul_lt_mul_right (a := (lo a b).2) ?_
  calc a * d * (lo a b).2 = (lo a b).1 * d * b := by rw [Nat.mul_right_comm, ← e, Nat.mul_right_comm]
    _ < (lo a b).2 * c * b := Nat.mul_lt_mul_of_pos_right h hb
    _ = c * b * (lo a b).2 := by simp only [Nat.mul_assoc, Nat.mul_left_comm, Nat.mul_comm]
theorem beyond_dn {a b c d : Nat} (hb : 0 < b) (h : 0 < (-1 : Int) * (((lo a b).2 : Nat) * (c : Nat) - ((lo a b).1 : Nat) * (d : Nat) : Int)) : c * b < a * d := by
  have e := lo_cross a b
  have hp : 0 < (lo a b).2 := lo_pos hb
  have h : (lo a b).2 * c < (lo a b).1 * d := by
    have h2 : (((lo a b).2 * c : Nat) : Int) < (((lo a b).1 * d : Nat) : Int) := by rw [Int.natCast_mul, Int.natCast_mul]; omega
    exact Int.ofNat_lt.mp h2
  refine Nat.lt_of_mul_lt_mul_right (a := (lo a b).2) ?_
  calc c * b * (lo a b).2 = (lo a b).2 * c * b := by simp only [Nat.mul_assoc, Nat.mul_left_comm, Nat.mul_comm]
    _ < (lo a b).1 * d * b := Nat.mul_lt_mul_of_pos_right h hb
    _ = a * d * (lo a b).2 := by rw [Nat.mul_right_comm a, ← e, Nat.mul_right_comm]
theorem within_up {a b c d : Nat} (hb : 0 < b) (h : (1 : Int) * (((lo a b).2 : Nat) * (c : Nat) - ((lo a b).1 : Nat) * (d : Nat) : Int) ≤ 0) : c * b ≤ a * d := by
  have e := lo_cross a b
  have hp : 0 < (lo a b).2 := lo_pos hb
  rw [Int.one_mul] at h
  have h : (lo a b).2 * c ≤ (lo a b).1 * d := by
    have h2 : (((lo a b).2 * c : Nat) : Int) ≤ (((lo a b).1 * d : Nat) : Int) := by rw [Int.natCast_mul, Int.natCast_mul]; omega
    exact Int.ofNat_le.mp h2
  refine Nat.le_of_mul_le_mul_right (c := (lo a b).2) ?_ hp
  calc c * b * (lo a b).2 = (lo a b).2 * c * b := by simp only [Nat.mul_assoc, Nat.mul_left_comm, Nat.mul_comm]
    _ ≤ (lo a b).1 * d * b := Nat.mul_le_mul_right _ h
    _ = a * d * (lo a b).2 := by rw [Nat.mul_right_comm a, ← e, Nat.mul_right_comm]
theorem within_dn {a b c d : Nat} (hb : 0 < b) (h : (-1 : Int) * (((lo a b).2 : Nat) * (c : Nat) - ((lo a b).1 : Nat) * (d : Nat) : Int) ≤ 0) : a * d ≤ c * b := by
  have e := lo_cross a b
  have hp : 0 < (lo a b).2 := lo_pos hb
  have h : (lo a b).1 * d ≤ (lo a b).2 * c := by
    have h2 : (((lo a b).1 * d : Nat) : Int) ≤ (((lo a b).2 * c : Nat) : Int) := by rw [Int.natCast_mul, Int.natCast_mul]; omega
    exact Int.ofNat_le.mp h2
  refine Nat.le_of_mul_le_mul_right (c := (lo a b).2) ?_ hp
  calc a * d * (lo a b).2 = (lo a b).1 * d * b := by rw [Nat.mul_right_comm, ← e, Nat.mul_right_comm]
    _ ≤ (lo a b).2 * c * b := Nat.mul_le_mul_right _ h
    _ = c * b * (lo a b).2 := by simp only [Nat.mul_assoc, Nat.mul_left_comm, Nat.mul_comm]
end Wp
/-! The text by places. -/
namespace Wp
open PySem PySem.Spec PyProof.Rows L2
def topS (i : Nat) : Stmt := PySem.Challenge.pw_windowpicks_k96_whole_rules_compared_and.main.body.getD i (.Pass ⟨0, 0, 0, 0⟩)
abbrev sIsInteger : Stmt := topS 10
abbrev sIsSequence : Stmt := topS 11
abbrev sAlphabet : Stmt := topS 12
abbrev sTextsOf : Stmt := topS 13
abbrev sPower : Stmt := topS 14
abbrev sWrongAt : Stmt := topS 15
abbrev sNeedLetters : Stmt := topS 18
abbrev sValueOf : Stmt := topS 19
abbrev sNeedLot : Stmt := topS 21
abbrev sPlacesOf : Stmt := topS 23
abbrev sPicks : Stmt := topS 24
abbrev sStatus : Stmt := topS 25
abbrev sSides : Stmt := topS 27
abbrev sAround : Stmt := topS 28
abbrev sUnlike : Stmt := topS 29
abbrev sParting : Stmt := topS 30
abbrev sAlike : Stmt := topS 31
abbrev sNoMore : Stmt := topS 32
abbrev sNeedSizes : Stmt := topS 35
abbrev sIsTable : Stmt := topS 36
abbrev sInit : Stmt := inClass (topS 37) 0
abbrev sSize : Stmt := inClass (topS 37) 3
abbrev sOffsetOf : Stmt := inClass (topS 37) 4
abbrev sTurned : Stmt := inClass (topS 37) 6
abbrev sEvenShare : Stmt := topS 39
abbrev sShare : Stmt := topS 40
abbrev sHasPiece : Stmt := topS 41
abbrev sGainsBy : Stmt := topS 42
abbrev sLifted : Stmt := topS 43
abbrev sRingBehind : Stmt := topS 44
abbrev sWeighed : Stmt := topS 45
abbrev sRing : Stmt := topS 46
abbrev sGreatest : Stmt := topS 47
abbrev sLeast : Stmt := topS 48
abbrev sStandings : Stmt := topS 49
abbrev sFeed : Stmt := topS 51
abbrev sTake : Stmt := topS 52
abbrev sOneOf : Stmt := topS 53
abbrev sMixed : Stmt := topS 54
abbrev sLTexts : Stmt := topS 55
abbrev sLText : Stmt := topS 56
abbrev sByOrder : Stmt := topS 57
abbrev sDrawn : Stmt := topS 58
abbrev sMade : Stmt := topS 59
abbrev sLess : Stmt := topS 60
abbrev sNear : Stmt := topS 61
abbrev sShares : Stmt := topS 62
abbrev sLaw : Stmt := topS 63
end Wp
/-! The head: what the top leaves, by facts. -/
namespace Wp
open PySem PySem.Spec PyProof.Rows L2
/-! ### addresses -/
def cR (K : PySem.W.Frag) : Addr := He.ga K "Rule"
def prA (K : PySem.W.Frag) (m : Str) : Addr := He.ma K (cR K) m
def gtA (m : Str) (K : PySem.W.Frag) : Addr := match PySem.W.recIn K (prA K m) "property" with
  | some (.ref g :: _) => g
  | _ => 0
def propB (K : PySem.W.Frag) (m : Str) : Bool := He.eqO (PySem.W.findIn K (.ref (cR K)) m) (some (some (.ref (prA K m)))) && (He.eqO (PySem.W.specialIn K (.ref (prA K m)) "__get__") (some (some (.builtin "property.__get__"))) &&
  (decide (PySem.W.takesIn K (.ref (prA K m)) = some true) && (match PySem.W.recIn K (prA K m) "property" with
    | some (.ref _ :: _) => true
    | _ => false)))
theorem propB_ok {K : PySem.W.Frag} {m : Str} (h : propB K m = true) : PropOf K (cR K) m (prA K m) (gtA m K) := by
  obtain ⟨h1, h⟩ := He.ba h
  obtain ⟨h2, h⟩ := He.ba h
  obtain ⟨h3, h4⟩ := He.ba h
  refine ⟨He.eqO_ok h1, He.eqO_ok h2, of_decide_eq_true h3, ?_⟩
  unfold gtA
  split at h4
  · rename_i g r e
    exact ⟨r, by rw [e]⟩
  · cases h4
/-- the i-th item of a tuple of the module, an object -/
def itA (x : Str) (i : Nat) (K : PySem.W.Frag) : Addr := match K.lookup (He.ga K x) with
  | some ⟨_, _, .seq its _, _⟩ => (match its.toList[i]? with
    | some (.ref a) => a
    | _ => 0)
  | _ => 0
def tupA (K : PySem.W.Frag) (a : Addr) (vs : List V) : Bool := match K.lookup a with
  | some ⟨.type c, _, .seq its _, _⟩ => decide (c = "tuple") && (decide (its.size ≤ sizeLine) && He.relAll vs its.toList)
  | _ => false
theorem tupA_ok {K : PySem.W.Frag} {a : Addr} {vs : List V} (h : tupA K a vs = true) (H : Hp) : SqT K H a vs := by
  unfold tupA at h
  cases q : K.lookup a with
  | none =>
    rw [q] at h
    cases h
  | some o =>
    obtain ⟨oc, od, dt, osl⟩ := o
    rw [q] at h
    cases oc with
    | type c =>
      cases dt with
      | seq its n =>
        obtain ⟨h1, h2⟩ := He.ba (show (decide (c = "tuple") && (decide (its.size ≤ sizeLine) && He.relAll vs its.toList)) = true from h)
        obtain ⟨h3, h4⟩ := He.ba h2
        exact .inr ⟨_, its, n, q, congrArg Value.type (of_decide_eq_true h1), rfl, of_decide_eq_true h3, He.relAll_ok h4⟩
      | _ => cases h
    | _ => cases dt <;> cases h
/-- the empty tuple that is the default of a lot -/
def loA (f : Str) (K : PySem.W.Frag) : Addr := He.dflAt (f, none) 0 K
def moreB (K : PySem.W.Frag) : Bool := propB K "size" && (propB K "turned" && (tupA K (loA "greatest_share" K) [] && (tupA K (loA "least_share" K) [] &&
  (tupA K (He.ga K "SIZES") [.ref (itA "SIZES" 0 K), .ref (itA "SIZES" 1 K), .ref (itA "SIZES" 2 K)] && (tupA K (itA "SIZES" 0 K) [.str "letters", .int 2, .int 4] && (tupA K (itA "SIZES" 1 K) [.str "w", .int 1, .int 5] &&
  tupA K (itA "SIZES" 2 K) [.str "k", .int 1, .int 4]))))))
/-! ### the defs -/
def gl (x : Str) (st : Stmt) : He5.DefA := ⟨fun K => He.ga K x, x, x, defArgs st, defBody st, defScope st, [], []⟩
def gd (x : Str) (st : Stmt) : He5.DefA := ⟨fun K => He.ga K x, x, x, defArgs st, defBody st, defScope st, [.adr (loA x)], []⟩
def mt (m q : Str) (st : Stmt) : He5.DefA := ⟨fun K => He.ma K (cR K) m, m, q, defArgs st, defBody st, defScope st, [], []⟩
def pr (m q : Str) (st : Stmt) : He5.DefA := ⟨gtA m, m, q, defArgs st, defBody st, defScope st, [], []⟩
def fn1 : List He5.DefA := [gl "is_integer" sIsInteger, gl "is_sequence" sIsSequence, gl "alphabet" sAlphabet, gl "texts_of" sTextsOf, gl "power" sPower, gl "wrong_at" sWrongAt, gl "need_letters" sNeedLetters, gl "value_of" sValueOf,
  gl "need_lot" sNeedLot, gl "places_of" sPlacesOf, gl "picks" sPicks, gl "status" sStatus, gl "sides" sSides, gl "around" sAround, gl "unlike_texts" sUnlike, gl "parting" sParting, gl "alike" sAlike, gl "no_more" sNoMore,
  gl "need_sizes" sNeedSizes, gl "is_table" sIsTable, mt "__init__" "Rule.__init__" sInit, pr "size" "Rule.size" sSize, mt "offset_of" "Rule.offset_of" sOffsetOf, pr "turned" "Rule.turned" sTurned]
def fn2 : List He5.DefA := [gl "even_share" sEvenShare, gl "share" sShare, gl "has_piece" sHasPiece, gl "gains_by" sGainsBy, gl "lifted" sLifted, gl "ring_behind" sRingBehind, gl "weighed" sWeighed, gl "standings" sStandings,
  gl "_law_feed" sFeed, gl "_law_take" sTake, gl "_law_one_of" sOneOf, gl "_law_mixed" sMixed, gl "_law_texts" sLTexts, gl "_law_text" sLText, gl "_law_by_order" sByOrder, gl "_law_drawn" sDrawn, gl "_law_made" sMade,
  gl "_law_less" sLess, gl "_law_near" sNear, gl "_law_shares_right" sShares, gl "law" sLaw, gd "ring" sRing, gd "greatest_share" sGreatest, gd "least_share" sLeast]
def fn : List He5.DefA := fn1 ++ fn2
def gnames1 : List Str := ["is_integer", "is_sequence", "alphabet", "texts_of", "power", "wrong_at", "need_letters", "value_of", "need_lot", "places_of", "picks", "status", "sides", "around", "unlike_texts", "parting", "alike", "no_more", "need_sizes", "is_table"]
def gnames2 : List Str := ["even_share", "share", "has_piece", "gains_by", "lifted", "ring_behind", "weighed", "ring", "greatest_share", "least_share", "standings", "_law_feed", "_law_take", "_law_one_of", "_law_mixed", "_law_texts", "_law_text", "_law_by_order",
  "_law_drawn", "_law_made", "_law_less", "_law_near", "_law_shares_right", "law", "Rule", "SIZES"]
def free1 : List Str := ["isinstance", "int", "bool", "str", "list", "tuple", "dict", "range", "enumerate", "len", "all", "any", "zip", "abs", "max", "min", "sorted"]
def fa : List He.Fa := [.str "ALL_LETTERS" "abcd", .cls "Rule", .noat "Rule" "letters", .noat "Rule" "w", .noat "Rule" "k", .noat "Rule" "table", .meth "Rule" "offset_of", .mkr "Rule"] ++ (gnames1 ++ gnames2).map He.Fa.glo ++ free1.map He.Fa.free
/-! ### the Hook -/
def obsW (K : PySem.W.Frag) : He.AlD × Bool := (He5.obsA fa fn K, moreB K)
def valW : He.AlD × Bool := (He5.valA fn, true)
def obsWG (n : Nat) (g : Addr → Option Obj) : He.AlD × Bool := obsW (He.frG g (He5.asA g n))
def hk : PySem.W.Hook where
  α := He.AlD × Bool
  obs := fun s => obsWG 6 s.heap.get?
  val := fun _ => valW
  says := fun _ h => ∃ K : PySem.W.Frag, K.In h ∧ obsW K = valW
  of := fun _ _ e => ⟨_, He.frG_in, e⟩
  keeps := fun _ _ _ ⟨K, hK, c⟩ k => ⟨K, PySem.W.Frag.In.keeps hK k, c⟩
abbrev R : PySem.W.OpenRow := PySem.W.OpenLaw.row PySem.Challenge.rw_windowpicks_k96_whole_rules_compared_and
def ob (s : PySem.W.SharedT) : He.AlD × Bool := obsWG 6 (HandSHeadRun.getT s)
theorem ob_eq (s : PySem.W.SharedT) : ob s = hk.obs s.abs := by
  have e : HandSHeadRun.getT s = s.abs.heap.get? := funext (HandSHeadRun.getT_eq s)
  show obsWG 6 (HandSHeadRun.getT s) = obsWG 6 s.abs.heap.get?
  rw [e]
def loose1 : List Str := ["_wall", "PickError", "InvalidRule", "InvalidText", "InvalidLetters", "InvalidLot", "DIGITS", "ALL_LETTERS", "is_integer", "is_sequence", "alphabet", "texts_of", "power", "wrong_at", "is_text", "is_piece", "need_letters", "value_of",
  "number_in", "need_lot", "places_of", "picks", "status", "sides", "around", "unlike_texts", "parting", "alike", "no_more"]
def loose2 : List Str := ["SIZES", "need_sizes", "is_table", "Rule", "even_share", "share", "has_piece", "gains_by", "lifted", "ring_behind", "weighed", "ring", "greatest_share", "least_share", "standings", "_law_feed", "_law_take", "_law_one_of", "_law_mixed",
  "_law_texts", "_law_text", "_law_by_order", "_law_drawn", "_law_made", "_law_less", "_law_near", "_law_shares_right"]
def loose : List Str := loose1 ++ loose2
theorem run (w : World) : HandSHeadRun.RunEq R (PySem.W.view R.prog [63]) hk ob 6000 loose w := by
  intro os
  kernel_rfl
end Wp
/-! Texts of two letters as the machine has them; rules of our own. -/
namespace Wp
open PySem PySem.Spec PyProof.Rows L2
/-! ### texts -/
def ch (b : Bool) : Nat := if b then 98 else 97
def enc (t : List Bool) : Str := ⟨(t.map ch).toArray⟩
def sg (b : Bool) : Str := ⟨#[ch b]⟩
theorem sg_enc (b : Bool) : enc [b] = sg b := rfl
theorem ch_inj {a b : Bool} (h : ch a = ch b) : a = b := by cases a <;> cases b <;> first | rfl | exact absurd h (by decide)
theorem enc_len (t : List Bool) : (enc t).length = t.length := by
  show ((t.map ch).toArray).size = _
  rw [List.size_toArray, List.length_map]
theorem enc_cps (t : List Bool) : (enc t).cps.toList = t.map ch := by
  show ((t.map ch).toArray).toList = _
  rw [List.toList_toArray]
theorem enc_inj {t u : List Bool} (h : enc t = enc u) : t = u := by
  have h1 : t.map ch = u.map ch := by rw [← enc_cps, ← enc_cps, h]
  clear h
  induction t generalizing u with
  | nil => cases u with
    | nil => rfl
    | cons _ _ => simp at h1
  | cons a t ih => cases u with
    | nil => simp at h1
    | cons b u =>
      simp only [List.map_cons, List.cons.injEq] at h1
      rw [ch_inj h1.1, ih h1.2]
theorem enc_eq {t u : List Bool} : enc t = enc u ↔ t = u := ⟨enc_inj, fun h => by rw [h]⟩
theorem enc_nil : enc [] = Str.ofString "" := by decide +kernel
theorem enc_append (t u : List Bool) : enc t ++ enc u = enc (t ++ u) := by
  show (⟨(t.map ch).toArray ++ (u.map ch).toArray⟩ : Str) = ⟨((t ++ u).map ch).toArray⟩
  rw [List.map_append]; simp
theorem enc_get {t : List Bool} {i c : Nat} (h : (enc t).cps[i]? = some c) : ∃ b, t[i]? = some b ∧ c = ch b := by
  have h1 : (t.map ch)[i]? = some c := by
    rw [← enc_cps, Array.getElem?_toList]; exact h
  rw [List.getElem?_map] at h1
  cases e : t[i]? with
  | none => rw [e] at h1; cases h1
  | some b => rw [e] at h1; exact ⟨b, rfl, (Option.some.inj h1).symm⟩
theorem enc_size (t : List Bool) : (enc t).cps.size = t.length := enc_len t
/-! slices -/
theorem cut_enc (t : List Bool) (i j : Nat) : cutS (enc t) (some (i : Int)) (some (j : Int)) = enc ((t.drop i).take (j - i)) := by
  unfold cutS
  rw [HT.sIx_nat, HT.sIx_nat, enc_len, enc_cps]
  unfold enc
  congr 2
  rw [List.map_take, List.map_drop]
  by_cases h : i ≤ t.length
  · rw [Nat.min_eq_left h]
    by_cases h2 : j ≤ t.length
    · rw [Nat.min_eq_left h2]
    · rw [Nat.min_eq_right (show t.length ≤ j by omega), List.take_of_length_le (by simp), List.take_of_length_le (by simp; omega)]
  · rw [Nat.min_eq_right (show t.length ≤ i by omega), List.drop_eq_nil_of_le (show (t.map ch).length ≤ t.length by simp), List.drop_eq_nil_of_le (show (t.map ch).length ≤ i by simp; omega), List.take_nil, List.take_nil]
theorem cut_enc' {t : List Bool} {a b : Int} (i j : Nat) (ha : a = i) (hb : b = j) : cutS (enc t) (some a) (some b) = enc ((t.drop i).take (j - i)) := by
  subst ha hb; exact cut_enc t i j
theorem cut_init {t : List Bool} : cutS (enc t) none (some (-1)) = enc t.dropLast := by
  unfold cutS
  rw [HT.sIx_none, enc_len, enc_cps]
  have h : HT.sIx t.length t.length (some (-1)) = t.length - 1 := by
    show (if (-1 : Int) < 0 then ((-1 : Int) + (t.length : Int)).toNat else min (-1 : Int).toNat t.length) = t.length - 1
    rw [if_pos (by decide)]; omega
  rw [h, List.drop_zero, Nat.sub_zero, List.dropLast_eq_take]
  unfold enc
  rw [List.map_take]
theorem cut_tail {t : List Bool} : cutS (enc t) (some 1) none = enc (t.drop 1) := by
  unfold cutS
  have h1 : HT.sIx (enc t).length 0 (some (1 : Int)) = min 1 t.length := by
    rw [enc_len]; exact HT.sIx_nat t.length 0 1
  rw [h1, HT.sIx_none, enc_len, enc_cps]
  unfold enc
  congr 1
  cases t with
  | nil => rfl
  | cons a t =>
    rw [show min 1 (a :: t).length = 1 by simp, List.take_of_length_le (by simp), List.map_drop]
theorem last_enc {t : List Bool} (h : t ≠ []) : atI (enc t).cps.toList (-1) = some (ch (t.getLastD false)) := by
  rw [enc_cps]
  obtain ⟨u, b, rfl⟩ : ∃ u b, t = u ++ [b] := ⟨t.dropLast, t.getLast h, (List.dropLast_concat_getLast h).symm⟩
  rw [List.map_append, List.map_singleton, atI_last]
  congr 2
  rw [List.getLastD_eq_getLast?]; simp
theorem abcd_cut {X : Nat} (h : X = 2) : cutS (Str.ofString "abcd") none (some (X : Int)) = enc [false, true] := by
  subst h; decide +kernel
def ab : Str := enc [false, true]
theorem mem_ab (b : Bool) : ch b ∈ ab.cps.toList := by cases b <;> decide +kernel

/-! ### rules of our own -/
section
variable {X : Cx}
/-- 'ab'.index(sign) -/
def rIxAb : V → List V → Hp → VK → Prop := fun x xs H Q => ∃ b : Bool, x = .str ab ∧ xs = [.str (sg b)] ∧ Q (.int ((bit b : Nat) : Int)) H
theorem occ_ab (b : Bool) : ∃ rest, Builtin.Str.occurrences ab (sg b) 0 ab.length 1 = bit b :: rest := by
  cases b
  · exact ⟨[], by decide +kernel⟩
  · exact ⟨[], by decide +kernel⟩
theorem mt_index_ab : MtR X "str.index" rIxAb := by
  intro pins s σ H x xs v us Q I rx rs h
  obtain ⟨b, rfl, rfl, q⟩ := h
  obtain ⟨t, rfl⟩ := rx
  cases rs with
  | cons r1 rs =>
    cases rs
    obtain ⟨u, rfl⟩ := r1
    obtain ⟨rest, e⟩ := occ_ab b
    exact PySem.SC.index e ⟨.int ((bit b : Nat) : Int), H, I.tok _, ⟨_, rfl⟩, q⟩
/-- text * number, two or more -/
def rMulS : R2 := fun x y H Q => ∃ (t : List Bool) (K : Nat), x = .str (enc t) ∧ y = .int (K : Int) ∧ 2 ≤ K ∧ 0 < t.length ∧ K * t.length ≤ 1000 ∧ Q (.str (enc (rep t K))) H
theorem rep_arr (t : List Bool) : ∀ (K : Nat) (acc : Array Nat), (List.replicate K (enc t).cps).foldl (· ++ ·) acc = acc ++ (enc (rep t K)).cps
  | 0, acc => by
    show acc = acc ++ (enc []).cps
    show acc = acc ++ #[]
    simp
  | K + 1, acc => by
    rw [List.replicate_succ, List.foldl_cons, rep_arr t K]
    have e : rep t (K + 1) = t ++ rep t K := by unfold rep; rw [List.replicate_succ, List.flatten_cons]
    rw [e, ← enc_append, Array.append_assoc]
    rfl
theorem op_mulS : OpR X (binaryOp .Mult) rMulS := by
  intro pins s σ H x y v u Q I rx ry h
  obtain ⟨t, K, rfl, rfl, h2, h1, hz, q⟩ := h
  obtain ⟨tk, rfl⟩ := rx
  obtain ⟨tk', rfl⟩ := ry
  have hK : K ≤ 1000 := Nat.le_trans (Nat.le_mul_of_pos_right _ h1) hz
  have ht : t.length ≤ 1000 := Nat.le_trans (Nat.le_mul_of_pos_left _ (by omega)) hz
  have hsz : t.length * K ≤ sizeLine := by
    rw [Nat.mul_comm]
    exact Nat.le_of_lt (small1000 hz)
  refine PySem.P.mul_str ?_ ?_ ?_ ?_
  · rw [decide_eq_false (by omega), decide_eq_false (by omega)]; rfl
  · intro _ _ hgt
    rw [enc_len] at hgt
    have : (1001 : Int) ≤ (2 ^ 63 - 1) / (K : Int) := by
      rw [Int.le_ediv_iff_mul_le (by omega)]
      omega
    omega
  · intro _ _
    rw [enc_len]
    unfold Builtin.Str.tooLong
    rw [Int.toNat_natCast]
    exact decide_eq_false (by omega)
  · rw [if_neg (by omega), if_neg (by
      rw [Bool.or_eq_true, beq_iff_eq, beq_iff_eq, enc_len]
      omega), Int.toNat_natCast, rep_arr]
    have e : (⟨#[] ++ (enc (rep t K)).cps⟩ : Str) = enc (rep t K) := by
      simp
    rw [e]
    refine ⟨?_, .str (enc (rep t K)), H, I.tok _, ⟨_, rfl⟩, q⟩
    rw [enc_len, rep_length]
    exact Nat.le_of_lt (small1000 hz)
/-- text[::-1] -/
def tRevS (te : TE) : TE := fun σ H Q => te σ H fun x H1 => ∃ t : List Bool, x = .str (enc t) ∧ t.length ≤ 1000 ∧ Q (.str (enc t.reverse)) H1
theorem rev_enc (t : List Bool) : (⟨((Builtin.Str.strSliceIndices none none (-1) (enc t).length).filterMap ((enc t).cps[·]?)).toArray⟩ : Str) = enc t.reverse := by
  rw [PyProof.Rows.picked_rev, enc_len, PyProof.Rows.filterMap_get]
  · unfold enc
    congr 2
    apply List.ext_getElem?
    intro i
    by_cases hi : i < t.length
    · rw [List.map_map, List.getElem?_map, List.getElem?_range hi, List.map_reverse, List.getElem?_reverse (by rw [List.length_map]; exact hi), List.length_map, List.getElem?_map, List.getElem?_eq_getElem (show t.length - 1 - i < t.length by omega)]
      show some (((t.map ch).toArray).getD (t.length - 1 - i) 0) = some (ch (t[t.length - 1 - i]))
      rw [Array.getD_eq_getD_getElem?, List.getElem?_toArray, List.getElem?_map, List.getElem?_eq_getElem (show t.length - 1 - i < t.length by omega)]
      rfl
    · rw [List.getElem?_eq_none (by simp; omega), List.getElem?_eq_none (by simp; omega)]
  · intro i hi
    obtain ⟨k, hk, rfl⟩ := List.mem_map.mp hi
    have hk' : k < t.length := List.mem_range.mp hk
    show t.length - 1 - k < (enc t).cps.size
    rw [enc_size]; omega
theorem pe_revS {e : Expr} {te : TE} {k : Nat} {p1 p2 p3 pos : Pos} (he : PE X e te) : PE X (.Subscript e (.Slice none none (some (.UnaryOp .USub (.Constant (.int 1) k p1) p2)) p3) pos) (tRevS te) := by
  refine ⟨fun pins s σ H Q I h => ?_⟩
  refine Subscript_ (thn (he.run pins s σ H _ I h) fun v s1 ⟨x, H1, I1, r1, q1⟩ => ?_)
  obtain ⟨t, ex, hz, q⟩ := q1
  subst ex
  obtain ⟨tk, rfl⟩ := r1
  have hst : PO X (some (.UnaryOp .USub (.Constant (.int 1) k p1) p2)) (tPart (tUn (rU fun i => .int (-i)) (tC (.int 1)))) := po_some (pe_un un_neg pe_int)
  refine wpAny_Slice (thn (po_none.run pins s1 σ H1 (fun o Hn => o = none ∧ Hn = H1) I1 ⟨rfl, rfl⟩) fun vl s2 ⟨l, H2, I2, pl, el, e2⟩ => ?_)
  subst el e2
  refine thn (po_none.run pins s2 σ H2 (fun o Hn => o = none ∧ Hn = H2) I2 ⟨rfl, rfl⟩) fun vu s3 ⟨u, H3, I3, pu, eu, e3⟩ => ?_
  subst eu e3
  refine thn (hst.run pins s3 σ H3 (fun o Hn => o = some (-1) ∧ Hn = H3) I3 ⟨1, rfl, -1, rfl, rfl, rfl⟩) fun vs s4 ⟨o, H4, I4, ps, eo, e4⟩ => ?_
  subst eo e4
  have I5 : Inv X pins σ H4 { s4 with heap := s4.heap.push { cls := .type "slice", data := .fields #[vl, vu, vs] } } := I4.kept (t' := s4.toks) fun b ob q => Heap.get?_push_of_some _ q
  refine tail_any (ops := [.str (enc t) tk, .ref s4.heap.objs.size]) (typeIs_str _ _ _) F.slot_str_getitem.lookup ?_ (by with_unfolding_all rfl)
  obtain ⟨l', rfl, hl'⟩ := IsPart.raw pl
  obtain ⟨u', rfl, hu'⟩ := IsPart.raw pu
  obtain ⟨w', rfl, hw'⟩ := IsPart.raw ps
  have el : l' = none := by cases l' with
    | none => rfl
    | some _ => cases hl'
  have eu : u' = none := by cases u' with
    | none => rfl
    | some _ => cases hu'
  subst el eu
  obtain ⟨z, rfl⟩ : ∃ z, w' = some (-1, z) := by
    cases w' with
    | none => cases hw'
    | some p =>
      obtain ⟨a, z⟩ := p
      have : a = -1 := by simpa using hw'
      subst this
      exact ⟨z, rfl⟩
  refine wpAny_getItem_str_slice (x := enc t) (t := tk) (l := none) (u := none) (st := some (-1, z)) (Heap.IsSliceOf.new _ _ _ _) rfl ?_
  show Made.post (if ((((some ((-1 : Int), z)).map (·.1)).getD 1 == 1) && ((Builtin.Str.strSliceIndices none none (((some ((-1 : Int), z)).map (·.1)).getD 1) (enc t).length).length == (enc t).length)) = true then Made.val (.str (enc t) tk)
    else Made.str ⟨((Builtin.Str.strSliceIndices none none (((some ((-1 : Int), z)).map (·.1)).getD 1) (enc t).length).filterMap ((enc t).cps[·]?)).toArray⟩) (EP X pins σ Q) _
  rw [if_neg (by
    have : ((((some ((-1 : Int), z)).map (·.1)).getD 1 == 1)) = false := rfl
    rw [this]; simp)]
  show Made.post (Made.str ⟨((Builtin.Str.strSliceIndices none none (-1) (enc t).length).filterMap ((enc t).cps[·]?)).toArray⟩) (EP X pins σ Q) _
  rw [rev_enc]
  refine ⟨?_, .str (enc t.reverse), H4, I5.tok _, ⟨_, rfl⟩, q⟩
  rw [enc_len, List.length_reverse]
  exact Nat.le_of_lt (small1000 hz)
/-- list(text) -/
def rListS : List V → Hp → VK → Prop := fun xs H Q => ∃ t : List Bool, xs = [.str (enc t)] ∧ t.length ≤ 1000 ∧ ∀ p, H p = none → Q (.ref p) (upd H p (.lst (t.map fun b => V.str (sg b))))
theorem vals_signs {t : List Bool} {acc : Array Value} (h : ItemsOf (SignAt (enc t)) acc (enc t).cps.size) : Vals (t.map fun b => V.str (sg b)) acc.toList := by
  obtain ⟨hs, hi⟩ := h
  have hl : acc.toList.length = t.length := by rw [Array.length_toList, hs, enc_size]
  refine vals_of_at (by rw [List.length_map]; exact hl.symm) fun j x u hx hu => ?_
  rw [List.getElem?_map] at hx
  rw [Array.getElem?_toList] at hu
  obtain ⟨c, w, hc, rfl⟩ := hi j u hu
  obtain ⟨b, hb, rfl⟩ := enc_get hc
  rw [hb] at hx
  cases hx
  exact ⟨w, rfl⟩
theorem call_listS (hc : X.calm = true) : CallR X (.type "list") rListS := by
  intro pins s σ H xs us Q I r h
  obtain ⟨t, rfl, hz, q⟩ := h
  obtain ⟨u, rfl, ru⟩ := vals1 r
  obtain ⟨tk, rfl⟩ := ru
  have hsz : (enc t).cps.size ≤ sizeLine := by rw [enc_size]; exact Nat.le_of_lt (small1000 hz)
  refine call_list_str (I.ok.hd hc) (enc t) tk (fun h' tk' acc c' hk hS hI => ?_) hsz
  refine ⟨.ref s.heap.objs.size, _, I.laid (t' := tk') (o := .lst (t.map fun b => V.str (sg b))) hk (Nat.le_refl _) ?_, rfl, q _ (I.hok.fresh (Nat.le_refl _))⟩
  exact ⟨by rw [List.length_map]; exact Nat.le_of_lt (small1000 hz), acc.toList, c', vals_signs hI, hS⟩
/-- a dict that is new and never written again is known from here on -/
def tFrz (te : TE) : TE := fun σ H Q => te σ H fun x H1 => ∃ d kvs, x = .ref d ∧ H1 d = some (.dK kvs) ∧ ∀ od, Q x (upd H1 d (.frz od (.dK kvs)))
theorem pe_frz {e : Expr} {te : TE} (h : PE X e te) : PE X e (tFrz te) := by
  refine ⟨fun pins s σ H Q I hw => ?_⟩
  refine thn (h.run pins s σ H _ I hw) fun v s1 ⟨x, H1, I1, r1, q1⟩ => ?_
  obtain ⟨d, kvs, ex, hd, q⟩ := q1
  obtain ⟨od, I2⟩ := I1.lock hd trivial
  exact ⟨x, _, I2, r1, q od⟩
end
/-! ### enumerate of a text; of an empty tuple -/
section
variable {X : Cx}
def Ites (x : Str) : It := ⟨fun i _ => i < x.cps.size, fun i H v H' => ∃ T c, v = .ref T ∧ H T = none ∧ H' = upd H T (.tup [.int (i : Nat), .str ⟨#[c]⟩]) ∧ x.cps[i]? = some c, fun i _ => x.cps.size ≤ i⟩
theorem turn_enumS {P : Program} {w : World} {K : PySem.W.Frag} {elts : List Expr} {kk : Nat} {tpos : Pos} (x : Str) (t : Tok) (e it : Addr) :
    Turn P w K (.Tuple elts kk tpos) (Ites x) [e, it] e (fun i h => (∃ old, IsEnum h e it ((i : Nat) : Int) old) ∧ h.IsStrIter it (strIterType x) x t i ∧ e ≠ it ∧ i ≤ x.cps.size) where
  mem := by simp
  obj := fun i h st b hb => by
    obtain ⟨⟨old, he⟩, ⟨o, ho, hc, hd⟩, _⟩ := st
    rcases (by simpa using hb : b = e ∨ b = it) with z | z
    · rw [z]; exact ⟨_, he, fun v q => nomatch q⟩
    · rw [z]; exact ⟨o, ho, fun v q => by rw [hd] at q; cases q⟩
  keep := fun i h h' st k => by
    obtain ⟨⟨old, he⟩, ⟨o, ho, hc⟩, hne, hle⟩ := st
    exact ⟨⟨old, k e (by simp) _ he⟩, ⟨o, k it (by simp) _ ho, hc⟩, hne, hle⟩
  item := by
    intro X hP hw hK hc i pins s σ H E I hf st hg
    subst hP hw hK
    obtain ⟨⟨old, he⟩, hit, hne, hle⟩ := st
    have hel : e < s.heap.objs.size := Heap.lt_size he
    have hil : it < s.heap.objs.size := by obtain ⟨_, q, _⟩ := hit; exact Heap.lt_size q
    have D := Draws.text (prog := X.prog) (w := X.w) (A := X.A.in1) (I.ok.hd hc) it x t
    refine wpAny_pyNext_enum_itemC D he hit hg hne (by simpa using hne) fun u h' tk hP ho hit' hT hsz hk => ?_
    obtain ⟨c, uu, hxc, rfl⟩ := hP
    refine ⟨_, rfl, wpAny_letOwnedTupleGo_enum (s := { s with heap := h', toks := tk + 1 }) ho fun h2 he2 sb => ?_⟩
    have hT2 : h2.get? s.heap.objs.size = some { cls := .type "tuple", data := .seq #[.int i tk, .str ⟨#[c]⟩ uu] } := (sb.2 _ (Nat.ne_of_gt hel)).trans hT
    have new : ObjOk X.prog X.w (upd H s.heap.objs.size (.tup [.int (i : Nat), .str ⟨#[c]⟩])) h2 s.heap.objs.size (.tup [.int (i : Nat), .str ⟨#[c]⟩]) :=
      ⟨by show 2 ≤ sizeLine; decide, [.int i tk, .str ⟨#[c]⟩ uu], .cons ⟨_, rfl⟩ (.cons ⟨_, rfl⟩ .nil), ⟨_, hT2, rfl, _, rfl⟩⟩
    have I1 : Inv X pins σ (upd H s.heap.objs.size (.tup [.int (i : Nat), .str ⟨#[c]⟩])) { s with heap := h2, toks := tk + 1 } :=
      I.turnedNew (ch := [e, it]) (fun b o hb q => (sb.2 b (fun z => hb (by simp [z]))).trans (hk b o (fun z => hb (by simp [z])) (fun z => hb (by simp [z])) q)) hf (Nat.le_refl _) new
    refine ⟨.ref s.heap.objs.size, _, I1, rfl, ⟨_, c, rfl, I.hok.fresh (Nat.le_refl _), rfl, hxc⟩, ⟨⟨.str ⟨#[c]⟩ uu, ?_⟩, ?_, hne, hg⟩, fun b hb => ?_⟩
    · have e1 : ((i + 1 : Nat) : Int) = (i : Int) + 1 := by omega
      rw [e1]; exact he2
    · obtain ⟨o, ho1, ho2⟩ := hit'
      exact ⟨o, (sb.2 it (Ne.symm hne)).trans ho1, ho2⟩
    · have hb2 : b < s.heap.objs.size := by
        rcases (by simpa using hb : b = e ∨ b = it) with z | z
        · rw [z]; exact hel
        · rw [z]; exact hil
      rw [upd_ne (Nat.ne_of_lt hb2)]
      exact (hf b hb).1
  done := by
    intro X hP hw hK hc i pins s σ H E I hf st hg
    subst hP hw hK
    obtain ⟨⟨old, he⟩, hit, hne, hle⟩ := st
    obtain ⟨f0, f1, f2, f3, f4, f5⟩ := hf it (by simp)
    have D := Draws.text (prog := X.prog) (w := X.w) (A := X.A.in1) (I.ok.hd hc) it x t
    have ei : i = x.cps.size := Nat.le_antisymm hle hg
    subst ei
    exact wpAny_pyNext_enum_endD D he hit fun h' eb => ⟨rfl, I.turned (t' := s.toks) (fun b o hb q => eb b o hb q) f0 f1 f3 f4 f5⟩
  self := fun A i s Q E st h => let ⟨⟨_, he⟩, _⟩ := st; wpAny_pyIter_enum he h
def iEnumS (ta : TA) : TI := fun σ H R => ta σ H fun vs H1 => ∃ x, vs = [.str x] ∧ R (Ites x) H1
theorem pi_enumS {X : Cx} {e : Expr} {ta : TA} {p pos tpos : Pos} {elts : List Expr} {kk : Nat} (hg : Gl X "enumerate") (hm : X.mg "enumerate" = none) (ha : PA X [e] ta) (hs : starEach [e] X.env = [(false, eval e X.env)] := by rfl) :
    PI X (.Tuple elts kk tpos) (.Call (.Name "enumerate" p) [e] [] pos) (iEnumS ta) := by
  refine ⟨fun pins s σ H R I h => ?_⟩
  refine Call_ (ld_blt I hg hm boot_enumerate (PyProof.Rows.callWith_type1 (thn (ha.run pos pins s σ H _ I h) fun us s1 ⟨vs, H1, I1, r1, q1⟩ => ?_) hs rfl))
  obtain ⟨x, ex, q⟩ := q1
  subst ex
  cases r1 with
  | cons r rr =>
    cases rr
    obtain ⟨t, rfl⟩ := r
    refine call_enumerate_str fun h' he hit hsz hk => wpAny_pyIter_enum he ?_
    have I2 : Inv X pins σ H1 { s1 with heap := h' } := I1.kept (t' := s1.toks) hk
    refine ⟨s1.heap.objs.size + 1, [s1.heap.objs.size + 1, s1.heap.objs.size], _, _, H1, rfl, I2, turn_enumS x t (s1.heap.objs.size + 1) s1.heap.objs.size, ⟨⟨.none, he⟩, hit, Nat.succ_ne_self _, Nat.zero_le _⟩, fun b hb => ?_, q⟩
    have hle : s1.heap.objs.size ≤ b := by
      rcases (by simpa using hb : b = s1.heap.objs.size + 1 ∨ b = s1.heap.objs.size) with z | z
      · rw [z]; exact Nat.le_add_right _ _
      · rw [z]; exact Nat.le_refl _
    exact I1.fpOk hle (I1.hok.fresh hle)
theorem walk_enumS {x : Str} : Walk (Ites x) x.cps.size (fun _ => True) (YPair (fun i => some (.int (i : Nat))) (fun i => x.cps[i]?.map fun c => .str ⟨#[c]⟩)) :=
  ⟨fun i H hi _ => hi, fun H _ => Nat.le_refl _, fun i H v H' hi _ hy => by
    obtain ⟨T, c, e1, e2, e3, e4⟩ := hy
    exact ⟨T, _, _, e1, e2, e3, rfl, (congrArg (Option.map fun c => V.str ⟨#[c]⟩) e4).trans rfl⟩⟩
/-! an empty tuple -/
theorem meets_enumT (l : Addr) (items : Array Value) (n : Nat) (dct : Option Addr) (sl : Array (Option Value)) :
    Meets (Builtin.«enumerate.__new__» ⟨[.type "enumerate", .ref l], []⟩) (fun _ R s => s.heap.get? l = some { cls := .type "tuple", dict := dct, data := .seq items n, slots := sl } ∧
      R (.ok (.ret (.ref (s.heap.push { cls := .type "tuple_iterator", data := .fields #[.ref l, .int 0 0] }).objs.size)))
        { s with heap := (s.heap.push { cls := .type "tuple_iterator", data := .fields #[.ref l, .int 0 0] }).push { cls := .type "enumerate", data := .fields #[.none, .bool false, .ref s.heap.objs.size, rawInt 0, .none, .none] } }) :=
  .of_wp fun prog w A R s h => by
    obtain ⟨hp, g, d, tk, os⟩ := s
    obtain ⟨hl, h⟩ := h
    have hsub := sub_enumerate
    have hT : Heap.IsTuple (Shared.heap ⟨hp, g, d, tk, os⟩) l items := ⟨_, hl, rfl, n, rfl⟩
    wp_walk using AutoSeq1.wpAny_loadPart' hl
    refine wpAny_stack_any fun st => wpAny_pure ?_
    split
    · rename_i c _ _ _ _ _
      cases (c == Value.type "enumerate")
      · wp_walk using AutoSeq1.wpAny_loadPart' hl, wpAny_pyIter_tuple hT
        exact ⟨_, rfl, h⟩
      · wp_walk using AutoSeq1.wpAny_loadPart' hl, wpAny_pyIter_tuple hT
        exact ⟨_, rfl, h⟩
    · wp_walk using AutoSeq1.wpAny_loadPart' hl, wpAny_pyIter_tuple hT
      exact ⟨_, rfl, h⟩
theorem call_enumT {A : Around} {prog : Program} {w : World} {E : Value → Shared → Prop} {s : Shared} {l : Addr} {items : Array Value} {Q : Value → Shared → Prop} (hL : s.heap.IsTuple l items)
    (h : ∀ h', IsEnum h' (s.heap.objs.size + 1) s.heap.objs.size 0 .none → h'.IsTupleIter s.heap.objs.size l 0 → (∀ b o, s.heap.get? b = some o → h'.get? b = some o) → Q (.ref (s.heap.objs.size + 1)) { s with heap := h' }) :
    wpAny (model prog w) A (call (.type "enumerate") [.ref l]) Q E s := by
  obtain ⟨⟨c, dct, dt, sl⟩, hl, hc, n, hd⟩ := hL
  obtain rfl : c = .type "tuple" := hc
  obtain rfl : dt = .seq items n := hd
  refine callType_new F.called_enumerate (by decide) (F.typeCall_enumerate_1 _) (F.newCall_enumerate_1 _) (fun obj => F.args_object_init_2 obj _) F.entry_enumerate_new (meets_enumT l items n dct sl) ⟨hl, ?_⟩
  have hz : (s.heap.push { cls := .type "tuple_iterator", data := .fields #[.ref l, .int 0 0] }).objs.size = s.heap.objs.size + 1 := Heap.size_push ..
  have he : IsEnum ((s.heap.push { cls := .type "tuple_iterator", data := .fields #[.ref l, .int 0 0] }).push { cls := .type "enumerate", data := .fields #[.none, .bool false, .ref s.heap.objs.size, rawInt 0, .none, .none] }) (s.heap.objs.size + 1)
      s.heap.objs.size 0 .none := by
    have q := Heap.get?_push_size (s.heap.push { cls := .type "tuple_iterator", data := .fields #[.ref l, .int 0 0] }) (o := { cls := .type "enumerate", data := .fields #[.none, .bool false, .ref s.heap.objs.size, rawInt 0, .none, .none] }) rfl
    rw [hz] at q
    exact q
  show _ ∧ _
  rw [hz]
  exact ⟨⟨_, he, rfl⟩, h _ he ⟨_, Heap.get?_push_of_some _ (Heap.get?_push_size _ rfl), rfl, rfl⟩ fun b o y => Heap.get?_push_of_some _ (Heap.get?_push_of_some _ y)⟩
def ItT0 (K : PySem.W.Frag) (a : Addr) : It := ⟨fun _ _ => False, fun _ _ _ _ => False, fun _ H => SqT K H a []⟩
theorem turn_enumT0 {P : Program} {w : World} {K : PySem.W.Frag} {elts : List Expr} {kk : Nat} {tpos : Pos} (a e it : Addr) :
    Turn P w K (.Tuple elts kk tpos) (ItT0 K a) [e, it] e (fun i h => (∃ old, IsEnum h e it ((0 : Nat) : Int) old) ∧ h.IsTupleIter it a 0 ∧ e ≠ it) where
  mem := by simp
  obj := fun i h st b hb => by
    obtain ⟨⟨old, he⟩, ⟨o, ho, hc, hd⟩, _⟩ := st
    rcases (by simpa using hb : b = e ∨ b = it) with z | z
    · rw [z]; exact ⟨_, he, fun v q => nomatch q⟩
    · rw [z]; exact ⟨o, ho, fun v q => by rw [hd] at q; cases q⟩
  keep := fun i h h' st k => by
    obtain ⟨⟨old, he⟩, hit, hne⟩ := st
    exact ⟨⟨old, k e (by simp) _ he⟩, hit.at fun o q => k it (by simp) o q, hne⟩
  item := by
    intro X hP hw hK hc i pins s σ H E I hf st hg
    exact False.elim hg
  done := by
    intro X hP hw hK hc i pins s σ H E I hf st hg
    subst hP hw hK
    obtain ⟨⟨old, he⟩, hit, hne⟩ := st
    obtain ⟨f0, f1, f2, f3, f4, f5⟩ := hf it (by simp)
    obtain ⟨its, rv, ht, hz⟩ := I.tuple hg
    cases rv
    have hai : a ≠ it := by
      obtain ⟨o, ho, hcl, _⟩ := hit
      obtain ⟨o2, ho2, hcl2, _⟩ := ht
      intro z
      rw [z, ho] at ho2
      cases ho2
      rw [hcl] at hcl2
      exact absurd hcl2 (by decide)
    have D := Draws.tuple (prog := X.prog) (w := X.w) (A := X.A.in1) (I.ok.hd hc) it a hai #[]
    exact wpAny_pyNext_enum_endD D he ⟨hit, ht⟩ fun h' eb => ⟨rfl, I.turned (t' := s.toks) (fun b o hb q => eb b o hb q) f0 f1 f3 f4 f5⟩
  self := fun A i s Q E st h => let ⟨⟨_, he⟩, _⟩ := st; wpAny_pyIter_enum he h
def iEnumT0 (K : PySem.W.Frag) (ta : TA) : TI := fun σ H R => ta σ H fun vs H1 => ∃ a, vs = [.ref a] ∧ SqT K H1 a [] ∧ R (ItT0 K a) H1
theorem pi_enumT0 {X : Cx} {e : Expr} {ta : TA} {p pos tpos : Pos} {elts : List Expr} {kk : Nat} (hg : Gl X "enumerate") (hm : X.mg "enumerate" = none) (ha : PA X [e] ta) (hs : starEach [e] X.env = [(false, eval e X.env)] := by rfl) :
    PI X (.Tuple elts kk tpos) (.Call (.Name "enumerate" p) [e] [] pos) (iEnumT0 X.K ta) := by
  refine ⟨fun pins s σ H R I h => ?_⟩
  refine Call_ (ld_blt I hg hm boot_enumerate (PyProof.Rows.callWith_type1 (thn (ha.run pos pins s σ H _ I h) fun us s1 ⟨vs, H1, I1, r1, q1⟩ => ?_) hs rfl))
  obtain ⟨a, ex, hq, q⟩ := q1
  subst ex
  cases r1 with
  | cons r rr =>
    cases rr
    cases r
    obtain ⟨its, rv, ht, hz⟩ := I1.tuple hq
    refine call_enumT (show s1.heap.IsTuple a its.toArray from ht) fun h' he hit hk => wpAny_pyIter_enum he ?_
    have I2 : Inv X pins σ H1 { s1 with heap := h' } := I1.kept (t' := s1.toks) hk
    refine ⟨s1.heap.objs.size + 1, [s1.heap.objs.size + 1, s1.heap.objs.size], _, _, H1, rfl, I2, turn_enumT0 a (s1.heap.objs.size + 1) s1.heap.objs.size, ⟨⟨.none, he⟩, hit, Nat.succ_ne_self _⟩, fun b hb => ?_, q⟩
    have hle : s1.heap.objs.size ≤ b := by
      rcases (by simpa using hb : b = s1.heap.objs.size + 1 ∨ b = s1.heap.objs.size) with z | z
      · rw [z]; exact Nat.le_add_right _ _
      · rw [z]; exact Nat.le_refl _
    exact I1.fpOk hle (I1.hok.fresh hle)
theorem walk_enumT0 {K : PySem.W.Frag} {a : Addr} : Walk (ItT0 K a) 0 (fun H => SqT K H a []) (fun _ _ _ _ => False) :=
  ⟨fun i H hi _ => absurd hi (Nat.not_lt_zero i), fun H h => h, fun i H v H' hi _ hy => hy⟩
end
end Wp
/-! The facts of the text as one structure; each def's names by slot; how its arguments bind. Printed by gen_tx.py. -/
namespace Wp
open PySem PySem.Spec PyProof.Rows L2
/-- a def of the module as the top leaves it -/
structure Gd (K : PySem.W.Frag) (mg : Str → Option Value) (x : Str) (st : Stmt) (dvs : List V) where
  f : Addr
  fd : FuncData
  F : FunD K x x (defArgs st) (defBody st) (defScope st) dvs [] f fd
  g : mg x = some (.ref f)
/-- a def in the class -/
structure Md (K : PySem.W.Frag) (m qn : Str) (st : Stmt) where
  f : Addr
  fd : FuncData
  F : FunD K m qn (defArgs st) (defBody st) (defScope st) [] [] f fd
structure Txt (K : PySem.W.Frag) (mg : Str → Option Value) where
  dIsInteger : Gd K mg "is_integer" sIsInteger []
  dIsSequence : Gd K mg "is_sequence" sIsSequence []
  dAlphabet : Gd K mg "alphabet" sAlphabet []
  dTextsOf : Gd K mg "texts_of" sTextsOf []
  dPower : Gd K mg "power" sPower []
  dWrongAt : Gd K mg "wrong_at" sWrongAt []
  dNeedLetters : Gd K mg "need_letters" sNeedLetters []
  dValueOf : Gd K mg "value_of" sValueOf []
  dNeedLot : Gd K mg "need_lot" sNeedLot []
  dPlacesOf : Gd K mg "places_of" sPlacesOf []
  dPicks : Gd K mg "picks" sPicks []
  dStatus : Gd K mg "status" sStatus []
  dSides : Gd K mg "sides" sSides []
  dAround : Gd K mg "around" sAround []
  dUnlike : Gd K mg "unlike_texts" sUnlike []
  dParting : Gd K mg "parting" sParting []
  dAlike : Gd K mg "alike" sAlike []
  dNoMore : Gd K mg "no_more" sNoMore []
  dNeedSizes : Gd K mg "need_sizes" sNeedSizes []
  dIsTable : Gd K mg "is_table" sIsTable []
  dEvenShare : Gd K mg "even_share" sEvenShare []
  dShare : Gd K mg "share" sShare []
  dHasPiece : Gd K mg "has_piece" sHasPiece []
  dGainsBy : Gd K mg "gains_by" sGainsBy []
  dLifted : Gd K mg "lifted" sLifted []
  dRingBehind : Gd K mg "ring_behind" sRingBehind []
  dWeighed : Gd K mg "weighed" sWeighed []
  dStandings : Gd K mg "standings" sStandings []
  dFeed : Gd K mg "_law_feed" sFeed []
  dTake : Gd K mg "_law_take" sTake []
  dOneOf : Gd K mg "_law_one_of" sOneOf []
  dMixed : Gd K mg "_law_mixed" sMixed []
  dLTexts : Gd K mg "_law_texts" sLTexts []
  dLText : Gd K mg "_law_text" sLText []
  dByOrder : Gd K mg "_law_by_order" sByOrder []
  dDrawn : Gd K mg "_law_drawn" sDrawn []
  dMade : Gd K mg "_law_made" sMade []
  dLess : Gd K mg "_law_less" sLess []
  dNear : Gd K mg "_law_near" sNear []
  dShares : Gd K mg "_law_shares_right" sShares []
  dLaw : Gd K mg "law" sLaw []
  lotR : Addr
  lotG : Addr
  lotL : Addr
  dRing : Gd K mg "ring" sRing [.ref lotR]
  dGreatest : Gd K mg "greatest_share" sGreatest [.ref lotG]
  dLeast : Gd K mg "least_share" sLeast [.ref lotL]
  hG : ∀ H, SqT K H lotG []
  hL : ∀ H, SqT K H lotL []
  dInit : Md K "__init__" "Rule.__init__" sInit
  dOffsetOf : Md K "offset_of" "Rule.offset_of" sOffsetOf
  dSize : Md K "size" "Rule.size" sSize
  dTurned : Md K "turned" "Rule.turned" sTurned
  C : Addr
  cl : Cls K C
  nL : NoAttr K C "letters"
  nW : NoAttr K C "w"
  nK : NoAttr K C "k"
  nT : NoAttr K C "table"
  gC : mg "Rule" = some (.ref C)
  mkC : Mk K C dInit.f
  mOff : Meth K C "offset_of" dOffsetOf.f
  pS : Addr
  prS : PropOf K C "size" pS dSize.f
  pT : Addr
  prT : PropOf K C "turned" pT dTurned.f
  abcd : ∃ t, mg "ALL_LETTERS" = some (.str "abcd" t)
  aS : Addr
  a0 : Addr
  a1 : Addr
  a2 : Addr
  gS : mg "SIZES" = some (.ref aS)
  sS : ∀ H, SqT K H aS [.ref a0, .ref a1, .ref a2]
  s0 : ∀ H, SqT K H a0 [.str "letters", .int 2, .int 4]
  s1 : ∀ H, SqT K H a1 [.str "w", .int 1, .int 5]
  s2 : ∀ H, SqT K H a2 [.str "k", .int 1, .int 4]
  n_isinstance : mg "isinstance" = none
  n_int : mg "int" = none
  n_bool : mg "bool" = none
  n_str : mg "str" = none
  n_list : mg "list" = none
  n_tuple : mg "tuple" = none
  n_dict : mg "dict" = none
  n_range : mg "range" = none
  n_enumerate : mg "enumerate" = none
  n_len : mg "len" = none
  n_all : mg "all" = none
  n_any : mg "any" = none
  n_zip : mg "zip" = none
  n_abs : mg "abs" = none
  n_max : mg "max" = none
  n_min : mg "min" = none
  n_sorted : mg "sorted" = none
/-! ### names by slot -/
theorem scIsInteger : FnScope ["value"] ["value"] (defScope sIsInteger) := ⟨rfl, rfl, rfl, by decide +kernel, rfl, by decide +kernel, by decide +kernel⟩
theorem scIsSequence : FnScope ["value"] ["value"] (defScope sIsSequence) := ⟨rfl, rfl, rfl, by decide +kernel, rfl, by decide +kernel, by decide +kernel⟩
theorem scAlphabet : FnScope ["letters"] ["letters"] (defScope sAlphabet) := ⟨rfl, rfl, rfl, by decide +kernel, rfl, by decide +kernel, by decide +kernel⟩
theorem scTextsOf : FnScope ["letters", "size", "found", "turn", "text", "sign"] ["letters", "size"] (defScope sTextsOf) := ⟨rfl, rfl, rfl, by decide +kernel, rfl, by decide +kernel, by decide +kernel⟩
theorem scPower : FnScope ["base", "many", "found", "turn"] ["base", "many"] (defScope sPower) := ⟨rfl, rfl, rfl, by decide +kernel, rfl, by decide +kernel, by decide +kernel⟩
theorem scWrongAt : FnScope ["letters", "value", "at", "sign"] ["letters", "value"] (defScope sWrongAt) := ⟨rfl, rfl, rfl, by decide +kernel, rfl, by decide +kernel, by decide +kernel⟩
theorem scNeedLetters : FnScope ["letters", "value", "at"] ["letters", "value"] (defScope sNeedLetters) := ⟨rfl, rfl, rfl, by decide +kernel, rfl, by decide +kernel, by decide +kernel⟩
theorem scValueOf : FnScope ["p", "q", "one", "other"] ["p", "q"] (defScope sValueOf) := ⟨rfl, rfl, rfl, by decide +kernel, rfl, by decide +kernel, by decide +kernel⟩
theorem scNeedLot : FnScope ["letters", "k", "lot", "found", "at", "piece"] ["letters", "k", "lot"] (defScope sNeedLot) := ⟨rfl, rfl, rfl, by decide +kernel, rfl, by decide +kernel, by decide +kernel⟩
theorem scPlacesOf : FnScope ["rule", "text", "found", "at"] ["rule", "text"] (defScope sPlacesOf) := ⟨rfl, rfl, rfl, by decide +kernel, rfl, by decide +kernel, by decide +kernel⟩
theorem scPicks : FnScope ["rule", "text", "place"] ["rule", "text"] (defScope sPicks) := ⟨rfl, rfl, rfl, by decide +kernel, rfl, by decide +kernel, by decide +kernel⟩
theorem scStatus : FnScope ["rule", "around", "text"] ["rule"] (defScope sStatus) := ⟨rfl, rfl, rfl, by decide +kernel, rfl, by decide +kernel, by decide +kernel⟩
theorem scSides : FnScope ["p", "q"] ["p", "q"] (defScope sSides) := ⟨rfl, rfl, rfl, by decide +kernel, rfl, by decide +kernel, by decide +kernel⟩
theorem scAround : FnScope ["rule", "text", "place"] ["rule", "text", "place"] (defScope sAround) := ⟨rfl, rfl, rfl, by decide +kernel, rfl, by decide +kernel, by decide +kernel⟩
theorem scUnlike : FnScope ["p", "q", "ahead", "behind", "one", "other", "found", "text", "told"] ["p", "q"] (defScope sUnlike) := ⟨rfl, rfl, rfl, by decide +kernel, rfl, by decide +kernel, by decide +kernel⟩
theorem scParting : FnScope ["p", "q", "found"] ["p", "q"] (defScope sParting) := ⟨rfl, rfl, rfl, by decide +kernel, rfl, by decide +kernel, by decide +kernel⟩
theorem scAlike : FnScope ["p", "q"] ["p", "q"] (defScope sAlike) := ⟨rfl, rfl, rfl, by decide +kernel, rfl, by decide +kernel, by decide +kernel⟩
theorem scNoMore : FnScope ["p", "q", "text", "told"] ["p", "q"] (defScope sNoMore) := ⟨rfl, rfl, rfl, by decide +kernel, rfl, by decide +kernel, by decide +kernel⟩
theorem scNeedSizes : FnScope ["letters", "w", "k", "word", "least", "most", "value"] ["letters", "w", "k"] (defScope sNeedSizes) := ⟨rfl, rfl, rfl, by decide +kernel, rfl, by decide +kernel, by decide +kernel⟩
theorem scIsTable : FnScope ["w", "many", "value", "offset"] ["w", "many", "value"] (defScope sIsTable) := ⟨rfl, rfl, rfl, by decide +kernel, rfl, by decide +kernel, by decide +kernel⟩
theorem scEvenShare : FnScope ["rule", "known", "around"] ["rule"] (defScope sEvenShare) := ⟨rfl, rfl, rfl, by decide +kernel, rfl, by decide +kernel, by decide +kernel⟩
theorem scShare : FnScope ["rule", "text", "known", "size", "long", "at"] ["rule", "text"] (defScope sShare) := ⟨rfl, rfl, rfl, by decide +kernel, rfl, by decide +kernel, by decide +kernel⟩
theorem scHasPiece : FnScope ["text", "k", "pieces", "at"] ["text", "k", "pieces"] (defScope sHasPiece) := ⟨rfl, rfl, rfl, by decide +kernel, rfl, by decide +kernel, by decide +kernel⟩
theorem scGainsBy : FnScope ["rule", "value", "is_greatest", "lot", "top", "bottom", "sign", "pieces", "found", "around", "is_there"] ["rule", "value", "is_greatest", "lot"] (defScope sGainsBy) := ⟨rfl, rfl, rfl, by decide +kernel, rfl, by decide +kernel, by decide +kernel⟩
theorem scLifted : FnScope ["heights", "gains", "came_by", "found", "around", "gain"] ["heights", "gains", "came_by"] (defScope sLifted) := ⟨rfl, rfl, rfl, by decide +kernel, rfl, by decide +kernel, by decide +kernel⟩
theorem scRingBehind : FnScope ["came_by", "spot", "size", "turn", "found", "here"] ["came_by", "spot", "size"] (defScope sRingBehind) := ⟨rfl, rfl, rfl, by decide +kernel, rfl, by decide +kernel, by decide +kernel⟩
theorem scWeighed : FnScope ["rule", "value", "is_greatest", "lot", "gains", "heights", "came_by", "turn", "last", "text"] ["rule", "value", "is_greatest", "lot"] (defScope sWeighed) := ⟨rfl, rfl, rfl, by decide +kernel, rfl, by decide +kernel, by decide +kernel⟩
theorem scStandings : FnScope ["rule"] ["rule"] (defScope sStandings) := ⟨rfl, rfl, rfl, by decide +kernel, rfl, by decide +kernel, by decide +kernel⟩
theorem scFeed : FnScope ["_law_script", "_law_k", "_law_cell", "_law_great"] ["_law_script", "_law_k"] (defScope sFeed) := ⟨rfl, rfl, rfl, by decide +kernel, rfl, by decide +kernel, by decide +kernel⟩
theorem scTake : FnScope ["_law_box", "_law_many", "_law_digit", "_law_raw"] ["_law_box", "_law_many"] (defScope sTake) := ⟨rfl, rfl, rfl, by decide +kernel, rfl, by decide +kernel, by decide +kernel⟩
theorem scOneOf : FnScope ["_law_box", "_law_some"] ["_law_box", "_law_some"] (defScope sOneOf) := ⟨rfl, rfl, rfl, by decide +kernel, rfl, by decide +kernel, by decide +kernel⟩
theorem scMixed : FnScope ["_law_box", "_law_some", "_law_left", "_law_found", "_law_turn"] ["_law_box", "_law_some"] (defScope sMixed) := ⟨rfl, rfl, rfl, by decide +kernel, rfl, by decide +kernel, by decide +kernel⟩
theorem scLTexts : FnScope ["_law_size", "_law_many", "_law_found", "_law_turn", "_law_later", "_law_ahead", "_law_sign"] ["_law_size", "_law_many"] (defScope sLTexts) := ⟨rfl, rfl, rfl, by decide +kernel, rfl, by decide +kernel, by decide +kernel⟩
theorem scLText : FnScope ["_law_box", "_law_size", "_law_many", "_law_at"] ["_law_box", "_law_size", "_law_many"] (defScope sLText) := ⟨rfl, rfl, rfl, by decide +kernel, rfl, by decide +kernel, by decide +kernel⟩
theorem scByOrder : FnScope ["_law_size", "_law_wide", "_law_long", "_law_pieces", "_law_is_last", "_law_places", "_law_found", "_law_glass", "_law_some", "_law_least", "_law_spots", "_law_piece", "_law_at", "_law_one"] ["_law_size", "_law_wide", "_law_long", "_law_pieces", "_law_is_last"] (defScope sByOrder) := ⟨rfl, rfl, rfl, by decide +kernel, rfl, by decide +kernel, by decide +kernel⟩
theorem scDrawn : FnScope ["_law_box", "_law_sizes", "_law_size", "_law_wide", "_law_long", "_law_form", "_law_pieces", "_law_at", "_law_glass"] ["_law_box", "_law_sizes"] (defScope sDrawn) := ⟨rfl, rfl, rfl, by decide +kernel, rfl, by decide +kernel, by decide +kernel⟩
theorem scMade : FnScope ["_law_told"] ["_law_told"] (defScope sMade) := ⟨rfl, rfl, rfl, by decide +kernel, rfl, by decide +kernel, by decide +kernel⟩
theorem scLess : FnScope ["_law_one", "_law_other"] ["_law_one", "_law_other"] (defScope sLess) := ⟨rfl, rfl, rfl, by decide +kernel, rfl, by decide +kernel, by decide +kernel⟩
theorem scNear : FnScope ["_law_box", "_law_told", "_law_table", "_law_turn"] ["_law_box", "_law_told"] (defScope sNear) := ⟨rfl, rfl, rfl, by decide +kernel, rfl, by decide +kernel, by decide +kernel⟩
theorem scShares : FnScope ["_law_here", "_law_there", "_law_text_here", "_law_one", "_law_other", "_law_left", "_law_right"] ["_law_here", "_law_there", "_law_text_here"] (defScope sShares) := ⟨rfl, rfl, rfl, by decide +kernel, rfl, by decide +kernel, by decide +kernel⟩
theorem scLaw : FnScope ["_law_script", "_law_k", "_law_box", "_law_turn", "_law_told", "_law_other", "_law_here", "_law_there", "_law_found", "_law_pad", "_law_wide", "_law_place"] ["_law_script"] (defScope sLaw) := ⟨rfl, rfl, rfl, by decide +kernel, rfl, by decide +kernel, by decide +kernel⟩
theorem scRing : FnScope ["rule", "is_greatest", "lot", "better", "found"] ["rule", "is_greatest", "lot"] (defScope sRing) := ⟨rfl, rfl, rfl, by decide +kernel, rfl, by decide +kernel, by decide +kernel⟩
theorem scGreatest : FnScope ["rule", "lot", "text"] ["rule", "lot"] (defScope sGreatest) := ⟨rfl, rfl, rfl, by decide +kernel, rfl, by decide +kernel, by decide +kernel⟩
theorem scLeast : FnScope ["rule", "lot", "text"] ["rule", "lot"] (defScope sLeast) := ⟨rfl, rfl, rfl, by decide +kernel, rfl, by decide +kernel, by decide +kernel⟩
theorem scInit : FnScope ["self", "letters", "w", "k", "table"] ["self", "letters", "w", "k", "table"] (defScope sInit) := ⟨rfl, rfl, rfl, by decide +kernel, rfl, by decide +kernel, by decide +kernel⟩
theorem scOffsetOf : FnScope ["self", "window", "found", "sign"] ["self", "window"] (defScope sOffsetOf) := ⟨rfl, rfl, rfl, by decide +kernel, rfl, by decide +kernel, by decide +kernel⟩
theorem scSize : FnScope ["self"] ["self"] (defScope sSize) := ⟨rfl, rfl, rfl, by decide +kernel, rfl, by decide +kernel, by decide +kernel⟩
theorem scTurned : FnScope ["self", "windows", "window"] ["self"] (defScope sTurned) := ⟨rfl, rfl, rfl, by decide +kernel, rfl, by decide +kernel, by decide +kernel⟩
/-! ### binding -/
section
variable {K : PySem.W.Frag} {mg : Str → Option Value}
theorem bIsInteger (d : Gd K mg "is_integer" sIsInteger []) : Binds K d.fd ["value"] [] := d.F.bindsN fun _ _ _ _ _ _ us hl => match us, hl with | [_], _ => rfl
theorem bIsSequence (d : Gd K mg "is_sequence" sIsSequence []) : Binds K d.fd ["value"] [] := d.F.bindsN fun _ _ _ _ _ _ us hl => match us, hl with | [_], _ => rfl
theorem bAlphabet (d : Gd K mg "alphabet" sAlphabet []) : Binds K d.fd ["letters"] [] := d.F.bindsN fun _ _ _ _ _ _ us hl => match us, hl with | [_], _ => rfl
theorem bTextsOf (d : Gd K mg "texts_of" sTextsOf []) : Binds K d.fd ["letters", "size"] [] := d.F.bindsN fun _ _ _ _ _ _ us hl => match us, hl with | [_, _], _ => rfl
theorem bPower (d : Gd K mg "power" sPower []) : Binds K d.fd ["base", "many"] [] := d.F.bindsN fun _ _ _ _ _ _ us hl => match us, hl with | [_, _], _ => rfl
theorem bWrongAt (d : Gd K mg "wrong_at" sWrongAt []) : Binds K d.fd ["letters", "value"] [] := d.F.bindsN fun _ _ _ _ _ _ us hl => match us, hl with | [_, _], _ => rfl
theorem bNeedLetters (d : Gd K mg "need_letters" sNeedLetters []) : Binds K d.fd ["letters", "value"] [] := d.F.bindsN fun _ _ _ _ _ _ us hl => match us, hl with | [_, _], _ => rfl
theorem bValueOf (d : Gd K mg "value_of" sValueOf []) : Binds K d.fd ["p", "q"] [] := d.F.bindsN fun _ _ _ _ _ _ us hl => match us, hl with | [_, _], _ => rfl
theorem bNeedLot (d : Gd K mg "need_lot" sNeedLot []) : Binds K d.fd ["letters", "k", "lot"] [] := d.F.bindsN fun _ _ _ _ _ _ us hl => match us, hl with | [_, _, _], _ => rfl
theorem bPlacesOf (d : Gd K mg "places_of" sPlacesOf []) : Binds K d.fd ["rule", "text"] [] := d.F.bindsN fun _ _ _ _ _ _ us hl => match us, hl with | [_, _], _ => rfl
theorem bPicks (d : Gd K mg "picks" sPicks []) : Binds K d.fd ["rule", "text"] [] := d.F.bindsN fun _ _ _ _ _ _ us hl => match us, hl with | [_, _], _ => rfl
theorem bStatus (d : Gd K mg "status" sStatus []) : Binds K d.fd ["rule"] [] := d.F.bindsN fun _ _ _ _ _ _ us hl => match us, hl with | [_], _ => rfl
theorem bSides (d : Gd K mg "sides" sSides []) : Binds K d.fd ["p", "q"] [] := d.F.bindsN fun _ _ _ _ _ _ us hl => match us, hl with | [_, _], _ => rfl
theorem bAround (d : Gd K mg "around" sAround []) : Binds K d.fd ["rule", "text", "place"] [] := d.F.bindsN fun _ _ _ _ _ _ us hl => match us, hl with | [_, _, _], _ => rfl
theorem bUnlike (d : Gd K mg "unlike_texts" sUnlike []) : Binds K d.fd ["p", "q"] [] := d.F.bindsN fun _ _ _ _ _ _ us hl => match us, hl with | [_, _], _ => rfl
theorem bParting (d : Gd K mg "parting" sParting []) : Binds K d.fd ["p", "q"] [] := d.F.bindsN fun _ _ _ _ _ _ us hl => match us, hl with | [_, _], _ => rfl
theorem bAlike (d : Gd K mg "alike" sAlike []) : Binds K d.fd ["p", "q"] [] := d.F.bindsN fun _ _ _ _ _ _ us hl => match us, hl with | [_, _], _ => rfl
theorem bNoMore (d : Gd K mg "no_more" sNoMore []) : Binds K d.fd ["p", "q"] [] := d.F.bindsN fun _ _ _ _ _ _ us hl => match us, hl with | [_, _], _ => rfl
theorem bNeedSizes (d : Gd K mg "need_sizes" sNeedSizes []) : Binds K d.fd ["letters", "w", "k"] [] := d.F.bindsN fun _ _ _ _ _ _ us hl => match us, hl with | [_, _, _], _ => rfl
theorem bIsTable (d : Gd K mg "is_table" sIsTable []) : Binds K d.fd ["w", "many", "value"] [] := d.F.bindsN fun _ _ _ _ _ _ us hl => match us, hl with | [_, _, _], _ => rfl
theorem bEvenShare (d : Gd K mg "even_share" sEvenShare []) : Binds K d.fd ["rule"] [] := d.F.bindsN fun _ _ _ _ _ _ us hl => match us, hl with | [_], _ => rfl
theorem bShare (d : Gd K mg "share" sShare []) : Binds K d.fd ["rule", "text"] [] := d.F.bindsN fun _ _ _ _ _ _ us hl => match us, hl with | [_, _], _ => rfl
theorem bHasPiece (d : Gd K mg "has_piece" sHasPiece []) : Binds K d.fd ["text", "k", "pieces"] [] := d.F.bindsN fun _ _ _ _ _ _ us hl => match us, hl with | [_, _, _], _ => rfl
theorem bGainsBy (d : Gd K mg "gains_by" sGainsBy []) : Binds K d.fd ["rule", "value", "is_greatest", "lot"] [] := d.F.bindsN fun _ _ _ _ _ _ us hl => match us, hl with | [_, _, _, _], _ => rfl
theorem bLifted (d : Gd K mg "lifted" sLifted []) : Binds K d.fd ["heights", "gains", "came_by"] [] := d.F.bindsN fun _ _ _ _ _ _ us hl => match us, hl with | [_, _, _], _ => rfl
theorem bRingBehind (d : Gd K mg "ring_behind" sRingBehind []) : Binds K d.fd ["came_by", "spot", "size"] [] := d.F.bindsN fun _ _ _ _ _ _ us hl => match us, hl with | [_, _, _], _ => rfl
theorem bWeighed (d : Gd K mg "weighed" sWeighed []) : Binds K d.fd ["rule", "value", "is_greatest", "lot"] [] := d.F.bindsN fun _ _ _ _ _ _ us hl => match us, hl with | [_, _, _, _], _ => rfl
theorem bStandings (d : Gd K mg "standings" sStandings []) : Binds K d.fd ["rule"] [] := d.F.bindsN fun _ _ _ _ _ _ us hl => match us, hl with | [_], _ => rfl
theorem bFeed (d : Gd K mg "_law_feed" sFeed []) : Binds K d.fd ["_law_script", "_law_k"] [] := d.F.bindsN fun _ _ _ _ _ _ us hl => match us, hl with | [_, _], _ => rfl
theorem bTake (d : Gd K mg "_law_take" sTake []) : Binds K d.fd ["_law_box", "_law_many"] [] := d.F.bindsN fun _ _ _ _ _ _ us hl => match us, hl with | [_, _], _ => rfl
theorem bOneOf (d : Gd K mg "_law_one_of" sOneOf []) : Binds K d.fd ["_law_box", "_law_some"] [] := d.F.bindsN fun _ _ _ _ _ _ us hl => match us, hl with | [_, _], _ => rfl
theorem bMixed (d : Gd K mg "_law_mixed" sMixed []) : Binds K d.fd ["_law_box", "_law_some"] [] := d.F.bindsN fun _ _ _ _ _ _ us hl => match us, hl with | [_, _], _ => rfl
theorem bLTexts (d : Gd K mg "_law_texts" sLTexts []) : Binds K d.fd ["_law_size", "_law_many"] [] := d.F.bindsN fun _ _ _ _ _ _ us hl => match us, hl with | [_, _], _ => rfl
theorem bLText (d : Gd K mg "_law_text" sLText []) : Binds K d.fd ["_law_box", "_law_size", "_law_many"] [] := d.F.bindsN fun _ _ _ _ _ _ us hl => match us, hl with | [_, _, _], _ => rfl
theorem bByOrder (d : Gd K mg "_law_by_order" sByOrder []) : Binds K d.fd ["_law_size", "_law_wide", "_law_long", "_law_pieces", "_law_is_last"] [] := d.F.bindsN fun _ _ _ _ _ _ us hl => match us, hl with | [_, _, _, _, _], _ => rfl
theorem bDrawn (d : Gd K mg "_law_drawn" sDrawn []) : Binds K d.fd ["_law_box", "_law_sizes"] [] := d.F.bindsN fun _ _ _ _ _ _ us hl => match us, hl with | [_, _], _ => rfl
theorem bMade (d : Gd K mg "_law_made" sMade []) : Binds K d.fd ["_law_told"] [] := d.F.bindsN fun _ _ _ _ _ _ us hl => match us, hl with | [_], _ => rfl
theorem bLess (d : Gd K mg "_law_less" sLess []) : Binds K d.fd ["_law_one", "_law_other"] [] := d.F.bindsN fun _ _ _ _ _ _ us hl => match us, hl with | [_, _], _ => rfl
theorem bNear (d : Gd K mg "_law_near" sNear []) : Binds K d.fd ["_law_box", "_law_told"] [] := d.F.bindsN fun _ _ _ _ _ _ us hl => match us, hl with | [_, _], _ => rfl
theorem bShares (d : Gd K mg "_law_shares_right" sShares []) : Binds K d.fd ["_law_here", "_law_there", "_law_text_here"] [] := d.F.bindsN fun _ _ _ _ _ _ us hl => match us, hl with | [_, _, _], _ => rfl
theorem bLaw (d : Gd K mg "law" sLaw []) : Binds K d.fd ["_law_script"] [] := d.F.bindsN fun _ _ _ _ _ _ us hl => match us, hl with | [_], _ => rfl
theorem bInit (d : Md K "__init__" "Rule.__init__" sInit) : Binds K d.fd ["self", "letters", "w", "k", "table"] [] := d.F.bindsN fun _ _ _ _ _ _ us hl => match us, hl with | [_, _, _, _, _], _ => rfl
theorem bOffsetOf (d : Md K "offset_of" "Rule.offset_of" sOffsetOf) : Binds K d.fd ["self", "window"] [] := d.F.bindsN fun _ _ _ _ _ _ us hl => match us, hl with | [_, _], _ => rfl
theorem bSize (d : Md K "size" "Rule.size" sSize) : Binds K d.fd ["self"] [] := d.F.bindsN fun _ _ _ _ _ _ us hl => match us, hl with | [_], _ => rfl
theorem bTurned (d : Md K "turned" "Rule.turned" sTurned) : Binds K d.fd ["self"] [] := d.F.bindsN fun _ _ _ _ _ _ us hl => match us, hl with | [_], _ => rfl
end
end Wp
/-! Defs of the module words. -/
namespace Wp
open PySem PySem.Spec PyProof.Rows L2
/-- the rule for a def of the module, from which nothing is raised -/
theorem fok {P : Program} {w : World} {K : PySem.W.Frag} {mg : Str → Option Value} {base : Heap} {x qn : Str} {st : Stmt} {dvs : List V} {f : Addr} {fd : FuncData} {N ps : List Str} {k : Nat} {sp : Sp}
    (F : FunD K x qn (defArgs st) (defBody st) (defScope st) dvs [] f fd) (S : FnScope N ps (defScope st)) (len : ∀ vs H Q E, sp vs H Q E → vs.length = ps.length)
    (hb : ∀ (cdv : Value) (A : Around) (outer : List Env) (s : Shared) (H : Hp) (vs : List V) (Q : VK) (E : XK), Room k (A.deeper (envOfC qn (defScope st) s.heap.objs.size f cdv)) → sp vs H Q E →
      ∃ t, PSs (cxOf CX0 P w K mg base N qn (defScope st) f cdv A outer s H E).nox (defBody st) t ∧ t { nx := fun _ Hn => Q .non Hn, rt := Q } (start N vs) H) : FnOk P w K mg base CX0 (k + 1) f fd ps sp :=
  F.ok S len fun cdv A outer s H vs Q E hr hsp => let ⟨t, h, q⟩ := hb cdv A outer s H vs Q E hr hsp; ⟨t, h.nox, q⟩
theorem same_new {H : Hp} {p : Addr} {o : HO} (h : H p = none) : Same H (upd H p o) := fun b x e => by
  rw [upd_ne (ne_of_none e h)]
  exact e
theorem sm_sqt {K : PySem.W.Frag} {H H' : Hp} {a : Addr} {xs : List V} (e : Same H H') (h : SqT K H a xs) : SqT K H' a xs := by
  rcases h with (h | ⟨o, h⟩) | h
  · exact .inl (.inl (e _ _ h))
  · exact .inl (.inr ⟨o, e _ _ h⟩)
  · exact .inr h
section
variable {P : Program} {w : World} {K : PySem.W.Frag} {mg : Str → Option Value} {base : Heap}
/-! ### is_integer -/
def spIsInteger : Sp := fun vs H Q _ => ∃ i : Int, vs = [.int i] ∧ Q (.bl true) H
theorem okIsInteger (T : Txt K mg) : FnOk P w K mg base CX0 1 T.dIsInteger.f T.dIsInteger.fd ["value"] spIsInteger := by
  refine fok T.dIsInteger.F scIsInteger (fun vs H Q E h => ?_) (fun cdv A outer s H vs Q E hr h => ?_)
  · obtain ⟨i, rfl, _⟩ := h
    rfl
  · obtain ⟨i, rfl, q⟩ := h
    refine ⟨_, pss_one (ps_ret (pe_and (pe_callB call_isi (by rfl) T.n_isinstance (by decide +kernel) (pa_cons (pv 0) (pa_cons (pe_bltn (v := .ty "int") (by rfl) T.n_int (by decide +kernel) rfl) pa_nil)))
      (pe_one (pe_not (pe_callB call_isi (by rfl) T.n_isinstance (by decide +kernel) (pa_cons (pv 0) (pa_cons (pe_bltn (v := .ty "bool") (by rfl) T.n_bool (by decide +kernel) rfl) pa_nil))))))), ?_⟩
    refine ⟨.int i, rfl, .int i, .ty "int", .type "int", .type "int", true, rfl, .ty _, .base (.int _), kit_ty (by decide +kernel), true, rfl, iteT ?_⟩
    exact ⟨.int i, rfl, .int i, .ty "bool", .type "int", .type "bool", false, rfl, .ty _, .base (.int _), kit_ty (by decide +kernel), false, rfl, q⟩
/-! ### is_sequence: a list, or a tuple -/
def spIsSequence (K : PySem.W.Frag) : Sp := fun vs H Q _ => ∃ a : Addr, vs = [.ref a] ∧ ((∃ xs, SqL K H a xs) ∨ ∃ xs, SqT K H a xs) ∧ ∀ H', Same H H' → Q (.bl true) H'
theorem tyx_list {H : Hp} {a : Addr} {xs : List V} (h : SqL K H a xs) (nf : ∀ o, H a ≠ some (.frz o (.lst xs))) : TyX K H (.ref a) (.type "list") := by
  rcases h with (h | ⟨o, h⟩) | ⟨o, its, n, e, c, _⟩
  · exact .base (.lst h)
  · exact absurd h (nf o)
  · exact .kList e c
/-! ### alphabet -/
def spAlphabet : Sp := fun vs H Q _ => vs = [.int 2] ∧ Q (.str ab) H
theorem okAlphabet (T : Txt K mg) : FnOk P w K mg base CX0 1 T.dAlphabet.f T.dAlphabet.fd ["letters"] spAlphabet := by
  refine fok T.dAlphabet.F scAlphabet (fun vs H Q E h => ?_) (fun cdv A outer s H vs Q E hr h => ?_)
  · obtain ⟨rfl, _⟩ := h
    rfl
  · obtain ⟨rfl, q⟩ := h
    obtain ⟨tk, hg⟩ := T.abcd
    refine ⟨_, pss_one (ps_ret (pe_slice sl_str (pe_glob (v := .str "abcd") (by rfl) hg ⟨_, rfl⟩) po_none (po_some (pv 0)))), ?_⟩
    refine ⟨.int 2, rfl, 2, rfl, Str.ofString "abcd", rfl, by decide +kernel, ?_⟩
    have e : cutS (Str.ofString "abcd") none (some 2) = ab := by decide +kernel
    rw [e]
    exact q
/-! ### power -/
def spPower : Sp := fun vs H Q _ => ∃ n : Nat, vs = [.int 2, .int (n : Int)] ∧ n ≤ 60 ∧ Q (.int ((2 ^ n : Nat) : Int)) H
theorem okPower (T : Txt K mg) : FnOk P w K mg base CX0 1 T.dPower.f T.dPower.fd ["base", "many"] spPower := by
  refine fok T.dPower.F scPower (fun vs H Q E h => ?_) (fun cdv A outer s H vs Q E hr h => ?_)
  · obtain ⟨n, rfl, _⟩ := h
    rfl
  · obtain ⟨n, rfl, hn, q⟩ := h
    refine ⟨_, pss_cons (ps_set (i := 2) scPower.nd rfl (.inl rfl) pe_int) (pss_cons (ps_for PassesOwn.never rfl (pi_range1 (by rfl) T.n_range (pa_cons (pv 1) pa_nil)) (pg_name (i := 3) scPower.nd rfl (.inl rfl))
      (pss_one (ps_set (i := 2) scPower.nd rfl (.inl rfl) (pe_op op_mul (pv 2) (pv 0))))) (pss_one (ps_ret (pv 2)))), ?_⟩
    refine ⟨.int (n : Int), rfl, (n : Int), rfl, by omega, by omega, ?_⟩
    rw [Int.toNat_natCast]
    refine for_range (lo := 0) (n := n) (fun i σ H' => ∃ v, σ = [some (.int 2), some (.int (n : Int)), some (.int ((2 ^ i : Nat) : Int)), v] ∧ H' = H) ⟨none, rfl, rfl⟩ ?_ ?_
    · rintro i σ H' hi ⟨v, rfl, rfl⟩
      refine ⟨_, rfl, .int 2, rfl, _, 2, rfl, rfl, .inr ⟨by decide, by decide⟩, some (.int (0 + (i : Int))), ?_, rfl⟩
      rw [Nat.pow_succ]
      rfl
    · rintro σ H' ⟨v, rfl, rfl⟩
      exact ⟨_, rfl, q⟩
/-! ### value_of -/
theorem gcd_step (a b : Nat) : Nat.gcd a b = Nat.gcd b (a % b) := by
  rw [Nat.gcd_comm a b, Nat.gcd_rec b a, Nat.gcd_comm]
def spValueOf : Sp := fun vs H Q _ => ∃ p q : Nat, vs = [.int (p : Int), .int (q : Int)] ∧ 0 < q ∧ p < 1000000 ∧ q < 1000000 ∧ ∀ a H', Same H H' → H' a = some (.tup [.int ((lo p q).1 : Int), .int ((lo p q).2 : Int)]) → Q (.ref a) H'
theorem okValueOf (T : Txt K mg) : FnOk P w K mg base CX0 1 T.dValueOf.f T.dValueOf.fd ["p", "q"] spValueOf := by
  refine fok T.dValueOf.F scValueOf (fun vs H Q E h => ?_) (fun cdv A outer s H vs Q E hr h => ?_)
  · obtain ⟨p, q, rfl, _⟩ := h
    rfl
  · obtain ⟨p, q, rfl, hq, hp1, hq1, k⟩ := h
    refine ⟨_, pss_cons (ps_par (i := 2) (j := 3) rfl scValueOf.nd rfl rfl (by decide) rfl rfl (pa_cons (pe_callB call_abs (by rfl) T.n_abs (by decide +kernel) (pa_cons (pv 0) pa_nil)) (pa_cons (pv 1) pa_nil)) (by rfl))
      (pss_cons (ps_while PassesOwn.never (pt_cmpR op_gt (pv 3) pe_int (nomark _)) (pss_one (ps_par (i := 2) (j := 3) rfl scValueOf.nd rfl rfl (by decide) rfl rfl (pa_cons (pv 3) (pa_cons (pe_op op_modN (pv 2) (pv 3)) pa_nil)) (by rfl))))
      (pss_one (ps_ret (pe_tup (pa_cons (pe_op op_fdivN (pv 0) (pv 2)) (pa_cons (pe_op op_fdivN (pv 1) (pv 2)) pa_nil)))))), ?_⟩
    refine ⟨_, rfl, (p : Int), rfl, .int (q : Int), rfl, _, _, rfl, ?_⟩
    rw [if_neg (show ¬ (p : Int) < 0 by omega)]
    refine while_by (fun σ H' => ∃ a b : Nat, σ = [some (.int (p : Int)), some (.int (q : Int)), some (.int (a : Int)), some (.int (b : Int))] ∧ H' = H ∧ Nat.gcd a b = Nat.gcd p q ∧ 0 < a + b)
      (fun σ _ => match σ with | [_, _, _, some (.int b)] => b.toNat | _ => 0) ⟨p, q, rfl, rfl, rfl, by omega⟩ ?_ (fun σ H Q Q' h hc => ?_)
    · rintro σ H' ⟨a, b, rfl, rfl, hg, hab⟩
      refine ⟨_, rfl, (b : Int), 0, rfl, rfl, _, rfl, ?_⟩
      by_cases hb : 0 < b
      · rw [decide_eq_true (show (0 : Int) < (b : Int) by omega)]
        refine iteT ?_
        refine ⟨_, rfl, .int (a : Int), rfl, _, rfl, (a : Int), (b : Int), rfl, rfl, by omega, _, _, rfl, ?_⟩
        have e : (a : Int).fmod (b : Int) = ((a % b : Nat) : Int) := by
          rw [Int.fmod_eq_emod_of_nonneg _ (by omega)]; rfl
        refine ⟨⟨b, a % b, by dsimp only; rw [e]; rfl, rfl, ?_, by omega⟩, ?_⟩
        · rw [← gcd_step]; exact hg
        · show ((a : Int).fmod (b : Int)).toNat < (b : Int).toNat
          rw [e, Int.toNat_natCast, Int.toNat_natCast]
          exact Nat.mod_lt _ hb
      · rw [decide_eq_false (show ¬ (0 : Int) < (b : Int) by omega)]
        refine iteF ?_
        have hb0 : b = 0 := by omega
        subst hb0
        rw [Nat.gcd_zero_right] at hg
        have ha : 0 < a := by omega
        have hle : a ≤ q := by rw [hg]; exact Nat.le_of_dvd hq (Nat.gcd_dvd_right _ _)
        refine ⟨.int (p : Int), rfl, .int (a : Int), rfl, (p : Int), (a : Int), rfl, rfl, ⟨by omega, by omega⟩, .int (q : Int), rfl, .int (a : Int), rfl, (q : Int), (a : Int), rfl, rfl, ⟨by omega, by omega⟩, (by show 2 ≤ sizeLine; decide), fun t ht => ?_⟩
        have e : ∀ x : Nat, (x : Int).fdiv (a : Int) = ((x / a : Nat) : Int) := fun x => by
          rw [Int.fdiv_eq_ediv_of_nonneg _ (by omega)]; rfl
        dsimp only
        rw [e, e, hg]
        exact k t _ (same_new ht) upd_same
    · obtain ⟨v, hv, b, c, e1, e2, d, e3, q1⟩ := hc
      exact ⟨v, hv, b, c, e1, e2, d, e3, h _ _ q1⟩
end
end Wp
/-! More defs of the module words. -/
namespace Wp
open PySem PySem.Spec PyProof.Rows L2
/-- turns of a walk, the body told by what it is to reach -/
theorem it_by {J : It} {n : Nat} {G : Hp → Prop} {Y : Nat → Hp → V → Hp → Prop} (wk : Walk J n G Y) {Qd : Hp → Prop} {body : V → Hp → (Hp → Prop) → Prop} {H0 : Hp} (Pv : Nat → Hp → Prop) (h0 : Pv 0 H0) (hG : ∀ i H, i ≤ n → Pv i H → G H)
    (hs : ∀ i x H H', i < n → Pv i H → Y i H x H' → body x H' (Pv (i + 1))) (hd : ∀ H, Pv n H → Qd H) :
    ∃ W : Nat → Nat → Hp → Prop, (∃ m, W 0 m H0) ∧ ∀ i m H, W i m H → (J.stop i H ∧ Qd H) ∨ (J.go i H ∧ ∃ Nx : Hp → Prop, (∀ H', Nx H' → ∃ m', m' < m ∧ W (i + 1) m' H') ∧ ∀ x H', J.yld i H x H' → body x H' Nx) := by
  refine ⟨fun i m H => m = n - i ∧ i ≤ n ∧ Pv i H, ⟨n, by simp, Nat.zero_le _, h0⟩, ?_⟩
  rintro i m H ⟨rfl, hi, p⟩
  have q := hG i H hi p
  by_cases hlt : i < n
  · exact .inr ⟨wk.goes i H hlt q, Pv (i + 1), fun H' p' => ⟨n - (i + 1), by omega, rfl, hlt, p'⟩, fun x H' y => hs i x H H' hlt p (wk.yields i H x H' hlt q y)⟩
  · have e : i = n := by omega
    subst e
    exact .inl ⟨wk.stops H q, hd H p⟩
theorem sm_upd {H H' : Hp} {p : Addr} {o : HO} (s : Same H H') (h : H p = none) : Same H (upd H' p o) := fun b x e => by
  rw [upd_ne (ne_of_none e h)]
  exact s b x e
/-- a list of texts -/
def vt (l : List (List Bool)) : List V := l.map fun t => V.str (enc t)
theorem vt_len (l : List (List Bool)) : (vt l).length = l.length := List.length_map _
theorem vt_get {l : List (List Bool)} {i : Nat} {x : V} (h : (vt l)[i]? = some x) : ∃ t, l[i]? = some t ∧ x = .str (enc t) := by
  unfold vt at h
  rw [List.getElem?_map] at h
  cases e : l[i]? with
  | none => rw [e] at h; cases h
  | some t => rw [e] at h; exact ⟨t, rfl, (Option.some.inj h).symm⟩
theorem pow_le_4096 {n : Nat} (h : n ≤ 12) : 2 ^ n ≤ 4096 := Nat.pow_le_pow_right (by decide) h
theorem small4096 {n : Nat} (h : n ≤ 8192) : n < sizeLine := Nat.lt_of_le_of_lt h (by decide)
section
variable {P : Program} {w : World} {K : PySem.W.Frag} {mg : Str → Option Value} {base : Heap}
/-! ### is_sequence -/
def spIsSeq (K : PySem.W.Frag) : Sp := fun vs H Q _ => ∃ a : Addr, vs = [.ref a] ∧ ((∃ xs, H a = some (.lst xs)) ∨ ∃ xs, SqT K H a xs) ∧ ∀ H', Same H H' → Q (.bl true) H'
theorem okIsSequence (T : Txt K mg) : FnOk P w K mg base CX0 1 T.dIsSequence.f T.dIsSequence.fd ["value"] (spIsSeq K) := by
  refine fok T.dIsSequence.F scIsSequence (fun vs H Q E h => ?_) (fun cdv A outer s H vs Q E hr h => ?_)
  · obtain ⟨a, rfl, _⟩ := h
    rfl
  · obtain ⟨a, rfl, hx, q⟩ := h
    refine ⟨_, pss_one (ps_ret (pe_callB call_isiT (by rfl) T.n_isinstance (by decide +kernel) (pa_cons (pv 0) (pa_cons (pe_tup (pa_cons (pe_bltn (v := .ty "list") (by rfl) T.n_list (by decide +kernel) rfl)
      (pa_cons (pe_bltn (v := .ty "tuple") (by rfl) T.n_tuple (by decide +kernel) rfl) pa_nil))) pa_nil)))), ?_⟩
    refine ⟨.ref a, rfl, (by show 2 ≤ sizeLine; decide), fun t ht => ?_⟩
    have sm : Same H (upd H t (.tup [.ty "list", .ty "tuple"])) := same_new ht
    have cl : Paired ClsV [V.ty "list", V.ty "tuple"] [Value.type "list", Value.type "tuple"] := .cons (.ty _) (.cons (.ty _) .nil)
    rcases hx with ⟨xs, hx⟩ | ⟨xs, hx⟩
    · exact ⟨.ref a, t, [.ty "list", .ty "tuple"], .type "list", [.type "list", .type "tuple"], true, rfl, upd_same, cl, .base (.lst (sm _ _ hx)),
        kitAny_cons (kit_ty (b := "list") (r := true) (by decide +kernel)) (fun z => nomatch z) (fun _ => rfl), q _ sm⟩
    · have ty : TyX K (upd H t (.tup [.ty "list", .ty "tuple"])) (.ref a) (.type "tuple") := by
        rcases hx with (hx | ⟨o, hx⟩) | ⟨o, its, n, e, c, _⟩
        · exact .base (.tup (sm _ _ hx))
        · exact .fTuple (sm _ _ hx)
        · exact .kTuple e c
      exact ⟨.ref a, t, [.ty "list", .ty "tuple"], .type "tuple", [.type "list", .type "tuple"], true, rfl, upd_same, cl, ty,
        kitAny_cons (kit_ty (b := "list") (r := false) (by decide +kernel)) (fun _ => kitAny_cons (kit_ty (b := "tuple") (r := true) (by decide +kernel)) (fun z => nomatch z) (fun _ => rfl)) (fun z => nomatch z), q _ sm⟩
/-! ### texts_of -/
def spTextsOf : Sp := fun vs H Q _ => ∃ n : Nat, vs = [.int 2, .int (n : Int)] ∧ n ≤ 12 ∧ ∀ a H', Same H H' → H a = none → H' a = some (.lst (vt (words n))) → Q (.ref a) H'
theorem words_two (l : List (List Bool)) (i : Nat) {t : List Bool} (h : l[i]? = some t) : vt ((l.take (i + 1)).flatMap fun t => [t ++ [false], t ++ [true]]) = vt ((l.take i).flatMap fun t => [t ++ [false], t ++ [true]]) ++ [.str (enc (t ++ [false])), .str (enc (t ++ [true]))] := by
  rw [List.take_add_one, h, List.flatMap_append]
  unfold vt
  rw [List.map_append]
  rfl
theorem okTextsOf (T : Txt K mg) : FnOk P w K mg base CX0 2 T.dTextsOf.f T.dTextsOf.fd ["letters", "size"] spTextsOf := by
  refine fok T.dTextsOf.F scTextsOf (fun vs H Q E h => ?_) (fun cdv A outer s H vs Q E hr h => ?_)
  · obtain ⟨n, rfl, _⟩ := h
    rfl
  · obtain ⟨n, rfl, hn, q⟩ := h
    have GA : FnOk P w K mg base CX0 1 T.dAlphabet.f T.dAlphabet.fd ["letters"] spAlphabet := okAlphabet T
    refine ⟨_, pss_cons (ps_set (i := 2) scTextsOf.nd rfl (.inl rfl) (pe_lst (pa_cons pe_str pa_nil)))
      (pss_cons (ps_for PassesOwn.never rfl (pi_range1 (by rfl) T.n_range (pa_cons (pv 1) pa_nil)) (pg_name (i := 3) scTextsOf.nd rfl (.inl rfl))
        (pss_one (ps_setLc2 (i := 2) (own := [("text", 4), ("sign", 5)]) (vs1 := [5]) (g := gName 4) (tt := tYes) (g1 := gName 5) (tt1 := tYes) (by rfl) scTextsOf.nd rfl rfl (sw_true rfl rfl rfl (by decide +kernel)) (pi_list (pv 2))
          (blkOk_by (own := [("text", 4), ("sign", 5)]) (N := ["letters", "size", "found", "turn", "text", "sign"]) (sc := defScope sTextsOf) (by decide +kernel)) (by decide)
          (fun _ _ _ _ _ => pg_name (i := 4) scTextsOf.nd rfl (Or.inl rfl)) (fun _ _ _ _ _ => pts_nil)
          (fun _ _ _ _ _ => pi_str (pe_call GA hr (by rfl) T.dAlphabet.g T.dAlphabet.F.kp (bAlphabet _) .nil pass0 (pa_cons (pv 0) pa_nil)))
          (fun _ _ _ _ _ => pg_name (i := 5) scTextsOf.nd rfl (Or.inl rfl)) (fun _ _ _ _ _ => pts_nil) (fun _ _ _ _ _ => pe_op op_add_str (pv 4) (pv 5)))))
      (pss_one (ps_ret (pv 2)))), ?_⟩
    refine ⟨by decide, fun a0 na0 => ?_⟩
    refine ⟨.int (n : Int), rfl, (n : Int), rfl, by omega, by omega, ?_⟩
    rw [Int.toNat_natCast]
    refine for_range (lo := 0) (n := n) (fun i σ H' => ∃ a v, σ = [some (.int 2), some (.int (n : Int)), some (.ref a), v, none, none] ∧ Same H H' ∧ H a = none ∧ H' a = some (.lst (vt (words i)))) ⟨a0, none, rfl, same_new na0, na0, ?_⟩ ?_ ?_
    · rw [upd_same]
      have e : Str.ofString "" = enc [] := enc_nil.symm
      show some (HO.lst [V.str (Str.ofString "")]) = some (HO.lst (vt [[]]))
      rw [e]
      rfl
    · rintro i σ H1 hi ⟨a, v, rfl, sm, na, ha⟩
      -- the comprehension
      refine ⟨.ref a, rfl, a, rfl, ⟨_, SqL.of ha⟩, fun D nD => ?_⟩
      have naD : a ≠ D := ne_of_none ha nD
      refine it_by (walk_list (K := K) (a := a) (xs := vt (words i))) (fun j H' => Same H1 H' ∧ H' D = some (.lst (vt (((words i).take j).flatMap fun t => [t ++ [false], t ++ [true]])))) ⟨same_new nD, by rw [upd_same]; rfl⟩ (fun j H' _ p => SqL.of (p.1 _ _ ha)) ?_ ?_
      · rintro j x H2 H3 hj ⟨sm2, hD⟩ ⟨rfl, hx⟩
        obtain ⟨t, ht, rfl⟩ := vt_get hx
        have htl : t.length = i := mem_words.mp (List.mem_of_getElem? ht)
        rw [vt_len, words_length] at hj
        have h4 : 2 ^ i ≤ 2 ^ 11 := Nat.pow_le_pow_right (by decide) (by omega)
        have fl : ∀ l : List (List Bool), (l.flatMap fun t => [t ++ [false], t ++ [true]]).length = 2 * l.length := by
          intro l
          induction l with
          | nil => rfl
          | cons a l ih => rw [List.flatMap_cons, List.length_append, ih]; simp; omega
        have fj : (vt (((words i).take j).flatMap fun t => [t ++ [false], t ++ [true]])).length ≤ 8000 + 2 := by
          rw [vt_len, fl, List.length_take, words_length]; omega
        refine ⟨rfl, ?_⟩
        refine ⟨.int 2, rfl, rfl, ab, rfl, ?_⟩
        refine it_by (walk_str (z := ab)) (fun l H' => Same H1 H' ∧ H' D = some (.lst (vt (((words i).take j).flatMap fun t => [t ++ [false], t ++ [true]]) ++ ([V.str (enc (t ++ [false])), .str (enc (t ++ [true]))].take l)))) ⟨sm2, by rw [hD]; simp⟩ (fun _ _ _ _ => trivial) ?_ ?_
        · rintro l y H4 H5 hl ⟨sm4, hD4⟩ ⟨rfl, c, hc, rfl⟩
          obtain ⟨b, hb, rfl⟩ := enc_get hc
          refine ⟨rfl, ?_⟩
          refine ⟨.str (enc t), rfl, .str (sg b), rfl, enc t, sg b, rfl, rfl, ?_, _, hD4, ?_, sm_upd sm4 nD, ?_⟩
          · rw [enc_len, ← sg_enc, enc_len, htl]
            exact Nat.le_of_lt (small1000 (by simp; omega))
          · rw [List.length_append]
            have : ([V.str (enc (t ++ [false])), .str (enc (t ++ [true]))].take l).length ≤ 2 := by rw [List.length_take]; exact Nat.min_le_right _ _
            exact small4096 (by omega)
          · rw [upd_same, ← sg_enc, enc_append]
            have hl2 : l < 2 := hl
            have hbb : ([false, true] : List Bool)[l]? = some b := hb
            match l, hl2, hbb with
            | 0, _, h => cases h; simp
            | 1, _, h => cases h; simp
        · rintro H4 ⟨sm4, hD4⟩
          refine ⟨sm4, ?_⟩
          rw [hD4, words_two _ _ ht]
          rfl
      · rintro H2 ⟨sm2, hD⟩
        refine ⟨D, some (.int (0 + (i : Int))), rfl, sm.trans sm2, sm.free nD, ?_⟩
        rw [hD, vt_len, List.take_length]
        rfl
    · rintro σ H1 ⟨a, v, rfl, sm, na, ha⟩
      exact ⟨.ref a, rfl, q a H1 sm na ha⟩
end
end Wp
/-! wrong_at, need_letters, need_lot, need_sizes, is_table. -/
namespace Wp
open PySem PySem.Spec PyProof.Rows L2
section
variable {P : Program} {w : World} {K : PySem.W.Frag} {mg : Str → Option Value} {base : Heap}
/-! ### wrong_at -/
def spWrongAt : Sp := fun vs H Q _ => ∃ t : List Bool, vs = [.int 2, .str (enc t)] ∧ ∀ H', Same H H' → Q .non H'
theorem okWrongAt (T : Txt K mg) : FnOk P w K mg base CX0 2 T.dWrongAt.f T.dWrongAt.fd ["letters", "value"] spWrongAt := by
  refine fok T.dWrongAt.F scWrongAt (fun vs H Q E h => ?_) (fun cdv A outer s H vs Q E hr h => ?_)
  · obtain ⟨t, rfl, _⟩ := h
    rfl
  · obtain ⟨t, rfl, q⟩ := h
    have GA : FnOk P w K mg base CX0 1 T.dAlphabet.f T.dAlphabet.fd ["letters"] spAlphabet := okAlphabet T
    refine ⟨_, pss_cons (ps_for PassesOwn.never rfl (pi_enumS (by rfl) T.n_enumerate (pa_cons (pv 1) pa_nil)) (pg_tup rfl (pgs_cons (pg_name (i := 2) scWrongAt.nd rfl (.inl rfl)) (pgs_cons (pg_name (i := 3) scWrongAt.nd rfl (.inl rfl)) pgs_nil)))
      (pss_one (ps_if (pt_cmpR op_notIn_sign (pv 3) (pe_call GA hr (by rfl) T.dAlphabet.g T.dAlphabet.F.kp (bAlphabet _) .nil pass0 (pa_cons (pv 0) pa_nil)) (by rfl)) (pss_one (ps_ret (pv 2))) pss_nil)))
      (pss_one (ps_ret pe_non)), ?_⟩
    refine ⟨.str (enc t), rfl, enc t, rfl, ?_⟩
    refine for_it walk_enumS (fun i σ H' => ∃ x y, σ = [some (.int 2), some (.str (enc t)), x, y] ∧ Same H H') ⟨none, none, rfl, Same.refl _⟩ (fun _ _ _ _ _ => trivial) ?_ ?_
    · rintro i v σ H1 H2 hi ⟨x, y, rfl, sm⟩ ⟨A1, a, b, rfl, nA, rfl, e1, e2⟩
      obtain rfl := Option.some.inj e1
      have e2 : (enc t).cps[i]?.map (fun c => V.str ⟨#[c]⟩) = some b := e2
      cases hc : (enc t).cps[i]? with
      | none => rw [hc] at e2; cases e2
      | some c =>
        rw [hc] at e2
        obtain rfl := Option.some.inj e2
        obtain ⟨bb, hb, rfl⟩ := enc_get hc
        refine ⟨A1, [.int (i : Nat), .str (sg bb)], rfl, SqT.of upd_same, rfl, _, _, rfl, _, _, rfl, rfl, ?_⟩
        refine ⟨_, rfl, .int 2, rfl, rfl, ch bb, ab, rfl, rfl, _, rfl, ?_⟩
        rw [decide_eq_true (mem_ab bb)]
        refine iteF ?_
        exact ⟨_, _, rfl, sm_upd sm (sm.free nA)⟩
    · rintro σ H1 ⟨x, y, rfl, sm⟩
      exact q _ sm
/-! ### need_letters -/
def spNeedLetters : Sp := fun vs H Q _ => ∃ t : List Bool, vs = [.int 2, .str (enc t)] ∧ ∀ H', Same H H' → Q .non H'
theorem okNeedLetters (T : Txt K mg) : FnOk P w K mg base CX0 3 T.dNeedLetters.f T.dNeedLetters.fd ["letters", "value"] spNeedLetters := by
  refine fok T.dNeedLetters.F scNeedLetters (fun vs H Q E h => ?_) (fun cdv A outer s H vs Q E hr h => ?_)
  · obtain ⟨t, rfl, _⟩ := h
    rfl
  · obtain ⟨t, rfl, q⟩ := h
    have GW : FnOk P w K mg base CX0 2 T.dWrongAt.f T.dWrongAt.fd ["letters", "value"] spWrongAt := okWrongAt T
    refine ⟨_, pss_cons (ps_if (pt_not (pt_val (pe_callB call_isi (by rfl) T.n_isinstance (by decide +kernel) (pa_cons (pv 1) (pa_cons (pe_bltn (v := .ty "str") (by rfl) T.n_str (by decide +kernel) rfl) pa_nil))))) (pss_one ps_never) pss_nil)
      (pss_cons (ps_set (i := 2) scNeedLetters.nd rfl (.inl rfl) (pe_call GW hr (by rfl) T.dWrongAt.g T.dWrongAt.F.kp (bWrongAt _) .nil pass0 (pa_cons (pv 0) (pa_cons (pv 1) pa_nil))))
      (pss_one (ps_if (pt_cmp (pc_notN (pv 2))) (pss_one ps_never) pss_nil))), ?_⟩
    refine ⟨.str (enc t), rfl, .str (enc t), .ty "str", .type "str", .type "str", true, rfl, .ty _, .base (.str _), kit_ty (by decide +kernel), true, rfl, ?_⟩
    refine ⟨.int 2, rfl, .str (enc t), rfl, t, rfl, fun H1 sm => ?_⟩
    refine ⟨.non, rfl, _, rfl, ?_⟩
    exact q H1 sm
/-! ### need_lot -/
def spNeedLot (K : PySem.W.Frag) : Sp := fun vs H Q _ => ∃ (k : Int) (a : Addr), vs = [.int 2, .int k, .ref a] ∧ SqT K H a [] ∧ ∀ p H', Same H H' → H' p = some (.lst []) → Q (.ref p) H'
theorem okNeedLot (T : Txt K mg) : FnOk P w K mg base CX0 2 T.dNeedLot.f T.dNeedLot.fd ["letters", "k", "lot"] (spNeedLot K) := by
  refine fok T.dNeedLot.F scNeedLot (fun vs H Q E h => ?_) (fun cdv A outer s H vs Q E hr h => ?_)
  · obtain ⟨k, a, rfl, _⟩ := h
    rfl
  · obtain ⟨k, a, rfl, hl, q⟩ := h
    have GS : FnOk P w K mg base CX0 1 T.dIsSequence.f T.dIsSequence.fd ["value"] (spIsSeq K) := okIsSequence T
    refine ⟨_, pss_cons (ps_if (pt_not (pt_val (pe_call GS hr (by rfl) T.dIsSequence.g T.dIsSequence.F.kp (bIsSequence _) .nil pass0 (pa_cons (pv 2) pa_nil)))) (pss_one ps_never) pss_nil)
      (pss_cons (ps_set (i := 3) scNeedLot.nd rfl (.inl rfl) pe_dnewK)
      (pss_cons (ps_for PassesOwn.never rfl (pi_enumT0 (by rfl) T.n_enumerate (pa_cons (pv 2) pa_nil)) (pg_tup rfl (pgs_cons (pg_name (i := 4) scNeedLot.nd rfl (.inl rfl)) (pgs_cons (pg_name (i := 5) scNeedLot.nd rfl (.inl rfl)) pgs_nil))) pss_never)
      (pss_one (ps_ret (pe_callTy (call_list_dK rfl) (by rfl) T.n_list (by decide +kernel) (pa_cons (pv 3) pa_nil)))))), ?_⟩
    refine ⟨.ref a, rfl, a, rfl, .inr ⟨_, hl⟩, fun H1 sm => ⟨true, rfl, ?_⟩⟩
    refine iteF ?_
    intro d nd
    have sm1 : Same H (upd H1 d (.dK [])) := sm_upd sm (sm.free nd)
    refine ⟨.ref a, rfl, a, rfl, sm_sqt sm1 hl, ?_⟩
    refine for_it walk_enumT0 (fun i σ H' => σ = [some (.int 2), some (.int k), some (.ref a), some (.ref d), none, none] ∧ H' = upd H1 d (.dK [])) ⟨rfl, rfl⟩ ?_ ?_ ?_
    · rintro i σ H2 _ ⟨_, rfl⟩
      exact sm_sqt sm1 hl
    · intro i v σ H2 H3 hi
      exact absurd hi (Nat.not_lt_zero i)
    · rintro σ H2 ⟨rfl, rfl⟩
      refine ⟨.ref d, rfl, d, [], rfl, upd_same, fun p np => ?_⟩
      exact q p _ (sm_upd sm1 (sm1.free np)) upd_same
/-! ### need_sizes -/
def spNeedSizes : Sp := fun vs H Q _ => ∃ w k : Nat, vs = [.int 2, .int (w : Int), .int (k : Int)] ∧ 1 ≤ w ∧ w ≤ 5 ∧ 1 ≤ k ∧ k ≤ 4 ∧ ∀ H', Same H H' → Q .non H'
theorem okNeedSizes (T : Txt K mg) : FnOk P w K mg base CX0 2 T.dNeedSizes.f T.dNeedSizes.fd ["letters", "w", "k"] spNeedSizes := by
  refine fok T.dNeedSizes.F scNeedSizes (fun vs H Q E h => ?_) (fun cdv A outer s H vs Q E hr h => ?_)
  · obtain ⟨w, k, rfl, _⟩ := h
    rfl
  · obtain ⟨w', k', rfl, w1, w5, k1, k4, q⟩ := h
    have GI : FnOk P w K mg base CX0 1 T.dIsInteger.f T.dIsInteger.fd ["value"] spIsInteger := okIsInteger T
    refine ⟨_, pss_one (ps_for PassesOwn.never rfl (RZ.pi_zipA (by rfl) T.n_zip (pa_cons (pe_glob (v := .ref T.aS) (by rfl) T.gS rfl) (pa_cons (pe_tup (pa_cons (pv 0) (pa_cons (pv 1) (pa_cons (pv 2) pa_nil)))) pa_nil)))
      (pg_tup rfl (pgs_cons (pg_tup rfl (pgs_cons (pg_name (i := 3) scNeedSizes.nd rfl (.inl rfl)) (pgs_cons (pg_name (i := 4) scNeedSizes.nd rfl (.inl rfl)) (pgs_cons (pg_name (i := 5) scNeedSizes.nd rfl (.inl rfl)) pgs_nil))))
        (pgs_cons (pg_name (i := 6) scNeedSizes.nd rfl (.inl rfl)) pgs_nil)))
      (pss_one (ps_if (PW.pt (pw_or (pt_not (pt_val (pe_call GI hr (by rfl) T.dIsInteger.g T.dIsInteger.F.kp (bIsInteger _) .nil pass0 (pa_cons (pv 6) pa_nil)))) (pw_or1 (pt_not (pt_chain op_le op_le (pv 4) (pv 6) (pv 5))))))
        (pss_one ps_never) pss_nil))), ?_⟩
    refine ⟨.int 2, rfl, .int (w' : Int), rfl, .int (k' : Int), rfl, (by show 3 ≤ sizeLine; decide), fun B nB => ?_⟩
    have sm0 : Same H (upd H B (.tup [.int 2, .int (w' : Int), .int (k' : Int)])) := same_new nB
    refine ⟨T.aS, B, [.ref T.a0, .ref T.a1, .ref T.a2], [.int 2, .int (w' : Int), .int (k' : Int)], rfl, .inr ⟨T.sS _, SqT.of upd_same, ?_⟩⟩
    refine RZ.for_zipT (K := K) (a := T.aS) (b := B) (xs := [.ref T.a0, .ref T.a1, .ref T.a2]) (ys := [.int 2, .int (w' : Int), .int (k' : Int)]) rfl
      (fun i σ H' => ∃ x y z u, σ = [some (.int 2), some (.int (w' : Int)), some (.int (k' : Int)), x, y, z, u] ∧ Same (upd H B (.tup [.int 2, .int (w' : Int), .int (k' : Int)])) H') ⟨none, none, none, none, rfl, Same.refl _⟩ ?_ ?_ ?_
    · rintro i σ H1 ⟨_, _, _, _, _, sm⟩
      exact ⟨T.sS _, SqT.of (sm _ _ upd_same)⟩
    · rintro i x y C σ H1 hx hy ⟨e3, e4, e5, e6, rfl, sm⟩ nC
      -- one turn: the i-th size
      have go : ∀ (A0 : Addr) (nm : Str) (lo hi v : Int), (∀ H, SqT K H A0 [.str nm, .int lo, .int hi]) → lo ≤ v → v ≤ hi → x = .ref A0 → y = .int v →
          gTup K 2 (gCons (gTup K 3 (gCons (gName 3) (gCons (gName 4) (gCons (gName 5) gNil)))) (gCons (gName 6) gNil)) (.ref C) [some (.int 2), some (.int (w' : Int)), some (.int (k' : Int)), e3, e4, e5, e6] (upd H1 C (.tup [x, y]))
            (fun σ2 H2 => tIfS (tOr (tNot (tB (tCall spIsInteger [] E0 (tCons (tVar 6) tNil)))) (tNot (tTest (tChain (rI0 fun i j => .bl (decide (i ≤ j))) (rI0 fun i j => .bl (decide (i ≤ j))) (tVar 4) (tVar 6) (tVar 5))))) tNever tNext
              { nx := fun σ H' => ∃ x y z u, σ = [some (.int 2), some (.int (w' : Int)), some (.int (k' : Int)), x, y, z, u] ∧ Same (upd H B (.tup [.int 2, .int (w' : Int), .int (k' : Int)])) H', rt := Q } σ2 H2) := by
        rintro A0 nm l h v hA hl hh rfl rfl
        refine ⟨C, [.ref A0, .int v], rfl, SqT.of upd_same, rfl, _, _, rfl, ?_⟩
        refine ⟨A0, [.str nm, .int l, .int h], rfl, hA _, rfl, _, _, rfl, _, _, rfl, _, _, rfl, rfl, ?_⟩
        refine ⟨_, _, rfl, rfl, ?_⟩
        refine ⟨.int v, rfl, v, rfl, true, rfl, ?_⟩
        refine iteF ?_
        refine ⟨.int l, rfl, .int v, rfl, l, v, rfl, rfl, _, rfl, ?_⟩
        rw [decide_eq_true hl]
        refine iteT ?_
        refine ⟨.int h, rfl, v, h, rfl, rfl, _, rfl, ?_⟩
        rw [decide_eq_true hh]
        exact ⟨_, _, _, _, rfl, sm_upd sm (sm.free nC)⟩
      match i, hx, hy with
      | 0, hx, hy => exact go T.a0 "letters" 2 4 2 T.s0 (by decide) (by decide) (Option.some.inj hx).symm (Option.some.inj hy).symm
      | 1, hx, hy => exact go T.a1 "w" 1 5 w' T.s1 (by omega) (by omega) (Option.some.inj hx).symm (Option.some.inj hy).symm
      | 2, hx, hy => exact go T.a2 "k" 1 4 k' T.s2 (by omega) (by omega) (Option.some.inj hx).symm (Option.some.inj hy).symm
      | i + 3, hx, _ => cases hx
    · rintro σ H1 ⟨_, _, _, _, rfl, sm⟩
      exact q H1 (sm0.trans sm)
/-! ### is_table -/
def vn (l : List Nat) : List V := l.map fun n : Nat => V.int (n : Int)
theorem vn_len (l : List Nat) : (vn l).length = l.length := by
  unfold vn
  exact List.length_map _
theorem vn_get {l : List Nat} {i : Nat} {x : V} (h : (vn l)[i]? = some x) : ∃ n, l[i]? = some n ∧ x = .int (n : Int) := by
  unfold vn at h
  rw [List.getElem?_map] at h
  cases e : l[i]? with
  | none => rw [e] at h; cases h
  | some t => rw [e] at h; exact ⟨t, rfl, (Option.some.inj h).symm⟩
def spIsTable : Sp := fun vs H Q _ => ∃ (w : Nat) (a : Addr) (l : List Nat), vs = [.int (w : Int), .int (l.length : Int), .ref a] ∧ H a = some (.lst (vn l)) ∧ l.length ≤ 1000 ∧ (∀ x ∈ l, x < w) ∧ ∀ H', Same H H' → Q (.bl true) H'
theorem okIsTable (T : Txt K mg) : FnOk P w K mg base CX0 2 T.dIsTable.f T.dIsTable.fd ["w", "many", "value"] spIsTable := by
  refine fok T.dIsTable.F scIsTable (fun vs H Q E h => ?_) (fun cdv A outer s H vs Q E hr h => ?_)
  · obtain ⟨w, a, l, rfl, _⟩ := h
    rfl
  · obtain ⟨w', a, l, rfl, ha, hl, hlt, q⟩ := h
    have GI : FnOk P w K mg base CX0 1 T.dIsInteger.f T.dIsInteger.fd ["value"] spIsInteger := okIsInteger T
    have GS : FnOk P w K mg base CX0 1 T.dIsSequence.f T.dIsSequence.fd ["value"] (spIsSeq K) := okIsSequence T
    refine ⟨_, pss_cons (ps_if (PW.pt (pw_or (pt_not (pt_val (pe_call GS hr (by rfl) T.dIsSequence.g T.dIsSequence.F.kp (bIsSequence _) .nil pass0 (pa_cons (pv 2) pa_nil))))
        (pw_or1 (pt_cmpR op_ne (pe_callB call_len_seq (by rfl) T.n_len PySem.boot_len (pa_cons (pv 2) pa_nil)) (pv 1) (nomark _))))) (pss_one (ps_ret pe_bl)) pss_nil)
      (pss_one (ps_ret (pe_callB (cr_all rfl) (by rfl) T.n_all (by decide +kernel) (pa_cons (pe_lc (own := [("offset", 3)]) (g := gName 3) (tt := tYes) (by rfl) scIsTable.nd (pi_list (pv 2))
        (blkOk_by (own := [("offset", 3)]) (N := ["w", "many", "value", "offset"]) (sc := defScope sIsTable) (by decide +kernel)) (fun _ _ _ _ _ => pg_name (i := 3) scIsTable.nd rfl (Or.inl rfl)) (fun _ _ _ _ _ => pts_nil)
        (fun _ _ _ _ _ => pe_and (pe_call GI hr (by rfl) T.dIsInteger.g T.dIsInteger.F.kp (bIsInteger _) .nil pass0 (pa_cons (pv 3) pa_nil)) (pe_one (pe_chain op_le op_lt pe_int (pv 3) (pv 0)))))  pa_nil)))), ?_⟩
    refine ⟨.ref a, rfl, a, rfl, .inl ⟨_, ha⟩, fun H1 sm => ⟨true, rfl, ?_⟩⟩
    refine iteF ?_
    refine ⟨.ref a, rfl, a, _, rfl, .inl (SqL.of (sm _ _ ha)), _, rfl, rfl, _, rfl, ?_⟩
    rw [vn_len, decide_eq_true rfl]
    refine iteF ?_
    refine ⟨.ref a, rfl, a, rfl, ⟨_, SqL.of (sm _ _ ha)⟩, fun D nD => ?_⟩
    refine it_by (walk_list (K := K) (a := a) (xs := vn l)) (fun j H' => Same H1 H' ∧ H' D = some (.lst ((List.replicate j true).map V.bl))) ⟨same_new nD, by rw [upd_same]; rfl⟩ (fun j H' _ p => SqL.of (p.1 _ _ (sm _ _ ha))) ?_ ?_
    · rintro j x H2 H3 hj ⟨sm2, hD⟩ ⟨rfl, hx⟩
      obtain ⟨n, hn, rfl⟩ := vn_get hx
      have hnw : n < w' := hlt n (List.mem_of_getElem? hn)
      rw [vn_len] at hj
      refine ⟨rfl, ?_⟩
      refine ⟨.int (n : Int), rfl, (n : Int), rfl, true, rfl, iteT ?_⟩
      refine ⟨_, rfl, 0, (n : Int), rfl, rfl, _, rfl, ?_⟩
      rw [decide_eq_true (show (0 : Int) ≤ (n : Int) by omega)]
      refine iteT ?_
      refine ⟨.int (w' : Int), rfl, (n : Int), (w' : Int), rfl, rfl, _, hD, ?_, sm_upd sm2 nD, ?_⟩
      · rw [List.length_map, List.length_replicate]
        exact small1000 (by omega)
      · dsimp only
        rw [upd_same, decide_eq_true (show (n : Int) < (w' : Int) by omega), List.replicate_succ', List.map_append]
        rfl
    · rintro H2 ⟨sm2, hD⟩
      refine ⟨D, List.replicate (vn l).length true, rfl, SqL.of hD, ?_⟩
      have e : (List.replicate (vn l).length true).all id = true := by
        rw [List.all_eq_true]
        intro b hb
        exact (List.mem_replicate.mp hb).2
      rw [e]
      exact q H2 (sm.trans sm2)
end
end Wp
/-! The class Rule. -/
namespace Wp
open PySem PySem.Spec PyProof.Rows L2
def rf (r : Ru) (tb : Addr) : List (Str × V) := putF "table" (.ref tb) (putF "k" (.int (r.k : Int)) (putF "w" (.int (r.w : Int)) (putF "letters" (.int 2) [])))
theorem s_tk : ¬ (("table" : Str) = "k") := by decide +kernel
theorem rf_letters (r : Ru) (tb : Addr) : (rf r tb).lookup ("letters" : Str) = some (.int 2) := by
  unfold rf
  rw [lookup_putF, if_neg (by decide +kernel), lookup_putF, if_neg (by decide +kernel), lookup_putF, if_neg (by decide +kernel), lookup_putF, if_pos rfl]
theorem rf_w (r : Ru) (tb : Addr) : (rf r tb).lookup ("w" : Str) = some (.int (r.w : Int)) := by
  unfold rf
  rw [lookup_putF, if_neg (by decide +kernel), lookup_putF, if_neg (by decide +kernel), lookup_putF, if_pos rfl]
theorem rf_k (r : Ru) (tb : Addr) : (rf r tb).lookup ("k" : Str) = some (.int (r.k : Int)) := by
  unfold rf
  rw [lookup_putF, if_neg (by decide +kernel), lookup_putF, if_pos rfl]
theorem rf_table (r : Ru) (tb : Addr) : (rf r tb).lookup ("table" : Str) = some (.ref tb) := by
  unfold rf
  rw [lookup_putF, if_pos rfl]
theorem rf_no (r : Ru) (tb : Addr) : (rf r tb).lookup ("offset_of" : Str) = none := by
  unfold rf
  rw [lookup_putF, if_neg (by decide +kernel), lookup_putF, if_neg (by decide +kernel), lookup_putF, if_neg (by decide +kernel), lookup_putF, if_neg (by decide +kernel)]
  rfl
/-- the rule r stands at p -/
structure RAt (C : Addr) (H : Hp) (p : Addr) (r : Ru) : Prop where
  ex : ∃ dx tb, H p = some (.ins C dx (rf r tb)) ∧ H tb = some (.tup (vn r.tab))
theorem RAt.mono {C : Addr} {H H' : Hp} {p : Addr} {r : Ru} (h : RAt C H p r) (s : Same H H') : RAt C H' p r := by
  obtain ⟨dx, tb, h1, h2⟩ := h.ex
  exact ⟨dx, tb, s _ _ h1, s _ _ h2⟩
theorem size_i {r : Ru} (h : r.Ok) : (r.w : Int) + (r.k : Int) - 1 = (r.size : Int) := by
  have := h.w1
  unfold Ru.size
  omega
theorem size_le {r : Ru} (h : r.Ok) : r.size ≤ 8 := by
  have := h.w5; have := h.k4
  unfold Ru.size
  omega
theorem tab_le {r : Ru} (h : r.Ok) : r.tab.length ≤ 256 := by
  rw [h.len]
  exact Nat.pow_le_pow_right (n := 2) (by decide) (size_le h)
section
variable {P : Program} {w : World} {K : PySem.W.Frag} {mg : Str → Option Value} {base : Heap}
/-! ### __init__ -/
def spInit (C : Addr) : Sp := fun vs H Q _ => ∃ (p dx a : Addr) (r : Ru), vs = [.ref p, .int 2, .int (r.w : Int), .int (r.k : Int), .ref a] ∧ r.Ok ∧ H p = some (.ins C dx []) ∧ H a = some (.lst (vn r.tab)) ∧
  ∀ H', (∀ b o, b ≠ p → H b = some o → H' b = some o) → RAt C H' p r → Q .non H'
theorem okInit (T : Txt K mg) : FnOk P w K mg base CX0 3 T.dInit.f T.dInit.fd ["self", "letters", "w", "k", "table"] (spInit T.C) := by
  refine fok T.dInit.F scInit (fun vs H Q E h => ?_) (fun cdv A outer s H vs Q E hr h => ?_)
  · obtain ⟨p, dx, a, r, rfl, _⟩ := h
    rfl
  · obtain ⟨p, dx, a, r, rfl, ok, hp, ha, q⟩ := h
    have GN : FnOk P w K mg base CX0 2 T.dNeedSizes.f T.dNeedSizes.fd ["letters", "w", "k"] spNeedSizes := okNeedSizes T
    have GT : FnOk P w K mg base CX0 2 T.dIsTable.f T.dIsTable.fd ["w", "many", "value"] spIsTable := okIsTable T
    have GP : FnOk P w K mg base CX0 1 T.dPower.f T.dPower.fd ["base", "many"] spPower := okPower T
    refine ⟨_, pss_cons (ps_expr (pe_call GN hr (by rfl) T.dNeedSizes.g T.dNeedSizes.F.kp (bNeedSizes _) .nil pass0 (pa_cons (pv 1) (pa_cons (pv 2) (pa_cons (pv 3) pa_nil)))))
      (pss_cons (ps_if (pt_not (pt_val (pe_call GT hr (by rfl) T.dIsTable.g T.dIsTable.F.kp (bIsTable _) .nil pass0 (pa_cons (pv 2) (pa_cons (pe_call GP (hr.mono (by decide)) (by rfl) T.dPower.g T.dPower.F.kp (bPower _) .nil pass0
        (pa_cons (pv 1) (pa_cons (pe_op op_sub (pe_op op_add (pv 2) (pv 3)) pe_int) pa_nil))) (pa_cons (pv 4) pa_nil)))))) (pss_one ps_never) pss_nil)
      (pss_cons (ps_fld (pv 0) (pv 1) rfl) (pss_cons (ps_fld (pv 0) (pv 2) rfl) (pss_cons (ps_fld (pv 0) (pv 3) rfl)
      (pss_one (ps_fld (pv 0) (pe_callTy call_tuple_of (by rfl) T.n_tuple (by decide +kernel) (pa_cons (pv 4) pa_nil)) rfl)))))), ?_⟩
    -- need_sizes
    refine ⟨.int 2, rfl, .int (r.w : Int), rfl, .int (r.k : Int), rfl, r.w, r.k, rfl, ok.w1, ok.w5, ok.k1, ok.k4, fun H1 sm1 => ?_⟩
    -- is_table
    refine ⟨.int (r.w : Int), rfl, .int 2, rfl, .int (r.w : Int), rfl, .int (r.k : Int), rfl, _, _, rfl, rfl, _, _, rfl, rfl, r.size, ?_, Nat.le_trans (size_le ok) (by decide), ?_⟩
    · show [V.int 2, .int ((r.w : Int) + (r.k : Int) - 1)] = [.int 2, .int (r.size : Int)]
      rw [size_i ok]
    refine ⟨.ref a, rfl, r.w, a, r.tab, ?_, sm1 _ _ ha, Nat.le_trans (tab_le ok) (by decide), ok.lt, fun H2 sm2 => ⟨true, rfl, ?_⟩⟩
    · show [V.int (r.w : Int), .int ((2 ^ r.size : Nat) : Int), .ref a] = _
      rw [ok.len]
    refine iteF ?_
    have sm : Same H H2 := sm1.trans sm2
    have hp2 := sm _ _ hp
    have ha2 := sm _ _ ha
    have nap : a ≠ p := ne_of ha hp (by intro z; cases z)
    -- the four attributes
    refine ⟨_, rfl, _, rfl, p, T.C, dx, [], rfl, hp2, T.cl, T.nL, (by show 0 < 1000; decide), ?_⟩
    refine ⟨_, rfl, _, rfl, p, T.C, dx, _, rfl, upd_same, T.cl, T.nW, (by show 1 < 1000; decide), ?_⟩
    refine ⟨_, rfl, _, rfl, p, T.C, dx, _, rfl, upd_same, T.cl, T.nK, (Nat.lt_of_le_of_lt (length_putF _ _ _) (Nat.lt_of_le_of_lt (Nat.add_le_add_right (length_putF _ _ _) 1) (by show 0 + 1 + 1 < 1000; decide))), ?_⟩
    rw [upd_upd, upd_upd]
    refine ⟨.ref a, rfl, a, _, rfl, .inl ⟨SqL.of (by rw [upd_ne nap]; exact ha2), fun tb ntb => ?_⟩⟩
    have ntp : tb ≠ p := fun z => by
      rw [z, upd_same] at ntb
      cases ntb
    have ntb2 : H2 tb = none := by
      rw [upd_ne ntp] at ntb
      exact ntb
    refine ⟨_, rfl, p, T.C, dx, _, rfl, Eq.trans (upd_ne ntp.symm) upd_same, T.cl, T.nT, (Nat.lt_of_le_of_lt (length_putF _ _ _) (Nat.lt_of_le_of_lt (Nat.add_le_add_right (length_putF _ _ _) 1) (Nat.lt_of_le_of_lt (Nat.add_le_add_right (Nat.add_le_add_right (length_putF _ _ _) 1) 1) (by show 0 + 1 + 1 + 1 < 1000; decide)))), ?_⟩
    refine q _ (fun b o hb e => ?_) ⟨dx, tb, upd_same, ?_⟩
    · rw [upd_ne hb, upd_ne (ne_of_none (sm _ _ e) ntb2), upd_ne hb]
      exact sm _ _ e
    · rw [upd_ne ntp, upd_same]
/-! ### size -/
def spSize (C : Addr) : Sp := fun vs H Q _ => ∃ (p : Addr) (r : Ru), vs = [.ref p] ∧ r.Ok ∧ RAt C H p r ∧ Q (.int (r.size : Int)) H
theorem okSize (T : Txt K mg) : FnOk P w K mg base CX0 1 T.dSize.f T.dSize.fd ["self"] (spSize T.C) := by
  refine fok T.dSize.F scSize (fun vs H Q E h => ?_) (fun cdv A outer s H vs Q E hr h => ?_)
  · obtain ⟨p, r, rfl, _⟩ := h
    rfl
  · obtain ⟨p, r, rfl, ok, R, q⟩ := h
    obtain ⟨dx, tb, hp, ht⟩ := R.ex
    refine ⟨_, pss_one (ps_ret (pe_op op_sub (pe_op op_add (pe_fld (pv 0) rfl) (pe_fld (pv 0) rfl)) pe_int)), ?_⟩
    refine ⟨_, rfl, p, T.C, dx, _, _, rfl, hp, T.cl, T.nW, rf_w r tb, _, rfl, p, T.C, dx, _, _, rfl, hp, T.cl, T.nK, rf_k r tb, _, _, rfl, rfl, _, _, rfl, rfl, ?_⟩
    dsimp only
    rw [size_i ok]
    exact q
/-! ### offset_of -/
def spOffsetOf (C : Addr) : Sp := fun vs H Q _ => ∃ (p : Addr) (r : Ru) (t : List Bool), vs = [.ref p, .str (enc t)] ∧ r.Ok ∧ RAt C H p r ∧ t.length = r.size ∧ Q (.int (off r t : Int)) H
theorem idx_take {t : List Bool} {i : Nat} {b : Bool} (h : t[i]? = some b) : idx (t.take (i + 1)) = idx (t.take i) * 2 + bit b := by
  rw [List.take_add_one, h]
  unfold idx
  rw [List.foldl_append]
  rfl
theorem okOffsetOf (T : Txt K mg) : FnOk P w K mg base CX0 2 T.dOffsetOf.f T.dOffsetOf.fd ["self", "window"] (spOffsetOf T.C) := by
  refine fok T.dOffsetOf.F scOffsetOf (fun vs H Q E h => ?_) (fun cdv A outer s H vs Q E hr h => ?_)
  · obtain ⟨p, r, t, rfl, _⟩ := h
    rfl
  · obtain ⟨p, r, t, rfl, ok, R, hl, q⟩ := h
    obtain ⟨dx, tb, hp, ht⟩ := R.ex
    have GA : FnOk P w K mg base CX0 1 T.dAlphabet.f T.dAlphabet.fd ["letters"] spAlphabet := okAlphabet T
    refine ⟨_, pss_cons (ps_set (i := 2) scOffsetOf.nd rfl (.inl rfl) pe_int) (pss_cons (ps_for PassesOwn.never rfl (pi_str (pv 1)) (pg_name (i := 3) scOffsetOf.nd rfl (.inl rfl))
      (pss_one (ps_set (i := 2) scOffsetOf.nd rfl (.inl rfl) (pe_op op_add (pe_op op_mul (pv 2) (pe_fld (pv 0) rfl)) (pe_bm PySem.F.plainAttrs_str PySem.F.slot_str_index PySem.F.type_str_index mt_index_ab
        (pe_call GA hr (by rfl) T.dAlphabet.g T.dAlphabet.F.kp (bAlphabet _) .nil pass0 (pa_cons (pe_fld (pv 0) rfl) pa_nil)) (pa_cons (pv 3) pa_nil))))))
      (pss_one (ps_ret (pe_ix ix_tup (pe_fld (pv 0) rfl) (pv 2) (fun _ _ => rfl))))), ?_⟩
    refine ⟨.str (enc t), rfl, enc t, rfl, ?_⟩
    refine for_it (walk_str (z := enc t)) (fun i σ H' => ∃ v, σ = [some (.ref p), some (.str (enc t)), some (.int (idx (t.take i) : Int)), v] ∧ H' = H) ⟨none, rfl, rfl⟩ (fun _ _ _ _ _ => trivial) ?_ ?_
    · rintro i y σ H1 H2 hi ⟨v, rfl, rfl⟩ ⟨rfl, c, hc, rfl⟩
      obtain ⟨b, hb, rfl⟩ := enc_get hc
      have hlt := idx_lt (t.take i)
      have hle : (t.take i).length ≤ 8 := by
        rw [List.length_take]
        exact Nat.le_trans (Nat.min_le_right _ _) (by rw [hl]; exact size_le ok)
      have h256 : 2 ^ (t.take i).length ≤ 2 ^ 8 := Nat.pow_le_pow_right (by decide) hle
      refine ⟨_, rfl, .ref p, rfl, p, T.C, dx, _, _, rfl, hp, T.cl, T.nL, rf_letters r tb, _, 2, rfl, rfl, .inr ⟨by decide, by decide⟩, ?_⟩
      refine ⟨.ref p, rfl, p, T.C, dx, _, _, rfl, hp, T.cl, T.nL, rf_letters r tb, rfl, ?_⟩
      refine ⟨rfl, _, rfl, b, rfl, rfl, _, _, rfl, rfl, ?_⟩
      refine ⟨some (.str (sg b)), ?_, rfl⟩
      rw [idx_take hb]
      rfl
    · rintro σ H1 ⟨v, rfl, rfl⟩
      rw [enc_size, List.take_length]
      refine ⟨.ref p, rfl, p, T.C, dx, _, _, rfl, hp, T.cl, T.nT, rf_table r tb, _, rfl, tb, _, _, .int (off r t : Int), rfl, rfl, SqT.of ht, atI_nat ?_, q⟩
      unfold vn
      rw [List.getElem?_map, off_get ok hl]
      rfl
end
end Wp
/-! places_of, picks, status, turned. -/
namespace Wp
open PySem PySem.Spec PyProof.Rows L2
/-- the dict of the places of L -/
def PL (kvs : List (Key × V)) (L : List Nat) : Prop := ∃ ks : List Nat, kvs = ks.map (fun i : Nat => ((Sum.inl (i : Int) : Key), V.bl true)) ∧ ks.Nodup ∧ (∀ i, i ∈ ks ↔ i ∈ L) ∧ ks.length ≤ L.length
theorem PL.nil : PL [] [] := ⟨[], rfl, List.nodup_nil, fun _ => Iff.rfl, Nat.le_refl _⟩
theorem pl_any (ks : List Nat) (n : Nat) : ((ks.map (fun i : Nat => ((Sum.inl (i : Int) : Key), V.bl true))).any fun kv => decide (kv.1 = (Sum.inl (n : Int) : Key))) = decide (n ∈ ks) := by
  induction ks with
  | nil => simp
  | cons a ks ih =>
    rw [List.map_cons, List.any_cons, ih, Bool.eq_iff_iff]
    rw [Bool.or_eq_true, decide_eq_true_iff, decide_eq_true_iff, decide_eq_true_iff, List.mem_cons]
    constructor
    · rintro (h | h)
      · left
        have : (a : Int) = (n : Int) := Sum.inl.inj h
        omega
      · exact .inr h
    · rintro (h | h)
      · left
        rw [h]
      · exact .inr h
theorem PL.put {kvs : List (Key × V)} {L : List Nat} (h : PL kvs L) (n : Nat) : PL (putK kvs (Sum.inl (n : Int)) (V.bl true)) (L ++ [n]) := by
  obtain ⟨ks, rfl, nd, hm, hl⟩ := h
  unfold putK
  rw [pl_any]
  by_cases hn : n ∈ ks
  · rw [decide_eq_true hn, if_pos rfl]
    refine ⟨ks, ?_, nd, fun i => ?_, by rw [List.length_append]; exact Nat.le_add_right_of_le hl⟩
    · rw [List.map_map]
      apply List.map_congr_left
      intro i _
      show (if (Sum.inl (i : Int) : Key) = Sum.inl (n : Int) then ((Sum.inl (i : Int) : Key), V.bl true) else (Sum.inl (i : Int), V.bl true)) = _
      split <;> rfl
    · rw [List.mem_append, hm i, List.mem_singleton]
      exact ⟨.inl, fun h => h.elim id fun e => by rw [e]; exact (hm n).mp hn⟩
  · rw [decide_eq_false hn, if_neg Bool.false_ne_true]
    refine ⟨ks ++ [n], by rw [List.map_append]; rfl, ?_, fun i => by rw [List.mem_append, List.mem_append, hm i], by rw [List.length_append, List.length_append]; exact Nat.add_le_add_right hl _⟩
    rw [List.nodup_append]
    refine ⟨nd, by simp, ?_⟩
    intro a ha b hb
    rw [List.mem_singleton.mp hb]
    intro e
    exact hn (e ▸ ha)
theorem PL.val {kvs : List (Key × V)} {L : List Nat} (h : PL kvs L) (n : Nat) : (valV kvs (Sum.inl (n : Int) : Key)).isSome = decide (n ∈ L) := by
  obtain ⟨ks, rfl, nd, hm, hl⟩ := h
  rw [← valV_any, pl_any, Bool.eq_iff_iff, decide_eq_true_iff, decide_eq_true_iff, hm n]
theorem n_i {r : Ru} (h : r.Ok) : 2 * (r.w : Int) + (r.k : Int) - 2 = (r.n : Int) := by
  have := h.w1; have := h.k1
  unfold Ru.n
  omega
theorem n_le {r : Ru} (h : r.Ok) : r.n ≤ 12 := by
  have := h.w5; have := h.k4
  unfold Ru.n
  omega
/-- len of a dict that is known -/
theorem call_lenF {X : Cx} : CallR X (.builtin "len") (fun xs H Q => ∃ a kvs, xs = [V.ref a] ∧ Rd H a (.dK kvs) ∧ Q (.int kvs.length) H) := by
  intro pins s σ H xs us Q I r h
  obtain ⟨a, kvs, rfl, ha, q⟩ := h
  obtain ⟨u, rfl, ru⟩ := vals1 r
  cases ru
  exact d_len I ha fun t s' I' => ⟨.int kvs.length, H, I', ⟨t, rfl⟩, q⟩
theorem pe_din {X : Cx} {i o : Expr} {ty td : TE} {pos : Pos} (hi : PE X i ty) (ho : PE X o td) (hu : X.A.units + 1 < cLine) (hm : behindInMarks .In o = false := by rfl) : PE X (.Compare i [.In] [o] pos) (tDIn ty td) := pe_cmp (pc_din hu hi ho) hm
/-- an attribute within a comprehension's block: the written part is named -/
theorem pe_fldK {X : Cx} {K : PySem.W.Frag} {e : Expr} {f : Str} {pos : Pos} {ta : TE} (he : PE X e ta) (hb : attributeBase e f X.env (eval e X.env) = eval e X.env) (hK : X.K = K) : PE X (.Attribute e f pos) (tFld K ta f) := hK ▸ pe_fld he hb
theorem dget_f {H : Hp} {a : Addr} {kvs : List (Key × V)} {k : Key} (e : Rd H a (.dK kvs)) : DGet H a (kV k) (valV kvs k) := .inl ⟨kvs, k, e, rfl, rfl⟩
section
variable {P : Program} {w : World} {K : PySem.W.Frag} {mg : Str → Option Value} {base : Heap}
/-! ### places_of -/
def spPlacesOf (C : Addr) : Sp := fun vs H Q _ => ∃ (p : Addr) (r : Ru) (t : List Bool), vs = [.ref p, .str (enc t)] ∧ r.Ok ∧ RAt C H p r ∧ t.length ≤ 300 ∧
  ∀ d od kvs H', Same H H' → H' d = some (.frz od (.dK kvs)) → PL kvs (placesL r t) → Q (.ref d) H'
theorem okPlacesOf (T : Txt K mg) : FnOk P w K mg base CX0 3 T.dPlacesOf.f T.dPlacesOf.fd ["rule", "text"] (spPlacesOf T.C) := by
  refine fok T.dPlacesOf.F scPlacesOf (fun vs H Q E h => ?_) (fun cdv A outer s H vs Q E hr h => ?_)
  · obtain ⟨p, r, t, rfl, _⟩ := h
    rfl
  · obtain ⟨p, r, t, rfl, ok, R, hl, q⟩ := h
    have hu := hu_of hr
    have GO : FnOk P w K mg base CX0 2 T.dOffsetOf.f T.dOffsetOf.fd ["self", "window"] (spOffsetOf T.C) := okOffsetOf T
    have GS : FnOk P w K mg base CX0 1 T.dSize.f T.dSize.fd ["self"] (spSize T.C) := okSize T
    obtain ⟨dx, tb, hp, ht⟩ := id R.ex
    refine ⟨_, pss_cons (ps_set (i := 2) scPlacesOf.nd rfl (.inl rfl) pe_dnewK)
      (pss_cons (ps_for PassesOwn.never rfl (pi_range1 (by rfl) T.n_range (pa_cons (pe_op op_add (pe_op op_sub (pe_callB call_len_str (by rfl) T.n_len PySem.boot_len (pa_cons (pv 1) pa_nil))
          (pe_prop (pv 0) T.cl T.prS GS hr (bSize _) .nil pass0 rfl)) pe_int) pa_nil)) (pg_name (i := 3) scPlacesOf.nd rfl (.inl rfl))
        (pss_one (ps_dput hu (pv 2) (pe_op op_add (pv 3) (pe_meth (pv 0) T.cl T.mOff GO hr (bOffsetOf _) .nil pass0 (pa_cons (pe_slice sl_str (pv 1) (po_some (pv 3)) (po_some (pe_op op_add (pv 3) (pe_prop (pv 0) T.cl T.prS GS hr (bSize _) .nil pass0 rfl)))) pa_nil)))
          pe_bl rfl)))
      (pss_one (ps_ret (pe_frz (pv 2))))), ?_⟩
    intro d nd
    have sm0 : Same H (upd H d (.dK [])) := same_new nd
    have hsz := size_le ok
    have hs1 : 1 ≤ r.size := by
      have := ok.w1; have := ok.k1
      unfold Ru.size; omega
    refine ⟨.str (enc t), rfl, enc t, rfl, (by rw [enc_len]; exact Nat.le_of_lt (small1000 (by omega))), .ref p, rfl, p, dx, _, rfl, sm0 _ _ hp, p, r, rfl, ok, R.mono sm0, _, _, rfl, rfl, _, _, rfl, rfl, _, rfl, ?_, ?_, ?_⟩
    · rw [enc_len]; omega
    · rw [enc_len]; omega
    have en : (((enc t).length : Int) - (r.size : Int) + 1).toNat = t.length + 1 - r.size := by
      rw [enc_len]; omega
    rw [en]
    refine for_range (lo := 0) (n := t.length + 1 - r.size) (fun i σ H' => ∃ kvs v, σ = [some (.ref p), some (.str (enc t)), some (.ref d), v] ∧ Same H H' ∧ H' d = some (.dK kvs) ∧ PL kvs ((placesL r t).take i)) ⟨[], none, rfl, sm0, upd_same, by rw [List.take_zero]; exact .nil⟩ ?_ ?_
    · rintro i σ H1 hi ⟨kvs, v, rfl, sm, hd, pl⟩
      have hp1 := sm _ _ hp
      have R1 := R.mono sm
      have hlen : ((t.drop i).take r.size).length = r.size := by
        rw [List.length_take, List.length_drop]; omega
      have hi0 : (0 : Int) + (i : Int) = (i : Int) := by omega
      refine ⟨.ref d, rfl, _, rfl, .ref p, rfl, p, dx, _, rfl, hp1, rf_no r tb, ?_⟩
      refine ⟨.str (enc t), rfl, _, rfl, 0 + (i : Int), rfl, _, rfl, .ref p, rfl, p, dx, _, rfl, hp1, p, r, rfl, ok, R1, _, _, rfl, rfl, 0 + (i : Int) + (r.size : Int), rfl, enc t, rfl, (by rw [enc_len]; exact Nat.le_of_lt (small1000 (by omega))), ?_⟩
      rw [cut_enc' i (i + r.size) hi0 (by omega), show i + r.size - i = r.size by omega]
      refine ⟨p, r, (t.drop i).take r.size, rfl, ok, R1, hlen, _, _, rfl, rfl, ?_⟩
      have el : (placesL r t)[i]? = some (i + off r ((t.drop i).take r.size)) := by
        unfold placesL
        rw [List.getElem?_map, List.getElem?_range hi]
        rfl
      have pl2 := pl.put (i + off r ((t.drop i).take r.size))
      have pln : (placesL r t).length ≤ 301 := by
        unfold placesL
        rw [List.length_map, List.length_range]; omega
      have hkl : kvs.length < sizeLine := by
        obtain ⟨ks, rfl, _, _, hk⟩ := pl
        rw [List.length_map]
        rw [List.length_take] at hk
        exact small1000 (by omega)
      have ek : V.int (0 + (i : Int) + (off r ((t.drop i).take r.size) : Int)) = kV (Sum.inl ((i + off r ((t.drop i).take r.size) : Nat) : Int)) := by
        show V.int _ = V.int _
        congr 1
        omega
      refine ⟨d, upd H1 d (.dK (putK kvs (Sum.inl ((i + off r ((t.drop i).take r.size) : Nat) : Int)) (.bl true))), rfl, ?_, ?_⟩
      · dsimp only
        rw [show V.int (0 + (i : Int) + (off r ((t.drop i).take r.size) : Int)) = kV (Sum.inl ((i + off r ((t.drop i).take r.size) : Nat) : Int)) from ek]
        exact DPut.k hd hkl
      · refine ⟨_, _, rfl, fun b o e => ?_, upd_same, ?_⟩
        · rw [upd_ne (ne_of_none e nd)]
          exact sm b o e
        · rw [List.take_add_one, el]
          exact pl2
    · rintro σ H1 ⟨kvs, v, rfl, sm, hd, pl⟩
      refine ⟨.ref d, rfl, d, kvs, rfl, hd, fun od => ?_⟩
      refine q d od kvs _ (fun b o e => ?_) upd_same ?_
      · rw [upd_ne (ne_of_none e nd)]
        exact sm b o e
      · rw [List.take_of_length_le (by unfold placesL; rw [List.length_map, List.length_range]; exact Nat.le_refl _)] at pl
        exact pl
/-! ### picks -/
def spPicks (C : Addr) : Sp := fun vs H Q _ => ∃ (p : Addr) (r : Ru) (t : List Bool), vs = [.ref p, .str (enc t)] ∧ r.Ok ∧ RAt C H p r ∧ t.length ≤ 60 ∧
  ∀ (a : Addr) (ns : List Int) H', Same H H' → H' a = some (.tup (ns.map V.int)) → (∀ n : Nat, (n : Int) ∈ ns ↔ n ∈ placesL r t) → Q (.ref a) H'
theorem okPicks (T : Txt K mg) : FnOk P w K mg base CX0 4 T.dPicks.f T.dPicks.fd ["rule", "text"] (spPicks T.C) := by
  refine fok T.dPicks.F scPicks (fun vs H Q E h => ?_) (fun cdv A outer s H vs Q E hr h => ?_)
  · obtain ⟨p, r, t, rfl, _⟩ := h
    rfl
  · obtain ⟨p, r, t, rfl, ok, R, hl, q⟩ := h
    have GN : FnOk P w K mg base CX0 3 T.dNeedLetters.f T.dNeedLetters.fd ["letters", "value"] spNeedLetters := okNeedLetters T
    have GP : FnOk P w K mg base CX0 3 T.dPlacesOf.f T.dPlacesOf.fd ["rule", "text"] (spPlacesOf T.C) := okPlacesOf T
    obtain ⟨dx, tb, hp, ht⟩ := id R.ex
    refine ⟨_, pss_cons (ps_expr (pe_call GN hr (by rfl) T.dNeedLetters.g T.dNeedLetters.F.kp (bNeedLetters _) .nil pass0 (pa_cons (pe_fld (pv 0) rfl) (pa_cons (pv 1) pa_nil))))
      (pss_one (ps_ret (pe_callTy call_tuple_of (by rfl) T.n_tuple (by decide +kernel) (pa_cons (pe_callB cr_sorted (by rfl) T.n_sorted (by decide +kernel) (pa_cons
        (pe_lc (own := [("place", 2)]) (g := gName 2) (tt := tYes) (by rfl) scPicks.nd (pi_keys (pe_call GP hr (by rfl) T.dPlacesOf.g T.dPlacesOf.F.kp (bPlacesOf _) .nil pass0 (pa_cons (pv 0) (pa_cons (pv 1) pa_nil))))
          (blkOk_by (own := [("place", 2)]) (N := ["rule", "text", "place"]) (sc := defScope sPicks) (by decide +kernel)) (fun _ _ _ _ _ => pg_name (i := 2) scPicks.nd rfl (Or.inl rfl)) (fun _ _ _ _ _ => pts_nil)
          (fun _ _ _ _ _ => pe_callTy call_int1 (by rfl) T.n_int (by decide +kernel) (pa_cons (pv 2) pa_nil))) pa_nil)) pa_nil)))), ?_⟩
    refine ⟨.ref p, rfl, p, T.C, dx, _, _, rfl, hp, T.cl, T.nL, rf_letters r tb, .str (enc t), rfl, t, rfl, fun H1 sm1 => ?_⟩
    refine ⟨.ref p, rfl, .str (enc t), rfl, p, r, t, rfl, ok, R.mono sm1, Nat.le_trans hl (by decide), fun d od kvs H2 sm2 hd pl => ?_⟩
    refine ⟨d, od, rfl, .inl ⟨kvs, hd, fun D nD => ?_⟩⟩
    obtain ⟨ks, rfl, nd, hm, hkl⟩ := pl
    have pln : (placesL r t).length ≤ 60 := by
      have := ok.w1; have := ok.k1
      unfold placesL Ru.size
      rw [List.length_map, List.length_range]; omega
    refine it_by (walk_keys (d := d) (o := od) (kvs := ks.map (fun i : Nat => ((Sum.inl (i : Int) : Key), V.bl true)))) (fun j H' => Same H2 H' ∧ H' D = some (.lst (((ks.take j).map fun i : Nat => (i : Int)).map V.int))) ⟨same_new nD, by rw [upd_same]; rfl⟩ (fun j H' _ p => p.1 _ _ hd) ?_ ?_
    · rintro j x H3 H4 hj ⟨sm3, hD⟩ ⟨rfl, k, v, hk, rfl⟩
      rw [List.getElem?_map] at hk
      cases hkj : ks[j]? with
      | none => rw [hkj] at hk; cases hk
      | some n =>
        rw [hkj] at hk
        obtain ⟨rfl, rfl⟩ := Prod.mk.inj (Option.some.inj hk)
        refine ⟨rfl, ?_⟩
        refine ⟨_, rfl, .inl ⟨(n : Int), rfl, _, hD, ?_, sm_upd sm3 nD, ?_⟩⟩
        · rw [List.length_map, List.length_map, List.length_take]
          exact small1000 (by omega)
        · rw [upd_same, List.take_add_one, hkj, List.map_append, List.map_append]
          rfl
    · rintro H3 ⟨sm3, hD⟩
      rw [List.length_map, List.take_length] at hD
      refine ⟨D, _, rfl, SqL.of hD, by rw [List.length_map]; omega, fun ns b perm ord nb => ?_⟩
      refine ⟨b, _, rfl, .inl ⟨SqL.of upd_same, fun c nc => ?_⟩⟩
      have sm : Same H H3 := (sm1.trans sm2).trans sm3
      refine q c ns _ (sm_upd (sm_upd sm (sm.free nb)) ?_) upd_same (fun n => ?_)
      · exact (sm_upd sm (sm.free nb)).free nc
      · rw [perm.mem_iff, List.mem_map, ← hm n]
        constructor
        · rintro ⟨m, hm1, hm2⟩
          have : m = n := by omega
          rw [← this]; exact hm1
        · intro hn
          exact ⟨n, hn, rfl⟩
/-! ### status -/
def stK (r : Ru) : List (Key × V) := (words r.n).map fun t => ((Sum.inr (enc t) : Key), V.bl (st r t))
def spStatus (C : Addr) : Sp := fun vs H Q _ => ∃ (p : Addr) (r : Ru), vs = [.ref p] ∧ r.Ok ∧ RAt C H p r ∧ ∀ d od H', Same H H' → H' d = some (.frz od (.dK (stK r))) → Q (.ref d) H'
theorem putK_texts {f : List Bool → V} {l : List (List Bool)} {t : List Bool} (h : t ∉ l) (v : V) : putK (l.map fun t => ((Sum.inr (enc t) : Key), f t)) (Sum.inr (enc t)) v = (l.map fun t => ((Sum.inr (enc t) : Key), f t)) ++ [(Sum.inr (enc t), v)] := by
  refine putK_new _ ?_
  induction l with
  | nil => rfl
  | cons a l ih =>
    rw [List.map_cons, valV_neg]
    · exact ih fun z => h (List.mem_cons_of_mem _ z)
    · intro e
      have : enc a = enc t := Sum.inr.inj e
      exact h (by rw [enc_inj this]; exact List.mem_cons_self)
theorem nodup_take_next {l : List (List Bool)} (nd : l.Nodup) {i : Nat} {t : List Bool} (h : l[i]? = some t) : t ∉ l.take i := by
  intro hm
  obtain ⟨j, hj⟩ := List.getElem?_of_mem hm
  have hji : j < i := by
    have := (List.getElem?_eq_some_iff.mp hj).1
    rw [List.length_take] at this
    omega
  rw [List.getElem?_take_of_lt hji] at hj
  have hi := (List.getElem?_eq_some_iff.mp h).1
  have e1 := (List.getElem?_eq_some_iff.mp h).2
  have hj1 := (List.getElem?_eq_some_iff.mp hj).1
  have e2 := (List.getElem?_eq_some_iff.mp hj).2
  have := (List.getElem_inj nd).mp (e2.trans e1.symm)
  omega
theorem okStatus (T : Txt K mg) : FnOk P w K mg base CX0 4 T.dStatus.f T.dStatus.fd ["rule"] (spStatus T.C) := by
  refine fok T.dStatus.F scStatus (fun vs H Q E h => ?_) (fun cdv A outer s H vs Q E hr h => ?_)
  · obtain ⟨p, r, rfl, _⟩ := h
    rfl
  · obtain ⟨p, r, rfl, ok, R, q⟩ := h
    have hu := hu_of hr
    have GT : FnOk P w K mg base CX0 2 T.dTextsOf.f T.dTextsOf.fd ["letters", "size"] spTextsOf := okTextsOf T
    have GP : FnOk P w K mg base CX0 3 T.dPlacesOf.f T.dPlacesOf.fd ["rule", "text"] (spPlacesOf T.C) := okPlacesOf T
    obtain ⟨dx, tb, hp, ht⟩ := id R.ex
    refine ⟨_, pss_cons (ps_set (i := 1) scStatus.nd rfl (.inl rfl) (pe_call GT (hr.mono (by decide)) (by rfl) T.dTextsOf.g T.dTextsOf.F.kp (bTextsOf _) .nil pass0 (pa_cons (pe_fld (pv 0) rfl)
        (pa_cons (pe_op op_sub (pe_op op_add (pe_op op_mul pe_int (pe_fld (pv 0) rfl)) (pe_fld (pv 0) rfl)) pe_int) pa_nil))))
      (pss_one (ps_ret (pe_frz (pe_dc (own := [("text", 2)]) (g := gName 2) (tt := tYes) (by rfl) scStatus.nd (pi_list (pv 1)) (blkOk_by (own := [("text", 2)]) (N := ["rule", "around", "text"]) (sc := defScope sStatus) (by decide +kernel))
        (fun _ _ _ _ _ => pg_name (i := 2) scStatus.nd rfl (Or.inl rfl)) (fun _ _ _ _ _ => pts_nil) (fun _ _ _ _ _ => pv 2)
        (fun _ _ _ _ _ => pe_din (pe_op op_sub (pe_fldK (K := K) (pv 0) rfl rfl) pe_int) (pe_call GP hr (by rfl) T.dPlacesOf.g T.dPlacesOf.F.kp (bPlacesOf _) .nil pass0 (pa_cons (pv 0) (pa_cons (pv 2) pa_nil))) hu))))), ?_⟩
    refine ⟨.ref p, rfl, p, T.C, dx, _, _, rfl, hp, T.cl, T.nL, rf_letters r tb, ?_⟩
    refine ⟨.ref p, rfl, p, T.C, dx, _, _, rfl, hp, T.cl, T.nW, rf_w r tb, _, _, rfl, rfl, .inl ⟨by decide, by decide⟩, ?_⟩
    refine ⟨.ref p, rfl, p, T.C, dx, _, _, rfl, hp, T.cl, T.nK, rf_k r tb, _, _, rfl, rfl, _, _, rfl, rfl, r.n, ?_, n_le ok, fun a H1 sm1 na ha => ?_⟩
    · show [V.int 2, .int (2 * (r.w : Int) + (r.k : Int) - 2)] = _
      rw [n_i ok]
    refine ⟨.ref a, rfl, a, rfl, ⟨_, SqL.of ha⟩, fun D nD => ?_⟩
    have R1 := R.mono sm1
    have hp1 := sm1 _ _ hp
    refine it_by (walk_list (K := K) (a := a) (xs := vt (words r.n))) (fun j H' => Same H1 H' ∧ H' D = some (.dK (((words r.n).take j).map fun t => ((Sum.inr (enc t) : Key), V.bl (st r t))))) ⟨same_new nD, by rw [upd_same]; rfl⟩ (fun j H' _ p => SqL.of (p.1 _ _ ha)) ?_ ?_
    · rintro j x H2 H3 hj ⟨sm2, hD⟩ ⟨rfl, hx⟩
      obtain ⟨t, htj, rfl⟩ := vt_get hx
      have htl : t.length = r.n := mem_words.mp (List.mem_of_getElem? htj)
      rw [vt_len, words_length] at hj
      refine ⟨rfl, ?_⟩
      have hp2 := sm2 _ _ hp1
      refine ⟨.str (enc t), rfl, .ref p, rfl, p, T.C, dx, _, _, rfl, hp2, T.cl, T.nW, rf_w r tb, _, _, rfl, rfl, ?_⟩
      refine ⟨.ref p, rfl, .str (enc t), rfl, p, r, t, rfl, ok, R1.mono sm2, (by rw [htl]; exact Nat.le_trans (n_le ok) (by decide)), fun d od kvs H4 sm4 hd pl => ?_⟩
      have ew : V.int ((r.w : Int) - 1) = kV (Sum.inl ((r.w - 1 : Nat) : Int)) := by
        have := ok.w1
        show V.int _ = V.int _
        congr 1
        omega
      refine ⟨d, valV kvs (Sum.inl ((r.w - 1 : Nat) : Int) : Key), rfl, ?_, ?_⟩
      · dsimp only
        rw [ew]
        exact dget_f (.inr ⟨od, hd⟩)
      · rw [pl.val]
        have hD4 := sm4 _ _ hD
        refine ⟨_, Sum.inr (enc t), rfl, hD4, ?_, sm_upd (sm2.trans sm4) nD, ?_⟩
        · rw [List.length_map, List.length_take, words_length]
          have := pow_le_4096 (n_le ok)
          exact small4096 (by omega)
        · rw [upd_same, putK_texts (nodup_take_next (nodup_words _) htj), List.take_add_one, htj, List.map_append]
          rfl
    · rintro H2 ⟨sm2, hD⟩
      rw [vt_len, List.take_length] at hD
      refine ⟨D, _, rfl, hD, fun od => ?_⟩
      have sm : Same H H2 := sm1.trans sm2
      refine q D od _ (fun b o e => ?_) upd_same
      rw [upd_ne (ne_of_none e (sm1.free nD))]
      exact sm b o e
end
end Wp
/-! turned; the module comparing. -/
namespace Wp
open PySem PySem.Spec PyProof.Rows L2
theorem texts_val {f : List Bool → V} (l : List (List Bool)) (u : List Bool) (h : u ∈ l) : valV (l.map fun t => ((Sum.inr (enc t) : Key), f t)) (Sum.inr (enc u)) = some (f u) := by
  induction l with
  | nil => cases h
  | cons a l ih =>
    rw [List.map_cons]
    by_cases e : a = u
    · subst e
      rw [valV_pos rfl]
    · rw [valV_neg (fun z => e (enc_inj (Sum.inr.inj z)))]
      exact ih ((List.mem_cons.mp h).resolve_left fun z => e z.symm)
theorem stK_val {r : Ru} {u : List Bool} (h : u.length = r.n) : valV (stK r) (Sum.inr (enc u)) = some (.bl (st r u)) := texts_val (f := fun t => V.bl (st r t)) _ u (mem_words.mpr h)
theorem paired_snoc {α β : Type} {F : α → β → Prop} {a : α} {b : β} (h : F a b) : ∀ {l : List α} {m : List β}, Paired F l m → Paired F (l ++ [a]) (m ++ [b])
  | _, _, .nil => .cons h .nil
  | _, _, .cons r t => .cons r (paired_snoc h t)
/-- what two rules tell unlike, as it stands at L -/
def UAt (H : Hp) (L : Addr) (us : List (List Bool × Bool × Bool)) : Prop := ∃ as : List Addr, H L = some (.lst (as.map V.ref)) ∧
  Paired (fun (a : Addr) (u : List Bool × Bool × Bool) => ∃ b, H a = some (.tup [.str (enc u.1), .ref b]) ∧ H b = some (.tup [.bl u.2.1, .bl u.2.2])) as us
theorem UAt.mono {H H' : Hp} {L : Addr} {us : List (List Bool × Bool × Bool)} (h : UAt H L us) (s : Same H H') : UAt H' L us := by
  obtain ⟨as, h1, h2⟩ := h
  exact ⟨as, s _ _ h1, Paired.mapP h2 fun a u ⟨b, e1, e2⟩ => ⟨b, s _ _ e1, s _ _ e2⟩⟩
theorem UAt.len {H : Hp} {L : Addr} {us : List (List Bool × Bool × Bool)} (h : UAt H L us) : ∃ as : List Addr, H L = some (.lst (as.map V.ref)) ∧ as.length = us.length := by
  obtain ⟨as, h1, h2⟩ := h
  exact ⟨as, h1, Paired.length h2⟩
theorem UAt.snoc {H : Hp} {L a b : Addr} {us : List (List Bool × Bool × Bool)} {as : List Addr} {u : List Bool × Bool × Bool} (h1 : H L = some (.lst (as.map V.ref)))
    (h2 : Paired (fun (a : Addr) (u : List Bool × Bool × Bool) => ∃ b, H a = some (.tup [.str (enc u.1), .ref b]) ∧ H b = some (.tup [.bl u.2.1, .bl u.2.2])) as us)
    (ha : H a = some (.tup [.str (enc u.1), .ref b])) (hb : H b = some (.tup [.bl u.2.1, .bl u.2.2])) : UAt (upd H L (.lst (as.map V.ref ++ [V.ref a]))) L (us ++ [u]) := by
  have ne : ∀ c xs, H c = some (.tup xs) → upd H L (.lst (as.map V.ref ++ [V.ref a])) c = some (.tup xs) := fun c xs e => by
    rw [upd_ne (ne_of e h1 (by intro z; cases z))]
    exact e
  refine ⟨as ++ [a], by rw [upd_same, List.map_append]; rfl, paired_snoc ⟨b, ne _ _ ha, ne _ _ hb⟩ (Paired.mapP h2 fun c v ⟨d, e1, e2⟩ => ⟨d, ne _ _ e1, ne _ _ e2⟩)⟩
theorem max_i (a b : Nat) : (if (b : Int) > (a : Int) then (b : Int) else (a : Int)) = ((max a b : Nat) : Int) := by
  by_cases h : (b : Int) > (a : Int)
  · rw [if_pos h, Nat.max_eq_right (by omega)]
  · rw [if_neg h, Nat.max_eq_left (by omega)]
theorem tl_le {p q : Ru} (hp : p.Ok) (hq : q.Ok) : tl p q ≤ 12 := by
  have := hp.w5; have := hp.k4; have := hq.w5; have := hq.k4; have := hp.w1; have := hp.k1
  unfold tl ah bh
  omega
section
variable {P : Program} {w : World} {K : PySem.W.Frag} {mg : Str → Option Value} {base : Heap}
/-! ### turned -/
def spTurned (C : Addr) : Sp := fun vs H Q _ => ∃ (p : Addr) (r : Ru), vs = [.ref p] ∧ r.Ok ∧ RAt C H p r ∧ ∀ p' H', Same H H' → RAt C H' p' (tn r) → Q (.ref p') H'
theorem okTurned (T : Txt K mg) : FnOk P w K mg base CX0 5 T.dTurned.f T.dTurned.fd ["self"] (spTurned T.C) := by
  refine fok T.dTurned.F scTurned (fun vs H Q E h => ?_) (fun cdv A outer s H vs Q E hr h => ?_)
  · obtain ⟨p, r, rfl, _⟩ := h
    rfl
  · obtain ⟨p, r, rfl, ok, R, q⟩ := h
    have GT : FnOk P w K mg base CX0 2 T.dTextsOf.f T.dTextsOf.fd ["letters", "size"] spTextsOf := okTextsOf T
    have GO : FnOk P w K mg base CX0 2 T.dOffsetOf.f T.dOffsetOf.fd ["self", "window"] (spOffsetOf T.C) := okOffsetOf T
    have GS : FnOk P w K mg base CX0 1 T.dSize.f T.dSize.fd ["self"] (spSize T.C) := okSize T
    have GI : FnOk P w K mg base CX0 3 T.dInit.f T.dInit.fd ["self", "letters", "w", "k", "table"] (spInit T.C) := okInit T
    have hr2 : Room 2 _ := hr.mono (by decide)
    obtain ⟨dx, tb, hp, ht⟩ := id R.ex
    refine ⟨_, pss_cons (ps_set (i := 1) scTurned.nd rfl (.inl rfl) (pe_call GT hr2 (by rfl) T.dTextsOf.g T.dTextsOf.F.kp (bTextsOf _) .nil pass0 (pa_cons (pe_fld (pv 0) rfl) (pa_cons (pe_prop (pv 0) T.cl T.prS GS hr2 (bSize _) .nil pass0 rfl) pa_nil))))
      (pss_one (ps_ret (pe_make T.mkC GI hr (by rfl) T.gC (bInit _) .nil pass0 (pa_cons (pe_fld (pv 0) rfl) (pa_cons (pe_fld (pv 0) rfl) (pa_cons (pe_fld (pv 0) rfl) (pa_cons
        (pe_lc (own := [("window", 2)]) (g := gName 2) (tt := tYes) (by rfl) scTurned.nd (pi_list (pv 1)) (blkOk_by (own := [("window", 2)]) (N := ["self", "windows", "window"]) (sc := defScope sTurned) (by decide +kernel))
          (fun _ _ _ _ _ => pg_name (i := 2) scTurned.nd rfl (Or.inl rfl)) (fun _ _ _ _ _ => pts_nil)
          (fun _ _ _ _ _ => pe_op op_sub (pe_op op_sub (pe_fldK (K := K) (pv 0) rfl rfl) pe_int) (pe_meth (pv 0) T.cl T.mOff GO hr2 (bOffsetOf _) .nil pass0 (pa_cons (pe_revS (pv 2)) pa_nil)))) pa_nil))))))), ?_⟩
    refine ⟨.ref p, rfl, p, T.C, dx, _, _, rfl, hp, T.cl, T.nL, rf_letters r tb, .ref p, rfl, p, dx, _, rfl, hp, p, r, rfl, ok, R, ?_⟩
    refine ⟨r.size, rfl, Nat.le_trans (size_le ok) (by decide), fun a H1 sm1 na ha => ?_⟩
    have hp1 := sm1 _ _ hp
    refine ⟨.ref p, rfl, p, T.C, dx, _, _, rfl, hp1, T.cl, T.nL, rf_letters r tb, .ref p, rfl, p, T.C, dx, _, _, rfl, hp1, T.cl, T.nW, rf_w r tb, .ref p, rfl, p, T.C, dx, _, _, rfl, hp1, T.cl, T.nK, rf_k r tb, ?_⟩
    refine ⟨.ref a, rfl, a, rfl, ⟨_, SqL.of ha⟩, fun D nD => ?_⟩
    refine it_by (walk_list (K := K) (a := a) (xs := vt (words r.size))) (fun j H' => Same H1 H' ∧ H' D = some (.lst (vn (((words r.size).take j).map fun t => r.w - 1 - off r t.reverse)))) ⟨same_new nD, by rw [upd_same]; rfl⟩ (fun j H' _ p => SqL.of (p.1 _ _ ha)) ?_ ?_
    · rintro j x H2 H3 hj ⟨sm2, hD⟩ ⟨rfl, hx⟩
      obtain ⟨t, htj, rfl⟩ := vt_get hx
      have htl : t.length = r.size := mem_words.mp (List.mem_of_getElem? htj)
      rw [vt_len, words_length] at hj
      have h256 : 2 ^ r.size ≤ 2 ^ 8 := Nat.pow_le_pow_right (by decide) (size_le ok)
      have hp2 := sm2 _ _ hp1
      refine ⟨rfl, ?_⟩
      refine ⟨.ref p, rfl, p, T.C, dx, _, _, rfl, hp2, T.cl, T.nW, rf_w r tb, _, _, rfl, rfl, .ref p, rfl, p, dx, _, rfl, hp2, rf_no r tb, ?_⟩
      refine ⟨.str (enc t), rfl, t, rfl, (by rw [htl]; exact Nat.le_trans (size_le ok) (by decide)), p, r, t.reverse, rfl, ok, (R.mono sm1).mono sm2, (by rw [List.length_reverse]; exact htl), ?_⟩
      refine ⟨_, _, rfl, rfl, _, hD, ?_, sm_upd sm2 nD, ?_⟩
      · rw [vn_len, List.length_map, List.length_take, words_length]
        exact small1000 (by omega)
      · have ho := off_lt ok t.reverse
        have e : (r.w : Int) - 1 - (off r t.reverse : Int) = ((r.w - 1 - off r t.reverse : Nat) : Int) := by omega
        dsimp only
        rw [upd_same, e, List.take_add_one, htj, List.map_append]
        unfold vn
        rw [List.map_append]
        rfl
    · rintro H2 ⟨sm2, hD⟩
      rw [vt_len, List.take_length] at hD
      intro x dx' nx ndx ne
      have sn : Same H2 (upd (upd H2 dx' (.own x)) x (.ins T.C dx' [])) := fun b o e => by
        rw [upd_ne (ne_of_none e nx), upd_ne (ne_of_none e ndx)]
        exact e
      refine ⟨x, dx', D, tn r, rfl, tn_ok ok, upd_same, sn _ _ hD, fun H4 kp R4 => ⟨rfl, ?_⟩⟩
      refine q x H4 (fun b o e => ?_) R4
      have e2 := sm2 _ _ (sm1 _ _ e)
      exact kp b o (ne_of_none e2 nx) (sn _ _ e2)
/-! ### sides, around -/
def spSides (C : Addr) : Sp := fun vs H Q _ => ∃ (pa qa : Addr) (p q : Ru), vs = [.ref pa, .ref qa] ∧ p.Ok ∧ q.Ok ∧ RAt C H pa p ∧ RAt C H qa q ∧ ∀ a H', Same H H' → H' a = some (.tup [.int (ah p q : Int), .int (bh p q : Int)]) → Q (.ref a) H'
theorem okSides (T : Txt K mg) : FnOk P w K mg base CX0 1 T.dSides.f T.dSides.fd ["p", "q"] (spSides T.C) := by
  refine fok T.dSides.F scSides (fun vs H Q E h => ?_) (fun cdv A outer s H vs Q E hr h => ?_)
  · obtain ⟨pa, qa, p, q, rfl, _⟩ := h
    rfl
  · obtain ⟨pa, qa, p, q, rfl, op, oq, Rp, Rq, k⟩ := h
    obtain ⟨dx, tb, hp, _⟩ := Rp.ex
    obtain ⟨dy, tc, hq, _⟩ := Rq.ex
    refine ⟨_, pss_one (ps_ret (pe_tup (pa_cons (pe_op op_sub (pe_callB (call_max2 rfl) (by rfl) T.n_max (by decide +kernel) (pa_cons (pe_fld (pv 0) rfl) (pa_cons (pe_fld (pv 1) rfl) pa_nil))) pe_int)
      (pa_cons (pe_op op_sub (pe_callB (call_max2 rfl) (by rfl) T.n_max (by decide +kernel) (pa_cons (pe_op op_add (pe_fld (pv 0) rfl) (pe_fld (pv 0) rfl)) (pa_cons (pe_op op_add (pe_fld (pv 1) rfl) (pe_fld (pv 1) rfl)) pa_nil))) pe_int) pa_nil)))), ?_⟩
    refine ⟨.ref pa, rfl, pa, T.C, dx, _, _, rfl, hp, T.cl, T.nW, rf_w p tb, .ref qa, rfl, qa, T.C, dy, _, _, rfl, hq, T.cl, T.nW, rf_w q tc, _, _, rfl, _, _, rfl, rfl, ?_⟩
    refine ⟨.ref pa, rfl, pa, T.C, dx, _, _, rfl, hp, T.cl, T.nW, rf_w p tb, .ref pa, rfl, pa, T.C, dx, _, _, rfl, hp, T.cl, T.nK, rf_k p tb, _, _, rfl, rfl, ?_⟩
    refine ⟨.ref qa, rfl, qa, T.C, dy, _, _, rfl, hq, T.cl, T.nW, rf_w q tc, .ref qa, rfl, qa, T.C, dy, _, _, rfl, hq, T.cl, T.nK, rf_k q tc, _, _, rfl, rfl, _, _, rfl, _, _, rfl, rfl, (by show 2 ≤ sizeLine; decide), fun a na => ?_⟩
    have e1 : (if (q.w : Int) > (p.w : Int) then (q.w : Int) else (p.w : Int)) - 1 = (ah p q : Int) := by
      have := op.w1
      rw [max_i]
      unfold ah
      omega
    have e2 : (if (q.w : Int) + (q.k : Int) > (p.w : Int) + (p.k : Int) then (q.w : Int) + (q.k : Int) else (p.w : Int) + (p.k : Int)) - 2 = (bh p q : Int) := by
      have := op.w1; have := op.k1
      rw [show (q.w : Int) + (q.k : Int) = ((q.w + q.k : Nat) : Int) by omega, show (p.w : Int) + (p.k : Int) = ((p.w + p.k : Nat) : Int) by omega, max_i]
      unfold bh
      omega
    dsimp only
    rw [e1, e2]
    exact k a _ (same_new na) upd_same
def spAround (C : Addr) : Sp := fun vs H Q _ => ∃ (pa : Addr) (r : Ru) (t : List Bool) (a : Nat), vs = [.ref pa, .str (enc t), .int (a : Int)] ∧ r.Ok ∧ RAt C H pa r ∧ Fits r a t.length ∧ t.length ≤ 1000 ∧ Q (.str (enc (arn r t a))) H
theorem okAround (T : Txt K mg) : FnOk P w K mg base CX0 1 T.dAround.f T.dAround.fd ["rule", "text", "place"] (spAround T.C) := by
  refine fok T.dAround.F scAround (fun vs H Q E h => ?_) (fun cdv A outer s H vs Q E hr h => ?_)
  · obtain ⟨pa, r, t, a, rfl, _⟩ := h
    rfl
  · obtain ⟨pa, r, t, a, rfl, ok, R, f, hl, k⟩ := h
    obtain ⟨dx, tb, hp, _⟩ := R.ex
    refine ⟨_, pss_one (ps_ret (pe_slice sl_str (pv 1) (po_some (pe_op op_add (pe_op op_sub (pv 2) (pe_fld (pv 0) rfl)) pe_int)) (po_some (pe_op op_sub (pe_op op_add (pe_op op_add (pv 2) (pe_fld (pv 0) rfl)) (pe_fld (pv 0) rfl)) pe_int)))), ?_⟩
    refine ⟨.str (enc t), rfl, _, rfl, .ref pa, rfl, pa, T.C, dx, _, _, rfl, hp, T.cl, T.nW, rf_w r tb, _, _, rfl, rfl, _, _, rfl, rfl, _, rfl, ?_⟩
    refine ⟨_, rfl, .ref pa, rfl, pa, T.C, dx, _, _, rfl, hp, T.cl, T.nW, rf_w r tb, _, _, rfl, rfl, .ref pa, rfl, pa, T.C, dx, _, _, rfl, hp, T.cl, T.nK, rf_k r tb, _, _, rfl, rfl, _, _, rfl, rfl, _, rfl, ?_⟩
    refine ⟨enc t, rfl, (by rw [enc_len]; exact Nat.le_of_lt (small1000 hl)), ?_⟩
    have h1 := f.ahead; have h2 := f.w1; have h3 := f.k1
    rw [cut_enc' (a - (r.w - 1)) (a + r.w + r.k - 1) (by omega) (by omega)]
    have e : (t.drop (a - (r.w - 1))).take (a + r.w + r.k - 1 - (a - (r.w - 1))) = arn r t a := by
      unfold arn Ru.n
      congr 1
      omega
    rw [e]
    exact k
/-! ### unlike_texts -/
def spUnlike (C : Addr) : Sp := fun vs H Q _ => ∃ (pa qa : Addr) (p q : Ru), vs = [.ref pa, .ref qa] ∧ p.Ok ∧ q.Ok ∧ RAt C H pa p ∧ RAt C H qa q ∧ ∀ L H', Same H H' → UAt H' L (unl p q) → Q (.ref L) H'
theorem okUnlike (T : Txt K mg) : FnOk P w K mg base CX0 5 T.dUnlike.f T.dUnlike.fd ["p", "q"] (spUnlike T.C) := by
  refine fok T.dUnlike.F scUnlike (fun vs H Q E h => ?_) (fun cdv A outer s H vs Q E hr h => ?_)
  · obtain ⟨pa, qa, p, q, rfl, _⟩ := h
    rfl
  · obtain ⟨pa, qa, p, q, rfl, op, oq, Rp, Rq, k⟩ := h
    have hu := hu_of hr
    have GSi : FnOk P w K mg base CX0 1 T.dSides.f T.dSides.fd ["p", "q"] (spSides T.C) := okSides T
    have GA : FnOk P w K mg base CX0 1 T.dAround.f T.dAround.fd ["rule", "text", "place"] (spAround T.C) := okAround T
    have GSt : FnOk P w K mg base CX0 4 T.dStatus.f T.dStatus.fd ["rule"] (spStatus T.C) := okStatus T
    have GT : FnOk P w K mg base CX0 2 T.dTextsOf.f T.dTextsOf.fd ["letters", "size"] spTextsOf := okTextsOf T
    have hr1 : Room 1 _ := hr.mono (by decide)
    have hr2 : Room 2 _ := hr.mono (by decide)
    refine ⟨_, pss_cons (ps_asg (pe_call GSi hr1 (by rfl) T.dSides.g T.dSides.F.kp (bSides _) .nil pass0 (pa_cons (pv 0) (pa_cons (pv 1) pa_nil)))
        (pg_tup rfl (pgs_cons (pg_name (i := 2) scUnlike.nd rfl (.inl rfl)) (pgs_cons (pg_name (i := 3) scUnlike.nd rfl (.inl rfl)) pgs_nil))))
      (pss_cons (ps_par (i := 4) (j := 5) rfl scUnlike.nd rfl rfl (by decide) rfl rfl (pa_cons (pe_call GSt hr (by rfl) T.dStatus.g T.dStatus.F.kp (bStatus _) .nil pass0 (pa_cons (pv 0) pa_nil))
        (pa_cons (pe_call GSt hr (by rfl) T.dStatus.g T.dStatus.F.kp (bStatus _) .nil pass0 (pa_cons (pv 1) pa_nil)) pa_nil)) (by rfl))
      (pss_cons (ps_set (i := 6) scUnlike.nd rfl (.inl rfl) (pe_lst pa_nil))
      (pss_cons (ps_for PassesOwn.never rfl (pi_list (pe_call GT hr2 (by rfl) T.dTextsOf.g T.dTextsOf.F.kp (bTextsOf _) .nil pass0 (pa_cons (pe_fld (pv 0) rfl) (pa_cons (pe_op op_add (pe_op op_add (pv 2) pe_int) (pv 3)) pa_nil)))) (pg_name (i := 7) scUnlike.nd rfl (.inl rfl))
        (pss_cons (ps_set (i := 8) scUnlike.nd rfl (.inl rfl) (pe_tup (pa_cons (pe_dget hu (pv 4) (pe_call GA hr1 (by rfl) T.dAround.g T.dAround.F.kp (bAround _) .nil pass0 (pa_cons (pv 0) (pa_cons (pv 7) (pa_cons (pv 2) pa_nil)))) (fun _ _ => rfl))
          (pa_cons (pe_dget hu (pv 5) (pe_call GA hr1 (by rfl) T.dAround.g T.dAround.F.kp (bAround _) .nil pass0 (pa_cons (pv 1) (pa_cons (pv 7) (pa_cons (pv 2) pa_nil)))) (fun _ _ => rfl)) pa_nil))))
        (pss_one (ps_if (pt_cmpR op_ne (pe_ix ix_tup (pv 8) pe_int (fun _ _ => rfl)) (pe_ix ix_tup (pv 8) pe_int (fun _ _ => rfl)) (nomark _))
          (pss_one (ps_expr (pe_bm PySem.F.plainAttrs_list PySem.F.slot_list_append PySem.F.type_list_append mt_append (pv 6) (pa_cons (pe_tup (pa_cons (pv 7) (pa_cons (pv 8) pa_nil))) pa_nil)))) pss_nil))))
      (pss_one (ps_ret (pv 6)))))), ?_⟩
    refine ⟨.ref pa, rfl, .ref qa, rfl, pa, qa, p, q, rfl, op, oq, Rp, Rq, fun S H1 sm1 hS => ?_⟩
    refine ⟨S, _, rfl, SqT.of hS, rfl, _, _, rfl, _, _, rfl, rfl, ?_⟩
    refine ⟨.ref pa, rfl, pa, p, rfl, op, Rp.mono sm1, fun d1 od1 H2 sm2 hd1 => ?_⟩
    have sm12 := sm1.trans sm2
    refine ⟨.ref qa, rfl, qa, q, rfl, oq, Rq.mono sm12, fun d2 od2 H3 sm3 hd2 => ?_⟩
    have sm13 := sm12.trans sm3
    refine ⟨_, _, rfl, ?_⟩
    refine ⟨Nat.zero_le _, fun L nL => ?_⟩
    have nL0 : H L = none := sm13.free nL
    have sm14 : Same H (upd H3 L (.lst [])) := sm_upd sm13 nL0
    obtain ⟨dx, tb, hp, _⟩ := id Rp.ex
    have hp4 := sm14 _ _ hp
    refine ⟨.ref pa, rfl, pa, T.C, dx, _, _, rfl, hp4, T.cl, T.nL, rf_letters p tb, _, rfl, _, _, rfl, rfl, _, rfl, _, _, rfl, rfl, tl p q, ?_, tl_le op oq, fun F H5 sm5 nF hF => ?_⟩
    · show [V.int 2, .int ((ah p q : Int) + 1 + (bh p q : Int))] = [.int 2, .int (tl p q : Int)]
      unfold tl
      congr 3
    have hL5 : H5 L = some (.lst []) := sm5 _ _ upd_same
    have hd1' : (upd H3 L (.lst [])) d1 = some (.frz od1 (.dK (stK p))) := (sm_upd (Same.refl H3) nL) _ _ (sm3 _ _ hd1)
    have hd2' : (upd H3 L (.lst [])) d2 = some (.frz od2 (.dK (stK q))) := (sm_upd (Same.refl H3) nL) _ _ hd2
    -- what stood ahead of the loop, but L
    refine ⟨F, rfl, ⟨_, SqL.of hF⟩, ?_⟩
    refine for_it (walk_list (K := K) (a := F) (xs := vt (words (tl p q)))) (fun i σ H' => ∃ v x, σ = [some (.ref pa), some (.ref qa), some (.int (ah p q : Int)), some (.int (bh p q : Int)), some (.ref d1), some (.ref d2), some (.ref L), v, x] ∧
        (∀ b o, b ≠ L → H5 b = some o → H' b = some o) ∧ UAt H' L ((((words (tl p q)).take i).filter fun t => told p t (ah p q) != told q t (ah p q)).map fun t => (t, told p t (ah p q), told q t (ah p q))))
      ⟨none, none, rfl, fun _ _ _ e => e, [], hL5, .nil⟩ (fun i σ H' _ ⟨_, _, _, kp, _⟩ => SqL.of (kp _ _ (ne_of hF hL5 (by
        intro z
        have := HO.lst.inj z
        have h2 := congrArg List.length this
        rw [vt_len, words_length] at h2
        exact absurd h2 (Nat.ne_of_gt (Nat.pow_pos (by decide))))) hF)) ?_ ?_
    · rintro i x σ H6 H7 hi ⟨v0, x0, rfl, kp, U⟩ ⟨rfl, hx⟩
      obtain ⟨t, hti, rfl⟩ := vt_get hx
      have htl : t.length = tl p q := mem_words.mp (List.mem_of_getElem? hti)
      have n1 : pa ≠ L := ne_of_none hp nL0
      have nq : qa ≠ L := by
        obtain ⟨_, _, hq, _⟩ := Rq.ex
        exact ne_of_none hq nL0
      have keepH : ∀ b o, H b = some o → H7 b = some o := fun b o e => kp b o (ne_of_none e nL0) (sm5 _ _ (sm14 _ _ e))
      have Rp7 : RAt T.C H7 pa p := Rp.mono keepH
      have Rq7 : RAt T.C H7 qa q := Rq.mono keepH
      have fp := fits_left (q := q) op
      have fq := fits_right (p := p) oq
      rw [← htl] at fp fq
      have nd1 : d1 ≠ L := ne_of_none (sm3 _ _ hd1) nL
      have nd2 : d2 ≠ L := ne_of_none hd2 nL
      have hd17 : H7 d1 = some (.frz od1 (.dK (stK p))) := kp _ _ nd1 (sm5 _ _ hd1')
      have hd27 : H7 d2 = some (.frz od2 (.dK (stK q))) := kp _ _ nd2 (sm5 _ _ hd2')
      have l1000 : t.length ≤ 1000 := by rw [htl]; exact Nat.le_trans (tl_le op oq) (by decide)
      have g1 := dget_f (H := H7) (a := d1) (kvs := stK p) (k := Sum.inr (enc (arn p t (ah p q)))) (.inr ⟨od1, hd17⟩)
      rw [stK_val (arn_length fp)] at g1
      have g2 := dget_f (H := H7) (a := d2) (kvs := stK q) (k := Sum.inr (enc (arn q t (ah p q)))) (.inr ⟨od2, hd27⟩)
      rw [stK_val (arn_length fq)] at g2
      refine ⟨.ref d1, rfl, .ref pa, rfl, .str (enc t), rfl, .int (ah p q : Int), rfl, pa, p, t, ah p q, rfl, op, Rp7, fp, l1000, d1, _, rfl, g1, ?_⟩
      refine ⟨.ref d2, rfl, .ref qa, rfl, .str (enc t), rfl, .int (ah p q : Int), rfl, qa, q, t, ah p q, rfl, oq, Rq7, fq, l1000, d2, _, rfl, g2, (by show 2 ≤ sizeLine; decide), fun B nB => ?_⟩
      have ht8 : (upd H7 B (.tup [.bl (told p t (ah p q)), .bl (told q t (ah p q))])) B = some (.tup [.bl (told p t (ah p q)), .bl (told q t (ah p q))]) := upd_same
      have sm8 : Same H7 (upd H7 B (.tup [.bl (told p t (ah p q)), .bl (told q t (ah p q))])) := same_new nB
      refine ⟨.ref B, rfl, B, _, 0, .bl (told p t (ah p q)), rfl, rfl, SqT.of ht8, atI_nat (j := 0) rfl, .ref B, rfl, B, _, 1, .bl (told q t (ah p q)), rfl, rfl, SqT.of ht8, atI_nat (j := 1) rfl, rfl, _, rfl, ?_⟩
      rw [dec_bl]
      have nB0 : ∀ b o, H7 b = some o → b ≠ B := fun b o e => ne_of_none e nB
      have hL7 : ∃ l, H7 L = some (.lst l) := by
        obtain ⟨as, h1, _⟩ := U
        exact ⟨_, h1⟩
      obtain ⟨l7, hL7⟩ := hL7
      have nLB : L ≠ B := nB0 _ _ hL7
      cases hne : (told p t (ah p q) != told q t (ah p q)) with
      | false =>
        have hne2 : (!(told p t (ah p q) == told q t (ah p q))) = false := hne
        rw [hne2]
        refine iteF ?_
        refine ⟨_, _, rfl, fun b o nb e => ?_, ?_⟩
        · exact sm8 _ _ (kp b o nb e)
        · rw [List.take_add_one, hti, List.filter_append, List.map_append]
          have e0 : ([t].filter fun t => told p t (ah p q) != told q t (ah p q)) = [] := by rw [List.filter_cons, hne]; rfl
          show UAt _ L (_ ++ (([t].filter fun t => told p t (ah p q) != told q t (ah p q)).map fun t => (t, told p t (ah p q), told q t (ah p q))))
          rw [e0]
          show UAt _ L (_ ++ [])
          rw [List.append_nil]
          exact U.mono sm8
      | true =>
        have hne2 : (!(told p t (ah p q) == told q t (ah p q))) = true := hne
        rw [hne2]
        refine iteT ?_
        refine ⟨.ref L, rfl, .inl ⟨rfl, _, SqL.of (sm8 _ _ hL7)⟩, .str (enc t), rfl, .ref B, rfl, (by show 2 ≤ sizeLine; decide), fun A1 nA => ?_⟩
        have sm9 : Same H7 (upd (upd H7 B (.tup [.bl (told p t (ah p q)), .bl (told q t (ah p q))])) A1 (.tup [.str (enc t), .ref B])) := sm8.trans (same_new nA)
        obtain ⟨as, hLa, hPa⟩ := U.mono sm9
        refine ⟨L, _, _, rfl, rfl, hLa, ?_, ?_⟩
        · have hl := Paired.length hPa
          rw [List.length_map] at hl
          have h1 := List.length_filter_le (fun t => told p t (ah p q) != told q t (ah p q)) ((words (tl p q)).take i)
          rw [List.length_take, words_length] at h1
          have h2 := pow_le_4096 (tl_le op oq)
          rw [List.length_map]
          exact small4096 (by omega)
        · have nLA : L ≠ A1 := ne_of_none (sm8 _ _ hL7) nA
          refine ⟨_, _, rfl, fun b o nb e => ?_, ?_⟩
          · rw [upd_ne nb]
            exact sm9 _ _ (kp b o nb e)
          · rw [List.take_add_one, hti, List.filter_append, List.map_append]
            have e1 : ([t].filter fun t => told p t (ah p q) != told q t (ah p q)) = [t] := by rw [List.filter_cons, hne]; rfl
            show UAt _ L (_ ++ (([t].filter fun t => told p t (ah p q) != told q t (ah p q)).map fun t => (t, told p t (ah p q), told q t (ah p q))))
            rw [e1]
            exact UAt.snoc (u := (t, told p t (ah p q), told q t (ah p q))) (b := B) hLa hPa upd_same ((same_new nA) _ _ ht8)
    · rintro σ H6 ⟨v0, x0, rfl, kp, U⟩
      refine ⟨.ref L, rfl, ?_⟩
      rw [vt_len, List.take_length] at U
      exact k L H6 (fun b o e => kp b o (ne_of_none e nL0) (sm5 _ _ (sm14 _ _ e))) U
end
end Wp
/-! parting, alike, no_more; even_share, share, has_piece, standings. -/
namespace Wp
open PySem PySem.Spec PyProof.Rows L2
theorem nat_zero_beq (n : Nat) : ((n : Int) == (0 : Int)) = (n == 0) := by
  rw [Bool.eq_iff_iff, beq_iff_eq, beq_iff_eq]
  omega
theorem n5 {r : Ru} (h : r.Ok) : r.n ≤ 5 := by
  have := h.n5; have := h.w1; have := h.k1
  unfold Ru.n
  omega
theorem n_m {r : Ru} (h : r.Ok) : r.n = r.m + 1 := by
  have := h.wk; have := h.w1; have := h.k1
  unfold Ru.n Ru.m
  omega
theorem m1 {r : Ru} (h : r.Ok) : 1 ≤ r.m := by
  have := h.wk; have := h.w1; have := h.k1
  unfold Ru.m
  omega
theorem m4 {r : Ru} (h : r.Ok) : r.m ≤ 4 := by
  have := n5 h; have := n_m h
  omega
theorem pw_m {r : Ru} (h : r.Ok) : 2 ^ r.m ≤ 16 := Nat.pow_le_pow_right (n := 2) (by decide) (m4 h)
theorem pw_n {r : Ru} (h : r.Ok) : 2 ^ r.n ≤ 32 := Nat.pow_le_pow_right (n := 2) (by decide) (n5 h)
section
variable {P : Program} {w : World} {K : PySem.W.Frag} {mg : Str → Option Value} {base : Heap}
/-! ### alike -/
def spAlike (C : Addr) : Sp := fun vs H Q _ => ∃ (pa qa : Addr) (p q : Ru), vs = [.ref pa, .ref qa] ∧ p.Ok ∧ q.Ok ∧ RAt C H pa p ∧ RAt C H qa q ∧ ∀ H', Same H H' → Q (.bl (alike p q)) H'
theorem okAlike (T : Txt K mg) : FnOk P w K mg base CX0 6 T.dAlike.f T.dAlike.fd ["p", "q"] (spAlike T.C) := by
  refine fok T.dAlike.F scAlike (fun vs H Q E h => ?_) (fun cdv A outer s H vs Q E hr h => ?_)
  · obtain ⟨pa, qa, p, q, rfl, _⟩ := h
    rfl
  · obtain ⟨pa, qa, p, q, rfl, op, oq, Rp, Rq, k⟩ := h
    have GU : FnOk P w K mg base CX0 5 T.dUnlike.f T.dUnlike.fd ["p", "q"] (spUnlike T.C) := okUnlike T
    refine ⟨_, pss_one (ps_ret (pe_cmpR op_eq (pe_callB call_len_seq (by rfl) T.n_len PySem.boot_len (pa_cons (pe_call GU hr (by rfl) T.dUnlike.g T.dUnlike.F.kp (bUnlike _) .nil pass0 (pa_cons (pv 0) (pa_cons (pv 1) pa_nil))) pa_nil)) pe_int (nomark _))), ?_⟩
    refine ⟨.ref pa, rfl, .ref qa, rfl, pa, qa, p, q, rfl, op, oq, Rp, Rq, fun L H1 sm U => ?_⟩
    obtain ⟨as, hL, hl⟩ := U.len
    refine ⟨L, _, rfl, .inl (SqL.of hL), rfl, ?_⟩
    rw [dec_int, List.length_map, hl, nat_zero_beq]
    exact k H1 sm
/-! ### no_more -/
def spNoMore (C : Addr) : Sp := fun vs H Q _ => ∃ (pa qa : Addr) (p q : Ru), vs = [.ref pa, .ref qa] ∧ p.Ok ∧ q.Ok ∧ RAt C H pa p ∧ RAt C H qa q ∧ ∀ H', Same H H' → Q (.bl (noMore p q)) H'
theorem paired_at {α β : Type} {F : α → β → Prop} : ∀ {l : List α} {m : List β} {i : Nat} {a : α}, Paired F l m → l[i]? = some a → ∃ b, m[i]? = some b ∧ F a b
  | _, _, _, _, .nil, h => by simp at h
  | _, _, 0, _, .cons r _, h => by
    simp at h
    subst h
    exact ⟨_, rfl, r⟩
  | _, _, i + 1, a, .cons _ t, h => by
    obtain ⟨b, h1, h2⟩ := paired_at (i := i) (a := a) t (by simpa using h)
    exact ⟨b, by simpa using h1, h2⟩
theorem okNoMore (T : Txt K mg) : FnOk P w K mg base CX0 6 T.dNoMore.f T.dNoMore.fd ["p", "q"] (spNoMore T.C) := by
  refine fok T.dNoMore.F scNoMore (fun vs H Q E h => ?_) (fun cdv A outer s H vs Q E hr h => ?_)
  · obtain ⟨pa, qa, p, q, rfl, _⟩ := h
    rfl
  · obtain ⟨pa, qa, p, q, rfl, op, oq, Rp, Rq, k⟩ := h
    have GU : FnOk P w K mg base CX0 5 T.dUnlike.f T.dUnlike.fd ["p", "q"] (spUnlike T.C) := okUnlike T
    refine ⟨_, pss_one (ps_ret (pe_not (pe_callB (cr_any rfl) (by rfl) T.n_any (by decide +kernel) (pa_cons (pe_lc (own := [("text", 2), ("told", 3)]) (g := gTup K 2 (gCons (gName 2) (gCons (gName 3) gNil))) (tt := tYes) (by rfl) scNoMore.nd
        (pi_list (pe_call GU hr (by rfl) T.dUnlike.g T.dUnlike.F.kp (bUnlike _) .nil pass0 (pa_cons (pv 0) (pa_cons (pv 1) pa_nil))))
        (blkOk_by (own := [("text", 2), ("told", 3)]) (N := ["p", "q", "text", "told"]) (sc := defScope sNoMore) (by decide +kernel))
        (fun _ _ _ _ _ => pg_tup rfl (pgs_cons (pg_name (i := 2) scNoMore.nd rfl (Or.inl rfl)) (pgs_cons (pg_name (i := 3) scNoMore.nd rfl (Or.inl rfl)) pgs_nil))) (fun _ _ _ _ _ => pts_nil)
        (fun _ _ _ _ _ => pe_ix (r := rIxT K) ix_tup (pv 3) pe_int (fun _ _ => rfl))) pa_nil)))), ?_⟩
    refine ⟨.ref pa, rfl, .ref qa, rfl, pa, qa, p, q, rfl, op, oq, Rp, Rq, fun L H1 sm U => ?_⟩
    obtain ⟨as, hL, hP⟩ := id U
    have hlen := Paired.length hP
    refine ⟨L, rfl, ⟨_, SqL.of hL⟩, fun D nD => ?_⟩
    refine it_by (walk_list (K := K) (a := L) (xs := as.map V.ref)) (fun j H' => Same H1 H' ∧ H' D = some (.lst ((((unl p q).take j).map fun u => u.2.1).map V.bl))) ⟨same_new nD, by rw [upd_same]; rfl⟩ (fun j H' _ p => SqL.of (p.1 _ _ hL)) ?_ ?_
    · rintro j x H2 H3 hj ⟨sm2, hD⟩ ⟨rfl, hx⟩
      rw [List.getElem?_map] at hx
      cases haj : as[j]? with
      | none => rw [haj] at hx; cases hx
      | some a =>
        rw [haj] at hx
        obtain rfl := Option.some.inj hx
        obtain ⟨u, huj, b, ha, hb⟩ := paired_at hP haj
        rw [List.length_map, hlen] at hj
        have hul : (unl p q).length ≤ 4096 := by
          unfold unl
          rw [List.length_map]
          refine Nat.le_trans (List.length_filter_le _ _) ?_
          rw [words_length]
          exact pow_le_4096 (tl_le op oq)
        refine ⟨a, _, rfl, SqT.of (sm2 _ _ ha), rfl, _, _, rfl, _, _, rfl, rfl, ?_⟩
        refine ⟨rfl, ?_⟩
        refine ⟨.ref b, rfl, b, _, 0, .bl u.2.1, rfl, rfl, SqT.of (sm2 _ _ hb), atI_nat (j := 0) rfl, _, hD, ?_, sm_upd sm2 nD, ?_⟩
        · rw [List.length_map, List.length_map, List.length_take]
          exact small4096 (by omega)
        · rw [upd_same, List.take_add_one, huj, List.map_append, List.map_append]
          rfl
    · rintro H2 ⟨sm2, hD⟩
      rw [List.length_map, hlen, List.take_length] at hD
      refine ⟨D, _, rfl, SqL.of hD, _, rfl, ?_⟩
      have e : (((unl p q).map fun u => u.2.1).any id) = ((unl p q).any fun x => x.2.1) := by
        rw [List.any_map]
        rfl
      rw [e]
      exact k H2 (sm.trans sm2)
/-! ### parting -/
def spParting (C : Addr) : Sp := fun vs H Q _ => ∃ (pa qa : Addr) (p q : Ru), vs = [.ref pa, .ref qa] ∧ p.Ok ∧ q.Ok ∧ RAt C H pa p ∧ RAt C H qa q ∧
  (unl p q = [] → ∀ H', Same H H' → Q .non H') ∧ (∀ (t : List Bool) (x y : Bool) (rest : List (List Bool × Bool × Bool)), unl p q = (t, x, y) :: rest → ∀ a H', Same H H' → H' a = some (.tup [.str (enc t), .int (ah p q : Int)]) → Q (.ref a) H')
theorem okParting (T : Txt K mg) : FnOk P w K mg base CX0 6 T.dParting.f T.dParting.fd ["p", "q"] (spParting T.C) := by
  refine fok T.dParting.F scParting (fun vs H Q E h => ?_) (fun cdv A outer s H vs Q E hr h => ?_)
  · obtain ⟨pa, qa, p, q, rfl, _⟩ := h
    rfl
  · obtain ⟨pa, qa, p, q, rfl, op, oq, Rp, Rq, k1, k2⟩ := h
    have GU : FnOk P w K mg base CX0 5 T.dUnlike.f T.dUnlike.fd ["p", "q"] (spUnlike T.C) := okUnlike T
    have GSi : FnOk P w K mg base CX0 1 T.dSides.f T.dSides.fd ["p", "q"] (spSides T.C) := okSides T
    have hr1 : Room 1 _ := hr.mono (by decide)
    refine ⟨_, pss_cons (ps_set (i := 2) scParting.nd rfl (.inl rfl) (pe_call GU hr (by rfl) T.dUnlike.g T.dUnlike.F.kp (bUnlike _) .nil pass0 (pa_cons (pv 0) (pa_cons (pv 1) pa_nil))))
      (pss_one (ps_ret (pe_ifExp (pt_cmpR op_eq (pe_callB call_len_seq (by rfl) T.n_len PySem.boot_len (pa_cons (pv 2) pa_nil)) pe_int (nomark _)) pe_non
        (pe_tup (pa_cons (pe_ix ix_tup (pe_ix ix_list (pv 2) pe_int (fun _ _ => rfl)) pe_int (fun _ _ => rfl)) (pa_cons (pe_ix ix_tup (pe_call GSi hr1 (by rfl) T.dSides.g T.dSides.F.kp (bSides _) .nil pass0 (pa_cons (pv 0) (pa_cons (pv 1) pa_nil))) pe_int (fun _ _ => rfl)) pa_nil)))))), ?_⟩
    refine ⟨.ref pa, rfl, .ref qa, rfl, pa, qa, p, q, rfl, op, oq, Rp, Rq, fun L H1 sm U => ?_⟩
    obtain ⟨as, hL, hP⟩ := id U
    have hlen := Paired.length hP
    refine ⟨.ref L, rfl, L, _, rfl, .inl (SqL.of hL), rfl, _, rfl, ?_⟩
    rw [dec_int, List.length_map, hlen, nat_zero_beq]
    cases hu : unl p q with
    | nil =>
      refine iteT ?_
      exact k1 hu H1 sm
    | cons u rest =>
      refine iteF ?_
      obtain ⟨t, x, y⟩ := u
      rw [hu] at hP
      cases hP with
      | cons h0 htail =>
        rename_i a as'
        obtain ⟨b, ha, hb⟩ := h0
        refine ⟨.ref L, rfl, L, _, 0, .ref a, rfl, rfl, SqL.of hL, atI_nat (j := 0) rfl, a, _, 0, .str (enc t), rfl, rfl, SqT.of ha, atI_nat (j := 0) rfl, ?_⟩
        refine ⟨.ref pa, rfl, .ref qa, rfl, pa, qa, p, q, rfl, op, oq, Rp.mono sm, Rq.mono sm, fun S H2 sm2 hS => ?_⟩
        refine ⟨S, _, 0, .int (ah p q : Int), rfl, rfl, SqT.of hS, atI_nat (j := 0) rfl, (by show 2 ≤ sizeLine; decide), fun c nc => ?_⟩
        exact k2 t x y rest hu c _ (sm_upd (sm.trans sm2) ((sm.trans sm2).free nc)) upd_same
/-! ### even_share -/
def spEven (C : Addr) : Sp := fun vs H Q _ => ∃ (pa : Addr) (r : Ru), vs = [.ref pa] ∧ r.Ok ∧ RAt C H pa r ∧ ∀ a H', Same H H' → H' a = some (.tup [.int ((evS r).1 : Int), .int ((evS r).2 : Int)]) → Q (.ref a) H'
theorem stK_len (r : Ru) : (stK r).length = 2 ^ r.n := by
  unfold stK
  rw [List.length_map, words_length]
theorem filter_take_next {l : List (List Bool)} {f : List Bool → Bool} {i : Nat} {t : List Bool} (h : l[i]? = some t) : (l.take (i + 1)).filter f = (l.take i).filter f ++ (if f t = true then [t] else []) := by
  rw [List.take_add_one, h, List.filter_append]
  congr 1
  show [t].filter f = _
  rw [List.filter_cons]
  cases f t <;> rfl
theorem okEvenShare (T : Txt K mg) : FnOk P w K mg base CX0 5 T.dEvenShare.f T.dEvenShare.fd ["rule"] (spEven T.C) := by
  refine fok T.dEvenShare.F scEvenShare (fun vs H Q E h => ?_) (fun cdv A outer s H vs Q E hr h => ?_)
  · obtain ⟨pa, r, rfl, _⟩ := h
    rfl
  · obtain ⟨pa, r, rfl, ok, R, k⟩ := h
    have hu := hu_of hr
    have GSt : FnOk P w K mg base CX0 4 T.dStatus.f T.dStatus.fd ["rule"] (spStatus T.C) := okStatus T
    have GV : FnOk P w K mg base CX0 1 T.dValueOf.f T.dValueOf.fd ["p", "q"] spValueOf := okValueOf T
    refine ⟨_, pss_cons (ps_set (i := 1) scEvenShare.nd rfl (.inr rfl) (pe_call GSt hr (by rfl) T.dStatus.g T.dStatus.F.kp (bStatus _) .nil pass0 (pa_cons (pv 0) pa_nil)))
      (pss_one (ps_ret (pe_call GV (hr.mono (by decide)) (by rfl) T.dValueOf.g T.dValueOf.F.kp (bValueOf _) .nil pass0 (pa_cons (pe_callB call_len_seq (by rfl) T.n_len PySem.boot_len (pa_cons
        (pe_lc (own := [("around", 2)]) (g := gName 2) (by rfl) scEvenShare.nd (pi_keys (pv 1)) (blkOk_by (own := [("around", 2)]) (N := ["rule", "known", "around"]) (sc := defScope sEvenShare) (by decide +kernel))
          (fun _ _ _ _ _ => pg_name (i := 2) scEvenShare.nd rfl (Or.inl rfl)) (fun _ _ _ _ _ => pts_one (pt_val (pe_dget hu (pv 1) (pv 2) (fun _ _ => rfl)))) (fun _ _ _ _ _ => pv 2)) pa_nil))
        (pa_cons (pe_callB call_lenF (by rfl) T.n_len PySem.boot_len (pa_cons (pv 1) pa_nil)) pa_nil))))), ?_⟩
    refine ⟨.ref pa, rfl, pa, r, rfl, ok, R, fun d od H1 sm hd => ?_⟩
    refine ⟨.ref d, rfl, d, od, rfl, .inl ⟨stK r, hd, fun D nD => ?_⟩⟩
    refine it_by (walk_keys (d := d) (o := od) (kvs := stK r)) (fun j H' => Same H1 H' ∧ H' D = some (.lst (vt (((words r.n).take j).filter (st r))))) ⟨same_new nD, by rw [upd_same]; rfl⟩ (fun j H' _ p => p.1 _ _ hd) ?_ ?_
    · rintro j x H2 H3 hj ⟨sm2, hD⟩ ⟨rfl, kk, v, hk, rfl⟩
      rw [stK_len] at hj
      unfold stK at hk
      rw [List.getElem?_map] at hk
      cases htj : (words r.n)[j]? with
      | none => rw [htj] at hk; cases hk
      | some t =>
        rw [htj] at hk
        obtain ⟨rfl, rfl⟩ := Prod.mk.inj (Option.some.inj hk)
        have htl : t.length = r.n := mem_words.mp (List.mem_of_getElem? htj)
        refine ⟨rfl, ?_⟩
        have g := dget_f (H := H3) (a := d) (kvs := stK r) (k := Sum.inr (enc t)) (.inr ⟨od, sm2 _ _ hd⟩)
        rw [stK_val htl] at g
        refine ⟨.ref d, rfl, .str (enc t), rfl, d, .bl (st r t), rfl, g, st r t, rfl, ?_⟩
        have h32 := pw_n ok
        cases hs : st r t with
        | false =>
          refine ⟨sm2, ?_⟩
          rw [hD, filter_take_next htj, hs]
          show _ = some (HO.lst (vt (_ ++ [])))
          rw [List.append_nil]
        | true =>
          refine ⟨_, rfl, _, hD, ?_, sm_upd sm2 nD, ?_⟩
          · rw [vt_len]
            refine small1000 (Nat.le_trans (List.length_filter_le _ _) ?_)
            rw [List.length_take]
            omega
          · rw [upd_same, filter_take_next htj, hs]
            unfold vt
            rw [List.map_append]
            rfl
    · rintro H2 ⟨sm2, hD⟩
      rw [stK_len, ← words_length, List.take_length] at hD
      refine ⟨D, _, rfl, .inl (SqL.of hD), .ref d, rfl, d, stK r, rfl, .inr ⟨od, sm2 _ _ hd⟩, ?_⟩
      have h32 := pw_n ok
      refine ⟨ev r, 2 ^ r.n, ?_, Nat.pow_pos (by decide), ?_, by omega, fun a H3 sm3 ha => ?_⟩
      · show [V.int _, V.int _] = _
        rw [vt_len, stK_len]
        rfl
      · have : ev r ≤ 2 ^ r.n := by
          rw [← words_length]
          exact List.length_filter_le _ _
        omega
      · exact k a H3 ((sm.trans sm2).trans sm3) ha
/-! ### share -/
def spShare (C : Addr) : Sp := fun vs H Q _ => ∃ (pa : Addr) (r : Ru) (t : List Bool), vs = [.ref pa, .str (enc t)] ∧ r.Ok ∧ RAt C H pa r ∧ 0 < t.length ∧ t.length ≤ 100 ∧
  ∀ a H', Same H H' → H' a = some (.tup [.int ((shS r t).1 : Int), .int ((shS r t).2 : Int)]) → Q (.ref a) H'
theorem okShare (T : Txt K mg) : FnOk P w K mg base CX0 5 T.dShare.f T.dShare.fd ["rule", "text"] (spShare T.C) := by
  refine fok T.dShare.F scShare (fun vs H Q E h => ?_) (fun cdv A outer s H vs Q E hr h => ?_)
  · obtain ⟨pa, r, t, rfl, _⟩ := h
    rfl
  · obtain ⟨pa, r, t, rfl, ok, R, h0, h100, k⟩ := h
    have hu := hu_of hr
    have GSt : FnOk P w K mg base CX0 4 T.dStatus.f T.dStatus.fd ["rule"] (spStatus T.C) := okStatus T
    have GV : FnOk P w K mg base CX0 1 T.dValueOf.f T.dValueOf.fd ["p", "q"] spValueOf := okValueOf T
    have GN : FnOk P w K mg base CX0 3 T.dNeedLetters.f T.dNeedLetters.fd ["letters", "value"] spNeedLetters := okNeedLetters T
    obtain ⟨dx, tb, hp, _⟩ := id R.ex
    refine ⟨_, pss_cons (ps_expr (pe_call GN (hr.mono (by decide)) (by rfl) T.dNeedLetters.g T.dNeedLetters.F.kp (bNeedLetters _) .nil pass0 (pa_cons (pe_fld (pv 0) rfl) (pa_cons (pv 1) pa_nil))))
      (pss_cons (ps_asg (pe_tup (pa_cons (pe_call GSt hr (by rfl) T.dStatus.g T.dStatus.F.kp (bStatus _) .nil pass0 (pa_cons (pv 0) pa_nil))
          (pa_cons (pe_op op_sub (pe_op op_add (pe_op op_mul pe_int (pe_fld (pv 0) rfl)) (pe_fld (pv 0) rfl)) pe_int) pa_nil)))
        (pg_tup rfl (pgs_cons (pg_name (i := 2) scShare.nd rfl (.inr rfl)) (pgs_cons (pg_name (i := 3) scShare.nd rfl (.inr rfl)) pgs_nil))))
      (pss_cons (ps_set (i := 4) scShare.nd rfl (.inr rfl) (pe_op op_mulS (pv 1) (pe_op op_add (pe_op op_fdivN (pv 3) (pe_callB call_len_str (by rfl) T.n_len PySem.boot_len (pa_cons (pv 1) pa_nil))) pe_int)))
      (pss_one (ps_ret (pe_call GV (hr.mono (by decide)) (by rfl) T.dValueOf.g T.dValueOf.F.kp (bValueOf _) .nil pass0 (pa_cons (pe_callB call_len_seq (by rfl) T.n_len PySem.boot_len (pa_cons
        (pe_lc (own := [("at", 5)]) (g := gName 5) (by rfl) scShare.nd (pi_range1 (by rfl) T.n_range (pa_cons (pe_callB call_len_str (by rfl) T.n_len PySem.boot_len (pa_cons (pv 1) pa_nil)) pa_nil))
          (blkOk_by (own := [("at", 5)]) (N := ["rule", "text", "known", "size", "long", "at"]) (sc := defScope sShare) (by decide +kernel))
          (fun _ _ _ _ _ => pg_name (i := 5) scShare.nd rfl (Or.inl rfl))
          (fun _ _ _ _ _ => pts_one (pt_val (pe_dget hu (pv 2) (pe_slice sl_str (pv 4) (po_some (pv 5)) (po_some (pe_op op_add (pv 5) (pv 3)))) (fun _ _ => rfl)))) (fun _ _ _ _ _ => pv 5)) pa_nil))
        (pa_cons (pe_callB call_len_str (by rfl) T.n_len PySem.boot_len (pa_cons (pv 1) pa_nil)) pa_nil))))))), ?_⟩
    have sl : (enc t).length ≤ sizeLine := by rw [enc_len]; exact Nat.le_of_lt (small1000 (by omega))
    refine ⟨.ref pa, rfl, pa, T.C, dx, _, _, rfl, hp, T.cl, T.nL, rf_letters r tb, .str (enc t), rfl, t, rfl, fun H1 sm1 => ?_⟩
    refine ⟨.ref pa, rfl, pa, r, rfl, ok, R.mono sm1, fun d od H2 sm2 hd => ?_⟩
    have sm12 := sm1.trans sm2
    have hp2 := sm12 _ _ hp
    refine ⟨.ref pa, rfl, pa, T.C, dx, _, _, rfl, hp2, T.cl, T.nW, rf_w r tb, _, _, rfl, rfl, .inl ⟨by decide, by decide⟩, ?_⟩
    refine ⟨.ref pa, rfl, pa, T.C, dx, _, _, rfl, hp2, T.cl, T.nK, rf_k r tb, _, _, rfl, rfl, _, _, rfl, rfl, (by show 2 ≤ sizeLine; decide), fun B nB => ?_⟩
    dsimp only
    rw [n_i ok]
    have sm3 : Same H2 (upd H2 B (.tup [.ref d, .int (r.n : Int)])) := same_new nB
    refine ⟨B, _, rfl, SqT.of upd_same, rfl, _, _, rfl, _, _, rfl, rfl, ?_⟩
    have hn5 := n5 ok
    have e1 : ((r.n : Int)).fdiv ((enc t).length : Int) + 2 = ((r.n / t.length + 2 : Nat) : Int) := by
      rw [enc_len, Int.fdiv_eq_ediv_of_nonneg _ (by omega)]
      rfl
    have hKl : (r.n / t.length + 2) * t.length ≤ 1000 := by
      rw [Nat.add_mul]
      have := Nat.div_mul_le_self r.n t.length
      omega
    refine ⟨.str (enc t), rfl, .int (r.n : Int), rfl, .str (enc t), rfl, enc t, rfl, sl, _, _, rfl, rfl, ⟨?_, ?_⟩, _, _, rfl, rfl, t, r.n / t.length + 2, rfl, ?_, Nat.le_add_left 2 _, h0, hKl, ?_⟩
    · rw [enc_len]; omega
    · rw [enc_len]; omega
    · dsimp only
      rw [e1]
    refine ⟨.str (enc t), rfl, enc t, rfl, sl, _, rfl, by rw [enc_len]; omega, by rw [enc_len]; omega, fun D nD => ?_⟩
    have hd3 := sm3 _ _ hd
    refine it_by (walk_range (lo := 0) (n := ((enc t).length : Int).toNat)) (fun j H' => Same (upd H2 B (.tup [.ref d, .int (r.n : Int)])) H' ∧ H' D = some (.lst (vn ((List.range j).filter fun i => st r (win r.n t i))))) ⟨same_new nD, by rw [upd_same]; rfl⟩ (fun _ _ _ _ => trivial) ?_ ?_
    · rintro j x H3 H4 hj ⟨sm4, hD⟩ ⟨rfl, rfl⟩
      rw [Int.toNat_natCast, enc_len] at hj
      refine ⟨rfl, ?_⟩
      have hj0 : (0 : Int) + (j : Int) = (j : Int) := by omega
      have hK := long_ok (n := r.n) h0 hj
      refine ⟨.ref d, rfl, .str (enc (rep t (r.n / t.length + 2))), rfl, .int (0 + (j : Int)), rfl, 0 + (j : Int), rfl, .int (0 + (j : Int)), rfl, .int (r.n : Int), rfl, _, _, rfl, rfl, 0 + (j : Int) + (r.n : Int), rfl, enc (rep t (r.n / t.length + 2)), rfl,
        (by rw [enc_len, rep_length]; exact Nat.le_of_lt (small1000 hKl)), ?_⟩
      rw [cut_enc' j (j + r.n) hj0 (by omega), show j + r.n - j = r.n by omega, rep_win h0 hK]
      have g := dget_f (H := H4) (a := d) (kvs := stK r) (k := Sum.inr (enc (win r.n t j))) (.inr ⟨od, sm4 _ _ hd3⟩)
      rw [stK_val (win_length _ _ _)] at g
      refine ⟨d, .bl (st r (win r.n t j)), rfl, g, st r (win r.n t j), rfl, ?_⟩
      have fr : (List.range (j + 1)).filter (fun i => st r (win r.n t i)) = (List.range j).filter (fun i => st r (win r.n t i)) ++ (if st r (win r.n t j) = true then [j] else []) := by
        rw [List.range_succ, List.filter_append]
        congr 1
        rw [List.filter_cons]
        cases st r (win r.n t j) <;> rfl
      cases hs : st r (win r.n t j) with
      | false =>
        refine ⟨sm4, ?_⟩
        rw [hD, fr, hs]
        show _ = some (HO.lst (vn (_ ++ [])))
        rw [List.append_nil]
      | true =>
        refine ⟨_, rfl, _, hD, ?_, sm_upd sm4 nD, ?_⟩
        · rw [vn_len]
          refine small1000 (Nat.le_trans (List.length_filter_le _ _) ?_)
          rw [List.length_range]
          omega
        · dsimp only
          rw [upd_same, fr, hs, hj0]
          unfold vn
          rw [List.map_append]
          rfl
    · rintro H3 ⟨sm4, hD⟩
      rw [Int.toNat_natCast, enc_len] at hD
      refine ⟨D, _, rfl, .inl (SqL.of hD), .str (enc t), rfl, enc t, rfl, sl, ?_⟩
      have hc := cnt_le r t
      refine ⟨cnt r t, t.length, ?_, h0, by omega, by omega, fun a H4 sm5 ha => ?_⟩
      · show [V.int _, V.int _] = _
        rw [vn_len, enc_len]
        rfl
      · exact k a H4 (((sm12.trans sm3).trans sm4).trans sm5) ha
end
end Wp
/-! has_piece, standings, gains_by, lifted. -/
namespace Wp
open PySem PySem.Spec PyProof.Rows L2
theorem m_i {r : Ru} (h : r.Ok) : 2 * (r.w : Int) + (r.k : Int) - 3 = (r.m : Int) := by
  have := h.w1; have := h.wk
  unfold Ru.m
  omega
def sgn (up : Bool) : Int := if up then 1 else -1
/-- the gains as a dict -/
def gK (r : Ru) (g : List Bool → Int) : List (Key × V) := (words r.n).map fun t => ((Sum.inr (enc t) : Key), V.int (g t))
theorem gK_len (r : Ru) (g : List Bool → Int) : (gK r g).length = 2 ^ r.n := by
  unfold gK
  rw [List.length_map, words_length]
/-- the heights as a dict -/
def hK (m : Nat) (h : List Bool → Int) : List (Key × V) := (words m).map fun t => ((Sum.inr (enc t) : Key), V.int (h t))
theorem hK_len (m : Nat) (h : List Bool → Int) : (hK m h).length = 2 ^ m := by
  unfold hK
  rw [List.length_map, words_length]
theorem hK_val {m : Nat} {h : List Bool → Int} {u : List Bool} (hu : u.length = m) : valV (hK m h) (Sum.inr (enc u)) = some (.int (h u)) := texts_val (f := fun t => V.int (h t)) _ u (mem_words.mpr hu)
theorem hK_put {m : Nat} {h : List Bool → Int} {u : List Bool} (hu : u.length = m) (x : Int) : putK (hK m h) (Sum.inr (enc u)) (.int x) = hK m (put h u x) := by
  unfold putK
  rw [valV_any, hK_val hu]
  show (if true = true then (hK m h).map (fun kv => if kv.1 = (Sum.inr (enc u) : Key) then (kv.1, V.int x) else kv) else _) = _
  rw [if_pos rfl]
  unfold hK
  rw [List.map_map]
  apply List.map_congr_left
  intro t _
  show (if (Sum.inr (enc t) : Key) = Sum.inr (enc u) then ((Sum.inr (enc t) : Key), V.int x) else (Sum.inr (enc t), V.int (h t))) = (Sum.inr (enc t), V.int (put h u x t))
  by_cases e : t = u
  · subst e
    rw [if_pos rfl, put_same]
  · rw [if_neg (fun z => e (enc_inj (Sum.inr.inj z))), put_ne e]
/-- by which texts standings were lifted, as a dict -/
def CB (cb : List (Key × V)) (c : List Bool → Option (List Bool)) : Prop := ∀ v, valV cb (Sum.inr (enc v)) = (c v).map fun x => V.str (enc x)
theorem CB.nil : CB [] (fun _ => none) := fun _ => rfl
theorem CB.put {cb : List (Key × V)} {c : List Bool → Option (List Bool)} (h : CB cb c) (u x : List Bool) : CB (putK cb (Sum.inr (enc u)) (.str (enc x))) (put c u (some x)) := fun v => by
  rw [valV_put]
  by_cases e : v = u
  · subst e
    rw [if_pos rfl, put_same]
    rfl
  · rw [if_neg (fun z => e (enc_inj (Sum.inr.inj z))), put_ne e]
    exact h v
theorem sign_if {up : Bool} {σ : L2.St} {H : Hp} {Qc : VK} (h : Qc (.int (sgn up)) H) : if up = true then tC (.int 1) σ H Qc else tUn (rU fun i => .int (-i)) (tC (.int 1)) σ H Qc := by
  cases up with
  | true => exact h
  | false => exact ⟨1, rfl, h⟩
section
variable {P : Program} {w : World} {K : PySem.W.Frag} {mg : Str → Option Value} {base : Heap}
/-! ### has_piece, no pieces -/
def spHasPiece : Sp := fun vs H Q _ => ∃ (t : List Bool) (k : Nat) (a : Addr), vs = [.str (enc t), .int (k : Int), .ref a] ∧ t.length ≤ 100 ∧ k ≤ 100 ∧ H a = some (.lst []) ∧ ∀ H', Same H H' → Q (.bl false) H'
theorem okHasPiece (T : Txt K mg) : FnOk P w K mg base CX0 1 T.dHasPiece.f T.dHasPiece.fd ["text", "k", "pieces"] spHasPiece := by
  refine fok T.dHasPiece.F scHasPiece (fun vs H Q E h => ?_) (fun cdv A outer s H vs Q E hr h => ?_)
  · obtain ⟨t, k, a, rfl, _⟩ := h
    rfl
  · obtain ⟨t, k, a, rfl, ht, hk, ha, q⟩ := h
    refine ⟨_, pss_one (ps_ret (pe_callB (cr_any rfl) (by rfl) T.n_any (by decide +kernel) (pa_cons (pe_lc (own := [("at", 3)]) (g := gName 3) (tt := tYes) (by rfl) scHasPiece.nd
        (pi_range1 (by rfl) T.n_range (pa_cons (pe_op op_add (pe_op op_sub (pe_callB call_len_str (by rfl) T.n_len PySem.boot_len (pa_cons (pv 0) pa_nil)) (pv 1)) pe_int) pa_nil))
        (blkOk_by (own := [("at", 3)]) (N := ["text", "k", "pieces", "at"]) (sc := defScope sHasPiece) (by decide +kernel)) (fun _ _ _ _ _ => pg_name (i := 3) scHasPiece.nd rfl (Or.inl rfl)) (fun _ _ _ _ _ => pts_nil)
        (fun _ _ _ _ _ => pe_cmpR (r := rIn K false) op_in_seq (pe_slice sl_str (pv 0) (po_some (pv 3)) (po_some (pe_op op_add (pv 3) (pv 1)))) (pv 2) (by rfl))) pa_nil))), ?_⟩
    refine ⟨.str (enc t), rfl, enc t, rfl, (by rw [enc_len]; exact Nat.le_of_lt (small1000 (by omega))), _, rfl, _, _, rfl, rfl, _, _, rfl, rfl, _, rfl, by rw [enc_len]; omega, by rw [enc_len]; omega, fun D nD => ?_⟩
    generalize hN : ((((enc t).length : Int) - (k : Int) + 1)).toNat = N
    have hN2 : N ≤ 101 := by
      rw [enc_len] at hN
      omega
    refine it_by (walk_range (lo := 0) (n := N)) (fun j H' => Same H H' ∧ H' D = some (.lst ((List.replicate j false).map V.bl))) ⟨same_new nD, by rw [upd_same]; rfl⟩ (fun _ _ _ _ => trivial) ?_ ?_
    · rintro j x H2 H3 hj ⟨sm2, hD⟩ ⟨rfl, rfl⟩
      refine ⟨rfl, ?_⟩
      refine ⟨.str (enc t), rfl, _, rfl, _, rfl, _, rfl, _, rfl, _, _, rfl, rfl, _, rfl, enc t, rfl, (by rw [enc_len]; exact Nat.le_of_lt (small1000 (by omega))), ?_⟩
      refine ⟨.ref a, rfl, a, [], rfl, .inl (SqL.of (sm2 _ _ ha)), rfl, rfl, _, hD, ?_, sm_upd sm2 nD, ?_⟩
      · rw [List.length_map, List.length_replicate]
        exact small1000 (by omega)
      · rw [upd_same, List.replicate_succ', List.map_append]
        rfl
    · rintro H2 ⟨sm2, hD⟩
      refine ⟨D, _, rfl, SqL.of hD, ?_⟩
      have e : (List.replicate N false).any id = false := by
        rw [List.any_eq_false]
        intro b hb
        rw [(List.mem_replicate.mp hb).2]
        exact Bool.false_ne_true
      rw [e]
      exact q H2 sm2
/-! ### standings -/
def spStandings (C : Addr) : Sp := fun vs H Q _ => ∃ (pa : Addr) (r : Ru), vs = [.ref pa] ∧ r.Ok ∧ RAt C H pa r ∧ ∀ a H', Same H H' → H' a = some (.lst (vt (words r.m))) → Q (.ref a) H'
theorem okStandings (T : Txt K mg) : FnOk P w K mg base CX0 3 T.dStandings.f T.dStandings.fd ["rule"] (spStandings T.C) := by
  refine fok T.dStandings.F scStandings (fun vs H Q E h => ?_) (fun cdv A outer s H vs Q E hr h => ?_)
  · obtain ⟨pa, r, rfl, _⟩ := h
    rfl
  · obtain ⟨pa, r, rfl, ok, R, q⟩ := h
    have GT : FnOk P w K mg base CX0 2 T.dTextsOf.f T.dTextsOf.fd ["letters", "size"] spTextsOf := okTextsOf T
    obtain ⟨dx, tb, hp, _⟩ := id R.ex
    refine ⟨_, pss_one (ps_ret (pe_call GT hr (by rfl) T.dTextsOf.g T.dTextsOf.F.kp (bTextsOf _) .nil pass0 (pa_cons (pe_fld (pv 0) rfl) (pa_cons (pe_op op_sub (pe_op op_add (pe_op op_mul pe_int (pe_fld (pv 0) rfl)) (pe_fld (pv 0) rfl)) pe_int) pa_nil)))), ?_⟩
    refine ⟨.ref pa, rfl, pa, T.C, dx, _, _, rfl, hp, T.cl, T.nL, rf_letters r tb, ?_⟩
    refine ⟨.ref pa, rfl, pa, T.C, dx, _, _, rfl, hp, T.cl, T.nW, rf_w r tb, _, _, rfl, rfl, .inl ⟨by decide, by decide⟩, ?_⟩
    refine ⟨.ref pa, rfl, pa, T.C, dx, _, _, rfl, hp, T.cl, T.nK, rf_k r tb, _, _, rfl, rfl, _, _, rfl, rfl, r.m, ?_, Nat.le_trans (m4 ok) (by decide), fun a H1 sm1 na ha => q a H1 sm1 ha⟩
    show [V.int 2, .int (2 * (r.w : Int) + (r.k : Int) - 3)] = _
    rw [m_i ok]
/-! ### gains_by, no lot -/
def spGainsBy (K : PySem.W.Frag) (C : Addr) : Sp := fun vs H Q _ => ∃ (pa va lo : Addr) (r : Ru) (up : Bool) (p q : Int), vs = [.ref pa, .ref va, .bl up, .ref lo] ∧ r.Ok ∧ RAt C H pa r ∧ SqT K H va [.int p, .int q] ∧ SqT K H lo [] ∧
  (-(2 ^ 64) < q ∧ q < 2 ^ 64) ∧ ∀ d od H', Same H H' → H' d = some (.frz od (.dK (gK r (gain (st r) (sgn up) p q)))) → Q (.ref d) H'
theorem okGainsBy (T : Txt K mg) : FnOk P w K mg base CX0 5 T.dGainsBy.f T.dGainsBy.fd ["rule", "value", "is_greatest", "lot"] (spGainsBy K T.C) := by
  refine fok T.dGainsBy.F scGainsBy (fun vs H Q E h => ?_) (fun cdv A outer s H vs Q E hr h => ?_)
  · obtain ⟨pa, va, lo, r, up, p, q, rfl, _⟩ := h
    rfl
  · obtain ⟨pa, va, lo, r, up, p, q, rfl, ok, R, hv, hlo, hq, k⟩ := h
    have hu := hu_of hr
    have GL : FnOk P w K mg base CX0 2 T.dNeedLot.f T.dNeedLot.fd ["letters", "k", "lot"] (spNeedLot K) := okNeedLot T
    have GSt : FnOk P w K mg base CX0 4 T.dStatus.f T.dStatus.fd ["rule"] (spStatus T.C) := okStatus T
    have GH : FnOk P w K mg base CX0 1 T.dHasPiece.f T.dHasPiece.fd ["text", "k", "pieces"] spHasPiece := okHasPiece T
    obtain ⟨dx, tb, hp, _⟩ := id R.ex
    refine ⟨_, pss_cons (ps_asg (pv 1) (pg_tup rfl (pgs_cons (pg_name (i := 4) scGainsBy.nd rfl (.inl rfl)) (pgs_cons (pg_name (i := 5) scGainsBy.nd rfl (.inl rfl)) pgs_nil))))
      (pss_cons (ps_par (i := 6) (j := 7) rfl scGainsBy.nd rfl rfl (by decide) rfl rfl (pa_cons (pe_ifExp (pt_val (pv 2)) pe_int (pe_un un_neg pe_int))
        (pa_cons (pe_call GL (hr.mono (by decide)) (by rfl) T.dNeedLot.g T.dNeedLot.F.kp (bNeedLot _) .nil pass0 (pa_cons (pe_fld (pv 0) rfl) (pa_cons (pe_fld (pv 0) rfl) (pa_cons (pv 3) pa_nil)))) pa_nil)) (by rfl))
      (pss_cons (ps_set (i := 8) scGainsBy.nd rfl (.inl rfl) pe_dnewK)
      (pss_cons (ps_for PassesOwn.never rfl (pi_items (pe_call GSt hr (by rfl) T.dStatus.g T.dStatus.F.kp (bStatus _) .nil pass0 (pa_cons (pv 0) pa_nil)))
          (pg_tup rfl (pgs_cons (pg_name (i := 9) scGainsBy.nd rfl (.inl rfl)) (pgs_cons (pg_name (i := 10) scGainsBy.nd rfl (.inl rfl)) pgs_nil)))
        (pss_one (ps_if (pt_not (pt_val (pe_call GH (hr.mono (by decide)) (by rfl) T.dHasPiece.g T.dHasPiece.F.kp (bHasPiece _) .nil pass0 (pa_cons (pv 9) (pa_cons (pe_fld (pv 0) rfl) (pa_cons (pv 7) pa_nil))))))
          (pss_one (ps_dput hu (pv 8) (pv 9) (pe_op op_mul (pv 6) (pe_op op_sub (pe_op op_mul (pv 5) (pe_callTy call_int1 (by rfl) T.n_int (by decide +kernel) (pa_cons (pv 10) pa_nil))) (pv 4))) rfl)) pss_nil)))
      (pss_one (ps_ret (pe_frz (pv 8))))))), ?_⟩
    refine ⟨.ref va, rfl, va, _, rfl, hv, rfl, _, _, rfl, _, _, rfl, rfl, ?_⟩
    refine ⟨.bl up, rfl, up, rfl, sign_if ?_⟩
    refine ⟨.ref pa, rfl, pa, T.C, dx, _, _, rfl, hp, T.cl, T.nL, rf_letters r tb, .ref pa, rfl, pa, T.C, dx, _, _, rfl, hp, T.cl, T.nK, rf_k r tb, .ref lo, rfl, (r.k : Int), lo, rfl, hlo, fun B H1 sm1 hB => ?_⟩
    refine ⟨_, _, rfl, ?_⟩
    intro d nd
    have nd0 : H d = none := sm1.free nd
    have sm2 : Same H (upd H1 d (.dK [])) := sm_upd sm1 nd0
    have hB2 : (upd H1 d (.dK [])) B = some (.lst []) := (same_new nd) _ _ hB
    refine ⟨.ref pa, rfl, pa, r, rfl, ok, R.mono sm2, fun e oe H3 sm3 he => ?_⟩
    have hd3 : H3 d = some (.dK []) := sm3 _ _ upd_same
    have hB3 := sm3 _ _ hB2
    have sm03 := sm2.trans sm3
    have ned : e ≠ d := ne_of he hd3 (by intro z; cases z)
    have nBd : B ≠ d := ne_of hB3 hd3 (by intro z; cases z)
    refine ⟨e, oe, stK r, rfl, he, ?_⟩
    refine for_it (walk_items (d := e) (o := oe) (kvs := stK r)) (fun i σ H' => ∃ x y, σ = [some (.ref pa), some (.ref va), some (.bl up), some (.ref lo), some (.int p), some (.int q), some (.int (sgn up)), some (.ref B), some (.ref d), x, y] ∧
        (∀ b o, b ≠ d → H3 b = some o → H' b = some o) ∧ H' d = some (.dK (((words r.n).take i).map fun t => ((Sum.inr (enc t) : Key), V.int (gain (st r) (sgn up) p q t)))))
      ⟨none, none, rfl, fun _ _ _ z => z, by rw [hd3]; rfl⟩ (fun i σ H' _ ⟨_, _, _, kp, _⟩ => kp _ _ ned he) ?_ ?_
    · rintro i v σ H4 H5 hi ⟨x0, y0, rfl, kp, hd4⟩ ⟨A1, a, b, rfl, nA, rfl, e1, e2⟩
      rw [stK_len] at hi
      have e1 : ((stK r)[i]?.map fun kv => kV kv.1) = some a := e1
      have e2 : ((stK r)[i]?.map Prod.snd) = some b := e2
      unfold stK at e1 e2
      rw [List.getElem?_map] at e1 e2
      cases hti : (words r.n)[i]? with
      | none => rw [hti] at e1; cases e1
      | some t =>
        rw [hti] at e1 e2
        obtain rfl := Option.some.inj e1
        obtain rfl := Option.some.inj e2
        have htl : t.length = r.n := mem_words.mp (List.mem_of_getElem? hti)
        have kp5 : ∀ b o, b ≠ d → H3 b = some o → (upd H4 A1 (.tup [.str (enc t), .bl (st r t)])) b = some o := fun b o nb z => (same_new nA) _ _ (kp b o nb z)
        have hd5 := (same_new (o := .tup [.str (enc t), .bl (st r t)]) nA) _ _ hd4
        have npd : pa ≠ d := ne_of_none hp nd0
        have hp5 := kp5 _ _ npd (sm03 _ _ hp)
        refine ⟨A1, [.str (enc t), .bl (st r t)], rfl, SqT.of upd_same, rfl, _, _, rfl, _, _, rfl, rfl, ?_⟩
        refine ⟨.str (enc t), rfl, .ref pa, rfl, pa, T.C, dx, _, _, rfl, hp5, T.cl, T.nK, rf_k r tb, .ref B, rfl, t, r.k, B, rfl, (by rw [htl]; exact Nat.le_trans (n5 ok) (by decide)), Nat.le_trans ok.k4 (by decide), kp5 _ _ nBd hB3, fun H6 sm6 => ⟨false, rfl, ?_⟩⟩
        refine iteT ?_
        have hd6 := sm6 _ _ hd5
        have h32 := pw_n ok
        refine ⟨_, rfl, _, rfl, .bl (st r t), rfl, .inr ⟨st r t, rfl, _, _, rfl, rfl, .inl hq, _, rfl, _, _, rfl, rfl, _, _, rfl, rfl, ?_, .ref d, rfl, .str (enc t), rfl, d, _, rfl, DPut.k (k := Sum.inr (enc t)) hd6 ?_, ?_⟩⟩
        · left
          cases up <;> decide
        · rw [List.length_map, List.length_take]
          exact small1000 (by omega)
        · refine ⟨_, _, rfl, fun b o nb z => ?_, ?_⟩
          · rw [upd_ne nb]
            exact sm6 _ _ (kp5 b o nb z)
          · rw [upd_same, putK_texts (nodup_take_next (nodup_words _) hti), List.take_add_one, hti, List.map_append]
            rfl
    · rintro σ H4 ⟨x0, y0, rfl, kp, hd4⟩
      rw [stK_len, ← words_length, List.take_length] at hd4
      refine ⟨.ref d, rfl, d, _, rfl, hd4, fun od => ?_⟩
      refine k d od _ (fun b o z => ?_) upd_same
      have nb : b ≠ d := ne_of_none z nd0
      rw [upd_ne nb]
      exact kp b o nb (sm03 _ _ z)
end
end Wp
/-! lifted, ring_behind. -/
namespace Wp
open PySem PySem.Spec PyProof.Rows L2
def fv : Option (List Bool) → V
  | none => .non
  | some v => .str (enc v)
abbrev lf1 (g : List Bool → Int) (s : Lf (List Bool) (List Bool) × Option (List Bool)) (x : List Bool) : Lf (List Bool) (List Bool) × Option (List Bool) := lift1 List.dropLast (List.drop 1) g s x
abbrev lfs (r : Ru) (g : List Bool → Int) (s : Lf (List Bool) (List Bool)) : Lf (List Bool) (List Bool) × Option (List Bool) := lifts List.dropLast (List.drop 1) g s (words r.n)
theorem gK_at {r : Ru} {g : List Bool → Int} {i : Nat} {a b : V} (e1 : ((gK r g)[i]?.map fun kv => kV kv.1) = some a) (e2 : ((gK r g)[i]?.map Prod.snd) = some b) : ∃ t, (words r.n)[i]? = some t ∧ a = .str (enc t) ∧ b = .int (g t) := by
  unfold gK at e1 e2
  rw [List.getElem?_map] at e1 e2
  cases hti : (words r.n)[i]? with
  | none => rw [hti] at e1; cases e1
  | some t =>
    rw [hti] at e1 e2
    exact ⟨t, rfl, (Option.some.inj e1).symm, (Option.some.inj e2).symm⟩
theorem join_sg : ∀ l : List Bool, PySem.Txt.join (Str.ofString "") (l.map sg) = enc l := by
  intro l
  rw [TL.join_eq]
  induction l with
  | nil =>
    show Str.empty = enc []
    rfl
  | cons b l ih =>
    cases l with
    | nil => rfl
    | cons c l =>
      show sg b ++ Str.ofString "" ++ Str.join (Str.ofString "") (sg c :: l.map sg) = enc (b :: c :: l)
      have ih : Str.join (Str.ofString "") (sg c :: l.map sg) = enc (c :: l) := ih
      rw [ih, ← enc_nil, ← sg_enc, enc_append, enc_append]
      rfl
section
variable {P : Program} {w : World} {K : PySem.W.Frag} {mg : Str → Option Value} {base : Heap}
/-! ### lifted -/
def spLifted : Sp := fun vs H Q _ => ∃ (ha ga ca : Addr) (og : Obj) (r : Ru) (g : List Bool → Int) (s : Lf (List Bool) (List Bool)) (cb : List (Key × V)), vs = [.ref ha, .ref ga, .ref ca] ∧ r.Ok ∧ H ha = some (.dK (hK r.m s.h)) ∧
  H ga = some (.frz og (.dK (gK r g))) ∧ H ca = some (.dK cb) ∧ CB cb s.c ∧ cb.length ≤ 1000 ∧ ha ≠ ca ∧
  ∀ cb' H', (∀ b o, b ≠ ha → b ≠ ca → H b = some o → H' b = some o) → H' ha = some (.dK (hK r.m (lfs r g s).1.h)) → H' ca = some (.dK cb') → CB cb' (lfs r g s).1.c → cb'.length ≤ cb.length + 32 → Q (fv (lfs r g s).2) H'
theorem okLifted (T : Txt K mg) : FnOk P w K mg base CX0 1 T.dLifted.f T.dLifted.fd ["heights", "gains", "came_by"] spLifted := by
  refine fok T.dLifted.F scLifted (fun vs H Q E h => ?_) (fun cdv A outer s H vs Q E hr h => ?_)
  · obtain ⟨ha, ga, ca, og, r, g, s, cb, rfl, _⟩ := h
    rfl
  · obtain ⟨ha, ga, ca, og, r, g, s0, cb, rfl, ok, h1, h2, h3, hC, hl, hac, k⟩ := h
    have hu := hu_of hr
    refine ⟨_, pss_cons (ps_set (i := 3) scLifted.nd rfl (.inl rfl) pe_non)
      (pss_cons (ps_for PassesOwn.never rfl (pi_items (pv 1)) (pg_tup rfl (pgs_cons (pg_name (i := 4) scLifted.nd rfl (.inl rfl)) (pgs_cons (pg_name (i := 5) scLifted.nd rfl (.inl rfl)) pgs_nil)))
        (pss_one (ps_if (pt_cmpR op_gt (pe_op op_add (pe_dget hu (pv 0) (pe_slice sl_str (pv 4) po_none (po_some (pe_un un_neg pe_int))) (fun _ _ => rfl)) (pv 5)) (pe_dget hu (pv 0) (pe_slice sl_str (pv 4) (po_some pe_int) po_none) (fun _ _ => rfl)) (nomark _))
          (pss_cons (ps_dput hu (pv 0) (pe_slice sl_str (pv 4) (po_some pe_int) po_none) (pe_op op_add (pe_dget hu (pv 0) (pe_slice sl_str (pv 4) po_none (po_some (pe_un un_neg pe_int))) (fun _ _ => rfl)) (pv 5)) rfl)
          (pss_cons (ps_dput hu (pv 2) (pe_slice sl_str (pv 4) (po_some pe_int) po_none) (pv 4) rfl)
          (pss_one (ps_set (i := 3) scLifted.nd rfl (.inl rfl) (pe_slice sl_str (pv 4) (po_some pe_int) po_none))))) pss_nil)))
      (pss_one (ps_ret (pv 3)))), ?_⟩
    have nag : ga ≠ ha := ne_of h2 h1 (by intro z; cases z)
    have ngc : ga ≠ ca := ne_of h2 h3 (by intro z; cases z)
    refine ⟨.ref ga, rfl, ga, og, gK r g, rfl, h2, ?_⟩
    refine for_it (walk_items (d := ga) (o := og) (kvs := gK r g)) (fun i σ H' => ∃ x y cb', σ = [some (.ref ha), some (.ref ga), some (.ref ca), some (fv (((words r.n).take i).foldl (lf1 g) (s0, none)).2), x, y] ∧
        (∀ b o, b ≠ ha → b ≠ ca → H b = some o → H' b = some o) ∧ H' ha = some (.dK (hK r.m (((words r.n).take i).foldl (lf1 g) (s0, none)).1.h)) ∧ H' ca = some (.dK cb') ∧ CB cb' (((words r.n).take i).foldl (lf1 g) (s0, none)).1.c ∧ cb'.length ≤ cb.length + i)
      ⟨none, none, cb, rfl, fun _ _ _ _ z => z, h1, h3, hC, Nat.le_refl _⟩ (fun i σ H' _ ⟨_, _, _, _, kp, _⟩ => kp _ _ nag ngc h2) ?_ ?_
    · rintro i v σ H1 H2 hi ⟨x0, y0, cb', rfl, kp, hh, hc, hCB, hcl⟩ ⟨A1, a, b, rfl, nA, rfl, e1, e2⟩
      rw [gK_len] at hi
      have h32 := pw_n ok
      obtain ⟨t, hti, rfl, rfl⟩ := gK_at e1 e2
      have htl : t.length = r.n := mem_words.mp (List.mem_of_getElem? hti)
      have hnm := n_m ok
      have hn5 := n5 ok
      have l1 : t.dropLast.length = r.m := by rw [List.length_dropLast]; omega
      have l2 : (t.drop 1).length = r.m := by rw [List.length_drop]; omega
      have sz : (enc t).length ≤ sizeLine := by rw [enc_len]; exact Nat.le_of_lt (small1000 (by omega))
      have hh2 := (same_new (o := .tup [.str (enc t), .int (g t)]) nA) _ _ hh
      have hc2 := (same_new (o := .tup [.str (enc t), .int (g t)]) nA) _ _ hc
      have kp2 : ∀ b o, b ≠ ha → b ≠ ca → H b = some o → (upd H1 A1 (.tup [.str (enc t), .int (g t)])) b = some o := fun b o n1 n2 z => (same_new nA) _ _ (kp b o n1 n2 z)
      have st : ((words r.n).take (i + 1)).foldl (lf1 g) (s0, none) = lf1 g (((words r.n).take i).foldl (lf1 g) (s0, none)) t := by
        rw [List.take_add_one, hti, List.foldl_append]
        rfl
      rw [st]
      generalize ((words r.n).take i).foldl (lf1 g) (s0, none) = S at hh hh2 hCB ⊢
      have hA : (upd H1 A1 (.tup [.str (enc t), .int (g t)])) A1 = some (.tup [.str (enc t), .int (g t)]) := upd_same
      generalize upd H1 A1 (.tup [.str (enc t), .int (g t)]) = H3 at hh2 hc2 kp2 hA ⊢
      have g1 := dget_f (H := H3) (a := ha) (kvs := hK r.m S.1.h) (k := Sum.inr (enc t.dropLast)) (.inl hh2)
      rw [hK_val l1] at g1
      have g2 := dget_f (H := H3) (a := ha) (kvs := hK r.m S.1.h) (k := Sum.inr (enc (t.drop 1))) (.inl hh2)
      rw [hK_val l2] at g2
      refine ⟨A1, [.str (enc t), .int (g t)], rfl, SqT.of hA, rfl, _, _, rfl, _, _, rfl, rfl, ?_⟩
      refine ⟨.ref ha, rfl, .str (enc t), rfl, 1, rfl, -1, rfl, enc t, rfl, sz, ?_⟩
      rw [cut_init]
      refine ⟨ha, _, rfl, g1, .int (g t), rfl, _, _, rfl, rfl, .ref ha, rfl, .str (enc t), rfl, 1, rfl, enc t, rfl, sz, ?_⟩
      rw [cut_tail]
      refine ⟨ha, _, rfl, g2, _, _, rfl, rfl, _, rfl, ?_⟩
      by_cases hlt : S.1.h (t.drop 1) < S.1.h t.dropLast + g t
      · have el : lf1 g S t = (⟨put S.1.h (t.drop 1) (S.1.h t.dropLast + g t), put S.1.c (t.drop 1) (some t)⟩, some (t.drop 1)) := if_pos hlt
        rw [el, decide_eq_true hlt]
        refine iteT ?_
        -- heights[around[1:]] = heights[around[:-1]] + gain
        refine ⟨.ref ha, rfl, .str (enc t), rfl, 1, rfl, -1, rfl, enc t, rfl, sz, ?_⟩
        rw [cut_init]
        refine ⟨ha, _, rfl, g1, .int (g t), rfl, _, _, rfl, rfl, .ref ha, rfl, .str (enc t), rfl, 1, rfl, enc t, rfl, sz, ?_⟩
        rw [cut_tail]
        refine ⟨ha, _, rfl, DPut.k (k := Sum.inr (enc (t.drop 1))) hh2 (by rw [hK_len]; have := pw_m ok; exact small1000 (by omega)), ?_⟩
        dsimp only
        rw [hK_put l2]
        -- came_by[around[1:]] = around
        have hc4 : (upd H3 ha (.dK (hK r.m (put S.1.h (t.drop 1) (S.1.h t.dropLast + g t))))) ca = some (.dK cb') := by
          rw [upd_ne hac.symm]
          exact hc2
        refine ⟨.str (enc t), rfl, .ref ca, rfl, .str (enc t), rfl, 1, rfl, enc t, rfl, sz, ?_⟩
        rw [cut_tail]
        refine ⟨ca, _, rfl, DPut.k (k := Sum.inr (enc (t.drop 1))) hc4 (small4096 (by omega)), ?_⟩
        -- found = around[1:]
        refine ⟨.str (enc t), rfl, 1, rfl, enc t, rfl, sz, ?_⟩
        rw [cut_tail]
        refine ⟨_, _, _, rfl, fun b o n1 n2 z => ?_, ?_, upd_same, hCB.put _ _, ?_⟩
        · rw [upd_ne n2, upd_ne n1]
          exact kp2 b o n1 n2 z
        · rw [upd_ne hac, upd_same]
        · exact Nat.le_trans (length_putK _ _ _) (Nat.succ_le_succ hcl)
      · have el : lf1 g S t = S := if_neg hlt
        rw [el, decide_eq_false hlt]
        refine iteF ?_
        exact ⟨_, _, cb', rfl, kp2, hh2, hc2, hCB, Nat.le_succ_of_le hcl⟩
    · rintro σ H1 ⟨x0, y0, cb', rfl, kp, hh, hc, hCB, hcl⟩
      rw [gK_len, ← words_length, List.take_length] at hh hCB ⊢
      refine ⟨_, rfl, k cb' H1 kp hh hc hCB ?_⟩
      rw [gK_len] at hcl
      have h32 := pw_n ok
      omega
end
end Wp
/-! ring_behind. -/
namespace Wp
open PySem PySem.Spec PyProof.Rows L2
abbrev wk (c : List Bool → Option (List Bool)) (v : List Bool) (j : Nat) : List Bool := walk List.dropLast c v j
/-- the chain of edges from v: each is there, is no longer than a hundred, and leads on -/
def Chn (c : List Bool → Option (List Bool)) (v : List Bool) : Prop := ∀ j, ∃ x, c (wk c v j) = some x ∧ x ≠ [] ∧ x.length ≤ 100 ∧ x.dropLast = wk c v (j + 1)
section
variable {P : Program} {w : World} {K : PySem.W.Frag} {mg : Str → Option Value} {base : Heap}
def spRingB : Sp := fun vs H Q _ => ∃ (ca : Addr) (v : List Bool) (N L : Nat) (cb : List (Key × V)) (c : List Bool → Option (List Bool)), vs = [.ref ca, .str (enc v), .int (N : Int)] ∧ H ca = some (.dK cb) ∧ CB cb c ∧ Chn c v ∧ N ≤ 100 ∧ 0 < L ∧ L ≤ 100 ∧
  wk c v (N + L) = wk c v N ∧ (∀ j, 0 < j → j < L → ¬ wk c v (N + j) = wk c v N) ∧ ∀ H', Same H H' → Q (.str (enc (ringT c (wk c v N) L))) H'
theorem okRingBehind (T : Txt K mg) : FnOk P w K mg base CX0 1 T.dRingBehind.f T.dRingBehind.fd ["came_by", "spot", "size"] spRingB := by
  refine fok T.dRingBehind.F scRingBehind (fun vs H Q E h => ?_) (fun cdv A outer s H vs Q E hr h => ?_)
  · obtain ⟨ca, v, N, L, cb, c, rfl, _⟩ := h
    rfl
  · obtain ⟨ca, v, N, L, cb, c, rfl, hc, hCB, hch, hN, hL, hL100, hper, hmin, k⟩ := h
    have hu := hu_of hr
    -- came_by[..] at a standing of the chain
    have get : ∀ (j : Nat), ∃ x, c (wk c v j) = some x ∧ x ≠ [] ∧ (enc x).length ≤ sizeLine ∧ x.dropLast = wk c v (j + 1) ∧ ∀ H', H' ca = some (.dK cb) → DGet H' ca (.str (enc (wk c v j))) (some (.str (enc x))) := by
      intro j
      obtain ⟨x, e1, e2, e3, e4⟩ := hch j
      refine ⟨x, e1, e2, (by rw [enc_len]; exact Nat.le_of_lt (small1000 (by omega))), e4, fun H' hd => ?_⟩
      have g := dget_f (H := H') (a := ca) (kvs := cb) (k := Sum.inr (enc (wk c v j))) (.inl hd)
      rw [hCB, e1] at g
      exact g
    refine ⟨_, pss_cons (ps_for PassesOwn.never rfl (pi_range1 (by rfl) T.n_range (pa_cons (pv 2) pa_nil)) (pg_name (i := 3) scRingBehind.nd rfl (.inl rfl))
        (pss_one (ps_set (i := 1) scRingBehind.nd rfl (.inl rfl) (pe_slice sl_str (pe_dget hu (pv 0) (pv 1) (fun _ _ => rfl)) po_none (po_some (pe_un un_neg pe_int))))))
      (pss_cons (ps_par (i := 4) (j := 5) rfl scRingBehind.nd rfl rfl (by decide) rfl rfl (pa_cons (pe_lst (pa_cons (pe_ix ix_str (pe_dget hu (pv 0) (pv 1) (fun _ _ => rfl)) (pe_un un_neg pe_int) (fun _ _ => rfl)) pa_nil))
        (pa_cons (pe_slice sl_str (pe_dget hu (pv 0) (pv 1) (fun _ _ => rfl)) po_none (po_some (pe_un un_neg pe_int))) pa_nil)) (by rfl))
      (pss_cons (ps_while PassesOwn.never (pt_cmpR op_ne (pv 5) (pv 1) (nomark _))
        (pss_cons (ps_expr (pe_bm PySem.F.plainAttrs_list PySem.F.slot_list_append PySem.F.type_list_append mt_append (pv 4) (pa_cons (pe_ix ix_str (pe_dget hu (pv 0) (pv 5) (fun _ _ => rfl)) (pe_un un_neg pe_int) (fun _ _ => rfl)) pa_nil)))
        (pss_one (ps_set (i := 5) scRingBehind.nd rfl (.inl rfl) (pe_slice sl_str (pe_dget hu (pv 0) (pv 5) (fun _ _ => rfl)) po_none (po_some (pe_un un_neg pe_int)))))))
      (pss_one (ps_ret (pe_bm PySem.F.plainAttrs_str PySem.F.slot_str_join PySem.F.type_str_join mt_join pe_str (pa_cons (pe_revL (pv 4)) pa_nil)))))), ?_⟩
    refine ⟨.int (N : Int), rfl, (N : Int), rfl, by omega, by omega, ?_⟩
    rw [Int.toNat_natCast]
    refine for_range (lo := 0) (n := N) (fun i σ H' => ∃ x, σ = [some (.ref ca), some (.str (enc (wk c v i))), some (.int (N : Int)), x, none, none] ∧ H' = H) ⟨none, rfl, rfl⟩ ?_ ?_
    · rintro i σ H' hi ⟨x0, rfl, rfl⟩
      obtain ⟨x, e1, e2, e3, e4, g⟩ := get i
      refine ⟨.ref ca, rfl, .str (enc (wk c v i)), rfl, ca, .str (enc x), rfl, g _ hc, 1, rfl, -1, rfl, enc x, rfl, e3, ?_⟩
      rw [cut_init, e4]
      exact ⟨_, rfl, rfl⟩
    · rintro σ H' ⟨x0, rfl, rfl⟩
      obtain ⟨x, e1, e2, e3, e4, g⟩ := get N
      have lt0 : ltr c (wk c v N) 0 = x.getLastD false := by
        unfold ltr
        show ((c (wk c v N)).getD []).getLastD false = _
        rw [e1]
        rfl
      refine ⟨.ref ca, rfl, .str (enc (wk c v N)), rfl, ca, .str (enc x), rfl, g _ hc, 1, rfl, enc x, -1, _, rfl, rfl, e3, last_enc e2, (by show 1 ≤ sizeLine; decide), fun F nF => ?_⟩
      have hcF : ∀ o, (upd H' F o) ca = some (.dK cb) := fun o => by
        rw [upd_ne (ne_of_none hc nF)]
        exact hc
      refine ⟨.ref ca, rfl, .str (enc (wk c v N)), rfl, ca, .str (enc x), rfl, g _ (hcF _), 1, rfl, -1, rfl, enc x, rfl, e3, ?_⟩
      rw [cut_init, e4]
      refine ⟨_, _, rfl, ?_⟩
      -- while here != spot
      refine while_by (fun σ H2 => ∃ (j : Nat) (y : Option V), σ = [some (.ref ca), some (.str (enc (wk c v N))), some (.int (N : Int)), y, some (.ref F), some (.str (enc (wk c v (N + j))))] ∧ 0 < j ∧ j ≤ L ∧ Same H' H2 ∧
          H2 F = some (.lst (((List.range j).map (ltr c (wk c v N))).map fun b => V.str (sg b))))
        (fun σ H2 => match H2 F with | some (.lst l) => L - l.length | _ => 0) ⟨1, x0, rfl, Nat.one_pos, hL, same_new nF, ?_⟩ ?_ (fun σ H Q Q' hh hc => ?_)
      · rw [upd_same]
        show some (HO.lst [V.str ⟨#[ch (x.getLastD false)]⟩]) = some (HO.lst [V.str (sg (ltr c (wk c v N) 0))])
        rw [lt0]
        rfl
      · rintro σ H2 ⟨j, y, rfl, hj, hjL, sm, hF⟩
        refine ⟨_, rfl, _, rfl, rfl, _, rfl, ?_⟩
        rw [dec_str]
        by_cases he : wk c v (N + j) = wk c v N
        · have hb : (!(enc (wk c v (N + j)) == enc (wk c v N))) = false := by
            rw [he]
            simp
          rw [hb]
          refine iteF ?_
          have hjL2 : j = L := by
            apply Classical.byContradiction
            intro hne
            exact hmin j hj (by omega) he
          subst hjL2
          -- return ''.join(found[::-1])
          refine ⟨rfl, .ref F, rfl, F, _, rfl, SqL.of hF, fun R nR => ?_⟩
          refine ⟨Str.ofString "", R, (ringT c (wk c v N) j).map sg, rfl, rfl, .inl (SqL.of ?_), ?_, ?_⟩
          · rw [upd_same]
            unfold ringT
            simp only [List.map_map, List.map_reverse]
            rfl
          · have hs : ∀ l : List Bool, ((l.map sg).map (·.length)).sum = l.length := by
              intro l
              induction l with
              | nil => rfl
              | cons a l ih =>
                rw [List.map_cons, List.map_cons, List.sum_cons, ih, List.length_cons]
                show 1 + l.length = l.length + 1
                omega
            rw [hs, ringT_length]
            have : (Str.ofString "").length = 0 := by decide +kernel
            rw [this]
            omega
          · rw [join_sg]
            exact k _ (sm_upd sm (sm.free nR))
        · have hb : (!(enc (wk c v (N + j)) == enc (wk c v N))) = true := by
            rw [Bool.not_eq_true', beq_eq_false_iff_ne]
            intro z
            exact he (enc_inj z)
          rw [hb]
          refine iteT ?_
          have hjL2 : j < L := by
            apply Classical.byContradiction
            intro hne
            have : j = L := by omega
            subst this
            exact he hper
          obtain ⟨x, e1, e2, e3, e4, g⟩ := get (N + j)
          have ltj : ltr c (wk c v N) j = x.getLastD false := by
            unfold ltr
            have : walk List.dropLast c (wk c v N) j = wk c v (N + j) := (walk_add List.dropLast c v N j).symm
            rw [this, e1]
            rfl
          have hc2 := sm _ _ hc
          have nFc : F ≠ ca := (ne_of hc2 hF (by intro z; cases z)).symm
          refine ⟨.ref F, rfl, .inl ⟨rfl, _, SqL.of hF⟩, .ref ca, rfl, .str (enc (wk c v (N + j))), rfl, ca, .str (enc x), rfl, g _ hc2, 1, rfl, enc x, -1, _, rfl, rfl, e3, last_enc e2, F, _, _, rfl, rfl, hF, ?_, ?_⟩
          · rw [List.length_map, List.length_map, List.length_range]
            exact small1000 (by omega)
          · have hc3 : (upd H2 F (.lst ((((List.range j).map (ltr c (wk c v N))).map fun b => V.str (sg b)) ++ [.str ⟨#[ch (x.getLastD false)]⟩]))) ca = some (.dK cb) := by
              rw [upd_ne nFc.symm]
              exact hc2
            refine ⟨.ref ca, rfl, .str (enc (wk c v (N + j))), rfl, ca, .str (enc x), rfl, g _ hc3, 1, rfl, -1, rfl, enc x, rfl, e3, ?_⟩
            rw [cut_init, e4]
            refine ⟨⟨j + 1, _, rfl, Nat.succ_pos j, hjL2, ?_, ?_⟩, ?_⟩
            · intro b o z
              rw [upd_ne (ne_of_none z nF)]
              exact sm b o z
            · rw [upd_same, List.range_succ, List.map_append, List.map_append]
              show _ = some (HO.lst (_ ++ [V.str (sg (ltr c (wk c v N) j))]))
              rw [ltj]
              rfl
            · show (match (upd H2 F _) F with | some (.lst l) => L - l.length | _ => 0) < (match H2 F with | some (.lst l) => L - l.length | _ => 0)
              rw [upd_same, hF]
              dsimp only
              rw [List.length_append, List.length_map, List.length_map, List.length_range]
              show L - (j + 1) < L - j
              omega
      · obtain ⟨a, ha, b, hb, c1, d, e3, q1⟩ := hc
        exact ⟨a, ha, b, hb, c1, d, e3, hh _ _ q1⟩
end
end Wp
/-! weighed, ring, greatest_share, least_share. -/
namespace Wp
open PySem PySem.Spec PyProof.Rows L2
theorem wr_succ (r : Ru) (sg p q : Int) (i : Nat) : wr r sg p q (i + 1) = lfs r (gain (st r) sg p q) (wr r sg p q i).1 := rfl
section
variable {P : Program} {w : World} {K : PySem.W.Frag} {mg : Str → Option Value} {base : Heap}
/-! ### weighed -/
def spWeighed (K : PySem.W.Frag) (C : Addr) : Sp := fun vs H Q _ => ∃ (pa va lo : Addr) (r : Ru) (up : Bool) (p q : Int), vs = [.ref pa, .ref va, .bl up, .ref lo] ∧ r.Ok ∧ RAt C H pa r ∧ SqT K H va [.int p, .int q] ∧ SqT K H lo [] ∧
  (-(2 ^ 64) < q ∧ q < 2 ^ 64) ∧ (∀ a x H', Same H H' → H' a = some (.tup [x, .non]) → (∀ t : List Bool, sgn up * (q * (cnt r t : Int) - p * (t.length : Int)) ≤ 0) → Q (.ref a) H') ∧
  (∀ a (t : List Bool) H', Same H H' → H' a = some (.tup [.non, .str (enc t)]) → 0 < t.length → t.length ≤ 2 ^ r.m → 0 < sgn up * (q * (cnt r t : Int) - p * (t.length : Int)) → Q (.ref a) H')
theorem okWeighed (T : Txt K mg) : FnOk P w K mg base CX0 6 T.dWeighed.f T.dWeighed.fd ["rule", "value", "is_greatest", "lot"] (spWeighed K T.C) := by
  refine fok T.dWeighed.F scWeighed (fun vs H Q E h => ?_) (fun cdv A outer s H vs Q E hr h => ?_)
  · obtain ⟨pa, va, lo, r, up, p, q, rfl, _⟩ := h
    rfl
  · obtain ⟨pa, va, lo, r, up, p, q, rfl, ok, R, hv, hlo, hq, k1, k2⟩ := h
    have GG : FnOk P w K mg base CX0 5 T.dGainsBy.f T.dGainsBy.fd ["rule", "value", "is_greatest", "lot"] (spGainsBy K T.C) := okGainsBy T
    have GS : FnOk P w K mg base CX0 3 T.dStandings.f T.dStandings.fd ["rule"] (spStandings T.C) := okStandings T
    have GL : FnOk P w K mg base CX0 1 T.dLifted.f T.dLifted.fd ["heights", "gains", "came_by"] spLifted := okLifted T
    have GR : FnOk P w K mg base CX0 1 T.dRingBehind.f T.dRingBehind.fd ["came_by", "spot", "size"] spRingB := okRingBehind T
    have hr1 : Room 1 _ := hr.mono (by decide)
    have hr3 : Room 3 _ := hr.mono (by decide)
    refine ⟨_, pss_cons (ps_set (i := 4) scWeighed.nd rfl (.inl rfl) (pe_call GG hr (by rfl) T.dGainsBy.g T.dGainsBy.F.kp (bGainsBy _) .nil pass0 (pa_cons (pv 0) (pa_cons (pv 1) (pa_cons (pv 2) (pa_cons (pv 3) pa_nil))))))
      (pss_cons (ps_par (i := 5) (j := 6) rfl scWeighed.nd rfl rfl (by decide) rfl rfl (pa_cons (pe_dc (own := [("text", 9)]) (g := gName 9) (tt := tYes) (by rfl) scWeighed.nd
            (pi_list (pe_call GS hr3 (by rfl) T.dStandings.g T.dStandings.F.kp (bStandings _) .nil pass0 (pa_cons (pv 0) pa_nil)))
            (blkOk_by (own := [("text", 9)]) (N := ["rule", "value", "is_greatest", "lot", "gains", "heights", "came_by", "turn", "last", "text"]) (sc := defScope sWeighed) (by decide +kernel))
            (fun _ _ _ _ _ => pg_name (i := 9) scWeighed.nd rfl (Or.inl rfl)) (fun _ _ _ _ _ => pts_nil) (fun _ _ _ _ _ => pv 9) (fun _ _ _ _ _ => pe_int)) (pa_cons pe_dnewK pa_nil)) (by rfl))
      (pss_cons (ps_for PassesOwn.never rfl (pi_range1 (by rfl) T.n_range (pa_cons (pe_op op_add (pe_callB call_lenD (by rfl) T.n_len PySem.boot_len (pa_cons (pv 5) pa_nil)) pe_int) pa_nil)) (pg_name (i := 7) scWeighed.nd rfl (.inl rfl))
        (pss_cons (ps_set (i := 8) scWeighed.nd rfl (.inl rfl) (pe_call GL hr1 (by rfl) T.dLifted.g T.dLifted.F.kp (bLifted _) .nil pass0 (pa_cons (pv 5) (pa_cons (pv 4) (pa_cons (pv 6) pa_nil)))))
        (pss_one (ps_if (pt_cmp (pc_isN (pv 8))) (pss_one (ps_ret (pe_tup (pa_cons (pv 5) (pa_cons pe_non pa_nil))))) pss_nil))))
      (pss_one (ps_ret (pe_tup (pa_cons pe_non (pa_cons (pe_call GR hr1 (by rfl) T.dRingBehind.g T.dRingBehind.F.kp (bRingBehind _) .nil pass0 (pa_cons (pv 6) (pa_cons (pv 8) (pa_cons (pe_callB call_lenD (by rfl) T.n_len PySem.boot_len (pa_cons (pv 5) pa_nil)) pa_nil)))) pa_nil))))))), ?_⟩
    have h16 := pw_m ok
    -- gains
    refine ⟨.ref pa, rfl, .ref va, rfl, .bl up, rfl, .ref lo, rfl, pa, va, lo, r, up, p, q, rfl, ok, R, hv, hlo, hq, fun ga og H1 sm1 hg => ?_⟩
    -- heights, came_by
    refine ⟨.ref pa, rfl, pa, r, rfl, ok, R.mono sm1, fun sa H2 sm2 hs => ?_⟩
    refine ⟨sa, rfl, ⟨_, SqL.of hs⟩, fun ha nha => ?_⟩
    refine it_by (walk_list (K := K) (a := sa) (xs := vt (words r.m))) (fun j H' => Same H2 H' ∧ H' ha = some (.dK (((words r.m).take j).map fun t => ((Sum.inr (enc t) : Key), V.int 0)))) ⟨same_new nha, by rw [upd_same]; rfl⟩ (fun j H' _ p => SqL.of (p.1 _ _ hs)) ?_ ?_
    · rintro j x H3 H4 hj ⟨sm3, hD⟩ ⟨rfl, hx⟩
      obtain ⟨t, htj, rfl⟩ := vt_get hx
      rw [vt_len, words_length] at hj
      refine ⟨rfl, ?_⟩
      refine ⟨.str (enc t), rfl, _, Sum.inr (enc t), rfl, hD, ?_, sm_upd sm3 nha, ?_⟩
      · rw [List.length_map, List.length_take, words_length]
        exact small1000 (by omega)
      · rw [upd_same, putK_texts (f := fun _ => V.int 0) (nodup_take_next (nodup_words _) htj), List.take_add_one, htj, List.map_append]
        rfl
    · rintro H3 ⟨sm3, hh3⟩
      rw [vt_len, List.take_length] at hh3
      have hh3 : H3 ha = some (.dK (hK r.m (wr r (sgn up) p q 0).1.h)) := hh3
      intro ca nca
      have sm03 : Same H H3 := (sm1.trans sm2).trans sm3
      have nha0 : H ha = none := (sm1.trans sm2).free nha
      have nca0 : H ca = none := sm03.free nca
      have hac : ha ≠ ca := ne_of_none hh3 nca
      refine ⟨_, _, rfl, ?_⟩
      have hh4 : (upd H3 ca (.dK [])) ha = some (.dK (hK r.m (wr r (sgn up) p q 0).1.h)) := by
        rw [upd_ne hac]
        exact hh3
      have hg3 : H3 ga = some (.frz og (.dK (gK r (gain (st r) (sgn up) p q)))) := sm3 _ _ (sm2 _ _ hg)
      have ngh : ga ≠ ha := ne_of hg3 hh3 (by intro z; cases z)
      have ngc : ga ≠ ca := ne_of_none hg3 nca
      have hg4 : (upd H3 ca (.dK [])) ga = some (.frz og (.dK (gK r (gain (st r) (sgn up) p q)))) := by
        rw [upd_ne ngc]
        exact hg3
      refine ⟨.ref ha, rfl, ha, _, rfl, hh4, _, _, rfl, rfl, _, rfl, ?_, ?_, ?_⟩
      · rw [hK_len]
        have hb := h16
        generalize 2 ^ r.m = N at hb
        omega
      · rw [hK_len]
        have hb := h16
        generalize 2 ^ r.m = N at hb
        omega
      have eN : (((hK r.m (wr r (sgn up) p q 0).1.h).length : Int) + 1).toNat = 2 ^ r.m + 1 := by
        rw [hK_len]
        generalize 2 ^ r.m = N
        omega
      rw [eN]
      refine for_range (lo := 0) (n := 2 ^ r.m + 1) (fun i σ H' => ∃ x y cb, σ = [some (.ref pa), some (.ref va), some (.bl up), some (.ref lo), some (.ref ga), some (.ref ha), some (.ref ca), x, y, none] ∧
          (∀ b o, b ≠ ha → b ≠ ca → H3 b = some o → H' b = some o) ∧ H' ha = some (.dK (hK r.m (wr r (sgn up) p q i).1.h)) ∧ H' ca = some (.dK cb) ∧ CB cb (wr r (sgn up) p q i).1.c ∧ cb.length ≤ 32 * i ∧
          (0 < i → ∃ v, (wr r (sgn up) p q i).2 = some v ∧ y = some (.str (enc v))))
        ⟨none, none, [], rfl, fun b o n1 n2 z => by rw [upd_ne n2]; exact z, hh4, upd_same, CB.nil, Nat.le_refl _, fun z => absurd z (Nat.lt_irrefl 0)⟩ ?_ ?_
      · rintro i σ H5 hi ⟨x0, y0, cb, rfl, kp, hh5, hc5, hCB, hcl, _⟩
        refine ⟨.ref ha, rfl, .ref ga, rfl, .ref ca, rfl, ha, ga, ca, og, r, gain (st r) (sgn up) p q, (wr r (sgn up) p q i).1, cb, rfl, ok, hh5, kp _ _ ngh ngc hg3, hc5, hCB, by omega, hac, fun cb' H6 kp6 hh6 hc6 hCB6 hcl6 => ?_⟩
        rw [← wr_succ] at hh6 hCB6 ⊢
        have sm6 : ∀ b o, b ≠ ha → b ≠ ca → H3 b = some o → H6 b = some o := fun b o n1 n2 z => kp6 b o n1 n2 (kp b o n1 n2 z)
        have smH : Same H H6 := fun b o z => sm6 b o (ne_of_none z nha0) (ne_of_none z nca0) (sm03 _ _ z)
        refine ⟨_, rfl, _, rfl, ?_⟩
        cases he : (wr r (sgn up) p q (i + 1)).2 with
        | none =>
          refine iteT ?_
          refine ⟨.ref ha, rfl, (by show 2 ≤ sizeLine; decide), fun a na => ?_⟩
          exact k1 a (.ref ha) _ (sm_upd smH (smH.free na)) upd_same fun t => wr_none (n_m ok) he t
        | some v =>
          refine iteF ?_
          exact ⟨_, _, cb', rfl, sm6, hh6, hc6, hCB6, by omega, fun _ => ⟨v, rfl, rfl⟩⟩
      · rintro σ H5 ⟨x0, y0, cb, rfl, kp, hh5, hc5, hCB, hcl, hlast⟩
        obtain ⟨v, hv5, rfl⟩ := hlast (Nat.succ_pos _)
        obtain ⟨hch, L, hL, hLN, hper, hmin, hgain⟩ := wr_ring (n_m ok) (m1 ok) hv5
        have smH : Same H H5 := fun b o z => kp b o (ne_of_none z nha0) (ne_of_none z nca0) (sm03 _ _ z)
        have hn5 := n5 ok
        have hnm := n_m ok
        refine ⟨.ref ca, rfl, .str (enc v), rfl, .ref ha, rfl, ha, _, rfl, hh5, ca, v, 2 ^ r.m, L, cb, _, ?_, hc5, hCB, fun j => ?_, by omega, hL, by omega, hper, hmin, fun H6 sm6 => ?_⟩
        · rw [hK_len]
          rfl
        · obtain ⟨x, e1, e2, e3, e4⟩ := hch j
          refine ⟨x, e1, ?_, by omega, e4⟩
          intro z
          rw [z] at e2
          have : 0 = r.n := e2
          omega
        · refine ⟨(by show 2 ≤ sizeLine; decide), fun a na => ?_⟩
          have smH6 := smH.trans sm6
          refine k2 a (ringT (wr r (sgn up) p q (2 ^ r.m + 1)).1.c (wk (wr r (sgn up) p q (2 ^ r.m + 1)).1.c v (2 ^ r.m)) L) _ (sm_upd smH6 (smH6.free na)) upd_same ?_ ?_ ?_
          · rw [ringT_length]; exact hL
          · rw [ringT_length]; exact hLN
          · rw [ringT_length]; exact hgain
end
end Wp
/-! ring, greatest_share, least_share. -/
namespace Wp
open PySem PySem.Spec PyProof.Rows L2
/-- no text has a share beyond that of t -/
def Ext (r : Ru) (up : Bool) (t : List Bool) : Prop := ∀ u : List Bool, 0 < u.length → if up = true then cnt r u * t.length ≤ cnt r t * u.length else cnt r t * u.length ≤ cnt r u * t.length
theorem ext_of {r : Ru} {up : Bool} {t : List Bool} (ht : 0 < t.length) (h : ∀ u : List Bool, sgn up * (((shS r t).2 : Int) * (cnt r u : Int) - ((shS r t).1 : Int) * (u.length : Int)) ≤ 0) : Ext r up t := fun u hu => by
  cases up with
  | true => exact iteT (within_up ht (h u))
  | false => exact iteF (within_dn ht (h u))
/-- how much better a ring can still get -/
def left (r : Ru) (up : Bool) (t : List Bool) : Nat := if up = true then fac (2 ^ r.m) - worth (2 ^ r.m) r t else worth (2 ^ r.m) r t
theorem left_lt {r : Ru} {up : Bool} {t u : List Bool} (ht : 0 < t.length) (htN : t.length ≤ 2 ^ r.m) (hu : 0 < u.length) (huN : u.length ≤ 2 ^ r.m) (h : 0 < sgn up * (((shS r t).2 : Int) * (cnt r u : Int) - ((shS r t).1 : Int) * (u.length : Int))) : left r up u < left r up t := by
  unfold left
  cases up with
  | true =>
    rw [if_pos rfl, if_pos rfl]
    have h1 := worth_lt (N := 2 ^ r.m) (r := r) ht htN hu huN (beyond_up ht h)
    have h2 := worth_le (2 ^ r.m) r u
    omega
  | false =>
    rw [if_neg Bool.false_ne_true, if_neg Bool.false_ne_true]
    exact worth_lt hu huN ht htN (beyond_dn ht h)
theorem shS_small1 {r : Ru} {t : List Bool} : (shS r t).1 ≤ t.length := Nat.le_trans (Nat.div_le_self _ _) (cnt_le r t)
theorem shS_small {r : Ru} {t : List Bool} : (shS r t).2 ≤ t.length := Nat.div_le_self _ _
section
variable {P : Program} {w : World} {K : PySem.W.Frag} {mg : Str → Option Value} {base : Heap}
theorem bRing {lo : Addr} (d : Gd K mg "ring" sRing [.ref lo]) : Binds K d.fd ["rule", "is_greatest", "lot"] [] := by
  obtain ⟨ds, hv, hb⟩ := d.F.binds1 (ps := ["rule", "is_greatest", "lot"]) 3 1 (by simp) (by rfl) fun T kV doc pm an cdv ct us its hl hi =>
    match us, hl with
    | [_, _, _], _ => match its, hi with
      | [_], _ => ⟨_, rfl, rfl⟩
  cases hv
  exact hb
theorem bGreatest {lo : Addr} (d : Gd K mg "greatest_share" sGreatest [.ref lo]) : ∃ ds, Vals [V.ref lo] ds ∧ Binds K d.fd ["rule", "lot"] ds :=
  d.F.binds1 (ps := ["rule", "lot"]) 1 0 (by simp) (by rfl) fun T kV doc pm an cdv ct us its hl hi =>
    match us, hl with
    | [_], _ => match its, hi with
      | [_], _ => ⟨_, rfl, rfl⟩
theorem bLeast {lo : Addr} (d : Gd K mg "least_share" sLeast [.ref lo]) : ∃ ds, Vals [V.ref lo] ds ∧ Binds K d.fd ["rule", "lot"] ds :=
  d.F.binds1 (ps := ["rule", "lot"]) 1 0 (by simp) (by rfl) fun T kV doc pm an cdv ct us its hl hi =>
    match us, hl with
    | [_], _ => match its, hi with
      | [_], _ => ⟨_, rfl, rfl⟩
/-! ### ring -/
def spRing (K : PySem.W.Frag) (C : Addr) : Sp := fun vs H Q _ => ∃ (pa lo : Addr) (r : Ru) (up : Bool), vs = [.ref pa, .bl up, .ref lo] ∧ r.Ok ∧ RAt C H pa r ∧ SqT K H lo [] ∧
  ∀ (t : List Bool) H', Same H H' → 0 < t.length → t.length ≤ 2 ^ r.m → Ext r up t → Q (.str (enc t)) H'
theorem okRing (T : Txt K mg) : FnOk P w K mg base CX0 7 T.dRing.f T.dRing.fd ["rule", "is_greatest", "lot"] (spRing K T.C) := by
  refine fok T.dRing.F scRing (fun vs H Q E h => ?_) (fun cdv A outer s H vs Q E hr h => ?_)
  · obtain ⟨pa, lo, r, up, rfl, _⟩ := h
    rfl
  · obtain ⟨pa, lo, r, up, rfl, ok, R, hlo, k⟩ := h
    have GW : FnOk P w K mg base CX0 6 T.dWeighed.f T.dWeighed.fd ["rule", "value", "is_greatest", "lot"] (spWeighed K T.C) := okWeighed T
    have GS : FnOk P w K mg base CX0 5 T.dShare.f T.dShare.fd ["rule", "text"] (spShare T.C) := okShare T
    have hr5 : Room 5 _ := hr.mono (by decide)
    refine ⟨_, pss_cons (ps_par (i := 3) (j := 4) rfl scRing.nd rfl rfl (by decide) rfl rfl (pa_cons (pe_ix ix_tup (pe_call GW hr (by rfl) T.dWeighed.g T.dWeighed.F.kp (bWeighed _) .nil pass0 (pa_cons (pv 0)
          (pa_cons (pe_tup (pa_cons (pe_un un_neg pe_int) (pa_cons pe_int pa_nil))) (pa_cons pe_bl (pa_cons (pv 2) pa_nil))))) pe_int (fun _ _ => rfl)) (pa_cons pe_non pa_nil)) (by rfl))
      (pss_cons (ps_while PassesOwn.never (pt_cmp (pc_notN (pv 3)))
        (pss_cons (ps_set (i := 4) scRing.nd rfl (.inl rfl) (pv 3))
        (pss_one (ps_set (i := 3) scRing.nd rfl (.inl rfl) (pe_ix ix_tup (pe_call GW hr (by rfl) T.dWeighed.g T.dWeighed.F.kp (bWeighed _) .nil pass0 (pa_cons (pv 0)
          (pa_cons (pe_call GS hr5 (by rfl) T.dShare.g T.dShare.F.kp (bShare _) .nil pass0 (pa_cons (pv 0) (pa_cons (pv 4) pa_nil))) (pa_cons (pv 1) (pa_cons (pv 2) pa_nil))))) pe_int (fun _ _ => rfl))))))
      (pss_one (ps_ret (pv 4)))), ?_⟩
    have h16 := pw_m ok
    -- better, found = weighed(rule, (-1, 1), True, lot)[1], None
    refine ⟨.ref pa, rfl, 1, rfl, (by show 2 ≤ sizeLine; decide), fun B nB => ?_⟩
    have sm1 : Same H (upd H B (.tup [.int (-1), .int 1])) := same_new nB
    refine ⟨.ref lo, rfl, pa, B, lo, r, true, -1, 1, rfl, ok, R.mono sm1, SqT.of upd_same, sm_sqt sm1 hlo, ⟨by decide, by decide⟩, ?_, ?_⟩
    · intro a x H2 sm2 ha hold
      exfalso
      have h0 := hold [false]
      have e : sgn true * (1 * (cnt r [false] : Int) - (-1) * (([false] : List Bool).length : Int)) = (cnt r [false] : Int) + 1 := by
        show (1 : Int) * (1 * (cnt r [false] : Int) - (-1) * ((1 : Nat) : Int)) = _
        omega
      rw [e] at h0
      omega
    · intro a t H2 sm2 ha ht htN _
      refine ⟨a, _, 1, .str (enc t), rfl, rfl, SqT.of ha, atI_nat (j := 1) rfl, _, _, rfl, ?_⟩
      -- the loop
      refine ⟨fun m σ H' => Same H H' ∧ ((∃ t : List Bool, σ = [some (.ref pa), some (.bl up), some (.ref lo), some .non, some (.str (enc t))] ∧ 0 < t.length ∧ t.length ≤ 2 ^ r.m ∧ Ext r up t ∧ m = 0) ∨
          ∃ (t : List Bool) (y : V), σ = [some (.ref pa), some (.bl up), some (.ref lo), some (.str (enc t)), some y] ∧ 0 < t.length ∧ t.length ≤ 2 ^ r.m ∧ m = 1 + left r up t),
        ⟨1 + left r up t, sm1.trans sm2, .inr ⟨t, .non, rfl, ht, htN, rfl⟩⟩, ?_⟩
      rintro m σ H3 ⟨sm3, ⟨t, rfl, ht, htN, hx, rfl⟩ | ⟨t, y, rfl, ht, htN, rfl⟩⟩
      · refine ⟨.non, rfl, _, rfl, ?_⟩
        refine iteF ?_
        exact ⟨_, rfl, k t H3 sm3 ht htN hx⟩
      · refine ⟨_, rfl, _, rfl, ?_⟩
        refine iteT ?_
        refine ⟨fun σ' H' => ∃ m', m' < 1 + left r up t ∧ (Same H H' ∧ ((∃ t : List Bool, σ' = [some (.ref pa), some (.bl up), some (.ref lo), some .non, some (.str (enc t))] ∧ 0 < t.length ∧ t.length ≤ 2 ^ r.m ∧ Ext r up t ∧ m' = 0) ∨
          ∃ (t : List Bool) (y : V), σ' = [some (.ref pa), some (.bl up), some (.ref lo), some (.str (enc t)), some y] ∧ 0 < t.length ∧ t.length ≤ 2 ^ r.m ∧ m' = 1 + left r up t)), fun σ' H' z => z, ?_⟩
        refine ⟨.str (enc t), rfl, ?_⟩
        refine ⟨.ref pa, rfl, .ref pa, rfl, .str (enc t), rfl, pa, r, t, rfl, ok, R.mono sm3, ht, by omega, fun a4 H4 sm4 ha4 => ?_⟩
        have sm04 := sm3.trans sm4
        have hs := shS_small (r := r) (t := t)
        refine ⟨.bl up, rfl, .ref lo, rfl, pa, a4, lo, r, up, ((shS r t).1 : Int), ((shS r t).2 : Int), rfl, ok, R.mono sm04, SqT.of ha4, sm_sqt sm04 hlo, ⟨by omega, by omega⟩, ?_, ?_⟩
        · intro a5 x5 H5 sm5 ha5 hold
          refine ⟨a5, _, 1, .non, rfl, rfl, SqT.of ha5, atI_nat (j := 1) rfl, ?_⟩
          exact ⟨0, by omega, sm04.trans sm5, .inl ⟨t, rfl, ht, htN, ext_of ht hold, rfl⟩⟩
        · intro a5 u H5 sm5 ha5 hu huN hgain
          refine ⟨a5, _, 1, .str (enc u), rfl, rfl, SqT.of ha5, atI_nat (j := 1) rfl, ?_⟩
          have hlt := left_lt ht htN hu huN hgain
          exact ⟨1 + left r up u, by omega, sm04.trans sm5, .inr ⟨u, _, rfl, hu, huN, rfl⟩⟩
/-! ### greatest_share, least_share -/
def spExt (K : PySem.W.Frag) (C : Addr) (up : Bool) : Sp := fun vs H Q _ => ∃ (pa lo : Addr) (r : Ru), vs = [.ref pa, .ref lo] ∧ r.Ok ∧ RAt C H pa r ∧ SqT K H lo [] ∧
  ∀ (a : Addr) (x : Nat × Nat) H', Same H H' → H' a = some (.tup [.int (x.1 : Int), .int (x.2 : Int)]) → x.1 ≤ 1000 ∧ x.2 ≤ 1000 → IsEx r up x → Q (.ref a) H'
theorem okGreatest (T : Txt K mg) : FnOk P w K mg base CX0 8 T.dGreatest.f T.dGreatest.fd ["rule", "lot"] (spExt K T.C true) := by
  refine fok T.dGreatest.F scGreatest (fun vs H Q E h => ?_) (fun cdv A outer s H vs Q E hr h => ?_)
  · obtain ⟨pa, lo, r, rfl, _⟩ := h
    rfl
  · obtain ⟨pa, lo, r, rfl, ok, R, hlo, k⟩ := h
    have GR : FnOk P w K mg base CX0 7 T.dRing.f T.dRing.fd ["rule", "is_greatest", "lot"] (spRing K T.C) := okRing T
    have GS : FnOk P w K mg base CX0 5 T.dShare.f T.dShare.fd ["rule", "text"] (spShare T.C) := okShare T
    refine ⟨_, pss_cons (ps_set (i := 2) scGreatest.nd rfl (.inl rfl) (pe_call GR hr (by rfl) T.dRing.g T.dRing.F.kp (bRing _) .nil pass0 (pa_cons (pv 0) (pa_cons pe_bl (pa_cons (pv 1) pa_nil)))))
      (pss_one (ps_ret (pe_ifExp (pt_cmp (pc_isN (pv 2))) pe_non (pe_call GS (hr.mono (by decide)) (by rfl) T.dShare.g T.dShare.F.kp (bShare _) .nil pass0 (pa_cons (pv 0) (pa_cons (pv 2) pa_nil)))))), ?_⟩
    have h16 := pw_m ok
    refine ⟨.ref pa, rfl, .ref lo, rfl, pa, lo, r, true, rfl, ok, R, hlo, fun t H1 sm1 ht htN hx => ?_⟩
    refine ⟨_, rfl, _, rfl, ?_⟩
    refine iteF ?_
    refine ⟨.ref pa, rfl, .str (enc t), rfl, pa, r, t, rfl, ok, R.mono sm1, ht, by omega, fun a H2 sm2 ha => ?_⟩
    exact k a (shS r t) H2 (sm1.trans sm2) ha ⟨Nat.le_trans (shS_small1 (r := r) (t := t)) (by omega), Nat.le_trans (shS_small (r := r) (t := t)) (by omega)⟩ ⟨t, ht, rfl, hx⟩
theorem okLeast (T : Txt K mg) : FnOk P w K mg base CX0 8 T.dLeast.f T.dLeast.fd ["rule", "lot"] (spExt K T.C false) := by
  refine fok T.dLeast.F scLeast (fun vs H Q E h => ?_) (fun cdv A outer s H vs Q E hr h => ?_)
  · obtain ⟨pa, lo, r, rfl, _⟩ := h
    rfl
  · obtain ⟨pa, lo, r, rfl, ok, R, hlo, k⟩ := h
    have GR : FnOk P w K mg base CX0 7 T.dRing.f T.dRing.fd ["rule", "is_greatest", "lot"] (spRing K T.C) := okRing T
    have GS : FnOk P w K mg base CX0 5 T.dShare.f T.dShare.fd ["rule", "text"] (spShare T.C) := okShare T
    refine ⟨_, pss_cons (ps_set (i := 2) scLeast.nd rfl (.inl rfl) (pe_call GR hr (by rfl) T.dRing.g T.dRing.F.kp (bRing _) .nil pass0 (pa_cons (pv 0) (pa_cons pe_bl (pa_cons (pv 1) pa_nil)))))
      (pss_one (ps_ret (pe_ifExp (pt_cmp (pc_isN (pv 2))) pe_non (pe_call GS (hr.mono (by decide)) (by rfl) T.dShare.g T.dShare.F.kp (bShare _) .nil pass0 (pa_cons (pv 0) (pa_cons (pv 2) pa_nil)))))), ?_⟩
    have h16 := pw_m ok
    refine ⟨.ref pa, rfl, .ref lo, rfl, pa, lo, r, false, rfl, ok, R, hlo, fun t H1 sm1 ht htN hx => ?_⟩
    refine ⟨_, rfl, _, rfl, ?_⟩
    refine iteF ?_
    refine ⟨.ref pa, rfl, .str (enc t), rfl, pa, r, t, rfl, ok, R.mono sm1, ht, by omega, fun a H2 sm2 ha => ?_⟩
    exact k a (shS r t) H2 (sm1.trans sm2) ha ⟨Nat.le_trans (shS_small1 (r := r) (t := t)) (by omega), Nat.le_trans (shS_small (r := r) (t := t)) (by omega)⟩ ⟨t, ht, rfl, hx⟩
end
end Wp
/-! The law's own defs: the box of drawn numbers. -/
namespace Wp
open PySem PySem.Spec PyProof.Rows L2
def BoxAt (H : Hp) (b : Addr) : Prop := ∃ g x : Int, 0 ≤ g ∧ 1 ≤ x ∧ x ≤ 2147483629 ∧ H b = some (.lst [.int g, .int x])
/-- all but b stays -/
def Keep (b : Addr) (H H' : Hp) : Prop := ∀ a o, a ≠ b → H a = some o → H' a = some o
theorem Keep.refl {b : Addr} {H : Hp} : Keep b H H := fun _ _ _ e => e
theorem Keep.trans {b : Addr} {H H1 H2 : Hp} (x : Keep b H H1) (y : Keep b H1 H2) : Keep b H H2 := fun a o n e => y a o n (x a o n e)
theorem Keep.of {b : Addr} {H H' : Hp} (s : Same H H') : Keep b H H' := fun a o _ e => s a o e
theorem Keep.set {b : Addr} {H : Hp} {o : HO} : Keep b H (upd H b o) := fun a x n e => by
  rw [upd_ne n]; exact e
theorem Keep.new {b p : Addr} {H H' : Hp} {o : HO} (k : Keep b H H') (h : H' p = none) : Keep b H (upd H' p o) := fun a x n e => by
  have e2 := k a x n e
  rw [upd_ne (ne_of_none e2 h)]; exact e2
/-- a new object that is written again -/
theorem Keep.upd {b p : Addr} {H H' : Hp} {o : HO} (k : Keep b H H') (h : H p = none) : Keep b H (upd H' p o) := fun a x n e => by
  rw [upd_ne (ne_of_none e h)]; exact k a x n e
theorem Keep.free {b p : Addr} {H H' : Hp} (k : Keep b H H') (n : p ≠ b) (h : H' p = none) : H p = none := by
  cases q : H p with
  | none => rfl
  | some o => rw [k p o n q] at h; cases h
theorem Keep.seq {K : PySem.W.Frag} {b a : Addr} {H H' : Hp} {xs : List V} (e : Keep b H H') (n : a ≠ b) (h : SqL K H a xs) : SqL K H' a xs := by
  rcases h with (h | ⟨o, h⟩) | h
  · exact .inl (.inl (e _ _ n h))
  · exact .inl (.inr ⟨o, e _ _ n h⟩)
  · exact .inr h
theorem Keep.sqt {K : PySem.W.Frag} {b a : Addr} {H H' : Hp} {xs : List V} (e : Keep b H H') (n : a ≠ b) (h : SqT K H a xs) : SqT K H' a xs := by
  rcases h with (h | ⟨o, h⟩) | h
  · exact .inl (.inl (e _ _ n h))
  · exact .inl (.inr ⟨o, e _ _ n h⟩)
  · exact .inr h
theorem BoxAt.ne {H : Hp} {a b : Addr} (h : BoxAt H b) (n : H a = none) : a ≠ b := by
  obtain ⟨_, _, _, _, _, e⟩ := h
  intro z
  subst z
  rw [e] at n
  cases n
theorem BoxAt.same {H H' : Hp} {b : Addr} (h : BoxAt H b) (s : Same H H') : BoxAt H' b := by
  obtain ⟨g, x, h1, h2, h3, e⟩ := h
  exact ⟨g, x, h1, h2, h3, s _ _ e⟩
theorem BoxAt.upd {H : Hp} {b p : Addr} {o : HO} (h : BoxAt H b) (n : p ≠ b) : BoxAt (upd H p o) b := by
  obtain ⟨g, x, h1, h2, h3, e⟩ := h
  exact ⟨g, x, h1, h2, h3, by rw [upd_ne n.symm]; exact e⟩
section
variable {P : Program} {w : World} {K : PySem.W.Frag} {mg : Str → Option Value} {base : Heap}
/-! ### _law_feed -/
def spFeed (K : PySem.W.Frag) : Sp := fun vs H Q _ => ∃ (a : Addr) (ns : List Int) (k : Nat), vs = [.ref a, .int (k : Int)] ∧ k ≤ 100 ∧ SqL K H a (ns.map V.int) ∧ ∀ b H', Same H H' → H b = none → BoxAt H' b → Q (.ref b) H'
theorem okFeed (T : Txt K mg) : FnOk P w K mg base CX0 1 T.dFeed.f T.dFeed.fd ["_law_script", "_law_k"] (spFeed K) := by
  refine fok T.dFeed.F scFeed (fun vs H Q E h => ?_) (fun cdv A outer s H vs Q E hr h => ?_)
  · obtain ⟨a, ns, k, rfl, _⟩ := h
    rfl
  · obtain ⟨a, ns, k, rfl, hk, hs, q⟩ := h
    refine ⟨_, pss_cons (ps_set (i := 2) scFeed.nd rfl (.inl rfl) (pe_op op_add (pe_op op_mul pe_int (pv 1)) pe_int))
      (pss_cons (ps_if (pt_cmp (pc_lt (pv 1) (pe_callB call_len_seq (by rfl) T.n_len PySem.boot_len (pa_cons (pv 0) pa_nil))))
        (pss_one (ps_set (i := 2) scFeed.nd rfl (.inl rfl) (pe_callB call_abs (by rfl) T.n_abs (by decide +kernel) (pa_cons (pe_ix ix_list (pv 0) (pv 1) (fun _ _ => rfl)) pa_nil))))
        (pss_one (ps_if (pt_cmp (pc_gt (pe_callB call_len_seq (by rfl) T.n_len PySem.boot_len (pa_cons (pv 0) pa_nil)) pe_int))
          (pss_one (ps_set (i := 2) scFeed.nd rfl (.inl rfl) (pe_op op_add (pv 2) (pe_op op_mul (pe_op op_mod (pe_callTy call_int1 (by rfl) T.n_int (by decide +kernel) (pa_cons (pe_callB call_abs (by rfl) T.n_abs (by decide +kernel) (pa_cons
            (pe_ix ix_list (pv 0) (pe_op op_mod (pe_callTy call_int1 (by rfl) T.n_int (by decide +kernel) (pa_cons (pv 1) pa_nil)) (pe_callB call_len_seq (by rfl) T.n_len PySem.boot_len (pa_cons (pv 0) pa_nil))) (fun _ _ => rfl)) pa_nil)) pa_nil)) pe_int) pe_int))))
          pss_nil)))
      (pss_cons (ps_set (i := 3) scFeed.nd rfl (.inl rfl) (pe_ifExp (pt_cmp (pc_ge (pv 2) (pe_op op_pow pe_int pe_int))) (pv 2) pe_int))
      (pss_one (ps_ret (pe_lst (pa_cons (pv 3) (pa_cons (pe_op op_add (pe_op op_mod (pe_callTy call_int1 (by rfl) T.n_int (by decide +kernel) (pa_cons
        (pe_op op_add (pe_op op_mul (pe_op op_mod (pe_callTy call_int1 (by rfl) T.n_int (by decide +kernel) (pa_cons (pv 2) pa_nil)) pe_int) pe_int) (pe_op op_mul pe_int (pv 1))) pa_nil)) pe_int) pe_int) pa_nil))))))), ?_⟩
    refine ⟨_, rfl, _, _, rfl, rfl, .inl ⟨by decide, by decide⟩, _, _, rfl, rfl, ?_⟩
    refine ⟨_, rfl, .ref a, rfl, a, _, rfl, .inl hs, _, _, rfl, rfl, _, rfl, ?_⟩
    rw [List.length_map]
    have fin : ∀ (c : Int) (b : Addr) (g : Int), H b = none → 0 ≤ g → BoxAt (upd H b (.lst [.int g, .int ((c % 2147483629 * 48271 + 43201 * (k : Int)) % 2147483629 + 1)])) b := fun c b g nb hg => by
      have h1 := Int.emod_nonneg (c % 2147483629 * 48271 + 43201 * (k : Int)) (show (2147483629 : Int) ≠ 0 by decide)
      have h2 := Int.emod_lt_of_pos (c % 2147483629 * 48271 + 43201 * (k : Int)) (show (0 : Int) < 2147483629 by decide)
      exact ⟨g, _, hg, by omega, by omega, upd_same⟩
    refine ite2 (fun h1 => ?_) (fun h1 => ?_)
    · have h1 := of_decide_eq_true h1
      have hkl : k < ns.length := by omega
      refine ⟨.ref a, rfl, _, rfl, a, _, _, .int (ns[k]), rfl, rfl, hs, atI_nat (j := k) (by rw [List.getElem?_map, List.getElem?_eq_getElem hkl]; rfl), ns[k], rfl, ?_⟩
      refine ⟨_, rfl, _, _, rfl, rfl, (show CPow 10 18 from ⟨by decide, by decide, by decide⟩), ?_⟩
      refine ⟨_, _, rfl, rfl, _, rfl, ?_⟩
      refine ite2 (fun h3 => ?_) (fun h3 => ?_)
      · have h3 := of_decide_eq_true h3
        have h4 : (0 : Int) ≤ 10 ^ (18 : Int).toNat := by decide
        refine ⟨_, rfl, _, rfl, _, rfl, .inl ⟨_, rfl, ?_⟩⟩
        refine ⟨_, _, rfl, rfl, (show (0 : Int) < 2147483629 by decide), _, _, rfl, rfl, .inr ⟨by decide, by decide⟩, ?_⟩
        refine ⟨_, rfl, _, _, rfl, rfl, .inl ⟨by decide, by decide⟩, _, _, rfl, rfl, .inl ⟨_, rfl, ?_⟩⟩
        refine ⟨_, _, rfl, rfl, (show (0 : Int) < 2147483629 by decide), _, _, rfl, rfl, (by show 2 ≤ sizeLine; decide), fun b nb => ?_⟩
        exact q b _ (same_new nb) nb (fin _ b _ nb (Int.le_trans h4 h3))
      · refine ⟨_, rfl, _, rfl, .inl ⟨_, rfl, ?_⟩⟩
        refine ⟨_, _, rfl, rfl, (show (0 : Int) < 2147483629 by decide), _, _, rfl, rfl, .inr ⟨by decide, by decide⟩, ?_⟩
        refine ⟨_, rfl, _, _, rfl, rfl, .inl ⟨by decide, by decide⟩, _, _, rfl, rfl, .inl ⟨_, rfl, ?_⟩⟩
        refine ⟨_, _, rfl, rfl, (show (0 : Int) < 2147483629 by decide), _, _, rfl, rfl, (by show 2 ≤ sizeLine; decide), fun b nb => ?_⟩
        exact q b _ (same_new nb) nb (fin _ b 0 nb (Int.le_refl 0))
    · refine ⟨.ref a, rfl, a, _, rfl, .inl hs, _, _, rfl, rfl, _, rfl, ?_⟩
      rw [List.length_map]
      refine ite2 (fun h2 => ?_) (fun h2 => ?_)
      · have h2 := of_decide_eq_true h2
        have hn : 0 < ns.length := by omega
        have hj : k % ns.length < ns.length := Nat.mod_lt _ hn
        refine ⟨_, rfl, .ref a, rfl, _, rfl, .inl ⟨_, rfl, ?_⟩⟩
        refine ⟨.ref a, rfl, a, _, rfl, .inl hs, _, _, rfl, rfl, ?_⟩
        rw [List.length_map]
        refine ⟨(show (0 : Int) < (ns.length : Int) by omega), a, _, _, .int (ns[k % ns.length]), rfl, rfl, hs, atI_nat (j := k % ns.length) (by rw [List.getElem?_map, List.getElem?_eq_getElem hj]; rfl), ns[k % ns.length], rfl, .inl ⟨_, rfl, ?_⟩⟩
        refine ⟨_, _, rfl, rfl, (show (0 : Int) < 2147483629 by decide), _, _, rfl, rfl, .inr ⟨by decide, by decide⟩, _, _, rfl, rfl, ?_⟩
        refine ⟨_, rfl, _, _, rfl, rfl, (show CPow 10 18 from ⟨by decide, by decide, by decide⟩), ?_⟩
        refine ⟨_, _, rfl, rfl, _, rfl, ?_⟩
        refine ite2 (fun h3 => ?_) (fun h3 => ?_)
        · have h3 := of_decide_eq_true h3
          have h4 : (0 : Int) ≤ 10 ^ (18 : Int).toNat := by decide
          refine ⟨_, rfl, _, rfl, _, rfl, .inl ⟨_, rfl, ?_⟩⟩
          refine ⟨_, _, rfl, rfl, (show (0 : Int) < 2147483629 by decide), _, _, rfl, rfl, .inr ⟨by decide, by decide⟩, ?_⟩
          refine ⟨_, rfl, _, _, rfl, rfl, .inl ⟨by decide, by decide⟩, _, _, rfl, rfl, .inl ⟨_, rfl, ?_⟩⟩
          refine ⟨_, _, rfl, rfl, (show (0 : Int) < 2147483629 by decide), _, _, rfl, rfl, (by show 2 ≤ sizeLine; decide), fun b nb => ?_⟩
          exact q b _ (same_new nb) nb (fin _ b _ nb (Int.le_trans h4 h3))
        · refine ⟨_, rfl, _, rfl, .inl ⟨_, rfl, ?_⟩⟩
          refine ⟨_, _, rfl, rfl, (show (0 : Int) < 2147483629 by decide), _, _, rfl, rfl, .inr ⟨by decide, by decide⟩, ?_⟩
          refine ⟨_, rfl, _, _, rfl, rfl, .inl ⟨by decide, by decide⟩, _, _, rfl, rfl, .inl ⟨_, rfl, ?_⟩⟩
          refine ⟨_, _, rfl, rfl, (show (0 : Int) < 2147483629 by decide), _, _, rfl, rfl, (by show 2 ≤ sizeLine; decide), fun b nb => ?_⟩
          exact q b _ (same_new nb) nb (fin _ b 0 nb (Int.le_refl 0))
      · skip
        refine ⟨_, rfl, _, _, rfl, rfl, (show CPow 10 18 from ⟨by decide, by decide, by decide⟩), ?_⟩
        refine ⟨_, _, rfl, rfl, _, rfl, ?_⟩
        refine ite2 (fun h3 => ?_) (fun h3 => ?_)
        · have h3 := of_decide_eq_true h3
          have h4 : (0 : Int) ≤ 10 ^ (18 : Int).toNat := by decide
          refine ⟨_, rfl, _, rfl, _, rfl, .inl ⟨_, rfl, ?_⟩⟩
          refine ⟨_, _, rfl, rfl, (show (0 : Int) < 2147483629 by decide), _, _, rfl, rfl, .inr ⟨by decide, by decide⟩, ?_⟩
          refine ⟨_, rfl, _, _, rfl, rfl, .inl ⟨by decide, by decide⟩, _, _, rfl, rfl, .inl ⟨_, rfl, ?_⟩⟩
          refine ⟨_, _, rfl, rfl, (show (0 : Int) < 2147483629 by decide), _, _, rfl, rfl, (by show 2 ≤ sizeLine; decide), fun b nb => ?_⟩
          exact q b _ (same_new nb) nb (fin _ b _ nb (Int.le_trans h4 h3))
        · refine ⟨_, rfl, _, rfl, .inl ⟨_, rfl, ?_⟩⟩
          refine ⟨_, _, rfl, rfl, (show (0 : Int) < 2147483629 by decide), _, _, rfl, rfl, .inr ⟨by decide, by decide⟩, ?_⟩
          refine ⟨_, rfl, _, _, rfl, rfl, .inl ⟨by decide, by decide⟩, _, _, rfl, rfl, .inl ⟨_, rfl, ?_⟩⟩
          refine ⟨_, _, rfl, rfl, (show (0 : Int) < 2147483629 by decide), _, _, rfl, rfl, (by show 2 ≤ sizeLine; decide), fun b nb => ?_⟩
          exact q b _ (same_new nb) nb (fin _ b 0 nb (Int.le_refl 0))
/-! ### _law_take -/
def spTake : Sp := fun vs H Q _ => ∃ (b : Addr) (m : Nat), vs = [.ref b, .int (m : Int)] ∧ 0 < m ∧ m ≤ 1000 ∧ BoxAt H b ∧ ∀ (d : Nat) H', d < m → Keep b H H' → BoxAt H' b → Q (.int (d : Int)) H'
theorem okTake (T : Txt K mg) : FnOk P w K mg base CX0 1 T.dTake.f T.dTake.fd ["_law_box", "_law_many"] spTake := by
  refine fok T.dTake.F scTake (fun vs H Q E h => ?_) (fun cdv A outer s H vs Q E hr h => ?_)
  · obtain ⟨b, m, rfl, _⟩ := h
    rfl
  · obtain ⟨b, m, rfl, hm, hm2, ⟨g, x, hg, hx1, hx2, hb⟩, q⟩ := h
    refine ⟨_, pss_cons (ps_if (pt_cmp (pc_gt (pe_ix ix_list (pv 0) pe_int (fun _ _ => rfl)) pe_int))
        (pss_cons (ps_set (i := 2) scTake.nd rfl (.inl rfl) (pe_op op_mod (pe_callTy call_int1 (by rfl) T.n_int (by decide +kernel) (pa_cons (pe_ix ix_list (pv 0) pe_int (fun _ _ => rfl)) pa_nil)) (pv 1)))
        (pss_cons (ps_asg (pe_op op_fdiv (pe_ix ix_list (pv 0) pe_int (fun _ _ => rfl)) (pv 1)) (pg_sub (pv 0) pe_int set_list))
        (pss_one (ps_ret (pv 2))))) pss_nil)
      (pss_cons (ps_set (i := 3) scTake.nd rfl (.inl rfl) (pe_op op_mod (pe_callTy call_int1 (by rfl) T.n_int (by decide +kernel) (pa_cons (pe_op op_add (pe_op op_mul (pe_ix ix_list (pv 0) pe_int (fun _ _ => rfl)) pe_int) pe_int) pa_nil)) pe_int))
      (pss_cons (ps_asg (pe_op op_add (pe_op op_mod (pe_callTy call_int1 (by rfl) T.n_int (by decide +kernel) (pa_cons (pe_op op_add (pe_op op_mul (pv 3) pe_int) pe_int) pa_nil)) pe_int) pe_int) (pg_sub (pv 0) pe_int set_list))
      (pss_one (ps_ret (pe_op op_mod (pe_callTy call_int1 (by rfl) T.n_int (by decide +kernel) (pa_cons (pe_op op_fdiv (pe_op op_add (pe_op op_mul (pv 3) pe_int) (pe_ix ix_list (pv 0) pe_int (fun _ _ => rfl))) pe_int) pa_nil)) (pv 1)))))), ?_⟩
    refine ⟨.ref b, rfl, b, _, 0, .int g, rfl, rfl, SqL.of hb, atI_nat (j := 0) rfl, _, _, rfl, rfl, _, rfl, ?_⟩
    refine ite2 (fun h1 => ?_) (fun h1 => ?_)
    · refine ⟨.ref b, rfl, b, _, 0, .int g, rfl, rfl, SqL.of hb, atI_nat (j := 0) rfl, .inl ⟨_, rfl, ?_⟩⟩
      refine ⟨_, rfl, _, _, rfl, rfl, by omega, ?_⟩
      refine ⟨.ref b, rfl, b, _, 0, .int g, rfl, rfl, SqL.of hb, atI_nat (j := 0) rfl, _, rfl, _, _, rfl, rfl, ⟨by omega, by omega⟩, ?_⟩
      refine ⟨_, rfl, b, _, 0, 0, rfl, rfl, hb, rfl, ?_⟩
      refine ⟨_, rfl, ?_⟩
      have e : g % (m : Int) = ((g % (m : Int)).toNat : Int) := (Int.toNat_of_nonneg (Int.emod_nonneg _ (by omega))).symm
      have hl : g % (m : Int) < (m : Int) := Int.emod_lt_of_pos _ (by omega)
      dsimp only
      rw [e]
      exact q _ _ (by omega) .set ⟨g / (m : Int), x, Int.ediv_nonneg hg (by omega), hx1, hx2, upd_same⟩
    · refine ⟨.ref b, rfl, b, _, 1, .int x, rfl, rfl, SqL.of hb, atI_nat (j := 1) rfl, _, _, rfl, rfl, .inl ⟨by omega, by omega⟩, _, _, rfl, rfl, .inl ⟨_, rfl, ?_⟩⟩
      refine ⟨_, _, rfl, rfl, (show (0 : Int) < 2147483563 by decide), ?_⟩
      have y1 : ∀ y : Int, 0 ≤ y % 2147483563 ∧ y % 2147483563 < 2147483563 := fun y => ⟨Int.emod_nonneg _ (by decide), Int.emod_lt_of_pos _ (by decide)⟩
      have y2 : ∀ y : Int, 0 ≤ y % 2147483629 ∧ y % 2147483629 < 2147483629 := fun y => ⟨Int.emod_nonneg _ (by decide), Int.emod_lt_of_pos _ (by decide)⟩
      refine ⟨_, rfl, _, _, rfl, rfl, .inr ⟨by decide, by decide⟩, _, _, rfl, rfl, .inl ⟨_, rfl, ?_⟩⟩
      refine ⟨_, _, rfl, rfl, (show (0 : Int) < 2147483629 by decide), _, _, rfl, rfl, ?_⟩
      refine ⟨_, rfl, b, _, 1, 1, rfl, rfl, hb, rfl, ?_⟩
      refine ⟨_, rfl, _, _, rfl, rfl, .inr ⟨by decide, by decide⟩, .ref b, rfl, b, _, 1, _, rfl, rfl, SqL.of upd_same, atI_nat (j := 1) rfl, _, _, rfl, rfl, _, _, rfl, rfl, ⟨by decide, by decide⟩, .inl ⟨_, rfl, ?_⟩⟩
      refine ⟨_, rfl, _, _, rfl, rfl, by omega, ?_⟩
      dsimp only
      generalize he : ((x * 41077 + 97) % 2147483563 * 2147483647 + (((x * 41077 + 97) % 2147483563 * 39373 + 7211) % 2147483629 + 1)) / 8191 = z
      have e : z % (m : Int) = ((z % (m : Int)).toNat : Int) := (Int.toNat_of_nonneg (Int.emod_nonneg _ (by omega))).symm
      have hl : z % (m : Int) < (m : Int) := Int.emod_lt_of_pos _ (by omega)
      rw [e]
      refine q _ _ (by omega) .set ⟨g, _, hg, ?_, ?_, upd_same⟩
      · have := y2 ((x * 41077 + 97) % 2147483563 * 39373 + 7211); omega
      · have := y2 ((x * 41077 + 97) % 2147483563 * 39373 + 7211); omega
/-! ### _law_one_of -/
def spOneOf (K : PySem.W.Frag) : Sp := fun vs H Q _ => ∃ (b a : Addr) (xs : List V), vs = [.ref b, .ref a] ∧ SqL K H a xs ∧ a ≠ b ∧ 0 < xs.length ∧ xs.length ≤ 1000 ∧ BoxAt H b ∧
  ∀ (i : Nat) (x : V) H', xs[i]? = some x → Keep b H H' → BoxAt H' b → Q x H'
theorem okOneOf (T : Txt K mg) : FnOk P w K mg base CX0 2 T.dOneOf.f T.dOneOf.fd ["_law_box", "_law_some"] (spOneOf K) := by
  refine fok T.dOneOf.F scOneOf (fun vs H Q E h => ?_) (fun cdv A outer s H vs Q E hr h => ?_)
  · obtain ⟨b, a, xs, rfl, _⟩ := h
    rfl
  · obtain ⟨b, a, xs, rfl, hs, hn, h0, h1, hb, q⟩ := h
    have GT : FnOk P w K mg base CX0 1 T.dTake.f T.dTake.fd ["_law_box", "_law_many"] spTake := okTake T
    refine ⟨_, pss_one (ps_ret (pe_ix ix_list (pv 1) (pe_call GT hr (by rfl) T.dTake.g T.dTake.F.kp (bTake _) .nil pass0 (pa_cons (pv 0) (pa_cons (pe_callB call_len_seq (by rfl) T.n_len PySem.boot_len (pa_cons (pv 1) pa_nil)) pa_nil))) (fun _ _ => rfl))), ?_⟩
    refine ⟨.ref a, rfl, .ref b, rfl, .ref a, rfl, a, _, rfl, .inl hs, b, xs.length, rfl, h0, h1, hb, fun d H1 hd kp hb1 => ?_⟩
    exact ⟨a, _, _, xs[d], rfl, rfl, kp.seq hn hs, atI_nat (j := d) (List.getElem?_eq_getElem hd), q d _ H1 (List.getElem?_eq_getElem hd) kp hb1⟩
/-! ### _law_less -/
def spLess (K : PySem.W.Frag) : Sp := fun vs H Q _ => ∃ (a c : Addr) (x y : Nat × Nat), vs = [.ref a, .ref c] ∧ SqT K H a [.int (x.1 : Int), .int (x.2 : Int)] ∧ SqT K H c [.int (y.1 : Int), .int (y.2 : Int)] ∧ x.1 ≤ 1000 ∧ x.2 ≤ 1000 ∧
  Q (.bl (decide (x.1 * y.2 < y.1 * x.2))) H
theorem okLess (T : Txt K mg) : FnOk P w K mg base CX0 1 T.dLess.f T.dLess.fd ["_law_one", "_law_other"] (spLess K) := by
  refine fok T.dLess.F scLess (fun vs H Q E h => ?_) (fun cdv A outer s H vs Q E hr h => ?_)
  · obtain ⟨a, c, x, y, rfl, _⟩ := h
    rfl
  · obtain ⟨a, c, x, y, rfl, ha, hc, hx1, hx2, q⟩ := h
    refine ⟨_, pss_one (ps_ret (pe_cmp (pc_lt (pe_op op_mul (pe_ix ix_tup (pv 0) pe_int (fun _ _ => rfl)) (pe_ix ix_tup (pv 1) pe_int (fun _ _ => rfl))) (pe_op op_mul (pe_ix ix_tup (pv 1) pe_int (fun _ _ => rfl)) (pe_ix ix_tup (pv 0) pe_int (fun _ _ => rfl)))))), ?_⟩
    refine ⟨.ref a, rfl, a, _, 0, _, rfl, rfl, ha, atI_nat (j := 0) rfl, .ref c, rfl, c, _, 1, _, rfl, rfl, hc, atI_nat (j := 1) rfl, _, _, rfl, rfl, .inl ⟨by omega, by omega⟩, ?_⟩
    refine ⟨.ref c, rfl, c, _, 0, _, rfl, rfl, hc, atI_nat (j := 0) rfl, .ref a, rfl, a, _, 1, _, rfl, rfl, ha, atI_nat (j := 1) rfl, _, _, rfl, rfl, .inr ⟨by omega, by omega⟩, ?_⟩
    refine ⟨_, _, rfl, rfl, ?_⟩
    have e : decide ((x.1 : Int) * (y.2 : Int) < (y.1 : Int) * (x.2 : Int)) = decide (x.1 * y.2 < y.1 * x.2) := by
      rw [← Int.natCast_mul, ← Int.natCast_mul]
      exact decide_eq_decide.mpr Int.ofNat_lt
    dsimp only
    rw [e]
    exact q
/-! ### _law_made -/
/-- a rule as the law's lists tell it -/
def TAt (H : Hp) (a : Addr) (r : Ru) : Prop := ∃ tb, H a = some (.lst [.int 2, .int (r.w : Int), .int (r.k : Int), .ref tb]) ∧ H tb = some (.lst (vn r.tab))
theorem TAt.mono {H H' : Hp} {a : Addr} {r : Ru} (h : TAt H a r) (s : Same H H') : TAt H' a r := by
  obtain ⟨tb, h1, h2⟩ := h
  exact ⟨tb, s _ _ h1, s _ _ h2⟩
def spMade (C : Addr) : Sp := fun vs H Q _ => ∃ (a : Addr) (r : Ru), vs = [.ref a] ∧ r.Ok ∧ TAt H a r ∧ ∀ p H', Same H H' → RAt C H' p r → Q (.ref p) H'
theorem okMade (T : Txt K mg) : FnOk P w K mg base CX0 5 T.dMade.f T.dMade.fd ["_law_told"] (spMade T.C) := by
  refine fok T.dMade.F scMade (fun vs H Q E h => ?_) (fun cdv A outer s H vs Q E hr h => ?_)
  · obtain ⟨a, r, rfl, _⟩ := h
    rfl
  · obtain ⟨a, r, rfl, ok, ⟨tb, h1, h2⟩, q⟩ := h
    have GI : FnOk P w K mg base CX0 3 T.dInit.f T.dInit.fd ["self", "letters", "w", "k", "table"] (spInit T.C) := okInit T
    refine ⟨_, pss_one (ps_ret (pe_make T.mkC GI hr (by rfl) T.gC (bInit _) .nil pass0 (pa_cons (pe_ix ix_list (pv 0) pe_int (fun _ _ => rfl)) (pa_cons (pe_ix ix_list (pv 0) pe_int (fun _ _ => rfl)) (pa_cons (pe_ix ix_list (pv 0) pe_int (fun _ _ => rfl)) (pa_cons
      (pe_ix ix_list (pv 0) pe_int (fun _ _ => rfl)) pa_nil)))))), ?_⟩
    refine ⟨.ref a, rfl, a, _, 0, _, rfl, rfl, SqL.of h1, atI_nat (j := 0) rfl, .ref a, rfl, a, _, 1, _, rfl, rfl, SqL.of h1, atI_nat (j := 1) rfl, .ref a, rfl, a, _, 2, _, rfl, rfl, SqL.of h1, atI_nat (j := 2) rfl, .ref a, rfl, a, _, 3, _, rfl, rfl, SqL.of h1, atI_nat (j := 3) rfl, ?_⟩
    intro x dx nx ndx ne
    have sn : Same H (upd (upd H dx (.own x)) x (.ins T.C dx [])) := fun b o e => by
      rw [upd_ne (ne_of_none e nx), upd_ne (ne_of_none e ndx)]
      exact e
    refine ⟨x, dx, tb, r, rfl, ok, upd_same, sn _ _ h2, fun H4 kp R4 => ⟨rfl, ?_⟩⟩
    exact q x H4 (fun b o e => kp b o (ne_of_none e nx) (sn _ _ e)) R4
end
end Wp
/-! The law's own defs: texts, mixed, near. -/
namespace Wp
open PySem PySem.Spec PyProof.Rows L2
theorem ixN_of {n j : Nat} (hj : j < n) : ixN n (j : Int) = some j := by
  unfold ixN
  rw [if_pos (by omega), if_pos (by omega), Int.toNat_natCast]
theorem TAt.keep {H H' : Hp} {a b : Addr} {r : Ru} (ok : r.Ok) (h : TAt H a r) (hb : BoxAt H b) (k : Keep b H H') : TAt H' a r := by
  obtain ⟨tb, h1, h2⟩ := h
  obtain ⟨g, x, _, _, _, e⟩ := hb
  have l4 : 4 ≤ r.tab.length := by
    rw [ok.len]
    have : 2 ^ 2 ≤ 2 ^ r.size := Nat.pow_le_pow_right (by decide) (by have := ok.wk; unfold Ru.size; omega)
    exact this
  refine ⟨tb, k _ _ (ne_of h1 e ?_) h1, k _ _ (ne_of h2 e ?_) h2⟩
  · intro z
    have z2 := congrArg List.length (HO.lst.inj z)
    exact absurd z2 (show ¬ (4 = 2) by decide)
  · intro z
    have z2 := congrArg List.length (HO.lst.inj z)
    rw [vn_len] at z2
    have z3 : r.tab.length = 2 := z2
    omega
theorem erase_perm {α : Type} : ∀ {l : List α} {i : Nat} (h : i < l.length), ([l[i]] ++ l.eraseIdx i).Perm l
  | a :: l, 0, _ => List.Perm.refl _
  | a :: l, i + 1, h => by
    have h2 : i < l.length := by simpa using h
    show (l[i] :: a :: l.eraseIdx i).Perm (a :: l)
    exact (List.Perm.swap _ _ _).trans (List.Perm.cons _ (erase_perm h2))
section
variable {P : Program} {w : World} {K : PySem.W.Frag} {mg : Str → Option Value} {base : Heap}
/-! ### _law_texts -/
def spLTexts : Sp := fun vs H Q _ => ∃ n : Nat, vs = [.int 2, .int (n : Int)] ∧ n ≤ 11 ∧ ∀ a H', Same H H' → H a = none → H' a = some (.lst (vt (words n))) → Q (.ref a) H'
theorem okLTexts (T : Txt K mg) : FnOk P w K mg base CX0 1 T.dLTexts.f T.dLTexts.fd ["_law_size", "_law_many"] spLTexts := by
  refine fok T.dLTexts.F scLTexts (fun vs H Q E h => ?_) (fun cdv A outer s H vs Q E hr h => ?_)
  · obtain ⟨n, rfl, _⟩ := h
    rfl
  · obtain ⟨n, rfl, hn, q⟩ := h
    refine ⟨_, pss_cons (ps_set (i := 2) scLTexts.nd rfl (.inl rfl) (pe_lst (pa_cons pe_str pa_nil)))
      (pss_cons (ps_for PassesOwn.never rfl (pi_range1 (by rfl) T.n_range (pa_cons (pv 1) pa_nil)) (pg_name (i := 3) scLTexts.nd rfl (.inl rfl))
        (pss_cons (ps_set (i := 4) scLTexts.nd rfl (.inl rfl) (pe_lst pa_nil))
        (pss_cons (ps_for PassesOwn.never rfl (pi_list (pv 2)) (pg_name (i := 5) scLTexts.nd rfl (.inr rfl))
          (pss_one (ps_expr (pe_bm PySem.F.plainAttrs_list PySem.F.slot_list_extend PySem.F.type_list_extend mt_extend (pv 4) (pa_cons
            (pe_lc (own := [("_law_sign", 6)]) (g := gName 6) (tt := tYes) (by rfl) scLTexts.nd (pi_str (pe_slice sl_str pe_str po_none (po_some (pv 0))))
              (blkOk_by (own := [("_law_sign", 6)]) (N := ["_law_size", "_law_many", "_law_found", "_law_turn", "_law_later", "_law_ahead", "_law_sign"]) (sc := defScope sLTexts) (by decide +kernel))
              (fun _ _ _ _ _ => pg_name (i := 6) scLTexts.nd rfl (Or.inl rfl)) (fun _ _ _ _ _ => pts_nil) (fun _ _ _ _ _ => pe_op op_add_str (pv 5) (pv 6))) pa_nil)))))
        (pss_one (ps_set (i := 2) scLTexts.nd rfl (.inl rfl) (pv 4))))))
      (pss_one (ps_ret (pv 2)))), ?_⟩
    refine ⟨by decide, fun a0 na0 => ?_⟩
    refine ⟨.int (n : Int), rfl, (n : Int), rfl, by omega, by omega, ?_⟩
    rw [Int.toNat_natCast]
    refine for_range (lo := 0) (n := n) (fun i σ H' => ∃ a v4 v3 v5, σ = [some (.int 2), some (.int (n : Int)), some (.ref a), v3, v4, v5, none] ∧ Same H H' ∧ H a = none ∧ H' a = some (.lst (vt (words i)))) ⟨a0, none, none, none, rfl, same_new na0, na0, ?_⟩ ?_ ?_
    · rw [upd_same]
      have e : Str.ofString "" = enc [] := enc_nil.symm
      show some (HO.lst [V.str (Str.ofString "")]) = some (HO.lst (vt [[]]))
      rw [e]
      rfl
    · rintro i σ H1 hi ⟨a, v4, v3, v5, rfl, sm, na, ha⟩
      refine ⟨Nat.zero_le _, fun L nL => ?_⟩
      have naL : a ≠ L := ne_of_none ha nL
      have nL0 : H L = none := sm.free nL
      refine ⟨.ref a, rfl, a, rfl, ⟨_, SqL.of (xs := vt (words i)) (by rw [upd_ne naL]; exact ha)⟩, ?_⟩
      refine for_it (walk_list (K := K) (a := a) (xs := vt (words i))) (fun j σ H' => ∃ v5, σ = [some (.int 2), some (.int (n : Int)), some (.ref a), some (.int (0 + (i : Int))), some (.ref L), v5, none] ∧ Same H H' ∧ H' a = some (.lst (vt (words i))) ∧ H' L = some (.lst (vt (((words i).take j).flatMap fun t => [t ++ [false], t ++ [true]]))))
        ⟨v5, rfl, sm_upd sm nL0, by rw [upd_ne naL]; exact ha, by rw [upd_same]; rfl⟩ (fun j σ H' _ ⟨_, _, _, h, _⟩ => SqL.of h) ?_ ?_
      · rintro j x σ H2 H3 hj ⟨v5, rfl, sm2, ha2, hL2⟩ ⟨rfl, hx⟩
        obtain ⟨t, ht, rfl⟩ := vt_get hx
        have htl : t.length = i := mem_words.mp (List.mem_of_getElem? ht)
        rw [vt_len, words_length] at hj
        have h4 : 2 ^ i ≤ 2 ^ 11 := Nat.pow_le_pow_right (by decide) (by omega)
        have fl : ∀ l : List (List Bool), (l.flatMap fun t => [t ++ [false], t ++ [true]]).length = 2 * l.length := by
          intro l
          induction l with
          | nil => rfl
          | cons a l ih => rw [List.flatMap_cons, List.length_append, ih]; simp; omega
        have fj : (vt (((words i).take j).flatMap fun t => [t ++ [false], t ++ [true]])).length ≤ 8000 := by
          rw [vt_len, fl, List.length_take, words_length]; omega
        refine ⟨.ref L, rfl, .inl ⟨rfl, _, SqL.of hL2⟩, ?_⟩
        refine ⟨.int 2, rfl, 2, rfl, Str.ofString "abcd", rfl, by decide +kernel, ab, ?_, fun D nD => ?_⟩
        · have e : cutS (Str.ofString "abcd") none (some 2) = ab := by decide +kernel
          rw [e]
        have nLD : L ≠ D := ne_of_none hL2 nD
        have naD : a ≠ D := ne_of_none ha2 nD
        have nD0 : H D = none := sm2.free nD
        refine it_by (walk_str (z := ab)) (fun l H' => Same H H' ∧ H' a = some (.lst (vt (words i))) ∧ H' L = some (.lst (vt (((words i).take j).flatMap fun t => [t ++ [false], t ++ [true]]))) ∧ H' D = some (.lst ([V.str (enc (t ++ [false])), .str (enc (t ++ [true]))].take l)))
          ⟨sm_upd sm2 nD0, by rw [upd_ne naD]; exact ha2, by rw [upd_ne nLD]; exact hL2, by rw [upd_same]; rfl⟩ (fun _ _ _ _ => trivial) ?_ ?_
        · rintro l y H4 H5 hl ⟨sm4, ha4, hL4, hD4⟩ ⟨rfl, c, hc, rfl⟩
          obtain ⟨b, hb, rfl⟩ := enc_get hc
          refine ⟨rfl, ?_⟩
          refine ⟨.str (enc t), rfl, .str (sg b), rfl, enc t, sg b, rfl, rfl, ?_, _, hD4, ?_, sm_upd sm4 nD0, ?_, ?_, ?_⟩
          · rw [enc_len, ← sg_enc, enc_len, htl]
            exact Nat.le_of_lt (small1000 (by simp; omega))
          · have : ([V.str (enc (t ++ [false])), .str (enc (t ++ [true]))].take l).length ≤ 2 := by rw [List.length_take]; exact Nat.min_le_right _ _
            exact small4096 (by omega)
          · rw [upd_ne naD]; exact ha4
          · rw [upd_ne nLD]; exact hL4
          · rw [upd_same, ← sg_enc, enc_append]
            have hl2 : l < 2 := hl
            have hbb : ([false, true] : List Bool)[l]? = some b := hb
            match l, hl2, hbb with
            | 0, _, h => cases h; simp
            | 1, _, h => cases h; simp
        · rintro H4 ⟨sm4, ha4, hL4, hD4⟩
          refine ⟨L, D, _, _, rfl, rfl, hL4, hD4, ?_, ?_⟩
          · have : ([V.str (enc (t ++ [false])), .str (enc (t ++ [true]))].take ab.cps.size).length ≤ 2 := by rw [List.length_take]; exact Nat.min_le_right _ _
            exact Nat.le_of_lt (small4096 (by omega))
          · refine ⟨_, rfl, sm_upd sm4 nL0, by rw [upd_ne naL]; exact ha4, ?_⟩
            rw [upd_same, words_two _ _ ht]
            rfl
      · rintro σ H2 ⟨v5, rfl, sm2, ha2, hL2⟩
        refine ⟨.ref L, rfl, L, _, _, _, rfl, sm2, nL0, ?_⟩
        rw [hL2, vt_len, List.take_length]
        rfl
    · rintro σ H1 ⟨a, v4, v3, v5, rfl, sm, na, ha⟩
      exact ⟨.ref a, rfl, q a H1 sm na ha⟩
/-! ### _law_text -/
def spLText : Sp := fun vs H Q _ => ∃ (b : Addr) (n : Nat), vs = [.ref b, .int 2, .int (n : Int)] ∧ n ≤ 100 ∧ BoxAt H b ∧ ∀ (t : List Bool) H', t.length = n → Keep b H H' → BoxAt H' b → Q (.str (enc t)) H'
theorem okLText (T : Txt K mg) : FnOk P w K mg base CX0 3 T.dLText.f T.dLText.fd ["_law_box", "_law_size", "_law_many"] spLText := by
  refine fok T.dLText.F scLText (fun vs H Q E h => ?_) (fun cdv A outer s H vs Q E hr h => ?_)
  · obtain ⟨b, n, rfl, _⟩ := h
    rfl
  · obtain ⟨b, n, rfl, hn, hb, q⟩ := h
    have GO : FnOk P w K mg base CX0 2 T.dOneOf.f T.dOneOf.fd ["_law_box", "_law_some"] (spOneOf K) := okOneOf T
    refine ⟨_, pss_one (ps_ret (pe_bm PySem.F.plainAttrs_str PySem.F.slot_str_join PySem.F.type_str_join mt_join pe_str (pa_cons
      (pe_lc (own := [("_law_at", 3)]) (g := gName 3) (tt := tYes) (by rfl) scLText.nd (pi_range1 (by rfl) T.n_range (pa_cons (pv 2) pa_nil))
        (blkOk_by (own := [("_law_at", 3)]) (N := ["_law_box", "_law_size", "_law_many", "_law_at"]) (sc := defScope sLText) (by decide +kernel)) (fun _ _ _ _ _ => pg_name (i := 3) scLText.nd rfl (Or.inl rfl)) (fun _ _ _ _ _ => pts_nil)
        (fun _ _ _ _ _ => pe_call GO hr (by rfl) T.dOneOf.g T.dOneOf.F.kp (bOneOf _) .nil pass0 (pa_cons (pv 0) (pa_cons (pe_callTy (call_listS rfl) (by rfl) T.n_list (by decide +kernel) (pa_cons (pe_slice sl_str pe_str po_none (po_some (pv 1))) pa_nil)) pa_nil)))) pa_nil))), ?_⟩
    refine ⟨rfl, .int (n : Int), rfl, (n : Int), rfl, by omega, by omega, ?_⟩
    rw [Int.toNat_natCast]
    intro D nD
    have nDb : D ≠ b := hb.ne nD
    refine it_by (walk_range (lo := 0) (n := n)) (fun j H' => Keep b H H' ∧ BoxAt H' b ∧ ∃ t : List Bool, t.length = j ∧ H' D = some (.lst ((t.map sg).map V.str))) ⟨Keep.refl.new nD, hb.upd nDb, [], rfl, by rw [upd_same]; rfl⟩ (fun _ _ _ _ => trivial) ?_ ?_
    · rintro j x H2 H3 hj ⟨kp, hb2, t, htl, hD⟩ ⟨rfl, rfl⟩
      refine ⟨rfl, ?_⟩
      refine ⟨.ref b, rfl, .int 2, rfl, 2, rfl, Str.ofString "abcd", rfl, by decide +kernel, [false, true], ?_, by decide, fun p np => ?_⟩
      · have e : cutS (Str.ofString "abcd") none (some 2) = ab := by decide +kernel
        rw [e]
        rfl
      have npb : p ≠ b := hb2.ne np
      refine ⟨b, p, _, rfl, SqL.of upd_same, npb, by decide, by decide, hb2.upd npb, fun i x H4 hx kp4 hb4 => ?_⟩
      have kp5 : Keep b H3 H4 := (Keep.refl.new np).trans kp4
      obtain ⟨c, rfl⟩ : ∃ c : Bool, x = .str (sg c) := by
        rw [List.getElem?_map] at hx
        cases e : ([false, true] : List Bool)[i]? with
        | none => rw [e] at hx; cases hx
        | some c => rw [e] at hx; exact ⟨c, (Option.some.inj hx).symm⟩
      refine ⟨_, kp5 _ _ nDb hD, ?_, ?_⟩
      · rw [List.length_map, List.length_map, htl]
        exact small1000 (by omega)
      · refine ⟨(kp.trans kp5).upd nD, hb4.upd nDb, t ++ [c], by rw [List.length_append, htl]; rfl, ?_⟩
        rw [upd_same, List.map_append, List.map_append]
        rfl
    · rintro H2 ⟨kp, hb2, t, htl, hD⟩
      refine ⟨Str.ofString "", D, t.map sg, rfl, rfl, .inl (SqL.of hD), ?_, ?_⟩
      · have e0 : (Str.ofString "").length = 0 := by decide +kernel
        rw [e0, Nat.mul_zero, Nat.add_zero]
        have hs : ∀ l : List Bool, ((l.map sg).map (·.length)).sum = l.length := by
          intro l
          induction l with
          | nil => rfl
          | cons a l ih =>
            rw [List.map_cons, List.map_cons, List.sum_cons, ih]
            show 1 + l.length = l.length + 1
            omega
        rw [hs]
        omega
      · rw [join_sg]
        exact q t H2 htl kp hb2
/-! ### _law_mixed -/
def spMixed (K : PySem.W.Frag) : Sp := fun vs H Q _ => ∃ (b a : Addr) (xs : List V), vs = [.ref b, .ref a] ∧ SqL K H a xs ∧ a ≠ b ∧ xs.length ≤ 1000 ∧ BoxAt H b ∧
  ∀ (ys : List V) p H', ys.Perm xs → Keep b H H' → BoxAt H' b → H p = none → H' p = some (.lst ys) → Q (.ref p) H'
theorem okMixed (T : Txt K mg) : FnOk P w K mg base CX0 2 T.dMixed.f T.dMixed.fd ["_law_box", "_law_some"] (spMixed K) := by
  refine fok T.dMixed.F scMixed (fun vs H Q E h => ?_) (fun cdv A outer s H vs Q E hr h => ?_)
  · obtain ⟨b, a, xs, rfl, _⟩ := h
    rfl
  · obtain ⟨b, a, xs, rfl, hs, hn, hl, hb, q⟩ := h
    have GT : FnOk P w K mg base CX0 1 T.dTake.f T.dTake.fd ["_law_box", "_law_many"] spTake := okTake T
    refine ⟨_, pss_cons (ps_par (i := 2) (j := 3) rfl scMixed.nd rfl rfl (by decide) rfl rfl (pa_cons (pe_callTy call_list_of (by rfl) T.n_list (by decide +kernel) (pa_cons (pv 1) pa_nil)) (pa_cons (pe_lst pa_nil) pa_nil)) (by rfl))
      (pss_cons (ps_for PassesOwn.never rfl (pi_range1 (by rfl) T.n_range (pa_cons (pe_callB call_len_seq (by rfl) T.n_len PySem.boot_len (pa_cons (pv 1) pa_nil)) pa_nil)) (pg_name (i := 4) scMixed.nd rfl (.inl rfl))
        (pss_one (ps_expr (pe_bm PySem.F.plainAttrs_list PySem.F.slot_list_append PySem.F.type_list_append mt_append (pv 3) (pa_cons
          (pe_bm PySem.F.plainAttrs_list PySem.F.slot_list_pop PySem.F.type_list_pop mt_popAt (pv 2) (pa_cons (pe_call GT hr (by rfl) T.dTake.g T.dTake.F.kp (bTake _) .nil pass0 (pa_cons (pv 0) (pa_cons (pe_callB call_len_seq (by rfl) T.n_len PySem.boot_len (pa_cons (pv 2) pa_nil)) pa_nil))) pa_nil)) pa_nil)))))
      (pss_one (ps_ret (pv 3)))), ?_⟩
    refine ⟨.ref a, rfl, a, _, rfl, .inl hs, fun L nL => ⟨Nat.zero_le _, fun F nF => ⟨_, _, rfl, ?_⟩⟩⟩
    have nLb : L ≠ b := hb.ne nL
    have nLF : L ≠ F := ne_of_none upd_same nF
    have nF0 : H F = none := (same_new nL).free nF
    have nFb : F ≠ b := hb.ne nF0
    have hs2 : SqL K (upd (upd H L (.lst xs)) F (.lst [])) a xs := ((Keep.refl (b := b)).new nL |>.new nF).seq hn hs
    refine ⟨.ref a, rfl, a, _, rfl, .inl hs2, (xs.length : Int), rfl, by omega, by omega, ?_⟩
    rw [Int.toNat_natCast]
    refine for_range (lo := 0) (n := xs.length) (fun i σ H' => ∃ (v : Option V) (l f : List V), σ = [some (.ref b), some (.ref a), some (.ref L), some (.ref F), v] ∧ Keep b H H' ∧ BoxAt H' b ∧ H' L = some (.lst l) ∧ H' F = some (.lst f) ∧ (f ++ l).Perm xs ∧ f.length = i)
      ⟨none, xs, [], rfl, (Keep.refl.new nL).new nF, (hb.upd nLb).upd nFb, by rw [upd_ne nLF, upd_same], upd_same, List.Perm.refl _, rfl⟩ ?_ ?_
    · rintro i σ H1 hi ⟨v, l, f, rfl, kp, hb1, hL, hF, pm, hf⟩
      have hlen := pm.length_eq
      rw [List.length_append, hf] at hlen
      refine ⟨.ref F, rfl, .inl ⟨rfl, _, SqL.of hF⟩, .ref L, rfl, .inl ⟨rfl, _, SqL.of hL⟩, .ref b, rfl, .ref L, rfl, L, _, rfl, .inl (SqL.of hL), b, l.length, rfl, by omega, by omega, hb1, fun d H2 hd kp2 hb2 => ?_⟩
      have hL2 := kp2 _ _ nLb hL
      have hF2 := kp2 _ _ nFb hF
      refine ⟨L, l, (d : Int), d, l[d], rfl, rfl, hL2, by omega, by omega, (ixN_seq (ixN_of hd)).1, List.getElem?_eq_getElem hd, ?_⟩
      refine ⟨F, f, _, rfl, rfl, by rw [upd_ne nLF.symm]; exact hF2, small1000 (by omega), ?_⟩
      refine ⟨_, l.eraseIdx d, f ++ [l[d]], rfl, ((kp.trans kp2).upd nL).upd nF0, (hb2.upd nLb).upd nFb, by rw [upd_ne nLF, upd_same], upd_same, ?_, by rw [List.length_append, hf]; rfl⟩
      refine List.Perm.trans ?_ pm
      rw [List.append_assoc]
      refine List.Perm.append_left f ?_
      exact erase_perm hd
    · rintro σ H1 ⟨v, l, f, rfl, kp, hb1, hL, hF, pm, hf⟩
      have hlen := pm.length_eq
      rw [List.length_append, hf] at hlen
      have hl0 : l = [] := List.eq_nil_of_length_eq_zero (by omega)
      subst hl0
      rw [List.append_nil] at pm
      exact ⟨.ref F, rfl, q f F H1 pm kp hb1 nF0 hF⟩
/-! ### _law_near -/
def spNear : Sp := fun vs H Q _ => ∃ (b a : Addr) (r : Ru), vs = [.ref b, .ref a] ∧ r.Ok ∧ TAt H a r ∧ BoxAt H b ∧ ∀ (p : Addr) (r' : Ru) H', r'.Ok → Keep b H H' → BoxAt H' b → TAt H' p r' → Q (.ref p) H'
theorem okNear (T : Txt K mg) : FnOk P w K mg base CX0 2 T.dNear.f T.dNear.fd ["_law_box", "_law_told"] spNear := by
  refine fok T.dNear.F scNear (fun vs H Q E h => ?_) (fun cdv A outer s H vs Q E hr h => ?_)
  · obtain ⟨b, a, r, rfl, _⟩ := h
    rfl
  · obtain ⟨b, a, r, rfl, ok, ht, hb, q⟩ := h
    have GT : FnOk P w K mg base CX0 1 T.dTake.f T.dTake.fd ["_law_box", "_law_many"] spTake := okTake T
    refine ⟨_, pss_cons (ps_set (i := 2) scNear.nd rfl (.inl rfl) (pe_callTy call_list_of (by rfl) T.n_list (by decide +kernel) (pa_cons (pe_ix ix_list (pv 1) pe_int (fun _ _ => rfl)) pa_nil)))
      (pss_cons (ps_for PassesOwn.never rfl (pi_range1 (by rfl) T.n_range (pa_cons (pe_call GT hr (by rfl) T.dTake.g T.dTake.F.kp (bTake _) .nil pass0 (pa_cons (pv 0) (pa_cons pe_int pa_nil))) pa_nil)) (pg_name (i := 3) scNear.nd rfl (.inl rfl))
        (pss_one (ps_asg (pe_call GT hr (by rfl) T.dTake.g T.dTake.F.kp (bTake _) .nil pass0 (pa_cons (pv 0) (pa_cons (pe_ix ix_list (pv 1) pe_int (fun _ _ => rfl)) pa_nil)))
          (pg_sub (pv 2) (pe_call GT hr (by rfl) T.dTake.g T.dTake.F.kp (bTake _) .nil pass0 (pa_cons (pv 0) (pa_cons (pe_callB call_len_seq (by rfl) T.n_len PySem.boot_len (pa_cons (pv 2) pa_nil)) pa_nil))) set_list))))
      (pss_one (ps_ret (pe_op op_cat (pe_slice sl_list (pv 1) po_none (po_some pe_int)) (pe_lst (pa_cons (pv 2) pa_nil)))))), ?_⟩
    obtain ⟨tb, h1, h2⟩ := id ht
    refine ⟨.ref a, rfl, a, _, 3, .ref tb, rfl, rfl, SqL.of h1, atI_nat (j := 3) rfl, tb, _, rfl, .inl (SqL.of h2), fun L nL => ?_⟩
    have nLb : L ≠ b := hb.ne nL
    refine ⟨.ref b, rfl, b, 3, rfl, by decide, by decide, hb.upd nLb, fun d H1 hd kp1 hb1 => ?_⟩
    refine ⟨(d : Int), rfl, by omega, by omega, ?_⟩
    rw [Int.toNat_natCast]
    have hw1 := ok.w1
    have hw5 := ok.w5
    have htl := tab_le ok
    have hpos : 0 < r.tab.length := by rw [ok.len]; exact Nat.pow_pos (by decide)
    refine for_range (lo := 0) (n := d) (fun i σ H' => ∃ (v : Option V) (l : List Nat), σ = [some (.ref b), some (.ref a), some (.ref L), v] ∧ Keep b H H' ∧ BoxAt H' b ∧ H' L = some (.lst (vn l)) ∧ l.length = r.tab.length ∧ ∀ x ∈ l, x < r.w)
      ⟨none, r.tab, rfl, (Keep.refl.new nL).trans kp1, hb1, kp1 _ _ nLb upd_same, rfl, ok.lt⟩ ?_ ?_
    · rintro i σ H2 hi ⟨v, l, rfl, kp, hb2, hL, hll, hlw⟩
      obtain ⟨tb2, h12, _⟩ := ht.keep ok hb kp
      refine ⟨.ref b, rfl, .ref a, rfl, a, _, 1, _, rfl, rfl, SqL.of h12, atI_nat (j := 1) rfl, b, r.w, rfl, by omega, by omega, hb2, fun y H3 hy kp3 hb3 => ?_⟩
      have hL3 := kp3 _ _ nLb hL
      refine ⟨.ref L, rfl, .ref b, rfl, .ref L, rfl, L, _, rfl, .inl (SqL.of hL3), b, l.length, (by rw [vn_len]; rfl), by omega, by omega, hb3, fun z H4 hz kp4 hb4 => ?_⟩
      have hL4 := kp4 _ _ nLb hL3
      refine ⟨L, _, (z : Int), z, rfl, rfl, hL4, (by rw [vn_len]; exact ixN_of hz), ?_⟩
      refine ⟨_, l.set z y, rfl, ((kp.trans kp3).trans kp4).upd nL, hb4.upd nLb, ?_, by rw [List.length_set]; exact hll, fun x hx => ?_⟩
      · rw [upd_same]
        unfold vn
        rw [List.map_set]
      · rcases List.mem_or_eq_of_mem_set hx with h | h
        · exact hlw x h
        · rw [h]; exact hy
    · rintro σ H2 ⟨v, l, rfl, kp, hb2, hL, hll, hlw⟩
      obtain ⟨tb2, h12, _⟩ := ht.keep ok hb kp
      refine ⟨.ref a, rfl, 3, rfl, a, _, rfl, SqL.of h12, fun p np => ?_⟩
      refine ⟨.ref L, rfl, (by show 1 ≤ sizeLine; decide), fun p2 np2 => ?_⟩
      have npp : p ≠ p2 := ne_of_none upd_same np2
      refine ⟨p, p2, _, _, rfl, rfl, by rw [upd_ne npp]; exact upd_same, upd_same, (by show 4 ≤ sizeLine; decide), fun p3 np3 => ?_⟩
      have hL5 : (upd (upd (upd H2 p (.lst (cutV [V.int 2, .int (r.w : Int), .int (r.k : Int), .ref tb2] none (some 3)))) p2 (.lst [V.ref L])) p3 (.lst (cutV [V.int 2, .int (r.w : Int), .int (r.k : Int), .ref tb2] none (some 3) ++ [V.ref L]))) L = some (.lst (vn l)) := by
        have e1 : L ≠ p := ne_of_none hL np
        have e2 : (upd H2 p (.lst (cutV [V.int 2, .int (r.w : Int), .int (r.k : Int), .ref tb2] none (some 3)))) L = some (.lst (vn l)) := by rw [upd_ne e1]; exact hL
        have e3 : L ≠ p2 := ne_of_none e2 np2
        have e4 : (upd (upd H2 p (.lst (cutV [V.int 2, .int (r.w : Int), .int (r.k : Int), .ref tb2] none (some 3)))) p2 (.lst [V.ref L])) L = some (.lst (vn l)) := by rw [upd_ne e3]; exact e2
        rw [upd_ne (ne_of_none e4 np3)]
        exact e4
      have fin : ∀ Hz, Same H2 Hz → Hz p3 = some (.lst [V.int 2, .int (r.w : Int), .int (r.k : Int), .ref L]) → Hz L = some (.lst (vn l)) → Q (.ref p3) Hz := fun Hz sm e1 e2 =>
        q p3 ⟨r.w, r.k, l⟩ Hz ⟨ok.w1, ok.w5, ok.k1, ok.k4, ok.wk, ok.n5, hll.trans ok.len, hlw⟩ (kp.trans (.of sm)) (hb2.same sm) ⟨L, e1, e2⟩
      exact fin _ (((same_new np).trans (same_new np2)).trans (same_new np3)) upd_same hL5
end
end Wp
/-! The law's own defs: by_order. -/
namespace Wp
open PySem PySem.Spec PyProof.Rows L2
/-- every text of ps has its number -/
def PDm (kvs : List (Key × V)) (ps : List (List Bool)) : Prop := ∀ u ∈ ps, ∃ n : Nat, valV (mergeK [] kvs) (Sum.inr (enc u)) = some (.int (n : Int))
theorem PDm.snoc {kvs : List (Key × V)} {ps : List (List Bool)} (h : PDm kvs ps) (t : List Bool) (n : Nat) : PDm (kvs ++ [(Sum.inr (enc t), .int (n : Int))]) (ps ++ [t]) := by
  intro u hu
  have e : mergeK [] (kvs ++ [((Sum.inr (enc t) : Key), V.int (n : Int))]) = putK (mergeK [] kvs) (Sum.inr (enc t)) (.int (n : Int)) := by
    unfold mergeK
    rw [List.foldl_append]
    rfl
  rw [e, valV_put]
  by_cases ht : u = t
  · subst ht
    exact ⟨n, by rw [if_pos rfl]⟩
  · rw [if_neg (fun z => ht (enc_inj (Sum.inr.inj z)))]
    rcases List.mem_append.mp hu with h1 | h1
    · exact h u h1
    · exact absurd (List.mem_singleton.mp h1) ht
section
variable {P : Program} {w : World} {K : PySem.W.Frag} {mg : Str → Option Value} {base : Heap}
def spByOrder (K : PySem.W.Frag) : Sp := fun vs H Q _ => ∃ (a : Addr) (ps : List (List Bool)) (wd k : Nat) (last : Bool), vs = [.int 2, .int (wd : Int), .int (k : Int), .ref a, .bl last] ∧ 1 ≤ wd ∧ wd ≤ 5 ∧ 1 ≤ k ∧ k ≤ 4 ∧
  SqL K H a (vt ps) ∧ ps.Perm (words k) ∧ ∀ (p : Addr) (l : List Nat) H', Same H H' → H p = none → H' p = some (.lst (vn l)) → l.length = 2 ^ (wd + k - 1) → (∀ x ∈ l, x < wd) → Q (.ref p) H'
theorem okByOrder (T : Txt K mg) : FnOk P w K mg base CX0 2 T.dByOrder.f T.dByOrder.fd ["_law_size", "_law_wide", "_law_long", "_law_pieces", "_law_is_last"] (spByOrder K) := by
  refine fok T.dByOrder.F scByOrder (fun vs H Q E h => ?_) (fun cdv A outer s H vs Q E hr h => ?_)
  · obtain ⟨a, ps, wd, k, last, rfl, _⟩ := h
    rfl
  · obtain ⟨a, ps, wd, k, last, rfl, hw1, hw5, hk1, hk4, ha, pm, q⟩ := h
    have hu := hu_of hr
    have GT : FnOk P w K mg base CX0 1 T.dLTexts.f T.dLTexts.fd ["_law_size", "_law_many"] spLTexts := okLTexts T
    refine ⟨_, pss_cons (ps_set (i := 5) scByOrder.nd rfl (.inr rfl) (pe_callTy (call_dictP rfl) (by rfl) T.n_dict (by decide +kernel) (pa_cons
        (pe_lc (own := [("_law_at", 12), ("_law_piece", 11)]) (g := gTup K 2 (gCons (gName 12) (gCons (gName 11) gNil))) (tt := tYes) (by rfl) scByOrder.nd (pi_enum (by rfl) T.n_enumerate (pa_cons (pv 3) pa_nil))
          (blkOk_by (own := [("_law_at", 12), ("_law_piece", 11)]) (N := ["_law_size", "_law_wide", "_law_long", "_law_pieces", "_law_is_last", "_law_places", "_law_found", "_law_glass", "_law_some", "_law_least", "_law_spots", "_law_piece", "_law_at", "_law_one"]) (sc := defScope sByOrder) (by decide +kernel))
          (fun _ _ _ _ _ => pg_tup rfl (pgs_cons (pg_name (i := 12) scByOrder.nd rfl (Or.inl rfl)) (pgs_cons (pg_name (i := 11) scByOrder.nd rfl (Or.inl rfl)) pgs_nil))) (fun _ _ _ _ _ => pts_nil)
          (fun _ _ _ _ _ => pe_tup (pa_cons (pv 11) (pa_cons (pv 12) pa_nil)))) pa_nil)))
      (pss_cons (ps_set (i := 6) scByOrder.nd rfl (.inl rfl) (pe_lst pa_nil))
      (pss_cons (ps_for PassesOwn.never rfl (pi_list (pe_call GT hr (by rfl) T.dLTexts.g T.dLTexts.F.kp (bLTexts _) .nil pass0 (pa_cons (pv 0) (pa_cons (pe_op op_sub (pe_op op_add (pv 1) (pv 2)) pe_int) pa_nil)))) (pg_name (i := 7) scByOrder.nd rfl (.inr rfl))
        (pss_cons (ps_setLc (i := 8) (own := [("_law_at", 12)]) (g := gName 12) (tt := tYes) (by rfl) scByOrder.nd rfl rfl (sw_true rfl rfl rfl (by decide +kernel)) (pi_range1 (by rfl) T.n_range (pa_cons (pv 1) pa_nil))
            (blkOk_by (own := [("_law_at", 12)]) (N := ["_law_size", "_law_wide", "_law_long", "_law_pieces", "_law_is_last", "_law_places", "_law_found", "_law_glass", "_law_some", "_law_least", "_law_spots", "_law_piece", "_law_at", "_law_one"]) (sc := defScope sByOrder) (by decide +kernel))
            (fun _ _ _ _ _ => pg_name (i := 12) scByOrder.nd rfl (Or.inl rfl)) (fun _ _ _ _ _ => pts_nil)
            (fun _ _ _ _ _ => pe_dget hu (pv 5) (pe_slice sl_str (pv 7) (po_some (pv 12)) (po_some (pe_op op_add (pv 12) (pv 2)))) (fun _ _ => rfl)))
        (pss_cons (ps_set (i := 9) scByOrder.nd rfl (.inr rfl) (pe_callB (cr_min rfl) (by rfl) T.n_min (by decide +kernel) (pa_cons
          (pe_lc (own := [("_law_one", 13)]) (g := gName 13) (tt := tYes) (by rfl) scByOrder.nd (pi_list (pv 8))
            (blkOk_by (own := [("_law_one", 13)]) (N := ["_law_size", "_law_wide", "_law_long", "_law_pieces", "_law_is_last", "_law_places", "_law_found", "_law_glass", "_law_some", "_law_least", "_law_spots", "_law_piece", "_law_at", "_law_one"]) (sc := defScope sByOrder) (by decide +kernel))
            (fun _ _ _ _ _ => pg_name (i := 13) scByOrder.nd rfl (Or.inl rfl)) (fun _ _ _ _ _ => pts_nil)
            (fun _ _ _ _ _ => pe_callTy call_int1 (by rfl) T.n_int (by decide +kernel) (pa_cons (pv 13) pa_nil))) pa_nil)))
        (pss_cons (ps_setLc (i := 10) (own := [("_law_at", 12), ("_law_one", 13)]) (g := gTup K 2 (gCons (gName 12) (gCons (gName 13) gNil))) (by rfl) scByOrder.nd rfl rfl (sw_true rfl rfl rfl (by decide +kernel)) (pi_enum (by rfl) T.n_enumerate (pa_cons (pv 8) pa_nil))
            (blkOk_by (own := [("_law_at", 12), ("_law_one", 13)]) (N := ["_law_size", "_law_wide", "_law_long", "_law_pieces", "_law_is_last", "_law_places", "_law_found", "_law_glass", "_law_some", "_law_least", "_law_spots", "_law_piece", "_law_at", "_law_one"]) (sc := defScope sByOrder) (by decide +kernel))
            (fun _ _ _ _ _ => pg_tup rfl (pgs_cons (pg_name (i := 12) scByOrder.nd rfl (Or.inl rfl)) (pgs_cons (pg_name (i := 13) scByOrder.nd rfl (Or.inl rfl)) pgs_nil)))
            (fun _ _ _ _ _ => pts_one (pt_cmpR op_eq (pv 13) (pv 9) (nomark _))) (fun _ _ _ _ _ => pv 12))
        (pss_one (ps_expr (pe_bm PySem.F.plainAttrs_list PySem.F.slot_list_append PySem.F.type_list_append mt_append (pv 6) (pa_cons
          (pe_ifExp (pt_val (pv 4)) (pe_ix ix_list (pv 10) (pe_un un_neg pe_int) (fun _ _ => rfl)) (pe_ix ix_list (pv 10) pe_int (fun _ _ => rfl))) pa_nil))))))))
      (pss_one (ps_ret (pv 6))))), ?_⟩
    have hk16 : ps.length ≤ 16 := by
      rw [pm.length_eq, words_length]
      exact Nat.pow_le_pow_right (n := 2) (by decide) hk4
    -- places
    refine ⟨.ref a, rfl, a, _, rfl, ha, fun D nD => ?_⟩
    refine it_by (walk_enum (K := K) (a := a) (xs := vt ps)) (fun j H' => Same H H' ∧ ∃ (as : List Addr) (kvs : List (Key × V)), H' D = some (.lst (as.map V.ref)) ∧ as.length = j ∧ Paired (fun p kv => H' p = some (.tup [kV kv.1, kv.2])) as kvs ∧ PDm kvs (ps.take j))
      ⟨same_new nD, [], [], upd_same, rfl, .nil, (fun u hu => by rw [List.take_zero] at hu; cases hu)⟩ (fun j H' _ p => p.1.seq ha) ?_ ?_
    · rintro j x H2 H3 hj ⟨sm, as, kvs, hD, hal, hP, pd⟩ ⟨T0, x0, y0, rfl, nT, rfl, hx0, hy0⟩
      obtain rfl := Option.some.inj hx0
      obtain ⟨t, htj, rfl⟩ := vt_get hy0
      rw [vt_len] at hj
      refine ⟨T0, _, rfl, SqT.of upd_same, rfl, _, _, rfl, _, _, rfl, rfl, ?_⟩
      refine ⟨rfl, ?_⟩
      refine ⟨.str (enc t), rfl, .int (j : Int), rfl, (by show 2 ≤ sizeLine; decide), fun p np => ?_⟩
      have sT : Same H2 (upd (upd H2 T0 (.tup [V.int (j : Int), .str (enc t)])) p (.tup [V.str (enc t), .int (j : Int)])) := (same_new nT).trans (same_new np)
      refine ⟨_, sT _ _ hD, ?_, ?_, as ++ [p], kvs ++ [(Sum.inr (enc t), .int (j : Int))], ?_, ?_, ?_, ?_⟩
      · rw [List.length_map, hal]; exact small1000 (by omega)
      · exact sm_upd (sm.trans sT) nD
      · rw [upd_same, List.map_append]; rfl
      · rw [List.length_append, hal]; rfl
      · have npD : p ≠ D := (ne_of_none (sm_upd (Same.refl H2) nT _ _ hD) np).symm
        refine paired_snoc ?_ (Paired.mapP hP fun a kv e => ?_)
        · rw [upd_ne npD, upd_same]; rfl
        · rw [upd_ne (ne_of e hD (by intro z; cases z))]
          exact sT _ _ e
      · rw [List.take_add_one, htj]
        exact pd.snoc t j
    · rintro H2 ⟨sm, as, kvs, hD, hal, hP, pd⟩
      rw [vt_len, List.take_length] at pd
      refine ⟨D, as, kvs, rfl, SqL.of hD, Paired.mapP hP fun a kv e => SqT.of e, fun d nd => ?_⟩
      have sm2 : Same H (upd H2 d (.dK (mergeK [] kvs))) := sm_upd sm (sm.free nd)
      refine ⟨Nat.zero_le _, fun F nF => ?_⟩
      have nF0 : H F = none := sm2.free nF
      have hd3 : (upd (upd H2 d (.dK (mergeK [] kvs))) F (.lst [])) d = some (.dK (mergeK [] kvs)) := by
        rw [upd_ne (ne_of_none upd_same nF), upd_same]
      refine ⟨.int 2, rfl, .int (wd : Int), rfl, .int (k : Int), rfl, _, _, rfl, rfl, _, _, rfl, rfl, wd + k - 1, ?_, by omega, fun G H4 sm4 nG hG => ?_⟩
      · show [V.int 2, .int ((wd : Int) + (k : Int) - 1)] = [V.int 2, .int ((wd + k - 1 : Nat) : Int)]
        congr 3
        omega
      have hF4 : H4 F = some (.lst []) := sm4 _ _ upd_same
      have hd4 := sm4 _ _ hd3
      have nGF : G ≠ F := (ne_of_none upd_same nG).symm
      have ndF : d ≠ F := ne_of_none upd_same nF
      have sm04 : Same H H4 := (sm_upd sm2 nF0).trans sm4
      refine ⟨G, rfl, ⟨_, SqL.of hG⟩, ?_⟩
      refine for_it (walk_list (K := K) (a := G) (xs := vt (words (wd + k - 1)))) (fun i σ H' => ∃ v7 v8 v9 v10, σ = [some (.int 2), some (.int (wd : Int)), some (.int (k : Int)), some (.ref a), some (.bl last), some (.ref d), some (.ref F), v7, v8, v9, v10, none, none, none] ∧
          Keep F H4 H' ∧ ∃ l : List Nat, H' F = some (.lst (vn l)) ∧ l.length = i ∧ ∀ x ∈ l, x < wd)
        ⟨none, none, none, none, rfl, .refl, [], hF4, rfl, fun _ h => nomatch h⟩ (fun i σ H' _ ⟨_, _, _, _, _, kp, _⟩ => SqL.of (kp _ _ nGF hG)) ?_ ?_
      · rintro i x σ H5 H6 hi ⟨v7, v8, v9, v10, rfl, kp, l, hF, hll, hlw⟩ ⟨rfl, hx⟩
        obtain ⟨t, hti, rfl⟩ := vt_get hx
        have htl : t.length = wd + k - 1 := mem_words.mp (List.mem_of_getElem? hti)
        rw [vt_len, words_length] at hi
        have h256 : 2 ^ (wd + k - 1) ≤ 2 ^ 8 := Nat.pow_le_pow_right (by decide) (by omega)
        have hd6 := kp _ _ ndF hd4
        -- some
        refine ⟨.int (wd : Int), rfl, (wd : Int), rfl, by omega, by omega, ?_⟩
        rw [Int.toNat_natCast]
        intro D1 nD1
        refine it_by (walk_range (lo := 0) (n := wd)) (fun j H' => Same H6 H' ∧ ∃ ns : List Nat, ns.length = j ∧ H' D1 = some (.lst (vn ns))) ⟨same_new nD1, [], rfl, upd_same⟩ (fun _ _ _ _ => trivial) ?_ ?_
        · rintro j x H7 H8 hj ⟨sm7, ns, hns, hD1⟩ ⟨rfl, rfl⟩
          refine ⟨rfl, ?_⟩
          refine ⟨.ref d, rfl, .str (enc t), rfl, _, rfl, _, rfl, _, rfl, _, rfl, _, _, rfl, rfl, _, rfl, enc t, rfl, (by rw [enc_len]; exact Nat.le_of_lt (small1000 (by omega))), ?_⟩
          rw [cut_enc' j (j + k) (by omega) (by omega), show j + k - j = k by omega]
          have hsl : ((t.drop j).take k).length = k := by
            rw [List.length_take, List.length_drop]; omega
          obtain ⟨n, hn⟩ := pd ((t.drop j).take k) (pm.mem_iff.mpr (mem_words.mpr hsl))
          have g := dget_f (H := H8) (a := d) (kvs := mergeK [] kvs) (k := Sum.inr (enc ((t.drop j).take k))) (.inl (sm7 _ _ hd6))
          rw [hn] at g
          refine ⟨d, _, rfl, g, _, hD1, ?_, sm_upd sm7 nD1, ns ++ [n], ?_, ?_⟩
          · rw [vn_len]; exact small1000 (by omega)
          · rw [List.length_append, hns]; rfl
          · rw [upd_same]
            unfold vn
            rw [List.map_append]
            rfl
        · rintro H7 ⟨sm7, ns, hns, hD1⟩
          -- least
          refine ⟨.ref D1, rfl, D1, rfl, ⟨_, SqL.of hD1⟩, fun D2 nD2 => ?_⟩
          refine it_by (walk_list (K := K) (a := D1) (xs := vn ns)) (fun j H' => Same H7 H' ∧ H' D2 = some (.lst (vn (ns.take j)))) ⟨same_new nD2, upd_same⟩ (fun j H' _ p => SqL.of (p.1 _ _ hD1)) ?_ ?_
          · rintro j x H8 H9 hj ⟨sm8, hD2⟩ ⟨rfl, hx⟩
            obtain ⟨n, hnj, rfl⟩ := vn_get hx
            rw [vn_len] at hj
            refine ⟨rfl, ?_⟩
            refine ⟨_, rfl, .inl ⟨_, rfl, _, hD2, ?_, sm_upd sm8 nD2, ?_⟩⟩
            · rw [vn_len, List.length_take]; exact small1000 (by omega)
            · rw [upd_same, List.take_add_one, hnj]
              unfold vn
              rw [List.map_append]
              rfl
          · rintro H8 ⟨sm8, hD2⟩
            rw [vn_len, List.take_length] at hD2
            have evn : vn ns = (ns.map fun n : Nat => (n : Int)).map V.int := by
              unfold vn
              rw [List.map_map]
              rfl
            refine ⟨D2, ns.map fun n : Nat => (n : Int), rfl, SqL.of (by rw [← evn]; exact hD2), by rw [List.length_map]; omega, fun m hm hmin => ?_⟩
            have hD18 := sm8 _ _ hD1
            -- spots
            refine ⟨.ref D1, rfl, D1, _, rfl, SqL.of hD18, fun D3 nD3 => ?_⟩
            refine it_by (walk_enum (K := K) (a := D1) (xs := vn ns)) (fun j H' => Same H8 H' ∧ ∃ l : List Nat, H' D3 = some (.lst (vn l)) ∧ (∀ x ∈ l, x < wd) ∧ l.length ≤ j ∧ (m ∈ (ns.take j).map (fun n : Nat => (n : Int)) → l ≠ []))
              ⟨same_new nD3, [], upd_same, (fun _ h => nomatch h), Nat.le_refl _, (fun h => by rw [List.take_zero] at h; cases h)⟩ (fun j H' _ p => SqL.of (p.1 _ _ hD18)) ?_ ?_
            · rintro j x H9 H10 hj ⟨sm9, l3, hD3, hlt, hle, hne⟩ ⟨T0, x0, y0, rfl, nT, rfl, hx0, hy0⟩
              obtain rfl := Option.some.inj hx0
              obtain ⟨n, hnj, rfl⟩ := vn_get hy0
              rw [vn_len] at hj
              have sT : Same H9 (upd H9 T0 (.tup [V.int (j : Int), .int (n : Int)])) := same_new nT
              refine ⟨T0, _, rfl, SqT.of upd_same, rfl, _, _, rfl, _, _, rfl, rfl, ?_⟩
              refine ⟨rfl, ?_⟩
              refine ⟨_, rfl, _, rfl, rfl, _, rfl, ?_⟩
              refine ite2 (fun he => ?_) (fun he => ?_)
              · refine ⟨.int (j : Int), rfl, _, sT _ _ hD3, ?_, sm_upd (sm9.trans sT) nD3, l3 ++ [j], ?_, ?_, ?_, ?_⟩
                · rw [vn_len]; exact small1000 (by omega)
                · rw [upd_same]
                  unfold vn
                  rw [List.map_append]
                  rfl
                · intro y hy
                  rcases List.mem_append.mp hy with h | h
                  · exact hlt y h
                  · rw [List.mem_singleton.mp h]; omega
                · rw [List.length_append]
                  show l3.length + 1 ≤ j + 1
                  omega
                · intro _ z
                  exact absurd z (by simp)
              · refine ⟨sm9.trans sT, l3, sT _ _ hD3, hlt, by omega, fun hm2 => ?_⟩
                rw [List.take_add_one, hnj, List.map_append] at hm2
                rcases List.mem_append.mp hm2 with h | h
                · exact hne h
                · exfalso
                  have h2 : m = (n : Int) := by simpa using h
                  exact he (decide_eq_true (by rw [h2]))
            · rintro H9 ⟨sm9, l3, hD3, hlt, hle, hne⟩
              rw [vn_len, List.take_length] at hne
              rw [vn_len, hns] at hle
              have hl3 : l3 ≠ [] := hne hm
              have smz : Same H6 H9 := (sm7.trans sm8).trans sm9
              have hF9 := smz _ _ hF
              have fin : ∀ x : Nat, x < wd → rAppend (.ref F) [.int (x : Int)] H9 (fun _ H' => ∃ v7 v8 v9 v10, ([some (.int 2), some (.int (wd : Int)), some (.int (k : Int)), some (.ref a), some (.bl last), some (.ref d), some (.ref F), some (.str (enc t)), some (.ref D1), some (.int m), some (.ref D3), none, none, none] : L2.St) =
                  [some (.int 2), some (.int (wd : Int)), some (.int (k : Int)), some (.ref a), some (.bl last), some (.ref d), some (.ref F), v7, v8, v9, v10, none, none, none] ∧
                  Keep F H4 H' ∧ ∃ l : List Nat, H' F = some (.lst (vn l)) ∧ l.length = i + 1 ∧ ∀ x ∈ l, x < wd) := fun x hx => by
                refine ⟨F, _, _, rfl, rfl, hF9, (by rw [vn_len]; exact small1000 (by omega)), _, _, _, _, rfl, (kp.trans (.of smz)).trans .set, l ++ [x], ?_, ?_, ?_⟩
                · rw [upd_same]
                  unfold vn
                  rw [List.map_append]
                  rfl
                · rw [List.length_append, hll]; rfl
                · intro y hy
                  rcases List.mem_append.mp hy with h | h
                  · exact hlw y h
                  · rw [List.mem_singleton.mp h]; exact hx
              refine ⟨.ref F, rfl, .inl ⟨rfl, _, SqL.of hF9⟩, .bl last, rfl, last, rfl, ?_⟩
              refine ite2 (fun _ => ?_) (fun _ => ?_)
              · obtain ⟨u, y, rfl⟩ : ∃ u y, l3 = u ++ [y] := ⟨l3.dropLast, l3.getLast hl3, (List.dropLast_concat_getLast hl3).symm⟩
                refine ⟨.ref D3, rfl, 1, rfl, D3, _, -1, .int (y : Int), rfl, rfl, SqL.of hD3, ?_, ?_⟩
                · unfold vn
                  rw [List.map_append]
                  exact atI_last _ _
                · exact fin y (hlt y (List.mem_append.mpr (.inr List.mem_cons_self)))
              · cases l3 with
                | nil => exact absurd rfl hl3
                | cons y u =>
                  refine ⟨.ref D3, rfl, D3, _, 0, .int (y : Int), rfl, rfl, SqL.of hD3, atI_nat (j := 0) rfl, ?_⟩
                  exact fin y (hlt y List.mem_cons_self)
      · rintro σ H5 ⟨v7, v8, v9, v10, rfl, kp, l, hF, hll, hlw⟩
        rw [vt_len, words_length] at hll
        refine ⟨.ref F, rfl, q F l H5 (fun b o e => kp b o (ne_of_none e nF0) (sm04 _ _ e)) nF0 hF hll hlw⟩
end
end Wp
/-! The law's own defs: drawn. -/
namespace Wp
open PySem PySem.Spec PyProof.Rows L2
/-- sizes that a rule of ours may have -/
def WK (wd k : Nat) : Prop := 1 ≤ wd ∧ wd ≤ 5 ∧ 1 ≤ k ∧ k ≤ 4 ∧ 3 ≤ wd + k ∧ 2 * wd + k ≤ 7
theorem WK.rule {wd k : Nat} {l : List Nat} (h : WK wd k) (hl : l.length = 2 ^ (wd + k - 1)) (hw : ∀ x ∈ l, x < wd) : Ru.Ok ⟨wd, k, l⟩ :=
  ⟨h.1, h.2.1, h.2.2.1, h.2.2.2.1, h.2.2.2.2.1, h.2.2.2.2.2, hl, hw⟩
/-- which text stands there -/
def txtOf (v : V) : List Bool := match v with
  | .str s => s.cps.toList.map fun c => c == 98
  | _ => []
theorem txtOf_enc (t : List Bool) : txtOf (.str (enc t)) = t := by
  show (enc t).cps.toList.map (fun c => c == 98) = t
  rw [enc_cps, List.map_map]
  have : ((fun c => c == 98) ∘ ch) = id := by
    funext b
    cases b <;> rfl
  rw [this, List.map_id]
theorem txtOf_vt (l : List (List Bool)) : (vt l).map txtOf = l := by
  unfold vt
  rw [List.map_map]
  have : (txtOf ∘ fun t => V.str (enc t)) = id := by
    funext t
    exact txtOf_enc t
  rw [this, List.map_id]
theorem perm_vt {l m : List (List Bool)} (h : (vt l).Perm (vt m)) : l.Perm m := by
  have := h.map txtOf
  rw [txtOf_vt, txtOf_vt] at this
  exact this
section
variable {P : Program} {w : World} {K : PySem.W.Frag} {mg : Str → Option Value} {base : Heap}
def spDrawn (K : PySem.W.Frag) : Sp := fun vs H Q _ => ∃ (b a : Addr) (xs : List V), vs = [.ref b, .ref a] ∧ SqL K H a xs ∧ a ≠ b ∧ 0 < xs.length ∧ xs.length ≤ 1000 ∧ BoxAt H b ∧
  (∀ x ∈ xs, ∃ (p : Addr) (wd k : Nat), x = .ref p ∧ H p = some (.tup [.int 2, .int (wd : Int), .int (k : Int)]) ∧ WK wd k) ∧
  ∀ (p : Addr) (r : Ru) H', r.Ok → Keep b H H' → BoxAt H' b → TAt H' p r → Q (.ref p) H'
theorem okDrawn (T : Txt K mg) : FnOk P w K mg base CX0 3 T.dDrawn.f T.dDrawn.fd ["_law_box", "_law_sizes"] (spDrawn K) := by
  refine fok T.dDrawn.F scDrawn (fun vs H Q E h => ?_) (fun cdv A outer s H vs Q E hr h => ?_)
  · obtain ⟨b, a, xs, rfl, _⟩ := h
    rfl
  · obtain ⟨b, a, xs, rfl, ha, hab, h0, h1, hb, hxs, q⟩ := h
    have GO : FnOk P w K mg base CX0 2 T.dOneOf.f T.dOneOf.fd ["_law_box", "_law_some"] (spOneOf K) := okOneOf T
    have GK : FnOk P w K mg base CX0 1 T.dTake.f T.dTake.fd ["_law_box", "_law_many"] spTake := okTake T
    have GM : FnOk P w K mg base CX0 2 T.dMixed.f T.dMixed.fd ["_law_box", "_law_some"] (spMixed K) := okMixed T
    have GT : FnOk P w K mg base CX0 1 T.dLTexts.f T.dLTexts.fd ["_law_size", "_law_many"] spLTexts := okLTexts T
    have GB : FnOk P w K mg base CX0 2 T.dByOrder.f T.dByOrder.fd ["_law_size", "_law_wide", "_law_long", "_law_pieces", "_law_is_last"] (spByOrder K) := okByOrder T
    have hr1 : Room 1 _ := hr.mono (by decide)
    refine ⟨_, pss_cons (ps_asg (pe_call GO hr (by rfl) T.dOneOf.g T.dOneOf.F.kp (bOneOf _) .nil pass0 (pa_cons (pv 0) (pa_cons (pv 1) pa_nil)))
        (pg_tup rfl (pgs_cons (pg_name (i := 2) scDrawn.nd rfl (.inl rfl)) (pgs_cons (pg_name (i := 3) scDrawn.nd rfl (.inr rfl)) (pgs_cons (pg_name (i := 4) scDrawn.nd rfl (.inl rfl)) pgs_nil)))))
      (pss_cons (ps_set (i := 5) scDrawn.nd rfl (.inl rfl) (pe_call GK hr1 (by rfl) T.dTake.g T.dTake.F.kp (bTake _) .nil pass0 (pa_cons (pv 0) (pa_cons pe_int pa_nil))))
      (pss_cons (ps_if (pt_cmp (pc_lt (pv 5) pe_int))
        (pss_cons (ps_set (i := 6) scDrawn.nd rfl (.inl rfl) (pe_call GM hr (by rfl) T.dMixed.g T.dMixed.F.kp (bMixed _) .nil pass0 (pa_cons (pv 0) (pa_cons (pe_call GT hr1 (by rfl) T.dLTexts.g T.dLTexts.F.kp (bLTexts _) .nil pass0 (pa_cons (pv 2) (pa_cons (pv 4) pa_nil))) pa_nil))))
        (pss_one (ps_ret (pe_lst (pa_cons (pv 2) (pa_cons (pv 3) (pa_cons (pv 4) (pa_cons (pe_call GB hr (by rfl) T.dByOrder.g T.dByOrder.F.kp (bByOrder _) .nil pass0 (pa_cons (pv 2) (pa_cons (pv 3) (pa_cons (pv 4) (pa_cons (pv 6) (pa_cons
          (pe_cmpR op_eq (pv 5) pe_int (nomark _)) pa_nil)))))) pa_nil)))))))) pss_nil)
      (pss_cons (ps_if (pt_cmpR op_eq (pv 5) pe_int (nomark _))
        (pss_one (ps_ret (pe_lst (pa_cons (pv 2) (pa_cons (pv 3) (pa_cons (pv 4) (pa_cons
          (pe_lc (own := [("_law_glass", 8)]) (g := gName 8) (tt := tYes) (by rfl) scDrawn.nd (pi_list (pe_call GT hr1 (by rfl) T.dLTexts.g T.dLTexts.F.kp (bLTexts _) .nil pass0 (pa_cons (pv 2) (pa_cons (pe_op op_sub (pe_op op_add (pv 3) (pv 4)) pe_int) pa_nil))))
            (blkOk_by (own := [("_law_glass", 8)]) (N := ["_law_box", "_law_sizes", "_law_size", "_law_wide", "_law_long", "_law_form", "_law_pieces", "_law_at", "_law_glass"]) (sc := defScope sDrawn) (by decide +kernel))
            (fun _ _ _ _ _ => pg_name (i := 8) scDrawn.nd rfl (Or.inl rfl)) (fun _ _ _ _ _ => pts_nil)
            (fun _ _ _ _ _ => pe_call GK hr1 (by rfl) T.dTake.g T.dTake.F.kp (bTake _) .nil pass0 (pa_cons (pv 0) (pa_cons (pv 3) pa_nil)))) pa_nil))))))) pss_nil)
      (pss_cons (ps_set (i := 7) scDrawn.nd rfl (.inr rfl) (pe_call GK hr1 (by rfl) T.dTake.g T.dTake.F.kp (bTake _) .nil pass0 (pa_cons (pv 0) (pa_cons (pv 3) pa_nil))))
      (pss_one (ps_ret (pe_lst (pa_cons (pv 2) (pa_cons (pv 3) (pa_cons (pv 4) (pa_cons
          (pe_lc (own := [("_law_glass", 8)]) (g := gName 8) (tt := tYes) (by rfl) scDrawn.nd (pi_list (pe_call GT hr1 (by rfl) T.dLTexts.g T.dLTexts.F.kp (bLTexts _) .nil pass0 (pa_cons (pv 2) (pa_cons (pe_op op_sub (pe_op op_add (pv 3) (pv 4)) pe_int) pa_nil))))
            (blkOk_by (own := [("_law_glass", 8)]) (N := ["_law_box", "_law_sizes", "_law_size", "_law_wide", "_law_long", "_law_form", "_law_pieces", "_law_at", "_law_glass"]) (sc := defScope sDrawn) (by decide +kernel))
            (fun _ _ _ _ _ => pg_name (i := 8) scDrawn.nd rfl (Or.inl rfl)) (fun _ _ _ _ _ => pts_nil)
            (fun _ _ _ _ _ => pe_ifExp (pt_cmp (pc_gt (pe_call GK hr1 (by rfl) T.dTake.g T.dTake.F.kp (bTake _) .nil pass0 (pa_cons (pv 0) (pa_cons pe_int pa_nil))) pe_int)) (pv 7)
              (pe_call GK hr1 (by rfl) T.dTake.g T.dTake.F.kp (bTake _) .nil pass0 (pa_cons (pv 0) (pa_cons (pv 3) pa_nil))))) pa_nil))))))))))), ?_⟩
    refine ⟨.ref b, rfl, .ref a, rfl, b, a, xs, rfl, ha, hab, h0, h1, hb, fun i x H1 hx kp1 hb1 => ?_⟩
    obtain ⟨p0, wd, k, rfl, hp0, wk⟩ := hxs x (List.mem_of_getElem? hx)
    have np0 : p0 ≠ b := by
      obtain ⟨_, _, _, _, _, e⟩ := hb
      exact ne_of hp0 e (by intro z; cases z)
    refine ⟨p0, _, rfl, SqT.of (kp1 _ _ np0 hp0), rfl, _, _, rfl, _, _, rfl, _, _, rfl, rfl, ?_⟩
    refine ⟨.ref b, rfl, b, 4, rfl, by decide, by decide, hb1, fun form H2 hform kp2 hb2 => ?_⟩
    have kp02 := kp1.trans kp2
    obtain ⟨w1, w5, k1, k4, _, _⟩ := id wk
    -- a table told makes the list
    have fin : ∀ (p tb : Addr) (l : List Nat) (H5 : Hp), H5 p = none → Keep b H H5 → BoxAt H5 b → H5 tb = some (.lst (vn l)) → l.length = 2 ^ (wd + k - 1) → (∀ x ∈ l, x < wd) → Q (.ref p) (upd H5 p (.lst [.int 2, .int (wd : Int), .int (k : Int), .ref tb])) := by
      intro p tb l H5 np kp5 hb5 htb hll hlw
      refine q p ⟨wd, k, l⟩ _ (wk.rule hll hlw) (kp5.new np) (hb5.same (same_new np)) ⟨tb, upd_same, ?_⟩
      rw [upd_ne (ne_of_none htb np)]
      exact htb
    have hc : V.int ((wd : Int) + (k : Int) - 1) = V.int ((wd + k - 1 : Nat) : Int) := by
      congr 1
      omega
    have h256 : 2 ^ (wd + k - 1) ≤ 2 ^ 8 := Nat.pow_le_pow_right (by decide) (by omega)
    refine ⟨_, rfl, _, _, rfl, rfl, _, rfl, ?_⟩
    refine ite2 (fun _ => ?_) (fun _ => ?_)
    · refine ⟨.ref b, rfl, .int 2, rfl, .int (k : Int), rfl, k, rfl, by omega, fun G H3 sm3 nG hG => ?_⟩
      have hb3 := hb2.same sm3
      have nGb : G ≠ b := hb2.ne nG
      refine ⟨b, G, _, rfl, SqL.of hG, nGb, ?_, hb3, fun ys M H4 pm kp4 hb4 nM hM => ?_⟩
      · rw [vt_len, words_length]
        have : 2 ^ k ≤ 2 ^ 4 := Nat.pow_le_pow_right (by decide) k4
        omega
      obtain ⟨ps, rfl, pm2⟩ : ∃ ps : List (List Bool), ys = vt ps ∧ ps.Perm (words k) := by
        have hex : ∀ x ∈ ys, ∃ t : List Bool, x = V.str (enc t) := fun x hx => by
          have := pm.mem_iff.mp hx
          unfold vt at this
          obtain ⟨t, _, rfl⟩ := List.mem_map.mp this
          exact ⟨t, rfl⟩
        have hps : ∀ zs : List V, (∀ x ∈ zs, ∃ t : List Bool, x = V.str (enc t)) → ∃ ps : List (List Bool), zs = vt ps := by
          intro zs
          induction zs with
          | nil => exact fun _ => ⟨[], rfl⟩
          | cons z zs ih =>
            intro h
            obtain ⟨t, rfl⟩ := h z List.mem_cons_self
            obtain ⟨ps, rfl⟩ := ih fun x hx => h x (List.mem_cons_of_mem _ hx)
            exact ⟨t :: ps, rfl⟩
        obtain ⟨ps, rfl⟩ := hps ys hex
        exact ⟨ps, rfl, perm_vt pm⟩
      refine ⟨.int 2, rfl, .int (wd : Int), rfl, .int (k : Int), rfl, .int 2, rfl, .int (wd : Int), rfl, .int (k : Int), rfl, .ref M, rfl, .int (form : Int), rfl, ?_⟩
      refine ⟨rfl, M, ps, wd, k, decide (V.int (form : Int) = V.int 1), rfl, w1, w5, k1, k4, SqL.of hM, pm2, fun p l H5 sm5 np hp hll hlw => ?_⟩
      refine ⟨(by show 4 ≤ sizeLine; decide), fun p2 np2 => ?_⟩
      exact fin p2 p l H5 np2 ((kp02.trans ((Keep.of sm3).trans kp4)).trans (.of sm5)) (hb4.same sm5) hp hll hlw
    · refine ⟨_, rfl, rfl, _, rfl, ?_⟩
      refine ite2 (fun _ => ?_) (fun _ => ?_)
      · refine ⟨.int 2, rfl, .int (wd : Int), rfl, .int (k : Int), rfl, ?_⟩
        refine ⟨.int 2, rfl, .int (wd : Int), rfl, .int (k : Int), rfl, _, _, rfl, rfl, _, _, rfl, rfl, wd + k - 1, ?_, by omega, fun G H3 sm3 nG hG => ?_⟩
        · show [V.int 2, .int ((wd : Int) + (k : Int) - 1)] = _
          rw [hc]
        have hb3 := hb2.same sm3
        have nGb : G ≠ b := hb2.ne nG
        refine ⟨G, rfl, ⟨_, SqL.of hG⟩, fun D nD => ?_⟩
        have nDb : D ≠ b := hb3.ne nD
        refine it_by (walk_list (K := K) (a := G) (xs := vt (words (wd + k - 1)))) (fun j H' => Keep b H3 H' ∧ BoxAt H' b ∧ ∃ l : List Nat, H' D = some (.lst (vn l)) ∧ l.length = j ∧ ∀ x ∈ l, x < wd)
          ⟨Keep.refl.new nD, hb3.upd nDb, [], upd_same, rfl, (fun _ h => nomatch h)⟩ (fun j H' _ p => SqL.of (p.1 _ _ nGb hG)) ?_ ?_
        · rintro j x H4 H5 hj ⟨kp4, hb4, l, hD, hll, hlw⟩ ⟨rfl, hx⟩
          rw [vt_len, words_length] at hj
          refine ⟨rfl, ?_⟩
          refine ⟨.ref b, rfl, .int (wd : Int), rfl, b, wd, rfl, by omega, by omega, hb4, fun d H6 hd kp6 hb6 => ?_⟩
          refine ⟨_, kp6 _ _ nDb hD, ?_, (kp4.trans kp6).upd nD, hb6.upd nDb, l ++ [d], ?_, ?_, ?_⟩
          · rw [vn_len]; exact small1000 (by omega)
          · rw [upd_same]
            unfold vn
            rw [List.map_append]
            rfl
          · rw [List.length_append, hll]; rfl
          · intro y hy
            rcases List.mem_append.mp hy with h | h
            · exact hlw y h
            · rw [List.mem_singleton.mp h]; exact hd
        · rintro H4 ⟨kp4, hb4, l, hD, hll, hlw⟩
          rw [vt_len, words_length] at hll
          refine ⟨(by show 4 ≤ sizeLine; decide), fun p2 np2 => ?_⟩
          exact fin p2 D l H4 np2 ((kp02.trans (.of sm3)).trans kp4) hb4 hD hll hlw
      · refine ⟨.ref b, rfl, .int (wd : Int), rfl, b, wd, rfl, by omega, by omega, hb2, fun at0 H2' hat kp2' hb2' => ?_⟩
        refine ⟨.int 2, rfl, .int (wd : Int), rfl, .int (k : Int), rfl, ?_⟩
        refine ⟨.int 2, rfl, .int (wd : Int), rfl, .int (k : Int), rfl, _, _, rfl, rfl, _, _, rfl, rfl, wd + k - 1, ?_, by omega, fun G H3 sm3 nG hG => ?_⟩
        · show [V.int 2, .int ((wd : Int) + (k : Int) - 1)] = _
          rw [hc]
        have hb3 := hb2'.same sm3
        have nGb : G ≠ b := hb2'.ne nG
        refine ⟨G, rfl, ⟨_, SqL.of hG⟩, fun D nD => ?_⟩
        have nDb : D ≠ b := hb3.ne nD
        refine it_by (walk_list (K := K) (a := G) (xs := vt (words (wd + k - 1)))) (fun j H' => Keep b H3 H' ∧ BoxAt H' b ∧ ∃ l : List Nat, H' D = some (.lst (vn l)) ∧ l.length = j ∧ ∀ x ∈ l, x < wd)
          ⟨Keep.refl.new nD, hb3.upd nDb, [], upd_same, rfl, (fun _ h => nomatch h)⟩ (fun j H' _ p => SqL.of (p.1 _ _ nGb hG)) ?_ ?_
        · rintro j x H4 H5 hj ⟨kp4, hb4, l, hD, hll, hlw⟩ ⟨rfl, hx⟩
          rw [vt_len, words_length] at hj
          have app : ∀ (d : Nat) (H6 : Hp), d < wd → Keep b H5 H6 → BoxAt H6 b → ∃ acc, H6 D = some (.lst acc) ∧ acc.length < sizeLine ∧ (Keep b H3 (upd H6 D (.lst (acc ++ [V.int (d : Int)]))) ∧ BoxAt (upd H6 D (.lst (acc ++ [V.int (d : Int)]))) b ∧
              ∃ l : List Nat, (upd H6 D (.lst (acc ++ [V.int (d : Int)]))) D = some (.lst (vn l)) ∧ l.length = j + 1 ∧ ∀ x ∈ l, x < wd) := by
            intro d H6 hd kp6 hb6
            refine ⟨_, kp6 _ _ nDb hD, ?_, (kp4.trans kp6).upd nD, hb6.upd nDb, l ++ [d], ?_, ?_, ?_⟩
            · rw [vn_len]; exact small1000 (by omega)
            · rw [upd_same]
              unfold vn
              rw [List.map_append]
              rfl
            · rw [List.length_append, hll]; rfl
            · intro y hy
              rcases List.mem_append.mp hy with h | h
              · exact hlw y h
              · rw [List.mem_singleton.mp h]; exact hd
          refine ⟨rfl, ?_⟩
          refine ⟨.ref b, rfl, b, 5, rfl, by decide, by decide, hb4, fun d H6 hd kp6 hb6 => ?_⟩
          refine ⟨_, _, rfl, rfl, _, rfl, ?_⟩
          refine ite2 (fun _ => ?_) (fun _ => ?_)
          · exact ⟨.int (at0 : Int), rfl, app at0 H6 hat kp6 hb6⟩
          · refine ⟨.ref b, rfl, .int (wd : Int), rfl, b, wd, rfl, by omega, by omega, hb6, fun d H7 hd kp7 hb7 => ?_⟩
            exact app d H7 hd (kp6.trans kp7) hb7
        · rintro H4 ⟨kp4, hb4, l, hD, hll, hlw⟩
          rw [vt_len, words_length] at hll
          refine ⟨(by show 4 ≤ sizeLine; decide), fun p2 np2 => ?_⟩
          exact fin p2 D l H4 np2 (((kp02.trans kp2').trans (.of sm3)).trans kp4) hb4 hD hll hlw
end
end Wp
/-! The law's own defs: shares_right. -/
namespace Wp
open PySem PySem.Spec PyProof.Rows L2
theorem walk_zipT {K : PySem.W.Frag} {a b : Addr} {xs ys : List V} {n : Nat} (hn : n = min xs.length ys.length) : Walk (RZ.ItzT K a b) n (fun H => SqT K H a xs ∧ SqT K H b ys) (YPair (fun i => xs[i]?) (fun i => ys[i]?)) := by
  subst hn
  refine ⟨fun i _ hi q => ?_, fun _ q => ⟨xs, ys, q.1, q.2, by omega⟩, fun i H v H' _ q y => ?_⟩
  · have h1 : i < xs.length := by omega
    have h2 : i < ys.length := by omega
    exact ⟨xs, ys, xs[i], ys[i], q.1, q.2, by simp [h1], by simp [h2]⟩
  · obtain ⟨T, x, z, h1, h2, h3, h4, h5⟩ := y
    exact ⟨T, x, z, h1, h2, h3, h4 xs q.1, h5 ys q.2⟩
theorem evS_small {r : Ru} (ok : r.Ok) : (evS r).1 ≤ 1000 ∧ (evS r).2 ≤ 1000 := by
  have h32 := pw_n ok
  have h1 : ev r ≤ 2 ^ r.n := by
    rw [← words_length]
    exact List.length_filter_le _ _
  have h2 : (evS r).1 ≤ ev r := Nat.div_le_self _ _
  have h3 : (evS r).2 ≤ 2 ^ r.n := Nat.div_le_self _ _
  omega
/-- a share stands at a -/
def FAt (H : Hp) (a : Addr) (x : Nat × Nat) : Prop := H a = some (.tup [.int (x.1 : Int), .int (x.2 : Int)])
theorem FAt.mono {H H' : Hp} {a : Addr} {x : Nat × Nat} (h : FAt H a x) (s : Same H H') : FAt H' a x := s _ _ h
/-- a share as data -/
def fd2 (x : Nat × Nat) : PyData := .tuple [.int (x.1 : Int), .int (x.2 : Int)]
theorem FAt.dp {K : PySem.W.Frag} {H : Hp} {a : Addr} {x : Nat × Nat} (h : FAt H a x) : Dp K H (.ref a) (fd2 x) := .tup (SqT.of h) (.cons (.int _) (.cons (.int _) .nil))
def fd4 (a b c d : Nat × Nat) : PyData := .tuple [fd2 a, fd2 b, fd2 c, fd2 d]
theorem fd4_shaped (a b c d : Nat × Nat) : SeqAt.shaped (fd4 a b c d) = true := by rfl
theorem fd4_eq (a b c d : Nat × Nat) : PyData.eqv (fd4 a b c d) (fd4 a b c d) = true := by
  simp [fd4, fd2, PyData.eqv, PyData.eqvAll]
section
variable {P : Program} {w : World} {K : PySem.W.Frag} {mg : Str → Option Value} {base : Heap}
def spShares (C : Addr) : Sp := fun vs H Q _ => ∃ (pa qa : Addr) (p q : Ru) (t : List Bool), vs = [.ref pa, .ref qa, .str (enc t)] ∧ p.Ok ∧ q.Ok ∧ RAt C H pa p ∧ RAt C H qa q ∧ 0 < t.length ∧ t.length ≤ 100 ∧
  ∀ H', Same H H' → Q (.bl true) H'
theorem okShares (T : Txt K mg) : FnOk P w K mg base CX0 9 T.dShares.f T.dShares.fd ["_law_here", "_law_there", "_law_text_here"] (spShares T.C) := by
  refine fok T.dShares.F scShares (fun vs H Q E h => ?_) (fun cdv A outer s H vs Q E hr h => ?_)
  · obtain ⟨pa, qa, p, q, t, rfl, _⟩ := h
    rfl
  · obtain ⟨pa, qa, p, q, t, rfl, op, oq, Rp, Rq, ht0, ht1, k⟩ := h
    have hu64 : (A.deeper (envOfC "_law_shares_right" (defScope sShares) s.heap.objs.size T.dShares.f cdv)).units + 64 < cLine := by
      have := hr.un
      omega
    have GE : FnOk P w K mg base CX0 5 T.dEvenShare.f T.dEvenShare.fd ["rule"] (spEven T.C) := okEvenShare T
    have GG : FnOk P w K mg base CX0 8 T.dGreatest.f T.dGreatest.fd ["rule", "lot"] (spExt K T.C true) := okGreatest T
    have GL : FnOk P w K mg base CX0 8 T.dLeast.f T.dLeast.fd ["rule", "lot"] (spExt K T.C false) := okLeast T
    have GS : FnOk P w K mg base CX0 5 T.dShare.f T.dShare.fd ["rule", "text"] (spShare T.C) := okShare T
    have GA : FnOk P w K mg base CX0 6 T.dAlike.f T.dAlike.fd ["p", "q"] (spAlike T.C) := okAlike T
    have GN : FnOk P w K mg base CX0 6 T.dNoMore.f T.dNoMore.fd ["p", "q"] (spNoMore T.C) := okNoMore T
    have GX : FnOk P w K mg base CX0 1 T.dLess.f T.dLess.fd ["_law_one", "_law_other"] (spLess K) := okLess T
    obtain ⟨dsG, hvG, hbG⟩ := bGreatest T.dGreatest
    obtain ⟨dsL, hvL, hbL⟩ := bLeast T.dLeast
    have hr1 : Room 1 _ := hr.mono (by decide)
    have hr5 : Room 5 _ := hr.mono (by decide)
    have hr6 : Room 6 _ := hr.mono (by decide)
    refine ⟨_, pss_cons (ps_set (i := 3) scShares.nd rfl (.inl rfl) (pe_tup (pa_cons (pe_call GE hr5 (by rfl) T.dEvenShare.g T.dEvenShare.F.kp (bEvenShare _) .nil pass0 (pa_cons (pv 0) pa_nil))
        (pa_cons (pe_call GG hr (by rfl) T.dGreatest.g T.dGreatest.F.kp hbG hvG pass0 (pa_cons (pv 0) pa_nil)) (pa_cons (pe_call GL hr (by rfl) T.dLeast.g T.dLeast.F.kp hbL hvL pass0 (pa_cons (pv 0) pa_nil))
        (pa_cons (pe_call GS hr5 (by rfl) T.dShare.g T.dShare.F.kp (bShare _) .nil pass0 (pa_cons (pv 0) (pa_cons (pv 2) pa_nil))) pa_nil))))))
      (pss_cons (ps_set (i := 4) scShares.nd rfl (.inl rfl) (pe_tup (pa_cons (pe_call GE hr5 (by rfl) T.dEvenShare.g T.dEvenShare.F.kp (bEvenShare _) .nil pass0 (pa_cons (pv 1) pa_nil))
        (pa_cons (pe_call GG hr (by rfl) T.dGreatest.g T.dGreatest.F.kp hbG hvG pass0 (pa_cons (pv 1) pa_nil)) (pa_cons (pe_call GL hr (by rfl) T.dLeast.g T.dLeast.F.kp hbL hvL pass0 (pa_cons (pv 1) pa_nil))
        (pa_cons (pe_call GS hr5 (by rfl) T.dShare.g T.dShare.F.kp (bShare _) .nil pass0 (pa_cons (pv 1) (pa_cons (pv 2) pa_nil))) pa_nil))))))
      (pss_cons (ps_if (pt_val (pe_call GA hr6 (by rfl) T.dAlike.g T.dAlike.F.kp (bAlike _) .nil pass0 (pa_cons (pv 0) (pa_cons (pv 1) pa_nil))))
        (pss_one (ps_ret (pe_and (pe_cmpR (op_eqD hu64) (pv 3) (pv 4) (nomark _)) (pe_and (pe_call GN hr6 (by rfl) T.dNoMore.g T.dNoMore.F.kp (bNoMore _) .nil pass0 (pa_cons (pv 0) (pa_cons (pv 1) pa_nil)))
          (pe_one (pe_call GN hr6 (by rfl) T.dNoMore.g T.dNoMore.F.kp (bNoMore _) .nil pass0 (pa_cons (pv 1) (pa_cons (pv 0) pa_nil)))))))) pss_nil)
      (pss_cons (ps_if (pw_and (pt_val (pe_call GN hr6 (by rfl) T.dNoMore.g T.dNoMore.F.kp (bNoMore _) .nil pass0 (pa_cons (pv 0) (pa_cons (pv 1) pa_nil))))
          (pw_and1 (pt_cmpR (op_neD hu64) (pe_lc (own := [("_law_left", 5), ("_law_right", 6)]) (g := gTup K 2 (gCons (gName 5) (gCons (gName 6) gNil))) (by rfl) scShares.nd (RZ.pi_zipA (by rfl) T.n_zip (pa_cons (pv 3) (pa_cons (pv 4) pa_nil)))
            (blkOk_by (own := [("_law_left", 5), ("_law_right", 6)]) (N := ["_law_here", "_law_there", "_law_text_here", "_law_one", "_law_other", "_law_left", "_law_right"]) (sc := defScope sShares) (by decide +kernel))
            (fun _ _ _ _ _ => pg_tup rfl (pgs_cons (pg_name (i := 5) scShares.nd rfl (Or.inl rfl)) (pgs_cons (pg_name (i := 6) scShares.nd rfl (Or.inl rfl)) pgs_nil)))
            (fun _ _ _ _ _ => pts_one (pt_val (pe_call GX hr1 (by rfl) T.dLess.g T.dLess.F.kp (bLess _) .nil pass0 (pa_cons (pv 6) (pa_cons (pv 5) pa_nil))))) (fun _ _ _ _ _ => pe_int)) (pe_lst pa_nil) (nomark _)))).pt
        (pss_one (ps_ret pe_bl)) pss_nil)
      (pss_one (ps_ret (pe_not (pe_and (pe_call GN hr6 (by rfl) T.dNoMore.g T.dNoMore.F.kp (bNoMore _) .nil pass0 (pa_cons (pv 0) (pa_cons (pv 1) pa_nil)))
          (pe_one (pe_call GN hr6 (by rfl) T.dNoMore.g T.dNoMore.F.kp (bNoMore _) .nil pass0 (pa_cons (pv 1) (pa_cons (pv 0) pa_nil))))))))))), ?_⟩
    -- one
    refine ⟨.ref pa, rfl, pa, p, rfl, op, Rp, fun e1 H1 sm1 he1 => ?_⟩
    refine ⟨.ref pa, rfl, pa, T.lotG, p, rfl, op, Rp.mono sm1, T.hG _, fun g1 xg1 H2 sm2 hg1 _ ig1 => ?_⟩
    have s2 := sm1.trans sm2
    refine ⟨.ref pa, rfl, pa, T.lotL, p, rfl, op, Rp.mono s2, T.hL _, fun l1 xl1 H3 sm3 hl1 _ il1 => ?_⟩
    have s3 := s2.trans sm3
    refine ⟨.ref pa, rfl, .str (enc t), rfl, pa, p, t, rfl, op, Rp.mono s3, ht0, ht1, fun h1 H4 sm4 hh1 => ?_⟩
    have s4 := s3.trans sm4
    refine ⟨(by show 4 ≤ sizeLine; decide), fun O1 nO1 => ?_⟩
    have s5 : Same H (upd H4 O1 (.tup [.ref e1, .ref g1, .ref l1, .ref h1])) := sm_upd s4 (s4.free nO1)
    have s45 : Same H4 (upd H4 O1 (.tup [.ref e1, .ref g1, .ref l1, .ref h1])) := same_new nO1
    -- other
    refine ⟨.ref qa, rfl, qa, q, rfl, oq, Rq.mono s5, fun e2 H6 sm6 he2 => ?_⟩
    have s6 := s5.trans sm6
    refine ⟨.ref qa, rfl, qa, T.lotG, q, rfl, oq, Rq.mono s6, T.hG _, fun g2 xg2 H7 sm7 hg2 bg2 ig2 => ?_⟩
    have s7 := s6.trans sm7
    refine ⟨.ref qa, rfl, qa, T.lotL, q, rfl, oq, Rq.mono s7, T.hL _, fun l2 xl2 H8 sm8 hl2 bl2 il2 => ?_⟩
    have s8 := s7.trans sm8
    refine ⟨.ref qa, rfl, .str (enc t), rfl, qa, q, t, rfl, oq, Rq.mono s8, ht0, ht1, fun h2 H9 sm9 hh2 => ?_⟩
    have s9 := s8.trans sm9
    refine ⟨(by show 4 ≤ sizeLine; decide), fun O2 nO2 => ?_⟩
    generalize hH : upd H9 O2 (.tup [.ref e2, .ref g2, .ref l2, .ref h2]) = HA
    have s9A : Same H9 HA := by rw [← hH]; exact same_new nO2
    have hO2 : HA O2 = some (.tup [.ref e2, .ref g2, .ref l2, .ref h2]) := by rw [← hH, upd_same]
    have s0A : Same H HA := s9.trans s9A
    have s8A := sm9.trans s9A
    have s7A := sm8.trans s8A
    have s6A := sm7.trans s7A
    have s5A := sm6.trans s6A
    have s4A := s45.trans s5A
    have s3A := sm4.trans s4A
    have s2A := sm3.trans s3A
    have s1A := sm2.trans s2A
    have hO1 : HA O1 = some (.tup [.ref e1, .ref g1, .ref l1, .ref h1]) := s5A _ _ upd_same
    have fe1 : FAt HA e1 (evS p) := s1A _ _ he1
    have fg1 : FAt HA g1 xg1 := s2A _ _ hg1
    have fl1 : FAt HA l1 xl1 := s3A _ _ hl1
    have fh1 : FAt HA h1 (shS p t) := s4A _ _ hh1
    have fe2 : FAt HA e2 (evS q) := s6A _ _ he2
    have fg2 : FAt HA g2 xg2 := s7A _ _ hg2
    have fl2 : FAt HA l2 xl2 := s8A _ _ hl2
    have fh2 : FAt HA h2 (shS q t) := s9A _ _ hh2
    clear he1 hg1 hl1 hh1 he2 hg2 hl2 hh2
    -- alike
    refine ⟨.ref pa, rfl, .ref qa, rfl, pa, qa, p, q, rfl, op, oq, Rp.mono s0A, Rq.mono s0A, fun HB sB => ?_⟩
    have s0B := s0A.trans sB
    refine ⟨_, rfl, ?_⟩
    cases hal : alike p q with
    | true =>
      refine iteT ?_
      have e3 : xg1 = xg2 := ex_eq op oq hal ig1 ig2
      have e4 : xl1 = xl2 := ex_eq op oq hal il1 il2
      have e5 : evS p = evS q := evS_eq op oq hal
      have e6 : shS p t = shS q t := shS_eq op oq hal t
      refine ⟨.ref O1, rfl, .ref O2, rfl, fd4 (evS q) xg2 xl2 (shS q t), fd4 (evS q) xg2 xl2 (shS q t), ?_, ?_, fd4_shaped _ _ _ _, fd4_shaped _ _ _ _, ?_⟩
      · refine .tup (SqT.of (sB _ _ hO1)) (.cons ?_ (.cons ?_ (.cons ?_ (.cons ?_ .nil))))
        · rw [← e5]; exact (fe1.mono sB).dp
        · rw [← e3]; exact (fg1.mono sB).dp
        · rw [← e4]; exact (fl1.mono sB).dp
        · rw [← e6]; exact (fh1.mono sB).dp
      · exact .tup (SqT.of (sB _ _ hO2)) (.cons (fe2.mono sB).dp (.cons (fg2.mono sB).dp (.cons (fl2.mono sB).dp (.cons (fh2.mono sB).dp .nil))))
      · refine ⟨_, rfl, ?_⟩
        rw [fd4_eq]
        refine iteT ?_
        refine ⟨.ref pa, rfl, .ref qa, rfl, pa, qa, p, q, rfl, op, oq, Rp.mono s0B, Rq.mono s0B, fun HC sC => ?_⟩
        have s0C := s0B.trans sC
        refine ⟨_, rfl, ?_⟩
        rw [alike_noMore hal]
        refine iteT ?_
        refine ⟨.ref qa, rfl, .ref pa, rfl, qa, pa, q, p, rfl, oq, op, Rq.mono s0C, Rp.mono s0C, fun HD sD => ?_⟩
        rw [alike_noMore (show alike q p = true by rw [alike_symm]; exact hal)]
        exact k HD (s0C.trans sD)
    | false =>
      refine iteF ?_
      -- the last line
      have last : ∀ HC : Hp, Same H HC → ∀ (Qv : VK), (∀ HE, Same H HE → Qv (.bl true) HE) → tNotV (tAndV (tCall (spNoMore T.C) [] E0 (tCons (tVar 0) (tCons (tVar 1) tNil))) (tCall (spNoMore T.C) [] E0 (tCons (tVar 1) (tCons (tVar 0) tNil))))
          [some (.ref pa), some (.ref qa), some (.str (enc t)), some (.ref O1), some (.ref O2), none, none] HC Qv := by
        intro HC s0C Qv hQ
        refine ⟨.ref pa, rfl, .ref qa, rfl, pa, qa, p, q, rfl, op, oq, Rp.mono s0C, Rq.mono s0C, fun HD sD => ?_⟩
        have s0D := s0C.trans sD
        refine ⟨_, rfl, ?_⟩
        cases hn : noMore p q with
        | false =>
          refine iteF ?_
          exact ⟨_, rfl, hQ HD s0D⟩
        | true =>
          refine iteT ?_
          refine ⟨.ref qa, rfl, .ref pa, rfl, qa, pa, q, p, rfl, oq, op, Rq.mono s0D, Rp.mono s0D, fun HE sE => ?_⟩
          refine ⟨_, rfl, ?_⟩
          cases hn2 : noMore q p with
          | true =>
            rw [noMore_both hn hn2] at hal
            cases hal
          | false => exact hQ HE (s0D.trans sE)
      refine ⟨.ref pa, rfl, .ref qa, rfl, pa, qa, p, q, rfl, op, oq, Rp.mono s0B, Rq.mono s0B, fun HC sC => ?_⟩
      have s0C := s0B.trans sC
      have sAC := sB.trans sC
      refine ⟨_, rfl, ?_⟩
      cases hn : noMore p q with
      | false =>
        refine iteF (iteF ?_)
        exact last HC s0C _ fun HE sE => k HE sE
      | true =>
        refine iteT ?_
        refine ⟨.ref O1, rfl, .ref O2, rfl, O1, O2, _, _, rfl, .inr ⟨SqT.of (sAC _ _ hO1), SqT.of (sAC _ _ hO2), fun D nD => ?_⟩⟩
        have hz : ∀ (j : Nat) (x y : V), ([V.ref e1, .ref g1, .ref l1, .ref h1] : List V)[j]? = some x → ([V.ref e2, .ref g2, .ref l2, .ref h2] : List V)[j]? = some y →
            ∃ (a c : Addr) (u v : Nat × Nat), x = .ref a ∧ y = .ref c ∧ FAt HA a u ∧ FAt HA c v ∧ (v.1 ≤ 1000 ∧ v.2 ≤ 1000) ∧ FLe u v := by
          intro j x y hx hy
          match j, hx, hy with
          | 0, hx, hy => cases hx; cases hy; exact ⟨e1, e2, _, _, rfl, rfl, fe1, fe2, evS_small oq, evS_le op oq hn⟩
          | 1, hx, hy => cases hx; cases hy; exact ⟨g1, g2, _, _, rfl, rfl, fg1, fg2, bg2, ex_le op oq hn ig1 ig2⟩
          | 2, hx, hy => cases hx; cases hy; exact ⟨l1, l2, _, _, rfl, rfl, fl1, fl2, bl2, ex_le op oq hn il1 il2⟩
          | 3, hx, hy =>
            cases hx; cases hy
            exact ⟨h1, h2, _, _, rfl, rfl, fh1, fh2, ⟨Nat.le_trans (shS_small1 (r := q) (t := t)) (by omega), Nat.le_trans (shS_small (r := q) (t := t)) (by omega)⟩, shS_le op oq hn ht0⟩
          | n + 4, hx, _ => cases hx
        refine it_by (walk_zipT (K := K) (a := O1) (b := O2) (xs := [.ref e1, .ref g1, .ref l1, .ref h1]) (ys := [.ref e2, .ref g2, .ref l2, .ref h2]) (n := 4) rfl) (fun j H' => Same HC H' ∧ H' D = some (.lst [])) ⟨same_new nD, upd_same⟩
          (fun j H' _ p => ⟨SqT.of (p.1 _ _ (sAC _ _ hO1)), SqT.of (p.1 _ _ (sAC _ _ hO2))⟩) ?_ ?_
        · rintro j x HE HF hj ⟨sE, hD⟩ ⟨T0, x0, y0, rfl, nT, rfl, hx0, hy0⟩
          obtain ⟨a, c, u, v, rfl, rfl, fu, fv, bv, le⟩ := hz j _ _ hx0 hy0
          have sT : Same HE (upd HE T0 (.tup [V.ref a, .ref c])) := same_new nT
          refine ⟨T0, _, rfl, SqT.of upd_same, rfl, _, _, rfl, _, _, rfl, rfl, ?_⟩
          refine ⟨rfl, ?_⟩
          have sAT := (sAC.trans sE).trans sT
          refine ⟨.ref c, rfl, .ref a, rfl, c, a, v, u, rfl, SqT.of (sAT _ _ fv), SqT.of (sAT _ _ fu), bv.1, bv.2, ?_⟩
          have hnl : decide (v.1 * u.2 < u.1 * v.2) = false := by
            refine decide_eq_false fun h => ?_
            have : u.1 * v.2 ≤ v.1 * u.2 := le
            omega
          refine ⟨_, rfl, ?_⟩
          rw [hnl]
          exact ⟨sE.trans sT, sT _ _ hD⟩
        · rintro HE ⟨sE, hD⟩
          refine ⟨Nat.zero_le _, fun F nF => ?_⟩
          have sF : Same HE (upd HE F (.lst [])) := same_new nF
          refine ⟨.list [], .list [], .lst (SqL.of (sF _ _ hD)) .nil, .lst (SqL.of upd_same) .nil, rfl, rfl, ?_⟩
          refine ⟨_, rfl, ?_⟩
          have ef : (!PyData.eqv (.list []) (.list [])) = false := by simp [PyData.eqv, PyData.eqvAll]
          rw [ef]
          refine iteF ?_
          exact last _ ((s0C.trans sE).trans sF) _ fun HG sG => k HG sG
end
end Wp
/-! The law. -/
namespace Wp
open PySem PySem.Spec PyProof.Rows L2
theorem set_by {t : TE} {i : Nat} {u : TS} {D : Ends} {σ : L2.St} {H : Hp} (R : V → Hp → Prop) (hk : ∀ v H', R v H' → u D (σ.set i (some v)) H')
    (h : (∀ v H', R v H' → u D (σ.set i (some v)) H') → t σ H fun v H' => u D (σ.set i (some v)) H') : tSeq (tAsg t (gName i)) u D σ H := h hk
theorem gset {j : Nat} {x : V} {σ : L2.St} {H : Hp} {Q : L2.St → Hp → Prop} (h : Q (σ.set j (some x)) H) : gName j x σ H Q := h
theorem if_by {c : TT} {t u : TS} {D : Ends} {σ : L2.St} {H : Hp} (R : Hp → Prop) (hk : ∀ H', R H' → u D σ H')
    (h : (∀ H', R H' → u D σ H') → c σ H fun b H1 => if b = true then t { D with nx := u D } σ H1 else u D σ H1) : tSeq (tIfS c t tNext) u D σ H := h hk
theorem RAt.keep {C : Addr} {H H' : Hp} {p b : Addr} {r : Ru} (h : RAt C H p r) (hb : BoxAt H b) (k : Keep b H H') : RAt C H' p r := by
  obtain ⟨dx, tb, h1, h2⟩ := h.ex
  obtain ⟨g, x, _, _, _, e⟩ := hb
  exact ⟨dx, tb, k _ _ (ne_of h1 e (by intro z; cases z)) h1, k _ _ (ne_of h2 e (by intro z; cases z)) h2⟩
theorem same_keep {H H1 H2 : Hp} {b : Addr} (s : Same H H1) (n : H b = none) (k : Keep b H1 H2) : Same H H2 := fun a o e => k a o (ne_of_none e n) (s a o e)
theorem inV_ints (m : Int) (ns : List Int) : inV (.int m) (ns.map V.int) = decide (m ∈ ns) := by
  unfold inV
  induction ns with
  | nil => rfl
  | cons a ns ih =>
    rw [List.map_cons, List.any_cons, ih]
    by_cases h : a = m
    · subst h
      simp [eqV]
    · have h2 : ¬ m = a := fun z => h z.symm
      simp [eqV, h, h2]
theorem flat_ints (ns : List Int) : (ns.map V.int).all flatV = true := by
  rw [List.all_map, List.all_eq_true]
  intro x _
  rfl
section
variable {P : Program} {w : World} {K : PySem.W.Frag} {mg : Str → Option Value} {base : Heap}
def spLaw (K : PySem.W.Frag) : Sp := fun vs H Q _ => ∃ (a : Addr) (ns : List Int), vs = [.ref a] ∧ SqL K H a (ns.map V.int) ∧ ∀ H', Q (.bl true) H'
theorem okLaw (T : Txt K mg) : FnOk P w K mg base CX0 10 T.dLaw.f T.dLaw.fd ["_law_script"] (spLaw K) := by
  refine fok T.dLaw.F scLaw (fun vs H Q E h => ?_) (fun cdv A outer s H vs Q E hr h => ?_)
  · obtain ⟨a, ns, rfl, _⟩ := h
    rfl
  · obtain ⟨a, ns, rfl, hs, q⟩ := h
    have GF : FnOk P w K mg base CX0 1 T.dFeed.f T.dFeed.fd ["_law_script", "_law_k"] (spFeed K) := okFeed T
    have GK : FnOk P w K mg base CX0 1 T.dTake.f T.dTake.fd ["_law_box", "_law_many"] spTake := okTake T
    have GD : FnOk P w K mg base CX0 3 T.dDrawn.f T.dDrawn.fd ["_law_box", "_law_sizes"] (spDrawn K) := okDrawn T
    have GR : FnOk P w K mg base CX0 2 T.dNear.f T.dNear.fd ["_law_box", "_law_told"] spNear := okNear T
    have GM : FnOk P w K mg base CX0 5 T.dMade.f T.dMade.fd ["_law_told"] (spMade T.C) := okMade T
    have GX : FnOk P w K mg base CX0 3 T.dLText.f T.dLText.fd ["_law_box", "_law_size", "_law_many"] spLText := okLText T
    have GS : FnOk P w K mg base CX0 9 T.dShares.f T.dShares.fd ["_law_here", "_law_there", "_law_text_here"] (spShares T.C) := okShares T
    have GA : FnOk P w K mg base CX0 6 T.dAlike.f T.dAlike.fd ["p", "q"] (spAlike T.C) := okAlike T
    have GN : FnOk P w K mg base CX0 6 T.dNoMore.f T.dNoMore.fd ["p", "q"] (spNoMore T.C) := okNoMore T
    have GP : FnOk P w K mg base CX0 6 T.dParting.f T.dParting.fd ["p", "q"] (spParting T.C) := okParting T
    have GC : FnOk P w K mg base CX0 4 T.dPicks.f T.dPicks.fd ["rule", "text"] (spPicks T.C) := okPicks T
    have GT : FnOk P w K mg base CX0 5 T.dTurned.f T.dTurned.fd ["self"] (spTurned T.C) := okTurned T
    have hr1 : Room 1 _ := hr.mono (by decide)
    have hr2 : Room 2 _ := hr.mono (by decide)
    have hr3 : Room 3 _ := hr.mono (by decide)
    have hr4 : Room 4 _ := hr.mono (by decide)
    have hr5 : Room 5 _ := hr.mono (by decide)
    have hr6 : Room 6 _ := hr.mono (by decide)
    refine ⟨_, pss_cons (ps_for PassesOwn.never rfl (pi_range1 (by rfl) T.n_range (pa_cons (pe_callB (call_max2 rfl) (by rfl) T.n_max (by decide +kernel) (pa_cons pe_int (pa_cons (pe_callB (call_min2 rfl) (by rfl) T.n_min (by decide +kernel) (pa_cons pe_int (pa_cons
          (pe_callB call_len_seq (by rfl) T.n_len PySem.boot_len (pa_cons (pv 0) pa_nil)) pa_nil))) pa_nil))) pa_nil)) (pg_name (i := 1) scLaw.nd rfl (.inl rfl))
        (pss_cons (ps_set (i := 2) scLaw.nd rfl (.inl rfl) (pe_call GF hr1 (by rfl) T.dFeed.g T.dFeed.F.kp (bFeed _) .nil pass0 (pa_cons (pv 0) (pa_cons (pv 1) pa_nil))))
        (pss_one (ps_for PassesOwn.never rfl (pi_range1 (by rfl) T.n_range (pa_cons pe_int pa_nil)) (pg_name (i := 3) scLaw.nd rfl (.inl rfl))
          (pss_cons (ps_set (i := 4) scLaw.nd rfl (.inl rfl) (pe_call GD hr3 (by rfl) T.dDrawn.g T.dDrawn.F.kp (bDrawn _) .nil pass0 (pa_cons (pv 2) (pa_cons (pe_lst (pa_cons (pe_tup (pa_cons pe_int (pa_cons pe_int (pa_cons pe_int pa_nil))))
            (pa_cons (pe_tup (pa_cons pe_int (pa_cons pe_int (pa_cons pe_int pa_nil)))) (pa_cons (pe_tup (pa_cons pe_int (pa_cons pe_int (pa_cons pe_int pa_nil)))) (pa_cons (pe_tup (pa_cons pe_int (pa_cons pe_int (pa_cons pe_int pa_nil))))
            (pa_cons (pe_tup (pa_cons pe_int (pa_cons pe_int (pa_cons pe_int pa_nil)))) pa_nil)))))) pa_nil))))
          (pss_cons (ps_set (i := 5) scLaw.nd rfl (.inl rfl) (pe_call GD hr3 (by rfl) T.dDrawn.g T.dDrawn.F.kp (bDrawn _) .nil pass0 (pa_cons (pv 2) (pa_cons (pe_lst (pa_cons (pe_tup (pa_cons pe_int (pa_cons pe_int (pa_cons pe_int pa_nil))))
            (pa_cons (pe_tup (pa_cons pe_int (pa_cons pe_int (pa_cons pe_int pa_nil)))) (pa_cons (pe_tup (pa_cons pe_int (pa_cons pe_int (pa_cons pe_int pa_nil)))) pa_nil)))) pa_nil))))
          (pss_cons (ps_set (i := 5) scLaw.nd rfl (.inl rfl) (pe_ifExp (pt_cmp (pc_gt (pe_call GK hr1 (by rfl) T.dTake.g T.dTake.F.kp (bTake _) .nil pass0 (pa_cons (pv 2) (pa_cons pe_int pa_nil))) pe_int))
            (pe_call GR hr2 (by rfl) T.dNear.g T.dNear.F.kp (bNear _) .nil pass0 (pa_cons (pv 2) (pa_cons (pv 4) pa_nil))) (pv 5)))
          (pss_cons (ps_par (i := 6) (j := 7) rfl scLaw.nd rfl rfl (by decide) rfl rfl (pa_cons (pe_call GM hr5 (by rfl) T.dMade.g T.dMade.F.kp (bMade _) .nil pass0 (pa_cons (pv 4) pa_nil))
            (pa_cons (pe_call GM hr5 (by rfl) T.dMade.g T.dMade.F.kp (bMade _) .nil pass0 (pa_cons (pv 5) pa_nil)) pa_nil)) (by rfl))
          (pss_cons (ps_if (pt_not (pt_val (pe_call GS hr (by rfl) T.dShares.g T.dShares.F.kp (bShares _) .nil pass0 (pa_cons (pv 6) (pa_cons (pv 7) (pa_cons (pe_call GX hr3 (by rfl) T.dLText.g T.dLText.F.kp (bLText _) .nil pass0 (pa_cons (pv 2) (pa_cons pe_int (pa_cons
              (pe_op op_add pe_int (pe_call GK hr1 (by rfl) T.dTake.g T.dTake.F.kp (bTake _) .nil pass0 (pa_cons (pv 2) (pa_cons pe_int pa_nil)))) pa_nil)))) pa_nil)))))) (pss_one (ps_ret pe_bl)) pss_nil)
          (pss_cons (ps_if (pt_cmpR op_ne (pe_call GA hr6 (by rfl) T.dAlike.g T.dAlike.F.kp (bAlike _) .nil pass0 (pa_cons (pv 7) (pa_cons (pv 6) pa_nil))) (pe_call GA hr6 (by rfl) T.dAlike.g T.dAlike.F.kp (bAlike _) .nil pass0 (pa_cons (pv 6) (pa_cons (pv 7) pa_nil))) (nomark _))
            (pss_one (ps_ret pe_bl)) pss_nil)
          (pss_cons (ps_if (pw_and (pt_cmpR op_eq (pe_ix ix_list (pv 4) pe_int (fun _ _ => rfl)) (pe_ix ix_list (pv 5) pe_int (fun _ _ => rfl)) (nomark _)) (pw_and1 (pt_cmpR op_ne
              (pe_call GA hr6 (by rfl) T.dAlike.g T.dAlike.F.kp (bAlike _) .nil pass0 (pa_cons (pe_prop (pv 6) T.cl T.prT GT hr6 (bTurned _) .nil pass0 rfl) (pa_cons (pe_prop (pv 7) T.cl T.prT GT hr6 (bTurned _) .nil pass0 rfl) pa_nil)))
              (pe_call GA hr6 (by rfl) T.dAlike.g T.dAlike.F.kp (bAlike _) .nil pass0 (pa_cons (pv 6) (pa_cons (pv 7) pa_nil))) (nomark _)))).pt (pss_one (ps_ret pe_bl)) pss_nil)
          (pss_cons (ps_if (pw_and (pt_cmpR op_eq (pe_ix ix_list (pv 4) pe_int (fun _ _ => rfl)) (pe_ix ix_list (pv 5) pe_int (fun _ _ => rfl)) (nomark _)) (pw_and1 (pt_cmpR op_ne
              (pe_call GN hr6 (by rfl) T.dNoMore.g T.dNoMore.F.kp (bNoMore _) .nil pass0 (pa_cons (pe_prop (pv 6) T.cl T.prT GT hr6 (bTurned _) .nil pass0 rfl) (pa_cons (pe_prop (pv 7) T.cl T.prT GT hr6 (bTurned _) .nil pass0 rfl) pa_nil)))
              (pe_call GN hr6 (by rfl) T.dNoMore.g T.dNoMore.F.kp (bNoMore _) .nil pass0 (pa_cons (pv 6) (pa_cons (pv 7) pa_nil))) (nomark _)))).pt (pss_one (ps_ret pe_bl)) pss_nil)
          (pss_cons (ps_set (i := 8) scLaw.nd rfl (.inl rfl) (pe_call GP hr6 (by rfl) T.dParting.g T.dParting.F.kp (bParting _) .nil pass0 (pa_cons (pv 6) (pa_cons (pv 7) pa_nil))))
          (pss_cons (ps_if (pt_cmpR op_ne (pe_cmp (pc_isN (pv 8))) (pe_call GA hr6 (by rfl) T.dAlike.g T.dAlike.F.kp (bAlike _) .nil pass0 (pa_cons (pv 6) (pa_cons (pv 7) pa_nil))) (nomark _)) (pss_one (ps_ret pe_bl)) pss_nil)
          (pss_one (ps_if (pt_cmp (pc_notN (pv 8)))
            (pss_cons (ps_set (i := 9) scLaw.nd rfl (.inl rfl) (pe_lst (pa_cons (pe_call GX hr3 (by rfl) T.dLText.g T.dLText.F.kp (bLText _) .nil pass0 (pa_cons (pv 2) (pa_cons pe_int (pa_cons pe_int pa_nil))))
              (pa_cons (pe_call GX hr3 (by rfl) T.dLText.g T.dLText.F.kp (bLText _) .nil pass0 (pa_cons (pv 2) (pa_cons pe_int (pa_cons pe_int pa_nil)))) pa_nil))))
            (pss_cons (ps_par (i := 10) (j := 11) rfl scLaw.nd rfl rfl (by decide) rfl rfl (pa_cons (pe_op op_add_str (pe_op op_add_str (pe_ix ix_list (pv 9) pe_int (fun _ _ => rfl)) (pe_ix ix_tup (pv 8) pe_int (fun _ _ => rfl))) (pe_ix ix_list (pv 9) pe_int (fun _ _ => rfl)))
              (pa_cons (pe_op op_add (pe_ix ix_tup (pv 8) pe_int (fun _ _ => rfl)) pe_int) pa_nil)) (by rfl))
            (pss_one (ps_if (pt_cmpR op_eq (pe_cmpR op_in_seq (pv 11) (pe_call GC hr4 (by rfl) T.dPicks.g T.dPicks.F.kp (bPicks _) .nil pass0 (pa_cons (pv 6) (pa_cons (pv 10) pa_nil))) (by rfl))
              (pe_cmpR op_in_seq (pv 11) (pe_call GC hr4 (by rfl) T.dPicks.g T.dPicks.F.kp (bPicks _) .nil pass0 (pa_cons (pv 7) (pa_cons (pv 10) pa_nil))) (by rfl)) (nomark _)) (pss_one (ps_ret pe_bl)) pss_nil)))) pss_nil))))))))))))))))
      (pss_one (ps_ret pe_bl)), ?_⟩
    refine ⟨.ref a, rfl, a, _, rfl, .inl hs, 3, _, rfl, 1, _, rfl, ?_⟩
    obtain ⟨N, hN, hN3⟩ : ∃ N : Nat, (if (if ((ns.map V.int).length : Int) < 3 then ((ns.map V.int).length : Int) else 3) > 1 then (if ((ns.map V.int).length : Int) < 3 then ((ns.map V.int).length : Int) else 3) else 1) = (N : Int) ∧ N ≤ 3 := by
      generalize (ns.map V.int).length = L
      by_cases h1 : (L : Int) < 3
      · rw [if_pos h1]
        by_cases h2 : (L : Int) > 1
        · exact ⟨L, by rw [if_pos h2], by omega⟩
        · exact ⟨1, by rw [if_neg h2]; rfl, by omega⟩
      · exact ⟨3, by rw [if_neg h1]; rfl, by omega⟩
    refine ⟨(N : Int), congrArg (fun z => [V.int z]) hN, by omega, by omega, ?_⟩
    rw [Int.toNat_natCast]
    refine for_range (lo := 0) (n := N) (fun i σ H' => Same H H' ∧ ∃ v1 v2 v3 v4 v5 v6 v7 v8 v9 v10 v11, σ = [some (.ref a), v1, v2, v3, v4, v5, v6, v7, v8, v9, v10, v11]) ⟨Same.refl _, none, none, none, none, none, none, none, none, none, none, none, rfl⟩ ?_ ?_
    rotate_left
    · rintro σ H1 ⟨_, _, _, _, _, _, _, _, _, _, _, _, rfl⟩
      exact q H1
    rintro i σ H1 hi ⟨sm1, v1, v2, v3, v4, v5, v6, v7, v8, v9, v10, v11, rfl⟩
    refine ⟨.ref a, rfl, .int (0 + (i : Int)), rfl, a, ns, i, (by show [V.ref a, V.int (0 + (i : Int))] = _; rw [Int.zero_add]), by omega, sm1.seq hs, fun b H2 sm2 nb hb2 => ?_⟩
    have nb0 : H b = none := sm1.free nb
    refine ⟨3, rfl, by decide, by decide, ?_⟩
    refine for_range (lo := 0) (n := 3) (fun j σ H' => Same H H' ∧ BoxAt H' b ∧ ∃ v3 v4 v5 v6 v7 v8 v9 v10 v11, σ = [some (.ref a), some (.int (0 + (i : Int))), some (.ref b), v3, v4, v5, v6, v7, v8, v9, v10, v11])
      ⟨sm1.trans sm2, hb2, v3, v4, v5, v6, v7, v8, v9, v10, v11, rfl⟩ ?_ ?_
    rotate_left
    · rintro σ H3 ⟨sm3, _, _, _, _, _, _, _, _, _, _, rfl⟩
      exact ⟨sm3, _, _, _, _, _, _, _, _, _, _, _, rfl⟩
    clear v1 v2 v3 v4 v5 v6 v7 v8 v9 v10 v11
    rintro j σ H3 hj ⟨sm3, hb3, v3, v4, v5, v6, v7, v8, v9, v10, v11, rfl⟩
    have le3 : ∀ x y z : V, [x, y, z].length ≤ sizeLine := fun _ _ _ => (by show 3 ≤ sizeLine; decide)
    -- told
    refine ⟨.ref b, rfl, le3 _ _ _, fun p1 n1 => ⟨le3 _ _ _, fun p2 n2 => ⟨le3 _ _ _, fun p3 n3 => ⟨le3 _ _ _, fun p4 n4 => ⟨le3 _ _ _, fun p5 n5 => ⟨(by show 5 ≤ sizeLine; decide), fun L nL => ?_⟩⟩⟩⟩⟩⟩
    have c1 := same_new (o := HO.tup [V.int 2, .int 2, .int 1]) n1
    have c2 := same_new (o := HO.tup [V.int 2, .int 2, .int 2]) n2
    have c3 := same_new (o := HO.tup [V.int 2, .int 3, .int 1]) n3
    have c4 := same_new (o := HO.tup [V.int 2, .int 1, .int 2]) n4
    have c5 := same_new (o := HO.tup [V.int 2, .int 2, .int 3]) n5
    have c6 := same_new (o := HO.lst [V.ref p1, .ref p2, .ref p3, .ref p4, .ref p5]) nL
    have d4 := c5.trans c6
    have d3 := c4.trans d4
    have d2 := c3.trans d3
    have d1 := c2.trans d2
    have d0 := c1.trans d1
    have nLb : L ≠ b := (hb3.same (c1.trans (c2.trans (c3.trans (c4.trans c5))))).ne nL
    refine ⟨b, L, _, rfl, SqL.of upd_same, nLb, (by show 0 < 5; decide), (by show 5 ≤ 1000; decide), hb3.same d0, fun x hx => ?_, fun tp p H4 okp kp4 hb4 tat4 => ?_⟩
    · rcases List.mem_cons.mp hx with rfl | hx
      · exact ⟨p1, 2, 1, rfl, d1 _ _ upd_same, by unfold WK; decide⟩
      rcases List.mem_cons.mp hx with rfl | hx
      · exact ⟨p2, 2, 2, rfl, d2 _ _ upd_same, by unfold WK; decide⟩
      rcases List.mem_cons.mp hx with rfl | hx
      · exact ⟨p3, 3, 1, rfl, d3 _ _ upd_same, by unfold WK; decide⟩
      rcases List.mem_cons.mp hx with rfl | hx
      · exact ⟨p4, 1, 2, rfl, d4 _ _ upd_same, by unfold WK; decide⟩
      rcases List.mem_cons.mp hx with rfl | hx
      · exact ⟨p5, 2, 3, rfl, c6 _ _ upd_same, by unfold WK; decide⟩
      · cases hx
    have K4 : Keep b H3 H4 := (Keep.of d0).trans kp4
    clear d0 d1 d2 d3 d4 c1 c2 c3 c4 c5 c6 kp4
    -- other
    refine ⟨.ref b, rfl, le3 _ _ _, fun q1 m1 => ⟨le3 _ _ _, fun q2 m2 => ⟨le3 _ _ _, fun q3 m3 => ⟨(by show 3 ≤ sizeLine; decide), fun M nM => ?_⟩⟩⟩⟩
    have c1 := same_new (o := HO.tup [V.int 2, .int 2, .int 1]) m1
    have c2 := same_new (o := HO.tup [V.int 2, .int 3, .int 1]) m2
    have c3 := same_new (o := HO.tup [V.int 2, .int 2, .int 2]) m3
    have c4 := same_new (o := HO.lst [V.ref q1, .ref q2, .ref q3]) nM
    have d2 := c3.trans c4
    have d1 := c2.trans d2
    have d0 := c1.trans d1
    have nMb : M ≠ b := (hb4.same (c1.trans (c2.trans c3))).ne nM
    refine ⟨b, M, _, rfl, SqL.of upd_same, nMb, (by show 0 < 3; decide), (by show 3 ≤ 1000; decide), hb4.same d0, fun x hx => ?_, fun o0 q0 H5 okq0 kp5 hb5 tat0 => ?_⟩
    · rcases List.mem_cons.mp hx with rfl | hx
      · exact ⟨q1, 2, 1, rfl, d1 _ _ upd_same, by unfold WK; decide⟩
      rcases List.mem_cons.mp hx with rfl | hx
      · exact ⟨q2, 3, 1, rfl, d2 _ _ upd_same, by unfold WK; decide⟩
      rcases List.mem_cons.mp hx with rfl | hx
      · exact ⟨q3, 2, 2, rfl, c4 _ _ upd_same, by unfold WK; decide⟩
      · cases hx
    have K45 : Keep b H4 H5 := (Keep.of d0).trans kp5
    clear d0 d1 d2 c1 c2 c3 c4 kp5
    -- near, or not
    refine gset ?_
    dsimp only
    refine set_by (fun v H' => ∃ (o : Addr) (q : Ru), v = .ref o ∧ q.Ok ∧ Keep b H5 H' ∧ BoxAt H' b ∧ TAt H' o q) ?_ (fun go => ?_)
    rotate_left
    · refine ⟨.ref b, rfl, b, 3, rfl, by decide, by decide, hb5, fun d H6 hd kp6 hb6 => ⟨_, _, rfl, rfl, _, rfl, ite2 (fun _ => ?_) (fun _ => ?_)⟩⟩
      · exact ⟨.ref b, rfl, .ref tp, rfl, b, tp, p, rfl, okp, tat4.keep okp hb4 (K45.trans kp6), hb6, fun o q H7 okq kp7 hb7 tq => go _ _ ⟨o, q, rfl, okq, kp6.trans kp7, hb7, tq⟩⟩
      · exact ⟨.ref o0, rfl, go _ _ ⟨o0, q0, rfl, okq0, kp6, hb6, tat0.keep okq0 hb5 kp6⟩⟩
    rintro v H6 ⟨o, qr, rfl, okq, kp6, hb6, tq6⟩
    have K46 : Keep b H4 H6 := K45.trans kp6
    have tp6 : TAt H6 tp p := tat4.keep okp hb4 K46
    have K6 : Keep b H3 H6 := K4.trans K46
    -- here, there
    refine ⟨.ref tp, rfl, tp, p, rfl, okp, tp6, fun h H7 sm7 Rh7 => ⟨.ref o, rfl, o, qr, rfl, okq, tq6.mono sm7, fun th H8 sm8 Rt8 => ⟨_, _, rfl, ?_⟩⟩⟩
    have sm68 := sm7.trans sm8
    have Rh8 := Rh7.mono sm8
    have tp8 := tp6.mono sm68
    have tq8 := tq6.mono sm68
    have hb8 := hb6.same sm68
    have K8 : Keep b H3 H8 := K6.trans (.of sm68)
    clear tp6 tq6 Rh7
    -- the shares
    try dsimp only
    refine if_by (fun H' => Keep b H8 H' ∧ BoxAt H' b) ?_ (fun go => ?_)
    rotate_left
    · refine ⟨.ref h, rfl, .ref th, rfl, .ref b, rfl, .ref b, rfl, b, 20, rfl, by decide, by decide, hb8, fun d H9 hd kp9 hb9 => ?_⟩
      refine ⟨1, (d : Int), rfl, rfl, b, 1 + d, (by show [V.ref b, V.int 2, V.int (1 + (d : Int))] = [V.ref b, V.int 2, V.int ((1 + d : Nat) : Int)]; rw [Int.natCast_add]; rfl), by omega, hb9, fun t H10 htl kp10 hb10 => ?_⟩
      have kk := kp9.trans kp10
      exact ⟨h, th, p, qr, t, rfl, okp, okq, Rh8.keep hb8 kk, Rt8.keep hb8 kk, by omega, by omega, fun H11 sm11 => ⟨_, rfl, iteF (go H11 ⟨kk.trans (.of sm11), hb10.same sm11⟩)⟩⟩
    rintro H9 ⟨kp9, hb9⟩
    have Rh9 := Rh8.keep hb8 kp9
    have Rt9 := Rt8.keep hb8 kp9
    have tp9 := tp8.keep okp hb8 kp9
    have tq9 := tq8.keep okq hb8 kp9
    have K9 := K8.trans kp9
    clear Rh8 Rt8 tp8 tq8
    -- alike both ways
    try dsimp only
    refine if_by (fun H' => Same H9 H') ?_ (fun go => ?_)
    rotate_left
    · refine ⟨.ref th, rfl, .ref h, rfl, th, h, qr, p, rfl, okq, okp, Rt9, Rh9, fun H10 s10 => ⟨.ref h, rfl, .ref th, rfl, h, th, p, qr, rfl, okp, okq, Rh9.mono s10, Rt9.mono s10, fun H11 s11 => ⟨rfl, _, rfl, ite2 (fun z => ?_) (fun _ => go H11 (s10.trans s11))⟩⟩⟩
      exact absurd z (by rw [dec_bl, alike_symm]; simp)
    intro H10 s10
    -- turned: alike
    try dsimp only
    refine if_by (fun H' => Same H9 H') ?_ (fun go => ?_)
    rotate_left
    · obtain ⟨_, hp1, _⟩ := tp9.mono s10
      obtain ⟨_, hq1, _⟩ := tq9.mono s10
      refine ⟨.ref tp, rfl, tp, _, 2, _, rfl, rfl, SqL.of hp1, atI_nat (j := 2) rfl, .ref o, rfl, o, _, 2, _, rfl, rfl, SqL.of hq1, atI_nat (j := 2) rfl, rfl, _, rfl, ite2 (fun hk => ?_) (fun _ => iteF (go H10 s10))⟩
      have hk2 : p.k = qr.k := by
        have h1 := V.int.inj (of_decide_eq_true hk)
        omega
      have Rh10 := Rh9.mono s10
      have Rt10 := Rt9.mono s10
      obtain ⟨dxp, tbp, ehp, _⟩ := Rh10.ex
      obtain ⟨dxq, tbq, ehq, _⟩ := Rt10.ex
      refine ⟨.ref h, rfl, h, dxp, _, rfl, ehp, h, p, rfl, okp, Rh10, fun h' H11 s11 Rh' => ⟨.ref th, rfl, th, dxq, _, rfl, s11 _ _ ehq, th, qr, rfl, okq, Rt10.mono s11, fun th' H12 s12 Rt' => ?_⟩⟩
      refine ⟨h', th', tn p, tn qr, rfl, tn_ok okp, tn_ok okq, Rh'.mono s12, Rt', fun H13 s13 => ?_⟩
      have sx := (s11.trans s12).trans s13
      refine ⟨.ref h, rfl, .ref th, rfl, h, th, p, qr, rfl, okp, okq, Rh10.mono sx, Rt10.mono sx, fun H14 s14 => ⟨rfl, _, rfl, ite2 (fun z => ?_) (fun _ => go H14 ((s10.trans sx).trans s14))⟩⟩
      exact absurd z (by rw [dec_bl, alike_tn hk2 okp okq]; simp)
    clear s10 H10
    intro H10 s10
    -- turned: no more
    try dsimp only
    refine if_by (fun H' => Same H9 H') ?_ (fun go => ?_)
    rotate_left
    · obtain ⟨_, hp1, _⟩ := tp9.mono s10
      obtain ⟨_, hq1, _⟩ := tq9.mono s10
      refine ⟨.ref tp, rfl, tp, _, 2, _, rfl, rfl, SqL.of hp1, atI_nat (j := 2) rfl, .ref o, rfl, o, _, 2, _, rfl, rfl, SqL.of hq1, atI_nat (j := 2) rfl, rfl, _, rfl, ite2 (fun hk => ?_) (fun _ => iteF (go H10 s10))⟩
      have hk2 : p.k = qr.k := by
        have h1 := V.int.inj (of_decide_eq_true hk)
        omega
      have Rh10 := Rh9.mono s10
      have Rt10 := Rt9.mono s10
      obtain ⟨dxp, tbp, ehp, _⟩ := Rh10.ex
      obtain ⟨dxq, tbq, ehq, _⟩ := Rt10.ex
      refine ⟨.ref h, rfl, h, dxp, _, rfl, ehp, h, p, rfl, okp, Rh10, fun h' H11 s11 Rh' => ⟨.ref th, rfl, th, dxq, _, rfl, s11 _ _ ehq, th, qr, rfl, okq, Rt10.mono s11, fun th' H12 s12 Rt' => ?_⟩⟩
      refine ⟨h', th', tn p, tn qr, rfl, tn_ok okp, tn_ok okq, Rh'.mono s12, Rt', fun H13 s13 => ?_⟩
      have sx := (s11.trans s12).trans s13
      refine ⟨.ref h, rfl, .ref th, rfl, h, th, p, qr, rfl, okp, okq, Rh10.mono sx, Rt10.mono sx, fun H14 s14 => ⟨rfl, _, rfl, ite2 (fun z => ?_) (fun _ => go H14 ((s10.trans sx).trans s14))⟩⟩
      exact absurd z (by rw [dec_bl, noMore_tn hk2 okp okq]; simp)
    clear s10 H10
    intro H10 s10
    have Rh10 := Rh9.mono s10
    have Rt10 := Rt9.mono s10
    have K10 : Keep b H3 H10 := K9.trans (.of s10)
    have hb10 := hb9.same s10
    -- parting
    cases hu : unl p qr with
    | nil =>
      have hal : alike p qr = true := by
        unfold alike
        rw [hu]
        rfl
      refine ⟨.ref h, rfl, .ref th, rfl, h, th, p, qr, rfl, okp, okq, Rh10, Rt10, fun _ H11 s11 => ?_, (fun t x y rest e => by rw [hu] at e; cases e)⟩
      refine ⟨.non, rfl, .ref h, rfl, .ref th, rfl, h, th, p, qr, rfl, okp, okq, Rh10.mono s11, Rt10.mono s11, fun H12 s12 => ⟨rfl, _, rfl, ite2 (fun z => ?_) (fun _ => ?_)⟩⟩
      · exact absurd z (by rw [dec_bl, hal]; simp)
      · have s1012 := s11.trans s12
        refine ⟨.non, rfl, _, rfl, iteF ?_⟩
        exact ⟨same_keep sm3 nb0 (K10.trans (.of s1012)), hb10.same s1012, _, _, _, _, _, _, _, _, _, rfl⟩
    | cons u rest =>
      obtain ⟨t, x, y⟩ := u
      have hal : alike p qr = false := by
        unfold alike
        rw [hu]
        rfl
      obtain ⟨htl, hne⟩ := unl_head hu
      refine ⟨.ref h, rfl, .ref th, rfl, h, th, p, qr, rfl, okp, okq, Rh10, Rt10, (fun e => by rw [hu] at e; cases e), fun t' x' y' rest' e r H11 s11 hr11 => ?_⟩
      rw [hu] at e
      obtain ⟨e1, e2⟩ := List.cons.inj e
      obtain ⟨rfl, e3⟩ := Prod.mk.inj e1
      clear e e1 e2 e3
      refine ⟨.ref r, rfl, .ref h, rfl, .ref th, rfl, h, th, p, qr, rfl, okp, okq, Rh10.mono s11, Rt10.mono s11, fun H12 s12 => ⟨rfl, _, rfl, ite2 (fun z => ?_) (fun _ => ?_)⟩⟩
      · exact absurd z (by rw [dec_bl, hal]; simp)
      have s1012 := s11.trans s12
      have Rh12 := Rh10.mono s1012
      have Rt12 := Rt10.mono s1012
      have hb12 := hb10.same s1012
      have hr12 := s12 _ _ hr11
      have nrb : r ≠ b := by
        obtain ⟨_, _, _, _, _, e⟩ := hb12
        exact ne_of hr12 e (by intro z; cases z)
      refine ⟨.ref r, rfl, _, rfl, iteT ?_⟩
      refine ⟨.ref b, rfl, b, 6, rfl, by decide, hb12, fun a1 H13 hl1 kp13 hb13 => ⟨.ref b, rfl, b, 6, rfl, by decide, hb13, fun a2 H14 hl2 kp14 hb14 => ⟨(by show 2 ≤ sizeLine; decide), fun PD nPD => ?_⟩⟩⟩
      have kk := kp13.trans kp14
      have sPD := same_new (o := HO.lst [V.str (enc a1), .str (enc a2)]) nPD
      have hrP := sPD _ _ (kk _ _ nrb hr12)
      have RhP := (Rh12.keep hb12 kk).mono sPD
      have RtP := (Rt12.keep hb12 kk).mono sPD
      have hbP := hb14.same sPD
      have tl12 := tl_le okp okq
      have fl : ∀ u v : List Bool, u.length ≤ 100 → v.length ≤ 100 → (enc u).length + (enc v).length ≤ sizeLine := fun u v h1 h2 => by
        rw [enc_len, enc_len]
        exact Nat.le_of_lt (small1000 (by omega))
      have fl2 : (enc a1 ++ enc t).length + (enc a2).length ≤ sizeLine := by
        rw [enc_append]
        exact fl _ _ (by rw [List.length_append]; omega) (by omega)
      refine ⟨.ref PD, rfl, PD, _, 0, _, rfl, rfl, SqL.of upd_same, atI_nat (j := 0) rfl, .ref r, rfl, r, _, 0, _, rfl, rfl, SqT.of hrP, atI_nat (j := 0) rfl, enc a1, enc t, rfl, rfl, fl _ _ (by omega) (by omega),
        .ref PD, rfl, PD, _, 1, _, rfl, rfl, SqL.of upd_same, atI_nat (j := 1) rfl, enc a1 ++ enc t, enc a2, rfl, rfl, fl2, .ref r, rfl, r, _, 1, _, rfl, rfl, SqT.of hrP, atI_nat (j := 1) rfl, _, _, rfl, rfl, _, _, rfl, ?_⟩
      have hlw : (a1 ++ t ++ a2).length ≤ 60 := by
        rw [List.length_append, List.length_append]
        omega
      refine ⟨_, rfl, .ref h, rfl, _, rfl, h, p, a1 ++ t ++ a2, (show [V.ref h, V.str (enc a1 ++ enc t ++ enc a2)] = [V.ref h, V.str (enc (a1 ++ t ++ a2))] by rw [enc_append, enc_append]), okp, RhP, hlw, fun A1 n1s H15 s15 hA1 hm1 => ?_⟩
      refine ⟨A1, _, rfl, .inr (SqT.of hA1), rfl, flat_ints _, ?_⟩
      refine ⟨_, rfl, .ref th, rfl, _, rfl, th, qr, a1 ++ t ++ a2, (show [V.ref th, V.str (enc a1 ++ enc t ++ enc a2)] = [V.ref th, V.str (enc (a1 ++ t ++ a2))] by rw [enc_append, enc_append]), okq, RtP.mono s15, hlw, fun A2 n2s H16 s16 hA2 hm2 => ?_⟩
      refine ⟨A2, _, rfl, .inr (SqT.of hA2), rfl, flat_ints _, rfl, _, rfl, ite2 (fun z => ?_) (fun _ => ?_)⟩
      · exfalso
        have z2 : inV (.int ((ah p qr : Int) + 6)) (n1s.map V.int) = inV (.int ((ah p qr : Int) + 6)) (n2s.map V.int) := V.bl.inj (of_decide_eq_true z)
        rw [inV_ints, inV_ints] at z2
        have hpl : ((ah p qr : Int) + 6) = ((ah p qr + a1.length : Nat) : Int) := by
          rw [hl1]
          rfl
        rw [hpl] at z2
        have fp := fits_left (q := qr) okp
        have fq := fits_right (p := p) okq
        rw [← htl] at fp fq
        have w1 := (hm1 (ah p qr + a1.length)).trans (told_wide okp (a := a1) (b := t) (c := a2) fp)
        have w2 := (hm2 (ah p qr + a1.length)).trans (told_wide okq (a := a1) (b := t) (c := a2) fq)
        have w3 := decide_eq_decide.mp z2
        apply hne
        rw [Bool.eq_iff_iff]
        exact w1.symm.trans (w3.trans w2)
      · have sE := (sPD.trans s15).trans s16
        exact ⟨same_keep sm3 nb0 (((K10.trans (.of s1012)).trans kk).trans (.of sE)), hb14.same sE, _, _, _, _, _, _, _, _, _, rfl⟩
end
end Wp
/-! The head's facts as the structure Txt; the law. Printed by gen_end.py. -/
namespace Wp
open PySem PySem.Spec PyProof.Rows L2
section
variable {K : PySem.W.Frag} {h : Heap} {mg : Str → Option Value}
theorem gdOf {x : Str} {st : Stmt} (X : K.In h) (G : h.Ns mainGlobals mg) (c : He5.SaysA fa fn K) (i j : Nat) (hi : fn[i]? = some (gl x st)) (hj : fa[j]? = some (.glo x)) : Nonempty (Gd K mg x st []) := by
  obtain ⟨fd, F⟩ := c.def_ i hi
  exact ⟨⟨He.ga K x, fd, F, He.glo_ok X G (c.fact j hj)⟩⟩
theorem gdOfD {x : Str} {st : Stmt} (X : K.In h) (G : h.Ns mainGlobals mg) (c : He5.SaysA fa fn K) (i j : Nat) (hi : fn[i]? = some (gd x st)) (hj : fa[j]? = some (.glo x)) : Nonempty (Gd K mg x st [.ref (loA x K)]) := by
  obtain ⟨fd, F⟩ := c.def_ i hi
  exact ⟨⟨He.ga K x, fd, F, He.glo_ok X G (c.fact j hj)⟩⟩
theorem mdOf {m q : Str} {st : Stmt} (c : He5.SaysA fa fn K) (i : Nat) (hi : fn[i]? = some (mt m q st)) : ∃ d : Md K m q st, d.f = He.ma K (cR K) m := by
  obtain ⟨fd, F⟩ := c.def_ i hi
  exact ⟨⟨He.ma K (cR K) m, fd, F⟩, rfl⟩
theorem pdOf {m q : Str} {st : Stmt} (c : He5.SaysA fa fn K) (i : Nat) (hi : fn[i]? = some (pr m q st)) : ∃ d : Md K m q st, d.f = gtA m K := by
  obtain ⟨fd, F⟩ := c.def_ i hi
  exact ⟨⟨gtA m K, fd, F⟩, rfl⟩
theorem txtMk (X : K.In h) (G : h.Ns mainGlobals mg) (e : obsW K = valW) : Nonempty (Txt K mg) := by
  have c : He5.SaysA fa fn K := congrArg (fun z : He.AlD × Bool => z.1) e
  have e2 : moreB K = true := congrArg (fun z : He.AlD × Bool => z.2) e
  obtain ⟨m1, e2⟩ := He.ba e2
  obtain ⟨m2, e2⟩ := He.ba e2
  obtain ⟨m3, e2⟩ := He.ba e2
  obtain ⟨m4, e2⟩ := He.ba e2
  obtain ⟨m5, e2⟩ := He.ba e2
  obtain ⟨m6, e2⟩ := He.ba e2
  obtain ⟨m7, m8⟩ := He.ba e2
  obtain ⟨xIsInteger⟩ := gdOf (x := "is_integer") (st := sIsInteger) X G c 0 8 rfl rfl
  obtain ⟨xIsSequence⟩ := gdOf (x := "is_sequence") (st := sIsSequence) X G c 1 9 rfl rfl
  obtain ⟨xAlphabet⟩ := gdOf (x := "alphabet") (st := sAlphabet) X G c 2 10 rfl rfl
  obtain ⟨xTextsOf⟩ := gdOf (x := "texts_of") (st := sTextsOf) X G c 3 11 rfl rfl
  obtain ⟨xPower⟩ := gdOf (x := "power") (st := sPower) X G c 4 12 rfl rfl
  obtain ⟨xWrongAt⟩ := gdOf (x := "wrong_at") (st := sWrongAt) X G c 5 13 rfl rfl
  obtain ⟨xNeedLetters⟩ := gdOf (x := "need_letters") (st := sNeedLetters) X G c 6 14 rfl rfl
  obtain ⟨xValueOf⟩ := gdOf (x := "value_of") (st := sValueOf) X G c 7 15 rfl rfl
  obtain ⟨xNeedLot⟩ := gdOf (x := "need_lot") (st := sNeedLot) X G c 8 16 rfl rfl
  obtain ⟨xPlacesOf⟩ := gdOf (x := "places_of") (st := sPlacesOf) X G c 9 17 rfl rfl
  obtain ⟨xPicks⟩ := gdOf (x := "picks") (st := sPicks) X G c 10 18 rfl rfl
  obtain ⟨xStatus⟩ := gdOf (x := "status") (st := sStatus) X G c 11 19 rfl rfl
  obtain ⟨xSides⟩ := gdOf (x := "sides") (st := sSides) X G c 12 20 rfl rfl
  obtain ⟨xAround⟩ := gdOf (x := "around") (st := sAround) X G c 13 21 rfl rfl
  obtain ⟨xUnlike⟩ := gdOf (x := "unlike_texts") (st := sUnlike) X G c 14 22 rfl rfl
  obtain ⟨xParting⟩ := gdOf (x := "parting") (st := sParting) X G c 15 23 rfl rfl
  obtain ⟨xAlike⟩ := gdOf (x := "alike") (st := sAlike) X G c 16 24 rfl rfl
  obtain ⟨xNoMore⟩ := gdOf (x := "no_more") (st := sNoMore) X G c 17 25 rfl rfl
  obtain ⟨xNeedSizes⟩ := gdOf (x := "need_sizes") (st := sNeedSizes) X G c 18 26 rfl rfl
  obtain ⟨xIsTable⟩ := gdOf (x := "is_table") (st := sIsTable) X G c 19 27 rfl rfl
  obtain ⟨xInit, yInit⟩ := mdOf (m := "__init__") (q := "Rule.__init__") (st := sInit) c 20 rfl
  obtain ⟨xSize, ySize⟩ := pdOf (m := "size") (q := "Rule.size") (st := sSize) c 21 rfl
  obtain ⟨xOffsetOf, yOffsetOf⟩ := mdOf (m := "offset_of") (q := "Rule.offset_of") (st := sOffsetOf) c 22 rfl
  obtain ⟨xTurned, yTurned⟩ := pdOf (m := "turned") (q := "Rule.turned") (st := sTurned) c 23 rfl
  obtain ⟨xEvenShare⟩ := gdOf (x := "even_share") (st := sEvenShare) X G c 24 28 rfl rfl
  obtain ⟨xShare⟩ := gdOf (x := "share") (st := sShare) X G c 25 29 rfl rfl
  obtain ⟨xHasPiece⟩ := gdOf (x := "has_piece") (st := sHasPiece) X G c 26 30 rfl rfl
  obtain ⟨xGainsBy⟩ := gdOf (x := "gains_by") (st := sGainsBy) X G c 27 31 rfl rfl
  obtain ⟨xLifted⟩ := gdOf (x := "lifted") (st := sLifted) X G c 28 32 rfl rfl
  obtain ⟨xRingBehind⟩ := gdOf (x := "ring_behind") (st := sRingBehind) X G c 29 33 rfl rfl
  obtain ⟨xWeighed⟩ := gdOf (x := "weighed") (st := sWeighed) X G c 30 34 rfl rfl
  obtain ⟨xStandings⟩ := gdOf (x := "standings") (st := sStandings) X G c 31 38 rfl rfl
  obtain ⟨xFeed⟩ := gdOf (x := "_law_feed") (st := sFeed) X G c 32 39 rfl rfl
  obtain ⟨xTake⟩ := gdOf (x := "_law_take") (st := sTake) X G c 33 40 rfl rfl
  obtain ⟨xOneOf⟩ := gdOf (x := "_law_one_of") (st := sOneOf) X G c 34 41 rfl rfl
  obtain ⟨xMixed⟩ := gdOf (x := "_law_mixed") (st := sMixed) X G c 35 42 rfl rfl
  obtain ⟨xLTexts⟩ := gdOf (x := "_law_texts") (st := sLTexts) X G c 36 43 rfl rfl
  obtain ⟨xLText⟩ := gdOf (x := "_law_text") (st := sLText) X G c 37 44 rfl rfl
  obtain ⟨xByOrder⟩ := gdOf (x := "_law_by_order") (st := sByOrder) X G c 38 45 rfl rfl
  obtain ⟨xDrawn⟩ := gdOf (x := "_law_drawn") (st := sDrawn) X G c 39 46 rfl rfl
  obtain ⟨xMade⟩ := gdOf (x := "_law_made") (st := sMade) X G c 40 47 rfl rfl
  obtain ⟨xLess⟩ := gdOf (x := "_law_less") (st := sLess) X G c 41 48 rfl rfl
  obtain ⟨xNear⟩ := gdOf (x := "_law_near") (st := sNear) X G c 42 49 rfl rfl
  obtain ⟨xShares⟩ := gdOf (x := "_law_shares_right") (st := sShares) X G c 43 50 rfl rfl
  obtain ⟨xLaw⟩ := gdOf (x := "law") (st := sLaw) X G c 44 51 rfl rfl
  obtain ⟨xRing⟩ := gdOfD (x := "ring") (st := sRing) X G c 45 35 rfl rfl
  obtain ⟨xGreatest⟩ := gdOfD (x := "greatest_share") (st := sGreatest) X G c 46 36 rfl rfl
  obtain ⟨xLeast⟩ := gdOfD (x := "least_share") (st := sLeast) X G c 47 37 rfl rfl
  refine ⟨{
    dIsInteger := xIsInteger
    dIsSequence := xIsSequence
    dAlphabet := xAlphabet
    dTextsOf := xTextsOf
    dPower := xPower
    dWrongAt := xWrongAt
    dNeedLetters := xNeedLetters
    dValueOf := xValueOf
    dNeedLot := xNeedLot
    dPlacesOf := xPlacesOf
    dPicks := xPicks
    dStatus := xStatus
    dSides := xSides
    dAround := xAround
    dUnlike := xUnlike
    dParting := xParting
    dAlike := xAlike
    dNoMore := xNoMore
    dNeedSizes := xNeedSizes
    dIsTable := xIsTable
    dInit := xInit
    dSize := xSize
    dOffsetOf := xOffsetOf
    dTurned := xTurned
    dEvenShare := xEvenShare
    dShare := xShare
    dHasPiece := xHasPiece
    dGainsBy := xGainsBy
    dLifted := xLifted
    dRingBehind := xRingBehind
    dWeighed := xWeighed
    dStandings := xStandings
    dFeed := xFeed
    dTake := xTake
    dOneOf := xOneOf
    dMixed := xMixed
    dLTexts := xLTexts
    dLText := xLText
    dByOrder := xByOrder
    dDrawn := xDrawn
    dMade := xMade
    dLess := xLess
    dNear := xNear
    dShares := xShares
    dLaw := xLaw
    dRing := xRing
    dGreatest := xGreatest
    dLeast := xLeast
    lotR := loA "ring" K
    lotG := loA "greatest_share" K
    lotL := loA "least_share" K
    hG := tupA_ok m3
    hL := tupA_ok m4
    C := cR K
    cl := He.cls_ok (c.fact 1 (f := .cls "Rule") rfl)
    nL := He.noat_ok (c.fact 2 (f := .noat "Rule" "letters") rfl)
    nW := He.noat_ok (c.fact 3 (f := .noat "Rule" "w") rfl)
    nK := He.noat_ok (c.fact 4 (f := .noat "Rule" "k") rfl)
    nT := He.noat_ok (c.fact 5 (f := .noat "Rule" "table") rfl)
    gC := He.glo_ok X G (c.fact 52 (f := .glo "Rule") rfl)
    mkC := by rw [yInit]; exact He.mkr_ok (c.fact 7 (f := .mkr "Rule") rfl)
    mOff := by rw [yOffsetOf]; exact He.meth_ok (c.fact 6 (f := .meth "Rule" "offset_of") rfl)
    pS := prA K "size"
    prS := by rw [ySize]; exact propB_ok m1
    pT := prA K "turned"
    prT := by rw [yTurned]; exact propB_ok m2
    abcd := He.str_ok X G (c.fact 0 (f := .str "ALL_LETTERS" "abcd") rfl)
    aS := He.ga K "SIZES"
    a0 := itA "SIZES" 0 K
    a1 := itA "SIZES" 1 K
    a2 := itA "SIZES" 2 K
    gS := He.glo_ok X G (c.fact 53 (f := .glo "SIZES") rfl)
    sS := tupA_ok m5
    s0 := tupA_ok m6
    s1 := tupA_ok m7
    s2 := tupA_ok m8
    n_isinstance := He.free_ok X G (c.fact 54 (f := .free "isinstance") rfl)
    n_int := He.free_ok X G (c.fact 55 (f := .free "int") rfl)
    n_bool := He.free_ok X G (c.fact 56 (f := .free "bool") rfl)
    n_str := He.free_ok X G (c.fact 57 (f := .free "str") rfl)
    n_list := He.free_ok X G (c.fact 58 (f := .free "list") rfl)
    n_tuple := He.free_ok X G (c.fact 59 (f := .free "tuple") rfl)
    n_dict := He.free_ok X G (c.fact 60 (f := .free "dict") rfl)
    n_range := He.free_ok X G (c.fact 61 (f := .free "range") rfl)
    n_enumerate := He.free_ok X G (c.fact 62 (f := .free "enumerate") rfl)
    n_len := He.free_ok X G (c.fact 63 (f := .free "len") rfl)
    n_all := He.free_ok X G (c.fact 64 (f := .free "all") rfl)
    n_any := He.free_ok X G (c.fact 65 (f := .free "any") rfl)
    n_zip := He.free_ok X G (c.fact 66 (f := .free "zip") rfl)
    n_abs := He.free_ok X G (c.fact 67 (f := .free "abs") rfl)
    n_max := He.free_ok X G (c.fact 68 (f := .free "max") rfl)
    n_min := He.free_ok X G (c.fact 69 (f := .free "min") rfl)
    n_sorted := He.free_ok X G (c.fact 70 (f := .free "sorted") rfl)
    }⟩
theorem facts {P : Program} {w : World} {f : Addr} (X : K.In h) (G : h.Ns mainGlobals mg) (hfa : mg ("law" : Str) = some (.ref f)) (c : obsW K = valW) :
    ∃ fd : FuncData, (∀ (s : Shared) (v : Value), BindsTo s fd ⟨[v], []⟩ [("_law_script", v)]) ∧ ∀ base : Heap, K.In base → base.Ns mainGlobals mg → FnOk P w K mg base CX0 10 f fd ["_law_script"] (spLaw K) := by
  obtain ⟨T⟩ := txtMk X G c
  have e := hfa.symm.trans T.dLaw.g
  have e2 : f = T.dLaw.f := by
    injection e with e
    injection e
  subst e2
  have b := FunD.bindsA (ps := ["_law_script"]) T.dLaw.F fun _ _ _ _ _ _ us hl => match us, hl with | [_], _ => rfl
  exact ⟨T.dLaw.fd, fun s v => b s [v] rfl, fun base _ _ => okLaw T⟩
end
end Wp
open PySem PySem.W PySem.Calls PyProof.Rows
theorem PySem.Challenge.cw_windowpicks_k96_whole_rules_compared_and_holds : PySem.Challenge.rw_windowpicks_k96_whole_rules_compared_and.Holds := by
  w_on; o_law
  refine HandSHeadRun.head_any (r := OpenLaw.row PySem.Challenge.rw_windowpicks_k96_whole_rules_compared_and) (q := view (OpenLaw.row PySem.Challenge.rw_windowpicks_k96_whole_rules_compared_and).prog [63]) (H := Wp.hk) (ob := Wp.ob) (M := 6000) (loose := Wp.loose)
    (d := HandSHeadRun.topDef (OpenLaw.row PySem.Challenge.rw_windowpicks_k96_whole_rules_compared_and).prog 63) (kwd := []) Wp.ob_eq (by kernel_rfl) (fun s => by kernel_rfl) Wp.run (by kernel_rfl) (by kernel_rfl) (by kernel_rfl) (by rfl)
    (by first | assumption | decide +kernel) (by decide +kernel) ⟨rfl, rfl, rfl, rfl, rfl, by decide +kernel⟩ ?hw ?hc
  case hw => w_witness2
  case hc =>
    refine L2.walk_ofE (l := PySem.Challenge.rw_windowpicks_k96_whole_rules_compared_and) (n := 63) (k := 10) (x := "_law_script") (CX := L2.CX0) rfl (by decide) (by kernel_rfl) ⟨rfl, by decide, by decide⟩ ?F (fun _ _ _ _ z => z)
    intro w mg fa h Y G hmg0
    obtain ⟨K, KX, c⟩ := Y
    have hmg : mg ("law" : PySem.Str) = some (.ref fa) := by
      have e : (HandSHeadRun.topDef (OpenLaw.row PySem.Challenge.rw_windowpicks_k96_whole_rules_compared_and).prog 63).name = ("law" : PySem.Str) := by kernel_rfl
      rw [← e]
      exact hmg0
    obtain ⟨fd, hb, hF⟩ := Wp.facts (P := (PySem.Challenge.rw_windowpicks_k96_whole_rules_compared_and).prog) (w := w) KX G hmg c
    exact ⟨K, fd, Wp.spLaw K, KX, hb, fun H a ns hl _ hS => ⟨a, ns, rfl, hS, fun _ => rfl⟩, hF⟩
